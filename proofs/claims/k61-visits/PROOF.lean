import PyProof.Rows.All
import HandS.ForMost
import HandS.ForExc
import HandS.Defaults
import HandS.TryMany
import HandS.ExcCtx
import HandS.HotCalls
import HandS.IsInst
import HandS.TupAny
import HandS.TupLe
import HandS.Style
import KE.KExcSuper
import KE.KSuper
import HandS.ExcSuper
import HandS.ExcInit
import HandS.ExcField
import HandS.ExcIs
import KE.KExcIs
import HandS.Words
import HandS.Head0
import HandS.Head1
import HandS.Head2
import HandS.HeadEnd
import HandS.HeadHook1
import HandS.HeadHook2
import HandS.EndBits
import KE.DataEq
import Wide.All
import OpenK.AllK
import Wide.FinOn
import PySem.Challenge.RW_roundsfare_k61_visits_and_late_runs
set_option Elab.async false
set_option linter.all false
set_option maxRecDepth 100000
set_option maxHeartbeats 4000000
/-! THE C LAYER, core: values with tuples by value, the store of mutable objects by address, readings as predicate transformers, their tie to the readings of HandS. -/
namespace CL
open PySem PySem.Spec PyProof.Rows L2

abbrev St := L2.St
abbrev Takes (X : Cx) (W : WX) : Prop := L2N.Takes X W
theorem takes0 {X : Cx} : Takes X (fun _ _ _ _ => False) := fun _ _ ⟨_, _, _, _, _, _, _, _, _, _, _, _, _, _, _, _, z⟩ => z.elim
/-- a value: tuples by value; an object that may change, a class or a def by its address -/
inductive D where
  | non | bl (b : Bool) | int (i : Int) | str (x : Str) | tup (ds : List D) | ref (a : Addr) | ty (n : String)

mutual
def Rl (K : PySem.W.Frag) (H : Hp) : D → V → Prop
  | .non, v => v = .non
  | .bl b, v => v = .bl b
  | .int i, v => v = .int i
  | .str x, v => v = .str x ∧ PyData.strOk x = true
  | .ref a, v => v = .ref a
  | .ty n, v => v = .ty n
  | .tup ds, v => ∃ a vs, v = .ref a ∧ SqT K H a vs ∧ RlL K H ds vs
def RlL (K : PySem.W.Frag) (H : Hp) : List D → List V → Prop
  | [], vs => vs = []
  | d :: ds, vs => ∃ v r, vs = v :: r ∧ Rl K H d v ∧ RlL K H ds r
end

/-- what stands at an address -/
inductive MO where
  | lst (ds : List D)
  | rdl (ds : List D)
  | dK (kvs : List (Key × D))
  | dT (kvs : List (List Key × D))
  | ins (C : Addr) (fs : List (Str × D))
  | xd (fs : List (Str × D))
abbrev Mm := Addr → Option MO
def put (M : Mm) (a : Addr) (o : MO) : Mm := fun b => if b = a then some o else M b
theorem put_same {M : Mm} {a : Addr} {o : MO} : put M a o a = some o := if_pos rfl
theorem put_ne {M : Mm} {a b : Addr} {o : MO} (h : b ≠ a) : put M a o b = M b := if_neg h
theorem put_put {M : Mm} {a : Addr} {o u : MO} : put (put M a o) a u = put M a u := by
  funext b; unfold put; split <;> rfl

abbrev Env := List (Option D)
abbrev CK := D → Mm → Prop
abbrev CX := Addr → Option Addr → Mm → Prop
abbrev CR := Env → Mm → CK → CX → Prop
abbrev CTst := Env → Mm → (Bool → Mm → Prop) → CX → Prop
abbrev CA := Env → Mm → (List D → Mm → Prop) → CX → Prop
structure CEnds where
  nx : Env → Mm → Prop
  rt : CK
  xc : Addr → Option Addr → Env → Mm → Prop
abbrev CS := CEnds → Env → Mm → Prop
abbrev CG := D → Env → Mm → (Env → Mm → Prop) → CX → Prop

/-- pairs with values related -/
def KvR {κ : Type} (K : PySem.W.Frag) (H : Hp) : List (κ × D) → List (κ × V) → Prop := Paired fun p q => p.1 = q.1 ∧ Rl K H p.2 q.2
def OR (K : PySem.W.Frag) (H : Hp) (a : Addr) : MO → Prop
  | .lst ds => ∃ vs, H a = some (.lst vs) ∧ RlL K H ds vs
  | .rdl ds => ∃ vs, Rd H a (.lst vs) ∧ RlL K H ds vs
  | .dK kvs => ∃ ws, H a = some (.dK ws) ∧ KvR K H kvs ws
  | .dT kvs => ∃ ws, H a = some (.dT ws) ∧ KvR K H kvs ws
  | .ins C fs => ∃ dx ws, H a = some (.ins C dx ws) ∧ KvR K H fs ws
  | .xd fs => ∃ ws, H a = some (.xd ws) ∧ KvR K H fs ws
structure HX (K : PySem.W.Frag) (H H' : Hp) : Prop where
  tup : ∀ a xs, SqT K H a xs → SqT K H' a xs
def HR (K : PySem.W.Frag) (M : Mm) (H : Hp) : Prop := ∀ a o, M a = some o → OR K H a o
def Sl (K : PySem.W.Frag) (H : Hp) (ρ : Env) (σ : St) : Prop := ρ.length = σ.length ∧ ∀ (i : Nat) (d : D), ρ[i]? = some (some d) → ∃ v, σ[i]? = some (some v) ∧ Rl K H d v

section
variable {K : PySem.W.Frag} {H H' H1 H2 : Hp}
theorem HX.refl : HX K H H := ⟨fun _ _ h => h⟩
theorem HX.trans (a : HX K H H1) (b : HX K H1 H2) : HX K H H2 := ⟨fun x xs h => b.tup x xs (a.tup x xs h)⟩
mutual
theorem Rl.mono (e : HX K H H') : ∀ {d : D} {v : V}, Rl K H d v → Rl K H' d v
  | .non, _, h => by simpa only [Rl] using h
  | .bl _, _, h => by simpa only [Rl] using h
  | .int _, _, h => by simpa only [Rl] using h
  | .str _, _, h => by simpa only [Rl] using h
  | .ref _, _, h => by simpa only [Rl] using h
  | .ty _, _, h => by simpa only [Rl] using h
  | .tup ds, v, h => by
    simp only [Rl] at h ⊢
    obtain ⟨a, vs, e1, s, r⟩ := h
    exact ⟨a, vs, e1, e.tup a vs s, RlL.mono e r⟩
theorem RlL.mono (e : HX K H H') : ∀ {ds : List D} {vs : List V}, RlL K H ds vs → RlL K H' ds vs
  | [], _, h => by simpa only [RlL] using h
  | d :: ds, vs, h => by
    simp only [RlL] at h ⊢
    obtain ⟨v, r, e1, h1, h2⟩ := h
    exact ⟨v, r, e1, Rl.mono e h1, RlL.mono e h2⟩
end
theorem RlL.length : ∀ {ds : List D} {vs : List V}, RlL K H ds vs → ds.length = vs.length
  | [], vs, h => by simp only [RlL] at h; subst h; rfl
  | d :: ds, vs, h => by
    simp only [RlL] at h
    obtain ⟨v, r, rfl, _, h2⟩ := h
    simp [RlL.length h2]
theorem RlL.get : ∀ {ds : List D} {vs : List V} {i : Nat} {d : D}, RlL K H ds vs → ds[i]? = some d → ∃ v, vs[i]? = some v ∧ Rl K H d v
  | [], vs, i, d, h, e => by simp at e
  | d :: ds, vs, i, d', h, e => by
    simp only [RlL] at h
    obtain ⟨v, r, rfl, h1, h2⟩ := h
    cases i with
    | zero => simp at e; subst e; exact ⟨v, rfl, h1⟩
    | succ i => simpa using RlL.get h2 (by simpa using e)
theorem RlL.append : ∀ {ds es : List D} {vs ws : List V}, RlL K H ds vs → RlL K H es ws → RlL K H (ds ++ es) (vs ++ ws)
  | [], es, vs, ws, h, h' => by simp only [RlL] at h; subst h; exact h'
  | d :: ds, es, vs, ws, h, h' => by
    simp only [RlL] at h
    obtain ⟨v, r, rfl, h1, h2⟩ := h
    show RlL K H (d :: (ds ++ es)) (v :: (r ++ ws))
    simp only [RlL]
    exact ⟨v, _, rfl, h1, RlL.append h2 h'⟩
theorem RlL.nil : RlL K H [] [] := by simp only [RlL]
theorem RlL.cons {d : D} {v : V} {ds : List D} {vs : List V} (h : Rl K H d v) (h' : RlL K H ds vs) : RlL K H (d :: ds) (v :: vs) := by simp only [RlL]; exact ⟨v, vs, rfl, h, h'⟩
theorem RlL.one {d : D} {vs : List V} (h : RlL K H [d] vs) : ∃ v, vs = [v] ∧ Rl K H d v := by
  simp only [RlL] at h
  obtain ⟨v, r, rfl, h1, rfl⟩ := h
  exact ⟨v, rfl, h1⟩
theorem RlL.two {d e : D} {vs : List V} (h : RlL K H [d, e] vs) : ∃ v w, vs = [v, w] ∧ Rl K H d v ∧ Rl K H e w := by
  simp only [RlL] at h
  obtain ⟨v, r, rfl, h1, w, r', rfl, h2, rfl⟩ := h
  exact ⟨v, w, rfl, h1, h2⟩
theorem KvR.mono {κ : Type} (e : HX K H H') {a : List (κ × D)} {b : List (κ × V)} (h : KvR K H a b) : KvR K H' a b := Paired.mapP h fun _ _ z => ⟨z.1, z.2.mono e⟩
theorem Sl.mono (e : HX K H H') {ρ : Env} {σ : St} (h : Sl K H ρ σ) : Sl K H' ρ σ := ⟨h.1, fun i d q => let ⟨v, e1, r⟩ := h.2 i d q; ⟨v, e1, r.mono e⟩⟩
theorem Sl.set {ρ : Env} {σ : St} {d : D} {v : V} (i : Nat) (h : Sl K H ρ σ) (r : Rl K H d v) : Sl K H (ρ.set i (some d)) (σ.set i (some v)) := by
  refine ⟨by simp [h.1], fun j e q => ?_⟩
  by_cases hj : i = j
  · subst hj
    rw [List.getElem?_set_self'] at q ⊢
    cases hρ : ρ[i]? with
    | none => rw [hρ] at q; simp at q
    | some o =>
      rw [hρ] at q
      simp at q
      subst q
      have hl : i < σ.length := by rw [← h.1]; exact (List.getElem?_eq_some_iff.mp hρ).1
      exact ⟨v, by rw [List.getElem?_eq_getElem hl]; rfl, r⟩
  · rw [List.getElem?_set_ne hj] at q ⊢
    exact h.2 j e q
end

/-! changes of the abstract heap: a new object, a changed one -/
section
variable {K : PySem.W.Frag} {H : Hp} {M : Mm}
theorem sqT_new {p : Addr} {o : HO} (hp : H p = none) : HX K H (upd H p o) := ⟨fun a xs h => by
  rcases h with (h | ⟨ob, h⟩) | h
  · exact .inl (.inl (by rw [upd_ne (ne_of_none h hp)]; exact h))
  · exact .inl (.inr ⟨ob, by rw [upd_ne (ne_of_none h hp)]; exact h⟩)
  · exact .inr h⟩
def isTF : HO → Bool
  | .tup _ => true
  | .frz _ _ => true
  | _ => false
theorem sqT_upd {p : Addr} {o u : HO} (hp : H p = some u) (hu : isTF u = false) : HX K H (upd H p o) := ⟨fun a xs h => by
  have ne : ∀ w, H a = some w → isTF w = true → a ≠ p := fun w q t z => by subst z; rw [q] at hp; cases hp; rw [t] at hu; cases hu
  rcases h with (h | ⟨ob, h⟩) | h
  · exact .inl (.inl (by rw [upd_ne (ne _ h rfl)]; exact h))
  · exact .inl (.inr ⟨ob, by rw [upd_ne (ne _ h rfl)]; exact h⟩)
  · exact .inr h⟩
theorem OR.some {a : Addr} {o : MO} (h : OR K H a o) : ∃ u, H a = some u := by
  cases o with
  | lst ds => obtain ⟨vs, e, _⟩ := h; exact ⟨_, e⟩
  | rdl ds =>
    obtain ⟨vs, e, _⟩ := h
    rcases e with e | ⟨ob, e⟩
    · exact ⟨_, e⟩
    · exact ⟨_, e⟩
  | dK kvs => obtain ⟨vs, e, _⟩ := h; exact ⟨_, e⟩
  | dT kvs => obtain ⟨vs, e, _⟩ := h; exact ⟨_, e⟩
  | ins C fs => obtain ⟨dx, vs, e, _⟩ := h; exact ⟨_, e⟩
  | xd fs => obtain ⟨vs, e, _⟩ := h; exact ⟨_, e⟩
theorem HR.free {p : Addr} (h : HR K M H) (hp : H p = none) : M p = none := by
  cases e : M p with
  | none => rfl
  | some o => obtain ⟨u, q⟩ := (h p o e).some; rw [hp] at q; cases q
theorem OR.keep {H' : Hp} {a : Addr} {o : MO} (h : OR K H a o) (e : HX K H H') (k : H' a = H a) : OR K H' a o := by
  cases o with
  | lst ds => obtain ⟨vs, q, r⟩ := h; exact ⟨vs, by rw [k]; exact q, r.mono e⟩
  | rdl ds =>
    obtain ⟨vs, q, r⟩ := h
    refine ⟨vs, ?_, r.mono e⟩
    rcases q with q | ⟨ob, q⟩
    · exact .inl (by rw [k]; exact q)
    · exact .inr ⟨ob, by rw [k]; exact q⟩
  | dK kvs => obtain ⟨vs, q, r⟩ := h; exact ⟨vs, by rw [k]; exact q, r.mono e⟩
  | dT kvs => obtain ⟨vs, q, r⟩ := h; exact ⟨vs, by rw [k]; exact q, r.mono e⟩
  | ins C fs => obtain ⟨dx, vs, q, r⟩ := h; exact ⟨dx, vs, by rw [k]; exact q, r.mono e⟩
  | xd fs => obtain ⟨vs, q, r⟩ := h; exact ⟨vs, by rw [k]; exact q, r.mono e⟩
/-- an object at p is laid or changed; the heap elsewhere stays -/
theorem HR.upd {p : Addr} {u : HO} {o : MO} (h : HR K M H) (e : HX K H (upd H p u)) (n : OR K (upd H p u) p o) : HR K (put M p o) (upd H p u) := fun a q z => by
  by_cases ha : a = p
  · subst ha; rw [put_same] at z; cases z; exact n
  · rw [put_ne ha] at z; exact (h a q z).keep e (upd_ne ha)
/-- an object that the store does not tell is laid at a free place -/
theorem HR.lay {p : Addr} {u : HO} (h : HR K M H) (hp : H p = none) : HR K M (L2.upd H p u) := fun a q z =>
  (h a q z).keep (sqT_new hp) (upd_ne fun e => by subst e; obtain ⟨w, k⟩ := (h a q z).some; rw [hp] at k; cases k)
theorem HR.lst {a : Addr} {ds : List D} (h : HR K M H) (e : M a = some (.lst ds)) : ∃ vs, H a = some (.lst vs) ∧ RlL K H ds vs := h a _ e
end

/-- M' has all that M has -/
def MX (M M' : Mm) : Prop := ∀ a o, M a = some o → M' a = some o
theorem MX.refl {M : Mm} : MX M M := fun _ _ h => h
theorem MX.trans {M M1 M2 : Mm} (a : MX M M1) (b : MX M1 M2) : MX M M2 := fun x o h => b x o (a x o h)
theorem MX.put {M : Mm} {p : Addr} {o : MO} (h : M p = none) : MX M (put M p o) := fun a q e => by
  rw [put_ne (fun z => by subst z; rw [h] at e; cases e)]; exact e
theorem MX.none {M M' : Mm} {p : Addr} (e : MX M M') (h : M' p = none) : M p = none := by
  cases q : M p with
  | none => rfl
  | some o => have := e p o q; rw [h] at this; cases this

/-! ### the ties -/
structure SimE (K : PySem.W.Frag) (W : WX) (t : TE) (c : CR) : Prop where
  run : ∀ {σ : St} {H : Hp} {ρ : Env} {M : Mm} {Q : CK} {E : CX} {Q' : VK}, Sl K H ρ σ → HR K M H → c ρ M Q E →
    (∀ v H' d M', HX K H H' → HR K M' H' → Rl K H' d v → Q d M' → Q' v H') →
    (∀ C dx H' M', HX K H H' → HR K M' H' → E C dx M' → W (.ref C) dx σ H') → t σ H Q'
structure SimT (K : PySem.W.Frag) (W : WX) (t : TT) (c : CTst) : Prop where
  run : ∀ {σ : St} {H : Hp} {ρ : Env} {M : Mm} {Q : Bool → Mm → Prop} {E : CX} {Q' : Bool → Hp → Prop}, Sl K H ρ σ → HR K M H → c ρ M Q E →
    (∀ b H' M', HX K H H' → HR K M' H' → Q b M' → Q' b H') →
    (∀ C dx H' M', HX K H H' → HR K M' H' → E C dx M' → W (.ref C) dx σ H') → t σ H Q'
structure SimA (K : PySem.W.Frag) (W : WX) (t : TA) (c : CA) : Prop where
  run : ∀ {σ : St} {H : Hp} {ρ : Env} {M : Mm} {Q : List D → Mm → Prop} {E : CX} {Q' : List V → Hp → Prop}, Sl K H ρ σ → HR K M H → c ρ M Q E →
    (∀ vs H' ds M', HX K H H' → HR K M' H' → RlL K H' ds vs → Q ds M' → Q' vs H') →
    (∀ C dx H' M', HX K H H' → HR K M' H' → E C dx M' → W (.ref C) dx σ H') → t σ H Q'
structure SimS (K : PySem.W.Frag) (W : WX) (t : TS) (c : CS) : Prop where
  run : ∀ {σ : St} {H : Hp} {ρ : Env} {M : Mm} {Dv : Ends} {Dc : CEnds}, Sl K H ρ σ → HR K M H → c Dc ρ M →
    (∀ σ' H' ρ' M', HX K H H' → HR K M' H' → Sl K H' ρ' σ' → Dc.nx ρ' M' → Dv.nx σ' H') →
    (∀ v H' d M', HX K H H' → HR K M' H' → Rl K H' d v → Dc.rt d M' → Dv.rt v H') →
    (∀ C dx σ' H' ρ' M', HX K H H' → HR K M' H' → Sl K H' ρ' σ' → Dc.xc C dx ρ' M' → W (.ref C) dx σ' H') → t Dv σ H
structure SimG (K : PySem.W.Frag) (W : WX) (t : TG) (c : CG) : Prop where
  run : ∀ {σ : St} {H : Hp} {ρ : Env} {M : Mm} {d : D} {v : V} {Q : Env → Mm → Prop} {E : CX} {Q' : St → Hp → Prop}, Sl K H ρ σ → HR K M H → Rl K H d v → c d ρ M Q E →
    (∀ σ' H' ρ' M', HX K H H' → HR K M' H' → Sl K H' ρ' σ' → Q ρ' M' → Q' σ' H') →
    (∀ C dx H' M', HX K H H' → HR K M' H' → E C dx M' → W (.ref C) dx σ H') → t v σ H Q'
def CE (X : Cx) (e : Expr) (c : CR) : Prop := ∀ W, Takes X W → ∃ t, PE X e t ∧ SimE X.K W t c
def CTt (X : Cx) (e : Expr) (c : CTst) : Prop := ∀ W, Takes X W → ∃ t, PT X e t ∧ SimT X.K W t c
def CWt (X : Cx) (e : Expr) (c : CTst) : Prop := ∀ W, Takes X W → ∃ t, PW X e t ∧ SimT X.K W t c
def CAs (X : Cx) (es : List Expr) (c : CA) : Prop := ∀ W, Takes X W → ∃ t, PA X es t ∧ SimA X.K W t c
def CSt (X : Cx) (s : Stmt) (c : CS) : Prop := ∀ W, Takes X W → ∃ t, PS X s t ∧ SimS X.K W t c
def CSs (X : Cx) (ss : List Stmt) (c : CS) : Prop := ∀ W, Takes X W → ∃ t, PSs X ss t ∧ SimS X.K W t c
def CGt (X : Cx) (e : Expr) (c : CG) : Prop := ∀ W, Takes X W → ∃ t, PG X e t ∧ SimG X.K W t c
end CL

/-! THE C LAYER: names, constants, operators, comparisons, tests, arguments, tuples, statements, calls, defs. -/
namespace CL
open PySem PySem.Spec PyProof.Rows L2
section
variable {K : PySem.W.Frag} {W : WX} {X : Cx}

/-! ### names, constants -/
def cVar (i : Nat) : CR := fun ρ M Q _ => match ρ[i]? with
  | some (some d) => Q d M
  | _ => False
def cC (d : D) : CR := fun _ M Q _ => Q d M
theorem simE_var {i : Nat} : SimE K W (tVar i) (cVar i) := ⟨fun {σ H ρ M Q E Q'} hs hr h hq _ => by
  unfold cVar at h
  split at h
  · rename_i d e
    obtain ⟨v, e1, r⟩ := hs.2 i d e
    exact ⟨v, e1, hq v H d M HX.refl hr r h⟩
  · exact h.elim⟩
theorem simE_const {d : D} {v : V} (r : ∀ H, Rl K H d v) : SimE K W (tC v) (cC d) := ⟨fun hs hr h hq _ => hq _ _ _ _ HX.refl hr (r _) h⟩
theorem ce_var {x : Str} {pos : Pos} (i : Nat) (hN : X.N[i]? = some x := by rfl) (hv : Vis X.env.scope x := by first | exact Or.inl rfl | exact Or.inr (Or.inl rfl) | exact Or.inr (Or.inr rfl))
    (hd : (x == ("__debug__" : Str)) = false := by decide) (hc : (x == ("__classdict__" : Str)) = false := by decide) : CE X (.Name x pos) (cVar i) := fun W _ => ⟨_, pe_var hN hv hd hc, simE_var⟩
theorem ce_int {i j pos} : CE X (.Constant (.int i) j pos) (cC (.int i)) := fun _ _ => ⟨_, pe_int, simE_const fun _ => by simp only [Rl]⟩
theorem ce_bl {b j pos} : CE X (.Constant (.bool b) j pos) (cC (.bl b)) := fun _ _ => ⟨_, pe_bl, simE_const fun _ => by simp only [Rl]⟩
theorem ce_non {j pos} : CE X (.Constant .none j pos) (cC .non) := fun _ _ => ⟨_, pe_non, simE_const fun _ => by simp only [Rl]⟩
theorem ce_str {x j pos} (h : PyData.strOk x = true := by decide +kernel) : CE X (.Constant (.str x) j pos) (cC (.str x)) := fun _ _ => ⟨_, pe_str, simE_const fun _ => by simp only [Rl, h, and_self]⟩
/-- a module's constant: an int, a text, a def, a class -/
theorem ce_glob {x : Str} {pos : Pos} {d : D} {v : V} {u : Value} (hg : Gl X x) (hm : X.mg x = some u) (ru : RelV v u) (rd : ∀ H, Rl X.K H d v) (hd : (x == ("__debug__" : Str)) = false := by decide) : CE X (.Name x pos) (cC d) :=
  fun _ _ => ⟨_, pe_glob hg hm ru hd, simE_const rd⟩

/-! ### two expressions in a row -/
abbrev C2 := D → D → Mm → CK → Prop
def c2 (ca cb : CR) (r : D → D → Mm → CK → Prop) : CR := fun ρ M Q E => ca ρ M (fun x M1 => cb ρ M1 (fun y M2 => r x y M2 Q) E) E
structure SimR (K : PySem.W.Frag) (r : R2) (c : C2) : Prop where
  run : ∀ {H : Hp} {M : Mm} {x y : V} {d e : D} {Q : CK} {Q' : VK}, HR K M H → Rl K H d x → Rl K H e y → c d e M Q →
    (∀ v H' d' M', HX K H H' → HR K M' H' → Rl K H' d' v → Q d' M' → Q' v H') → r x y H Q'
theorem simE_op {r : R2} {c : C2} {ta tb : TE} {ca cb : CR} (hr : SimR K r c) (ha : SimE K W ta ca) (hb : SimE K W tb cb) : SimE K W (tOp r ta tb) (c2 ca cb c) := ⟨fun hs hh h hq he => by
  refine ha.run hs hh h (fun v H1 d M1 x1 r1 rd h1 => ?_) he
  refine hb.run (hs.mono x1) r1 h1 (fun w H2 e M2 x2 r2 re h2 => ?_) fun C dx H' M' x3 r3 e3 => he C dx H' M' (x1.trans x3) r3 e3
  exact hr.run r2 (rd.mono x2) re h2 fun v H' d' M' x3 r3 rd' q => hq v H' d' M' ((x1.trans x2).trans x3) r3 rd' q⟩
theorem ce_op {op : Operator} {a b : Expr} {ca cb : CR} {r : R2} {c : C2} {pos : Pos} (ho : OpR X (binaryOp op) r) (hs : SimR X.K r c) (ha : CE X a ca) (hb : CE X b cb) : CE X (.BinOp a op b pos) (c2 ca cb c) := fun W tk => by
  obtain ⟨ta, pa, sa⟩ := ha W tk
  obtain ⟨tb, pb, sb⟩ := hb W tk
  exact ⟨_, pe_op ho pa pb, simE_op hs sa sb⟩
theorem ce_cmp {op : CmpOp} {a b : Expr} {ca cb : CR} {r : R2} {c : C2} {pos : Pos} (ho : OpR X (compareOp op) r) (hs : SimR X.K r c) (ha : CE X a ca) (hb : CE X b cb) (hm : behindInMarks op b = false) : CE X (.Compare a [op] [b] pos) (c2 ca cb c) := fun W tk => by
  obtain ⟨ta, pa, sa⟩ := ha W tk
  obtain ⟨tb, pb, sb⟩ := hb W tk
  exact ⟨_, pe_cmpR ho pa pb hm, simE_op hs sa sb⟩
/-- a test of a truth value -/
def cTest (c : CR) : CTst := fun ρ M Q E => c ρ M (fun d M1 => match d with
  | .bl b => Q b M1
  | _ => False) E
theorem simT_test {t : TE} {c : CR} (h : SimE K W t c) : SimT K W (tTest t) (cTest c) := ⟨fun hs hh hc hq he => h.run hs hh hc (fun v H' d M' x1 r1 rd q => by
  cases d with
  | bl b => simp only [Rl] at rd; exact ⟨b, rd, hq b H' M' x1 r1 q⟩
  | _ => exact q.elim) he⟩
theorem ct_cmp {op : CmpOp} {a b : Expr} {ca cb : CR} {r : R2} {c : C2} {pos : Pos} (ho : OpR X (compareOp op) r) (hs : SimR X.K r c) (ha : CE X a ca) (hb : CE X b cb) (hm : behindInMarks op b = false) : CTt X (.Compare a [op] [b] pos) (cTest (c2 ca cb c)) := fun W tk => by
  obtain ⟨ta, pa, sa⟩ := ha W tk
  obtain ⟨tb, pb, sb⟩ := hb W tk
  exact ⟨_, pt_cmpR ho pa pb hm, simT_test (simE_op hs sa sb)⟩
theorem simT_val {t : TE} {c : CR} (h : SimE K W t c) : SimT K W (tB t) (cTest c) := simT_test h
/-- an expression whose value is a truth value, as a test -/
theorem ct_val {e : Expr} {c : CR} (h : CE X e c) (he : ∀ whole, isTrue e X.env whole = (do let v ← whole; standAt e.pos; holding [v] (truthy v)) := by intro _; rfl) : CTt X e (cTest c) := fun W tk => by
  obtain ⟨t, p, s⟩ := h W tk
  exact ⟨_, pt_val p he, simT_val s⟩
/-! ### and, or, not -/
def cAnd (a b : CTst) : CTst := fun ρ M Q E => a ρ M (fun c M1 => if c = true then b ρ M1 Q E else Q false M1) E
def cOr (a b : CTst) : CTst := fun ρ M Q E => a ρ M (fun c M1 => if c = true then Q true M1 else b ρ M1 Q E) E
def cNot (a : CTst) : CTst := fun ρ M Q E => a ρ M (fun c M1 => Q (!c) M1) E
theorem simT_and {t u : TT} {a b : CTst} (ha : SimT K W t a) (hb : SimT K W u b) : SimT K W (tAnd t u) (cAnd a b) := ⟨fun hs hh hc hq he => ha.run hs hh hc (fun c H1 M1 x1 r1 q => by
  cases c with
  | true => exact hb.run (hs.mono x1) r1 q (fun b H' M' x2 r2 q2 => hq b H' M' (x1.trans x2) r2 q2) fun C dx H' M' x3 r3 e3 => he C dx H' M' (x1.trans x3) r3 e3
  | false => exact hq false H1 M1 x1 r1 q) he⟩
theorem simT_or {t u : TT} {a b : CTst} (ha : SimT K W t a) (hb : SimT K W u b) : SimT K W (tOr t u) (cOr a b) := ⟨fun hs hh hc hq he => ha.run hs hh hc (fun c H1 M1 x1 r1 q => by
  cases c with
  | false => exact hb.run (hs.mono x1) r1 q (fun b H' M' x2 r2 q2 => hq b H' M' (x1.trans x2) r2 q2) fun C dx H' M' x3 r3 e3 => he C dx H' M' (x1.trans x3) r3 e3
  | true => exact hq true H1 M1 x1 r1 q) he⟩
theorem simT_not {t : TT} {a : CTst} (ha : SimT K W t a) : SimT K W (tNot t) (cNot a) := ⟨fun hs hh hc hq he => ha.run hs hh hc (fun c H1 M1 x1 r1 q => hq _ H1 M1 x1 r1 q) he⟩
theorem cw_and1 {a : Expr} {ca : CTst} {pos : Pos} (ha : CTt X a ca) : CWt X (.BoolOp .And [a] pos) ca := fun W tk => by
  obtain ⟨t, p, s⟩ := ha W tk
  exact ⟨_, pw_and1 p, s⟩
theorem cw_or1 {a : Expr} {ca : CTst} {pos : Pos} (ha : CTt X a ca) : CWt X (.BoolOp .Or [a] pos) ca := fun W tk => by
  obtain ⟨t, p, s⟩ := ha W tk
  exact ⟨_, pw_or1 p, s⟩
theorem cw_and {a b : Expr} {rest : List Expr} {ca cb : CTst} {pos : Pos} (ha : CTt X a ca) (hb : CWt X (.BoolOp .And (b :: rest) pos) cb) : CWt X (.BoolOp .And (a :: b :: rest) pos) (cAnd ca cb) := fun W tk => by
  obtain ⟨t, p, s⟩ := ha W tk
  obtain ⟨t', p', s'⟩ := hb W tk
  exact ⟨_, pw_and p p', simT_and s s'⟩
theorem cw_or {a b : Expr} {rest : List Expr} {ca cb : CTst} {pos : Pos} (ha : CTt X a ca) (hb : CWt X (.BoolOp .Or (b :: rest) pos) cb) : CWt X (.BoolOp .Or (a :: b :: rest) pos) (cOr ca cb) := fun W tk => by
  obtain ⟨t, p, s⟩ := ha W tk
  obtain ⟨t', p', s'⟩ := hb W tk
  exact ⟨_, pw_or p p', simT_or s s'⟩
theorem CWt.t {e : Expr} {c : CTst} (h : CWt X e c) : CTt X e c := fun W tk => by
  obtain ⟨t, p, s⟩ := h W tk
  exact ⟨_, p.pt, s⟩
theorem ct_not {a : Expr} {ca : CTst} {pos : Pos} (ha : CTt X a ca) : CTt X (.UnaryOp .Not a pos) (cNot ca) := fun W tk => by
  obtain ⟨t, p, s⟩ := ha W tk
  exact ⟨_, pt_not p, simT_not s⟩
/-- .. as values -/
def cAndV (a b : CR) : CR := fun ρ M Q E => a ρ M (fun d M1 => match d with
  | .bl c => if c = true then b ρ M1 Q E else Q (.bl false) M1
  | _ => False) E
def cOrV (a b : CR) : CR := fun ρ M Q E => a ρ M (fun d M1 => match d with
  | .bl c => if c = true then Q (.bl true) M1 else b ρ M1 Q E
  | _ => False) E
def cNotV (a : CR) : CR := fun ρ M Q E => a ρ M (fun d M1 => match d with
  | .bl c => Q (.bl (!c)) M1
  | _ => False) E
theorem ce_one {op a pos} {c : CR} (h : CE X a c) : CE X (.BoolOp op [a] pos) c := fun W tk => by
  obtain ⟨t, p, s⟩ := h W tk
  exact ⟨_, pe_one p, s⟩
theorem ce_and {a b : Expr} {rest : List Expr} {ca cb : CR} {pos : Pos} (ha : CE X a ca) (hb : CE X (.BoolOp .And (b :: rest) pos) cb) : CE X (.BoolOp .And (a :: b :: rest) pos) (cAndV ca cb) := fun W tk => by
  obtain ⟨t, p, s⟩ := ha W tk
  obtain ⟨t', p', s'⟩ := hb W tk
  refine ⟨_, pe_and p p', ⟨fun hs hh hc hq he => s.run hs hh hc (fun v H1 d M1 x1 r1 rd q => ?_) he⟩⟩
  cases d with
  | bl c =>
    simp only [Rl] at rd
    refine ⟨c, rd, ?_⟩
    cases c with
    | true => exact s'.run (hs.mono x1) r1 q (fun v H' d M' x2 r2 rd q2 => hq v H' d M' (x1.trans x2) r2 rd q2) fun C dx H' M' x3 r3 e3 => he C dx H' M' (x1.trans x3) r3 e3
    | false => exact hq _ H1 _ M1 x1 r1 (by simp only [Rl]) q
  | _ => exact q.elim
theorem ce_or {a b : Expr} {rest : List Expr} {ca cb : CR} {pos : Pos} (ha : CE X a ca) (hb : CE X (.BoolOp .Or (b :: rest) pos) cb) : CE X (.BoolOp .Or (a :: b :: rest) pos) (cOrV ca cb) := fun W tk => by
  obtain ⟨t, p, s⟩ := ha W tk
  obtain ⟨t', p', s'⟩ := hb W tk
  refine ⟨_, pe_or p p', ⟨fun hs hh hc hq he => s.run hs hh hc (fun v H1 d M1 x1 r1 rd q => ?_) he⟩⟩
  cases d with
  | bl c =>
    simp only [Rl] at rd
    refine ⟨c, rd, ?_⟩
    cases c with
    | false => exact s'.run (hs.mono x1) r1 q (fun v H' d M' x2 r2 rd q2 => hq v H' d M' (x1.trans x2) r2 rd q2) fun C dx H' M' x3 r3 e3 => he C dx H' M' (x1.trans x3) r3 e3
    | true => exact hq _ H1 _ M1 x1 r1 (by simp only [Rl]) q
  | _ => exact q.elim
theorem ce_not {a : Expr} {ca : CR} {pos : Pos} (ha : CE X a ca) : CE X (.UnaryOp .Not a pos) (cNotV ca) := fun W tk => by
  obtain ⟨t, p, s⟩ := ha W tk
  refine ⟨_, pe_not p, ⟨fun hs hh hc hq he => s.run hs hh hc (fun v H1 d M1 x1 r1 rd q => ?_) he⟩⟩
  cases d with
  | bl c =>
    simp only [Rl] at rd
    exact ⟨c, rd, hq _ H1 _ M1 x1 r1 (by simp only [Rl]) q⟩
  | _ => exact q.elim
/-! ### arguments, tuples -/
def cNil : CA := fun _ M Q _ => Q [] M
def cCons (c : CR) (r : CA) : CA := fun ρ M Q E => c ρ M (fun d M1 => r ρ M1 (fun ds M2 => Q (d :: ds) M2) E) E
theorem ca_nil : CAs X [] cNil := fun _ _ => ⟨_, pa_nil, ⟨fun hs hh hc hq _ => hq [] _ [] _ HX.refl hh RlL.nil hc⟩⟩
theorem ca_cons {e : Expr} {es : List Expr} {c : CR} {r : CA} (h : CE X e c) (hr : CAs X es r) (hs : starEach (e :: es) X.env = (false, eval e X.env) :: starEach es X.env := by rfl) : CAs X (e :: es) (cCons c r) := fun W tk => by
  obtain ⟨t, p, s⟩ := h W tk
  obtain ⟨t', p', s'⟩ := hr W tk
  refine ⟨_, pa_cons p p' hs, ⟨fun hs hh hc hq he => s.run hs hh hc (fun v H1 d M1 x1 r1 rd q => ?_) he⟩⟩
  refine s'.run (hs.mono x1) r1 q (fun vs H2 ds M2 x2 r2 rds q2 => ?_) fun C dx H' M' x3 r3 e3 => he C dx H' M' (x1.trans x3) r3 e3
  exact hq _ H2 _ M2 (x1.trans x2) r2 (RlL.cons (rd.mono x2) rds) q2
def cTup (a : CA) : CR := fun ρ M Q E => a ρ M (fun ds M1 => ds.length ≤ sizeLine ∧ Q (.tup ds) M1) E
theorem Rl.tup_new {H : Hp} {p : Addr} {ds : List D} {vs : List V} (h : RlL K H ds vs) (hp : H p = none) : Rl K (upd H p (.tup vs)) (.tup ds) (.ref p) := by
  simp only [Rl]
  exact ⟨p, vs, rfl, SqT.of upd_same, RlL.mono (sqT_new hp) h⟩
theorem ce_tup {es : List Expr} {a : CA} {x1 pos} (h : CAs X es a) : CE X (.Tuple es x1 pos) (cTup a) := fun W tk => by
  obtain ⟨t, p, s⟩ := h W tk
  refine ⟨_, pe_tup p, ⟨fun hs hh hc hq he => s.run hs hh hc (fun vs H1 ds M1 x1 r1 rd q => ?_) he⟩⟩
  refine ⟨by rw [← rd.length]; exact q.1, fun p hp => ?_⟩
  exact hq _ _ _ _ (x1.trans (sqT_new hp)) (r1.lay hp) (Rl.tup_new rd hp) q.2
/-! ### statements -/
def cSkip : CS := fun Dc ρ M => Dc.nx ρ M
def cSeq (a b : CS) : CS := fun Dc ρ M => a { Dc with nx := b Dc } ρ M
def cRet (c : CR) : CS := fun Dc ρ M => c ρ M Dc.rt fun C dx M' => Dc.xc C dx ρ M'
def cRetN : CS := fun Dc _ M => Dc.rt .non M
def cIf (c : CTst) (a b : CS) : CS := fun Dc ρ M => c ρ M (fun k M1 => if k = true then a Dc ρ M1 else b Dc ρ M1) fun C dx M' => Dc.xc C dx ρ M'
def cDrop (c : CR) : CS := fun Dc ρ M => c ρ M (fun _ M1 => Dc.nx ρ M1) fun C dx M' => Dc.xc C dx ρ M'
def cSet (i : Nat) (c : CR) : CS := fun Dc ρ M => c ρ M (fun d M1 => Dc.nx (ρ.set i (some d)) M1) fun C dx M' => Dc.xc C dx ρ M'
def cAsg (c : CR) (g : CG) : CS := fun Dc ρ M => c ρ M (fun d M1 => g d ρ M1 Dc.nx fun C dx M' => Dc.xc C dx ρ M') fun C dx M' => Dc.xc C dx ρ M'
theorem css_nil : CSs X [] cSkip := fun _ _ => ⟨_, pss_nil, ⟨fun hs hh hc hn _ _ => hn _ _ _ _ HX.refl hh hs hc⟩⟩
theorem css_cons {s : Stmt} {r : List Stmt} {a b : CS} (h : CSt X s a) (hr : CSs X r b) : CSs X (s :: r) (cSeq a b) := fun W tk => by
  obtain ⟨t, p, sm⟩ := h W tk
  obtain ⟨t', p', sm'⟩ := hr W tk
  refine ⟨_, pss_cons p p', ⟨fun {σ H ρ M Dv Dc} hs hh hc hn hret hx => ?_⟩⟩
  refine sm.run (Dv := { Dv with nx := t' Dv }) (Dc := { Dc with nx := b Dc }) hs hh hc (fun σ1 H1 ρ1 M1 x1 r1 s1 q => ?_) hret hx
  exact sm'.run s1 r1 q (fun σ2 H2 ρ2 M2 x2 r2 s2 q2 => hn σ2 H2 ρ2 M2 (x1.trans x2) r2 s2 q2) (fun v H2 d M2 x2 r2 rd q2 => hret v H2 d M2 (x1.trans x2) r2 rd q2) fun C dx σ2 H2 ρ2 M2 x2 r2 s2 e2 => hx C dx σ2 H2 ρ2 M2 (x1.trans x2) r2 s2 e2
theorem css_one {s : Stmt} {a : CS} (h : CSt X s a) : CSs X [s] a := fun W tk => by
  obtain ⟨t, p, sm⟩ := h W tk
  exact ⟨_, pss_one p, sm⟩
theorem cs_pass {pos} : CSt X (.Pass pos) cSkip := fun _ _ => ⟨_, ps_pass, ⟨fun hs hh hc hn _ _ => hn _ _ _ _ HX.refl hh hs hc⟩⟩
theorem cs_ret {e : Expr} {c : CR} {pos} (h : CE X e c) : CSt X (.Return (some e) pos) (cRet c) := fun W tk => by
  obtain ⟨t, p, s⟩ := h W tk
  exact ⟨_, ps_ret p, ⟨fun hs hh hc _ hret hx => s.run hs hh hc (fun v H' d M' x r rd q => hret v H' d M' x r rd q) fun C dx H' M' x r e => hx C dx _ H' _ M' x r (hs.mono x) e⟩⟩
theorem cs_retN {pos} : CSt X (.Return none pos) cRetN := fun _ _ => ⟨_, ps_retN, ⟨fun hs hh hc _ hret _ => hret _ _ _ _ HX.refl hh (by simp only [Rl]) hc⟩⟩
theorem cs_if {e : Expr} {a b : List Stmt} {c : CTst} {ca cb : CS} {pos} (hc : CTt X e c) (ha : CSs X a ca) (hb : CSs X b cb) : CSt X (.If e a b pos) (cIf c ca cb) := fun W tk => by
  obtain ⟨t, p, s⟩ := hc W tk
  obtain ⟨ta, pa, sa⟩ := ha W tk
  obtain ⟨tb, pb, sb⟩ := hb W tk
  refine ⟨_, ps_if p pa pb, ⟨fun {σ H ρ M Dv Dc} hs hh hc hn hret hx => s.run hs hh hc (fun k H1 M1 x1 r1 q => ?_) fun C dx H' M' x r e => hx C dx _ H' _ M' x r (hs.mono x) e⟩⟩
  have fin : ∀ {t : TS} {cc : CS}, SimS X.K W t cc → cc Dc ρ M1 → t Dv σ H1 := fun sm q => sm.run (hs.mono x1) r1 q (fun σ2 H2 ρ2 M2 x2 r2 s2 q2 => hn σ2 H2 ρ2 M2 (x1.trans x2) r2 s2 q2) (fun v H2 d M2 x2 r2 rd q2 => hret v H2 d M2 (x1.trans x2) r2 rd q2) fun C dx σ2 H2 ρ2 M2 x2 r2 s2 e2 => hx C dx σ2 H2 ρ2 M2 (x1.trans x2) r2 s2 e2
  cases k with
  | true => exact fin sa q
  | false => exact fin sb q
theorem cs_expr {e : Expr} {c : CR} {pos : Pos} (h : CE X e c) (hs : swapsWith e none pos.line X.env = pure false := by rfl) : CSt X (.Expr e pos) (cDrop c) := fun W tk => by
  obtain ⟨t, p, s⟩ := h W tk
  exact ⟨_, ps_expr p hs, ⟨fun hs hh hc hn _ hx => s.run hs hh hc (fun v H' d M' x r rd q => hn _ H' _ M' x r (hs.mono x) q) fun C dx H' M' x r e => hx C dx _ H' _ M' x r (hs.mono x) e⟩⟩
theorem cs_asg {tg e : Expr} {c : CR} {g : CG} {pos : Pos} (h : CE X e c) (hg : CGt X tg g) (h1 : swapsWithSole [tg] e pos.line X.env = pure false := by rfl) (h2 : swappedStores [tg] e X.env = pure none := by rfl) (h3 : (assignEach [tg] X.env).map (·.2) = [assign tg X.env] := by rfl) :
    CSt X (.Assign [tg] e pos) (cAsg c g) := fun W tk => by
  obtain ⟨t, p, s⟩ := h W tk
  obtain ⟨t', p', s'⟩ := hg W tk
  refine ⟨_, ps_asg p p' h1 h2 h3, ⟨fun hs hh hc hn _ hx => s.run hs hh hc (fun v H1 d M1 x1 r1 rd q => ?_) fun C dx H' M' x r e => hx C dx _ H' _ M' x r (hs.mono x) e⟩⟩
  exact s'.run (hs.mono x1) r1 rd q (fun σ' H' ρ' M' x r sl q2 => hn σ' H' ρ' M' (x1.trans x) r sl q2) fun C dx H' M' x r e => hx C dx _ H' _ M' (x1.trans x) r (hs.mono (x1.trans x)) e
theorem cs_set {x : Str} {e : Expr} {c : CR} {pos pos' : Pos} (i : Nat) (hN : X.N.Nodup) (h : CE X e c) (hi : X.N[i]? = some x := by rfl) (hx : Loc X.env.scope x := by first | exact .inl rfl | exact .inr rfl) (hs : swapsWith e (some (.Name x pos')) pos.line X.env = pure false := by rfl)
    (hf : X.fn x = true ∨ X.env.scope.names.lookup x = some .local := by first | exact .inl rfl | exact .inr rfl) : CSt X (.Assign [.Name x pos'] e pos) (cSet i c) := fun W tk => by
  obtain ⟨t, p, s⟩ := h W tk
  refine ⟨_, ps_set (i := i) hN hi hx p hs hf, ⟨fun hs hh hc hn _ hx => s.run hs hh hc (fun v H1 d M1 x1 r1 rd q => ?_) fun C dx H' M' x r e => hx C dx _ H' _ M' x r (hs.mono x) e⟩⟩
  exact hn _ H1 _ M1 x1 r1 ((hs.mono x1).set i rd) q
/-! ### targets -/
def gSet (i : Nat) : CG := fun d ρ M Q _ => Q (ρ.set i (some d)) M
theorem cg_name {x : Str} {pos : Pos} (i : Nat) (hN : X.N.Nodup) (hi : X.N[i]? = some x := by rfl) (hx : Loc X.env.scope x := by first | exact .inl rfl | exact .inr rfl)
    (hf : X.fn x = true ∨ X.env.scope.names.lookup x = some .local := by first | exact .inl rfl | exact .inr rfl) : CGt X (.Name x pos) (gSet i) := fun W _ =>
  ⟨_, pg_name (i := i) hN hi hx hf, ⟨fun hs hh rd hc hq _ => hq _ _ _ _ HX.refl hh (hs.set i rd) hc⟩⟩
/-- names, one after another -/
def gNames : List Nat → List D → Env → Option Env
  | [], [], ρ => some ρ
  | i :: is, d :: ds, ρ => gNames is ds (ρ.set i (some d))
  | _, _, _ => none
def gTupN (is : List Nat) : CG := fun d ρ M Q _ => match d with
  | .tup ds => (match gNames is ds ρ with
    | some ρ' => Q ρ' M
    | none => False)
  | _ => False
def SimGs (K : PySem.W.Frag) (t : TGs) (is : List Nat) : Prop := ∀ {σ : St} {H : Hp} {ρ ρ' : Env} {ds : List D} {vs : List V} {Q' : St → Hp → Prop}, Sl K H ρ σ → RlL K H ds vs → gNames is ds ρ = some ρ' → (∀ σ', Sl K H ρ' σ' → Q' σ' H) → t vs σ H Q'
def CGs (X : Cx) (es : List Expr) (is : List Nat) : Prop := ∃ t, PGs X es t ∧ SimGs X.K t is
theorem cgs_nil : CGs X [] [] := ⟨_, pgs_nil, fun {σ H ρ ρ' ds vs Q'} hs hr h hq => by
  cases ds with
  | nil => simp only [RlL] at hr; subst hr; cases h; exact ⟨rfl, hq _ hs⟩
  | cons => cases h⟩
theorem cgs_cons {x : Str} {pos : Pos} {es : List Expr} {is : List Nat} (i : Nat) (hN : X.N.Nodup) (h : CGs X es is) (hi : X.N[i]? = some x := by rfl) (hx : Loc X.env.scope x := by first | exact .inl rfl | exact .inr rfl)
    (hf : X.fn x = true ∨ X.env.scope.names.lookup x = some .local := by first | exact .inl rfl | exact .inr rfl) (hs : (assignEach (.Name x pos :: es) X.env).map (·.2) = assign (.Name x pos) X.env :: (assignEach es X.env).map (·.2) := by rfl) : CGs X (.Name x pos :: es) (i :: is) := by
  obtain ⟨t, p, s⟩ := h
  refine ⟨_, pgs_cons (pg_name (i := i) hN hi hx hf) p hs, fun {σ H ρ ρ' ds vs Q'} hs hr h hq => ?_⟩
  cases ds with
  | nil => cases h
  | cons d ds =>
    simp only [RlL] at hr
    obtain ⟨v, r, rfl, h1, h2⟩ := hr
    exact ⟨v, r, rfl, s (hs.set i h1) h2 h hq⟩
theorem gNames_len : ∀ {is : List Nat} {ds : List D} {ρ ρ' : Env}, gNames is ds ρ = some ρ' → ds.length = is.length
  | [], [], _, _, _ => rfl
  | _ :: is, _ :: ds, ρ, ρ', h => by
    have q := gNames_len (is := is) (ds := ds) h
    simp [q]
  | [], _ :: _, _, _, h => by cases h
  | _ :: _, [], _, _, h => by cases h
theorem cg_tup {es : List Expr} {is : List Nat} {k : Nat} {pos : Pos} (hc : X.calm = true) (h : CGs X es is) (hn : (assignEach es X.env).length = is.length := by rfl) (hst : (assignEach es X.env).findIdx? (·.1) = none := by rfl) :
    CGt X (.Tuple es k pos) (gTupN is) := fun W _ => by
  obtain ⟨t, p, s⟩ := h
  refine ⟨_, pg_tup hc p hn hst, ⟨fun {σ H ρ M d v Q E Q'} hs hh rd hc hq _ => ?_⟩⟩
  unfold gTupN at hc
  split at hc
  · rename_i ds
    split at hc
    · rename_i ρ' e
      simp only [Rl] at rd
      obtain ⟨a, vs, rfl, sq, rl⟩ := rd
      refine ⟨a, vs, rfl, sq, by rw [← rl.length]; exact gNames_len e, ?_⟩
      exact s hs rl e fun σ' sl => hq σ' H ρ' M HX.refl hh sl hc
    · exact hc.elim
  · exact hc.elim
/-! ### defs: promises by readings; calls -/
abbrev CF := List D → Mm → CK → CX → Prop
def startD (n : Nat) (ds : List D) : Env := ds.map some ++ List.replicate (n - ds.length) none
def cfOf (n : Nat) (c : CS) : CF := fun ds M Q E => c ⟨fun _ M' => Q .non M', Q, fun C dx _ M' => E C dx M'⟩ (startD n ds) M
def spC (K : PySem.W.Frag) (n : Nat) (cf : CF) : Sp := fun vs H Q E => ∃ (ds : List D) (M : Mm) (Qc : CK) (Ec : CX), ds.length = n ∧ RlL K H ds vs ∧ HR K M H ∧ cf ds M Qc Ec ∧
  (∀ v H' d M', HX K H H' → HR K M' H' → Rl K H' d v → Qc d M' → Q v H') ∧ (∀ C dx H' M', HX K H H' → HR K M' H' → Ec C dx M' → E (.ref C) dx H')
def cCall (n : Nat) (cf : CF) (a : CA) : CR := fun ρ M Q E => a ρ M (fun ds M1 => ds.length = n ∧ cf ds M1 Q E) E
theorem simE_call {n : Nat} {cf : CF} {t : TA} {a : CA} (h : SimA K W t a) : SimE K W (tCallS (spC K n cf) (WE W) t) (cCall n cf a) := ⟨fun hs hh hc hq he => h.run hs hh hc (fun vs H1 ds M1 x1 r1 rd q =>
  ⟨ds, M1, _, _, q.1, rd, r1, q.2, fun v H' d M' x2 r2 rd' q2 => hq v H' d M' (x1.trans x2) r2 rd' q2, fun C dx H' M' x2 r2 e2 => he C dx H' M' (x1.trans x2) r2 e2⟩) he⟩
theorem ce_call {k n : Nat} {f : Addr} {fd : FuncData} {ps : List Str} {cf : CF} {x : Str} {p pos : Pos} {e : Expr} {es : List Expr} {a : CA} (F : FnOk X.prog X.w X.K X.mg X.base (L2N.CX X.prog X.w) k f fd ps (spC X.K n cf)) (hr : Room k X.A)
    (hm : X.mg x = some (.ref f)) (hk : PySem.W.keepIn X.K (.ref f) = true) (hb : Binds X.K fd ps []) (ha : CAs X (e :: es) a) (hg : Gl X x := by rfl) (hdb : (x == ("__debug__" : Str)) = false := by decide)
    (he : starEach (e :: es) X.env = (false, eval e X.env) :: starEach es X.env := by rfl) (hpl : (backTo pos (starEach es X.env)).any (·.1) = false := by rfl) : CE X (.Call (.Name x p) (e :: es) [] pos) (cCall n cf a) := fun W tk => by
  obtain ⟨t, pa, s⟩ := ha W tk
  exact ⟨_, pe_callS F hr hg hm hk hb (fun σ => L2N.passAt tk σ) pa hdb he hpl, simE_call s⟩
theorem startD_sl {H : Hp} {N : List Str} {ds : List D} {vs : List V} (h : RlL K H ds vs) : Sl K H (startD N.length ds) (L2.start N vs) := by
  have hl := h.length
  refine ⟨by simp [startD, L2.start, hl], fun i d e => ?_⟩
  unfold startD at e
  by_cases hi : i < ds.length
  · rw [List.getElem?_append_left (by simpa using hi)] at e
    rw [List.getElem?_map] at e
    cases q : ds[i]? with
    | none => rw [q] at e; simp at e
    | some d' =>
      rw [q] at e; simp at e; subst e
      obtain ⟨v, e1, r⟩ := h.get q
      refine ⟨v, ?_, r⟩
      unfold L2.start
      rw [List.getElem?_append_left (by simpa [← hl] using hi), List.getElem?_map, e1]; rfl
  · rw [List.getElem?_append_right (by simpa using hi)] at e
    rw [List.getElem?_replicate] at e
    split at e <;> simp at e
/-- a def that may raise -/
theorem fok {P : Program} {w : World} {mg : Str → Option Value} {base : Heap} {x qual : Str} {params : Arguments} {body : List Stmt} {scope : Scope} {f : Addr} {fd : FuncData} {N ps : List Str} {k : Nat} {c : CS}
    (F : FunD K x qual params body scope [] [] f fd) (S : FnScope N ps scope)
    (h : ∀ (cdv : Value) (A : Around) (outer : List PySem.Env) (s : Shared) (H : Hp) (E : XK), Room k (A.deeper (envOfC qual scope s.heap.objs.size f cdv)) → CSs (cxOf (L2N.CX P w) P w K mg base N qual scope f cdv A outer s H E) body c) :
    FnOk P w K mg base (L2N.CX P w) (k + 1) f fd ps (spC K ps.length (cfOf N.length c)) := by
  refine F.ok S (fun vs H Q E ⟨ds, M, Qc, Ec, hl, rl, _⟩ => by rw [← rl.length]; exact hl) fun cdv A outer s H vs Q E hr hsp => ?_
  obtain ⟨ds, M, Qc, Ec, hl, rl, hh, hc, hq, he⟩ := hsp
  obtain ⟨t, p, sm⟩ := h cdv A outer s H E hr (fun cls d _ H' => E cls d H') (L2N.takes_of rfl rfl rfl rfl)
  refine ⟨t, p, ?_⟩
  refine sm.run (startD_sl rl) hh hc (fun σ' H' ρ' M' x r sl q => hq _ H' _ M' x r (by simp only [Rl]) q) (fun v H' d M' x r rd q => hq v H' d M' x r rd q) fun C dx σ' H' ρ' M' x r sl e => he C dx H' M' x r e
end
end CL

/-! THE C LAYER: arithmetic, ==, in, order, subscripts, slices, built-in calls, methods of lists. -/
namespace CL
open PySem PySem.Spec PyProof.Rows L2
section
variable {K : PySem.W.Frag} {W : WX} {X : Cx}

theorem Rl.int_inv {H : Hp} {i : Int} {v : V} (h : Rl K H (.int i) v) : v = .int i := by simpa only [Rl] using h
theorem Rl.bl_inv {H : Hp} {b : Bool} {v : V} (h : Rl K H (.bl b) v) : v = .bl b := by simpa only [Rl] using h
theorem Rl.non_inv {H : Hp} {v : V} (h : Rl K H .non v) : v = .non := by simpa only [Rl] using h
theorem Rl.ref_inv {H : Hp} {a : Addr} {v : V} (h : Rl K H (.ref a) v) : v = .ref a := by simpa only [Rl] using h
theorem Rl.str_inv {H : Hp} {x : Str} {v : V} (h : Rl K H (.str x) v) : v = .str x ∧ PyData.strOk x = true := by simpa only [Rl] using h
theorem Rl.tup_inv {H : Hp} {ds : List D} {v : V} (h : Rl K H (.tup ds) v) : ∃ a vs, v = .ref a ∧ SqT K H a vs ∧ RlL K H ds vs := by simpa only [Rl] using h
theorem Rl.int {H : Hp} {i : Int} : Rl K H (.int i) (.int i) := by simp only [Rl]
theorem Rl.bl {H : Hp} {b : Bool} : Rl K H (.bl b) (.bl b) := by simp only [Rl]
theorem Rl.non {H : Hp} : Rl K H .non .non := by simp only [Rl]
theorem Rl.rf {H : Hp} {a : Addr} : Rl K H (.ref a) (.ref a) := by simp only [Rl]
theorem Rl.strI {H : Hp} {x : Str} (h : PyData.strOk x = true) : Rl K H (.str x) (.str x) := by simp only [Rl]; exact ⟨trivial, h⟩

/-- a list that is read -/
def lstOf : Option MO → Option (List D)
  | some (.lst ds) => some ds
  | some (.rdl ds) => some ds
  | _ => none
theorem HR.read {M : Mm} {H : Hp} {a : Addr} {ds : List D} (h : HR K M H) (e : lstOf (M a) = some ds) : ∃ vs, SqL K H a vs ∧ RlL K H ds vs := by
  cases q : M a with
  | none => rw [q] at e; cases e
  | some o =>
    rw [q] at e
    cases o with
    | lst xs => cases e; obtain ⟨vs, e1, r⟩ := h a _ q; exact ⟨vs, SqL.of e1, r⟩
    | rdl xs => cases e; obtain ⟨vs, e1, r⟩ := h a _ q; exact ⟨vs, .inl e1, r⟩
    | _ => cases e
/-- a new list -/
def newL (ds : List D) (M : Mm) (Q : CK) : Prop := ∀ p, M p = none → Q (.ref p) (put M p (.lst ds))
theorem newL_run {M : Mm} {H : Hp} {ds : List D} {vs : List V} {Q : CK} {Q' : VK} {p : Addr} (hh : HR K M H) (r : RlL K H ds vs) (hp : H p = none) (h : newL ds M Q)
    (hq : ∀ v H' d' M', HX K H H' → HR K M' H' → Rl K H' d' v → Q d' M' → Q' v H') : Q' (.ref p) (upd H p (.lst vs)) :=
  hq _ _ (.ref p) _ (sqT_new hp) (hh.upd (o := .lst ds) (sqT_new hp) ⟨vs, upd_same, r.mono (sqT_new hp)⟩) Rl.rf (h p (hh.free hp))

/-! ### arithmetic -/
theorem strOk_append {x y : Str} (h : PyData.strOk x = true) (h' : PyData.strOk y = true) : PyData.strOk (x ++ y) = true := by
  unfold PyData.strOk at *
  rw [show (x ++ y).cps = x.cps ++ y.cps from rfl, Array.all_append, h, h']; rfl
def oAdd : C2 := fun x y M Q => match x, y with
  | .int i, .int j => Q (.int (i + j)) M
  | .str x, .str y => x.length + y.length ≤ sizeLine ∧ Q (.str (x ++ y)) M
  | .tup xs, .tup ys => xs.length + ys.length ≤ sizeLine ∧ Q (.tup (xs ++ ys)) M
  | .ref a, .ref b => ∃ xs ys, M a = some (.lst xs) ∧ M b = some (.lst ys) ∧ xs.length + ys.length ≤ sizeLine ∧ newL (xs ++ ys) M Q
  | _, _ => False
def rAddC (K : PySem.W.Frag) : R2 := fun x y H Q => (∃ i j, x = .int i ∧ y = .int j ∧ Q (.int (i + j)) H) ∨ (∃ i j, x = .str i ∧ y = .str j ∧ i.length + j.length ≤ sizeLine ∧ Q (.str (i ++ j)) H) ∨ rCatA K x y H Q ∨ rCat x y H Q
theorem op_addC : OpR X (binaryOp .Add) (rAddC X.K) := op_add.or (op_add_str.or (op_catA.or op_cat))
theorem sim_add : SimR K (rAddC K) oAdd := ⟨fun {H M x y d e Q Q'} hh hx hy h hq => by
  unfold oAdd at h
  split at h
  · rw [hx.int_inv, hy.int_inv]; exact .inl ⟨_, _, rfl, rfl, hq _ _ _ _ HX.refl hh Rl.int h⟩
  · obtain ⟨rfl, o1⟩ := hx.str_inv
    obtain ⟨rfl, o2⟩ := hy.str_inv
    exact .inr (.inl ⟨_, _, rfl, rfl, h.1, hq _ _ _ _ HX.refl hh (Rl.strI (strOk_append o1 o2)) h.2⟩)
  · rename_i xs ys
    obtain ⟨a, vs, rfl, s1, r1⟩ := hx.tup_inv
    obtain ⟨b, ws, rfl, s2, r2⟩ := hy.tup_inv
    have ra := r1.append r2
    refine .inr (.inr (.inl ⟨a, b, vs, ws, rfl, rfl, s1, s2, by rw [← r1.length, ← r2.length]; exact h.1, fun z => ?_, fun _ z => ?_, fun _ _ p hp => hq _ _ _ _ (sqT_new hp) (hh.lay hp) (Rl.tup_new ra hp) h.2⟩))
    · refine hq _ _ _ _ HX.refl hh ?_ h.2
      subst z
      simp only [Rl]
      exact ⟨b, ws, rfl, s2, ra⟩
    · refine hq _ _ _ _ HX.refl hh ?_ h.2
      subst z
      simp only [Rl]
      exact ⟨a, vs, rfl, s1, by simpa using ra⟩
  · obtain ⟨xs, ys, h1, h2, hl, h⟩ := h
    obtain ⟨vs, e1, r1⟩ := hh.lst h1
    obtain ⟨ws, e2, r2⟩ := hh.lst h2
    rw [hx.ref_inv, hy.ref_inv]
    exact .inr (.inr (.inr ⟨_, _, vs, ws, rfl, rfl, e1, e2, by rw [← r1.length, ← r2.length]; exact hl, fun p hp => newL_run hh (r1.append r2) hp h hq⟩))
  · exact h.elim⟩
def oInt (C : Int → Int → Prop) (g : Int → Int → Int) : C2 := fun x y M Q => match x, y with
  | .int i, .int j => C i j ∧ Q (.int (g i j)) M
  | _, _ => False
theorem sim_int {C : Int → Int → Prop} {g : Int → Int → Int} : SimR K (rI C fun i j => .int (g i j)) (oInt C g) := ⟨fun hh hx hy h hq => by
  unfold oInt at h
  split at h
  · rw [hx.int_inv, hy.int_inv]; exact ⟨_, _, rfl, rfl, h.1, hq _ _ _ _ HX.refl hh Rl.int h.2⟩
  · exact h.elim⟩
def oSub : C2 := fun x y M Q => match x, y with
  | .int i, .int j => Q (.int (i - j)) M
  | _, _ => False
theorem sim_sub : SimR K (rI0 fun i j => .int (i - j)) oSub := ⟨fun hh hx hy h hq => by
  unfold oSub at h
  split at h
  · rw [hx.int_inv, hy.int_inv]; exact ⟨_, _, rfl, rfl, hq _ _ _ _ HX.refl hh Rl.int h⟩
  · exact h.elim⟩
def repL (xs : List D) (k : Int) : List D := (List.replicate k.toNat xs).flatten
def oMul : C2 := fun x y M Q => match x, y with
  | .int i, .int j => CMul i j ∧ Q (.int (i * j)) M
  | .ref a, .int k => ∃ xs, M a = some (.lst xs) ∧ -(2 ^ 63) ≤ k ∧ k < 2 ^ 63 ∧ xs.length * k.toNat ≤ sizeLine ∧ newL (repL xs k) M Q
  | _, _ => False
theorem RlL.rep {H : Hp} {ds : List D} {vs : List V} (h : RlL K H ds vs) : ∀ k : Nat, RlL K H (List.replicate k ds).flatten (List.replicate k vs).flatten
  | 0 => RlL.nil
  | k + 1 => by simp only [List.replicate_succ, List.flatten_cons]; exact h.append (RlL.rep h k)
theorem op_mulC : OpR X (binaryOp .Mult) (fun x y H Q => rI CMul (fun i j => .int (i * j)) x y H Q ∨ rRep x y H Q) := op_mul.or op_rep
theorem sim_mul : SimR K (fun x y H Q => rI CMul (fun i j => .int (i * j)) x y H Q ∨ rRep x y H Q) oMul := ⟨fun hh hx hy h hq => by
  unfold oMul at h
  split at h
  · rw [hx.int_inv, hy.int_inv]; exact .inl ⟨_, _, rfl, rfl, h.1, hq _ _ _ _ HX.refl hh Rl.int h.2⟩
  · obtain ⟨xs, h1, k1, k2, hl, h⟩ := h
    obtain ⟨vs, e1, r1⟩ := hh.lst h1
    rw [hx.ref_inv, hy.int_inv]
    exact .inr ⟨_, _, vs, rfl, rfl, e1, k1, k2, by rw [← r1.length]; exact hl, fun p hp => newL_run hh (r1.rep _) hp h hq⟩
  · exact h.elim⟩
section
variable {a b : Expr} {ca cb : CR} {pos : Pos}
theorem ce_add (ha : CE X a ca) (hb : CE X b cb) : CE X (.BinOp a .Add b pos) (c2 ca cb oAdd) := ce_op op_addC sim_add ha hb
theorem ce_sub (ha : CE X a ca) (hb : CE X b cb) : CE X (.BinOp a .Sub b pos) (c2 ca cb oSub) := ce_op op_sub sim_sub ha hb
theorem ce_mul (ha : CE X a ca) (hb : CE X b cb) : CE X (.BinOp a .Mult b pos) (c2 ca cb oMul) := ce_op op_mulC sim_mul ha hb
abbrev oDiv : C2 := oInt CDivN Int.fdiv
abbrev oMod : C2 := oInt (fun _ j => j ≠ 0) Int.fmod
abbrev oPow : C2 := oInt CPow fun i j => i ^ j.toNat
theorem ce_div (ha : CE X a ca) (hb : CE X b cb) : CE X (.BinOp a .FloorDiv b pos) (c2 ca cb oDiv) := ce_op op_fdivN sim_int ha hb
theorem ce_mod (ha : CE X a ca) (hb : CE X b cb) : CE X (.BinOp a .Mod b pos) (c2 ca cb oMod) := ce_op op_modN sim_int ha hb
theorem ce_pow (ha : CE X a ca) (hb : CE X b cb) : CE X (.BinOp a .Pow b pos) (c2 ca cb oPow) := ce_op op_pow sim_int ha hb
def cNeg (c : CR) : CR := fun ρ M Q E => c ρ M (fun d M1 => match d with
  | .int i => Q (.int (-i)) M1
  | _ => False) E
theorem ce_neg (ha : CE X a ca) : CE X (.UnaryOp .USub a pos) (cNeg ca) := fun W tk => by
  obtain ⟨t, p, s⟩ := ha W tk
  refine ⟨_, pe_un un_neg p, ⟨fun hs hh hc hq he => s.run hs hh hc (fun v H1 d M1 x1 r1 rd q => ?_) he⟩⟩
  cases d with
  | int i => rw [rd.int_inv]; exact ⟨i, rfl, hq _ _ _ _ x1 r1 Rl.int q⟩
  | _ => exact q.elim
end
/-! ### == of data -/
mutual
def toPy : D → Option PyData
  | .non => some .none
  | .bl b => some (.bool b)
  | .int i => some (.int i)
  | .str x => some (.str x)
  | .tup ds => (toPyL ds).map PyData.tuple
  | .ref _ => none
  | .ty _ => none
def toPyL : List D → Option (List PyData)
  | [] => some []
  | d :: ds => (toPy d).bind fun p => (toPyL ds).map fun ps => p :: ps
end
def vw (M : Mm) : D → Option PyData
  | .ref a => (lstOf (M a)).bind fun ds => (toPyL ds).map PyData.list
  | d => toPy d
mutual
theorem toPy_dp {H : Hp} : ∀ {d : D} {v : V} {p : PyData}, Rl K H d v → toPy d = some p → Dp K H v p ∧ p.canLay0 = true
  | .non, v, p, h, e => by cases e; rw [h.non_inv]; exact ⟨.non, rfl⟩
  | .bl b, v, p, h, e => by cases e; rw [h.bl_inv]; exact ⟨.bl b, rfl⟩
  | .int i, v, p, h, e => by cases e; rw [h.int_inv]; exact ⟨.int i, rfl⟩
  | .str x, v, p, h, e => by cases e; obtain ⟨rfl, o⟩ := h.str_inv; exact ⟨.str x, o⟩
  | .ref a, v, p, h, e => by cases e
  | .ty a, v, p, h, e => by cases e
  | .tup ds, v, p, h, e => by
    obtain ⟨a, vs, rfl, s, r⟩ := h.tup_inv
    cases q : toPyL ds with
    | none => simp only [toPy, q] at e; cases e
    | some ps =>
      simp only [toPy, q] at e; cases e
      have z := toPyL_dp r q
      exact ⟨.tup s z.1, z.2⟩
theorem toPyL_dp {H : Hp} : ∀ {ds : List D} {vs : List V} {ps : List PyData}, RlL K H ds vs → toPyL ds = some ps → DpAll K H vs ps ∧ PyData.canLayAll0 ps = true
  | [], vs, ps, h, e => by simp only [RlL] at h; subst h; simp only [toPyL] at e; cases e; exact ⟨.nil, rfl⟩
  | d :: ds, vs, ps, h, e => by
    simp only [RlL] at h
    obtain ⟨v, r, rfl, h1, h2⟩ := h
    cases q : toPy d with
    | none => simp only [toPyL, q] at e; cases e
    | some p =>
      cases q2 : toPyL ds with
      | none => simp only [toPyL, q, q2] at e; cases e
      | some ps' =>
        simp only [toPyL, q, q2] at e; cases e
        have z1 := toPy_dp h1 q
        have z2 := toPyL_dp h2 q2
        refine ⟨.cons z1.1 z2.1, ?_⟩
        simp [PyData.canLayAll0, z1.2, z2.2]
end
theorem vw_dp {M : Mm} {H : Hp} {d : D} {v : V} {p : PyData} (hh : HR K M H) (h : Rl K H d v) (e : vw M d = some p) : Dp K H v p ∧ p.canLay0 = true := by
  cases d with
  | ref a =>
    rw [h.ref_inv]
    simp only [vw] at e
    cases q : lstOf (M a) with
    | none => rw [q] at e; cases e
    | some ds =>
      rw [q] at e
      obtain ⟨vs, s, r⟩ := hh.read q
      cases q2 : toPyL ds with
      | none => simp [q2] at e
      | some ps =>
        simp [q2] at e; subst e
        have z := toPyL_dp r q2
        exact ⟨.lst s z.1, z.2⟩
  | _ => exact toPy_dp h e
def oEq (neg : Bool) : C2 := fun x y M Q => ∃ p q, vw M x = some p ∧ vw M y = some q ∧ p.depth ≤ 64 ∧ q.depth ≤ 64 ∧ Q (.bl (if neg then !PyData.eqv p q else PyData.eqv p q)) M
theorem shaped_of {p : PyData} (h : p.canLay0 = true) (h' : p.depth ≤ 64) : SeqAt.shaped p = true := by
  unfold SeqAt.shaped; rw [h, decide_eq_true h']; rfl
theorem sim_eq : SimR K (rEqD K) (oEq false) := ⟨fun hh hx hy h hq => by
  obtain ⟨p, q, e1, e2, d1, d2, h⟩ := h
  obtain ⟨z1, c1⟩ := vw_dp hh hx e1
  obtain ⟨z2, c2⟩ := vw_dp hh hy e2
  exact ⟨p, q, z1, z2, shaped_of c1 d1, shaped_of c2 d2, hq _ _ _ _ HX.refl hh Rl.bl h⟩⟩
theorem sim_ne : SimR K (rNeD K) (oEq true) := ⟨fun hh hx hy h hq => by
  obtain ⟨p, q, e1, e2, d1, d2, h⟩ := h
  obtain ⟨z1, c1⟩ := vw_dp hh hx e1
  obtain ⟨z2, c2⟩ := vw_dp hh hy e2
  exact ⟨p, q, z1, z2, shaped_of c1 d1, shaped_of c2 d2, hq _ _ _ _ HX.refl hh Rl.bl h⟩⟩
/-! ### order of ints -/
def oCmp (p : Int → Int → Bool) : C2 := fun x y M Q => match x, y with
  | .int i, .int j => Q (.bl (p i j)) M
  | _, _ => False
theorem sim_cmp {p : Int → Int → Bool} : SimR K (rI0 fun i j => .bl (p i j)) (oCmp p) := ⟨fun hh hx hy h hq => by
  unfold oCmp at h
  split at h
  · rw [hx.int_inv, hy.int_inv]; exact ⟨_, _, rfl, rfl, hq _ _ _ _ HX.refl hh Rl.bl h⟩
  · exact h.elim⟩
abbrev oLt : C2 := oCmp fun i j => decide (i < j)
abbrev oLe : C2 := oCmp fun i j => decide (i ≤ j)
abbrev oGt : C2 := oCmp fun i j => decide (j < i)
abbrev oGe : C2 := oCmp fun i j => decide (j ≤ i)
/-- is None -/
def isNon : D → Bool
  | .non => true
  | _ => false
def oIsN (neg : Bool) : C2 := fun x y M Q => match y with
  | .non => Q (.bl (if neg then !isNon x else isNon x)) M
  | _ => False
theorem isNon_rl {H : Hp} {d : D} {v : V} (h : Rl K H d v) : decide (v = .non) = isNon d := by
  cases d with
  | non => rw [h.non_inv]; rfl
  | bl b => rw [h.bl_inv]; rfl
  | int b => rw [h.int_inv]; rfl
  | str b => rw [h.str_inv.1]; rfl
  | ref b => rw [h.ref_inv]; rfl
  | ty n => simp only [Rl] at h; rw [h]; rfl
  | tup ds => obtain ⟨a, vs, rfl, _⟩ := h.tup_inv; rfl
theorem sim_isN : SimR K (fun x y H Q => y = .non ∧ Q (.bl (decide (x = .non))) H) (oIsN false) := ⟨fun hh hx hy h hq => by
  unfold oIsN at h
  split at h
  · rw [hy.non_inv]; exact ⟨rfl, by rw [isNon_rl hx]; exact hq _ _ _ _ HX.refl hh Rl.bl h⟩
  · exact h.elim⟩
theorem sim_notN : SimR K (fun x y H Q => y = .non ∧ Q (.bl (!decide (x = .non))) H) (oIsN true) := ⟨fun hh hx hy h hq => by
  unfold oIsN at h
  split at h
  · rw [hy.non_inv]; exact ⟨rfl, by rw [isNon_rl hx]; exact hq _ _ _ _ HX.refl hh Rl.bl h⟩
  · exact h.elim⟩
section
variable {a b : Expr} {ca cb : CR} {pos : Pos} {k : Nat}
theorem eq64 (hr : Room k X.A) : X.A.units + 64 < cLine := hr.units
theorem ce_eq (hr : Room k X.A) (ha : CE X a ca) (hb : CE X b cb) : CE X (.Compare a [.Eq] [b] pos) (c2 ca cb (oEq false)) := ce_cmp (op_eqD hr.units) sim_eq ha hb (nomark _)
theorem ce_ne (hr : Room k X.A) (ha : CE X a ca) (hb : CE X b cb) : CE X (.Compare a [.NotEq] [b] pos) (c2 ca cb (oEq true)) := ce_cmp (op_neD hr.units) sim_ne ha hb (nomark _)
theorem ce_lt (ha : CE X a ca) (hb : CE X b cb) : CE X (.Compare a [.Lt] [b] pos) (c2 ca cb oLt) := ce_cmp op_lt sim_cmp ha hb (nomark _)
theorem ce_le (ha : CE X a ca) (hb : CE X b cb) : CE X (.Compare a [.LtE] [b] pos) (c2 ca cb oLe) := ce_cmp op_le sim_cmp ha hb (nomark _)
theorem ce_gt (ha : CE X a ca) (hb : CE X b cb) : CE X (.Compare a [.Gt] [b] pos) (c2 ca cb oGt) := ce_cmp op_gt sim_cmp ha hb (nomark _)
theorem ce_ge (ha : CE X a ca) (hb : CE X b cb) : CE X (.Compare a [.GtE] [b] pos) (c2 ca cb oGe) := ce_cmp op_ge sim_cmp ha hb (nomark _)
theorem ce_is (ha : CE X a ca) (hb : CE X b cb) : CE X (.Compare a [.Is] [b] pos) (c2 ca cb (oIsN false)) := ce_cmp op_isN sim_isN ha hb (nomark _)
theorem ce_isnot (ha : CE X a ca) (hb : CE X b cb) : CE X (.Compare a [.IsNot] [b] pos) (c2 ca cb (oIsN true)) := ce_cmp op_notN sim_notN ha hb (nomark _)
theorem ct_eq (hr : Room k X.A) (ha : CE X a ca) (hb : CE X b cb) : CTt X (.Compare a [.Eq] [b] pos) (cTest (c2 ca cb (oEq false))) := ct_cmp (op_eqD hr.units) sim_eq ha hb (nomark _)
theorem ct_ne (hr : Room k X.A) (ha : CE X a ca) (hb : CE X b cb) : CTt X (.Compare a [.NotEq] [b] pos) (cTest (c2 ca cb (oEq true))) := ct_cmp (op_neD hr.units) sim_ne ha hb (nomark _)
theorem ct_lt (ha : CE X a ca) (hb : CE X b cb) : CTt X (.Compare a [.Lt] [b] pos) (cTest (c2 ca cb oLt)) := ct_cmp op_lt sim_cmp ha hb (nomark _)
theorem ct_le (ha : CE X a ca) (hb : CE X b cb) : CTt X (.Compare a [.LtE] [b] pos) (cTest (c2 ca cb oLe)) := ct_cmp op_le sim_cmp ha hb (nomark _)
theorem ct_gt (ha : CE X a ca) (hb : CE X b cb) : CTt X (.Compare a [.Gt] [b] pos) (cTest (c2 ca cb oGt)) := ct_cmp op_gt sim_cmp ha hb (nomark _)
theorem ct_ge (ha : CE X a ca) (hb : CE X b cb) : CTt X (.Compare a [.GtE] [b] pos) (cTest (c2 ca cb oGe)) := ct_cmp op_ge sim_cmp ha hb (nomark _)
theorem ct_is (ha : CE X a ca) (hb : CE X b cb) : CTt X (.Compare a [.Is] [b] pos) (cTest (c2 ca cb (oIsN false))) := ct_cmp op_isN sim_isN ha hb (nomark _)
theorem ct_isnot (ha : CE X a ca) (hb : CE X b cb) : CTt X (.Compare a [.IsNot] [b] pos) (cTest (c2 ca cb (oIsN true))) := ct_cmp op_notN sim_notN ha hb (nomark _)
end
end
end CL

/-! THE C LAYER: subscripts, slices, list displays, built-in calls, methods of lists, in, isinstance. -/
namespace CL
open PySem PySem.Spec PyProof.Rows L2
section
variable {K : PySem.W.Frag} {W : WX} {X : Cx}
theorem pe_or {e : Expr} {t u : TE} (h : PE X e t) (h' : PE X e u) : PE X e (fun σ H Q => t σ H Q ∨ u σ H Q) := ⟨fun pins s σ H Q I q => q.elim (h.run pins s σ H Q I) (h'.run pins s σ H Q I)⟩
theorem pset_or {t u : TSet} (h : PSet X t) (h' : PSet X u) : PSet X (fun o i v H Q => t o i v H Q ∨ u o i v H Q) := fun pins s σ H o i v ov iv w Q I r1 r2 r3 q => q.elim (h pins s σ H o i v ov iv w Q I r1 r2 r3) (h' pins s σ H o i v ov iv w Q I r1 r2 r3)
theorem ixR_or {r r' : R2} (h : IxR X r) (h' : IxR X r') : IxR X (fun x y H Q => r x y H Q ∨ r' x y H Q) := h.or h'

/-! ### xs[i], t[i], s[i], d[k] -/
theorem atI_rl {H : Hp} {ds : List D} {vs : List V} {i : Int} {d : D} (h : RlL K H ds vs) (e : atI ds i = some d) : ∃ v, atI vs i = some v ∧ Rl K H d v := by
  unfold atI at e ⊢
  rw [h.length] at e
  cases q : ixN vs.length i with
  | none => rw [q] at e; cases e
  | some j => rw [q] at e; exact h.get e
theorem strOk_get {z : Str} {c : Nat} (h : PyData.strOk z = true) (hm : c ∈ z.cps.toList) : PyData.strOk ⟨#[c]⟩ = true := by
  unfold PyData.strOk at *
  rw [Array.all_eq_true_iff_forall_mem] at h
  have := h c (by simpa using hm)
  simpa using this
theorem atI_mem {α : Type} {xs : List α} {i : Int} {v : α} (h : atI xs i = some v) : v ∈ xs := by
  obtain ⟨j, _, e, _⟩ := atI_get h
  exact List.mem_of_getElem? e
/-- the key of a dict -/
def keyD : D → Option Key
  | .int i => some (.inl i)
  | .str x => some (.inr x)
  | _ => none
def keysD : List D → Option (List Key)
  | [] => some []
  | d :: ds => (keyD d).bind fun k => (keysD ds).map fun ks => k :: ks
def keyT : D → Option (List Key)
  | .tup ds => keysD ds
  | _ => none
def oIx : C2 := fun x y M Q => match x, y with
  | .tup ds, .int i => (match atI ds i with
    | some d => Q d M
    | none => False)
  | .str z, .int i => z.length ≤ sizeLine ∧ (match atI z.cps.toList i with
    | some c => Q (.str ⟨#[c]⟩) M
    | none => False)
  | .ref a, .int i => (match lstOf (M a) with
    | some ds => (match atI ds i with
      | some d => Q d M
      | none => False)
    | none => False)
  | _, _ => False
theorem sim_ix : SimR K (rIx K) oIx := ⟨fun {H M x y d e Q Q'} hh hx hy h hq => by
  unfold oIx at h
  split at h
  · split at h
    · rename_i d' e'
      obtain ⟨a, vs, rfl, s, r⟩ := hx.tup_inv
      rw [hy.int_inv]
      obtain ⟨v, e1, rv⟩ := atI_rl r e'
      exact .inr (.inl ⟨a, vs, _, v, rfl, rfl, s, e1, hq _ _ _ _ HX.refl hh rv h⟩)
    · exact h.elim
  · obtain ⟨hz, h⟩ := h
    split at h
    · rename_i c e'
      obtain ⟨rfl, o⟩ := hx.str_inv
      rw [hy.int_inv]
      exact .inr (.inr ⟨_, _, c, rfl, rfl, hz, e', hq _ _ _ _ HX.refl hh (Rl.strI (strOk_get o (atI_mem e'))) h⟩)
    · exact h.elim
  · split at h
    · rename_i ds q
      split at h
      · rename_i d' e'
        obtain ⟨vs, s, r⟩ := hh.read q
        rw [hx.ref_inv, hy.int_inv]
        obtain ⟨v, e1, rv⟩ := atI_rl r e'
        exact .inl ⟨_, vs, _, v, rfl, rfl, s, e1, hq _ _ _ _ HX.refl hh rv h⟩
      · exact h.elim
    · exact h.elim
  · exact h.elim⟩
theorem ce_ix {a b : Expr} {ca cb : CR} {pos : Pos} (ha : CE X a ca) (hb : CE X b cb) (hs : PlainIx b := by exact fun _ _ => rfl) : CE X (.Subscript a b pos) (c2 ca cb oIx) := fun W tk => by
  obtain ⟨ta, pa, sa⟩ := ha W tk
  obtain ⟨tb, pb, sb⟩ := hb W tk
  exact ⟨_, pe_ix ix_seq pa pb hs, simE_op sim_ix sa sb⟩
/-! ### slices -/
abbrev CO := Env → Mm → (Option Int → Mm → Prop) → CX → Prop
structure SimO (K : PySem.W.Frag) (W : WX) (t : TO) (c : CO) : Prop where
  run : ∀ {σ : St} {H : Hp} {ρ : Env} {M : Mm} {Q : Option Int → Mm → Prop} {E : CX} {Q' : Option Int → Hp → Prop}, Sl K H ρ σ → HR K M H → c ρ M Q E →
    (∀ o H' M', HX K H H' → HR K M' H' → Q o M' → Q' o H') → (∀ C dx H' M', HX K H H' → HR K M' H' → E C dx M' → W (.ref C) dx σ H') → t σ H Q'
def COt (X : Cx) (e : Option Expr) (c : CO) : Prop := ∀ W, Takes X W → ∃ t, PO X e t ∧ SimO X.K W t c
def oNone : CO := fun _ M Q _ => Q none M
def oSome (c : CR) : CO := fun ρ M Q E => c ρ M (fun d M1 => match d with
  | .int i => Q (some i) M1
  | _ => False) E
theorem co_none : COt X none oNone := fun _ _ => ⟨_, po_none, ⟨fun hs hh hc hq _ => hq _ _ _ HX.refl hh hc⟩⟩
theorem co_some {e : Expr} {c : CR} (h : CE X e c) : COt X (some e) (oSome c) := fun W tk => by
  obtain ⟨t, p, s⟩ := h W tk
  refine ⟨_, po_some p, ⟨fun hs hh hc hq he => s.run hs hh hc (fun v H1 d M1 x1 r1 rd q => ?_) he⟩⟩
  cases d with
  | int i => rw [rd.int_inv]; exact ⟨i, rfl, hq _ _ _ x1 r1 q⟩
  | _ => exact q.elim
def cutD {α : Type} (xs : List α) (lo hi : Option Int) : List α := (xs.drop (HT.sIx xs.length 0 lo)).take (HT.sIx xs.length xs.length hi - HT.sIx xs.length 0 lo)
theorem RlL.drop {H : Hp} : ∀ {ds : List D} {vs : List V} (n : Nat), RlL K H ds vs → RlL K H (ds.drop n) (vs.drop n)
  | ds, vs, 0, h => h
  | [], vs, n + 1, h => by simp only [RlL] at h; subst h; simp only [List.drop_nil]; exact RlL.nil
  | d :: ds, vs, n + 1, h => by
    simp only [RlL] at h
    obtain ⟨v, r, rfl, _, h2⟩ := h
    exact RlL.drop n h2
theorem RlL.take {H : Hp} : ∀ {ds : List D} {vs : List V} (n : Nat), RlL K H ds vs → RlL K H (ds.take n) (vs.take n)
  | ds, vs, 0, h => by simp only [List.take_zero]; exact RlL.nil
  | [], vs, n + 1, h => by simp only [RlL] at h; subst h; simp only [List.take_nil]; exact RlL.nil
  | d :: ds, vs, n + 1, h => by
    simp only [RlL] at h
    obtain ⟨v, r, rfl, h1, h2⟩ := h
    exact RlL.cons h1 (RlL.take n h2)
theorem cut_rl {H : Hp} {ds : List D} {vs : List V} {lo hi : Option Int} (h : RlL K H ds vs) : RlL K H (cutD ds lo hi) (cutV vs lo hi) := by
  unfold cutD cutV
  rw [h.length]
  exact (h.drop _).take _
theorem strOk_cut {z : Str} {lo hi : Option Int} (h : PyData.strOk z = true) : PyData.strOk (cutS z lo hi) = true := by
  unfold PyData.strOk cutS at *
  rw [Array.all_eq_true_iff_forall_mem] at h ⊢
  intro c hc
  refine h c ?_
  have : c ∈ ((z.cps.toList.drop (HT.sIx z.length 0 lo)).take (HT.sIx z.length z.length hi - HT.sIx z.length 0 lo)) := by simpa using hc
  simpa using List.mem_of_mem_drop (List.mem_of_mem_take this)
def oSlice (x : D) (lo hi : Option Int) (M : Mm) (Q : CK) : Prop := match x with
  | .tup ds => Q (.tup (cutD ds lo hi)) M
  | .str z => z.length ≤ sizeLine ∧ Q (.str (cutS z lo hi)) M
  | .ref a => (match lstOf (M a) with
    | some ds => newL (cutD ds lo hi) M Q
    | none => False)
  | _ => False
def cSlice (c : CR) (lo hi : CO) : CR := fun ρ M Q E => c ρ M (fun d M1 => lo ρ M1 (fun l M2 => hi ρ M2 (fun u M3 => oSlice d l u M3 Q) E) E) E
def rSlC (K : PySem.W.Frag) : V → Option Int → Option Int → Hp → VK → Prop := fun x lo hi H Q => rSlA K x lo hi H Q ∨ rSlS x lo hi H Q ∨ rSlL K x lo hi H Q
theorem sl_any : SlR X (rSlC X.K) := sl_tupA.or (sl_str.or sl_list)
theorem sim_slice {H : Hp} {M : Mm} {d : D} {x : V} {lo hi : Option Int} {Q : CK} {Q' : VK} (hh : HR K M H) (hx : Rl K H d x) (h : oSlice d lo hi M Q)
    (hq : ∀ v H' d' M', HX K H H' → HR K M' H' → Rl K H' d' v → Q d' M' → Q' v H') : rSlC K x lo hi H Q' := by
  unfold oSlice at h
  split at h
  · obtain ⟨a, vs, rfl, s, r⟩ := hx.tup_inv
    have rc := cut_rl (lo := lo) (hi := hi) r
    refine .inl ⟨a, vs, rfl, s, fun z => hq _ _ _ _ HX.refl hh ?_ h, fun _ p hp => hq _ _ _ _ (sqT_new hp) (hh.lay hp) (Rl.tup_new rc hp) h⟩
    simp only [Rl]
    refine ⟨a, vs, rfl, s, ?_⟩
    unfold cutD
    rw [r.length, z.1, z.2]
    simpa [← r.length] using r
  · obtain ⟨rfl, o⟩ := hx.str_inv
    exact .inr (.inl ⟨_, rfl, h.1, hq _ _ _ _ HX.refl hh (Rl.strI (strOk_cut o)) h.2⟩)
  · split at h
    · rename_i ds q
      obtain ⟨vs, s, r⟩ := hh.read q
      rw [hx.ref_inv]
      exact .inr (.inr ⟨_, vs, rfl, s, fun p hp => newL_run hh (cut_rl r) hp h hq⟩)
    · exact h.elim
  · exact h.elim
theorem ce_slice {e : Expr} {lo hi : Option Expr} {c : CR} {cl ch : CO} {p2 pos : Pos} (he : CE X e c) (hl : COt X lo cl) (hu : COt X hi ch) : CE X (.Subscript e (.Slice lo hi none p2) pos) (cSlice c cl ch) := fun W tk => by
  obtain ⟨t, p, s⟩ := he W tk
  obtain ⟨t1, p1, s1⟩ := hl W tk
  obtain ⟨t2, p3, s2⟩ := hu W tk
  refine ⟨_, pe_slice sl_any p p1 p3, ⟨fun hs hh hc hq hx => s.run hs hh hc (fun v H1 d M1 x1 r1 rd q => ?_) hx⟩⟩
  refine s1.run (hs.mono x1) r1 q (fun l H2 M2 x2 r2 q2 => ?_) fun C dx H' M' x3 r3 e3 => hx C dx H' M' (x1.trans x3) r3 e3
  refine s2.run (hs.mono (x1.trans x2)) r2 q2 (fun u H3 M3 x3 r3 q3 => ?_) fun C dx H' M' x3 r3 e3 => hx C dx H' M' ((x1.trans x2).trans x3) r3 e3
  exact sim_slice r3 (rd.mono (x2.trans x3)) q3 fun v H' d' M' x4 r4 rd' q4 => hq v H' d' M' (((x1.trans x2).trans x3).trans x4) r4 rd' q4
/-! ### displays of lists -/
def cLst (a : CA) : CR := fun ρ M Q E => a ρ M (fun ds M1 => ds.length ≤ sizeLine ∧ newL ds M1 Q) E
theorem ce_lst {es : List Expr} {a : CA} {pos} (h : CAs X es a) : CE X (.List es pos) (cLst a) := fun W tk => by
  obtain ⟨t, p, s⟩ := h W tk
  refine ⟨_, pe_lst p, ⟨fun hs hh hc hq he => s.run hs hh hc (fun vs H1 ds M1 x1 r1 rd q => ?_) he⟩⟩
  exact ⟨by rw [← rd.length]; exact q.1, fun p hp => newL_run r1 rd hp q.2 fun v H' d' M' x2 r2 rd' q2 => hq v H' d' M' (x1.trans x2) r2 rd' q2⟩
/-! ### built-in calls -/
abbrev CCl := List D → Mm → CK → Prop
structure SimC (K : PySem.W.Frag) (r : List V → Hp → VK → Prop) (c : CCl) : Prop where
  run : ∀ {H : Hp} {M : Mm} {vs : List V} {ds : List D} {Q : CK} {Q' : VK}, HR K M H → RlL K H ds vs → c ds M Q →
    (∀ v H' d' M', HX K H H' → HR K M' H' → Rl K H' d' v → Q d' M' → Q' v H') → r vs H Q'
def cB (a : CA) (c : CCl) : CR := fun ρ M Q E => a ρ M (fun ds M1 => c ds M1 Q) E
theorem simE_cb {t : TA} {a : CA} {r : List V → Hp → VK → Prop} {c : CCl} (h : SimA K W t a) (hc : SimC K r c) : SimE K W (tCB r t) (cB a c) := ⟨fun hs hh q hq he => h.run hs hh q (fun vs H1 ds M1 x1 r1 rd q1 =>
  hc.run r1 rd q1 fun v H' d' M' x2 r2 rd' q2 => hq v H' d' M' (x1.trans x2) r2 rd' q2) he⟩
theorem ce_callB {id : String} {x : Str} {p pos : Pos} {e : Expr} {es : List Expr} {a : CA} {r : List V → Hp → VK → Prop} {c : CCl} (hc : CallR X (.builtin id) r) (hs : SimC X.K r c) (hm : X.mg x = none) (hv : bootBuiltins x = some (.builtin id)) (ha : CAs X (e :: es) a) (hg : Gl X x := by rfl)
    (hn : x ≠ "__name__" := by decide) (hdb : (x == ("__debug__" : Str)) = false := by decide) (he : starEach (e :: es) X.env = (false, eval e X.env) :: starEach es X.env := by rfl) (hpl : (backTo pos (starEach es X.env)).any (·.1) = false := by rfl) :
    CE X (.Call (.Name x p) (e :: es) [] pos) (cB a c) := fun W tk => by
  obtain ⟨t, pa, s⟩ := ha W tk
  exact ⟨_, pe_callB hc hg hm hv pa hn hdb he hpl, simE_cb s hs⟩
theorem ce_callTy {T : String} {x : Str} {p pos : Pos} {e : Expr} {es : List Expr} {a : CA} {r : List V → Hp → VK → Prop} {c : CCl} (hc : CallR X (.type T) r) (hs : SimC X.K r c) (hm : X.mg x = none) (hv : bootBuiltins x = some (.type T)) (ha : CAs X (e :: es) a) (hg : Gl X x := by rfl)
    (hn : x ≠ "__name__" := by decide) (hdb : (x == ("__debug__" : Str)) = false := by decide) (he : starEach (e :: es) X.env = (false, eval e X.env) :: starEach es X.env := by rfl) (hpl : (backTo pos (starEach es X.env)).any (·.1) = false := by rfl) :
    CE X (.Call (.Name x p) (e :: es) [] pos) (cB a c) := fun W tk => by
  obtain ⟨t, pa, s⟩ := ha W tk
  exact ⟨_, pe_callTy hc hg hm hv pa hn hdb he hpl, simE_cb s hs⟩
/-- len -/
def oLen : CCl := fun ds M Q => match ds with
  | [.tup xs] => Q (.int xs.length) M
  | [.str z] => z.length ≤ sizeLine ∧ Q (.int z.length) M
  | [.ref a] => (match lstOf (M a) with
    | some xs => Q (.int xs.length) M
    | none => False)
  | _ => False
theorem sim_len : SimC K (fun xs H Q => ∃ x n, xs = [x] ∧ LenV K x H n ∧ Q (.int n) H) oLen := ⟨fun {H M vs ds Q Q'} hh hv h hq => by
  unfold oLen at h
  split at h
  · obtain ⟨v, rfl, rd⟩ := hv.one
    obtain ⟨a, ws, rfl, s, r⟩ := rd.tup_inv
    exact ⟨_, _, rfl, .inr ⟨ws, s, r.length⟩, hq _ _ _ _ HX.refl hh Rl.int h⟩
  · obtain ⟨v, rfl, rd⟩ := hv.one
    rw [rd.str_inv.1]
    exact ⟨_, _, rfl, ⟨h.1, rfl⟩, hq _ _ _ _ HX.refl hh Rl.int h.2⟩
  · split at h
    · rename_i xs q
      obtain ⟨v, rfl, rd⟩ := hv.one
      rw [rd.ref_inv]
      obtain ⟨ws, s, r⟩ := hh.read q
      exact ⟨_, _, rfl, .inl ⟨ws, s, r.length⟩, hq _ _ _ _ HX.refl hh Rl.int h⟩
    · exact h.elim
  · exact h.elim⟩
/-- int of an int or a truth value -/
def oInt1 : CCl := fun ds M Q => match ds with
  | [.int i] => Q (.int i) M
  | [.bl b] => Q (.int (if b then 1 else 0)) M
  | _ => False
theorem sim_int1 : SimC K (fun xs H Q => (∃ i, xs = [.int i] ∧ Q (.int i) H) ∨ ∃ k, xs = [.bl k] ∧ Q (.int (if k then 1 else 0)) H) oInt1 := ⟨fun {H M vs ds Q Q'} hh hv h hq => by
  unfold oInt1 at h
  split at h
  · obtain ⟨v, rfl, rd⟩ := hv.one
    rw [rd.int_inv]
    exact .inl ⟨_, rfl, hq _ _ _ _ HX.refl hh Rl.int h⟩
  · obtain ⟨v, rfl, rd⟩ := hv.one
    rw [rd.bl_inv]
    exact .inr ⟨_, rfl, hq _ _ _ _ HX.refl hh Rl.int h⟩
  · exact h.elim⟩
/-- max, min of two ints -/
def oTwo (g : Int → Int → Int) : CCl := fun ds M Q => match ds with
  | [.int i, .int j] => Q (.int (g i j)) M
  | _ => False
theorem sim_two {g : Int → Int → Int} : SimC K (fun xs H Q => ∃ i j, xs = [.int i, .int j] ∧ Q (.int (g i j)) H) (oTwo g) := ⟨fun {H M vs ds Q Q'} hh hv h hq => by
  unfold oTwo at h
  split at h
  · obtain ⟨v, w, rfl, r1, r2⟩ := hv.two
    rw [r1.int_inv, r2.int_inv]
    exact ⟨_, _, rfl, hq _ _ _ _ HX.refl hh Rl.int h⟩
  · exact h.elim⟩
/-- tuple of a list or a tuple; list of such -/
def oTuple : CCl := fun ds M Q => match ds with
  | [.tup xs] => Q (.tup xs) M
  | [.ref a] => (match lstOf (M a) with
    | some xs => Q (.tup xs) M
    | none => False)
  | _ => False
theorem sim_tuple : SimC K (fun xs H Q => ∃ p ys, xs = [.ref p] ∧ ((SqL K H p ys ∧ ∀ l, H l = none → Q (.ref l) (upd H l (.tup ys))) ∨ (SqT K H p ys ∧ Q (.ref p) H))) oTuple := ⟨fun {H M vs ds Q Q'} hh hv h hq => by
  unfold oTuple at h
  split at h
  · obtain ⟨v, rfl, rd⟩ := hv.one
    have rd' := rd
    obtain ⟨a, ws, rfl, s, r⟩ := rd.tup_inv
    exact ⟨a, ws, rfl, .inr ⟨s, hq _ _ _ _ HX.refl hh rd' h⟩⟩
  · split at h
    · rename_i xs q
      obtain ⟨v, rfl, rd⟩ := hv.one
      rw [rd.ref_inv]
      obtain ⟨ws, s, r⟩ := hh.read q
      exact ⟨_, ws, rfl, .inl ⟨s, fun p hp => hq _ _ _ _ (sqT_new hp) (hh.lay hp) (Rl.tup_new r hp) h⟩⟩
    · exact h.elim
  · exact h.elim⟩
def oList : CCl := fun ds M Q => match ds with
  | [.tup xs] => newL xs M Q
  | [.ref a] => (match lstOf (M a) with
    | some xs => newL xs M Q
    | none => False)
  | _ => False
theorem sim_list : SimC K (fun xs H Q => ∃ p ys, xs = [.ref p] ∧ (SqL K H p ys ∨ SqT K H p ys) ∧ ∀ l, H l = none → Q (.ref l) (upd H l (.lst ys))) oList := ⟨fun {H M vs ds Q Q'} hh hv h hq => by
  unfold oList at h
  split at h
  · obtain ⟨v, rfl, rd⟩ := hv.one
    obtain ⟨a, ws, rfl, s, r⟩ := rd.tup_inv
    exact ⟨a, ws, rfl, .inr s, fun p hp => newL_run hh r hp h hq⟩
  · split at h
    · rename_i xs q
      obtain ⟨v, rfl, rd⟩ := hv.one
      rw [rd.ref_inv]
      obtain ⟨ws, s, r⟩ := hh.read q
      exact ⟨_, ws, rfl, .inl s, fun p hp => newL_run hh r hp h hq⟩
    · exact h.elim
  · exact h.elim⟩
/-- str of an int -/
def oStr : CCl := fun ds M Q => match ds with
  | [.int i] => i.natAbs.log2 < 1920 ∧ PyData.strOk (toString i : Str) = true ∧ Q (.str (toString i)) M
  | _ => False
theorem sim_str : SimC K (fun xs H Q => ∃ i, xs = [.int i] ∧ i.natAbs.log2 < 1920 ∧ Q (.str (toString i)) H) oStr := ⟨fun {H M vs ds Q Q'} hh hv h hq => by
  unfold oStr at h
  split at h
  · obtain ⟨v, rfl, rd⟩ := hv.one
    rw [rd.int_inv]
    exact ⟨_, rfl, h.1, hq _ _ _ _ HX.refl hh (Rl.strI h.2.1) h.2.2⟩
  · exact h.elim⟩
/-! ### isinstance -/
def tyD (M : Mm) : D → Option String
  | .non => some "NoneType"
  | .bl _ => some "bool"
  | .int _ => some "int"
  | .str _ => some "str"
  | .tup _ => some "tuple"
  | .ref a => (match M a with
    | some (.lst _) => some "list"
    | some (.rdl _) => some "list"
    | some (.dK _) => some "dict"
    | some (.dT _) => some "dict"
    | _ => none)
  | .ty _ => none
def oIsi : CCl := fun ds M Q => match ds with
  | [x, .ty n] => ∃ T b, tyD M x = some T ∧ kitB T n = some b ∧ Q (.bl b) M
  | _ => False
theorem tyD_ok {H : Hp} {M : Mm} {d : D} {v : V} {T : String} (hh : HR K M H) (h : Rl K H d v) (e : tyD M d = some T) : TyX K H v (.type T) := by
  cases d with
  | non => cases e; rw [h.non_inv]; exact .base .non
  | bl b => cases e; rw [h.bl_inv]; exact .base (.bl b)
  | int i => cases e; rw [h.int_inv]; exact .base (.int i)
  | str x => cases e; rw [h.str_inv.1]; exact .base (.str x)
  | ty n => cases e
  | tup ds =>
    cases e
    obtain ⟨a, ws, rfl, s, r⟩ := h.tup_inv
    rcases s with (s | ⟨o, s⟩) | ⟨o, its, n, hk, hc, _⟩
    · exact .base (.tup s)
    · exact .fTuple s
    · exact .kTuple hk hc
  | ref a =>
    rw [h.ref_inv]
    simp only [tyD] at e
    split at e
    · rename_i xs q; cases e; obtain ⟨vs, e1, _⟩ := hh a _ q; exact .base (.lst e1)
    · rename_i xs q
      cases e
      obtain ⟨vs, e1, _⟩ := hh a _ q
      rcases e1 with e1 | ⟨o, e1⟩
      · exact .base (.lst e1)
      · exact .base (.frz e1)
    · rename_i xs q; cases e; obtain ⟨vs, e1, _⟩ := hh a _ q; exact .base (.dK e1)
    · rename_i xs q; cases e; obtain ⟨vs, e1, _⟩ := hh a _ q; exact .base (.dT e1)
    · cases e
theorem sim_isi : SimC K (rIsi K) oIsi := ⟨fun {H M vs ds Q Q'} hh hv h hq => by
  unfold oIsi at h
  split at h
  · obtain ⟨T, b, e1, e2, h⟩ := h
    obtain ⟨v, w, rfl, r1, r2⟩ := hv.two
    simp only [Rl] at r2
    subst r2
    exact ⟨_, _, _, _, b, rfl, ClsV.ty _, tyD_ok hh r1 e1, kit_ty e2, hq _ _ _ _ HX.refl hh Rl.bl h⟩
  · exact h.elim⟩
/-- a built-in class by its name -/
theorem ce_tyname {x : Str} {n : String} {pos : Pos} (hm : X.mg x = none) (hv : bootBuiltins x = some (.type n)) (hg : Gl X x := by rfl) (hn : x ≠ "__name__" := by decide) (hdb : (x == ("__debug__" : Str)) = false := by decide) : CE X (.Name x pos) (cC (.ty n)) :=
  fun _ _ => ⟨_, pe_bltn (v := .ty n) hg hm hv rfl hn hdb, simE_const fun _ => by simp only [Rl]⟩
/-! ### methods of lists -/
abbrev CM := D → List D → Mm → CK → Prop
structure SimM (K : PySem.W.Frag) (T : String) (r : V → List V → Hp → VK → Prop) (c : CM) : Prop where
  run : ∀ {H : Hp} {M : Mm} {x : V} {d : D} {vs : List V} {ds : List D} {Q : CK} {Q' : VK}, HR K M H → Rl K H d x → RlL K H ds vs → c d ds M Q →
    (∀ v H' d' M', HX K H H' → HR K M' H' → Rl K H' d' v → Q d' M' → Q' v H') → r x vs H Q'
/-- the receiver's type is known ahead of the arguments -/
def cM (T : String) (c : CR) (a : CA) (m : CM) : CR := fun ρ M Q E => c ρ M (fun d M1 => tyD M1 d = some T ∧ a ρ M1 (fun ds M2 => m d ds M2 Q) E) E
theorem tyD_tyV {H : Hp} {M : Mm} {d : D} {v : V} {T : String} (hh : HR K M H) (h : Rl K H d v) (e : tyD M d = some T) (hT : T = "list" ∨ T = "str" ∨ T = "dict") : tyV K T v H := by
  cases d with
  | non => cases e; rcases hT with h | h | h <;> exact absurd h (by decide)
  | bl b => cases e; rcases hT with h | h | h <;> exact absurd h (by decide)
  | int i => cases e; rcases hT with h | h | h <;> exact absurd h (by decide)
  | str x => cases e; rw [h.str_inv.1]; rfl
  | ty n => cases e
  | tup ds => cases e; rcases hT with h | h | h <;> exact absurd h (by decide)
  | ref a =>
    rw [h.ref_inv]
    simp only [tyD] at e
    split at e
    · rename_i xs q; cases e; obtain ⟨vs, e1, _⟩ := hh a _ q; exact .inl ⟨rfl, vs, SqL.of e1⟩
    · rename_i xs q; cases e; obtain ⟨vs, e1, _⟩ := hh a _ q; exact .inl ⟨rfl, vs, .inl e1⟩
    · rename_i xs q; cases e; obtain ⟨vs, e1, _⟩ := hh a _ q; exact .inr (.inr (.inl ⟨rfl, .inl ⟨vs, e1⟩⟩))
    · rename_i xs q; cases e; obtain ⟨vs, e1, _⟩ := hh a _ q; exact .inr (.inr (.inl ⟨rfl, .inr ⟨vs, e1⟩⟩))
    · cases e
section
variable {T id : String} {name : Str} {r : V → List V → Hp → VK → Prop} {c : CM} {o e : Expr} {es : List Expr} {co : CR} {ca : CA} {apos cpos : Pos}
theorem ce_meth (hT : T = "list" ∨ T = "str" ∨ T = "dict") (pa : PlainAttrs T) (slot : Slot T name id) (hty : typeOf (.builtin id) = pure (.type "method_descriptor")) (hm : MtR X id r) (hs : SimM X.K T r c) (ho : CE X o co) (ha : CAs X (e :: es) ca)
    (hbase : attributeBase o name X.env (eval o X.env) = eval o X.env := by rfl)
    (hfew : ((backTo cpos (starEach (e :: es) X.env)).all (fun x => !x.1) && (backToKw cpos (keywordEach [] X.env)).all (fun x => x.1.isSome)
      && decide ((e :: es).length + ([] : List Keyword).length + (if ([] : List Keyword).isEmpty then 0 else 1) < 30)) = true := by rfl)
    (hline : (apos.endLine == cpos.line) = true := by rfl) (he : starEach (e :: es) X.env = (false, eval e X.env) :: starEach es X.env := by rfl) (hpl : (backTo cpos (starEach es X.env)).any (·.1) = false := by rfl) :
    CE X (.Call (.Attribute o name apos) (e :: es) [] cpos) (cM T co ca c) := fun W tk => by
  obtain ⟨t, p, s⟩ := ho W tk
  obtain ⟨t', p', s'⟩ := ha W tk
  refine ⟨_, pe_bm pa slot hty hm p p' hbase hfew hline he hpl, ⟨fun hs' hh hc hq hx => s.run hs' hh hc (fun v H1 d M1 x1 r1 rd q => ?_) hx⟩⟩
  refine ⟨tyD_tyV r1 rd q.1 hT, ?_⟩
  refine s'.run (hs'.mono x1) r1 q.2 (fun vs H2 ds M2 x2 r2 rds q2 => ?_) fun C dx H' M' x3 r3 e3 => hx C dx H' M' (x1.trans x3) r3 e3
  exact hs.run r2 (rd.mono x2) rds q2 fun v' H' d' M' x3 r3 rd' q3 => hq v' H' d' M' ((x1.trans x2).trans x3) r3 rd' q3
end
/-- xs.append(y) -/
def mAppend : CM := fun x ds M Q => match x, ds with
  | .ref a, [d] => (match M a with
    | some (.lst xs) => xs.length < sizeLine ∧ Q .non (put M a (.lst (xs ++ [d])))
    | _ => False)
  | _, _ => False
theorem lst_upd {H : Hp} {M : Mm} {a : Addr} {xs : List D} {vs ws : List V} (hh : HR K M H) (e : H a = some (.lst vs)) (r : RlL K H xs ws) : HX K H (upd H a (.lst ws)) ∧ HR K (put M a (.lst xs)) (upd H a (.lst ws)) := by
  have x : HX K H (upd H a (.lst ws)) := sqT_upd e rfl
  exact ⟨x, hh.upd (o := .lst xs) x ⟨ws, upd_same, r.mono x⟩⟩
theorem sim_append : SimM K "list" rAppend mAppend := ⟨fun {H M x d vs ds Q Q'} hh hx hv h hq => by
  unfold mAppend at h
  split at h
  · split at h
    · rename_i xs q
      obtain ⟨v, rfl, rd⟩ := hv.one
      obtain ⟨ws, e, r⟩ := hh.lst q
      obtain ⟨x1, r1⟩ := lst_upd hh e (r.append (RlL.cons rd RlL.nil))
      rw [hx.ref_inv]
      exact ⟨_, ws, v, rfl, rfl, e, by rw [← r.length]; exact h.1, hq _ _ _ _ x1 r1 Rl.non h.2⟩
    · exact h.elim
  · exact h.elim⟩
/-- xs.pop(i) -/
def mPopAt : CM := fun x ds M Q => match x, ds with
  | .ref a, [.int i] => (match M a with
    | some (.lst xs) => -(2 ^ 63) ≤ i ∧ i < 2 ^ 63 ∧ ∃ k d, seqIndex? i xs.length = some k ∧ xs[k]? = some d ∧ Q d (put M a (.lst (xs.eraseIdx k)))
    | _ => False)
  | _, _ => False
theorem RlL.eraseIdx {H : Hp} : ∀ {ds : List D} {vs : List V} (n : Nat), RlL K H ds vs → RlL K H (ds.eraseIdx n) (vs.eraseIdx n)
  | [], vs, n, h => by simp only [RlL] at h; subst h; simp only [List.eraseIdx_nil]; exact RlL.nil
  | d :: ds, vs, n, h => by
    simp only [RlL] at h
    obtain ⟨v, r, rfl, h1, h2⟩ := h
    cases n with
    | zero => simpa using h2
    | succ n => simpa using RlL.cons h1 (RlL.eraseIdx n h2)
theorem sim_popAt : SimM K "list" rPopAt mPopAt := ⟨fun {H M x d vs ds Q Q'} hh hx hv h hq => by
  unfold mPopAt at h
  split at h
  · split at h
    · rename_i xs q
      obtain ⟨h1, h2, k, d, e1, e2, h⟩ := h
      obtain ⟨v, rfl, rd⟩ := hv.one
      rw [rd.int_inv, hx.ref_inv]
      obtain ⟨ws, e, r⟩ := hh.lst q
      obtain ⟨y, ey, ry⟩ := r.get e2
      obtain ⟨x1, r1⟩ := lst_upd hh e (r.eraseIdx k)
      exact ⟨_, ws, _, k, y, rfl, rfl, e, h1, h2, by rw [← r.length]; exact e1, ey, hq _ _ _ _ x1 r1 (ry.mono x1) h⟩
    · exact h.elim
  · exact h.elim⟩
/-- xs[i] = v -/
def gIxL (co ci : CR) : CG := fun v ρ M Q E => co ρ M (fun o M1 => ci ρ M1 (fun i M2 => match o, i with
  | .ref a, .int k => (match M2 a with
    | some (.lst xs) => (match ixN xs.length k with
      | some j => Q ρ (put M2 a (.lst (xs.set j v)))
      | none => False)
    | _ => False)
  | _, _ => False) E) E
theorem RlL.set {H : Hp} {d : D} {v : V} (h : Rl K H d v) : ∀ {ds : List D} {vs : List V} (n : Nat), RlL K H ds vs → RlL K H (ds.set n d) (vs.set n v)
  | [], vs, n, q => by simp only [RlL] at q; subst q; simp only [List.set_nil]; exact RlL.nil
  | e :: ds, vs, n, q => by
    simp only [RlL] at q
    obtain ⟨w, r, rfl, h1, h2⟩ := q
    cases n with
    | zero => simpa using RlL.cons h h2
    | succ n => simpa using RlL.cons h1 (RlL.set h n h2)
theorem cg_ixL {o i : Expr} {co ci : CR} {pos : Pos} (ho : CE X o co) (hi : CE X i ci)
    (ha : ∀ v, assign (.Subscript o i pos) X.env v = (do
      let ov ← holding [v] (eval o X.env)
      let iv ← holding [v, ov] (eval i X.env)
      standAt pos
      holding [v, ov, iv] (setItem ov iv v)
      release [v, ov, iv] []) := by intro _; rfl) : CGt X (.Subscript o i pos) (gIxL co ci) := fun W tk => by
  obtain ⟨t, p, s⟩ := ho W tk
  obtain ⟨t', p', s'⟩ := hi W tk
  refine ⟨_, pg_sub p p' set_list ha, ⟨fun {σ H ρ M d v Q E Q'} hs hh rd hc hq hx => s.run hs hh hc (fun ov H1 od M1 x1 r1 ro q => ?_) hx⟩⟩
  refine s'.run (hs.mono x1) r1 q (fun iv H2 id M2 x2 r2 ri q2 => ?_) fun C dx H' M' x3 r3 e3 => hx C dx H' M' (x1.trans x3) r3 e3
  split at q2
  · split at q2
    · rename_i xs e1
      split at q2
      · rename_i j e2
        rw [ro.ref_inv, ri.int_inv]
        obtain ⟨ws, e, r⟩ := r2.lst e1
        have x12 := x1.trans x2
        obtain ⟨x3, r3⟩ := lst_upd r2 e (RlL.set (rd.mono x12) j r)
        exact ⟨_, ws, _, j, rfl, rfl, e, by rw [← r.length]; exact e2, hq _ _ _ _ (x12.trans x3) r3 (hs.mono (x12.trans x3)) q2⟩
      · exact q2.elim
    · exact q2.elim
  · exact q2.elim
end
end CL

/-! THE C LAYER: what is walked, for, while, list comprehensions. -/
namespace CL
open PySem PySem.Spec PyProof.Rows L2
section
variable {K : PySem.W.Frag} {W : WX} {X : Cx}
/-! ### targets of loops: a name, names -/
inductive Tg where
  | one (i : Nat)
  | many (is : List Nat)
def gT : Tg → D → Env → Option Env
  | .one i, d, ρ => some (ρ.set i (some d))
  | .many is, .tup ds, ρ => gNames is ds ρ
  | .many _, _, _ => none
def Tg.slots : Tg → List Nat
  | .one i => [i]
  | .many is => is
theorem wipe_get {σ : St} {j : Nat} : ∀ {vs : List Nat}, (wipe σ vs)[j]? = if j ∈ vs then (σ[j]?).map fun _ => none else σ[j]?
  | [] => by simp [wipe]
  | v :: vs => by
    unfold wipe
    by_cases hv : v = j
    · subst hv
      rw [List.getElem?_set_self', wipe_get (vs := vs)]
      simp
      split
      · simp [Option.map_map]; rfl
      · rfl
    · rw [List.getElem?_set_ne hv, wipe_get (vs := vs)]
      have : (j = v) ↔ False := ⟨fun e => hv e.symm, False.elim⟩
      simp [this]
theorem wipe_set {σ : St} {i : Nat} {x : Option V} {vs : List Nat} (h : i ∈ vs) : wipe (σ.set i x) vs = wipe σ vs := by
  apply List.ext_getElem?
  intro j
  rw [wipe_get, wipe_get]
  by_cases hj : i = j
  · subst hj
    rw [if_pos h, if_pos h, List.getElem?_set_self']
    cases σ[i]? <;> rfl
  · rw [List.getElem?_set_ne hj]
structure SimTg (K : PySem.W.Frag) (t : TG) (g : Tg) : Prop where
  run : ∀ {σ : St} {H : Hp} {ρ ρ' : Env} {d : D} {v : V} {Q' : St → Hp → Prop}, Sl K H ρ σ → Rl K H d v → gT g d ρ = some ρ' →
    (∀ σ', Sl K H ρ' σ' → (∀ vs, (∀ i ∈ g.slots, i ∈ vs) → wipe σ' vs = wipe σ vs) → Q' σ' H) → t v σ H Q'
def CTg (X : Cx) (e : Expr) (g : Tg) : Prop := ∃ t, PG X e t ∧ SimTg X.K t g
def SimTgs (K : PySem.W.Frag) (t : TGs) (is : List Nat) : Prop := ∀ (σ : St) (H : Hp) (ρ ρ' : Env) (ds : List D) (vs : List V) (Q' : St → Hp → Prop), Sl K H ρ σ → RlL K H ds vs → gNames is ds ρ = some ρ' →
  (∀ σ', Sl K H ρ' σ' → (∀ ws, (∀ i ∈ is, i ∈ ws) → wipe σ' ws = wipe σ ws) → Q' σ' H) → t vs σ H Q'
/-- the canonical reading of names one after another, the same in all contexts -/
def tgsOf : List Nat → TGs
  | [] => gNil
  | i :: is => gCons (gName i) (tgsOf is)
theorem simTgs : ∀ is : List Nat, SimTgs K (tgsOf is) is
  | [] => by
    intro σ H ρ ρ' ds vs Q' hs hr h hq
    cases ds with
    | nil => simp only [RlL] at hr; subst hr; cases h; exact ⟨rfl, hq _ hs fun _ _ => rfl⟩
    | cons => cases h
  | i :: is => by
    intro σ H ρ ρ' ds vs Q' hs hr h hq
    cases ds with
    | nil => cases h
    | cons d ds =>
      simp only [RlL] at hr
      obtain ⟨v, r, rfl, h1, h2⟩ := hr
      refine ⟨v, r, rfl, simTgs is _ _ _ _ _ _ _ (hs.set i h1) h2 h fun σ' sl hw => hq σ' sl fun ws hi => ?_⟩
      rw [hw ws fun j hj => hi j (List.mem_cons_of_mem _ hj), wipe_set (hi i List.mem_cons_self)]
/-- the canonical reading of a target -/
def tgOf (K : PySem.W.Frag) : Tg → TG
  | .one i => gName i
  | .many is => gTup K is.length (tgsOf is)
theorem simTg (g : Tg) : SimTg K (tgOf K g) g := ⟨fun {σ H ρ ρ' d v Q'} hs hr h hq => by
  cases g with
  | one i => cases h; exact hq _ (hs.set i hr) fun vs hi => wipe_set (hi i List.mem_cons_self)
  | many is =>
    cases d with
    | tup ds =>
      obtain ⟨a, vs, rfl, s, r⟩ := hr.tup_inv
      exact ⟨a, vs, rfl, s, by rw [← r.length]; exact gNames_len h, simTgs is _ _ _ _ _ _ _ hs r h hq⟩
    | _ => cases h⟩
theorem pgs_nil' : PGs X [] (tgsOf []) := pgs_nil
theorem pgs_cons' {x : Str} {pos : Pos} {es : List Expr} {is : List Nat} (i : Nat) (hN : X.N.Nodup) (h : PGs X es (tgsOf is)) (hi : X.N[i]? = some x := by rfl) (hx : Loc X.env.scope x := by first | exact .inl rfl | exact .inr rfl)
    (hf : X.fn x = true ∨ X.env.scope.names.lookup x = some .local := by first | exact .inl rfl | exact .inr rfl) (hs : (assignEach (.Name x pos :: es) X.env).map (·.2) = assign (.Name x pos) X.env :: (assignEach es X.env).map (·.2) := by rfl) : PGs X (.Name x pos :: es) (tgsOf (i :: is)) :=
  pgs_cons (pg_name (i := i) hN hi hx hf) h hs
theorem pg_one {x : Str} {pos : Pos} (i : Nat) (hN : X.N.Nodup) (hi : X.N[i]? = some x := by rfl) (hx : Loc X.env.scope x := by first | exact .inl rfl | exact .inr rfl)
    (hf : X.fn x = true ∨ X.env.scope.names.lookup x = some .local := by first | exact .inl rfl | exact .inr rfl) : PG X (.Name x pos) (tgOf X.K (.one i)) := pg_name (i := i) hN hi hx hf
theorem pg_many {es : List Expr} {is : List Nat} {k : Nat} {pos : Pos} (hc : X.calm = true) (h : PGs X es (tgsOf is)) (hn : (assignEach es X.env).length = is.length := by rfl) (hst : (assignEach es X.env).findIdx? (·.1) = none := by rfl) :
    PG X (.Tuple es k pos) (tgOf X.K (.many is)) := pg_tup hc h hn hst

/-! ### what is walked -/
abbrev CI := Env → Mm → ((Mm → Prop) → List D → Mm → Prop) → CX → Prop
/-- J walks ds, as long as chk holds of the store -/
def ItOk (K : PySem.W.Frag) (J : It) (chk : Mm → Prop) (ds : List D) (H : Hp) : Prop := ∀ i H' M', HX K H H' → HR K M' H' → chk M' →
  (i < ds.length → J.go i H') ∧ (∀ x H'', J.yld i H' x H'' → i < ds.length → H'' = H' ∧ ∃ d, ds[i]? = some d ∧ Rl K H' d x) ∧ (ds.length ≤ i → J.stop i H')
structure SimI (K : PySem.W.Frag) (W : WX) (t : TI) (c : CI) : Prop where
  run : ∀ {σ : St} {H : Hp} {ρ : Env} {M : Mm} {R : (Mm → Prop) → List D → Mm → Prop} {E : CX} {R' : It → Hp → Prop}, Sl K H ρ σ → HR K M H → c ρ M R E →
    (∀ J H' chk ds M', HX K H H' → HR K M' H' → ItOk K J chk ds H' → R chk ds M' → R' J H') → (∀ C dx H' M', HX K H H' → HR K M' H' → E C dx M' → W (.ref C) dx σ H') → t σ H R'
def CIt (X : Cx) (tg e : Expr) (c : CI) : Prop := ∀ W, Takes X W → ∃ t, PI X tg e t ∧ SimI X.K W t c
/-- a list, a tuple, a text: the reading of what is walked, by what the value is -/
def iAny (K : PySem.W.Frag) (te : TE) : TI := fun σ H R => te σ H fun x H1 => (∃ a xs, x = .ref a ∧ SqT K H1 a xs ∧ R (Itt K a) H1) ∨ (∃ a xs, x = .ref a ∧ SqL K H1 a xs ∧ R (Itl K a) H1) ∨ ∃ z, x = .str z ∧ R (Its z) H1
theorem pi_any {tg e : Expr} {te : TE} (he : PE X e te) : PI X tg e (iAny X.K te) := ⟨fun pins s σ H R I h => thn (he.run pins s σ H _ I h) fun v s1 hv => by
  obtain ⟨x, H1, I1, r1, q1⟩ := hv
  have fresh : ∀ b ∈ [s1.heap.objs.size], FpOk X pins H1 b := fun b hb => by
    rw [List.mem_singleton] at hb
    subst hb
    exact I1.fpOk (Nat.le_refl _) (I1.hok.fresh (Nat.le_refl _))
  rcases q1 with ⟨a, xs, rfl, hq, q⟩ | ⟨a, xs, rfl, hq, q⟩ | ⟨z, rfl, q⟩
  · cases r1
    obtain ⟨its, rv, p, hz⟩ := I1.tuple hq
    refine wpAny_pyIter_tuple (show s1.heap.IsTuple a its.toArray from p) ⟨_, _, _, _, H1, rfl, ?_, turn_tuple a _, ⟨_, Heap.get?_push_size _ rfl, rfl, rfl⟩, fresh, q⟩
    exact I1.kept (t' := s1.toks) fun b o eb => Heap.get?_push_of_some _ eb
  · cases r1
    obtain ⟨its, rv, p, hz⟩ := I1.list hq
    refine wpAny_pyIter_list p.isList ⟨_, _, _, _, H1, rfl, ?_, turn_list a _, ⟨_, Heap.get?_push_size _ rfl, rfl, rfl⟩, fresh, q⟩
    exact I1.kept (t' := s1.toks) fun b o eb => Heap.get?_push_of_some _ eb
  · obtain ⟨t, rfl⟩ := r1
    by_cases ha : z.cps.all (· < 128) = true
    · exact wpAny_pyIter_ascii ha (pi_one (tk := s1.toks) I1 _ (turn_str _ z t "str_ascii_iterator" (.inl rfl)) ⟨_, Heap.get?_push_size _ rfl, rfl, rfl⟩ q)
    · exact wpAny_pyIter_wide (by simpa using ha) (pi_one (tk := s1.toks) I1 _ (turn_str _ z t "str_iterator" (.inr rfl)) ⟨_, Heap.get?_push_size _ rfl, rfl, rfl⟩ q)⟩
def chkT : Mm → Prop := fun _ => True
/-- a list, a tuple, a text -/
def iSeq (c : CR) : CI := fun ρ M R E => c ρ M (fun d M1 => match d with
  | .tup ds => R chkT ds M1
  | .str z => R chkT (z.cps.toList.map fun c => .str ⟨#[c]⟩) M1
  | .ref a => (match lstOf (M1 a) with
    | some ds => R (fun M' => lstOf (M' a) = some ds) ds M1
    | none => False)
  | _ => False) E
theorem ci_seq {tg e : Expr} {c : CR} (h : CE X e c) : CIt X tg e (iSeq c) := fun W tk => by
  obtain ⟨t, p, s⟩ := h W tk
  refine ⟨_, pi_any p, ⟨fun {σ H ρ M R E R'} hs hh hc hq hx => s.run hs hh hc (fun v H1 d M1 x1 r1 rd q => ?_) hx⟩⟩
  cases d with
  | tup ds =>
    obtain ⟨a, vs, rfl, sq, r⟩ := rd.tup_inv
    refine .inl ⟨a, vs, rfl, sq, hq _ H1 chkT ds M1 x1 r1 (fun i H' M' x _ _ => ?_) q⟩
    have s' := x.tup a vs sq
    refine ⟨fun hi => ?_, fun y H'' hy hi => ?_, fun hi => ⟨vs, s', by rw [← r.length]; exact hi⟩⟩
    · obtain ⟨v, e, _⟩ := r.get (List.getElem?_eq_getElem hi)
      exact ⟨vs, v, s', e⟩
    · obtain ⟨v, e, rv⟩ := r.get (List.getElem?_eq_getElem hi)
      refine ⟨hy.1, _, List.getElem?_eq_getElem hi, ?_⟩
      have z := hy.2 vs s'
      rw [e] at z; cases z
      exact rv.mono x
  | str z =>
    obtain ⟨rfl, o⟩ := rd.str_inv
    refine .inr (.inr ⟨z, rfl, hq _ H1 chkT _ M1 x1 r1 (fun i H' M' x _ _ => ?_) q⟩)
    have hl : (z.cps.toList.map fun c => D.str ⟨#[c]⟩).length = z.cps.size := by simp
    rw [hl]
    refine ⟨fun hi => hi, fun y H'' hy hi => ?_, fun hi => hi⟩
    obtain ⟨e1, c, hc, rfl⟩ := hy
    refine ⟨e1, .str ⟨#[c]⟩, by simp [List.getElem?_map, hc], Rl.strI (strOk_get o ?_)⟩
    have := Array.mem_of_getElem? hc
    simpa using this
  | ref a =>
    cases q2 : lstOf (M1 a) with
    | none => simp only [q2] at q
    | some ds =>
      simp only [q2] at q
      obtain ⟨vs, sq, r⟩ := r1.read q2
      rw [rd.ref_inv]
      refine .inr (.inl ⟨a, vs, rfl, sq, hq _ H1 _ ds M1 x1 r1 (fun i H' M' x hr' ck => ?_) q⟩)
      obtain ⟨ws, s', r'⟩ := hr'.read ck
      refine ⟨fun hi => ?_, fun y H'' hy hi => ?_, fun hi => ⟨ws, s', by rw [← r'.length]; exact hi⟩⟩
      · obtain ⟨v, e, _⟩ := r'.get (List.getElem?_eq_getElem hi)
        exact ⟨ws, v, s', e⟩
      · obtain ⟨v, e, rv⟩ := r'.get (List.getElem?_eq_getElem hi)
        refine ⟨hy.1, _, List.getElem?_eq_getElem hi, ?_⟩
        have z := hy.2 ws s'
        rw [e] at z; cases z
        exact rv
  | _ => exact q.elim
/-- range(n), range(a, b) -/
def rngD (lo : Int) (n : Nat) : List D := (List.range n).map fun i => .int (lo + (i : Nat))
def iRange1 (c : CR) : CI := fun ρ M R E => c ρ M (fun d M1 => match d with
  | .int j => (-(2 ^ 62) ≤ j ∧ j < 2 ^ 62) ∧ R chkT (rngD 0 j.toNat) M1
  | _ => False) E
def iRange2 (c c' : CR) : CI := fun ρ M R E => c ρ M (fun d M1 => c' ρ M1 (fun d' M2 => match d, d' with
  | .int i, .int j => (-(2 ^ 62) ≤ i ∧ i < 2 ^ 62 ∧ -(2 ^ 62) ≤ j ∧ j < 2 ^ 62) ∧ R chkT (rngD i (j - i).toNat) M2
  | _, _ => False) E) E
theorem itOk_rng {lo : Int} {n : Nat} {H : Hp} : ItOk K (Itr lo n) chkT (rngD lo n) H := fun i H' M' x _ _ => by
  have hl : (rngD lo n).length = n := by simp [rngD]
  rw [hl]
  refine ⟨fun hi => hi, fun y H'' hy hi => ⟨hy.1, .int (lo + (i : Nat)), ?_, ?_⟩, fun hi => hi⟩
  · simp [rngD, hi]
  · rw [hy.2]; exact Rl.int
theorem ci_range1 {tg a : Expr} {c : CR} {p pos : Pos} (hm : X.mg "range" = none) (ha : CE X a c) (hg : Gl X "range" := by rfl) (h1 : starEach (a :: []) X.env = (false, eval a X.env) :: starEach [] X.env := by rfl) (hs : starEach [a] X.env = [(false, eval a X.env)] := by rfl) :
    CIt X tg (.Call (.Name "range" p) [a] [] pos) (iRange1 c) := fun W tk => by
  obtain ⟨t, pa, s⟩ := ha W tk
  refine ⟨_, pi_range1 hg hm (pa_cons pa pa_nil h1) hs, ⟨fun {σ H ρ M R E R'} hs hh hc hq hx => s.run hs hh hc (fun v H1 d M1 x1 r1 rd q => ?_) hx⟩⟩
  cases d with
  | int j => rw [rd.int_inv]; exact ⟨j, rfl, q.1.1, q.1.2, hq _ _ _ _ _ x1 r1 itOk_rng q.2⟩
  | _ => exact q.elim
theorem ci_range2 {tg a b : Expr} {c c' : CR} {p pos : Pos} (hm : X.mg "range" = none) (ha : CE X a c) (hb : CE X b c') (hg : Gl X "range" := by rfl) (h1 : starEach (a :: [b]) X.env = (false, eval a X.env) :: starEach [b] X.env := by rfl) (h2 : starEach (b :: []) X.env = (false, eval b X.env) :: starEach [] X.env := by rfl)
    (hs : starEach [a, b] X.env = [(false, eval a X.env), (false, eval b X.env)] := by rfl) (hs2 : starEach [b] X.env = [(false, eval b X.env)] := by rfl) :
    CIt X tg (.Call (.Name "range" p) [a, b] [] pos) (iRange2 c c') := fun W tk => by
  obtain ⟨t, pa, s⟩ := ha W tk
  obtain ⟨t', pb, s'⟩ := hb W tk
  refine ⟨_, pi_range2 hg hm (pa_cons pa (pa_cons pb pa_nil h2) h1) hs hs2, ⟨fun {σ H ρ M R E R'} hs hh hc hq hx => s.run hs hh hc (fun v H1 d M1 x1 r1 rd q => ?_) hx⟩⟩
  refine s'.run (hs.mono x1) r1 q (fun v' H2 d' M2 x2 r2 rd' q2 => ?_) fun C dx H' M' x3 r3 e3 => hx C dx H' M' (x1.trans x3) r3 e3
  cases d with
  | int i =>
    cases d' with
    | int j =>
      rw [rd.int_inv, rd'.int_inv]
      exact ⟨i, j, rfl, q2.1, hq _ _ _ _ _ (x1.trans x2) r2 itOk_rng q2.2⟩
    | _ => exact q2.elim
  | _ => exact q2.elim
/-! ### for -/
def forC (chk : Mm → Prop) (g : Tg) (b : CS) (Dc : CEnds) : List D → Env → Mm → Prop
  | [], ρ, M => chk M ∧ Dc.nx ρ M
  | d :: ds, ρ, M => chk M ∧ (match gT g d ρ with
    | some ρ' => b { Dc with nx := forC chk g b Dc ds } ρ' M
    | none => False)
def cFor (ci : CI) (g : Tg) (b : CS) : CS := fun Dc ρ M => ci ρ M (fun chk ds M1 => forC chk g b Dc ds ρ M1) fun C dx M' => Dc.xc C dx ρ M'
theorem forC_chk {chk : Mm → Prop} {g : Tg} {b : CS} {Dc : CEnds} {ds : List D} {ρ : Env} {M : Mm} (h : forC chk g b Dc ds ρ M) : chk M := by
  cases ds with
  | nil => exact h.1
  | cons d ds => exact h.1
theorem cs_for {tg iter : Expr} {body : List Stmt} {ci : CI} {g : Tg} {b : CS} {pos : Pos} (hp : PassesOwn (model X.prog X.w) X.A X.env X.xe) (hc : X.calm = true) (hi : CIt X tg iter ci) (hg : PG X tg (tgOf X.K g)) (hb : CSs X body b)
    (hs : ∀ x, foldedSetIterable iter X.env x = pure x := by intro _; rfl) : CSt X (.For tg iter body [] pos) (cFor ci g b) := fun W tk => by
  obtain ⟨ti, pi, si⟩ := hi W tk
  obtain ⟨tb, pb, sb⟩ := hb W tk
  refine ⟨_, ps_for hp hc pi hg pb hs, ⟨fun {σ H ρ M Dv Dc} hs hh hc hn hret hx => si.run hs hh hc (fun J H1 chk ds M1 x1 r1 ok q => ?_) fun C dx H' M' x r e => hx C dx _ H' _ M' x r (hs.mono x) e⟩⟩
  refine ⟨fun i m σ' H' => ∃ ρ' M', HX X.K H1 H' ∧ HR X.K M' H' ∧ Sl X.K H' ρ' σ' ∧ i + m = ds.length ∧ forC chk g b Dc (ds.drop i) ρ' M', ⟨ds.length, ρ, M1, HX.refl, r1, hs.mono x1, by omega, by simpa using q⟩, ?_⟩
  rintro i m σ' H' ⟨ρ', M', x2, r2, s2, hm, q2⟩
  obtain ⟨k1, k2, k3⟩ := ok i H' M' x2 r2 (forC_chk q2)
  by_cases hi : i < ds.length
  · refine .inr ⟨k1 hi, fun σ3 H3 => ∃ ρ3 M3, HX X.K H1 H3 ∧ HR X.K M3 H3 ∧ Sl X.K H3 ρ3 σ3 ∧ forC chk g b Dc (ds.drop (i + 1)) ρ3 M3, ?_, ?_⟩
    · rintro σ3 H3 ⟨ρ3, M3, x3, r3, s3, q3⟩
      exact ⟨m - 1, by omega, ρ3, M3, x3, r3, s3, by omega, q3⟩
    · intro y H'' hy
      obtain ⟨rfl, d, hd, rd⟩ := k2 y H'' hy hi
      have e : ds.drop i = d :: ds.drop (i + 1) := by
        rw [List.drop_eq_getElem_cons hi]
        congr 1
        exact Option.some.inj ((List.getElem?_eq_getElem hi).symm.trans hd)
      rw [e] at q2
      have q3 := q2.2
      cases hg' : gT g d ρ' with
      | none => simp only [hg'] at q3
      | some ρ2 =>
        simp only [hg'] at q3
        refine (simTg g).run s2 rd hg' fun σ2 s3 _ => ?_
        refine sb.run (Dc := { Dc with nx := forC chk g b Dc (ds.drop (i + 1)) }) s3 r2 q3 (fun σ4 H4 ρ4 M4 x4 r4 s4 q4 => ?_) (fun v H4 d4 M4 x4 r4 rd4 q4 => ?_) fun C dx σ4 H4 ρ4 M4 x4 r4 s4 e4 => ?_
        · exact ⟨ρ4, M4, x2.trans x4, r4, s4, q4⟩
        · exact hret v H4 d4 M4 ((x1.trans x2).trans x4) r4 rd4 q4
        · exact hx C dx σ4 H4 ρ4 M4 ((x1.trans x2).trans x4) r4 s4 e4
  · have e : ds.drop i = [] := List.drop_eq_nil_of_le (by omega)
    rw [e] at q2
    exact .inl ⟨k3 (by omega), hn σ' H' ρ' M' (x1.trans x2) r2 s2 q2.2⟩
/-! ### while -/
def whileC (c : CTst) (b : CS) (Dc : CEnds) : Nat → Env → Mm → Prop
  | 0, _, _ => False
  | n + 1, ρ, M => c ρ M (fun k M1 => if k = true then b { Dc with nx := whileC c b Dc n } ρ M1 else Dc.nx ρ M1) fun C dx M' => Dc.xc C dx ρ M'
def cWhile (c : CTst) (b : CS) : CS := fun Dc ρ M => ∃ n, whileC c b Dc n ρ M
theorem cs_while {e : Expr} {body : List Stmt} {c : CTst} {b : CS} {pos : Pos} (hp : PassesOwn (model X.prog X.w) X.A X.env X.xe) (hc : CTt X e c) (hb : CSs X body b) : CSt X (.While e body [] pos) (cWhile c b) := fun W tk => by
  obtain ⟨tc, pc, sc⟩ := hc W tk
  obtain ⟨tb, pb, sb⟩ := hb W tk
  refine ⟨_, ps_while hp pc pb, ⟨fun {σ H ρ M Dv Dc} hs hh hc hn hret hx => ?_⟩⟩
  obtain ⟨n, q⟩ := hc
  refine ⟨fun m σ' H' => ∃ ρ' M', HX X.K H H' ∧ HR X.K M' H' ∧ Sl X.K H' ρ' σ' ∧ whileC c b Dc m ρ' M', ⟨n, ρ, M, HX.refl, hh, hs, q⟩, ?_⟩
  rintro m σ1 H1 ⟨ρ1, M1, x1, r1, s1, q1⟩
  cases m with
  | zero => exact q1.elim
  | succ m =>
    refine sc.run s1 r1 q1 (fun k H2 M2 x2 r2 q2 => ?_) fun C dx H' M' x r e => hx C dx _ H' _ M' (x1.trans x) r (s1.mono x) e
    cases k with
    | true =>
      refine ⟨fun σ3 H3 => ∃ ρ3 M3, HX X.K H H3 ∧ HR X.K M3 H3 ∧ Sl X.K H3 ρ3 σ3 ∧ whileC c b Dc m ρ3 M3, fun σ3 H3 ⟨ρ3, M3, x3, r3, s3, q3⟩ => ⟨m, by omega, ρ3, M3, x3, r3, s3, q3⟩, ?_⟩
      have q2' : b { Dc with nx := whileC c b Dc m } ρ1 M2 := q2
      exact sb.run (Dc := { Dc with nx := whileC c b Dc m }) (s1.mono x2) r2 q2' (fun σ4 H4 ρ4 M4 x4 r4 s4 q4 => ⟨ρ4, M4, (x1.trans x2).trans x4, r4, s4, q4⟩) (fun v H4 d4 M4 x4 r4 rd4 q4 => hret v H4 d4 M4 ((x1.trans x2).trans x4) r4 rd4 q4)
        fun C dx σ4 H4 ρ4 M4 x4 r4 s4 e4 => hx C dx σ4 H4 ρ4 M4 ((x1.trans x2).trans x4) r4 s4 e4
    | false =>
      have q2' : Dc.nx ρ1 M2 := q2
      exact hn _ _ _ _ (x1.trans x2) r2 (s1.mono x2) q2'
/-! ### list comprehensions -/
def wipeD (ρ : Env) : List Nat → Env
  | [] => ρ
  | v :: vs => (wipeD ρ vs).set v none
theorem wipeD_get {ρ : Env} {j : Nat} : ∀ {vs : List Nat}, (wipeD ρ vs)[j]? = if j ∈ vs then (ρ[j]?).map fun _ => none else ρ[j]?
  | [] => by simp [wipeD]
  | v :: vs => by
    unfold wipeD
    by_cases hv : v = j
    · subst hv
      rw [List.getElem?_set_self', wipeD_get (vs := vs)]
      simp
      split
      · simp [Option.map_map]; rfl
      · rfl
    · rw [List.getElem?_set_ne hv, wipeD_get (vs := vs)]
      have : (j = v) ↔ False := ⟨fun e => hv e.symm, False.elim⟩
      simp [this]
theorem wipeD_length {ρ : Env} : ∀ {vs : List Nat}, (wipeD ρ vs).length = ρ.length
  | [] => rfl
  | v :: vs => by unfold wipeD; rw [List.length_set, wipeD_length]
theorem Sl.wipe {H : Hp} {ρ : Env} {σ : St} (h : Sl K H ρ σ) (vs : List Nat) : Sl K H (wipeD ρ vs) (L2.wipe σ vs) := by
  refine ⟨by rw [wipeD_length, wipe_length]; exact h.1, fun i d e => ?_⟩
  rw [wipeD_get] at e
  by_cases hi : i ∈ vs
  · rw [if_pos hi] at e
    cases q : ρ[i]? <;> rw [q] at e <;> simp at e
  · rw [if_neg hi] at e
    rw [wipe_get, if_neg hi]
    exact h.2 i d e
/-- the reading that a C reading stands for: the same in all contexts -/
def canE (K : PySem.W.Frag) (W : WX) (c : CR) : TE := fun σ H Q' => ∃ (ρ : Env) (M : Mm) (Q : CK) (E : CX), Sl K H ρ σ ∧ HR K M H ∧ c ρ M Q E ∧ (∀ v H' d M', HX K H H' → HR K M' H' → Rl K H' d v → Q d M' → Q' v H') ∧
  ∀ C dx H' M', HX K H H' → HR K M' H' → E C dx M' → W (.ref C) dx σ H'
def canT (K : PySem.W.Frag) (W : WX) (c : CTst) : TT := fun σ H Q' => ∃ (ρ : Env) (M : Mm) (Q : Bool → Mm → Prop) (E : CX), Sl K H ρ σ ∧ HR K M H ∧ c ρ M Q E ∧ (∀ b H' M', HX K H H' → HR K M' H' → Q b M' → Q' b H') ∧
  ∀ C dx H' M', HX K H H' → HR K M' H' → E C dx M' → W (.ref C) dx σ H'
theorem CE.can {e : Expr} {c : CR} (h : CE X e c) {W : WX} (tk : Takes X W) : PE X e (canE X.K W c) := by
  obtain ⟨t, p, s⟩ := h W tk
  exact ⟨fun pins s1 σ H Q I ⟨ρ, M, Qc, E, hs, hh, hc, hq, hx⟩ => p.run pins s1 σ H Q I (s.run hs hh hc hq hx)⟩
theorem CTt.can {e : Expr} {c : CTst} (h : CTt X e c) {W : WX} (tk : Takes X W) : PT X e (canT X.K W c) := by
  obtain ⟨t, p, s⟩ := h W tk
  exact ⟨fun pins s1 σ H Q I ⟨ρ, M, Qc, E, hs, hh, hc, hq, hx⟩ => p.run pins s1 σ H Q I (s.run hs hh hc hq hx)⟩
theorem simE_can {c : CR} : SimE K W (canE K W c) c := ⟨fun hs hh hc hq hx => ⟨_, _, _, _, hs, hh, hc, hq, hx⟩⟩
theorem simT_can {c : CTst} : SimT K W (canT K W c) c := ⟨fun hs hh hc hq hx => ⟨_, _, _, _, hs, hh, hc, hq, hx⟩⟩
abbrev W0 : WX := fun _ _ _ _ => False
abbrev X0 : CX := fun _ _ _ => False
def cYes : CTst := fun _ M Q _ => Q true M
/-- the tests of a comprehension: none, one -/
def CIfs (X : Cx) (ifs : List Expr) (c : CTst) : Prop := PTs X ifs (canT X.K W0 c)
theorem cif_nil : CIfs X [] cYes := ⟨fun pins s σ H Q I ⟨ρ, M, Qc, E, hs, hh, hc, hq, hx⟩ => pts_nil.run pins s σ H Q I (hq true H M HX.refl hh hc)⟩
theorem cif_one {e : Expr} {c : CTst} (h : CTt X e c) : CIfs X [e] c := pts_one (h.can takes0)
def compC (chk : Mm → Prop) (g : Tg) (ct : CTst) (ce : CR) (p : Addr) (ρ : Env) (Q : CK) : List D → Mm → Prop
  | [], M => chk M ∧ Q (.ref p) M
  | d :: ds, M => chk M ∧ (match gT g d ρ with
    | some ρ' => ct ρ' M (fun b M1 => if b = true then ce ρ' M1 (fun y M2 => ∃ acc, M2 p = some (.lst acc) ∧ acc.length < sizeLine ∧ compC chk g ct ce p ρ Q ds (put M2 p (.lst (acc ++ [y])))) X0 else compC chk g ct ce p ρ Q ds M1) X0
    | none => False)
def cComp (ci : CI) (g : Tg) (ct : CTst) (ce : CR) (vs : List Nat) : CR := fun ρ M Q E => ci ρ M (fun chk ds M1 => ∀ p, M1 p = none → compC chk g ct ce p (wipeD ρ vs) Q ds (put M1 p (.lst []))) E
theorem compC_chk {chk : Mm → Prop} {g : Tg} {ct : CTst} {ce : CR} {p : Addr} {ρ : Env} {Q : CK} {ds : List D} {M : Mm} (h : compC chk g ct ce p ρ Q ds M) : chk M := by
  cases ds with
  | nil => exact h.1
  | cons d ds => exact h.1
theorem simE_comp {ti : TI} {ci : CI} {g : Tg} {ct : CTst} {ce : CR} {vs : List Nat} (si : SimI K W ti ci) (hg : ∀ i ∈ g.slots, i ∈ vs) :
    SimE K W (tLc ti (tgOf K g) (canT K W0 ct) (canE K W0 ce) vs) (cComp ci g ct ce vs) := ⟨fun {σ H ρ M Q E Q'} hs hh hc hq hx => si.run hs hh hc (fun J H1 chk ds M1 x1 r1 ok q => by
  intro p hp
  have q0 := q p (r1.free hp)
  have xp : HX K H1 (upd H1 p (.lst [])) := sqT_new hp
  have rp : HR K (put M1 p (.lst [])) (upd H1 p (.lst [])) := r1.upd (o := .lst []) xp ⟨[], upd_same, RlL.nil⟩
  refine ⟨fun i m H' => ∃ M', HX K H1 H' ∧ HR K M' H' ∧ i + m = ds.length ∧ compC chk g ct ce p (wipeD ρ vs) Q (ds.drop i) M', ⟨ds.length, _, xp, rp, by omega, by simpa using q0⟩, ?_⟩
  rintro i m H' ⟨M', x2, r2, hm, q2⟩
  obtain ⟨k1, k2, k3⟩ := ok i H' M' x2 r2 (compC_chk q2)
  by_cases hi : i < ds.length
  · refine .inr ⟨k1 hi, fun H3 => ∃ M3, HX K H1 H3 ∧ HR K M3 H3 ∧ compC chk g ct ce p (wipeD ρ vs) Q (ds.drop (i + 1)) M3, ?_, ?_⟩
    · rintro H3 ⟨M3, x3, r3, q3⟩
      exact ⟨m - 1, by omega, M3, x3, r3, by omega, q3⟩
    · intro y H'' hy
      obtain ⟨rfl, d, hd, rd⟩ := k2 y H'' hy hi
      have e : ds.drop i = d :: ds.drop (i + 1) := by
        rw [List.drop_eq_getElem_cons hi]
        congr 1
        exact Option.some.inj ((List.getElem?_eq_getElem hi).symm.trans hd)
      rw [e] at q2
      have q3 := q2.2
      cases hg' : gT g d (wipeD ρ vs) with
      | none => simp only [hg'] at q3
      | some ρ2 =>
        simp only [hg'] at q3
        refine (simTg g).run ((hs.mono (x1.trans x2)).wipe vs) rd hg' fun σ2 s3 hw => ⟨?_, ?_⟩
        · rw [hw vs hg]
          apply List.ext_getElem?
          intro j
          rw [wipe_get, wipe_get]
          split
          · cases σ[j]? <;> rfl
          · rfl
        · refine simT_can.run s3 r2 q3 (fun b H3 M3 x3 r3 q4 => ?_) fun _ _ _ _ _ _ z => z.elim
          cases b with
          | false => exact ⟨M3, x2.trans x3, r3, q4⟩
          | true =>
            refine simE_can.run (s3.mono x3) r3 q4 (fun v H4 dv M4 x4 r4 rv q5 => ?_) fun _ _ _ _ _ _ z => z.elim
            obtain ⟨acc, ea, hl, q6⟩ := q5
            obtain ⟨ws, ew, rw'⟩ := r4.lst ea
            obtain ⟨x5, r5⟩ := lst_upd r4 ew (rw'.append (RlL.cons rv RlL.nil))
            exact ⟨ws, ew, by rw [← rw'.length]; exact hl, _, ((x2.trans x3).trans x4).trans x5, r5, q6⟩
  · have e : ds.drop i = [] := List.drop_eq_nil_of_le (by omega)
    rw [e] at q2
    exact .inl ⟨k3 (by omega), hq _ H' _ M' (x1.trans x2) r2 Rl.rf q2.2⟩) hx⟩
section
variable {elt tg iter : Expr} {ifs : List Expr} {scope : Scope} {own : List (Str × Nat)} {pos : Pos} {ci : CI} {g : Tg} {ct : CTst} {ce : CR}
theorem ce_comp {bN : List Str} {bs : Scope} (hc : X.calm = true) (hN : X.N.Nodup) (hi : CIt X tg iter ci) (ok : blkC bN bs scope own = true) (hgs : ∀ i ∈ g.slots, i ∈ own.map (·.2))
    (hg : ∀ (s : Shared) (H : Hp) (C : Addr) (cl : List (Str × Addr)) (fp : List Addr), PG (X.blk s H scope (compEnvC scope cl C X.env) fp) tg (tgOf X.K g)) (ht : ∀ (s : Shared) (H : Hp) (C : Addr) (cl : List (Str × Addr)) (fp : List Addr), CIfs (X.blk s H scope (compEnvC scope cl C X.env) fp) ifs ct)
    (he : ∀ (s : Shared) (H : Hp) (C : Addr) (cl : List (Str × Addr)) (fp : List Addr), CE (X.blk s H scope (compEnvC scope cl C X.env) fp) elt ce) (hs : ∀ x, foldedSetIterable iter X.env x = pure x := by intro _; rfl) (h1 : X.N = bN := by rfl) (h2 : X.env.scope = bs := by rfl) :
    CE X (.ListComp elt [⟨tg, iter, ifs, 0⟩] scope pos) (cComp ci g ct ce (own.map (·.2))) := fun W tk => by
  obtain ⟨ti, pi, si⟩ := hi W tk
  exact ⟨_, pe_lc (own := own) hc hN pi (tt := canT X.K W0 ct) (te := canE X.K W0 ce) (blkOk_by (by rw [h1, h2]; exact ok)) hg (fun s H C cl fp => ht s H C cl fp) (fun s H C cl fp => (he s H C cl fp).can takes0) hs, simE_comp si hgs⟩
theorem cs_setComp {y : Str} {py spos : Pos} {bN : List Str} {bs : Scope} (i : Nat) (hc : X.calm = true) (hN : X.N.Nodup) (hi : CIt X tg iter ci) (ok : blkC bN bs scope own = true) (hgs : ∀ i ∈ g.slots, i ∈ own.map (·.2))
    (hg : ∀ (s : Shared) (H : Hp) (C : Addr) (cl : List (Str × Addr)) (fp : List Addr), PG (X.blk s H scope (compEnvC scope cl C X.env) fp) tg (tgOf X.K g)) (ht : ∀ (s : Shared) (H : Hp) (C : Addr) (cl : List (Str × Addr)) (fp : List Addr), CIfs (X.blk s H scope (compEnvC scope cl C X.env) fp) ifs ct)
    (he : ∀ (s : Shared) (H : Hp) (C : Addr) (cl : List (Str × Addr)) (fp : List Addr), CE (X.blk s H scope (compEnvC scope cl C X.env) fp) elt ce)
    (hsw : swapsWith (.ListComp elt [⟨tg, iter, ifs, 0⟩] scope pos) (some (.Name y py)) spos.line X.env = pure true) (hy : X.N[i]? = some y := by rfl) (hyl : X.env.scope.names.lookup y = some .local := by rfl) (hs : ∀ x, foldedSetIterable iter X.env x = pure x := by intro _; rfl) (h1 : X.N = bN := by rfl) (h2 : X.env.scope = bs := by rfl) :
    CSt X (.Assign [.Name y py] (.ListComp elt [⟨tg, iter, ifs, 0⟩] scope pos) spos) (cSet i (cComp ci g ct ce (own.map (·.2)))) := fun W tk => by
  obtain ⟨ti, pi, si⟩ := hi W tk
  refine ⟨_, ps_setLc (i := i) (own := own) hc hN hy hyl hsw pi (tt := canT X.K W0 ct) (te := canE X.K W0 ce) (blkOk_by (by rw [h1, h2]; exact ok)) hg (fun s H C cl fp => ht s H C cl fp) (fun s H C cl fp => (he s H C cl fp).can takes0) hs, ⟨fun hs hh hc hn _ hx => (simE_comp si hgs).run hs hh hc (fun v H1 d M1 x1 r1 rd q => ?_) fun C dx H' M' x r e => hx C dx _ H' _ M' x r (hs.mono x) e⟩⟩
  exact hn _ H1 _ M1 x1 r1 ((hs.mono x1).set i rd) q
end
end
end CL

/-! Errors of own classes (over ValueError, or over an own class over it) whose __init__ says super().__init__(text) and then stores its parameters, made by a call of the class. -/
namespace PySem
namespace EXS
open PySem.W PySem.Calls PyProof.Rows PySem.Spec

section
variable {prog : Program} {w : World} {A : Around} {E : Value → Shared → Prop} {h : Heap} {g : Array GenState} {d : Drawn} {t : Nat} {os : OsState}
variable {nm q : Str} {C N : Addr} {bs bm : List Value} {hdct : Bool} {sn : List Str} {sub : List Value} {ab : Bool} {col : Option Bool} {dd : Option Addr} {k0 k1 k2 k3 k5 : Option Value}
/-- the bound ValueError.__init__ is called: the error's args are new, all else stays -/
theorem run_base {u e t0 : Addr} {rest : List Value} {Q : Value → Shared → Prop}
    (hC : h.get? C = some (excClassObj nm q C N bs bm hdct sn sub ab col dd k0 k1 k2 k3 k5 "ValueError.__new__")) (he : h.get? e = some (HandSPX.excO C t0))
    (hu : h.get? u = some (kxs_mw "ValueError.__init__" e)) (hl : rest.length ≤ sizeLine)
    (hq : ∀ h' t1, (∀ b o, b ≠ e → h.get? b = some o → h'.get? b = some o) → h'.get? e = some (HandSPX.excO C t1) → Q .none ⟨h', g, d, t, os⟩) :
    wpAny (model prog w) A (call (.ref u) rest) Q E ⟨h, g, d, t, os⟩ := by
  have T1 : (Value.type "method-wrapper" == Value.type "method" || Value.type "method-wrapper" == Value.type "builtin_function_or_method" || Value.type "method-wrapper" == Value.type "method-wrapper") = true := by decide
  refine wpAny_call (codeAny_of_tree (show wpAny _ A.in1 (callAny (.ref u) ⟨rest, []⟩) _ _ _ from ?_))
  simp only [callAny]
  refine wpAny_bind (wpAny_load hu ?_)
  simp only [kxs_mw, T1, if_true]
  refine W.KFB.if_so (by decide) (wpAny_bind (ESX.check_bound F.excBase_ValueError hC he rfl (wpAny_bind (wpAny_pure (wpAny_pure ⟨Code.quiet_builtin _ (by decide +kernel), codeAny_builtin F.excBase_ValueError.initEntry ?_⟩)))))
  rw [Around.under_plainId F.excBase_ValueError.init.plain _]
  wp_walk
  refine hq _ h.objs.size (fun b o hb ho => ?_) ?_
  · exact (Heap.get?_update_other _ _ (Ne.symm hb)).trans (Heap.get?_push_of_some _ ho)
  · exact (Heap.get?_update_self _ (Heap.get?_push_of_some _ he) rfl).trans rfl
end
/-- the scope of such an __init__ -/
def iSc (fs : List Str) : Scope := { kind := .function, names := (PySem.Str.ofString "self", .local) :: (fs.map fun f => (f, .local)) ++ [(PySem.Str.ofString "__class__", .free), (PySem.Str.ofString "super", .globalImplicit)], isGenerator := false, isCoroutine := false, more := [] }
def sSup (msg : Str) (p0 p1 p2 p3 p4 p5 : Pos) : Stmt := .Expr (.Call (.Attribute (.Call (.Name "super" p0) [] [] p1) "__init__" p2) [.Constant (.str msg) 0 p3] [] p4) p5
def sFld (f : Str) (p0 p1 p2 p3 : Pos) : Stmt := .Assign [.Attribute (.Name "self" p0) f p1] (.Name f p2) p3
/-- what the written part says of the class at C and of its __init__ at fI -/
structure ExT (prog : Program) (K : Frag) (C fI : Addr) (fs : List Str) : Prop where
  cls : ∃ nm q N bs bm sn sub ab col dd k0 k1 k2 k3 k5, K.lookup C = some (excClassObj nm q C N bs bm true sn sub ab col dd k0 k1 k2 k3 k5 "ValueError.__new__") ∧ HandSPX.refsVE bm = true
  sa : findIn K (.ref C) "__setattr__" = some (some (.builtin "object.__setattr__"))
  noF : ∀ f ∈ fs, findIn K (.ref C) f = some none
  iC : findIn K (.ref C) "__init__" = some (some (.ref fI))
  tI : typeIn K (.ref fI) = some (.type "function")
  up : ks_superIn K C C "__init__" = some (some (.builtin "ValueError.__init__"))
  own : mroIn K C (.ref C) = some true
  sub : subIn K (.ref C) (.type "ValueError") = some true
  third : nsIn K cStatics "thirdparty.any" = some none
  top : (prog.main.scope.names.lookup ("super" : Str)).isSome = false
section
variable {prog : Program} {w : World} {A : Around} {E : Value → Shared → Prop} {s : Shared} {K : Frag} {C fI : Addr} {fs : List Str} {mg mb m : Str → Option Value}
theorem ex_sup {body : List Stmt} {q : Str} {scope : Scope} {L cda cc x t0 : Addr} {fd : FuncData} {ar : Arg} {vs : Array Value} {file msg : Str} {tf : Tok} {oc ccl cl : Value} {od cdd cld : Option Addr} {osl ccs csl : Array (Option Value)} {p0 p1 p2 p3 p4 p5 : Pos} {Q : Flow → Shared → Prop}
    (T : ExT prog K C fI fs) (X : K.In s.heap) (hg : s.heap.Ns mainGlobals mg) (hb : s.heap.Ns builtinsNs mb) (g1 : mg "super" = none) (g2 : mb "super" = some (.type "super"))
    (hn : s.heap.Ns L m) (hv : m "self" = some (.ref x)) (hx : s.heap.get? x = some (HandSPX.excO C t0))
    (hf : K.lookup fI = some ⟨oc, od, .func fd, osl⟩) (hp : (fd.params.posonlyargs ++ fd.params.args).head? = some ar) (har : ar.arg = "self")
    (hcode : K.lookup cda = some ⟨ccl, cdd, .fields vs, ccs⟩) (hvs : vs[2]? = some (.str file tf)) (hfile : ((prog.main.file : Str) == file) = true) (hcell : K.lookup cc = some ⟨cl, cld, .cell (some (.ref C)), csl⟩)
    {pl : Sem Bool} (he : eval (.Call (.Attribute (.Call (.Name "super" p0) [] [] p1) "__init__" p2) [.Constant (.str msg) 0 p3] [] p4) (ksEnv q scope L fI (.ref cda) cc) = (do
      let ov ← attributeBase (.Call (.Name "super" p0) [] [] p1) "__init__" (ksEnv q scope L fI (.ref cda) cc) (eval (.Call (.Name "super" p0) [] [] p1) (ksEnv q scope L fI (.ref cda) cc))
      standAt p2.atName
      let (f, first) ← holding [ov] (getMethod ov "__init__" pl)
      callWith p4 f first (backTo p4 (starEach [.Constant (.str msg) 0 p3] (ksEnv q scope L fI (.ref cda) cc))) []))
    (hse : starEach (.Constant (.str msg) 0 p3 :: []) (ksEnv q scope L fI (.ref cda) cc) = (false, eval (.Constant (.str msg) 0 p3) (ksEnv q scope L fI (.ref cda) cc)) :: [])
    (h : ∀ h' tk t1, (∀ b o, b ≠ x → s.heap.get? b = some o → h'.get? b = some o) → h'.get? x = some (HandSPX.excO C t1) → Q .next { s with heap := h', toks := tk })
    (hks : scope.names.lookup ("super" : Str) = some .globalImplicit := by rfl) (hkc : scope.names.lookup ("__class__" : Str) = some .free := by rfl) (hka : scope.names.lookup ("self" : Str) = some .local := by rfl) (hk : scope.kind = .function := by rfl)
    (hi : interactive (ksEnv q scope L fI (.ref cda) cc) = false := by rfl) (hs : swapsWith (.Call (.Attribute (.Call (.Name "super" p0) [] [] p1) "__init__" p2) [.Constant (.str msg) 0 p3] [] p4) none p5.line (ksEnv q scope L fI (.ref cda) cc) = pure false := by rfl) :
    _root_.PySem.wpAt (model prog w) A (.func body (ksEnv q scope L fI (.ref cda) cc)) (exec (sSup msg p0 p1 p2 p3 p4 p5) (ksEnv q scope L fI (.ref cda) cc)) Q E s := by
  obtain ⟨nm, qn, N, bs, bm, sn, sub, ab, col, dd, k0, k1, k2, k3, k5, hC, hbm⟩ := T.cls
  obtain ⟨hh, gg, dr, tk0, os⟩ := s
  obtain ⟨cd, hcd⟩ : ∃ cd, clsIn K C = some cd := by
    unfold clsIn; rw [hC]; exact ⟨_, rfl⟩
  have hCh := X _ _ hC
  have xC : x ≠ C := fun z => by rw [z, hCh] at hx; exact absurd (congrArg (fun o => o.map Obj.cls) hx) (by simp [excClassObj, HandSPX.excO])
  unfold sSup
  refine ks_wpAt_Expr_any (ks_wpAt_MethodCall ?_ he) hi hs
  refine ks_wpAt_super_base (env := ksEnv q scope L fI (.ref cda) cc) hks hkc (by decide) rfl (X _ _ hf) rfl hp rfl (X _ _ hcode) rfl hvs hfile T.top ?_
  refine ks_loadName_global hk hks (loadGlobal_builtin (env := ksEnv q scope L fI (.ref cda) cc) hg g1 hb g2 ⟨rfl, ?_⟩)
  refine wpAny_loadName_free hk hkc rfl ⟨_, X _ _ hcell, rfl⟩ ?_
  rw [har]
  refine wpAny_loadName_local hk hka hn hv ?_
  refine ks_wpAny_isType_cls hCh rfl ⟨rfl, ?_⟩
  refine ks_wpAny_call_super hCh rfl hx rfl (fun c e => by cases e) (looks_mroIn X T.own) fun h1 e1 kp1 => ?_
  have X1 : K.In h1 := X.keeps kp1
  have hx1 := kp1 _ _ hx
  have I1 : InstAt h1 x (HandSPX.excO C t0) C none := ⟨hx1, rfl, rfl, trivial⟩
  have up := T.up
  unfold ks_superIn at up
  rw [hcd] at up
  refine kxs_getMethod kxs_ValueError e1 (looks_opaque X1 T.third) (l₀ := cd.mro) (fun A Q E s k q => wpAny_bind ((looks_clsIn X1 hcd) A _ E s k (wpAny_pure q))) rfl X1 up (I1.type.andThen (looks_subIn X1 T.sub)) xC (by decide) ?_
  have kp2 : ∀ b o, h1.get? b = some o → (h1.push (kxs_mw "ValueError.__init__" x)).get? b = some o := fun b o eb => Heap.get?_push_of_some _ eb
  rw [hse]
  refine kxs_callWith (i := "ValueError.__init__") (x := x) rfl (evalArgs_plain (spliced_cons (Calls.Constant_str (k := 0) (pos := p3) (spliced_nil ⟨?_, ?_⟩))))
  · exact Heap.get?_push_size _ rfl
  · refine run_base (kp2 _ _ (kp1 _ _ hCh)) (kp2 _ _ hx1) (Heap.get?_push_size _ rfl) (by show 1 ≤ sizeLine; rw [sizeLine_eq]; decide) fun h' t1 k3 e3 => ?_
    exact h h' _ t1 (fun b o hbx eb => k3 b o hbx (kp2 _ _ (kp1 _ _ eb))) e3
theorem ldS {M : Model} {env : Env} {m : Str → Option Value} {x : Str} {pos : Pos} {v : Value} {Q : Value → Shared → Prop} (hn : s.heap.Ns env.locals m) (hv : m x = some v) (h : Q v s) (hk : env.scope.kind = .function) (hl : env.kindOf x = some .local)
    (hd : (x == ("__debug__" : Str)) = false) : wpAny M A (eval (.Name x pos) env) Q E s := wpAny_Name (wpAny_loadName_local hk hl hn hv h) hd
/-- self.f = f: the error has no dict yet -/
theorem ex_new {env : Env} {x t0 : Addr} {f : Str} {v : Value} {p0 p1 p2 p3 : Pos} {Q : Flow → Shared → Prop} (T : ExT prog K C fI fs) (X : K.In s.heap) (hn : s.heap.Ns env.locals m) (hv : m "self" = some (.ref x)) (hf : m f = some v) (hm : f ∈ fs)
    (hx : s.heap.get? x = some (HandSPX.excO C t0)) (hk : env.scope.kind = .function) (h1 : env.kindOf "self" = some .local) (h2 : env.kindOf f = some .local) (h3 : (f == ("__debug__" : Str)) = false)
    (h : ∀ h' tk dx, (∀ b o, b ≠ x → s.heap.get? b = some o → h'.get? b = some o) → s.heap.objs.size ≤ dx → dx ≠ x → h'.get? x = some { cls := .ref C, dict := some dx, data := .fields #[.ref t0, .none, .none, .none, .bool false, .none] } →
      h'.Ns1 dx (fun y => if y = f then some v else none) → Q .next { s with heap := h', toks := tk })
    (hs : swapsWith (.Name f p2) (some (.Attribute (.Name "self" p0) f p1)) p3.line env = pure false) : wpAny (model prog w) A (exec (sFld f p0 p1 p2 p3) env) Q E s := by
  obtain ⟨nm, qn, N, bs, bm, sn, sub, ab, col, dd, k0, k1, k2, k3, k5, hC, hbm⟩ := T.cls
  obtain ⟨cd, hcd, hmro, hdc⟩ : ∃ cd, clsIn K C = some cd ∧ HandSPX.refsVE cd.mro = true ∧ cd.hasDict = true := by
    refine ⟨_, by unfold clsIn; rw [hC] <;> rfl, hbm, rfl⟩
  refine plainObj_wpAny_Assign_Attribute (ldS hn hf (ldS hn hv ?_ hk h1 (by decide)) hk h2 h3) hs
  refine set_plain X (ox := HandSPX.excO C t0) (od := none) ⟨hx, rfl, rfl, trivial⟩ T.sa ?_
  exact HandSPX.exc_osa X hx hcd hmro hdc (T.noF f hm) fun h' tk dx k dn dne e hd => h h' tk dx k dn dne e hd
/-- .. it has its dict -/
theorem ex_old {env : Env} {x t0 dx : Addr} {f : Str} {v : Value} {m0 : Str → Option Value} {nl : List Str} {p0 p1 p2 p3 : Pos} {Q : Flow → Shared → Prop} (T : ExT prog K C fI fs) (X : K.In s.heap) (hn : s.heap.Ns env.locals m) (hv : m "self" = some (.ref x)) (hf : m f = some v) (hm : f ∈ fs)
    (hx : s.heap.get? x = some { cls := .ref C, dict := some dx, data := .fields #[.ref t0, .none, .none, .none, .bool false, .none] }) (hd : s.heap.Ns1 dx m0) (hw : Within m0 nl) (hz : nl.length ≤ 1000) (hk : env.scope.kind = .function) (h1 : env.kindOf "self" = some .local) (h2 : env.kindOf f = some .local) (h3 : (f == ("__debug__" : Str)) = false)
    (h : ∀ h' tk, (∀ b o, b ≠ dx → s.heap.get? b = some o → h'.get? b = some o) → h'.Ns1 dx (fun y => if y = f then some v else m0 y) → Q .next { s with heap := h', toks := tk })
    (hs : swapsWith (.Name f p2) (some (.Attribute (.Name "self" p0) f p1)) p3.line env = pure false) : wpAny (model prog w) A (exec (sFld f p0 p1 p2 p3) env) Q E s := by
  obtain ⟨nm, qn, N, bs, bm, sn, sub, ab, col, dd, k0, k1, k2, k3, k5, hC, hbm⟩ := T.cls
  obtain ⟨cd, hcd, hmro, hdc⟩ : ∃ cd, clsIn K C = some cd ∧ HandSPX.refsVE cd.mro = true ∧ cd.hasDict = true := by
    refine ⟨_, by unfold clsIn; rw [hC] <;> rfl, hbm, rfl⟩
  refine plainObj_wpAny_Assign_Attribute (ldS hn hf (ldS hn hv ?_ hk h1 (by decide)) hk h2 h3) hs
  obtain ⟨oD, _, _, hoD, _⟩ := hd.count hw
  refine set_plain X (od := some oD) ⟨hx, rfl, rfl, hoD⟩ T.sa ?_
  exact OEX.osa_old X hx hd hw hz hcd hmro hdc (T.noF f hm) fun h' tk k e => h h' tk k e
/-- a made error -/
structure Made (h h' : Heap) (e C : Addr) (d : Option Addr) (m : Str → Option Value) : Prop where
  keep : ∀ b o, h.get? b = some o → h'.get? b = some o
  new : h.objs.size ≤ e
  obj : ∃ oe vs, h'.get? e = some oe ∧ oe.cls = .ref C ∧ oe.dict = d ∧ oe.data = .fields vs ∧ vs[1]? = some .none ∧ vs[2]? = some .none
  dict : ∀ dx, d = some dx → h.objs.size ≤ dx ∧ dx ≠ e ∧ h'.Ns1 dx m
/-- the call of the class, once its __init__ is run -/
theorem made_by {args : List Value} {R : Result → Shared → Prop} {dO : Option Addr} {mO : Str → Option Value} (T : ExT prog K C fI fs) (X : K.In s.heap) (hl : args.length ≤ sizeLine)
    (hi : ∀ (s1 : Shared) (x t0 : Addr), (∀ b o, s.heap.get? b = some o → s1.heap.get? b = some o) → s.heap.objs.size ≤ x → s.heap.objs.size ≤ s1.heap.objs.size → K.lookup x = none → s1.heap.get? x = some (HandSPX.excO C t0) → s1.gens = s.gens → s1.drawn = s.drawn → s1.os = s.os →
      codeAny (model prog w) (A.under (.builtin "type.__call__" ⟨.ref C :: args, []⟩)) (.call (.ref fI) ⟨.ref x :: args, []⟩) (fun r s' => r = .ok (.ret .none) ∧ R (.ok (.ret (.ref x))) s') s1) :
    codeAny (model prog w) A (.call (.ref C) ⟨args, []⟩) R s := by
  obtain ⟨nm, qn, N, bs, bm, sn, sub, ab, col, dd, k0, k1, k2, k3, k5, hC, hbm⟩ := T.cls
  obtain ⟨hp, g, dr, tk, os⟩ := s
  refine HandSPX.call_own F.excBase_ValueError (fun Y => HandSPX.refsVE_contains Y bm hbm) (X _ _ hC) (looks_findIn X T.iC) (fun self => bind_fn X self T.tI) hl ?_
  refine codeAny_mono (hi ⟨(hp.push (kdv_tup args)).push (HandSPX.excO C hp.objs.size), g, dr, tk, os⟩ (hp.objs.size + 1) hp.objs.size (fun b o e => Heap.get?_push_of_some _ (Heap.get?_push_of_some _ e)) (Nat.le_succ _) ?_ ?_ ?_ rfl rfl rfl) fun r s' hr => ?_
  · show hp.objs.size ≤ ((hp.push (kdv_tup args)).push (HandSPX.excO C hp.objs.size)).objs.size
    rw [Heap.size_push, Heap.size_push]; omega
  · cases z : K.lookup (hp.objs.size + 1) with
    | none => rfl
    | some o => exact absurd (Nat.lt_of_succ_lt (Heap.lt_size (X _ _ z))) (Nat.lt_irrefl _)
  · heap_get
  · obtain ⟨rfl, q⟩ := hr
    exact ⟨rfl, q⟩
end
/-- where __init__ stands, its text -/
structure ExF (prog : Program) (K : Frag) (C fI : Addr) (qual : Str) (params : Arguments) (body : List Stmt) (scope : Scope) : Prop where
  ex : ∃ (oc doc pm ct cl ccl : Value) (od an cld cdd : Option Addr) (osl csl ccs : Array (Option Value)) (cc cda : Addr) (vs : Array Value) (file : Str) (tf : Tok),
    K.lookup fI = some ⟨oc, od, .func (ksFn "__init__" qual params body scope .none .none doc pm an (.ref cda) ct cc), osl⟩ ∧ codeIn K (.ref cda) qual = true ∧
    K.lookup cda = some ⟨ccl, cdd, .fields vs, ccs⟩ ∧ vs[2]? = some (.str file tf) ∧ ((prog.main.file : Str) == file) = true ∧ K.lookup cc = some ⟨cl, cld, .cell (some (.ref C)), csl⟩
/-- what holds when the body of __init__ ends, at the error x -/
structure InitEnd (h h' : Heap) (x C : Addr) (d : Option Addr) (m : Str → Option Value) : Prop where
  keep : ∀ b o, b ≠ x → h.get? b = some o → h'.get? b = some o
  obj : ∃ t1 : Addr, h'.get? x = some { cls := .ref C, dict := d, data := .fields #[.ref t1, .none, .none, .none, .bool false, .none] }
  dict : ∀ dx, d = some dx → h.objs.size ≤ dx ∧ dx ≠ x ∧ h'.Ns1 dx m
section
variable {prog : Program} {w : World} {A : Around} {E : Value → Shared → Prop} {s : Shared} {K : Frag} {C fI : Addr} {fs : List Str} {mg mb m : Str → Option Value}
theorem made_end {args : List Value} {R : Result → Shared → Prop} (T : ExT prog K C fI fs) (X : K.In s.heap) (hl : args.length ≤ sizeLine) (mO : Str → Option Value) (hs : Bool)
    (hi : ∀ (s1 : Shared) (x t0 : Addr), (∀ b o, s.heap.get? b = some o → s1.heap.get? b = some o) → K.lookup x = none → s1.heap.get? x = some (HandSPX.excO C t0) →
      codeAny (model prog w) (A.under (.builtin "type.__call__" ⟨.ref C :: args, []⟩)) (.call (.ref fI) ⟨.ref x :: args, []⟩) (fun r s' => r = .ok (.ret .none) ∧ ∃ d, InitEnd s1.heap s'.heap x C d mO ∧ s'.gens = s1.gens ∧ s'.drawn = s1.drawn ∧ s'.os = s1.os ∧ d.isSome = hs) s1)
    (hq : ∀ h' tk e d, Made s.heap h' e C d mO → d.isSome = hs → R (.ok (.ret (.ref e))) { s with heap := h', toks := tk }) : codeAny (model prog w) A (.call (.ref C) ⟨args, []⟩) R s := by
  refine made_by (dO := none) (mO := mO) T X hl fun s1 x t0 k hx sz nx e g1 d1 o1 => codeAny_mono (hi s1 x t0 k nx e) fun r s' hr => ?_
  obtain ⟨rfl, d, I, g2, d2, o2, hds⟩ := hr
  refine ⟨rfl, ?_⟩
  obtain ⟨h', gs', dr', tk', os'⟩ := s'
  have e1 : gs' = s.gens := g2.trans g1
  have e2 : dr' = s.drawn := d2.trans d1
  have e3 : os' = s.os := o2.trans o1
  subst e1 e2 e3
  obtain ⟨t1, ob⟩ := I.obj
  exact hq h' tk' x d ⟨fun b o eb => I.keep b o (fun z => by subst z; exact absurd (Nat.lt_of_lt_of_le (Heap.lt_size eb) hx) (Nat.lt_irrefl _)) (k b o eb), hx, ⟨_, _, ob, rfl, rfl, rfl, rfl, rfl⟩,
    fun dx hd => let ⟨a, b, c⟩ := I.dict dx hd; ⟨Nat.le_trans sz a, b, c⟩⟩ hds
/-- the line super().__init__(msg) as it is read in any frame -/
def SupOk (qual : Str) (scope : Scope) (fI : Addr) (msg : Str) (p0 p1 p2 p3 p4 p5 : Pos) : Prop := ∀ (L cda cc : Addr),
  (∃ pl : Sem Bool, eval (.Call (.Attribute (.Call (.Name "super" p0) [] [] p1) "__init__" p2) [.Constant (.str msg) 0 p3] [] p4) (ksEnv qual scope L fI (.ref cda) cc) = (do
      let ov ← attributeBase (.Call (.Name "super" p0) [] [] p1) "__init__" (ksEnv qual scope L fI (.ref cda) cc) (eval (.Call (.Name "super" p0) [] [] p1) (ksEnv qual scope L fI (.ref cda) cc))
      standAt p2.atName
      let (f, first) ← holding [ov] (getMethod ov "__init__" pl)
      callWith p4 f first (backTo p4 (starEach [.Constant (.str msg) 0 p3] (ksEnv qual scope L fI (.ref cda) cc))) [])) ∧
  starEach (.Constant (.str msg) 0 p3 :: []) (ksEnv qual scope L fI (.ref cda) cc) = (false, eval (.Constant (.str msg) 0 p3) (ksEnv qual scope L fI (.ref cda) cc)) :: [] ∧
  interactive (ksEnv qual scope L fI (.ref cda) cc) = false ∧
  swapsWith (.Call (.Attribute (.Call (.Name "super" p0) [] [] p1) "__init__" p2) [.Constant (.str msg) 0 p3] [] p4) none p5.line (ksEnv qual scope L fI (.ref cda) cc) = pure false
def FldOk (qual : Str) (scope : Scope) (fI : Addr) (f : Str) (p0 p1 p2 p3 : Pos) : Prop := ∀ (L cda cc : Addr), swapsWith (.Name f p2) (some (.Attribute (.Name "self" p0) f p1)) p3.line (ksEnv qual scope L fI (.ref cda) cc) = pure false
structure ScOk (scope : Scope) (fs : List Str) : Prop where
  su : scope.names.lookup ("super" : Str) = some .globalImplicit
  cl : scope.names.lookup ("__class__" : Str) = some .free
  se : scope.names.lookup ("self" : Str) = some .local
  kd : scope.kind = .function
  fl : ∀ f ∈ fs, scope.names.lookup f = some .local ∧ (f == ("__debug__" : Str)) = false
  nc : ∀ x ∈ scope.names, x.2 ≠ .cell
  co : scope.isCoroutine = false
  ge : scope.isGenerator = false
structure Here (prog : Program) (K : Frag) (s : Shared) (mg mb : Str → Option Value) : Prop where
  kin : K.In s.heap
  glob : s.heap.Ns mainGlobals mg
  blt : s.heap.Ns builtinsNs mb
  g1 : mg "super" = none
  g2 : mb "super" = some (.type "super")
  lim : s.heap.NoLimit
theorem Here.keeps {prog : Program} {K : Frag} {s s' : Shared} {mg mb : Str → Option Value} (h : Here prog K s mg mb) (k : ∀ b o, s.heap.get? b = some o → s'.heap.get? b = some o) : Here prog K s' mg mb :=
  ⟨h.kin.keeps k, h.glob.keeps k, h.blt.keeps k, h.g1, h.g2, h.lim.keeps k⟩
abbrev InitQ (hs : Bool) (s : Shared) (x C : Addr) (mO : Str → Option Value) : Result → Shared → Prop := fun r s' => r = .ok (.ret .none) ∧ ∃ d, InitEnd s.heap s'.heap x C d mO ∧ s'.gens = s.gens ∧ s'.drawn = s.drawn ∧ s'.os = s.os ∧ d.isSome = hs
section
variable {prog : Program} {w : World} {A : Around} {s : Shared} {K : Frag} {C fI x t0 : Addr} {fs : List Str} {mg mb : Str → Option Value} {qual msg : Str} {params : Arguments} {scope : Scope} {p0 p1 p2 p3 p4 p5 : Pos} {rest : List Stmt} {args : List Value} {binds : List (Str × Value)} {mO : Str → Option Value} {has : Bool}
/-- the call of __init__ up to behind its first line -/
theorem init_first (T : ExT prog K C fI fs) (F : ExF prog K C fI qual params (sSup msg p0 p1 p2 p3 p4 p5 :: rest) scope) (S : ScOk scope fs) (sup : SupOk qual scope fI msg p0 p1 p2 p3 p4 p5) (hh : Here prog K s mg mb) (hroom : A.depth < recursionLimit)
    (hx : s.heap.get? x = some (HandSPX.excO C t0)) (nx : K.lookup x = none) (hb : ∀ doc pm an cda ct cc, BindsTo s (ksFn "__init__" qual params (sSup msg p0 p1 p2 p3 p4 p5 :: rest) scope .none .none doc pm an (.ref cda) ct cc) ⟨.ref x :: args, []⟩ binds)
    (hl : ∀ y ∈ binds, scope.names.lookup y.1 = some .local) (hself : binds.reverse.lookup ("self" : Str) = some (.ref x)) (har : ∃ ar : Arg, (params.posonlyargs ++ params.args).head? = some ar ∧ ar.arg = "self")
    (h : ∀ (L cda cc : Addr) (h' : Heap) (tk : Nat) (t1 : Addr), s.heap.objs.size ≤ L → (∀ b o, b ≠ x → s.heap.get? b = some o → h'.get? b = some o) → h'.get? x = some (HandSPX.excO C t1) → h'.Ns L (fun y => binds.reverse.lookup y) → K.In h' →
      wpAny (model prog w) (A.deeper (ksEnv qual scope L fI (.ref cda) cc)) (execs rest (ksEnv qual scope L fI (.ref cda) cc)) (fun f s' => (f = .next ∧ InitQ has s x C mO (.ok (.ret .none)) s')) (fun _ _ => False) { s with heap := h', toks := tk }) :
    codeAny (model prog w) A (.call (.ref fI) ⟨.ref x :: args, []⟩) (InitQ has s x C mO) s := by
  obtain ⟨oc, doc, pm, ct, cl, ccl, od, an, cld, cdd, osl, csl, ccs, cc, cda, vs, file, tf, hf, hcd, hcode, hvs, hfile, hcell⟩ := F.ex
  obtain ⟨ar, e1, e2⟩ := har
  refine ks_codeAny_call_defAt (binds := binds) hroom (hh.kin _ _ hf) rfl hh.lim (codeRec_of hh.kin hcd) rfl (hb _ _ _ _ _ _) S.nc hl (fun h₁ hns k₁ => ?_) S.co S.ge S.kd
  have xL : s.heap.objs.size ≠ x := Nat.ne_of_gt (Heap.lt_size hx)
  have H1 : Here prog K { s with heap := h₁, toks := s.toks + binds.length } mg mb := hh.keeps k₁
  obtain ⟨⟨pl, q1⟩, q2, q3, q4⟩ := sup s.heap.objs.size cda cc
  show _root_.PySem.wpAt (model prog w) (A.deeper (ksEnv qual scope s.heap.objs.size fI (.ref cda) cc)) (.func (sSup msg p0 p1 p2 p3 p4 p5 :: rest) (ksEnv qual scope s.heap.objs.size fI (.ref cda) cc)) (execs (sSup msg p0 p1 p2 p3 p4 p5 :: rest) (ksEnv qual scope s.heap.objs.size fI (.ref cda) cc)) _ _ _
  refine ks_wpAt_execs_cons (ex_sup (q := qual) (scope := scope) (s := { s with heap := h₁, toks := s.toks + binds.length }) (pl := pl) T H1.kin H1.glob H1.blt H1.g1 H1.g2 hns hself (k₁ _ _ hx) hf e1 e2 hcode hvs hfile hcell q1 q2 (fun h' tk t1 k e => ?_) S.su S.cl S.se S.kd q3 q4)
  refine wpAt_of_wpAny (wpAny_mono (h s.heap.objs.size cda cc h' tk t1 (Nat.le_refl _) (fun b o hb eb => k b o hb (k₁ b o eb)) e ?_ ?_) (fun f s' hf => ?_) fun _ _ z => z.elim)
  · obtain ⟨o, es, ep, ho, r⟩ := hns
    exact ⟨o, es, ep, k _ _ xL ho, r⟩
  · intro b o eb
    exact k b o (fun z => by rw [z, nx] at eb; cases eb) (H1.kin b o eb)
  · obtain ⟨rfl, q⟩ := hf
    exact q

/-- no field -/
theorem init0 (T : ExT prog K C fI []) (F : ExF prog K C fI qual params [sSup msg p0 p1 p2 p3 p4 p5] scope) (S : ScOk scope []) (sup : SupOk qual scope fI msg p0 p1 p2 p3 p4 p5) (hh : Here prog K s mg mb) (hroom : A.depth < recursionLimit)
    (hx : s.heap.get? x = some (HandSPX.excO C t0)) (nx : K.lookup x = none) (hb : ∀ doc pm an cda ct cc, BindsTo s (ksFn "__init__" qual params [sSup msg p0 p1 p2 p3 p4 p5] scope .none .none doc pm an (.ref cda) ct cc) ⟨[.ref x], []⟩ [("self", .ref x)])
    (har : ∃ ar : Arg, (params.posonlyargs ++ params.args).head? = some ar ∧ ar.arg = "self") : codeAny (model prog w) A (.call (.ref fI) ⟨[.ref x], []⟩) (InitQ false s x C fun _ => none) s :=
  init_first (w := w) (mO := fun _ => none) T F S sup hh hroom hx nx hb (fun y hy => by rw [List.mem_singleton] at hy; subst hy; exact S.se) rfl har fun L cda cc h' tk t1 hL k e hn X' =>
    wpAny_execs_nil ⟨rfl, rfl, none, ⟨k, ⟨t1, e⟩, fun dx z => by cases z⟩, rfl, rfl, rfl, rfl⟩
/-- one field -/
theorem init1 {f : Str} {v : Value} {a0 a1 a2 a3 : Pos} (T : ExT prog K C fI [f]) (F : ExF prog K C fI qual params [sSup msg p0 p1 p2 p3 p4 p5, sFld f a0 a1 a2 a3] scope) (S : ScOk scope [f]) (sup : SupOk qual scope fI msg p0 p1 p2 p3 p4 p5) (fo : FldOk qual scope fI f a0 a1 a2 a3)
    (hh : Here prog K s mg mb) (hroom : A.depth < recursionLimit) (hx : s.heap.get? x = some (HandSPX.excO C t0)) (nx : K.lookup x = none)
    (hb : ∀ doc pm an cda ct cc, BindsTo s (ksFn "__init__" qual params [sSup msg p0 p1 p2 p3 p4 p5, sFld f a0 a1 a2 a3] scope .none .none doc pm an (.ref cda) ct cc) ⟨[.ref x, v], []⟩ [("self", .ref x), (f, v)])
    (har : ∃ ar : Arg, (params.posonlyargs ++ params.args).head? = some ar ∧ ar.arg = "self") (ne : f ≠ "self") : codeAny (model prog w) A (.call (.ref fI) ⟨[.ref x, v], []⟩) (InitQ true s x C fun y => if y = f then some v else none) s := by
  have b1 : (("self" : Str) == f) = false := beq_eq_false_iff_ne.mpr (Ne.symm ne)
  refine init_first (w := w) (mO := fun y => if y = f then some v else none) T F S sup hh hroom hx nx hb (fun y hy => ?_) (by simp [List.lookup, b1]) har fun L cda cc h' tk t1 hL k e hn X' => ?_
  · rcases List.mem_cons.mp hy with rfl | hy
    · exact S.se
    · rw [List.mem_singleton] at hy; subst hy; exact (S.fl f List.mem_cons_self).1
  · have sf := S.fl f List.mem_cons_self
    refine wpAny_execs_cons (ex_new (s := { s with heap := h', toks := tk }) (v := v) T X' hn (by simp [List.lookup, b1]) (by simp [List.lookup]) List.mem_cons_self e S.kd S.se sf.1 sf.2 (fun h2 tk2 dx k2 dn dne e2 hd => ?_) (fo L cda cc))
    refine wpAny_execs_nil ⟨rfl, rfl, some dx, ⟨fun b o hb eb => k2 b o hb (k b o hb eb), ⟨t1, e2⟩, fun d z => ?_⟩, rfl, rfl, rfl, rfl⟩
    cases z
    refine ⟨Nat.le_trans ?_ dn, dne, hd⟩
    exact Nat.le_trans hL (Nat.le_of_lt hn.lt)
/-- two fields -/
theorem init2 {f g : Str} {v u : Value} {a0 a1 a2 a3 b0 b1 b2 b3 : Pos} (T : ExT prog K C fI [f, g]) (F : ExF prog K C fI qual params [sSup msg p0 p1 p2 p3 p4 p5, sFld f a0 a1 a2 a3, sFld g b0 b1 b2 b3] scope) (S : ScOk scope [f, g]) (sup : SupOk qual scope fI msg p0 p1 p2 p3 p4 p5)
    (fo : FldOk qual scope fI f a0 a1 a2 a3) (go : FldOk qual scope fI g b0 b1 b2 b3) (hh : Here prog K s mg mb) (hroom : A.depth < recursionLimit) (hx : s.heap.get? x = some (HandSPX.excO C t0)) (nx : K.lookup x = none)
    (hb : ∀ doc pm an cda ct cc, BindsTo s (ksFn "__init__" qual params [sSup msg p0 p1 p2 p3 p4 p5, sFld f a0 a1 a2 a3, sFld g b0 b1 b2 b3] scope .none .none doc pm an (.ref cda) ct cc) ⟨[.ref x, v, u], []⟩ [("self", .ref x), (f, v), (g, u)])
    (har : ∃ ar : Arg, (params.posonlyargs ++ params.args).head? = some ar ∧ ar.arg = "self") (ne : f ≠ "self") (ne2 : g ≠ "self") (ne3 : f ≠ g) :
    codeAny (model prog w) A (.call (.ref fI) ⟨[.ref x, v, u], []⟩) (InitQ true s x C fun y => if y = g then some u else if y = f then some v else none) s := by
  have b1' : (("self" : Str) == f) = false := beq_eq_false_iff_ne.mpr (Ne.symm ne)
  have b2' : (("self" : Str) == g) = false := beq_eq_false_iff_ne.mpr (Ne.symm ne2)
  have b3' : (f == g) = false := beq_eq_false_iff_ne.mpr ne3
  refine init_first (w := w) (mO := fun y => if y = g then some u else if y = f then some v else none) T F S sup hh hroom hx nx hb (fun y hy => ?_) (by simp [List.lookup, b1', b2']) har fun L cda cc h' tk t1 hL k e hn X' => ?_
  · rcases List.mem_cons.mp hy with rfl | hy
    · exact S.se
    · rcases List.mem_cons.mp hy with rfl | hy
      · exact (S.fl f List.mem_cons_self).1
      · rw [List.mem_singleton] at hy; subst hy; exact (S.fl g (List.mem_cons_of_mem _ List.mem_cons_self)).1
  · have sf := S.fl f List.mem_cons_self
    have sg := S.fl g (List.mem_cons_of_mem _ List.mem_cons_self)
    refine wpAny_execs_cons (ex_new (s := { s with heap := h', toks := tk }) (v := v) T X' hn (by simp [List.lookup, b1', b2']) (by simp [List.lookup, b3']) List.mem_cons_self e S.kd S.se sf.1 sf.2 (fun h2 tk2 dx k2 dn dne e2 hd => ?_) (fo L cda cc))
    have xL : L ≠ x := fun z => by
      subst z
      obtain ⟨o, es, ep, ho, hd', _⟩ := hn
      rw [e] at ho; cases ho; cases hd'
    have hn2 : h2.Ns L (fun y => List.lookup y [(("self" : Str), Value.ref x), (f, v), (g, u)].reverse) := by
      obtain ⟨o, es, ep, ho, r⟩ := hn
      exact ⟨o, es, ep, k2 _ _ xL ho, r⟩
    have X2 : K.In h2 := fun b o eb => k2 b o (fun z => by rw [z, nx] at eb; cases eb) (X' b o eb)
    have dL : L ≠ dx := fun z => by
      have q := hn.lt
      rw [z] at q
      exact absurd (Nat.lt_of_lt_of_le q dn) (Nat.lt_irrefl _)
    refine wpAny_execs_cons (ex_old (s := { s with heap := h2, toks := tk2 }) (v := u) (nl := [f]) T X2 hn2 (by simp [List.lookup, b1', b2']) (by simp [List.lookup]) (List.mem_cons_of_mem _ List.mem_cons_self) e2 hd (fun y hy => ?_) (by simp) S.kd S.se sg.1 sg.2 (fun h3 tk3 k3 hd3 => ?_) (go L cda cc))
    · by_cases q : y = f
      · subst q; exact List.mem_cons_self
      · rw [if_neg q] at hy; exact absurd rfl hy
    · have odx : ∀ b o, s.heap.get? b = some o → b ≠ dx := fun b o eb z => by
        subst z
        have := Nat.lt_of_lt_of_le (Heap.lt_size eb) (Nat.le_trans hL (Nat.le_of_lt hn.lt))
        exact absurd (Nat.lt_of_lt_of_le this dn) (Nat.lt_irrefl _)
      refine wpAny_execs_nil ⟨rfl, rfl, some dx, ⟨fun b o hb eb => k3 b o (odx b o eb) (k2 b o hb (k b o hb eb)), ⟨t1, k3 _ _ (Ne.symm dne) e2⟩, fun d z => ?_⟩, rfl, rfl, rfl, rfl⟩
      cases z
      exact ⟨Nat.le_trans (Nat.le_trans hL (Nat.le_of_lt hn.lt)) dn, dne, hd3⟩
end
end
end EXS
end PySem

/-! THE C LAYER: raise of an own error, try with several clauses (with or without a name), what a suite asks of the error it holds. -/
namespace CL
open PySem PySem.Spec PyProof.Rows L2
/-! ### try with clauses of both kinds -/
/-- one clause: the class, the slot of its name, its suite by the error's address, class and dict -/
abbrev Clau := Value × Option Nat × (Addr → Value → Option Addr → TS)
def freed (o : Option Nat) (σ : St) : St := match o with
  | none => σ
  | some i => σ.set i none
def held (o : Option Nat) (a : Addr) (σ : St) : St := match o with
  | none => σ
  | some i => σ.set i (some (.ref a))
def Ends.behind (D : Ends) (o : Option Nat) : Ends := { nx := fun σ H => D.nx (freed o σ) H, rt := D.rt, bk := fun σ H => D.bk (freed o σ) H, ct := fun σ H => D.ct (freed o σ) H }
def wCl (K : PySem.W.Frag) (Wout : WX) (D : Ends) : List Clau → WX
  | [] => Wout
  | (c, o, ts) :: r => fun cls d σ H => ∃ b, PySem.W.exmOne K cls c = some b ∧ (b = true → ∀ a, H a = none → ts a cls d (Ends.behind D o) (held o a σ) H) ∧ (b = false → wCl K Wout D r cls d σ H)
inductive HdC (X : Cx) : List ExceptHandler → List Clau → Prop
  | nil : HdC X [] []
  | plain {x : Str} {c : Value} {ts : Addr → Value → Option Addr → TS} {b₀ : Stmt} {suite : List Stmt} {np pos : Pos} {hds : List ExceptHandler} {l : List Clau} (hc : Names X x c)
      (hsu : ∀ (a : Addr) (oe : Obj) (cls : Value) (d : Option Addr) (pn : List (Addr × Obj)), L2N.Zn cls d oe → (∃ vs, oe.data = .fields vs) → PSs (X.suite a ((a, oe) :: pn)) (b₀ :: suite) (ts a cls d)) (r : HdC X hds l) :
      HdC X (.ExceptHandler (some (.Name x np)) none (b₀ :: suite) pos :: hds) ((c, none, ts) :: l)
  | named {x n : Str} {c : Value} {i : Nat} {ts : Addr → Value → Option Addr → TS} {b₀ : Stmt} {suite : List Stmt} {np pos : Pos} {hds : List ExceptHandler} {l : List Clau} (hc : Names X x c) (hi : X.N[i]? = some n) (hl : X.env.kindOf n = some .local)
      (hsu : ∀ (a : Addr) (oe : Obj) (cls : Value) (d : Option Addr) (pn : List (Addr × Obj)), L2N.Zn cls d oe → (∃ vs, oe.data = .fields vs) → PSs (X.suite a ((a, oe) :: pn)) (b₀ :: suite) (ts a cls d)) (r : HdC X hds l) :
      HdC X (.ExceptHandler (some (.Name x np)) (some n) (b₀ :: suite) pos :: hds) ((c, some i, ts) :: l)
section
variable {X : Cx}
theorem SP.back {pins : List (Addr × Obj)} {D : Ends} {f : Flow} {s s' : Shared} {Y : Cx} {pn : List (Addr × Obj)} (h : SP Y pn D f s) (go : ∀ σ H, Inv Y pn σ H s → Inv X pins σ H s') : SP X pins D f s' := by
  cases f with
  | ret u => obtain ⟨v, σ, H, I, r, q⟩ := h; exact ⟨v, σ, H, go _ _ I, r, q⟩
  | next => obtain ⟨σ, H, I, q⟩ := h; exact ⟨σ, H, go _ _ I, q⟩
  | brk => obtain ⟨σ, H, I, q⟩ := h; exact ⟨σ, H, go _ _ I, q⟩
  | cont => obtain ⟨σ, H, I, q⟩ := h; exact ⟨σ, H, go _ _ I, q⟩
theorem ps_tryC {body : List Stmt} {h₀ : ExceptHandler} {hds : List ExceptHandler} {l : List Clau} {pos : Pos} {tb : WX → TS} {Wout : WX} (hs : X.stack = X.env :: X.outer) (hf : X.env.frame = some X.env.locals) (hN : X.N.Nodup) (tk : Takes X Wout)
    (hb : ∀ (W : WX) (pn : List (Addr × Obj)) (xe : Value → Shared → Prop), Takes (X.tr pn xe) W → PassesOwn (model X.prog X.w) X.A X.env xe → PSs (X.tr pn xe) body (tb W)) (hh : HdC X (h₀ :: hds) l) :
    PS X (.Try body (h₀ :: hds) [] [] pos) (fun D σ H => tb (wCl X.K Wout D l) D σ H) := ⟨fun pins s σ H D I h => by
  have ok := I.ok
  have hfr : X.A.frames = some (X.env :: X.outer) := by rw [ok.frames, hs]
  refine wpAny_Try_except (wpAny_mono ((hb (wCl X.K Wout D l) (X.pn ++ pins) (fun e s1 => wpAny (model X.prog X.w) X.A (noteFrame e X.env) (fun _ s2 => wpAny (model X.prog X.w) X.A (setFlight e none) (fun _ s3 =>
    wpAny (model X.prog X.w) X.A (handleBy e X.env (h₀ :: hds)) (SP X pins D) X.xe s3) X.xe s2) X.xe s1) (fun u s' xx => ?_) PassesOwn.looking).run [] s σ H D (I.toTry _) h) (fun f s1 hsp => ?_) (fun e s1 he => he))
  · obtain ⟨a, B, sI, pins', σ', H', cls, d, rfl, J', nb, up, sky, na, os, ag, w⟩ := xx
    have J : Inv X pins σ' H' sI := J'.ofTry ok
    have sky' : Sky B (X.env :: X.outer) a (L2N.Zn cls d) X.env.locals s'.heap := by rw [← hs]; exact sky
    show wpAny (model X.prog X.w) X.A (noteFrame (.ref a) X.env) _ _ _
    refine L2N.Sky.land L2N.Zn.steady hfr hf sky' fun h3 fl3 up3 => ?_
    have J3 : Inv X pins σ' H' { s' with heap := h3 } := J.landed nb fl3.1 (up.trans up3) os ag
    obtain ⟨oe3, vs3, he3, hz3, hd3⟩ := fl3.there
    have nfr : a ∉ frs (X.env :: X.outer) := fun hm => by
      obtain ⟨_, o', e', hnf⟩ := fl3.2.2.1.mem hm
      rw [he3] at e'; cases e'
      exact hnf _ hd3
    have nL : a ≠ X.env.locals := fun z => nfr (List.mem_filterMap.mpr ⟨X.env, List.mem_cons_self, by rw [hf, z]⟩)
    have nF : a ∉ X.fs := fun hm => by
      obtain ⟨e, he, q⟩ := List.mem_filterMap.mp hm
      exact nfr (List.mem_filterMap.mpr ⟨e, List.mem_cons_of_mem _ he, q⟩)
    have S3 := J3.suite he3 hd3 na nL nF
    have LT : PySem.W.Looks (model X.prog X.w) h3 (typeOf (.ref a)) cls := fun A Q E s k q => wpAny_typeOf_ref (k _ _ he3) (by rw [hz3.1]; exact q)
    have name : ∀ {x : Str} {c : Value} {np : Pos} {Q : Value → Shared → Prop} {E : Value → Shared → Prop}, Names X x c → Q c { s' with heap := h3 } → wpAny (model X.prog X.w) (X.A.mark (some (.ref a))) (eval (.Name x np) X.env) Q E { s' with heap := h3 } := fun {x c np Q E} hc q => by
      obtain ⟨hg, hdbg, hm | ⟨hm, hv, hnn⟩⟩ := hc
      · exact ld_glob (X := X.suite a ((a, oe3) :: (X.pn ++ pins))) S3 hg hm q hdbg
      · exact ld_blt (X := X.suite a ((a, oe3) :: (X.pn ++ pins))) S3 hg hm hv q hnn hdbg
    have go : ∀ {hs' : List ExceptHandler} {l' : List Clau}, HdC X hs' l' → wCl X.K Wout D l' cls d σ' H' → wpAny (model X.prog X.w) X.A (handleBy (.ref a) X.env hs') (SP X pins D) X.xe { s' with heap := h3 } := by
      intro hs' l' hk
      induction hk with
      | nil =>
        intro w
        refine wpAny_handleBy_nil ?_
        obtain ⟨k1, k2, k3, oe, vs, T, oT, ts', he, hz, hd, h1, hr⟩ := id fl3
        unfold PySem.passOn
        refine wpAny_bind (wpAny_field he hd h1 ?_)
        rw [if_neg (show ¬ ((Value.ref T == Value.none) = true) from by simp)]
        have fin : wpAny (model X.prog X.w) X.A (setFlight (.ref a) X.env.frame) (fun _ s4 => wpAny (model X.prog X.w) X.A (throw (.ref a) : Sem Flow) (SP X pins D) X.xe s4) X.xe { s' with heap := h3 } := by
          rw [hf]
          exact HandSPX.setFlight_upZ fl3 fun h4 hh4 up4 => wpAny_throw (tk _ _ ⟨a, B, sI, pins, σ', H', cls, d, rfl, J, nb, (up.trans up3).trans up4, .inr (.inr (by rw [hs]; exact hh4)), na, os, ag, w⟩)
        first
          | exact wpAny_bind (wpAny_pure (wpAny_bind fin))
          | exact wpAny_bind fin
      | plain hc hsu r ih =>
        intro w
        obtain ⟨b, hb1, hyes, hno⟩ := w
        refine wpAny_handleBy_cons (codeAny_handlers_test (name hc ((PySem.W.exm_one (M := model X.prog X.w) J3.kIn LT hb1).here ?_))) (by intro q; cases q)
        cases b with
        | true =>
          refine codeAny_handlers_suite (HandSPX.lands_againZ fl3 fun h4 fl4 up4 => ?_)
          have J4 : Inv X pins σ' H' { s' with heap := h4 } := J.landed nb fl4.1 ((up.trans up3).trans up4) os ag
          obtain ⟨oe4, vs4, he4, hz4, hd4⟩ := fl4.there
          refine wpAny_mono ((hsu a oe4 cls d (X.pn ++ pins) hz4 ⟨_, hd4⟩).run [] _ _ H' _ (J4.suite he4 hd4 na nL nF) (hyes rfl a na)) (fun f s6 hsp => ?_) (fun _ _ z => False.elim z)
          exact SP.back hsp fun σ6 H6 S6 => S6.unsuite ok
        | false => exact ih (hno rfl)
      | @named x n c i ts b₀ suite np pos' hds2 l2 hc hi hln hsu r ih =>
        intro w
        obtain ⟨b, hb1, hyes, hno⟩ := w
        refine wpAny_handleBy_cons (codeAny_handlers_test (name hc ((PySem.W.exm_one (M := model X.prog X.w) J3.kIn LT hb1).here ?_))) (by intro q; cases q)
        cases b with
        | true =>
          refine codeAny_handlers_suite_as (HandSPX.lands_againZ fl3 fun h4 fl4 up4 => ?_)
          have J4 : Inv X pins σ' H' { s' with heap := h4 } := J.landed nb fl4.1 ((up.trans up3).trans up4) os ag
          obtain ⟨oe4, vs4, he4, hz4, hd4⟩ := fl4.there
          refine store_ok (X := X.suite a ((a, oe4) :: (X.pn ++ pins))) (v := .ref a) (J4.suite he4 hd4 na nL nF) hN hi (.inl hln) rfl (fun s5 S5 => ?_) (.inr hln)
          refine wpAny_mono ((hsu a oe4 cls d (X.pn ++ pins) hz4 ⟨_, hd4⟩).run [] s5 _ H' _ S5 (hyes rfl a na)) (fun f s6 hsp => ?_) (fun _ _ z => False.elim z)
          have last : ∀ {σ6 : St} {H6 : Hp} {Q : Shared → Prop}, Inv (X.suite a ((a, oe4) :: (X.pn ++ pins))) [] σ6 H6 s6 → (∀ s7, Inv X pins (σ6.set i none) H6 s7 → Q s7) →
              wpAny (model X.prog X.w) X.A (do bindName X.env n .none; unbindBehindTheSuite X.env n pos') (fun _ s7 => Q s7) X.xe s6 := fun {σ6 H6 Q} S6 hq => gone_ok (S6.unsuite ok) hN hi hln hq
          cases f with
          | ret u => obtain ⟨v6, σ6, H6, S6, r6, q6⟩ := hsp; exact last S6 fun s7 J7 => ⟨_, _, _, J7, r6, q6⟩
          | next => obtain ⟨σ6, H6, S6, q6⟩ := hsp; exact last S6 fun s7 J7 => ⟨_, _, J7, q6⟩
          | brk => obtain ⟨σ6, H6, S6, q6⟩ := hsp; exact last S6 fun s7 J7 => ⟨_, _, J7, q6⟩
          | cont => obtain ⟨σ6, H6, S6, q6⟩ := hsp; exact last S6 fun s7 J7 => ⟨_, _, J7, q6⟩
        | false => exact ih (hno rfl)
    exact go hh w
  · have b := SP.back (X := X) (pins := pins) hsp fun σ' H' J' => J'.ofTry ok
    cases f with
    | next => exact wpAny_execs_nil b
    | ret u => exact b
    | brk => exact b
    | cont => exact b⟩
end
/-! ### over the C layer -/
section
variable {K : PySem.W.Frag} {W : WX} {X : Cx}
/-- an error's class, its suite by the error's address, class and dict -/
abbrev ClauC := Addr × Option Nat × (Addr → Addr → Option Addr → CS)
def freedC (o : Option Nat) (ρ : Env) : Env := match o with
  | none => ρ
  | some i => ρ.set i none
def heldC (o : Option Nat) (a : Addr) (ρ : Env) : Env := match o with
  | none => ρ
  | some i => ρ.set i (some (.ref a))
/-- what a clause tells of an error of the body: C0 its class -/
def xCl (K : PySem.W.Frag) (Dc : CEnds) : List ClauC → Addr → Option Addr → Env → Mm → Prop
  | [] => Dc.xc
  | (c, o, ts) :: r => fun C0 dx ρ M => ∃ b, PySem.W.exmOne K (.ref C0) (.ref c) = some b ∧ (b = true → ∀ a, M a = none → ts a C0 dx { nx := fun ρ' M' => Dc.nx (freedC o ρ') M', rt := Dc.rt, xc := fun _ _ _ _ => False } (heldC o a ρ) M) ∧ (b = false → xCl K Dc r C0 dx ρ M)
def cTry (K : PySem.W.Frag) (b : CS) (l : List ClauC) : CS := fun Dc ρ M => b { Dc with xc := xCl K Dc l } ρ M
/-- the canonical reading of a block -/
def canS (K : PySem.W.Frag) (W : WX) (c : CS) : TS := fun Dv σ H => ∃ (ρ : Env) (M : Mm) (Dc : CEnds), Sl K H ρ σ ∧ HR K M H ∧ c Dc ρ M ∧ (∀ σ' H' ρ' M', HX K H H' → HR K M' H' → Sl K H' ρ' σ' → Dc.nx ρ' M' → Dv.nx σ' H') ∧
  (∀ v H' d M', HX K H H' → HR K M' H' → Rl K H' d v → Dc.rt d M' → Dv.rt v H') ∧ (∀ C dx σ' H' ρ' M', HX K H H' → HR K M' H' → Sl K H' ρ' σ' → Dc.xc C dx ρ' M' → W (.ref C) dx σ' H')
theorem CSs.can {ss : List Stmt} {c : CS} (h : CSs X ss c) {W : WX} (tk : Takes X W) : PSs X ss (canS X.K W c) := by
  obtain ⟨t, p, s⟩ := h W tk
  exact ⟨fun pins s1 σ H D I ⟨ρ, M, Dc, hs, hh, hc, h1, h2, h3⟩ => p.run pins s1 σ H D I (s.run hs hh hc h1 h2 h3)⟩
theorem simS_can {c : CS} : SimS K W (canS K W c) c := ⟨fun hs hh hc h1 h2 h3 => ⟨_, _, _, hs, hh, hc, h1, h2, h3⟩⟩
/-- the clauses: their readings -/
inductive HdCc (X : Cx) : List ExceptHandler → List ClauC → Prop
  | nil : HdCc X [] []
  | plain {x : Str} {c : Addr} {ts : Addr → Addr → Option Addr → CS} {b₀ : Stmt} {suite : List Stmt} {np pos : Pos} {hds : List ExceptHandler} {l : List ClauC} (hc : X.mg x = some (.ref c)) (hg : Gl X x) (hx : (x == ("__debug__" : Str)) = false)
      (hsu : ∀ (a : Addr) (oe : Obj) (C0 : Addr) (d : Option Addr) (pn : List (Addr × Obj)), L2N.Zn (.ref C0) d oe → (∃ vs, oe.data = .fields vs) → CSs (X.suite a ((a, oe) :: pn)) (b₀ :: suite) (ts a C0 d)) (r : HdCc X hds l) :
      HdCc X (.ExceptHandler (some (.Name x np)) none (b₀ :: suite) pos :: hds) ((c, none, ts) :: l)
  | named {x n : Str} {c : Addr} {i : Nat} {ts : Addr → Addr → Option Addr → CS} {b₀ : Stmt} {suite : List Stmt} {np pos : Pos} {hds : List ExceptHandler} {l : List ClauC} (hc : X.mg x = some (.ref c)) (hg : Gl X x) (hx : (x == ("__debug__" : Str)) = false) (hi : X.N[i]? = some n) (hl : X.env.kindOf n = some .local)
      (hsu : ∀ (a : Addr) (oe : Obj) (C0 : Addr) (d : Option Addr) (pn : List (Addr × Obj)), L2N.Zn (.ref C0) d oe → (∃ vs, oe.data = .fields vs) → CSs (X.suite a ((a, oe) :: pn)) (b₀ :: suite) (ts a C0 d)) (r : HdCc X hds l) :
      HdCc X (.ExceptHandler (some (.Name x np)) (some n) (b₀ :: suite) pos :: hds) ((c, some i, ts) :: l)
/-- the suite's reading by the error's class as a value -/
def suiteT (K : PySem.W.Frag) (ts : Addr → Addr → Option Addr → CS) : Addr → Value → Option Addr → TS := fun a cls d Dv σ H => ∃ C0, cls = .ref C0 ∧ canS K W0 (ts a C0 d) Dv σ H
def clT (K : PySem.W.Frag) : List ClauC → List Clau
  | [] => []
  | (c, o, ts) :: r => (.ref c, o, suiteT K ts) :: clT K r
theorem suite_ps {ts : Addr → Addr → Option Addr → CS} {ss : List Stmt} {a : Addr} {oe : Obj} {cls : Value} {d : Option Addr} {pn : List (Addr × Obj)} (hz : L2N.Zn cls d oe) (hf : ∃ vs, oe.data = .fields vs)
    (h : ∀ (a : Addr) (oe : Obj) (C0 : Addr) (d : Option Addr) (pn : List (Addr × Obj)), L2N.Zn (.ref C0) d oe → (∃ vs, oe.data = .fields vs) → CSs (X.suite a ((a, oe) :: pn)) ss (ts a C0 d)) : PSs (X.suite a ((a, oe) :: pn)) ss (suiteT X.K ts a cls d) :=
  ⟨fun pins s σ H D I ⟨C0, e, q⟩ => by
    subst e
    exact ((h a oe C0 d pn hz hf).can takes0).run pins s σ H D I q⟩
theorem HdCc.t {hs : List ExceptHandler} {l : List ClauC} (h : HdCc X hs l) : HdC X hs (clT X.K l) := by
  induction h with
  | nil => exact .nil
  | plain hc hg hx hsu r ih => exact .plain ⟨hg, hx, .inl hc⟩ (fun a oe cls d pn hz hf => suite_ps hz hf hsu) ih
  | named hc hg hx hi hl hsu r ih => exact .named ⟨hg, hx, .inl hc⟩ hi hl (fun a oe cls d pn hz hf => suite_ps hz hf hsu) ih
theorem Sl.free {H : Hp} {ρ : Env} {σ : St} (h : Sl K H ρ σ) (o : Option Nat) : Sl K H (freedC o ρ) (freed o σ) := by
  cases o with
  | none => exact h
  | some i => exact h.wipe [i]
theorem Sl.held {H : Hp} {ρ : Env} {σ : St} (h : Sl K H ρ σ) (o : Option Nat) (a : Addr) : Sl K H (heldC o a ρ) (CL.held o a σ) := by
  cases o with
  | none => exact h
  | some i => exact h.set i Rl.rf
theorem xCl_ok {Wout : WX} {Dv : Ends} {Dc : CEnds} {H0 : Hp} (hn : ∀ σ' H' ρ' M', HX K H0 H' → HR K M' H' → Sl K H' ρ' σ' → Dc.nx ρ' M' → Dv.nx σ' H') (hret : ∀ v H' d M', HX K H0 H' → HR K M' H' → Rl K H' d v → Dc.rt d M' → Dv.rt v H')
    (hx : ∀ C dx σ' H' ρ' M', HX K H0 H' → HR K M' H' → Sl K H' ρ' σ' → Dc.xc C dx ρ' M' → Wout (.ref C) dx σ' H') : ∀ (l : List ClauC) (C : Addr) (dx : Option Addr) (σ' : St) (H' : Hp) (ρ' : Env) (M' : Mm), HX K H0 H' → HR K M' H' → Sl K H' ρ' σ' → xCl K Dc l C dx ρ' M' →
    wCl K Wout Dv (clT K l) (.ref C) dx σ' H'
  | [], C, dx, σ', H', ρ', M', x, r, s, q => hx C dx σ' H' ρ' M' x r s q
  | (c, o, ts) :: l, C, dx, σ', H', ρ', M', x, r, s, q => by
    obtain ⟨b, e, hy, hno⟩ := q
    refine ⟨b, e, fun hb a ha => ⟨C, rfl, _, _, _, s.held o a, r, hy hb a (r.free ha), fun σ2 H2 ρ2 M2 x2 r2 s2 q2 => ?_, fun v H2 d M2 x2 r2 rd q2 => ?_, fun _ _ _ _ _ _ _ _ _ z => z.elim⟩, fun hb => xCl_ok hn hret hx l C dx σ' H' ρ' M' x r s (hno hb)⟩
    · exact hn _ H2 _ M2 (x.trans x2) r2 (s2.free o) q2
    · exact hret v H2 d M2 (x.trans x2) r2 rd q2
theorem cs_try {body : List Stmt} {h₀ : ExceptHandler} {hds : List ExceptHandler} {l : List ClauC} {pos : Pos} {b : CS} (hs : X.stack = X.env :: X.outer) (hf : X.env.frame = some X.env.locals) (hN : X.N.Nodup)
    (hb : ∀ (pn : List (Addr × Obj)) (xe : Value → Shared → Prop), PassesOwn (model X.prog X.w) X.A X.env xe → CSs (X.tr pn xe) body b) (hh : HdCc X (h₀ :: hds) l) : CSt X (.Try body (h₀ :: hds) [] [] pos) (cTry X.K b l) := fun W tk => by
  refine ⟨_, ps_tryC (tb := fun W' => canS X.K W' b) hs hf hN tk (fun W' pn xe tk' pa => (hb pn xe pa).can tk') hh.t, ⟨fun {σ H ρ M Dv Dc} hs' hr hc hn hret hx => ?_⟩⟩
  exact ⟨ρ, M, { Dc with xc := xCl X.K Dc l }, hs', hr, hc, hn, hret, fun C dx σ' H' ρ' M' x r s q => xCl_ok hn hret hx l C dx σ' H' ρ' M' x r s q⟩
end
end CL

/-! THE C LAYER: raise of an own error made by its class; its fields and isinstance in the suite that holds it. -/
namespace CL
open PySem PySem.Spec PyProof.Rows L2
section
variable {K : PySem.W.Frag} {W : WX} {X : Cx}
/-- behind the call of the class -/
theorem mk_fin {pins : List (Addr × Obj)} {σ : St} {H1 : Hp} {Q : XK} {hp h' : Heap} {g : Array GenState} {dr : Drawn} {tk tk' : Nat} {os : OsState} {e C : Addr} {d : Option Addr} {mA : Str → Option Value} {fs : List (Str × V)}
    (I1 : Inv X pins σ H1 ⟨hp, g, dr, tk, os⟩) (M : EXS.Made hp h' e C d mA) (r : Raises X (.ref C)) (hf : ∀ f, RelO (fs.lookup f) (mA f))
    (hq : match d with
      | none => Q (.ref C) none H1
      | some dd => H1 dd = none → Q (.ref C) (some dd) (upd H1 dd (.xd fs))) : L2N.MkP X pins σ Q (.ref e) ⟨h', g, dr, tk', os⟩ := by
  obtain ⟨oe, fv, hoe, hc, hd, hdat, h1, h2⟩ := M.obj
  have cx : PXN.CtxN oe := fun vs e => by rw [hdat] at e; cases e; exact h2
  obtain ⟨G', g1, g2⟩ := restrict h' fun b => decide (b ≠ e)
  have gk : ∀ b, b ≠ e → G'.get? b = h'.get? b := fun b hb => g1 b (decide_eq_true hb)
  have ge : G'.get? e = none := g2 e (by simp)
  have old : ∀ b o, hp.get? b = some o → G'.get? b = some o := fun b o q => (gk b (Nat.ne_of_lt (Nat.lt_of_lt_of_le (Heap.lt_size q) M.new))).trans (M.keep b o q)
  have up : ∀ b o, G'.get? b = some o → h'.get? b = some o := fun b o q => by
    by_cases hb : b = e
    · rw [hb, ge] at q; cases q
    · exact (gk b hb).symm.trans q
  cases d with
  | none => exact ⟨e, oe, fv, ⟨G', g, dr, tk', os⟩, H1, .ref C, none, rfl, I1.kept (t' := tk') old, up, ge, hoe, ⟨hc, hd, cx⟩, hdat, h1, I1.hok.fresh M.new, rfl, I1.bare, r, hq⟩
  | some dd =>
    obtain ⟨dn, dne, hns⟩ := M.dict dd rfl
    have ob : ObjOk X.prog X.w (upd H1 dd (.xd fs)) G' dd (.xd fs) := ⟨mA, hns.at (fun o q => (gk dd dne).trans q), hf⟩
    have J : Inv X pins σ (upd H1 dd (.xd fs)) ⟨G', g, dr, tk', os⟩ := I1.laid (t' := tk') old dn ob
    exact ⟨e, oe, fv, ⟨G', g, dr, tk', os⟩, _, .ref C, some dd, rfl, J, up, ge, hoe, ⟨hc, hd, cx⟩, hdat, h1, by rw [upd_ne (Ne.symm dne)]; exact I1.hok.fresh M.new, rfl, I1.bare, r, hq (I1.hok.fresh dn)⟩
/-- what the top has left of an own error's class: its name x, at C, its __init__ at fI with the parameters fs -/
structure XcT (P : Program) (K : PySem.W.Frag) (mg : Str → Option Value) (x : Str) (C fI : Addr) (fs : List Str) : Prop where
  gC : mg x = some (.ref C)
  kC : PySem.W.keepIn K (.ref C) = true
  exC : PySem.W.subIn K (.ref C) (.type "BaseException") = some true
  tyC : PySem.W.typeIn K (.ref C) = some (.type "type")
  g1 : mg "super" = none
  t : EXS.ExT P K C fI fs
  /-- the call of __init__ -/
  run : ∀ (w : World) (A : Around) (s : Shared) (mb : Str → Option Value) (x t0 : Addr) (vs : List Value), vs.length = fs.length → EXS.Here P K s mg mb → A.depth < recursionLimit → s.heap.get? x = some (HandSPX.excO C t0) → K.lookup x = none →
    codeAny (model P w) A (.call (.ref fI) ⟨.ref x :: vs, []⟩) (EXS.InitQ (!fs.isEmpty) s x C fun y => (fs.zip vs).reverse.lookup y) s
theorem relO_zip : ∀ {fs : List Str} {vs : List V} {us : List Value}, Vals vs us → ∀ f, RelO ((fs.zip vs).reverse.lookup f) ((fs.zip us).reverse.lookup f) := by
  intro fs vs us r f
  have key : ∀ (a : List (Str × V)) (b : List (Str × Value)), Paired (fun p q => p.1 = q.1 ∧ RelV p.2 q.2) a b → RelO (a.lookup f) (b.lookup f) := by
    intro a b h
    induction h with
    | nil => trivial
    | @cons p q _ _ h _ ih =>
      obtain ⟨p1, p2⟩ := p
      obtain ⟨q1, q2⟩ := q
      obtain ⟨h1, h2⟩ := h
      dsimp only at h1 h2
      subst h1
      rw [List.lookup_cons, List.lookup_cons]
      split
      · exact h2
      · exact ih
  have zp : ∀ (fs : List Str) (vs : List V) (us : List Value), Vals vs us → Paired (fun p q => p.1 = q.1 ∧ RelV p.2 q.2) (fs.zip vs) (fs.zip us) := by
    intro fs vs us r
    induction r generalizing fs with
    | nil => cases fs <;> exact .nil
    | cons h _ ih => cases fs with
      | nil => exact .nil
      | cons f fs => exact .cons ⟨rfl, h⟩ (ih fs)
  have app : ∀ (a b : List (Str × V)) (c d : List (Str × Value)), Paired (fun p q => p.1 = q.1 ∧ RelV p.2 q.2) a c → Paired (fun p q => p.1 = q.1 ∧ RelV p.2 q.2) b d → Paired (fun p q => p.1 = q.1 ∧ RelV p.2 q.2) (a ++ b) (c ++ d) := by
    intro a b c d h h'
    induction h with
    | nil => exact h'
    | cons h _ ih => exact .cons h ih
  have rv : ∀ (a : List (Str × V)) (b : List (Str × Value)), Paired (fun p q => p.1 = q.1 ∧ RelV p.2 q.2) a b → Paired (fun p q => p.1 = q.1 ∧ RelV p.2 q.2) a.reverse b.reverse := by
    intro a b h
    induction h with
    | nil => exact .nil
    | cons h _ ih => rw [List.reverse_cons, List.reverse_cons]; exact app _ _ _ _ ih (.cons h .nil)
  exact key _ _ (rv _ _ (zp fs vs us r))
/-- C(e, ..) -/
def tMkE (C : Addr) (fs : List Str) (ta : TA) : St → Hp → XK → Prop := fun σ H Q => ta σ H fun vs H1 => vs.length = fs.length ∧ match fs with
  | [] => Q (.ref C) none H1
  | _ :: _ => ∀ d, H1 d = none → Q (.ref C) (some d) (upd H1 d (.xd (fs.zip vs).reverse))
theorem make_call {pins : List (Addr × Obj)} {σ : St} {H1 : Hp} {Q : XK} {s1 : Shared} {x : Str} {C fI : Addr} {fs : List Str} {vs : List V} {us : List Value} {k : Nat} (T : XcT X.prog X.K X.mg x C fI fs) (hr : Room (k + 1) X.A) (I1 : Inv X pins σ H1 s1) (r : Vals vs us) (hl : vs.length = fs.length) (h8 : fs.length ≤ 1000)
    (q : match fs with
      | [] => Q (.ref C) none H1
      | _ :: _ => ∀ d, H1 d = none → Q (.ref C) (some d) (upd H1 d (.xd (fs.zip vs).reverse))) : wpAny (model X.prog X.w) X.A (call (.ref C) us) (L2N.MkP X pins σ Q) X.xe s1 := by
  have hlu : us.length = fs.length := by rw [← r.length]; exact hl
  obtain ⟨mb, b1, b2⟩ := I1.mod.blt
  have here : EXS.Here X.prog X.K s1 X.mg mb := ⟨I1.kIn, I1.mod.glob.keeps I1.bk, b1.keeps I1.bk, T.g1, (b2 _ (by decide)).trans (by decide +kernel), I1.nolimit⟩
  obtain ⟨hp, g, dr, tk, os⟩ := s1
  have hsz : us.length ≤ sizeLine := by rw [hlu]; exact Nat.le_trans h8 (by decide)
  refine wpAny_call (EXS.made_end (C := C) T.t I1.kIn hsz (fun y => (fs.zip us).reverse.lookup y) (!fs.isEmpty) (fun s2 x t0 kp nx e => ?_) fun h' tk' e d M hd => ?_)
  · refine T.run X.w _ s2 mb x t0 us hlu (here.keeps kp) ?_ e nx
    rw [make_depth]
    have := hr.dp
    omega
  · refine mk_fin I1 M (raises_own T.exC T.tyC) (relO_zip r) ?_
    cases fs with
    | nil => cases d with
      | none => exact q
      | some dd => cases hd
    | cons f fs => cases d with
      | none => cases hd
      | some dd => exact q dd
theorem pmk_e {x : Str} {C fI : Addr} {fs : List Str} {a : Expr} {es : List Expr} {ta : TA} {p pos : Pos} {k : Nat} (T : XcT X.prog X.K X.mg x C fI fs) (hr : Room (k + 1) X.A) (h8 : fs.length ≤ 1000) (ha : PA X (a :: es) ta) (hg : Gl X x) (hdb : (x == ("__debug__" : Str)) = false)
    (he : starEach (a :: es) X.env = (false, eval a X.env) :: starEach es X.env) (hpl : (backTo pos (starEach es X.env)).any (·.1) = false) : L2N.PMk X (.Call (.Name x p) (a :: es) [] pos) (tMkE C fs ta) := fun pins s σ H Q I h => by
  refine wpAny_Call_Name_kw (ld_glob I hg T.gC ?_ hdb)
  refine PySem.W.callWith_K (h₀ := X.base) I.ok.mod.kin T.kC (thn (ha.run pos pins s σ H _ I h) fun us s1 hh => ?_) he hpl
  obtain ⟨vs, H1, I1, r1, hl, q1⟩ := hh
  exact ⟨I1.kIn, make_call T hr I1 r1 hl h8 q1⟩
theorem pmk_e0 {x : Str} {C fI : Addr} {p pos : Pos} {k : Nat} (T : XcT X.prog X.K X.mg x C fI []) (hr : Room (k + 1) X.A) (hg : Gl X x) (hdb : (x == ("__debug__" : Str)) = false) : L2N.PMk X (.Call (.Name x p) [] [] pos) (tMkE C [] tNil) := fun pins s σ H Q I h => by
  refine wpAny_Call_Name_kw (ld_glob I hg T.gC ?_ hdb)
  exact PySem.W.callWith_K0 I.kIn T.kC (make_call (vs := []) T hr I .nil rfl (by decide) h.2)
/-- raise C(e, ..) -/
def cRaise (C : Addr) (fs : List Str) (a : CA) : CS := fun Dc ρ M => a ρ M (fun ds M1 => ds.length = fs.length ∧ match fs with
  | [] => Dc.xc C none ρ M1
  | _ :: _ => ∀ d, M1 d = none → Dc.xc C (some d) ρ (put M1 d (.xd (fs.zip ds).reverse))) fun C dx M' => Dc.xc C dx ρ M'
theorem kvR_zip {H : Hp} : ∀ {fs : List Str} {ds : List D} {vs : List V}, RlL K H ds vs → KvR K H (fs.zip ds).reverse (fs.zip vs).reverse := by
  intro fs ds vs h
  have zp : ∀ (fs : List Str) (ds : List D) (vs : List V), RlL K H ds vs → KvR K H (fs.zip ds) (fs.zip vs) := by
    intro fs ds
    induction ds generalizing fs with
    | nil => intro vs h; simp only [RlL] at h; subst h; cases fs <;> exact .nil
    | cons d ds ih =>
      intro vs h
      simp only [RlL] at h
      obtain ⟨v, r, rfl, h1, h2⟩ := h
      cases fs with
      | nil => exact .nil
      | cons f fs => exact .cons ⟨rfl, h1⟩ (ih fs r h2)
  have app : ∀ (a b : List (Str × D)) (c d : List (Str × V)), KvR K H a c → KvR K H b d → KvR K H (a ++ b) (c ++ d) := by
    intro a b c d h h'
    induction h with
    | nil => exact h'
    | cons h _ ih => exact .cons h ih
  have rv : ∀ (a : List (Str × D)) (b : List (Str × V)), KvR K H a b → KvR K H a.reverse b.reverse := by
    intro a b h
    induction h with
    | nil => exact .nil
    | cons h _ ih => rw [List.reverse_cons, List.reverse_cons]; exact app _ _ _ _ ih (.cons h .nil)
  exact rv _ _ (zp fs ds vs h)
theorem simS_raise {C : Addr} {fs : List Str} {t : TA} {a : CA} (s : SimA K W t a) : SimS K W (fun _ σ H => tMkE C fs t σ H fun cls d H' => W cls d σ H') (cRaise C fs a) := ⟨fun {σ H ρ M Dv Dc} hs hh hc _ _ hx => by
  refine s.run hs hh hc (fun vs H1 ds M1 x1 r1 rd q => ⟨by rw [← rd.length]; exact q.1, ?_⟩) fun C dx H' M' x r e => hx C dx _ H' _ M' x r (hs.mono x) e
  have q2 := q.2
  cases fs with
  | nil => exact hx C none _ H1 _ M1 x1 r1 (hs.mono x1) q2
  | cons f fs =>
    intro d hd
    have xd : HX K H1 (upd H1 d (.xd ((f :: fs).zip vs).reverse)) := sqT_new hd
    exact hx C (some d) _ _ _ _ (x1.trans xd) (r1.upd (o := .xd ((f :: fs).zip ds).reverse) xd ⟨_, upd_same, (kvR_zip rd).mono xd⟩) (hs.mono (x1.trans xd)) (q2 d (r1.free hd))⟩
theorem cs_raise {x : Str} {C fI : Addr} {fs : List Str} {e : Expr} {es : List Expr} {a : CA} {p pos pos2 : Pos} {k : Nat} (hc : X.calm = true) (T : XcT X.prog X.K X.mg x C fI fs) (hr : Room (k + 1) X.A) (ha : CAs X (e :: es) a) (h8 : fs.length ≤ 1000 := by decide) (hg : Gl X x := by rfl) (hdb : (x == ("__debug__" : Str)) = false := by decide)
    (he : starEach (e :: es) X.env = (false, eval e X.env) :: starEach es X.env := by rfl) (hpl : (backTo pos (starEach es X.env)).any (·.1) = false := by rfl) : CSt X (.Raise (some (.Call (.Name x p) (e :: es) [] pos)) none pos2) (cRaise C fs a) := fun W tk => by
  obtain ⟨t, pa, s⟩ := ha W tk
  exact ⟨_, L2N.ps_raise hc tk (pmk_e T hr h8 pa hg hdb he hpl), simS_raise s⟩
theorem cs_raise0 {x : Str} {C fI : Addr} {p pos pos2 : Pos} {k : Nat} (hc : X.calm = true) (T : XcT X.prog X.K X.mg x C fI []) (hr : Room (k + 1) X.A) (hg : Gl X x := by rfl) (hdb : (x == ("__debug__" : Str)) = false := by decide) :
    CSt X (.Raise (some (.Call (.Name x p) [] [] pos)) none pos2) (cRaise C [] cNil) := fun W tk => by
  obtain ⟨t, pa, s⟩ := ca_nil (X := X) W tk
  refine ⟨_, L2N.ps_raise hc tk (pmk_e0 T hr hg hdb), ⟨fun {σ H ρ M Dv Dc} hs hh hc _ _ hx => ⟨rfl, hx C none _ H _ M HX.refl hh hs hc.2⟩⟩⟩
/-! ### what a suite asks of the error that it holds -/
/-- e.f -/
def cXf (a C0 : Addr) (dx : Option Addr) (C : Addr) (f : Str) (c : CR) : CR := fun ρ M Q E => c ρ M (fun d M1 => match d with
  | .ref b => b = a ∧ C0 = C ∧ (match dx with
    | some dd => (match M1 dd with
      | some (.xd fs) => (match fs.lookup f with
        | some y => Q y M1
        | none => False)
      | _ => False)
    | none => False)
  | _ => False) E
theorem kvR_lookup {H : Hp} {f : Str} : ∀ {a : List (Str × D)} {b : List (Str × V)} {y : D}, KvR K H a b → a.lookup f = some y → ∃ v, b.lookup f = some v ∧ Rl K H y v := by
  intro a b y h e
  induction h with
  | nil => cases e
  | @cons p q _ _ h _ ih =>
    obtain ⟨p1, p2⟩ := p
    obtain ⟨q1, q2⟩ := q
    obtain ⟨h1, h2⟩ := h
    dsimp only at h1 h2
    subst h1
    rw [List.lookup_cons] at e ⊢
    split at e
    · cases e; exact ⟨q2, rfl, h2⟩
    · exact ih e
theorem ce_xf {a C C0 : Addr} {oe : Obj} {dx : Option Addr} {pn : List (Addr × Obj)} {e : Expr} {c : CR} {pos : Pos} {n : Str} (T : XfC X.K C) (hno : PySem.W.findIn X.K (.ref C) n = some none) (hz : L2N.Zn (.ref C0) dx oe) (hf : ∃ vs, oe.data = .fields vs) (he : CE (X.suite a ((a, oe) :: pn)) e c)
    (hb : attributeBase e n X.env (eval e X.env) = eval e X.env := by rfl) : CE (X.suite a ((a, oe) :: pn)) (.Attribute e n pos) (cXf a C0 dx C n c) := fun W tk => by
  obtain ⟨t, p, s⟩ := he W tk
  refine ⟨_, pe_xf T hno hz.zc hf p hb, ⟨fun hs hh hc hq hx => s.run hs hh hc (fun v H1 d M1 x1 r1 rd q => ?_) hx⟩⟩
  cases d with
  | ref b =>
    obtain ⟨rfl, rfl, q⟩ := q
    cases dx with
    | none => exact q.elim
    | some dd =>
      dsimp only at q
      split at q
      · rename_i fs em
        split at q
        · rename_i y ey
          obtain ⟨ws, ew, r⟩ := r1 dd _ em
          obtain ⟨v', e1, rv⟩ := kvR_lookup r ey
          exact ⟨rd.ref_inv, rfl, dd, ws, v', rfl, ew, e1, hq _ _ _ _ x1 r1 rv q⟩
        · exact q.elim
      · exact q.elim
  | _ => exact q.elim
/-- isinstance(e, c) -/
structure XiC (K : PySem.W.Frag) (C : Addr) : Prop where
  cl : (PySem.W.clsIn K C).isSome = true
  ga : PySem.W.findIn K (.ref C) "__getattribute__" = some (some (.builtin "BaseException.__getattribute__"))
  gt : PySem.W.findIn K (.ref C) "__getattr__" = some none
  sb : PySem.W.subIn K (.ref C) (.type "BaseException") = some true
  ca : PySem.W.findIn K (.ref C) "__class__" = some (some (.builtin "object.__class__"))
  gs : PySem.W.specialIn K (.builtin "object.__class__") "__get__" = some (some (.builtin "getset_descriptor.__get__"))
  tk : PySem.W.takesIn K (.builtin "object.__class__") = some true
  ob : PySem.W.mroIn K C (.type "object") = some true
def rIsX (K : PySem.W.Frag) (C a : Addr) (dx : Option Addr) : List V → Hp → VK → Prop := fun xs H Q => XiC K C ∧ ∃ (c : V) (cv : Value) (b : Bool), xs = [.ref a, c] ∧ ClsV c cv ∧ PySem.W.kitOne K (.ref C) cv = some b ∧ (∀ dd, dx = some dd → ∃ ws, H dd = some (.xd ws)) ∧ Q (.bl b) H
theorem call_isX {a C : Addr} {oe : Obj} {dx : Option Addr} {pn : List (Addr × Obj)} (hz : L2N.Zn (.ref C) dx oe) (hf : ∃ vs, oe.data = .fields vs) : CallR (X.suite a ((a, oe) :: pn)) (.builtin "isinstance") (rIsX X.K C a dx) := by
  intro pins s σ H xs us Q I r h
  obtain ⟨T, c, cv, b, rfl, k, e, hd, q⟩ := h
  obtain ⟨u1, u2, rfl, r1, r2⟩ := vals2 r
  cases (show u1 = Value.ref a from r1)
  have e2 := k.eq r2
  subst e2
  obtain ⟨hget, _⟩ := I.pin (a, oe) (List.mem_append.mpr (.inl List.mem_cons_self))
  obtain ⟨vs, hv⟩ := hf
  obtain ⟨oc, od, oda, osl⟩ := oe
  obtain ⟨h1, h2, _⟩ := hz
  dsimp only at h1 h2 hv
  subst h1 h2 hv
  cases od with
  | none =>
    have J : PySem.W.InstAt s.heap a ⟨.ref C, none, .fields vs, osl⟩ C none := ⟨hget, rfl, rfl, trivial⟩
    exact PySem.W.kia_one (PySem.W.kitx_exc T.cl T.ga T.gt T.sb T.ca T.gs T.tk T.ob) I.kIn J e (fun z => nomatch z) fun tk => ⟨.bl b, H, I.tok tk, rfl, q⟩
  | some dd =>
    obtain ⟨ws, ew⟩ := hd dd rfl
    obtain ⟨o, ho⟩ : ∃ o, s.heap.get? dd = some o := by
      obtain ⟨mA, ⟨o, _, _, ho, _⟩, _⟩ := I.hok dd _ ew
      exact ⟨o, ho⟩
    have J : PySem.W.InstAt s.heap a ⟨.ref C, some dd, .fields vs, osl⟩ C (some o) := ⟨hget, rfl, rfl, ho⟩
    exact PySem.W.kia_one (PySem.W.kitx_exc T.cl T.ga T.gt T.sb T.ca T.gs T.tk T.ob) I.kIn J e (fun z => nomatch z) fun tk => ⟨.bl b, H, I.tok tk, rfl, q⟩
def clsD : D → Option Value
  | .ref a => some (.ref a)
  | .ty n => some (.type n)
  | _ => none
def hasX (dx : Option Addr) (M : Mm) : Prop := match dx with
  | none => True
  | some dd => (match M dd with
    | some (.xd _) => True
    | _ => False)
def oIsX (K : PySem.W.Frag) (C a : Addr) (dx : Option Addr) : CCl := fun ds M Q => match ds with
  | [.ref b, c] => b = a ∧ XiC K C ∧ hasX dx M ∧ ∃ cv k, clsD c = some cv ∧ PySem.W.kitOne K (.ref C) cv = some k ∧ Q (.bl k) M
  | _ => False
theorem sim_isX {C a : Addr} {dx : Option Addr} : SimC K (rIsX K C a dx) (oIsX K C a dx) := ⟨fun {H M vs ds Q Q'} hh hv h hq => by
  unfold oIsX at h
  split at h
  · rename_i b c
    obtain ⟨rfl, T, hd, cv, k, e1, e2, h⟩ := h
    obtain ⟨v, w, rfl, r1, r2⟩ := hv.two
    rw [r1.ref_inv]
    refine ⟨T, w, cv, k, rfl, ?_, e2, fun dd e => ?_, hq _ _ _ _ HX.refl hh Rl.bl h⟩
    · cases c with
      | ref x => cases e1; rw [r2.ref_inv]; exact .own x
      | ty n => cases e1; simp only [Rl] at r2; rw [r2]; exact .ty n
      | _ => cases e1
    · subst e
      unfold hasX at hd
      dsimp only at hd
      split at hd
      · rename_i fs em; obtain ⟨ws, ew, _⟩ := hh dd _ em; exact ⟨ws, ew⟩
      · exact hd.elim
  · exact h.elim⟩
/-- isinstance in a suite: of the error, of any other value -/
def oIsS (K : PySem.W.Frag) (C a : Addr) (dx : Option Addr) : CCl := fun ds M Q => oIsi ds M Q ∨ oIsX K C a dx ds M Q
theorem simC_or {r r' : List V → Hp → VK → Prop} {c c' : CCl} (h : SimC K r c) (h' : SimC K r' c') : SimC K (fun xs H Q => r xs H Q ∨ r' xs H Q) (fun ds M Q => c ds M Q ∨ c' ds M Q) :=
  ⟨fun hh hv q hq => q.elim (fun q => .inl (h.run hh hv q hq)) fun q => .inr (h'.run hh hv q hq)⟩
theorem call_isS {a C : Addr} {oe : Obj} {dx : Option Addr} {pn : List (Addr × Obj)} (hz : L2N.Zn (.ref C) dx oe) (hf : ∃ vs, oe.data = .fields vs) : CallR (X.suite a ((a, oe) :: pn)) (.builtin "isinstance") (fun xs H Q => rIsi X.K xs H Q ∨ rIsX X.K C a dx xs H Q) :=
  call_isi.or (call_isX hz hf)
theorem sim_isS {C a : Addr} {dx : Option Addr} : SimC K (fun xs H Q => rIsi K xs H Q ∨ rIsX K C a dx xs H Q) (oIsS K C a dx) := simC_or sim_isi sim_isX
/-! ### a def called in a suite -/
theorem hot_of {a : Addr} {oe : Obj} {cls : Value} {dx : Option Addr} {pn : List (Addr × Obj)} (hz : L2N.Zn cls dx oe) (hf : ∃ vs, oe.data = .fields vs) : L2H.HotC (X.suite a ((a, oe) :: pn)) := by
  obtain ⟨vs, e⟩ := hf
  exact ⟨(a, oe), ⟨rfl, vs, e, hz.2.2 vs e⟩, List.mem_cons_self⟩
theorem hot_room {k j : Nat} {a : Addr} {pn : List (Addr × Obj)} (hr : Room k X.A) (h : j ≤ k) : L2H.RoomH j (X.suite a pn).A :=
  ⟨by have := hr.dp; show X.A.depth + 3 * j + 5 < recursionLimit; omega, by have := hr.un; show X.A.units + 16 * j + 200 < cLine; omega⟩
theorem ce_callH {k n : Nat} {f : Addr} {fd : FuncData} {ps : List Str} {cf : CF} {x : Str} {p pos : Pos} {e : Expr} {es : List Expr} {a : CA} (F : L2H.FnH X.prog X.w X.K X.mg X.base (L2N.CX X.prog X.w) k f fd ps (spC X.K n cf)) (hr : L2H.RoomH k X.A) (hc : L2H.HotC X)
    (hm : X.mg x = some (.ref f)) (hk : PySem.W.keepIn X.K (.ref f) = true) (hb : Binds X.K fd ps []) (ha : CAs X (e :: es) a) (hg : Gl X x := by rfl) (hdb : (x == ("__debug__" : Str)) = false := by decide)
    (he : starEach (e :: es) X.env = (false, eval e X.env) :: starEach es X.env := by rfl) (hpl : (backTo pos (starEach es X.env)).any (·.1) = false := by rfl) : CE X (.Call (.Name x p) (e :: es) [] pos) (cCall n cf a) := fun W tk => by
  obtain ⟨t, pa, s⟩ := ha W tk
  exact ⟨_, L2H.pe_callH F hr hc hg hm hk hb (fun σ => L2N.passAt tk σ) pa hdb he hpl, simE_call s⟩
theorem fokH {P : Program} {w : World} {mg : Str → Option Value} {base : Heap} {x qual : Str} {params : Arguments} {body : List Stmt} {scope : Scope} {f : Addr} {fd : FuncData} {N ps : List Str} {k : Nat} {c : CS}
    (F : FunD K x qual params body scope [] [] f fd) (S : FnScope N ps scope)
    (h : ∀ (cdv : Value) (A : Around) (outer : List PySem.Env) (s : Shared) (H : Hp) (E : XK) (p : Addr × Obj), L2H.RoomH k (A.deeper (envOfC qual scope s.heap.objs.size f cdv)) → CSs (L2H.cxH (L2N.CX P w) P w K mg base N qual scope f cdv A outer s H E p) body c) :
    L2H.FnH P w K mg base (L2N.CX P w) (k + 1) f fd ps (spC K ps.length (cfOf N.length c)) := by
  obtain ⟨oc, od, dV, kV, doc, pm, an, cdv, ct, osl, rfl, lk, hcd, _, _⟩ := F.ex
  refine L2H.fn_ofH lk hcd S (fun vs H Q E ⟨ds, M, Qc, Ec, hl, rl, _⟩ => by rw [← rl.length]; exact hl) fun A outer s H vs Q E p hp hr hsp => ?_
  obtain ⟨ds, M, Qc, Ec, hl, rl, hh, hc, hq, he⟩ := hsp
  obtain ⟨t, pt, sm⟩ := h cdv A outer s H E p hr (fun cls d _ H' => E cls d H') (L2N.takes_of rfl rfl rfl rfl)
  refine ⟨t, pt, ?_⟩
  exact sm.run (startD_sl rl) hh hc (fun σ' H' ρ' M' x r sl q => hq _ H' _ M' x r (by simp only [Rl]) q) (fun v H' d M' x r rd q => hq v H' d M' x r rd q) fun C dx σ' H' ρ' M' x r sl e => he C dx H' M' x r e
end
end CL

/-! THE C LAYER: xs[::-1] of lists and tuples. -/
namespace CRv
open PySem PySem.Spec PyProof.Rows HT
section
variable {prog : Program} {w : World} {A : Around} {E : Value → Shared → Prop} {s : Shared}
theorem rev_bounds (n : Nat) : Builtin.Slice.sliceAdjust none none (-1) (n : Int) = ((n : Int) - 1, -1) := by
  unfold Builtin.Slice.sliceAdjust
  simp
theorem rev_places (n : Nat) : Builtin.Slice.slicePlaces ((n : Int) - 1) (-1) (-1) = n := by
  unfold Builtin.Slice.slicePlaces
  have h1 : ¬ ((-1 : Int) > 0) := by omega
  simp only [h1, if_false]
  split
  · simp
  · omega
theorem rev_applied {sl : Addr} {n : Nat} {t : Tok} {Q : Int × Int × Nat → Shared → Prop} (hs : s.heap.IsSliceOf sl .none .none (.int (-1) t)) (h : Q ((n : Int) - 1, -1, n) s) :
    wpAny (model prog w) A (Builtin.Slice.sliceApplied (.ref sl) (pure (n : Int))) Q E s := by
  obtain ⟨os, hos, hcs, hds⟩ := id hs
  unfold Builtin.Slice.sliceApplied Builtin.Slice.sliceFields
  refine wpAny_bind (wpAny_bind (wpAny_field hos hds (x := .none) rfl (wpAny_bind (wpAny_field hos hds (x := .none) rfl (wpAny_bind (wpAny_field hos hds (x := .int (-1) t) rfl (wpAny_pure ?_)))))))
  refine wpAny_bind (slicePart_int ?_)
  show wpAny _ _ (if ((-1 : Int) == 0) = true then _ else _) _ _ s
  rw [if_neg (by decide)]
  refine wpAny_bind (slicePart_none (wpAny_bind (slicePart_none (wpAny_bind (wpAny_pure ?_)))))
  show wpAny _ _ (match Builtin.Slice.sliceAdjust none none (-1) (n : Int) with | (lo, hi) => pure (lo, (-1 : Int), Builtin.Slice.slicePlaces lo hi (-1))) _ _ s
  rw [rev_bounds n]
  show wpAny _ _ (pure ((n : Int) - 1, (-1 : Int), Builtin.Slice.slicePlaces ((n : Int) - 1) (-1) (-1))) _ _ s
  rw [rev_places]
  exact wpAny_pure h
theorem fm_map {α β : Type} {f : α → Option β} {g : α → β} : ∀ {l : List α}, (∀ m ∈ l, f m = some (g m)) → l.filterMap f = l.map g
  | [], _ => rfl
  | a :: l, h => by
    rw [List.filterMap_cons, h a List.mem_cons_self, List.map_cons, fm_map fun m hm => h m (List.mem_cons_of_mem _ hm)]
theorem rev_pick (xs : Array Value) : ((List.range xs.size).filterMap fun (m : Nat) => xs[(((xs.size : Int) - 1) + (m : Int) * -1).toNat]?).toArray = xs.toList.reverse.toArray := by
  congr 1
  apply List.ext_getElem?
  intro i
  have e : ((List.range xs.size).filterMap fun (m : Nat) => xs[(((xs.size : Int) - 1) + (m : Int) * -1).toNat]?) = (List.range xs.size).map fun m => xs.toList.getD (xs.size - 1 - m) Value.none := by
    refine fm_map fun m hm => ?_
    have hm' := List.mem_range.mp hm
    have k : (((xs.size : Int) - 1) + (m : Int) * -1).toNat = xs.size - 1 - m := by omega
    rw [k]
    have hlt : xs.size - 1 - m < xs.size := by omega
    rw [Array.getElem?_eq_getElem hlt]
    simp [hlt]
  rw [e, List.getElem?_map]
  by_cases hi : i < xs.size
  · rw [List.getElem?_range hi, List.getElem?_reverse (by simpa using hi)]
    have hlt : xs.size - 1 - i < xs.toList.length := by simp; omega
    simp only [Option.map_some, Array.length_toList]
    rw [List.getElem?_eq_getElem hlt]
    simp [List.getD, List.getElem?_eq_getElem hlt]
  · rw [List.getElem?_eq_none (by simpa using hi), List.getElem?_eq_none (by simpa using hi)]
    rfl
theorem getItem_tuple_rev {t sl : Addr} {items : Array Value} {tk : Tok} {Q : Value → Shared → Prop} (ht : IsTup s.heap t items) (hs : s.heap.IsSliceOf sl .none .none (.int (-1) tk))
    (h : Q (.ref s.heap.objs.size) { s with heap := s.heap.push { cls := .type "tuple", data := .seq items.toList.reverse.toArray } }) (hsz : items.size ≤ sizeLine) : wpAny (model prog w) A (getItem (.ref t) (.ref sl)) Q E s := by
  have hok : sizeOk (.seq items.toList.reverse.toArray) := by
    show items.toList.reverse.toArray.size ≤ sizeLine
    simpa using hsz
  obtain ⟨os, hos, hcs, hds⟩ := id hs
  have hTs : s.TypeIs (.ref sl) "slice" := ⟨os, hos, hcs⟩
  unfold getItem
  try with_reducible refine wpAny_holding ?_
  first | refine wpAny_bind (wpAny_pure ?_) | skip
  refine wpAny_bind (wpAny_sequenceKey ht.typeIs (by decide) (wpAny_bind (wpAny_callSpecial?_slot (name := Str.ofString "__getitem__") ht.typeIs PyProof.Rows.slot_tuple_getitem
    (wpAny_call_entry PyProof.Rows.slot_tuple_getitem ht.typeIs entry_tuple_getitem ?_ (args_tuple_getitem _ _)))))
  show wpAny _ _ (Builtin.Tuple.tupleItemsOf (.ref t) >>= _) _ _ s
  refine wpAny_bind (tupleItemsOf_ ht (wpAny_bind (wpAny_typeOf hTs ?_)))
  rw [if_pos (by decide)]
  refine wpAny_bind (rev_applied hs ?_)
  show wpAny _ _ (if (((items.size : Int) - 1) == 0 && (-1 : Int) == 1 && items.size == items.size) = true then _ else _) _ _ s
  rw [if_neg (by simp), rev_pick]
  first
    | exact wpAny_bind (m := Builtin.Tuple.tupleExact _) (wpAny_newObj_type (wpAny_pure ⟨_, rfl, wpAny_pure h⟩) hok)
    | exact wpAny_bind (m := Builtin.Tuple.tupleExact _) (wpAny_newObj_type (wpAny_bind (wpAny_pure (wpAny_pure ⟨_, rfl, wpAny_pure h⟩))) hok)
    | exact wpAny_bind (wpAny_bind (m := Builtin.Tuple.tupleExact _) (wpAny_newObj_type (wpAny_pure (wpAny_pure ⟨_, rfl, wpAny_pure h⟩)) hok))
    | exact wpAny_bind (wpAny_bind (m := Builtin.Tuple.tupleExact _) (wpAny_newObj_type (wpAny_pure ⟨_, rfl, wpAny_pure h⟩) hok))
end
end CRv
namespace CL
open PySem PySem.Spec PyProof.Rows L2
section
variable {K : PySem.W.Frag} {W : WX} {X : Cx}
/-- xs[::-1] -/
def tRevA (K : PySem.W.Frag) (te : TE) : TE := fun σ H Q => te σ H fun x H1 => ∃ a xs, x = .ref a ∧ ((SqL K H1 a xs ∧ ∀ p, H1 p = none → Q (.ref p) (upd H1 p (.lst xs.reverse))) ∨ (SqT K H1 a xs ∧ ∀ p, H1 p = none → Q (.ref p) (upd H1 p (.tup xs.reverse))))
theorem pe_revA {e : Expr} {te : TE} {k : Nat} {p1 p2 p3 pos : Pos} (he : PE X e te) : PE X (.Subscript e (.Slice none none (some (.UnaryOp .USub (.Constant (.int 1) k p1) p2)) p3) pos) (tRevA X.K te) := ⟨fun pins s σ H Q I h => by
  refine Subscript_ (thn (he.run pins s σ H _ I h) fun v s1 ⟨x, H1, I1, r1, q1⟩ => ?_)
  obtain ⟨a, xs, ex, q⟩ := q1
  subst ex
  cases r1
  refine wpAny_Slice (thn (po_none.run pins s1 σ H1 (fun o H2 => o = none ∧ H2 = H1) I1 ⟨rfl, rfl⟩) fun vl s2 ⟨l, H2, I2, pl, el, e2⟩ => ?_)
  subst el e2
  refine thn (po_none.run pins s2 σ H2 (fun o H3 => o = none ∧ H3 = H2) I2 ⟨rfl, rfl⟩) fun vu s3 ⟨u, H3, I3, pu, eu, e3⟩ => ?_
  subst eu e3
  refine thn ((po_some (pe_un un_neg pe_int)).run pins s3 σ H3 (fun o H4 => o = some (-1) ∧ H4 = H3) I3 ⟨1, rfl, -1, rfl, rfl, rfl⟩) fun vs s4 ⟨o, H4, I4, ps, eo, e4⟩ => ?_
  subst eo e4
  have I5 : Inv X pins σ H4 { s4 with heap := s4.heap.push { cls := .type "slice", data := .fields #[vl, vu, vs] } } := I4.kept (t' := s4.toks) fun b ob z => Heap.get?_push_of_some _ z
  show wpAny (model X.prog X.w) X.A (subscriptTail e (.Slice none none (some (.UnaryOp .USub (.Constant (.int 1) k p1) p2)) p3) (.ref a) (.ref s4.heap.objs.size)) (EP X pins σ Q) X.xe { s4 with heap := s4.heap.push { cls := .type "slice", data := .fields #[vl, vu, vs] } }
  rcases q with ⟨hx, q⟩ | ⟨hx, q⟩
  · obtain ⟨its, r, ht, hz⟩ := I5.list hx
    have hlen := r.length
    refine tail_any (ops := [.ref a, .ref s4.heap.objs.size]) ht.isList.typeIs (PySem.slot_list_getitem.lookup) ?_ (by with_unfolding_all rfl)
    refine wpAny_getItem_list_slice ht.isList (Heap.IsSliceOf.new _ vl vu vs) pl pu ps (by decide) ?_ (by rw [List.size_toArray]; omega)
    rw [PySem.W.krv_pick]
    refine ⟨.ref _, _, I5.laid (t' := s4.toks) (o := .lst xs.reverse) (fun b ob z => Heap.get?_push_of_some _ z) (Nat.le_refl _) ?_, rfl, q _ (I5.hok.fresh (Nat.le_refl _))⟩
    exact ⟨by rw [List.length_reverse]; exact hz, _, 0, r.reverse, Heap.get?_push_size _ rfl⟩
  · obtain ⟨its, r, ht, hz⟩ := I5.tuple hx
    have hlen := r.length
    cases pl
    cases pu
    cases ps with
    | int i tk =>
      refine tail_any (ops := [.ref a, .ref s4.heap.objs.size]) ht.typeIs PyProof.Rows.slot_tuple_getitem.lookup ?_ (by with_unfolding_all rfl)
      refine CRv.getItem_tuple_rev ht (Heap.IsSliceOf.new _ _ _ _) ?_ (by rw [List.size_toArray]; omega)
      refine ⟨.ref _, _, I5.laid (t' := s4.toks) (o := .tup xs.reverse) (fun b ob z => Heap.get?_push_of_some _ z) (Nat.le_refl _) ?_, rfl, q _ (I5.hok.fresh (Nat.le_refl _))⟩
      refine ⟨by rw [List.length_reverse]; exact hz, its.reverse, r.reverse, ⟨_, Heap.get?_push_size _ rfl, rfl, 0, rfl⟩⟩⟩
def oRev (x : D) (M : Mm) (Q : CK) : Prop := match x with
  | .tup ds => Q (.tup ds.reverse) M
  | .ref a => (match lstOf (M a) with
    | some ds => newL ds.reverse M Q
    | none => False)
  | _ => False
def cRev (c : CR) : CR := fun ρ M Q E => c ρ M (fun d M1 => oRev d M1 Q) E
theorem RlL.reverse {H : Hp} : ∀ {ds : List D} {vs : List V}, RlL K H ds vs → RlL K H ds.reverse vs.reverse
  | [], vs, h => by simp only [RlL] at h; subst h; exact RlL.nil
  | d :: ds, vs, h => by
    simp only [RlL] at h
    obtain ⟨v, r, rfl, h1, h2⟩ := h
    rw [List.reverse_cons, List.reverse_cons]
    exact (RlL.reverse h2).append (RlL.cons h1 RlL.nil)
theorem ce_rev {e : Expr} {c : CR} {k : Nat} {p1 p2 p3 pos : Pos} (he : CE X e c) : CE X (.Subscript e (.Slice none none (some (.UnaryOp .USub (.Constant (.int 1) k p1) p2)) p3) pos) (cRev c) := fun W tk => by
  obtain ⟨t, p, s⟩ := he W tk
  refine ⟨_, pe_revA p, ⟨fun hs hh hc hq hx => s.run hs hh hc (fun v H1 d M1 x1 r1 rd q => ?_) hx⟩⟩
  unfold oRev at q
  split at q
  · obtain ⟨a, vs, rfl, s', r⟩ := rd.tup_inv
    exact ⟨a, vs, rfl, .inr ⟨s', fun p hp => hq _ _ _ _ (x1.trans (sqT_new hp)) (r1.lay hp) (Rl.tup_new r.reverse hp) q⟩⟩
  · split at q
    · rename_i ds q2
      obtain ⟨vs, s', r⟩ := r1.read q2
      rw [rd.ref_inv]
      exact ⟨_, vs, rfl, .inl ⟨s', fun p hp => newL_run r1 r.reverse hp q fun v H' d' M' x2 r2 rd' q3 => hq v H' d' M' (x1.trans x2) r2 rd' q3⟩⟩
    · exact q.elim
  · exact q.elim
end
end CL

/-! THE C LAYER: the head: what the top has left, told by a hook of its own; the end of a law. -/
namespace CH
open PySem PySem.Spec PyProof.Rows L2 CL He
abbrev Frag := PySem.W.Frag
abbrev IniW : Type := Option (Str × Str × Arguments × FuncBody × Scope × Addr × List Str × Addr)
def iAt (K : Frag) (x : Str) : Addr := ma K (ga K x) "__init__"
def iniW (K : Frag) (x : Str) : IniW := match K.lookup (iAt K x) with
  | some ⟨_, _, .func fd, _⟩ => some (fd.name, fd.qualname, fd.params, fd.body, fd.scope, fd.globals, fd.closure.map (·.1), fd.builtins)
  | _ => none
/-- an own error's class with an __init__ -/
structure ExD where
  name : Str
  qual : Str
  params : Arguments
  body : List Stmt
  scope : Scope
  fs : List Str
def ExD.val (d : ExD) : IniW := some ("__init__", d.qual, d.params, .stmts d.body, d.scope, mainGlobals, ["__class__"], builtinsNs)
def clsB (K : Frag) (C : Addr) : Bool := match K.lookup C with
  | some ⟨.type t, _, .cls cd, sl⟩ => (match cd.mro, sl.toList with
    | .ref C' :: bm, [_, _, _, _, some (.builtin n), _] => decide (t = "type") && (decide (C' = C) && (decide (n = "ValueError.__new__") && (!cd.hasDel && (cd.hasDict && HandSPX.refsVE bm))))
    | _, _ => false)
  | _ => false
theorem clsB_ok {K : Frag} {C : Addr} (h : clsB K C = true) : ∃ nm q N bs bm sn sub ab col dd k0 k1 k2 k3 k5, K.lookup C = some (excClassObj nm q C N bs bm true sn sub ab col dd k0 k1 k2 k3 k5 "ValueError.__new__") ∧ HandSPX.refsVE bm = true := by
  unfold clsB at h
  split at h
  · rename_i t dd cd sl ho
    split at h
    · rename_i C' bm k0 k1 k2 k3 n k5 hm hs
      simp only [Bool.and_eq_true, decide_eq_true_eq, Bool.not_eq_true'] at h
      obtain ⟨rfl, rfl, rfl, hdel, hd, hb⟩ := h
      obtain ⟨nm, bs, mro, ns, qn, hdc, sn, sub, ab, col, del⟩ := cd
      dsimp only at hm hdel hd
      subst hm hdel hd
      obtain ⟨l⟩ := sl
      dsimp only at hs
      subst hs
      exact ⟨nm, qn, ns, bs, bm, sn, sub, ab, col, dd, k0, k1, k2, k3, k5, ho, hb⟩
    · cases h
  · cases h
def iniB (K : Frag) (file : Str) (d : ExD) : Bool := match K.lookup (iAt K d.name) with
  | some ⟨_, _, .func fd, _⟩ => decide (fd.defaults = .none) && (decide (fd.kwdefaults = .none) && (PySem.W.codeIn K fd.code d.qual && ((match fd.code with
      | .ref cda => (match K.lookup cda with
        | some ⟨_, _, .fields vs, _⟩ => (match vs[2]? with
          | some (Value.str f _) => (file : Str) == f
          | _ => false)
        | _ => false)
      | _ => false) && (match fd.closure with
        | [(_, cc)] => (match K.lookup cc with
          | some ⟨_, _, .cell (some (.ref c)), _⟩ => decide (c = ga K d.name)
          | _ => false)
        | _ => false))))
  | _ => false
theorem exF_of {P : Program} {K : Frag} {d : ExD} (e : iniW K d.name = d.val) (h : iniB K P.main.file d = true) : EXS.ExF P K (ga K d.name) (iAt K d.name) d.qual d.params d.body d.scope := by
  unfold iniW at e
  unfold iniB at h
  cases q : K.lookup (iAt K d.name) with
  | none => rw [q] at h; cases h
  | some o =>
    obtain ⟨oc, od, dt, osl⟩ := o
    rw [q] at e h
    cases dt with
    | func fd =>
      obtain ⟨n1, n2, n3, n4, n5, n6, n7, n8, n9, n10, n11, n12, n13, n14, n15⟩ := fd
      have e2 : (some (n1, n2, n3, n4, n5, n6, n7.map (·.1), n15) : IniW) = (some (("__init__" : Str), d.qual, d.params, FuncBody.stmts d.body, d.scope, mainGlobals, [("__class__" : Str)], builtinsNs) : IniW) := e
      simp only [Option.some.injEq, Prod.mk.injEq] at e2
      obtain ⟨h1, h2, h3, h4, h5, h6, h7, h8⟩ := e2
      subst h1 h2 h3 h4 h5 h6 h8
      obtain ⟨c1, h⟩ := ba h
      obtain ⟨c2, h⟩ := ba h
      obtain ⟨c3, h⟩ := ba h
      obtain ⟨c4, c5⟩ := ba h
      have d1 : n8 = .none := of_decide_eq_true c1
      have d2 : n9 = .none := of_decide_eq_true c2
      clear c1 c2
      subst d1 d2
      cases n7 with
      | nil => cases h7
      | cons p r =>
        cases r with
        | cons p2 r2 => exact nomatch (List.cons.inj h7).2
        | nil =>
          obtain ⟨nm, cc⟩ := p
          obtain rfl : nm = "__class__" := (List.cons.inj h7).1
          dsimp only at c4 c5 c3
          cases n13 with
          | ref cda =>
            dsimp only at c4
            split at c4
            · rename_i ccl cdd vs ccs hcode
              split at c4
              · rename_i f tf hvs
                split at c5
                · rename_i cl cld c csl hcell
                  have hc : c = ga K d.name := of_decide_eq_true c5
                  subst hc
                  exact ⟨oc, _, _, _, cl, ccl, od, _, cld, cdd, osl, csl, ccs, cc, cda, vs, f, tf, q, c3, hcode, hvs, c4, hcell⟩
                · cases c5
              · cases c4
            · cases c4
          | _ => cases c4
    | _ => cases h
/-- what an own error's class must answer -/
def exB (K : Frag) (P : Program) (d : ExD) : Bool :=
  clsB K (ga K d.name) && (decide (PySem.W.findIn K (.ref (ga K d.name)) "__setattr__" = some (some (.builtin "object.__setattr__"))) && ((d.fs.all fun f => decide (PySem.W.findIn K (.ref (ga K d.name)) f = some none)) &&
  (decide (PySem.W.findIn K (.ref (ga K d.name)) "__init__" = some (some (.ref (iAt K d.name)))) && (decide (PySem.W.typeIn K (.ref (iAt K d.name)) = some (.type "function")) &&
  (decide (PySem.W.ks_superIn K (ga K d.name) (ga K d.name) "__init__" = some (some (.builtin "ValueError.__init__"))) && (decide (PySem.W.mroIn K (ga K d.name) (.ref (ga K d.name)) = some true) && (decide (PySem.W.subIn K (.ref (ga K d.name)) (.type "ValueError") = some true) &&
  (decide (PySem.W.nsIn K cStatics "thirdparty.any" = some none) && ((P.main.scope.names.lookup ("super" : Str)).isSome == false && (iniB K P.main.file d && (PySem.W.keepIn K (.ref (ga K d.name)) && (decide (PySem.W.subIn K (.ref (ga K d.name)) (.type "BaseException") = some true) &&
  (decide (PySem.W.typeIn K (.ref (ga K d.name)) = some (.type "type")) && (decide (PySem.W.nsIn K mainGlobals "super" = some none))))))))))))))) 
/-- .. to isinstance and a field's read -/
def xiB (K : Frag) (C : Addr) : Bool := (PySem.W.clsIn K C).isSome && (decide (PySem.W.findIn K (.ref C) "__getattribute__" = some (some (.builtin "BaseException.__getattribute__"))) && (decide (PySem.W.findIn K (.ref C) "__getattr__" = some none) &&
  (decide (PySem.W.subIn K (.ref C) (.type "BaseException") = some true) && (decide (PySem.W.findIn K (.ref C) "__class__" = some (some (.builtin "object.__class__"))) && (decide (PySem.W.specialIn K (.builtin "object.__class__") "__get__" = some (some (.builtin "getset_descriptor.__get__"))) &&
  (decide (PySem.W.takesIn K (.builtin "object.__class__") = some true) && decide (PySem.W.mroIn K C (.type "object") = some true)))))))
theorem xiB_ok {K : Frag} {C : Addr} (h : xiB K C = true) : XiC K C := by
  obtain ⟨h1, h⟩ := ba h
  obtain ⟨h2, h⟩ := ba h
  obtain ⟨h3, h⟩ := ba h
  obtain ⟨h4, h⟩ := ba h
  obtain ⟨h5, h⟩ := ba h
  obtain ⟨h6, h⟩ := ba h
  obtain ⟨h7, h8⟩ := ba h
  exact ⟨h1, of_decide_eq_true h2, of_decide_eq_true h3, of_decide_eq_true h4, of_decide_eq_true h5, of_decide_eq_true h6, of_decide_eq_true h7, of_decide_eq_true h8⟩
structure ExAll (P : Program) (K : Frag) (d : ExD) : Prop where
  t : EXS.ExT P K (ga K d.name) (iAt K d.name) d.fs
  f : EXS.ExF P K (ga K d.name) (iAt K d.name) d.qual d.params d.body d.scope
  kC : PySem.W.keepIn K (.ref (ga K d.name)) = true
  exC : PySem.W.subIn K (.ref (ga K d.name)) (.type "BaseException") = some true
  tyC : PySem.W.typeIn K (.ref (ga K d.name)) = some (.type "type")
  g1 : PySem.W.nsIn K mainGlobals "super" = some none
theorem exB_ok {P : Program} {K : Frag} {d : ExD} (e : iniW K d.name = d.val) (h : exB K P d = true) : ExAll P K d := by
  obtain ⟨h1, h⟩ := ba h
  obtain ⟨h2, h⟩ := ba h
  obtain ⟨h3, h⟩ := ba h
  obtain ⟨h4, h⟩ := ba h
  obtain ⟨h5, h⟩ := ba h
  obtain ⟨h6, h⟩ := ba h
  obtain ⟨h7, h⟩ := ba h
  obtain ⟨h8, h⟩ := ba h
  obtain ⟨h9, h⟩ := ba h
  obtain ⟨h10, h⟩ := ba h
  obtain ⟨h11, h⟩ := ba h
  obtain ⟨h12, h⟩ := ba h
  obtain ⟨h13, h⟩ := ba h
  obtain ⟨h14, h15⟩ := ba h
  refine ⟨⟨clsB_ok h1, of_decide_eq_true h2, fun f hf => ?_, of_decide_eq_true h4, of_decide_eq_true h5, of_decide_eq_true h6, of_decide_eq_true h7, of_decide_eq_true h8, of_decide_eq_true h9, by simpa using h10⟩, exF_of e h11, h12, of_decide_eq_true h13, of_decide_eq_true h14, of_decide_eq_true h15⟩
  exact of_decide_eq_true (List.all_eq_true.mp h3 f hf)
/-! ### the hook -/
abbrev AlC : Type := He.AlD × List IniW
def asC (g : Addr → Option Obj) (n : Nat) : List Addr := asD g n ++ [cStatics]
def obsC (fa : List Fa) (fn : List DefD) (xs : List ExD) (ex : List (Frag → Bool)) (K : Frag) : AlC := (((fa.all fun f => f.ok K) && ((fn.all fun d => d.ok K) && ex.all fun p => p K), fn.map fun d => fnW K d.at_), xs.map fun d => iniW K d.name)
def valC (fn : List DefD) (xs : List ExD) : AlC := ((true, fn.map DefD.val), xs.map ExD.val)
def SaysC (fa : List Fa) (fn : List DefD) (xs : List ExD) (ex : List (Frag → Bool)) (K : Frag) : Prop := obsC fa fn xs ex K = valC fn xs
def obsCG (n : Nat) (fa : List Fa) (fn : List DefD) (xs : List ExD) (ex : List (Frag → Bool)) (g : Addr → Option Obj) : AlC := obsC fa fn xs ex (frG g (asC g n))
def hookC (n : Nat) (fa : List Fa) (fn : List DefD) (xs : List ExD) (ex : List (Frag → Bool)) : PySem.W.Hook where
  α := AlC
  obs := fun s => obsCG n fa fn xs ex s.heap.get?
  val := fun _ => valC fn xs
  says := fun _ h => ∃ K : Frag, K.In h ∧ SaysC fa fn xs ex K
  of := fun _ s e => ⟨_, frG_in, e⟩
  keeps := fun _ _ _ ⟨K, X, c⟩ k => ⟨K, X.keeps k, c⟩
theorem obsCG_eq {n : Nat} {fa : List Fa} {fn : List DefD} {xs : List ExD} {ex : List (Frag → Bool)} {g : Addr → Option Obj} {s : Shared} (h : ∀ a, g a = s.heap.get? a) : obsCG n fa fn xs ex g = (hookC n fa fn xs ex).obs s := by
  have e : g = s.heap.get? := funext h
  subst e
  rfl
section
variable {fa : List Fa} {fn : List DefD} {xs : List ExD} {ex : List (Frag → Bool)} {K : Frag}
theorem SaysC.split (c : SaysC fa fn xs ex K) : ((fa.all fun f => f.ok K) = true ∧ (fn.all fun d => d.ok K) = true ∧ (ex.all fun p => p K) = true) ∧ (fn.map fun d => fnW K d.at_) = fn.map DefD.val ∧ (xs.map fun d => iniW K d.name) = xs.map ExD.val := by
  unfold SaysC obsC valC at c
  simp only [Prod.mk.injEq] at c
  obtain ⟨⟨h1, h2⟩, h3⟩ := c
  obtain ⟨h1, h4⟩ := ba h1
  obtain ⟨h4, h5⟩ := ba h4
  exact ⟨⟨h1, h4, h5⟩, h2, h3⟩
theorem SaysC.fact (c : SaysC fa fn xs ex K) (i : Nat) {f : Fa} (h : fa[i]? = some f := by rfl) : f.ok K = true := List.all_eq_true.mp c.split.1.1 f (List.mem_of_getElem? h)
theorem SaysC.more (c : SaysC fa fn xs ex K) (i : Nat) {p : Frag → Bool} (h : ex[i]? = some p := by rfl) : p K = true := List.all_eq_true.mp c.split.1.2.2 p (List.mem_of_getElem? h)
theorem SaysC.def_ (c : SaysC fa fn xs ex K) (i : Nat) {d : DefD} (h : fn[i]? = some d := by rfl) : ∃ fd, FunD K d.name d.qual d.params d.body d.scope (d.dvs K) (d.kws K) (fAd K d.at_) fd := by
  refine DefD.funD ?_ (List.all_eq_true.mp c.split.1.2.1 d (List.mem_of_getElem? h))
  have e := congrArg (fun l => l[i]?) c.split.2.1
  simp only [List.getElem?_map, h, Option.map_some] at e
  exact Option.some.inj e
theorem SaysC.ini (c : SaysC fa fn xs ex K) (i : Nat) {d : ExD} (h : xs[i]? = some d := by rfl) : iniW K d.name = d.val := by
  have e := congrArg (fun l => l[i]?) c.split.2.2
  simp only [List.getElem?_map, h, Option.map_some] at e
  exact Option.some.inj e
end
/-! ### the errors' classes for the C layer -/
section
variable {P : Program} {K : Frag} {mg : Str → Option Value} {d : ExD} {msg : Str} {p0 p1 p2 p3 p4 p5 a0 a1 a2 a3 b0 b1 b2 b3 : Pos} {f f2 : Str}
theorem xcT0 (E : ExAll P K d) (g : mg d.name = some (.ref (ga K d.name))) (gs : mg "super" = none) (hfs : d.fs = []) (hb : d.body = [EXS.sSup msg p0 p1 p2 p3 p4 p5]) (S : EXS.ScOk d.scope []) (sup : ∀ fI, EXS.SupOk d.qual d.scope fI msg p0 p1 p2 p3 p4 p5)
    (hbi : ∀ (s : Shared) (x : Addr) doc pm an cda ct cc, BindsTo s (PySem.W.ksFn "__init__" d.qual d.params [EXS.sSup msg p0 p1 p2 p3 p4 p5] d.scope .none .none doc pm an (.ref cda) ct cc) ⟨[.ref x], []⟩ [("self", .ref x)])
    (har : ∃ ar : Arg, (d.params.posonlyargs ++ d.params.args).head? = some ar ∧ ar.arg = "self") : XcT P K mg d.name (ga K d.name) (iAt K d.name) [] := by
  have t := E.t
  have F := E.f
  rw [hfs] at t
  rw [hb] at F
  refine ⟨g, E.kC, E.exC, E.tyC, gs, t, fun w A s mb x t0 vs hl hh hr hx nx => ?_⟩
  cases vs with
  | cons => cases hl
  | nil => exact EXS.init0 (w := w) t F S (sup _) hh hr hx nx (hbi s x) har
theorem xcT1 (E : ExAll P K d) (g : mg d.name = some (.ref (ga K d.name))) (gs : mg "super" = none) (hfs : d.fs = [f]) (hb : d.body = [EXS.sSup msg p0 p1 p2 p3 p4 p5, EXS.sFld f a0 a1 a2 a3]) (S : EXS.ScOk d.scope [f]) (sup : ∀ fI, EXS.SupOk d.qual d.scope fI msg p0 p1 p2 p3 p4 p5)
    (fo : ∀ fI, EXS.FldOk d.qual d.scope fI f a0 a1 a2 a3)
    (hbi : ∀ (s : Shared) (x : Addr) (v : Value) doc pm an cda ct cc, BindsTo s (PySem.W.ksFn "__init__" d.qual d.params [EXS.sSup msg p0 p1 p2 p3 p4 p5, EXS.sFld f a0 a1 a2 a3] d.scope .none .none doc pm an (.ref cda) ct cc) ⟨[.ref x, v], []⟩ [("self", .ref x), (f, v)])
    (har : ∃ ar : Arg, (d.params.posonlyargs ++ d.params.args).head? = some ar ∧ ar.arg = "self") (ne : f ≠ "self") : XcT P K mg d.name (ga K d.name) (iAt K d.name) [f] := by
  have t := E.t
  have F := E.f
  rw [hfs] at t
  rw [hb] at F
  refine ⟨g, E.kC, E.exC, E.tyC, gs, t, fun w A s mb x t0 vs hl hh hr hx nx => ?_⟩
  obtain ⟨v, rfl⟩ : ∃ v, vs = [v] := by
    cases vs with
    | nil => cases hl
    | cons v r => cases r with
      | nil => exact ⟨v, rfl⟩
      | cons => cases hl
  have e : (fun y => (([f] : List Str).zip [v]).reverse.lookup y) = fun y => if y = f then some v else none := by
    funext y
    show List.lookup y [(f, v)] = _
    rw [List.lookup_cons]
    by_cases q : y = f
    · subst q; simp
    · rw [if_neg q, beq_eq_false_iff_ne.mpr q]; rfl
  rw [e]
  exact EXS.init1 (w := w) t F S (sup _) (fo _) hh hr hx nx (hbi s x v) har ne
theorem xcT2 (E : ExAll P K d) (g : mg d.name = some (.ref (ga K d.name))) (gs : mg "super" = none) (hfs : d.fs = [f, f2]) (hb : d.body = [EXS.sSup msg p0 p1 p2 p3 p4 p5, EXS.sFld f a0 a1 a2 a3, EXS.sFld f2 b0 b1 b2 b3]) (S : EXS.ScOk d.scope [f, f2]) (sup : ∀ fI, EXS.SupOk d.qual d.scope fI msg p0 p1 p2 p3 p4 p5)
    (fo : ∀ fI, EXS.FldOk d.qual d.scope fI f a0 a1 a2 a3) (go : ∀ fI, EXS.FldOk d.qual d.scope fI f2 b0 b1 b2 b3)
    (hbi : ∀ (s : Shared) (x : Addr) (v u : Value) doc pm an cda ct cc, BindsTo s (PySem.W.ksFn "__init__" d.qual d.params [EXS.sSup msg p0 p1 p2 p3 p4 p5, EXS.sFld f a0 a1 a2 a3, EXS.sFld f2 b0 b1 b2 b3] d.scope .none .none doc pm an (.ref cda) ct cc) ⟨[.ref x, v, u], []⟩ [("self", .ref x), (f, v), (f2, u)])
    (har : ∃ ar : Arg, (d.params.posonlyargs ++ d.params.args).head? = some ar ∧ ar.arg = "self") (ne : f ≠ "self") (ne2 : f2 ≠ "self") (ne3 : f ≠ f2) : XcT P K mg d.name (ga K d.name) (iAt K d.name) [f, f2] := by
  have t := E.t
  have F := E.f
  rw [hfs] at t
  rw [hb] at F
  refine ⟨g, E.kC, E.exC, E.tyC, gs, t, fun w A s mb x t0 vs hl hh hr hx nx => ?_⟩
  obtain ⟨v, u, rfl⟩ : ∃ v u, vs = [v, u] := by
    cases vs with
    | nil => cases hl
    | cons v r => cases r with
      | nil => cases hl
      | cons u r => cases r with
        | nil => exact ⟨v, u, rfl⟩
        | cons => cases hl
  have e : (fun y => (([f, f2] : List Str).zip [v, u]).reverse.lookup y) = fun y => if y = f2 then some u else if y = f then some v else none := by
    funext y
    show List.lookup y [(f2, u), (f, v)] = _
    rw [List.lookup_cons, List.lookup_cons]
    by_cases q : y = f2
    · subst q; simp
    · rw [if_neg q, beq_eq_false_iff_ne.mpr q]
      by_cases q2 : y = f
      · subst q2; simp
      · rw [if_neg q2, beq_eq_false_iff_ne.mpr q2]; rfl
  rw [e]
  exact EXS.init2 (w := w) t F S (sup _) (fo _) (go _) hh hr hx nx (hbi s x v u) har ne ne2 ne3
end
/-! ### the end -/
/-- no list stands in the written part -/
def noLst (K : Frag) : Bool := K.all fun p => match p.2.cls with
  | .type t => decide (t ≠ "list")
  | _ => true
theorem noLst_ok {K : Frag} (h : noLst K = true) {a : Addr} {o : Obj} (e : K.lookup a = some o) (c : o.cls = .type "list") : False := by
  unfold noLst at h
  have hm : ∀ (l : List (Addr × Obj)), l.lookup a = some o → ∃ p ∈ l, p.2 = o := by
    intro l
    induction l with
    | nil => intro h; cases h
    | cons p r ih =>
      intro h
      obtain ⟨b, u⟩ := p
      rw [List.lookup_cons] at h
      split at h
      · cases h; exact ⟨_, List.mem_cons_self, rfl⟩
      · obtain ⟨q, hq, e⟩ := ih h; exact ⟨q, List.mem_cons_of_mem _ hq, e⟩
  obtain ⟨p, hp, rfl⟩ := hm K e
  have q := List.all_eq_true.mp h p hp
  rw [c] at q
  simp at q
/-- a law over the C layer: its def keeps the promise of its reading, and the reading says True of every script -/
theorem law_end {l : PySem.W.OpenLaw} {n k : Nat} {q : Program} {loose : List Str} {XP : (Str → Option Value) → Heap → Prop} {YP : World → Heap → Prop} {d : DefRec} {x : Str} (hn : l.most = some n) (hn2 : n ≤ sizeLine) (hdf : d.params.defaults = []) (hr : Room k callerA)
    (F : ∀ (w : World) (mg : Str → Option Value) (fa : Addr) (h : Heap), YP w h → h.Ns mainGlobals mg → mg d.name = some (.ref fa) →
      ∃ (K : Frag) (fd : FuncData) (cf : CF), K.In h ∧ (∀ (s : Shared) (u : Value), BindsTo s fd ⟨[u], []⟩ [(x, u)]) ∧
        noLst K = true ∧ (∀ (M : Mm) (a : Addr) (ns : List Int), ns.length ≤ n → (∀ z ∈ ns, Builtin.Int.intBits z ≤ 1048576) → M a = some (.rdl (ns.map D.int)) → cf [.ref a] M (fun d _ => d = .bl true) X0) ∧
        ∀ base : Heap, K.In base → base.Ns mainGlobals mg → FnOk l.prog w K mg base (L2N.CX l.prog w) k fa fd [x] (spC K 1 cf)) :
    PySem.W.WalkO q loose XP YP l.row.toRowW d [] (fun f vs => PySem.call f vs) := by
  refine Att.attach_callB hn hdf fun w s₀ s₁ mg mb fa o pm cd doc a vs ns G Y ho hd hcd hmg hobj hints hlen hbits hg => ?_
  obtain ⟨K, fd, cf, KX, hb, nl, hsp, hF⟩ := F w mg fa _ Y G.T.g hmg
  refine law_call KX G.T.g G.T.b G.T.builtins G.T.nolimit hg hobj hints (Nat.le_trans hlen hn2) hr hF hb (fun H hO hS => ?_) fun H e s' ⟨_, _, _, _, _, _, _, _, _, _, _, _, z⟩ => z.elim
  have hrd : Rd H a (.lst (ns.map V.int)) := by
    rcases hS with hS | ⟨ob, its, m, hk, hc, hdn, hsq, _⟩
    · exact hS
    · exact (noLst_ok nl hk hc).elim
  have ri : RlL K H (ns.map D.int) (ns.map V.int) := by
    clear hsp hrd hS hlen hbits hints
    induction ns with
    | nil => exact RlL.nil
    | cons n ns ih => exact RlL.cons Rl.int ih
  refine ⟨[.ref a], fun b => if b = a then some (.rdl (ns.map D.int)) else none, (fun d _ => d = .bl true), X0, rfl, RlL.cons Rl.rf RlL.nil, fun b o e => ?_, hsp _ a ns hlen hbits (if_pos rfl), fun v H' d' M' _ _ rd hd' => ?_, fun _ _ _ _ _ _ z => z.elim⟩
  · by_cases hb' : b = a
    · subst hb'
      have e' : some (MO.rdl (ns.map D.int)) = some o := by rw [← e]; exact (if_pos rfl).symm
      cases e'
      exact ⟨_, hrd, ri⟩
    · have e' : (none : Option MO) = some o := by rw [← e]; exact (if_neg hb').symm
      cases e'
  · subst hd'
    exact rd.bl_inv
end CH

/-! THE C LAYER: plain rules, to run a reading. -/
namespace CP
open PySem PySem.Spec PyProof.Rows L2 CL
section
variable {Dc : CEnds} {ρ : CL.Env} {M : Mm} {Q : CK} {E : CX} {i n : Nat}
def ol {α : Type} (o : Option α) (f : α → Prop) : Prop := match o with
  | some x => f x
  | none => False
theorem ol_s {α : Type} (x : α) (f : α → Prop) : ol (some x) f = f x := propext Iff.rfl
def vr (o : Option (Option D)) (Q : CK) (M : Mm) : Prop := match o with
  | some (some d) => Q d M
  | _ => False
theorem vr_s (d : D) : vr (some (some d)) Q M = Q d M := propext Iff.rfl
def tb (d : D) (M : Mm) (Q : Bool → Mm → Prop) : Prop := match d with
  | .bl b => Q b M
  | _ => False
theorem tb_b (b : Bool) (Q : Bool → Mm → Prop) : tb (.bl b) M Q = Q b M := propext Iff.rfl
def ti (d : D) (Q : Int → Prop) : Prop := match d with
  | .int b => Q b
  | _ => False
theorem ti_i (b : Int) (Q : Int → Prop) : ti (.int b) Q = Q b := propext Iff.rfl
def Br (k : Bool) (x y : Mm → Prop) (M : Mm) : Prop := if k = true then x M else y M
theorem Br_t (x y : Mm → Prop) : Br true x y M = x M := propext Iff.rfl
theorem Br_f (x y : Mm → Prop) : Br false x y M = y M := propext Iff.rfl
theorem Br_i {k : Bool} {x y : Mm → Prop} (h1 : k = true → x M) (h2 : k = false → y M) : Br k x y M := by
  cases k with
  | true => exact h1 rfl
  | false => exact h2 rfl
/-! statements -/
theorem size_1 : ((1 : Nat) ≤ sizeLine) = True := eq_true (by decide +kernel)
theorem size_2 : ((2 : Nat) ≤ sizeLine) = True := eq_true (by decide +kernel)
theorem size_3 : ((3 : Nat) ≤ sizeLine) = True := eq_true (by decide +kernel)
theorem size_4 : ((4 : Nat) ≤ sizeLine) = True := eq_true (by decide +kernel)
theorem skip_ : cSkip Dc ρ M = Dc.nx ρ M := propext Iff.rfl
theorem seq_ (a b : CS) : cSeq a b Dc ρ M = a ⟨b Dc, Dc.rt, Dc.xc⟩ ρ M := propext Iff.rfl
/-- a stop of simp between two statements -/
structure Nx (b : CL.Env → Mm → Prop) (ρ : CL.Env) (M : Mm) : Prop where
  i : b ρ M
theorem nx_eq (b : CL.Env → Mm → Prop) (ρ : CL.Env) (M : Mm) : Nx b ρ M = b ρ M := propext ⟨fun h => h.i, fun h => ⟨h⟩⟩
theorem seqset_ (c : CR) (b : CS) : cSeq (cSet i c) b Dc ρ M = c ρ M (fun d M1 => Nx (b Dc) (ρ.set i (some d)) M1) (fun C dx M' => Dc.xc C dx ρ M') := by
  show c ρ M (fun d M1 => b Dc (ρ.set i (some d)) M1) _ = _
  simp only [nx_eq]
theorem seqdrop_ (c : CR) (b : CS) : cSeq (cDrop c) b Dc ρ M = c ρ M (fun _ M1 => Nx (b Dc) ρ M1) (fun C dx M' => Dc.xc C dx ρ M') := by
  show c ρ M (fun d M1 => b Dc ρ M1) _ = _
  simp only [nx_eq]
theorem seqasg_ (c : CR) (g : CG) (b : CS) : cSeq (cAsg c g) b Dc ρ M = c ρ M (fun d M1 => g d ρ M1 (Nx (b Dc)) (fun C dx M' => Dc.xc C dx ρ M')) (fun C dx M' => Dc.xc C dx ρ M') := by
  have : Nx (b Dc) = b Dc := by funext ρ M; exact nx_eq _ _ _
  rw [this]
  rfl
/-- a statement and what follows it, by what holds between them -/
theorem seq_m {a b : CS} (J : CL.Env → Mm → Prop) (h : ∀ Kn : CL.Env → Mm → Prop, (∀ ρ' M', J ρ' M' → Kn ρ' M') → a ⟨Kn, Dc.rt, Dc.xc⟩ ρ M) (hr : ∀ ρ' M', J ρ' M' → b Dc ρ' M') : cSeq a b Dc ρ M := h _ hr
theorem ret_ (c : CR) : cRet c Dc ρ M = c ρ M Dc.rt (fun C dx M' => Dc.xc C dx ρ M') := propext Iff.rfl
theorem retN_ : cRetN Dc ρ M = Dc.rt .non M := propext Iff.rfl
theorem if_ (c : CTst) (a b : CS) : cIf c a b Dc ρ M = c ρ M (fun k M1 => Br k (a Dc ρ) (b Dc ρ) M1) (fun C dx M' => Dc.xc C dx ρ M') := propext Iff.rfl
theorem drop_ (c : CR) : cDrop c Dc ρ M = c ρ M (fun _ M1 => Dc.nx ρ M1) (fun C dx M' => Dc.xc C dx ρ M') := propext Iff.rfl
theorem set_ (c : CR) : cSet i c Dc ρ M = c ρ M (fun d M1 => Dc.nx (ρ.set i (some d)) M1) (fun C dx M' => Dc.xc C dx ρ M') := propext Iff.rfl
theorem asg_ (c : CR) (g : CG) : cAsg c g Dc ρ M = c ρ M (fun d M1 => g d ρ M1 Dc.nx (fun C dx M' => Dc.xc C dx ρ M')) (fun C dx M' => Dc.xc C dx ρ M') := propext Iff.rfl
theorem for_ (ci : CI) (g : Tg) (b : CS) : cFor ci g b Dc ρ M = ci ρ M (fun chk ds M1 => forC chk g b Dc ds ρ M1) (fun C dx M' => Dc.xc C dx ρ M') := propext Iff.rfl
theorem try_ (K : PySem.W.Frag) (b : CS) (l : List ClauC) : cTry K b l Dc ρ M = b ⟨Dc.nx, Dc.rt, xCl K Dc l⟩ ρ M := propext Iff.rfl
theorem raise0_ (C : Addr) : cRaise C [] cNil Dc ρ M = (True ∧ Dc.xc C none ρ M) := by
  have : ((List.nil : List D).length = (List.nil : List Str).length) = True := eq_true rfl
  show (([] : List D).length = ([] : List Str).length ∧ Dc.xc C none ρ M) = _
  rw [this]
theorem raise1_ (C : Addr) (f : Str) (c : CR) : cRaise C [f] (cCons c cNil) Dc ρ M = c ρ M (fun d M1 => ∀ a, M1 a = none → Dc.xc C (some a) ρ (put M1 a (.xd [(f, d)]))) (fun C dx M' => Dc.xc C dx ρ M') := by
  show c ρ M (fun d M1 => ([d] : List D).length = ([f] : List Str).length ∧ ∀ a, M1 a = none → Dc.xc C (some a) ρ (put M1 a (.xd [(f, d)]))) (fun C dx M' => Dc.xc C dx ρ M') = _
  congr 1
  funext d M1
  exact propext ⟨fun h => h.2, fun h => ⟨rfl, h⟩⟩
/-! expressions -/
theorem var_ : cVar i ρ M Q E = vr ρ[i]? Q M := propext Iff.rfl
theorem c_ (d : D) : cC d ρ M Q E = Q d M := propext Iff.rfl
theorem c2_ (ca cb : CR) (r : C2) : c2 ca cb r ρ M Q E = ca ρ M (fun x M1 => cb ρ M1 (fun y M2 => r x y M2 Q) E) E := propext Iff.rfl
theorem test_ (c : CR) (Q : Bool → Mm → Prop) : cTest c ρ M Q E = c ρ M (fun d M1 => tb d M1 Q) E := propext Iff.rfl
theorem and_ (a b : CTst) (Q : Bool → Mm → Prop) : cAnd a b ρ M Q E = a ρ M (fun c M1 => Br c (fun M1 => b ρ M1 Q E) (Q false) M1) E := propext Iff.rfl
theorem or_ (a b : CTst) (Q : Bool → Mm → Prop) : cOr a b ρ M Q E = a ρ M (fun c M1 => Br c (Q true) (fun M1 => b ρ M1 Q E) M1) E := propext Iff.rfl
theorem not_ (a : CTst) (Q : Bool → Mm → Prop) : cNot a ρ M Q E = a ρ M (fun c M1 => Q (!c) M1) E := propext Iff.rfl
theorem andV_ (a b : CR) : cAndV a b ρ M Q E = a ρ M (fun d M1 => tb d M1 fun c M1 => Br c (fun M1 => b ρ M1 Q E) (Q (.bl false)) M1) E := propext Iff.rfl
theorem orV_ (a b : CR) : cOrV a b ρ M Q E = a ρ M (fun d M1 => tb d M1 fun c M1 => Br c (Q (.bl true)) (fun M1 => b ρ M1 Q E) M1) E := propext Iff.rfl
theorem notV_ (a : CR) : cNotV a ρ M Q E = a ρ M (fun d M1 => tb d M1 fun c M1 => Q (.bl (!c)) M1) E := propext Iff.rfl
theorem nil_ (Q : List D → Mm → Prop) : cNil ρ M Q E = Q [] M := propext Iff.rfl
theorem cons_ (c : CR) (r : CA) (Q : List D → Mm → Prop) : cCons c r ρ M Q E = c ρ M (fun d M1 => r ρ M1 (fun ds M2 => Q (d :: ds) M2) E) E := propext Iff.rfl
theorem tup_ (a : CA) : cTup a ρ M Q E = a ρ M (fun ds M1 => ds.length ≤ sizeLine ∧ Q (.tup ds) M1) E := propext Iff.rfl
theorem lst_ (a : CA) : cLst a ρ M Q E = a ρ M (fun ds M1 => ds.length ≤ sizeLine ∧ newL ds M1 Q) E := propext Iff.rfl
theorem b_ (a : CA) (c : CCl) : cB a c ρ M Q E = a ρ M (fun ds M1 => c ds M1 Q) E := propext Iff.rfl
theorem m_ (T : String) (c : CR) (a : CA) (m : CM) : cM T c a m ρ M Q E = c ρ M (fun d M1 => tyD M1 d = some T ∧ a ρ M1 (fun ds M2 => m d ds M2 Q) E) E := propext Iff.rfl
theorem call_ (cf : CF) (a : CA) : cCall n cf a ρ M Q E = a ρ M (fun ds M1 => ds.length = n ∧ cf ds M1 Q E) E := propext Iff.rfl
theorem neg_ (c : CR) : cNeg c ρ M Q E = c ρ M (fun d M1 => ti d fun i => Q (.int (-i)) M1) E := propext Iff.rfl
theorem slice_ (c : CR) (lo hi : CO) : cSlice c lo hi ρ M Q E = c ρ M (fun d M1 => lo ρ M1 (fun l M2 => hi ρ M2 (fun u M3 => oSlice d l u M3 Q) E) E) E := propext Iff.rfl
theorem none_ (Q : Option Int → Mm → Prop) : oNone ρ M Q E = Q none M := propext Iff.rfl
theorem some_ (c : CR) (Q : Option Int → Mm → Prop) : oSome c ρ M Q E = c ρ M (fun d M1 => ti d fun i => Q (some i) M1) E := propext Iff.rfl
theorem rev_ (c : CR) : cRev c ρ M Q E = c ρ M (fun d M1 => oRev d M1 Q) E := propext Iff.rfl
theorem comp_ (ci : CI) (g : Tg) (ct : CTst) (ce : CR) (vs : List Nat) : cComp ci g ct ce vs ρ M Q E = ci ρ M (fun chk ds M1 => ∀ p, M1 p = none → compC chk g ct ce p (wipeD ρ vs) Q ds (put M1 p (.lst []))) E := propext Iff.rfl
theorem gtup_ (is : List Nat) (ds : List D) (Q : CL.Env → Mm → Prop) : gTupN is (.tup ds) ρ M Q E = ol (gNames is ds ρ) (fun ρ' => Q ρ' M) := by
  unfold gTupN ol; dsimp only; cases gNames is ds ρ <;> rfl
theorem gn_nil : gNames [] [] ρ = some ρ := rfl
theorem gn_cons (i : Nat) (is : List Nat) (d : D) (ds : List D) : gNames (i :: is) (d :: ds) ρ = gNames is ds (ρ.set i (some d)) := rfl
theorem wipe_n : wipeD ρ [] = ρ := rfl
theorem wipe_c (v : Nat) (vs : List Nat) : wipeD ρ (v :: vs) = (wipeD ρ vs).set v none := rfl
theorem call1_ (cf : CF) (a : CR) : cCall 1 cf (cCons a cNil) ρ M Q E = a ρ M (fun x1 M1 => cf [x1] M1 Q E) E := by
  have h : ∀ x1 M, (([x1] : List D).length = 1 ∧ cf [x1] M Q E) = cf [x1] M Q E := fun _ _ => propext ⟨fun z => z.2, fun z => ⟨rfl, z⟩⟩
  show a ρ M (fun x1 M1 => ([x1] : List D).length = 1 ∧ cf [x1] M1 Q E) E = _
  simp only [h]
theorem tup1_ (a : CR) : cTup (cCons a cNil) ρ M Q E = a ρ M (fun x1 M1 => Q (.tup [x1]) M1) E := by
  have h : ∀ x1 M, (([x1] : List D).length ≤ sizeLine ∧ Q (.tup [x1]) M) = Q (.tup [x1]) M := fun _ _ => propext ⟨fun z => z.2, fun z => ⟨Nat.le_of_ble_eq_true rfl, z⟩⟩
  show a ρ M (fun x1 M1 => ([x1] : List D).length ≤ sizeLine ∧ Q (.tup [x1]) M1) E = _
  simp only [h]
theorem len_t1 (a : D) : oLen [.tup [a]] M Q = Q (.int 1) M := propext Iff.rfl
theorem call2_ (cf : CF) (a b : CR) : cCall 2 cf (cCons a (cCons b cNil)) ρ M Q E = a ρ M (fun x1 M1 => b ρ M1 (fun x2 M2 => cf [x1, x2] M2 Q E) E) E := by
  have h : ∀ x1 x2 M, (([x1, x2] : List D).length = 2 ∧ cf [x1, x2] M Q E) = cf [x1, x2] M Q E := fun _ _ _ => propext ⟨fun z => z.2, fun z => ⟨rfl, z⟩⟩
  show a ρ M (fun x1 M1 => b ρ M1 (fun x2 M2 => ([x1, x2] : List D).length = 2 ∧ cf [x1, x2] M2 Q E) E) E = _
  simp only [h]
theorem tup2_ (a b : CR) : cTup (cCons a (cCons b cNil)) ρ M Q E = a ρ M (fun x1 M1 => b ρ M1 (fun x2 M2 => Q (.tup [x1, x2]) M2) E) E := by
  have h : ∀ x1 x2 M, (([x1, x2] : List D).length ≤ sizeLine ∧ Q (.tup [x1, x2]) M) = Q (.tup [x1, x2]) M := fun _ _ _ => propext ⟨fun z => z.2, fun z => ⟨Nat.le_of_ble_eq_true rfl, z⟩⟩
  show a ρ M (fun x1 M1 => b ρ M1 (fun x2 M2 => ([x1, x2] : List D).length ≤ sizeLine ∧ Q (.tup [x1, x2]) M2) E) E = _
  simp only [h]
theorem len_t2 (a b : D) : oLen [.tup [a, b]] M Q = Q (.int 2) M := propext Iff.rfl
theorem call3_ (cf : CF) (a b c : CR) : cCall 3 cf (cCons a (cCons b (cCons c cNil))) ρ M Q E = a ρ M (fun x1 M1 => b ρ M1 (fun x2 M2 => c ρ M2 (fun x3 M3 => cf [x1, x2, x3] M3 Q E) E) E) E := by
  have h : ∀ x1 x2 x3 M, (([x1, x2, x3] : List D).length = 3 ∧ cf [x1, x2, x3] M Q E) = cf [x1, x2, x3] M Q E := fun _ _ _ _ => propext ⟨fun z => z.2, fun z => ⟨rfl, z⟩⟩
  show a ρ M (fun x1 M1 => b ρ M1 (fun x2 M2 => c ρ M2 (fun x3 M3 => ([x1, x2, x3] : List D).length = 3 ∧ cf [x1, x2, x3] M3 Q E) E) E) E = _
  simp only [h]
theorem tup3_ (a b c : CR) : cTup (cCons a (cCons b (cCons c cNil))) ρ M Q E = a ρ M (fun x1 M1 => b ρ M1 (fun x2 M2 => c ρ M2 (fun x3 M3 => Q (.tup [x1, x2, x3]) M3) E) E) E := by
  have h : ∀ x1 x2 x3 M, (([x1, x2, x3] : List D).length ≤ sizeLine ∧ Q (.tup [x1, x2, x3]) M) = Q (.tup [x1, x2, x3]) M := fun _ _ _ _ => propext ⟨fun z => z.2, fun z => ⟨Nat.le_of_ble_eq_true rfl, z⟩⟩
  show a ρ M (fun x1 M1 => b ρ M1 (fun x2 M2 => c ρ M2 (fun x3 M3 => ([x1, x2, x3] : List D).length ≤ sizeLine ∧ Q (.tup [x1, x2, x3]) M3) E) E) E = _
  simp only [h]
theorem len_t3 (a b c : D) : oLen [.tup [a, b, c]] M Q = Q (.int 3) M := propext Iff.rfl
theorem call4_ (cf : CF) (a b c d : CR) : cCall 4 cf (cCons a (cCons b (cCons c (cCons d cNil)))) ρ M Q E = a ρ M (fun x1 M1 => b ρ M1 (fun x2 M2 => c ρ M2 (fun x3 M3 => d ρ M3 (fun x4 M4 => cf [x1, x2, x3, x4] M4 Q E) E) E) E) E := by
  have h : ∀ x1 x2 x3 x4 M, (([x1, x2, x3, x4] : List D).length = 4 ∧ cf [x1, x2, x3, x4] M Q E) = cf [x1, x2, x3, x4] M Q E := fun _ _ _ _ _ => propext ⟨fun z => z.2, fun z => ⟨rfl, z⟩⟩
  show a ρ M (fun x1 M1 => b ρ M1 (fun x2 M2 => c ρ M2 (fun x3 M3 => d ρ M3 (fun x4 M4 => ([x1, x2, x3, x4] : List D).length = 4 ∧ cf [x1, x2, x3, x4] M4 Q E) E) E) E) E = _
  simp only [h]
theorem tup4_ (a b c d : CR) : cTup (cCons a (cCons b (cCons c (cCons d cNil)))) ρ M Q E = a ρ M (fun x1 M1 => b ρ M1 (fun x2 M2 => c ρ M2 (fun x3 M3 => d ρ M3 (fun x4 M4 => Q (.tup [x1, x2, x3, x4]) M4) E) E) E) E := by
  have h : ∀ x1 x2 x3 x4 M, (([x1, x2, x3, x4] : List D).length ≤ sizeLine ∧ Q (.tup [x1, x2, x3, x4]) M) = Q (.tup [x1, x2, x3, x4]) M := fun _ _ _ _ _ => propext ⟨fun z => z.2, fun z => ⟨Nat.le_of_ble_eq_true rfl, z⟩⟩
  show a ρ M (fun x1 M1 => b ρ M1 (fun x2 M2 => c ρ M2 (fun x3 M3 => d ρ M3 (fun x4 M4 => ([x1, x2, x3, x4] : List D).length ≤ sizeLine ∧ Q (.tup [x1, x2, x3, x4]) M4) E) E) E) E = _
  simp only [h]
theorem len_t4 (a b c d : D) : oLen [.tup [a, b, c, d]] M Q = Q (.int 4) M := propext Iff.rfl
theorem call5_ (cf : CF) (a b c d e : CR) : cCall 5 cf (cCons a (cCons b (cCons c (cCons d (cCons e cNil))))) ρ M Q E = a ρ M (fun x1 M1 => b ρ M1 (fun x2 M2 => c ρ M2 (fun x3 M3 => d ρ M3 (fun x4 M4 => e ρ M4 (fun x5 M5 => cf [x1, x2, x3, x4, x5] M5 Q E) E) E) E) E) E := by
  have h : ∀ x1 x2 x3 x4 x5 M, (([x1, x2, x3, x4, x5] : List D).length = 5 ∧ cf [x1, x2, x3, x4, x5] M Q E) = cf [x1, x2, x3, x4, x5] M Q E := fun _ _ _ _ _ _ => propext ⟨fun z => z.2, fun z => ⟨rfl, z⟩⟩
  show a ρ M (fun x1 M1 => b ρ M1 (fun x2 M2 => c ρ M2 (fun x3 M3 => d ρ M3 (fun x4 M4 => e ρ M4 (fun x5 M5 => ([x1, x2, x3, x4, x5] : List D).length = 5 ∧ cf [x1, x2, x3, x4, x5] M5 Q E) E) E) E) E) E = _
  simp only [h]
theorem tup5_ (a b c d e : CR) : cTup (cCons a (cCons b (cCons c (cCons d (cCons e cNil))))) ρ M Q E = a ρ M (fun x1 M1 => b ρ M1 (fun x2 M2 => c ρ M2 (fun x3 M3 => d ρ M3 (fun x4 M4 => e ρ M4 (fun x5 M5 => Q (.tup [x1, x2, x3, x4, x5]) M5) E) E) E) E) E := by
  have h : ∀ x1 x2 x3 x4 x5 M, (([x1, x2, x3, x4, x5] : List D).length ≤ sizeLine ∧ Q (.tup [x1, x2, x3, x4, x5]) M) = Q (.tup [x1, x2, x3, x4, x5]) M := fun _ _ _ _ _ _ => propext ⟨fun z => z.2, fun z => ⟨Nat.le_of_ble_eq_true rfl, z⟩⟩
  show a ρ M (fun x1 M1 => b ρ M1 (fun x2 M2 => c ρ M2 (fun x3 M3 => d ρ M3 (fun x4 M4 => e ρ M4 (fun x5 M5 => ([x1, x2, x3, x4, x5] : List D).length ≤ sizeLine ∧ Q (.tup [x1, x2, x3, x4, x5]) M5) E) E) E) E) E = _
  simp only [h]
theorem len_t5 (a b c d e : D) : oLen [.tup [a, b, c, d, e]] M Q = Q (.int 5) M := propext Iff.rfl
theorem lst1_ (a0 : D) : cLst (cCons (cC a0) cNil) ρ M Q E = newL [a0] M Q := propext ⟨fun z => z.2, fun z => ⟨Nat.le_of_ble_eq_true rfl, z⟩⟩
theorem lst2_ (a0 a1 : D) : cLst (cCons (cC a0) (cCons (cC a1) cNil)) ρ M Q E = newL [a0, a1] M Q := propext ⟨fun z => z.2, fun z => ⟨Nat.le_of_ble_eq_true rfl, z⟩⟩
theorem lst3_ (a0 a1 a2 : D) : cLst (cCons (cC a0) (cCons (cC a1) (cCons (cC a2) cNil))) ρ M Q E = newL [a0, a1, a2] M Q := propext ⟨fun z => z.2, fun z => ⟨Nat.le_of_ble_eq_true rfl, z⟩⟩
theorem lst4_ (a0 a1 a2 a3 : D) : cLst (cCons (cC a0) (cCons (cC a1) (cCons (cC a2) (cCons (cC a3) cNil)))) ρ M Q E = newL [a0, a1, a2, a3] M Q := propext ⟨fun z => z.2, fun z => ⟨Nat.le_of_ble_eq_true rfl, z⟩⟩
theorem lst5_ (a0 a1 a2 a3 a4 : D) : cLst (cCons (cC a0) (cCons (cC a1) (cCons (cC a2) (cCons (cC a3) (cCons (cC a4) cNil))))) ρ M Q E = newL [a0, a1, a2, a3, a4] M Q := propext ⟨fun z => z.2, fun z => ⟨Nat.le_of_ble_eq_true rfl, z⟩⟩
theorem lst6_ (a0 a1 a2 a3 a4 a5 : D) : cLst (cCons (cC a0) (cCons (cC a1) (cCons (cC a2) (cCons (cC a3) (cCons (cC a4) (cCons (cC a5) cNil)))))) ρ M Q E = newL [a0, a1, a2, a3, a4, a5] M Q := propext ⟨fun z => z.2, fun z => ⟨Nat.le_of_ble_eq_true rfl, z⟩⟩
theorem lst7_ (a0 a1 a2 a3 a4 a5 a6 : D) : cLst (cCons (cC a0) (cCons (cC a1) (cCons (cC a2) (cCons (cC a3) (cCons (cC a4) (cCons (cC a5) (cCons (cC a6) cNil))))))) ρ M Q E = newL [a0, a1, a2, a3, a4, a5, a6] M Q := propext ⟨fun z => z.2, fun z => ⟨Nat.le_of_ble_eq_true rfl, z⟩⟩
theorem lst8_ (a0 a1 a2 a3 a4 a5 a6 a7 : D) : cLst (cCons (cC a0) (cCons (cC a1) (cCons (cC a2) (cCons (cC a3) (cCons (cC a4) (cCons (cC a5) (cCons (cC a6) (cCons (cC a7) cNil)))))))) ρ M Q E = newL [a0, a1, a2, a3, a4, a5, a6, a7] M Q := propext ⟨fun z => z.2, fun z => ⟨Nat.le_of_ble_eq_true rfl, z⟩⟩
theorem lst9_ (a0 a1 a2 a3 a4 a5 a6 a7 a8 : D) : cLst (cCons (cC a0) (cCons (cC a1) (cCons (cC a2) (cCons (cC a3) (cCons (cC a4) (cCons (cC a5) (cCons (cC a6) (cCons (cC a7) (cCons (cC a8) cNil))))))))) ρ M Q E = newL [a0, a1, a2, a3, a4, a5, a6, a7, a8] M Q := propext ⟨fun z => z.2, fun z => ⟨Nat.le_of_ble_eq_true rfl, z⟩⟩
theorem lst10_ (a0 a1 a2 a3 a4 a5 a6 a7 a8 a9 : D) : cLst (cCons (cC a0) (cCons (cC a1) (cCons (cC a2) (cCons (cC a3) (cCons (cC a4) (cCons (cC a5) (cCons (cC a6) (cCons (cC a7) (cCons (cC a8) (cCons (cC a9) cNil)))))))))) ρ M Q E = newL [a0, a1, a2, a3, a4, a5, a6, a7, a8, a9] M Q := propext ⟨fun z => z.2, fun z => ⟨Nat.le_of_ble_eq_true rfl, z⟩⟩
theorem lstv1_ (a : CR) : cLst (cCons a cNil) ρ M Q E = a ρ M (fun x1 M1 => newL [x1] M1 Q) E := by
  have h : ∀ x1 M, (([x1] : List D).length ≤ sizeLine ∧ newL [x1] M Q) = newL [x1] M Q := fun _ _ => propext ⟨fun z => z.2, fun z => ⟨Nat.le_of_ble_eq_true rfl, z⟩⟩
  show a ρ M (fun x1 M1 => ([x1] : List D).length ≤ sizeLine ∧ newL [x1] M1 Q) E = _
  simp only [h]
theorem lstv2_ (a b : CR) : cLst (cCons a (cCons b cNil)) ρ M Q E = a ρ M (fun x1 M1 => b ρ M1 (fun x2 M2 => newL [x1, x2] M2 Q) E) E := by
  have h : ∀ x1 x2 M, (([x1, x2] : List D).length ≤ sizeLine ∧ newL [x1, x2] M Q) = newL [x1, x2] M Q := fun _ _ _ => propext ⟨fun z => z.2, fun z => ⟨Nat.le_of_ble_eq_true rfl, z⟩⟩
  show a ρ M (fun x1 M1 => b ρ M1 (fun x2 M2 => ([x1, x2] : List D).length ≤ sizeLine ∧ newL [x1, x2] M2 Q) E) E = _
  simp only [h]
theorem lstv3_ (a b c : CR) : cLst (cCons a (cCons b (cCons c cNil))) ρ M Q E = a ρ M (fun x1 M1 => b ρ M1 (fun x2 M2 => c ρ M2 (fun x3 M3 => newL [x1, x2, x3] M3 Q) E) E) E := by
  have h : ∀ x1 x2 x3 M, (([x1, x2, x3] : List D).length ≤ sizeLine ∧ newL [x1, x2, x3] M Q) = newL [x1, x2, x3] M Q := fun _ _ _ _ => propext ⟨fun z => z.2, fun z => ⟨Nat.le_of_ble_eq_true rfl, z⟩⟩
  show a ρ M (fun x1 M1 => b ρ M1 (fun x2 M2 => c ρ M2 (fun x3 M3 => ([x1, x2, x3] : List D).length ≤ sizeLine ∧ newL [x1, x2, x3] M3 Q) E) E) E = _
  simp only [h]
theorem lstv4_ (a b c d : CR) : cLst (cCons a (cCons b (cCons c (cCons d cNil)))) ρ M Q E = a ρ M (fun x1 M1 => b ρ M1 (fun x2 M2 => c ρ M2 (fun x3 M3 => d ρ M3 (fun x4 M4 => newL [x1, x2, x3, x4] M4 Q) E) E) E) E := by
  have h : ∀ x1 x2 x3 x4 M, (([x1, x2, x3, x4] : List D).length ≤ sizeLine ∧ newL [x1, x2, x3, x4] M Q) = newL [x1, x2, x3, x4] M Q := fun _ _ _ _ _ => propext ⟨fun z => z.2, fun z => ⟨Nat.le_of_ble_eq_true rfl, z⟩⟩
  show a ρ M (fun x1 M1 => b ρ M1 (fun x2 M2 => c ρ M2 (fun x3 M3 => d ρ M3 (fun x4 M4 => ([x1, x2, x3, x4] : List D).length ≤ sizeLine ∧ newL [x1, x2, x3, x4] M4 Q) E) E) E) E = _
  simp only [h]
theorem lstv5_ (a b c d e : CR) : cLst (cCons a (cCons b (cCons c (cCons d (cCons e cNil))))) ρ M Q E = a ρ M (fun x1 M1 => b ρ M1 (fun x2 M2 => c ρ M2 (fun x3 M3 => d ρ M3 (fun x4 M4 => e ρ M4 (fun x5 M5 => newL [x1, x2, x3, x4, x5] M5 Q) E) E) E) E) E := by
  have h : ∀ x1 x2 x3 x4 x5 M, (([x1, x2, x3, x4, x5] : List D).length ≤ sizeLine ∧ newL [x1, x2, x3, x4, x5] M Q) = newL [x1, x2, x3, x4, x5] M Q := fun _ _ _ _ _ _ => propext ⟨fun z => z.2, fun z => ⟨Nat.le_of_ble_eq_true rfl, z⟩⟩
  show a ρ M (fun x1 M1 => b ρ M1 (fun x2 M2 => c ρ M2 (fun x3 M3 => d ρ M3 (fun x4 M4 => e ρ M4 (fun x5 M5 => ([x1, x2, x3, x4, x5] : List D).length ≤ sizeLine ∧ newL [x1, x2, x3, x4, x5] M5 Q) E) E) E) E) E = _
  simp only [h]
theorem tup0_ : cTup cNil ρ M Q E = Q (.tup []) M := propext ⟨fun z => z.2, fun z => ⟨Nat.zero_le _, z⟩⟩
theorem lst0_ : cLst cNil ρ M Q E = newL [] M Q := propext ⟨fun z => z.2, fun z => ⟨Nat.zero_le _, z⟩⟩
/-! iterators -/
def sq (d : D) (M1 : Mm) (R : (Mm → Prop) → List D → Mm → Prop) : Prop := match d with
  | .tup ds => R chkT ds M1
  | .str z => R chkT (z.cps.toList.map fun c => .str ⟨#[c]⟩) M1
  | .ref a => ol (lstOf (M1 a)) fun ds => R (fun M' => lstOf (M' a) = some ds) ds M1
  | _ => False
theorem iseq_ (c : CR) (R : (Mm → Prop) → List D → Mm → Prop) : iSeq c ρ M R E = c ρ M (fun d M1 => sq d M1 R) E := by
  show c ρ M _ E = _
  congr 1
  funext d M1
  cases d with
  | ref a => unfold sq ol; dsimp only; cases lstOf (M1 a) <;> rfl
  | _ => rfl
theorem sq_t (ds : List D) (R : (Mm → Prop) → List D → Mm → Prop) : sq (.tup ds) M R = R chkT ds M := propext Iff.rfl
theorem sq_r (a : Addr) (R : (Mm → Prop) → List D → Mm → Prop) : sq (.ref a) M R = ol (lstOf (M a)) (fun ds => R (fun M' => lstOf (M' a) = some ds) ds M) := propext Iff.rfl
theorem r1_ (c : CR) (R : (Mm → Prop) → List D → Mm → Prop) : iRange1 c ρ M R E = c ρ M (fun d M1 => ti d fun j => (-(2 ^ 62) ≤ j ∧ j < 2 ^ 62) ∧ R chkT (rngD 0 j.toNat) M1) E := by
  show c ρ M _ E = _
  congr 1
theorem r2_ (c c' : CR) (R : (Mm → Prop) → List D → Mm → Prop) : iRange2 c c' ρ M R E = c ρ M (fun d M1 => c' ρ M1 (fun d' M2 => ti d fun i => ti d' fun j => (-(2 ^ 62) ≤ i ∧ i < 2 ^ 62 ∧ -(2 ^ 62) ≤ j ∧ j < 2 ^ 62) ∧ R chkT (rngD i (j - i).toNat) M2) E) E := by
  show c ρ M _ E = _
  congr 1
  funext d M1
  congr 1
  funext d' M2
  cases d <;> cases d' <;> simp [ti]
/-! operators -/
theorem add_i (i j : Int) : oAdd (.int i) (.int j) M Q = Q (.int (i + j)) M := propext Iff.rfl
theorem add_s (x y : Str) : oAdd (.str x) (.str y) M Q = (x.length + y.length ≤ sizeLine ∧ Q (.str (x ++ y)) M) := propext Iff.rfl
theorem add_t (x y : List D) : oAdd (.tup x) (.tup y) M Q = (x.length + y.length ≤ sizeLine ∧ Q (.tup (x ++ y)) M) := propext Iff.rfl
theorem add_l {a b : Addr} {xs ys : List D} (h : M a = some (.lst xs)) (h' : M b = some (.lst ys)) : oAdd (.ref a) (.ref b) M Q = (xs.length + ys.length ≤ sizeLine ∧ newL (xs ++ ys) M Q) := by
  apply propext
  refine ⟨fun ⟨xs', ys', e, e', h1, h2⟩ => ?_, fun z => ⟨xs, ys, h, h', z⟩⟩
  rw [h] at e; rw [h'] at e'
  cases e; cases e'
  exact ⟨h1, h2⟩
theorem sub_i (i j : Int) : oSub (.int i) (.int j) M Q = Q (.int (i - j)) M := propext Iff.rfl
theorem mul_i (i j : Int) : oMul (.int i) (.int j) M Q = (CMul i j ∧ Q (.int (i * j)) M) := propext Iff.rfl
theorem int_o (C : Int → Int → Prop) (g : Int → Int → Int) (i j : Int) : oInt C g (.int i) (.int j) M Q = (C i j ∧ Q (.int (g i j)) M) := propext Iff.rfl
theorem cmp_o (p : Int → Int → Bool) (i j : Int) : oCmp p (.int i) (.int j) M Q = Q (.bl (p i j)) M := propext Iff.rfl
theorem isn_ (neg : Bool) (x : D) : oIsN neg x .non M Q = Q (.bl (if neg then !isNon x else isNon x)) M := propext Iff.rfl
theorem ix_t (ds : List D) (i : Int) : oIx (.tup ds) (.int i) M Q = ol (atI ds i) (fun d => Q d M) := by
  unfold oIx ol; dsimp only; cases atI ds i <;> rfl
theorem ix_r (a : Addr) (i : Int) : oIx (.ref a) (.int i) M Q = ol (lstOf (M a)) (fun ds => ol (atI ds i) fun d => Q d M) := by
  unfold oIx ol; dsimp only; cases lstOf (M a) with
  | none => rfl
  | some ds => dsimp only; cases atI ds i <;> rfl
theorem ix_s (z : Str) (i : Int) : oIx (.str z) (.int i) M Q = (z.length ≤ sizeLine ∧ ol (atI z.cps.toList i) fun c => Q (.str ⟨#[c]⟩) M) := by
  unfold oIx ol; dsimp only; cases atI z.cps.toList i <;> rfl
theorem len_t (ds : List D) : oLen [.tup ds] M Q = Q (.int ds.length) M := propext Iff.rfl
theorem len_r (a : Addr) : oLen [.ref a] M Q = ol (lstOf (M a)) (fun xs => Q (.int xs.length) M) := by
  unfold oLen ol; dsimp only; cases lstOf (M a) <;> rfl
theorem int1_i (i : Int) : oInt1 [.int i] M Q = Q (.int i) M := propext Iff.rfl
theorem two_ (g : Int → Int → Int) (i j : Int) : oTwo g [.int i, .int j] M Q = Q (.int (g i j)) M := propext Iff.rfl
theorem tuple_t (xs : List D) : oTuple [.tup xs] M Q = Q (.tup xs) M := propext Iff.rfl
theorem tuple_r (a : Addr) : oTuple [.ref a] M Q = ol (lstOf (M a)) (fun xs => Q (.tup xs) M) := by
  unfold oTuple ol; dsimp only; cases lstOf (M a) <;> rfl
theorem list_t (xs : List D) : oList [.tup xs] M Q = newL xs M Q := propext Iff.rfl
theorem list_r (a : Addr) : oList [.ref a] M Q = ol (lstOf (M a)) (fun xs => newL xs M Q) := by
  unfold oList ol; dsimp only; cases lstOf (M a) <;> rfl
theorem str_i (i : Int) : oStr [.int i] M Q = (i.natAbs.log2 < 1920 ∧ PyData.strOk (toString i : Str) = true ∧ Q (.str (toString i)) M) := propext Iff.rfl
theorem sl_t (ds : List D) (lo hi : Option Int) : oSlice (.tup ds) lo hi M Q = Q (.tup (cutD ds lo hi)) M := propext Iff.rfl
theorem sl_r (a : Addr) (lo hi : Option Int) : oSlice (.ref a) lo hi M Q = ol (lstOf (M a)) (fun ds => newL (cutD ds lo hi) M Q) := by
  unfold oSlice ol; dsimp only; cases lstOf (M a) <;> rfl
theorem rev_t (ds : List D) : oRev (.tup ds) M Q = Q (.tup ds.reverse) M := propext Iff.rfl
theorem rev_r (a : Addr) : oRev (.ref a) M Q = ol (lstOf (M a)) (fun ds => newL ds.reverse M Q) := by
  unfold oRev ol; dsimp only; cases lstOf (M a) <;> rfl
theorem lo_l (ds : List D) : lstOf (some (.lst ds)) = some ds := rfl
theorem lo_r (ds : List D) : lstOf (some (.rdl ds)) = some ds := rfl
theorem repl_ {a : Addr} {k : Int} {xs : List D} (h : M a = some (.lst xs)) : oMul (.ref a) (.int k) M Q = (-(2 ^ 63) ≤ k ∧ k < 2 ^ 63 ∧ xs.length * k.toNat ≤ sizeLine ∧ newL (repL xs k) M Q) := by
  apply propext
  refine ⟨fun ⟨xs', e, h1⟩ => ?_, fun z => ⟨xs, h, z⟩⟩
  rw [h] at e
  cases e
  exact h1
theorem app_ {a : Addr} {xs : List D} (d : D) (h : M a = some (.lst xs)) : mAppend (.ref a) [d] M Q = (xs.length < sizeLine ∧ Q .non (put M a (.lst (xs ++ [d])))) := by
  unfold mAppend
  simp only [h]
theorem ty_l {a : Addr} {xs : List D} (h : M a = some (.lst xs)) : tyD M (.ref a) = some "list" := by unfold tyD; simp only [h]
theorem kit_k {T n : String} {b : Bool} (x : D) (h : tyD M x = some T) (k : kitB T n = some b) : oIsi [x, .ty n] M Q = Q (.bl b) M := by
  apply propext
  refine ⟨fun ⟨T', b', e1, e2, h1⟩ => ?_, fun z => ⟨T, b, h, k, z⟩⟩
  rw [h] at e1; cases e1
  rw [k] at e2; cases e2
  exact h1
theorem isi_t_t (x : List D) : oIsi [.tup x, .ty "tuple"] M Q = Q (.bl true) M := kit_k _ rfl (by decide +kernel)
theorem isi_i_t (x : Int) : oIsi [.int x, .ty "tuple"] M Q = Q (.bl false) M := kit_k _ rfl (by decide +kernel)
theorem isi_s_s (x : Str) : oIsi [.str x, .ty "str"] M Q = Q (.bl true) M := kit_k _ rfl (by decide +kernel)
theorem isi_i_i (x : Int) : oIsi [.int x, .ty "int"] M Q = Q (.bl true) M := kit_k _ rfl (by decide +kernel)
theorem isi_i_b (x : Int) : oIsi [.int x, .ty "bool"] M Q = Q (.bl false) M := kit_k _ rfl (by decide +kernel)
theorem isi_b_b (x : Bool) : oIsi [.bl x, .ty "bool"] M Q = Q (.bl true) M := kit_k _ rfl (by decide +kernel)
theorem ixN_of {n : Nat} {i : Int} (h : 0 ≤ i) (h' : i < n) : ixN n i = some i.toNat := by
  unfold ixN
  rw [if_pos h, if_pos h']
/-- xs.pop(i), xs[i] = v of a list that is at hand -/
theorem pop_i {a : Addr} {i : Int} {xs : List D} {d : D} (h : M a = some (.lst xs)) (h0 : 0 ≤ i) (h1 : i < xs.length) (hs : xs.length ≤ 1000000000) (hx : xs[i.toNat]? = some d) (hq : Q d (put M a (.lst (xs.eraseIdx i.toNat)))) : mPopAt (.ref a) [.int i] M Q := by
  unfold mPopAt
  simp only [h]
  exact ⟨by omega, by omega, i.toNat, d, (ixN_seq (ixN_of h0 h1)).1, hx, hq⟩
/-! stores -/
theorem MX.refl' : MX M M := fun _ _ h => h
theorem mxT {A B C : Mm} (h : MX A B) (h' : MX B C) : MX A C := fun a o e => h' a o (h a o e)
theorem mx_none {A B : Mm} (h : MX A B) {p : Addr} (e : B p = none) : A p = none := by
  cases q : A p with
  | none => rfl
  | some o => rw [h p o q] at e; cases e
theorem mx_put {A B : Mm} {p : Addr} {o : MO} (h : MX A B) (e : A p = none) : MX A (put B p o) := fun a o' q => by
  by_cases z : a = p
  · subst z; rw [e] at q; cases q
  · rw [put_ne z]; exact h a o' q
theorem newL_i {ds : List D} (h : ∀ p M', M p = none → MX M M' → M' p = some (.lst ds) → Q (.ref p) M') : newL ds M Q := fun p hp => h p _ hp (mx_put MX.refl' hp) put_same
theorem lst_ol {a : Addr} {xs : List D} (h : M a = some (.lst xs)) : lstOf (M a) = some xs := by rw [h]; rfl
theorem rdl_ol {a : Addr} {xs : List D} (h : M a = some (.rdl xs)) : lstOf (M a) = some xs := by rw [h]; rfl
theorem mx_ol {A B : Mm} {a : Addr} {xs : List D} (h : MX A B) (e : lstOf (A a) = some xs) : lstOf (B a) = some xs := by
  cases q : A a with
  | none => rw [q] at e; cases e
  | some o => rw [h a o q, ← q]; exact e
/-! indices -/
theorem atI_of {α : Type} {xs : List α} {i : Int} {n : Nat} {x : α} (e : i = n) (h : xs[n]? = some x) : atI xs i = some x := by
  have hn : n < xs.length := by
    rcases Nat.lt_or_ge n xs.length with z | z
    · exact z
    · rw [List.getElem?_eq_none z] at h; cases h
  unfold atI ixN
  rw [e, if_pos (by omega), if_pos (by omega)]
  simpa using h
theorem atI_last {α : Type} {xs : List α} {x : α} (h : xs.getLast? = some x) : atI xs (-1) = some x := by
  have hn : 0 < xs.length := by
    cases xs with
    | nil => cases h
    | cons => simp
  unfold atI ixN
  rw [if_neg (by omega), if_pos (by omega)]
  rw [List.getLast?_eq_getElem?] at h
  have : ((-1 : Int) + (xs.length : Int)).toNat = xs.length - 1 := by omega
  rw [this]
  simpa using h
theorem at0 {α : Type} (a : α) (l : List α) : atI (a :: l) 0 = some a := atI_of (n := 0) rfl rfl
theorem at1 {α : Type} (a b : α) (l : List α) : atI (a :: b :: l) 1 = some b := atI_of (n := 1) rfl rfl
theorem at2 {α : Type} (a b c : α) (l : List α) : atI (a :: b :: c :: l) 2 = some c := atI_of (n := 2) rfl rfl
theorem at3 {α : Type} (a b c d : α) (l : List α) : atI (a :: b :: c :: d :: l) 3 = some d := atI_of (n := 3) rfl rfl
theorem rng_len (lo : Int) (n : Nat) : (rngD lo n).length = n := by simp [rngD]
theorem rng_at {lo : Int} {n k : Nat} {d : D} (h : (rngD lo n)[k]? = some d) : k < n ∧ d = .int (lo + k) := by
  simp only [rngD, List.getElem?_map, List.getElem?_range, Option.map_eq_some_iff] at h
  obtain ⟨j, h1, rfl⟩ := h
  by_cases z : k < n
  · rw [List.getElem?_range z] at h1; cases h1; exact ⟨z, rfl⟩
  · rw [List.getElem?_eq_none (by simp; omega)] at h1; cases h1
/-! loops -/
theorem for_i {chk : Mm → Prop} {g : Tg} {b : CS} (I : Nat → CL.Env → Mm → Prop) : ∀ {ds : List D} (k : Nat) {ρ : CL.Env} {M : Mm}, I k ρ M → (∀ n ρ M, k ≤ n → n ≤ k + ds.length → I n ρ M → chk M) →
    (∀ n d, ds[n]? = some d → ∀ ρ M, I (k + n) ρ M → ∃ ρ1, gT g d ρ = some ρ1 ∧ ∀ Kn : CL.Env → Mm → Prop, (∀ ρ' M', I (k + n + 1) ρ' M' → Kn ρ' M') → b ⟨Kn, Dc.rt, Dc.xc⟩ ρ1 M) →
    (∀ ρ M, I (k + ds.length) ρ M → Dc.nx ρ M) → forC chk g b Dc ds ρ M
  | [], k, ρ, M, h0, hc, hs, he => ⟨hc k ρ M (Nat.le_refl _) (Nat.le_add_right _ _) h0, he ρ M h0⟩
  | d :: ds, k, ρ, M, h0, hc, hs, he => by
    show chk M ∧ (match gT g d ρ with
    | some ρ' => b { Dc with nx := forC chk g b Dc ds } ρ' M
    | none => False)
    refine ⟨hc k ρ M (Nat.le_refl _) (Nat.le_add_right _ _) h0, ?_⟩
    obtain ⟨ρ1, e, z⟩ := hs 0 d rfl ρ M h0
    rw [e]
    refine z _ fun ρ' M' h1 => for_i I (k + 1) h1 (fun n ρ M a b => hc n ρ M (by omega) (by simp only [List.length_cons]; omega)) (fun n d' hd ρ M hI => ?_) (fun ρ M hI => he ρ M (by simp only [List.length_cons]; rw [show k + (ds.length + 1) = k + 1 + ds.length by omega]; exact hI))
    have := hs (n + 1) d' (by simpa using hd) ρ M (by rw [show k + (n + 1) = k + 1 + n by omega]; exact hI)
    rw [show k + (n + 1) + 1 = k + 1 + n + 1 by omega] at this
    exact this
/-- a loop with its count from 0 -/
theorem for_0 {chk : Mm → Prop} {g : Tg} {b : CS} {ds : List D} (I : Nat → CL.Env → Mm → Prop) (h0 : I 0 ρ M) (hc : ∀ n ρ M, n ≤ ds.length → I n ρ M → chk M)
    (hs : ∀ n d, ds[n]? = some d → ∀ ρ M, I n ρ M → ∃ ρ1, gT g d ρ = some ρ1 ∧ ∀ Kn : CL.Env → Mm → Prop, (∀ ρ' M', I (n + 1) ρ' M' → Kn ρ' M') → b ⟨Kn, Dc.rt, Dc.xc⟩ ρ1 M)
    (he : ∀ ρ M, I ds.length ρ M → Dc.nx ρ M) : forC chk g b Dc ds ρ M :=
  for_i I 0 h0 (fun n ρ M _ h => hc n ρ M (by omega)) (fun n d hd ρ M => by rw [Nat.zero_add]; exact hs n d hd ρ M) (fun ρ M => by rw [Nat.zero_add]; exact he ρ M)
theorem comp_k {chk : Mm → Prop} {g : Tg} {ce : CR} {G : Nat → D → Prop} {M0 : Mm} {p : Addr} (hp : M0 p = none) : ∀ {ds : List D} (k : Nat) (acc : List D) {M : Mm}, MX M0 M → M p = some (.lst acc) → acc.length = k → (∀ n y, acc[n]? = some y → G n y) → k + ds.length ≤ sizeLine → (∀ M, MX M0 M → chk M) →
    (∀ n d M2, ds[n]? = some d → MX M0 M2 → ∃ ρ1, gT g d ρ = some ρ1 ∧ ∀ Q : CK, (∀ y M3, MX M2 M3 → G (k + n) y → Q y M3) → ce ρ1 M2 Q X0) →
    (∀ ys M', MX M0 M' → M' p = some (.lst ys) → ys.length = k + ds.length → (∀ n y, ys[n]? = some y → G n y) → Q (.ref p) M') → compC chk g cYes ce p ρ Q ds M
  | [], k, acc, M, x, ha, hl, hg, hz, hc, hs, hf => by
    unfold compC
    exact ⟨hc M x, hf acc M x ha hl hg⟩
  | d :: ds, k, acc, M, x, ha, hl, hg, hz, hc, hs, hf => by
    unfold compC
    refine ⟨hc M x, ?_⟩
    obtain ⟨ρ1, e, z⟩ := hs 0 d M rfl x
    rw [e]
    show ce ρ1 M (fun y M2 => ∃ acc, M2 p = some (.lst acc) ∧ acc.length < sizeLine ∧ compC chk g cYes ce p ρ Q ds (put M2 p (.lst (acc ++ [y])))) X0
    refine z _ fun y M3 x3 gy => ⟨acc, x3 p _ ha, by rw [hl]; simp only [List.length_cons] at hz; omega, ?_⟩
    refine comp_k hp (k + 1) (acc ++ [y]) (mx_put (mxT x x3) hp) put_same (by simp [hl]) (fun n y' h => ?_) (by simp only [List.length_cons] at hz; omega) hc (fun n d' M2 hd => ?_) (fun ys M' a b c => hf ys M' a b (by simp only [List.length_cons]; omega))
    · by_cases w : n < acc.length
      · rw [List.getElem?_append_left w] at h; exact hg n y' h
      · rw [List.getElem?_append_right (by omega)] at h
        have : n = k := by
          rcases Nat.lt_or_ge (n - acc.length) 1 with u | u
          · omega
          · rw [List.getElem?_eq_none (by simpa using u)] at h; cases h
        subst this
        rw [hl, Nat.sub_self] at h
        cases h
        exact gy
    · have := hs (n + 1) d' M2 (by simpa using hd)
      rw [show k + (n + 1) = k + 1 + n by omega] at this
      exact this
/-- a list comprehension without an if -/
theorem comp_i {chk : Mm → Prop} {g : Tg} {ce : CR} {ds : List D} (G : Nat → D → Prop) (hz : ds.length ≤ sizeLine) (hc : ∀ M2, MX M M2 → chk M2)
    (hs : ∀ n d M2, ds[n]? = some d → MX M M2 → ∃ ρ1, gT g d ρ = some ρ1 ∧ ∀ Q : CK, (∀ y M3, MX M2 M3 → G n y → Q y M3) → ce ρ1 M2 Q X0)
    (hf : ∀ p ys M', M p = none → MX M M' → M' p = some (.lst ys) → ys.length = ds.length → (∀ n y, ys[n]? = some y → G n y) → Q (.ref p) M') : ∀ p, M p = none → compC chk g cYes ce p ρ Q ds (put M p (.lst [])) := fun p hp =>
  comp_k (k := 0) (G := G) hp [] (mx_put MX.refl' hp) put_same rfl (fun n y h => by simp at h) (by simpa using hz) hc (fun n d M2 hd x => by rw [Nat.zero_add]; exact hs n d M2 hd x) (fun ys M' a b c d => hf p ys M' hp a b (by simpa using c) d)
end
/-! ### equality -/
mutual
theorem toPy_plain : ∀ {d : D} {p : PyData}, toPy d = some p → p.plain = true
  | .non, p, e => by cases e; rfl
  | .bl b, p, e => by cases e; rfl
  | .int i, p, e => by cases e; rfl
  | .str x, p, e => by cases e; rfl
  | .ref a, p, e => by cases e
  | .ty a, p, e => by cases e
  | .tup ds, p, e => by
    cases q : toPyL ds with
    | none => simp only [toPy, q] at e; cases e
    | some ps => simp only [toPy, q] at e; cases e; exact toPyL_plain q
theorem toPyL_plain : ∀ {ds : List D} {ps : List PyData}, toPyL ds = some ps → PyData.plainAll ps = true
  | [], ps, e => by simp only [toPyL] at e; cases e; rfl
  | d :: ds, ps, e => by
    cases q : toPy d with
    | none => simp only [toPyL, q] at e; cases e
    | some p =>
      cases q2 : toPyL ds with
      | none => simp only [toPyL, q, q2] at e; cases e
      | some ps' =>
        simp only [toPyL, q, q2] at e; cases e
        simp only [PyData.plainAll, toPy_plain q, toPyL_plain q2, Bool.and_self]
end
/-- a datum of depth at most n, without lists -/
def flat : Nat → D → Bool
  | _, .non => true
  | _, .bl _ => true
  | _, .int _ => true
  | _, .str _ => true
  | n + 1, .tup ds => ds.all (flat n)
  | _, _ => false
theorem flat_py : ∀ {n : Nat} {d : D}, flat n d = true → ∃ p, toPy d = some p ∧ p.depth ≤ n
  | n, .non, h => ⟨_, rfl, by simp [PyData.depth]⟩
  | n, .bl b, h => ⟨_, rfl, by simp [PyData.depth]⟩
  | n, .int i, h => ⟨_, rfl, by simp [PyData.depth]⟩
  | n, .str x, h => ⟨_, rfl, by simp [PyData.depth]⟩
  | n, .ref a, h => by cases n <;> simp [flat] at h
  | n, .ty a, h => by cases n <;> simp [flat] at h
  | 0, .tup ds, h => by simp [flat] at h
  | n + 1, .tup ds, h => by
    have key : ∀ ds : List D, ds.all (flat n) = true → ∃ ps, toPyL ds = some ps ∧ PyData.depthAll ps ≤ n := by
      intro ds
      induction ds with
      | nil => intro _; exact ⟨[], rfl, by simp [PyData.depthAll]⟩
      | cons d ds ih =>
        intro h
        simp only [List.all_cons, Bool.and_eq_true] at h
        obtain ⟨p, e, q⟩ := flat_py h.1
        obtain ⟨ps, e2, q2⟩ := ih h.2
        refine ⟨p :: ps, by simp [toPyL, e, e2], ?_⟩
        simp only [PyData.depthAll]
        omega
    obtain ⟨ps, e, q⟩ := key ds h
    exact ⟨.tuple ps, by simp [toPy, e], by simp only [PyData.depth]; omega⟩
section
variable {M : Mm} {Q : CK}
theorem vw_flat {n : Nat} {d : D} (h : flat n d = true) : vw M d = toPy d := by
  cases d with
  | ref a => cases n <;> simp [flat] at h
  | _ => rfl
theorem eq_self {neg : Bool} (n : Nat) {x y : D} (e : x = y) (h : flat n x = true) (hn : n ≤ 64 := by decide) (hq : Q (.bl (!neg)) M) : oEq neg x y M Q := by
  subst e
  obtain ⟨p, e, q⟩ := flat_py h
  have v := (vw_flat (M := M) h).trans e
  refine ⟨p, p, v, v, by omega, by omega, ?_⟩
  rw [PySem.SeqAt.eqv_refl_plain p (toPy_plain e)]
  cases neg <;> exact hq
theorem eq_i {neg : Bool} (i j : Int) : oEq neg (.int i) (.int j) M Q = Q (.bl (if neg then !decide (i = j) else decide (i = j))) M := by
  apply propext
  have e : PyData.eqv (.int i) (.int j) = decide (i = j) := by simp only [PyData.eqv]; by_cases z : i = j <;> simp [z]
  refine ⟨fun ⟨p, q, h1, h2, h3, h4, h⟩ => ?_, fun z => ⟨_, _, rfl, rfl, by simp [PyData.depth], by simp [PyData.depth], by rw [e]; exact z⟩⟩
  cases h1; cases h2
  rw [e] at h
  exact h
theorem eq_s {neg : Bool} (i j : Str) : oEq neg (.str i) (.str j) M Q = Q (.bl (if neg then !decide (i = j) else decide (i = j))) M := by
  apply propext
  have e : PyData.eqv (.str i) (.str j) = decide (i = j) := by simp only [PyData.eqv]; by_cases z : i = j <;> simp [z]
  refine ⟨fun ⟨p, q, h1, h2, h3, h4, h⟩ => ?_, fun z => ⟨_, _, rfl, rfl, by simp [PyData.depth], by simp [PyData.depth], by rw [e]; exact z⟩⟩
  cases h1; cases h2
  rw [e] at h
  exact h
end
theorem size_b {n : Nat} (h : Nat.ble n 16777216 = true) : n ≤ sizeLine := Nat.le_of_ble_eq_true h
theorem size_le {n : Nat} (h : n ≤ 16777216) : n ≤ sizeLine := h
end CP

namespace K61
open PySem PySem.Spec PyProof.Rows L2 CL
def top (i : Nat) : Stmt := PySem.Challenge.pw_roundsfare_k61_visits_and_late_runs.main.body.getD i (.Pass ⟨0, 0, 0, 0⟩)
abbrev Pr : Program := PySem.Challenge.pw_roundsfare_k61_visits_and_late_runs
/-- where the classes stand -/
structure Cs where
  FareError : Addr
  TooMany : Addr
  BadSplit : Addr
section
def R_line_of (K : PySem.W.Frag) (g : Cs) : CS := (cSeq (cFor (iSeq (c2 (cVar 0) (cC (.int 1)) oIx)) (.one 2) (cIf (cTest (c2 (c2 (cVar 2) (cC (.int 0)) oIx) (cVar 1) (oEq false))) (cRet (cVar 2)) cSkip))
  (cRet (cC .non)))
def cf_line_of (K : PySem.W.Frag) (g : Cs) : CF := cfOf 3 (R_line_of K g)
def R_visits_of (K : PySem.W.Frag) (g : Cs) : CS := (cSeq (cAsg (cVar 1) (gTupN [3, 4, 5, 6]))
  (cSeq (cSet 2 (c2 (cCall 2 (cf_line_of K g) (cCons (cVar 0) (cCons (cVar 3) cNil))) (cC (.int 2)) oIx))
  (cSeq (cIf (cTest (c2 (cVar 4) (cC (.str "home")) (oEq false))) (cSet 2 (cRev (cVar 2))) cSkip)
  (cRet (cB (cCons (cComp (iRange1 (cB (cCons (cVar 2) cNil) oLen)) (.one 7) cYes (cTup (cCons (c2 (cVar 2) (cVar 7) oIx) (cCons (c2 (cVar 5) (c2 (cVar 6) (cVar 7) oMul) oAdd) cNil))) [7]) cNil) oTuple)))))
def cf_visits_of (K : PySem.W.Frag) (g : Cs) : CF := cfOf 8 (R_visits_of K g)
def R_check_end (K : PySem.W.Frag) (g : Cs) : CS := (cIf (cTest (c2 (c2 (c2 (cCall 2 (cf_visits_of K g) (cCons (cVar 0) (cCons (cVar 1) cNil))) (cNeg (cC (.int 1))) oIx) (cC (.int 1)) oIx) (cC (.int 9999)) oGt)) (cRaise g.TooMany ["limit"] (cCons (cC (.int 9999)) cNil)) cSkip)
def cf_check_end (K : PySem.W.Frag) (g : Cs) : CF := cfOf 2 (R_check_end K g)
def R_late_runs (K : PySem.W.Frag) (g : Cs) : CS := (cSeq (cIf (cTest (c2 (cB (cCons (cVar 2) cNil) oLen) (cB (cCons (cVar 1) cNil) oLen) (oEq true))) (cRaise g.BadSplit [] cNil) cSkip)
  (cSeq (cSet 3 (cLst cNil))
  (cSeq (cFor (iRange1 (cB (cCons (cVar 1) cNil) oLen)) (.one 4) (cSeq (cAsg (c2 (cVar 1) (cVar 4) oIx) (gTupN [6, 7, 8, 9]))
  (cDrop (cM "list" (cVar 3) (cCons (cTup (cCons (cVar 6) (cCons (cVar 7) (cCons (c2 (cVar 8) (c2 (cVar 2) (cVar 4) oIx) oAdd) (cCons (cVar 9) cNil))))) cNil) mAppend))))
  (cSeq (cFor (iSeq (cVar 3)) (.one 5) (cDrop (cCall 2 (cf_check_end K g) (cCons (cVar 0) (cCons (cVar 5) cNil)))))
  (cRet (cB (cCons (cVar 3) cNil) oTuple))))))
def cf_late_runs (K : PySem.W.Frag) (g : Cs) : CF := cfOf 10 (R_late_runs K g)
def R_l_draws (K : PySem.W.Frag) (g : Cs) : CS := (cSeq (cSet 3 (cC (.int 0)))
  (cSeq (cIf (cTest (c2 (cVar 1) (cB (cCons (cVar 0) cNil) oLen) oLt)) (cSet 3 (cB (cCons (c2 (cVar 0) (cVar 1) oIx) cNil) oInt1)) cSkip)
  (cSeq (cSet 4 (cLst cNil))
  (cSeq (cIf (cTest (c2 (cVar 3) (c2 (cC (.int 10)) (cC (.int 18)) oPow) oGe)) (cSeq (cFor (iSeq (cVar 2)) (.one 7) (cSeq (cDrop (cM "list" (cVar 4) (cCons (c2 (cB (cCons (cVar 3) cNil) oInt1) (cVar 7) oMod) cNil) mAppend))
  (cSet 3 (c2 (cVar 3) (cVar 7) oDiv))))
  (cRet (cVar 4))) cSkip)
  (cSeq (cSet 5 (c2 (cB (cCons (c2 (cVar 3) (c2 (cC (.int 104729)) (cVar 1) oMul) oAdd) cNil) oInt1) (cC (.int 2147483647)) oMod))
  (cSeq (cFor (iRange1 (cB (cCons (cVar 2) cNil) oLen)) (.one 6) (cSeq (cSet 5 (c2 (cB (cCons (c2 (c2 (c2 (cVar 5) (cC (.int 48271)) oMul) (c2 (cC (.int 7919)) (cVar 6) oMul) oAdd) (cC (.int 12345)) oAdd) cNil) oInt1) (cC (.int 2147483647)) oMod))
  (cSeq (cSet 8 (c2 (cB (cCons (c2 (c2 (c2 (c2 (cVar 5) (cC (.int 3)) oDiv) (cC (.int 69621)) oMul) (c2 (cC (.int 101)) (cVar 6) oMul) oAdd) (cC (.int 17)) oAdd) cNil) oInt1) (cC (.int 2147483629)) oMod))
  (cDrop (cM "list" (cVar 4) (cCons (c2 (cB (cCons (cVar 8) cNil) oInt1) (c2 (cVar 2) (cVar 6) oIx) oMod) cNil) mAppend)))))
  (cRet (cVar 4))))))))
def cf_l_draws (K : PySem.W.Frag) (g : Cs) : CF := cfOf 9 (R_l_draws K g)
def R_l_word (K : PySem.W.Frag) (g : Cs) : CS := (cSeq (cSet 3 (cC (.str "qwertzuiopasdfghjklyxcvbnm")))
  (cSeq (cSet 4 (cLst (cCons (cC (.str "")) (cCons (cC (.str "b")) (cCons (cC (.str "x7")) (cCons (cC (.str "m")) (cCons (cC (.str "zz")) (cCons (cC (.str "k0k")) cNil))))))))
  (cRet (c2 (c2 (c2 (cVar 3) (c2 (cB (cCons (cVar 0) cNil) oInt1) (cC (.int 26)) oMod) oIx) (cB (cCons (cVar 1) cNil) oStr) oAdd) (c2 (cVar 4) (c2 (cB (cCons (cVar 2) cNil) oInt1) (cC (.int 6)) oMod) oIx) oAdd))))
def cf_l_word (K : PySem.W.Frag) (g : Cs) : CF := cfOf 5 (R_l_word K g)
def R_l_is_number (K : PySem.W.Frag) (g : Cs) : CS := (cRet (cAndV (cB (cCons (cVar 0) (cCons (cC (.ty "int")) cNil)) oIsi) (cNotV (cB (cCons (cVar 0) (cCons (cC (.ty "bool")) cNil)) oIsi))))
def cf_l_is_number (K : PySem.W.Frag) (g : Cs) : CF := cfOf 1 (R_l_is_number K g)
def R_l_city (K : PySem.W.Frag) (g : Cs) : CS := (cSeq (cSet 2 (cCall 3 (cf_l_draws K g) (cCons (cVar 0) (cCons (cVar 1) (cCons (cLst (cCons (cC (.int 7)) (cCons (cC (.int 4)) cNil))) cNil)))))
  (cSeq (cSet 3 (c2 (cC (.int 2)) (c2 (cVar 2) (cC (.int 0)) oIx) oAdd))
  (cSeq (cSet 4 (c2 (cC (.int 1)) (c2 (cVar 2) (cC (.int 1)) oIx) oAdd))
  (cSeq (cSet 5 (cCall 3 (cf_l_draws K g) (cCons (cVar 0) (cCons (cVar 1) (cCons (c2 (c2 (cLst (cCons (cC (.int 7)) (cCons (cC (.int 4)) cNil))) (c2 (cLst (cCons (cC (.int 26)) (cCons (cC (.int 6)) (cCons (cC (.int 8)) cNil)))) (cVar 3) oMul) oAdd) (c2 (cLst (cCons (cC (.int 26)) (cCons (cC (.int 6)) (cCons (cC (.int 4)) (cCons (cC (.int 9)) (cCons (cC (.int 9)) (cCons (cC (.int 9)) (cCons (cC (.int 9)) (cCons (cC (.int 9)) (cCons (cC (.int 8)) cNil)))))))))) (cVar 4) oMul) oAdd) cNil)))))
  (cSeq (cSet 6 (cLst cNil))
  (cSeq (cFor (iRange1 (cVar 3)) (.one 7) (cSeq (cSet 9 (c2 (cC (.int 2)) (c2 (cC (.int 3)) (cVar 7) oMul) oAdd))
  (cDrop (cM "list" (cVar 6) (cCons (cTup (cCons (cCall 3 (cf_l_word K g) (cCons (c2 (cVar 5) (cVar 9) oIx) (cCons (cVar 7) (cCons (c2 (cVar 5) (c2 (cVar 9) (cC (.int 1)) oAdd) oIx) cNil)))) (cCons (c2 (cLst (cCons (cC (.int 1)) (cCons (cC (.int 1)) (cCons (cC (.int 2)) (cCons (cC (.int 2)) (cCons (cC (.int 3)) (cCons (cC (.int 4)) (cCons (cC (.int 5)) (cCons (cC (.int 6)) cNil))))))))) (c2 (cVar 5) (c2 (cVar 9) (cC (.int 2)) oAdd) oIx) oIx) cNil))) cNil) mAppend))))
  (cSeq (cSet 8 (cLst cNil))
  (cSeq (cFor (iRange1 (cVar 4)) (.one 7) (cSeq (cSet 9 (c2 (c2 (cC (.int 2)) (c2 (cC (.int 3)) (cVar 3) oMul) oAdd) (c2 (cC (.int 9)) (cVar 7) oMul) oAdd))
  (cSeq (cSet 10 (cComp (iSeq (cVar 6)) (.one 14) cYes (c2 (cVar 14) (cC (.int 0)) oIx) [14]))
  (cSeq (cSet 11 (cLst cNil))
  (cSeq (cFor (iRange1 (c2 (cC (.int 2)) (c2 (cVar 5) (c2 (cVar 9) (cC (.int 2)) oAdd) oIx) oAdd)) (.one 12) (cIf (cTest (c2 (cB (cCons (cVar 10) cNil) oLen) (cC (.int 0)) oGt)) (cDrop (cM "list" (cVar 11) (cCons (cM "list" (cVar 10) (cCons (c2 (cB (cCons (c2 (cVar 5) (c2 (c2 (cVar 9) (cC (.int 3)) oAdd) (cVar 12) oAdd) oIx) cNil) oInt1) (cB (cCons (cVar 10) cNil) oLen) oMod) cNil) mPopAt) cNil) mAppend)) cSkip))
  (cSeq (cSet 13 (cCall 3 (cf_l_word K g) (cCons (c2 (cVar 5) (cVar 9) oIx) (cCons (c2 (cC (.int 40)) (cVar 7) oAdd) (cCons (c2 (cVar 5) (c2 (cVar 9) (cC (.int 1)) oAdd) oIx) cNil)))))
  (cSeq (cIf (cAnd (cTest (c2 (c2 (cVar 5) (c2 (cVar 9) (cC (.int 8)) oAdd) oIx) (cC (.int 0)) (oEq false))) (cTest (c2 (cVar 7) (cC (.int 2)) oLt))) (cSet 13 (c2 (c2 (cVar 6) (cVar 7) oIx) (cC (.int 0)) oIx)) cSkip)
  (cDrop (cM "list" (cVar 8) (cCons (cTup (cCons (cVar 13) (cCons (cCall 3 (cf_l_word K g) (cCons (c2 (cVar 5) (c2 (cVar 9) (cC (.int 1)) oAdd) oIx) (cCons (c2 (cC (.int 60)) (cVar 7) oAdd) (cCons (c2 (cVar 5) (cVar 9) oIx) cNil)))) (cCons (cB (cCons (cVar 11) cNil) oTuple) cNil)))) cNil) mAppend)))))))))
  (cRet (cTup (cCons (cB (cCons (cVar 6) cNil) oTuple) (cCons (cB (cCons (cVar 8) cNil) oTuple) (cCons (cTup cNil) (cCons (cTup cNil) cNil))))))))))))))
def cf_l_city (K : PySem.W.Frag) (g : Cs) : CF := cfOf 15 (R_l_city K g)
def R_l_runs (K : PySem.W.Frag) (g : Cs) : CS := (cSeq (cSet 4 (c2 (cCall 3 (cf_l_draws K g) (cCons (cVar 0) (cCons (cVar 1) (cCons (cLst (cCons (c2 (cVar 3) (cC (.int 1)) oAdd) cNil)) cNil)))) (cC (.int 0)) oIx))
  (cSeq (cSet 5 (cCall 3 (cf_l_draws K g) (cCons (cVar 0) (cCons (cVar 1) (cCons (c2 (cLst (cCons (c2 (cVar 3) (cC (.int 1)) oAdd) (cCons (cC (.int 6)) cNil))) (c2 (cLst (cCons (cC (.int 12)) (cCons (cC (.int 2)) (cCons (cC (.int 26)) (cCons (cC (.int 5)) cNil))))) (cVar 4) oMul) oAdd) cNil)))))
  (cSeq (cSet 6 (cLst cNil))
  (cSeq (cSet 7 (cC (.int 0)))
  (cSeq (cFor (iRange1 (cVar 4)) (.one 8) (cSeq (cSet 10 (c2 (cC (.int 2)) (c2 (cC (.int 4)) (cVar 8) oMul) oAdd))
  (cSeq (cSet 11 (c2 (cVar 2) (c2 (cB (cCons (c2 (cVar 5) (cVar 10) oIx) cNil) oInt1) (cB (cCons (cVar 2) cNil) oLen) oMod) oIx))
  (cSeq (cDrop (cM "list" (cVar 6) (cCons (cTup (cCons (c2 (cVar 11) (cC (.int 0)) oIx) (cCons (c2 (cLst (cCons (cC (.str "out")) (cCons (cC (.str "home")) cNil))) (c2 (cVar 5) (c2 (cVar 10) (cC (.int 1)) oAdd) oIx) oIx) (cCons (c2 (cVar 5) (c2 (cVar 10) (cC (.int 2)) oAdd) oIx) (cCons (c2 (cC (.int 1)) (c2 (cVar 5) (c2 (cVar 10) (cC (.int 3)) oAdd) oIx) oAdd) cNil))))) cNil) mAppend))
  (cSet 7 (cB (cCons (cVar 7) (cCons (c2 (c2 (cVar 5) (c2 (cVar 10) (cC (.int 2)) oAdd) oIx) (c2 (c2 (cC (.int 1)) (c2 (cVar 5) (c2 (cVar 10) (cC (.int 3)) oAdd) oIx) oAdd) (c2 (cB (cCons (c2 (cVar 11) (cC (.int 2)) oIx) cNil) oLen) (cC (.int 1)) oSub) oMul) oAdd) cNil)) (oTwo fun i j => if j > i then j else i)))))))
  (cSeq (cSet 9 (cC (.int 0)))
  (cSeq (cIf (cTest (c2 (c2 (cVar 5) (cC (.int 1)) oIx) (cC (.int 0)) (oEq false))) (cSet 9 (c2 (cC (.int 9999)) (cVar 7) oSub)) cSkip)
  (cRet (cTup (cCons (cB (cCons (cComp (iSeq (cVar 6)) (.one 12) cYes (cTup (cCons (c2 (cVar 12) (cC (.int 0)) oIx) (cCons (c2 (cVar 12) (cC (.int 1)) oIx) (cCons (c2 (c2 (cVar 12) (cC (.int 2)) oIx) (cVar 9) oAdd) (cCons (c2 (cVar 12) (cC (.int 3)) oIx) cNil))))) [12]) cNil) oTuple) (cCons (cVar 9) cNil)))))))))))
def cf_l_runs (K : PySem.W.Frag) (g : Cs) : CF := cfOf 13 (R_l_runs K g)
def R_l_are_runs (K : PySem.W.Frag) (g : Cs) : CS := (cSeq (cIf (cNot (cTest (cB (cCons (cVar 0) (cCons (cC (.ty "tuple")) cNil)) oIsi))) (cRet (cC (.bl false))) cSkip)
  (cSeq (cFor (iSeq (cVar 0)) (.one 1) (cSeq (cIf (cOr (cNot (cTest (cB (cCons (cVar 1) (cCons (cC (.ty "tuple")) cNil)) oIsi))) (cTest (c2 (cB (cCons (cVar 1) cNil) oLen) (cC (.int 4)) (oEq true)))) (cRet (cC (.bl false))) cSkip)
  (cSeq (cIf (cOr (cNot (cTest (cB (cCons (c2 (cVar 1) (cC (.int 0)) oIx) (cCons (cC (.ty "str")) cNil)) oIsi))) (cNot (cTest (cB (cCons (c2 (cVar 1) (cC (.int 1)) oIx) (cCons (cC (.ty "str")) cNil)) oIsi)))) (cRet (cC (.bl false))) cSkip)
  (cIf (cOr (cNot (cTest (cCall 1 (cf_l_is_number K g) (cCons (c2 (cVar 1) (cC (.int 2)) oIx) cNil)))) (cNot (cTest (cCall 1 (cf_l_is_number K g) (cCons (c2 (cVar 1) (cC (.int 3)) oIx) cNil))))) (cRet (cC (.bl false))) cSkip))))
  (cRet (cC (.bl true)))))
def cf_l_are_runs (K : PySem.W.Frag) (g : Cs) : CF := cfOf 2 (R_l_are_runs K g)
def R_l_visits (K : PySem.W.Frag) (g : Cs) : CS := (cSeq (cSet 2 (cLst cNil))
  (cSeq (cFor (iSeq (c2 (cVar 0) (cC (.int 1)) oIx)) (.one 3) (cIf (cTest (c2 (c2 (cVar 3) (cC (.int 0)) oIx) (c2 (cVar 1) (cC (.int 0)) oIx) (oEq false))) (cSet 2 (cB (cCons (c2 (cVar 3) (cC (.int 2)) oIx) cNil) oList)) cSkip))
  (cSeq (cIf (cTest (c2 (c2 (cVar 1) (cC (.int 1)) oIx) (cC (.str "home")) (oEq false))) (cSet 2 (cRev (cVar 2))) cSkip)
  (cRet (cB (cCons (cComp (iRange1 (cB (cCons (cVar 2) cNil) oLen)) (.one 4) cYes (cTup (cCons (c2 (cVar 2) (cVar 4) oIx) (cCons (c2 (c2 (cVar 1) (cC (.int 2)) oIx) (c2 (c2 (cVar 1) (cC (.int 3)) oIx) (cVar 4) oMul) oAdd) cNil))) [4]) cNil) oTuple)))))
def cf_l_visits (K : PySem.W.Frag) (g : Cs) : CF := cfOf 5 (R_l_visits K g)
def R_l_are_visits (K : PySem.W.Frag) (g : Cs) : CS := (cSeq (cIf (cNot (cTest (cB (cCons (cVar 0) (cCons (cC (.ty "tuple")) cNil)) oIsi))) (cRet (cC (.bl false))) cSkip)
  (cSeq (cFor (iSeq (cVar 0)) (.one 1) (cSeq (cIf (cOr (cNot (cTest (cB (cCons (cVar 1) (cCons (cC (.ty "tuple")) cNil)) oIsi))) (cTest (c2 (cB (cCons (cVar 1) cNil) oLen) (cC (.int 2)) (oEq true)))) (cRet (cC (.bl false))) cSkip)
  (cIf (cOr (cNot (cTest (cB (cCons (c2 (cVar 1) (cC (.int 0)) oIx) (cCons (cC (.ty "str")) cNil)) oIsi))) (cNot (cTest (cCall 1 (cf_l_is_number K g) (cCons (c2 (cVar 1) (cC (.int 1)) oIx) cNil))))) (cRet (cC (.bl false))) cSkip)))
  (cRet (cC (.bl true)))))
def cf_l_are_visits (K : PySem.W.Frag) (g : Cs) : CF := cfOf 2 (R_l_are_visits K g)
def R_l_late (K : PySem.W.Frag) (g : Cs) : CS := (cSeq (cTry K (cSet 4 (cCall 3 (cf_late_runs K g) (cCons (cVar 0) (cCons (cVar 1) (cCons (cVar 2) cNil))))) ((g.BadSplit, some 3, fun sa sC sd => (cSeq (cIf (cAnd (cTest (cB (cCons (cVar 3) (cCons (cC (.ref g.FareError)) cNil)) (oIsS K sC sa sd))) (cAnd (cTest (cB (cCons (cVar 3) (cCons (cC (.ty "ValueError")) cNil)) (oIsS K sC sa sd))) (cNot (cTest (cB (cCons (cVar 3) (cCons (cC (.ref g.TooMany)) cNil)) (oIsS K sC sa sd)))))) (cRet (cTup (cCons (cC (.str "BadSplit")) cNil))) cSkip)
  (cRet (cTup (cCons (cC (.str "class")) cNil))))) :: ((g.TooMany, some 3, fun sa sC sd => (cSeq (cIf (cAnd (cTest (cB (cCons (cVar 3) (cCons (cC (.ref g.FareError)) cNil)) (oIsS K sC sa sd))) (cAnd (cTest (cB (cCons (cVar 3) (cCons (cC (.ty "ValueError")) cNil)) (oIsS K sC sa sd))) (cTest (cCall 1 (cf_l_is_number K g) (cCons (cXf sa sC sd g.TooMany "limit" (cVar 3)) cNil))))) (cRet (cTup (cCons (cC (.str "TooMany")) (cCons (cXf sa sC sd g.TooMany "limit" (cVar 3)) cNil)))) cSkip)
  (cRet (cTup (cCons (cC (.str "class")) cNil))))) :: ((g.FareError, none, fun sa sC sd => (cRet (cTup (cCons (cC (.str "other")) cNil)))) :: []))))
  (cSeq (cIf (cNot (cTest (cCall 1 (cf_l_are_runs K g) (cCons (cVar 4) cNil)))) (cRet (cTup (cCons (cC (.str "kind")) cNil))) cSkip)
  (cRet (cTup (cCons (cC (.str "runs")) (cCons (cVar 4) cNil))))))
def cf_l_late (K : PySem.W.Frag) (g : Cs) : CF := cfOf 5 (R_l_late K g)
def R_l_delays (K : PySem.W.Frag) (g : Cs) : CS := (cSeq (cSet 4 (cCall 3 (cf_l_draws K g) (cCons (cVar 0) (cCons (cVar 1) (cCons (c2 (cLst (cCons (cC (.int 4)) (cCons (cC (.int 12)) (cCons (cC (.int 10000)) cNil)))) (cB (cCons (cVar 3) cNil) oLen) oMul) cNil)))))
  (cSeq (cSet 5 (cLst cNil))
  (cSeq (cFor (iRange1 (cB (cCons (cVar 3) cNil) oLen)) (.one 6) (cSeq (cSet 7 (c2 (cC (.int 9999)) (c2 (c2 (cCall 2 (cf_l_visits K g) (cCons (cVar 2) (cCons (c2 (cVar 3) (cVar 6) oIx) cNil))) (cNeg (cC (.int 1))) oIx) (cC (.int 1)) oIx) oSub))
  (cSeq (cSet 8 (c2 (cVar 4) (c2 (cC (.int 3)) (cVar 6) oMul) oIx))
  (cSeq (cSet 9 (cC (.int 0)))
  (cSeq (cIf (cTest (c2 (cVar 8) (cC (.int 1)) (oEq false))) (cSet 9 (cB (cCons (cVar 7) (cCons (c2 (cVar 4) (c2 (c2 (cC (.int 3)) (cVar 6) oMul) (cC (.int 1)) oAdd) oIx) cNil)) (oTwo fun i j => if j < i then j else i))) (cIf (cTest (c2 (cVar 8) (cC (.int 2)) (oEq false))) (cSet 9 (cVar 7)) (cIf (cTest (c2 (cVar 8) (cC (.int 3)) (oEq false))) (cSet 9 (c2 (cB (cCons (c2 (cVar 4) (c2 (c2 (cC (.int 3)) (cVar 6) oMul) (cC (.int 2)) oAdd) oIx) cNil) oInt1) (c2 (cVar 7) (cC (.int 1)) oAdd) oMod)) cSkip)))
  (cDrop (cM "list" (cVar 5) (cCons (cVar 9) cNil) mAppend)))))))
  (cRet (cVar 5)))))
def cf_l_delays (K : PySem.W.Frag) (g : Cs) : CF := cfOf 10 (R_l_delays K g)
def R_l_added (K : PySem.W.Frag) (g : Cs) : CS := (cSeq (cSet 2 (cLst cNil))
  (cSeq (cFor (iRange1 (cB (cCons (cVar 0) cNil) oLen)) (.one 3) (cDrop (cM "list" (cVar 2) (cCons (cTup (cCons (c2 (c2 (cVar 0) (cVar 3) oIx) (cC (.int 0)) oIx) (cCons (c2 (c2 (cVar 0) (cVar 3) oIx) (cC (.int 1)) oIx) (cCons (c2 (c2 (c2 (cVar 0) (cVar 3) oIx) (cC (.int 2)) oIx) (c2 (cVar 1) (cVar 3) oIx) oAdd) (cCons (c2 (c2 (cVar 0) (cVar 3) oIx) (cC (.int 3)) oIx) cNil))))) cNil) mAppend)))
  (cRet (cB (cCons (cVar 2) cNil) oTuple))))
def cf_l_added (K : PySem.W.Frag) (g : Cs) : CF := cfOf 4 (R_l_added K g)
def R_law (K : PySem.W.Frag) (g : Cs) : CS := (cSeq (cSet 1 (cCall 2 (cf_l_city K g) (cCons (cVar 0) (cCons (cC (.int 0)) cNil))))
  (cSeq (cSet 2 (cCall 3 (cf_l_draws K g) (cCons (cVar 0) (cCons (cC (.int 3)) (cCons (cLst (cCons (cC (.int 6)) (cCons (cC (.int 31)) (cCons (cC (.int 2)) cNil)))) cNil)))))
  (cSeq (cSet 3 (cC (.int 8)))
  (cSeq (cSet 4 (c2 (cCall 4 (cf_l_runs K g) (cCons (cVar 0) (cCons (cC (.int 1)) (cCons (c2 (cVar 1) (cC (.int 1)) oIx) (cCons (cVar 3) cNil))))) (cC (.int 0)) oIx))
  (cSeq (cIf (cTest (c2 (c2 (cVar 2) (cC (.int 0)) oIx) (cC (.int 0)) (oEq false))) (cSeq (cSet 9 (cComp (iRange1 (cC (.int 30))) (.one 15) cYes (c2 (cCall 4 (cf_l_runs K g) (cCons (cVar 0) (cCons (c2 (cC (.int 10)) (cVar 15) oAdd) (cCons (c2 (cVar 1) (cC (.int 1)) oIx) (cCons (cVar 3) cNil))))) (cC (.int 0)) oIx) [15]))
  (cSeq (cFor (iSeq (cVar 9)) (.one 10) (cSet 4 (c2 (cVar 4) (cVar 10) oAdd)))
  (cSet 4 (cSlice (cVar 4) oNone (oSome (cC (.int 30))))))) cSkip)
  (cSeq (cSet 5 (cTup (cCons (c2 (cVar 1) (cC (.int 0)) oIx) (cCons (c2 (cVar 1) (cC (.int 1)) oIx) cNil))))
  (cSeq (cIf (cTest (c2 (c2 (cVar 2) (cC (.int 2)) oIx) (cC (.int 0)) (oEq false))) (cSet 5 (cVar 1)) cSkip)
  (cSeq (cSet 6 (cCall 4 (cf_l_delays K g) (cCons (cVar 0) (cCons (cC (.int 2)) (cCons (cVar 5) (cCons (cVar 4) cNil))))))
  (cSeq (cSet 7 (cCall 2 (cf_l_added K g) (cCons (cVar 4) (cCons (cVar 6) cNil))))
  (cSeq (cIf (cTest (c2 (cCall 3 (cf_l_late K g) (cCons (cVar 5) (cCons (cVar 4) (cCons (cB (cCons (cVar 6) cNil) oTuple) cNil)))) (cTup (cCons (cC (.str "runs")) (cCons (cVar 7) cNil))) (oEq true))) (cRet (cC (.bl false))) cSkip)
  (cSeq (cIf (cTest (c2 (cCall 3 (cf_l_late K g) (cCons (cVar 5) (cCons (cVar 4) (cCons (cB (cCons (cComp (iSeq (cVar 4)) (.one 8) cYes (cC (.int 0)) [8]) cNil) oTuple) cNil)))) (cTup (cCons (cC (.str "runs")) (cCons (cVar 4) cNil))) (oEq true))) (cRet (cC (.bl false))) cSkip)
  (cSeq (cFor (iSeq (c2 (cVar 4) (cVar 7) oAdd)) (.one 8) (cSeq (cSet 11 (cCall 2 (cf_visits_of K g) (cCons (cVar 5) (cCons (cVar 8) cNil))))
  (cIf (cOr (cNot (cTest (cCall 1 (cf_l_are_visits K g) (cCons (cVar 11) cNil)))) (cTest (c2 (cVar 11) (cCall 2 (cf_l_visits K g) (cCons (cVar 5) (cCons (cVar 8) cNil))) (oEq true)))) (cRet (cC (.bl false))) cSkip)))
  (cSeq (cIf (cTest (c2 (cCall 3 (cf_l_late K g) (cCons (cVar 5) (cCons (cVar 4) (cCons (cB (cCons (c2 (cVar 6) (cLst (cCons (cC (.int 0)) cNil)) oAdd) cNil) oTuple) cNil)))) (cTup (cCons (cC (.str "BadSplit")) cNil)) (oEq true))) (cRet (cC (.bl false))) cSkip)
  (cSeq (cIf (cTest (c2 (cB (cCons (cVar 4) cNil) oLen) (cC (.int 0)) oGt)) (cSeq (cSet 12 (c2 (cB (cCons (c2 (cVar 2) (cC (.int 1)) oIx) cNil) oInt1) (cB (cCons (cVar 4) cNil) oLen) oMod))
  (cSeq (cSet 13 (cB (cCons (cVar 6) cNil) oList))
  (cSeq (cAsg (c2 (cC (.int 10000)) (c2 (c2 (cCall 2 (cf_l_visits K g) (cCons (cVar 5) (cCons (c2 (cVar 4) (cVar 12) oIx) cNil))) (cNeg (cC (.int 1))) oIx) (cC (.int 1)) oIx) oSub) (gIxL (cVar 13) (cVar 12)))
  (cSeq (cIf (cTest (c2 (cCall 3 (cf_l_late K g) (cCons (cVar 5) (cCons (cVar 4) (cCons (cB (cCons (cVar 13) cNil) oTuple) cNil)))) (cTup (cCons (cC (.str "TooMany")) (cCons (cC (.int 9999)) cNil))) (oEq true))) (cRet (cC (.bl false))) cSkip)
  (cFor (iSeq (cLst (cCons (c2 (cVar 13) (cLst (cCons (cC (.int 0)) cNil)) oAdd) (cCons (cSlice (cVar 13) oNone (oSome (cNeg (cC (.int 1))))) (cCons (cLst cNil) (cCons (cSlice (cVar 6) oNone (oSome (cNeg (cC (.int 1))))) (cCons (cSlice (cVar 6) (oSome (cC (.int 1))) oNone) cNil))))))) (.one 14) (cIf (cAnd (cTest (c2 (cB (cCons (cVar 14) cNil) oLen) (cB (cCons (cVar 4) cNil) oLen) (oEq true))) (cTest (c2 (cCall 3 (cf_l_late K g) (cCons (cVar 5) (cCons (cVar 4) (cCons (cB (cCons (cVar 14) cNil) oTuple) cNil)))) (cTup (cCons (cC (.str "BadSplit")) cNil)) (oEq true)))) (cRet (cC (.bl false))) cSkip)))))) cSkip)
  (cRet (c2 (cCall 3 (cf_l_late K g) (cCons (cVar 5) (cCons (cVar 4) (cCons (cB (cCons (cVar 6) cNil) oTuple) cNil)))) (cTup (cCons (cC (.str "runs")) (cCons (cVar 7) cNil))) (oEq false)))))))))))))))))
def cf_law (K : PySem.W.Frag) (g : Cs) : CF := cfOf 16 (R_law K g)
end
abbrev s_line_of : Stmt := top 6
abbrev N_line_of : List Str := ["city", "name", "line"]
theorem sc_line_of : FnScope N_line_of ["city", "name"] (defScope s_line_of) := ⟨rfl, rfl, rfl, by decide +kernel, rfl, by decide +kernel, by decide +kernel⟩
abbrev s_visits_of : Stmt := top 8
abbrev N_visits_of : List Str := ["city", "run", "stops", "line", "way", "first", "step", "at"]
theorem sc_visits_of : FnScope N_visits_of ["city", "run"] (defScope s_visits_of) := ⟨rfl, rfl, rfl, by decide +kernel, rfl, by decide +kernel, by decide +kernel⟩
abbrev s_check_end : Stmt := top 9
abbrev N_check_end : List Str := ["city", "run"]
theorem sc_check_end : FnScope N_check_end ["city", "run"] (defScope s_check_end) := ⟨rfl, rfl, rfl, by decide +kernel, rfl, by decide +kernel, by decide +kernel⟩
abbrev s_late_runs : Stmt := top 10
abbrev N_late_runs : List Str := ["city", "runs", "delays", "late", "at", "run", "line", "way", "first", "step"]
theorem sc_late_runs : FnScope N_late_runs ["city", "runs", "delays"] (defScope s_late_runs) := ⟨rfl, rfl, rfl, by decide +kernel, rfl, by decide +kernel, by decide +kernel⟩
abbrev s_l_draws : Stmt := top 12
abbrev N_l_draws : List Str := ["script", "k", "sizes", "cell", "draws", "mixed", "at", "size", "other"]
theorem sc_l_draws : FnScope N_l_draws ["script", "k", "sizes"] (defScope s_l_draws) := ⟨rfl, rfl, rfl, by decide +kernel, rfl, by decide +kernel, by decide +kernel⟩
abbrev s_l_word : Stmt := top 13
abbrev N_l_word : List Str := ["first", "number", "tail", "letters", "tails"]
theorem sc_l_word : FnScope N_l_word ["first", "number", "tail"] (defScope s_l_word) := ⟨rfl, rfl, rfl, by decide +kernel, rfl, by decide +kernel, by decide +kernel⟩
abbrev s_l_is_number : Stmt := top 14
abbrev N_l_is_number : List Str := ["told"]
theorem sc_l_is_number : FnScope N_l_is_number ["told"] (defScope s_l_is_number) := ⟨rfl, rfl, rfl, by decide +kernel, rfl, by decide +kernel, by decide +kernel⟩
abbrev s_l_city : Stmt := top 15
abbrev N_l_city : List Str := ["script", "k", "head", "many", "count", "draws", "stops", "j", "lines", "at", "left", "path", "i", "name", "stop"]
theorem sc_l_city : FnScope N_l_city ["script", "k"] (defScope s_l_city) := ⟨rfl, rfl, rfl, by decide +kernel, rfl, by decide +kernel, by decide +kernel⟩
abbrev s_l_runs : Stmt := top 16
abbrev N_l_runs : List Str := ["script", "k", "lines", "limit", "many", "draws", "runs", "last", "j", "shift", "at", "line", "run"]
theorem sc_l_runs : FnScope N_l_runs ["script", "k", "lines", "limit"] (defScope s_l_runs) := ⟨rfl, rfl, rfl, by decide +kernel, rfl, by decide +kernel, by decide +kernel⟩
abbrev s_l_are_runs : Stmt := top 17
abbrev N_l_are_runs : List Str := ["told", "run"]
theorem sc_l_are_runs : FnScope N_l_are_runs ["told"] (defScope s_l_are_runs) := ⟨rfl, rfl, rfl, by decide +kernel, rfl, by decide +kernel, by decide +kernel⟩
abbrev s_l_visits : Stmt := top 18
abbrev N_l_visits : List Str := ["city", "run", "path", "line", "j"]
theorem sc_l_visits : FnScope N_l_visits ["city", "run"] (defScope s_l_visits) := ⟨rfl, rfl, rfl, by decide +kernel, rfl, by decide +kernel, by decide +kernel⟩
abbrev s_l_are_visits : Stmt := top 19
abbrev N_l_are_visits : List Str := ["told", "visit"]
theorem sc_l_are_visits : FnScope N_l_are_visits ["told"] (defScope s_l_are_visits) := ⟨rfl, rfl, rfl, by decide +kernel, rfl, by decide +kernel, by decide +kernel⟩
abbrev s_l_late : Stmt := top 20
abbrev N_l_late : List Str := ["city", "runs", "delays", "e", "told"]
theorem sc_l_late : FnScope N_l_late ["city", "runs", "delays"] (defScope s_l_late) := ⟨rfl, rfl, rfl, by decide +kernel, rfl, by decide +kernel, by decide +kernel⟩
abbrev s_l_delays : Stmt := top 21
abbrev N_l_delays : List Str := ["script", "k", "city", "runs", "draws", "delays", "j", "left", "kind", "delay"]
theorem sc_l_delays : FnScope N_l_delays ["script", "k", "city", "runs"] (defScope s_l_delays) := ⟨rfl, rfl, rfl, by decide +kernel, rfl, by decide +kernel, by decide +kernel⟩
abbrev s_l_added : Stmt := top 22
abbrev N_l_added : List Str := ["runs", "delays", "late", "j"]
theorem sc_l_added : FnScope N_l_added ["runs", "delays"] (defScope s_l_added) := ⟨rfl, rfl, rfl, by decide +kernel, rfl, by decide +kernel, by decide +kernel⟩
abbrev s_law : Stmt := top 23
abbrev N_law : List Str := ["script", "tariff", "draws", "limit", "runs", "city", "delays", "late", "run", "parts", "part", "told", "place", "beyond", "wrong", "j"]
theorem sc_law : FnScope N_law ["script"] (defScope s_law) := ⟨rfl, rfl, rfl, by decide +kernel, rfl, by decide +kernel, by decide +kernel⟩
/-- what the top has left -/
structure Tx (K : PySem.W.Frag) (mg : Str → Option Value) (g : Cs) where
  a_line_of : Addr
  d_line_of : FuncData
  F_line_of : FunD K "line_of" "line_of" (defArgs s_line_of) (defBody s_line_of) (defScope s_line_of) [] [] a_line_of d_line_of
  g_line_of : mg "line_of" = some (.ref a_line_of)
  bd_line_of : Binds K d_line_of ["city", "name"] []
  a_visits_of : Addr
  d_visits_of : FuncData
  F_visits_of : FunD K "visits_of" "visits_of" (defArgs s_visits_of) (defBody s_visits_of) (defScope s_visits_of) [] [] a_visits_of d_visits_of
  g_visits_of : mg "visits_of" = some (.ref a_visits_of)
  bd_visits_of : Binds K d_visits_of ["city", "run"] []
  a_check_end : Addr
  d_check_end : FuncData
  F_check_end : FunD K "check_end" "check_end" (defArgs s_check_end) (defBody s_check_end) (defScope s_check_end) [] [] a_check_end d_check_end
  g_check_end : mg "check_end" = some (.ref a_check_end)
  bd_check_end : Binds K d_check_end ["city", "run"] []
  a_late_runs : Addr
  d_late_runs : FuncData
  F_late_runs : FunD K "late_runs" "late_runs" (defArgs s_late_runs) (defBody s_late_runs) (defScope s_late_runs) [] [] a_late_runs d_late_runs
  g_late_runs : mg "late_runs" = some (.ref a_late_runs)
  bd_late_runs : Binds K d_late_runs ["city", "runs", "delays"] []
  a_l_draws : Addr
  d_l_draws : FuncData
  F_l_draws : FunD K "_law_draws" "_law_draws" (defArgs s_l_draws) (defBody s_l_draws) (defScope s_l_draws) [] [] a_l_draws d_l_draws
  g_l_draws : mg "_law_draws" = some (.ref a_l_draws)
  bd_l_draws : Binds K d_l_draws ["script", "k", "sizes"] []
  a_l_word : Addr
  d_l_word : FuncData
  F_l_word : FunD K "_law_word" "_law_word" (defArgs s_l_word) (defBody s_l_word) (defScope s_l_word) [] [] a_l_word d_l_word
  g_l_word : mg "_law_word" = some (.ref a_l_word)
  bd_l_word : Binds K d_l_word ["first", "number", "tail"] []
  a_l_is_number : Addr
  d_l_is_number : FuncData
  F_l_is_number : FunD K "_law_is_number" "_law_is_number" (defArgs s_l_is_number) (defBody s_l_is_number) (defScope s_l_is_number) [] [] a_l_is_number d_l_is_number
  g_l_is_number : mg "_law_is_number" = some (.ref a_l_is_number)
  bd_l_is_number : Binds K d_l_is_number ["told"] []
  a_l_city : Addr
  d_l_city : FuncData
  F_l_city : FunD K "_law_city" "_law_city" (defArgs s_l_city) (defBody s_l_city) (defScope s_l_city) [] [] a_l_city d_l_city
  g_l_city : mg "_law_city" = some (.ref a_l_city)
  bd_l_city : Binds K d_l_city ["script", "k"] []
  a_l_runs : Addr
  d_l_runs : FuncData
  F_l_runs : FunD K "_law_runs" "_law_runs" (defArgs s_l_runs) (defBody s_l_runs) (defScope s_l_runs) [] [] a_l_runs d_l_runs
  g_l_runs : mg "_law_runs" = some (.ref a_l_runs)
  bd_l_runs : Binds K d_l_runs ["script", "k", "lines", "limit"] []
  a_l_are_runs : Addr
  d_l_are_runs : FuncData
  F_l_are_runs : FunD K "_law_are_runs" "_law_are_runs" (defArgs s_l_are_runs) (defBody s_l_are_runs) (defScope s_l_are_runs) [] [] a_l_are_runs d_l_are_runs
  g_l_are_runs : mg "_law_are_runs" = some (.ref a_l_are_runs)
  bd_l_are_runs : Binds K d_l_are_runs ["told"] []
  a_l_visits : Addr
  d_l_visits : FuncData
  F_l_visits : FunD K "_law_visits" "_law_visits" (defArgs s_l_visits) (defBody s_l_visits) (defScope s_l_visits) [] [] a_l_visits d_l_visits
  g_l_visits : mg "_law_visits" = some (.ref a_l_visits)
  bd_l_visits : Binds K d_l_visits ["city", "run"] []
  a_l_are_visits : Addr
  d_l_are_visits : FuncData
  F_l_are_visits : FunD K "_law_are_visits" "_law_are_visits" (defArgs s_l_are_visits) (defBody s_l_are_visits) (defScope s_l_are_visits) [] [] a_l_are_visits d_l_are_visits
  g_l_are_visits : mg "_law_are_visits" = some (.ref a_l_are_visits)
  bd_l_are_visits : Binds K d_l_are_visits ["told"] []
  a_l_late : Addr
  d_l_late : FuncData
  F_l_late : FunD K "_law_late" "_law_late" (defArgs s_l_late) (defBody s_l_late) (defScope s_l_late) [] [] a_l_late d_l_late
  g_l_late : mg "_law_late" = some (.ref a_l_late)
  bd_l_late : Binds K d_l_late ["city", "runs", "delays"] []
  a_l_delays : Addr
  d_l_delays : FuncData
  F_l_delays : FunD K "_law_delays" "_law_delays" (defArgs s_l_delays) (defBody s_l_delays) (defScope s_l_delays) [] [] a_l_delays d_l_delays
  g_l_delays : mg "_law_delays" = some (.ref a_l_delays)
  bd_l_delays : Binds K d_l_delays ["script", "k", "city", "runs"] []
  a_l_added : Addr
  d_l_added : FuncData
  F_l_added : FunD K "_law_added" "_law_added" (defArgs s_l_added) (defBody s_l_added) (defScope s_l_added) [] [] a_l_added d_l_added
  g_l_added : mg "_law_added" = some (.ref a_l_added)
  bd_l_added : Binds K d_l_added ["runs", "delays"] []
  a_law : Addr
  d_law : FuncData
  F_law : FunD K "law" "law" (defArgs s_law) (defBody s_law) (defScope s_law) [] [] a_law d_law
  g_law : mg "law" = some (.ref a_law)
  bd_law : Binds K d_law ["script"] []
  b_ValueError : mg "ValueError" = none
  b_bool : mg "bool" = none
  b_int : mg "int" = none
  b_isinstance : mg "isinstance" = none
  b_len : mg "len" = none
  b_list : mg "list" = none
  b_max : mg "max" = none
  b_min : mg "min" = none
  b_range : mg "range" = none
  b_str : mg "str" = none
  b_tuple : mg "tuple" = none
  t_MOST_TIME : Tok
  k_MOST_TIME : mg "MOST_TIME" = some (.int 9999 t_MOST_TIME)
  e_FareError : mg "FareError" = some (.ref g.FareError)
  e_TooMany : mg "TooMany" = some (.ref g.TooMany)
  e_BadSplit : mg "BadSplit" = some (.ref g.BadSplit)
  i_TooMany : Addr
  x_TooMany : XcT Pr K mg "TooMany" g.TooMany i_TooMany ["limit"]
  f_TooMany : XfC K g.TooMany
  a_TooMany_limit : PySem.W.findIn K (.ref g.TooMany) "limit" = some none
  i_BadSplit : Addr
  x_BadSplit : XcT Pr K mg "BadSplit" g.BadSplit i_BadSplit []
  f_BadSplit : XfC K g.BadSplit
section
variable {w : World} {K : PySem.W.Frag} {mg : Str → Option Value} {base : Heap} {g : Cs}
theorem ok_line_of (T : Tx K mg g) : FnOk Pr w K mg base (L2N.CX Pr w) 1 T.a_line_of T.d_line_of ["city", "name"] (spC K 2 (cf_line_of K g)) :=
  fok (k := 0) T.F_line_of sc_line_of fun cdv A outer s H E hr => (css_cons (cs_for (passes_of rfl) rfl (ci_seq (ce_ix (ce_var 0) ce_int)) (pg_one 2 sc_line_of.nd) (css_one (cs_if (ct_eq hr (ce_ix (ce_var 2) ce_int) (ce_var 1)) (css_one (cs_ret (ce_var 2))) css_nil)))
  (css_one (cs_ret ce_non)))
theorem ok_visits_of (T : Tx K mg g) : FnOk Pr w K mg base (L2N.CX Pr w) 2 T.a_visits_of T.d_visits_of ["city", "run"] (spC K 2 (cf_visits_of K g)) :=
  fok (k := 1) T.F_visits_of sc_visits_of fun cdv A outer s H E hr => (css_cons (cs_asg (ce_var 1) (cg_tup rfl (cgs_cons 3 sc_visits_of.nd (cgs_cons 4 sc_visits_of.nd (cgs_cons 5 sc_visits_of.nd (cgs_cons 6 sc_visits_of.nd cgs_nil))))))
  (css_cons (cs_set 2 sc_visits_of.nd (ce_ix (ce_call (ok_line_of T) (hr.mono (by decide)) T.g_line_of T.F_line_of.kp T.bd_line_of (ca_cons (ce_var 0) (ca_cons (ce_var 3) ca_nil))) ce_int))
  (css_cons (cs_if (ct_eq hr (ce_var 4) (ce_str)) (css_one (cs_set 2 sc_visits_of.nd (ce_rev (ce_var 2)))) css_nil)
  (css_one (cs_ret (ce_callTy call_tuple_of sim_tuple T.b_tuple (by decide +kernel) (ca_cons (ce_comp (own := [("at", 7)]) (g := (.one 7)) (bN := N_visits_of) (bs := defScope s_visits_of) rfl sc_visits_of.nd (ci_range1 T.b_range (ce_callB call_len sim_len T.b_len (by decide +kernel) (ca_cons (ce_var 2) ca_nil))) (by decide +kernel) (by decide) (fun _ _ _ _ _ => (pg_one 7 sc_visits_of.nd)) (fun _ _ _ _ _ => cif_nil) (fun _ _ _ _ _ => (ce_tup (ca_cons (ce_ix (ce_var 2) (ce_var 7)) (ca_cons (ce_add (ce_var 5) (ce_mul (ce_var 6) (ce_var 7))) ca_nil))))) ca_nil)))))))
theorem ok_check_end (T : Tx K mg g) : FnOk Pr w K mg base (L2N.CX Pr w) 3 T.a_check_end T.d_check_end ["city", "run"] (spC K 2 (cf_check_end K g)) :=
  fok (k := 2) T.F_check_end sc_check_end fun cdv A outer s H E hr => (css_one (cs_if (ct_gt (ce_ix (ce_ix (ce_call (ok_visits_of T) (hr.mono (by decide)) T.g_visits_of T.F_visits_of.kp T.bd_visits_of (ca_cons (ce_var 0) (ca_cons (ce_var 1) ca_nil))) (ce_neg ce_int)) ce_int) (ce_glob (v := .int 9999) rfl T.k_MOST_TIME ⟨_, rfl⟩ fun _ => Rl.int)) (css_one (cs_raise rfl T.x_TooMany (hr.mono (by decide) : Room (0 + 1) _) (ca_cons (ce_glob (v := .int 9999) rfl T.k_MOST_TIME ⟨_, rfl⟩ fun _ => Rl.int) ca_nil))) css_nil))
theorem ok_late_runs (T : Tx K mg g) : FnOk Pr w K mg base (L2N.CX Pr w) 4 T.a_late_runs T.d_late_runs ["city", "runs", "delays"] (spC K 3 (cf_late_runs K g)) :=
  fok (k := 3) T.F_late_runs sc_late_runs fun cdv A outer s H E hr => (css_cons (cs_if (ct_ne hr (ce_callB call_len sim_len T.b_len (by decide +kernel) (ca_cons (ce_var 2) ca_nil)) (ce_callB call_len sim_len T.b_len (by decide +kernel) (ca_cons (ce_var 1) ca_nil))) (css_one (cs_raise0 rfl T.x_BadSplit (hr.mono (by decide) : Room (0 + 1) _))) css_nil)
  (css_cons (cs_set 3 sc_late_runs.nd (ce_lst ca_nil))
  (css_cons (cs_for (passes_of rfl) rfl (ci_range1 T.b_range (ce_callB call_len sim_len T.b_len (by decide +kernel) (ca_cons (ce_var 1) ca_nil))) (pg_one 4 sc_late_runs.nd) (css_cons (cs_asg (ce_ix (ce_var 1) (ce_var 4)) (cg_tup rfl (cgs_cons 6 sc_late_runs.nd (cgs_cons 7 sc_late_runs.nd (cgs_cons 8 sc_late_runs.nd (cgs_cons 9 sc_late_runs.nd cgs_nil))))))
  (css_one (cs_expr (ce_meth (by decide) PySem.F.plainAttrs_list PySem.F.slot_list_append PySem.F.type_list_append mt_append sim_append (ce_var 3) (ca_cons (ce_tup (ca_cons (ce_var 6) (ca_cons (ce_var 7) (ca_cons (ce_add (ce_var 8) (ce_ix (ce_var 2) (ce_var 4))) (ca_cons (ce_var 9) ca_nil))))) ca_nil))))))
  (css_cons (cs_for (passes_of rfl) rfl (ci_seq (ce_var 3)) (pg_one 5 sc_late_runs.nd) (css_one (cs_expr (ce_call (ok_check_end T) (hr.mono (by decide)) T.g_check_end T.F_check_end.kp T.bd_check_end (ca_cons (ce_var 0) (ca_cons (ce_var 5) ca_nil))))))
  (css_one (cs_ret (ce_callTy call_tuple_of sim_tuple T.b_tuple (by decide +kernel) (ca_cons (ce_var 3) ca_nil))))))))
theorem ok_l_draws (T : Tx K mg g) : FnOk Pr w K mg base (L2N.CX Pr w) 1 T.a_l_draws T.d_l_draws ["script", "k", "sizes"] (spC K 3 (cf_l_draws K g)) :=
  fok (k := 0) T.F_l_draws sc_l_draws fun cdv A outer s H E hr => (css_cons (cs_set 3 sc_l_draws.nd ce_int)
  (css_cons (cs_if (ct_lt (ce_var 1) (ce_callB call_len sim_len T.b_len (by decide +kernel) (ca_cons (ce_var 0) ca_nil))) (css_one (cs_set 3 sc_l_draws.nd (ce_callTy call_int1 sim_int1 T.b_int (by decide +kernel) (ca_cons (ce_ix (ce_var 0) (ce_var 1)) ca_nil)))) css_nil)
  (css_cons (cs_set 4 sc_l_draws.nd (ce_lst ca_nil))
  (css_cons (cs_if (ct_ge (ce_var 3) (ce_pow ce_int ce_int)) (css_cons (cs_for (passes_of rfl) rfl (ci_seq (ce_var 2)) (pg_one 7 sc_l_draws.nd) (css_cons (cs_expr (ce_meth (by decide) PySem.F.plainAttrs_list PySem.F.slot_list_append PySem.F.type_list_append mt_append sim_append (ce_var 4) (ca_cons (ce_mod (ce_callTy call_int1 sim_int1 T.b_int (by decide +kernel) (ca_cons (ce_var 3) ca_nil)) (ce_var 7)) ca_nil)))
  (css_one (cs_set 3 sc_l_draws.nd (ce_div (ce_var 3) (ce_var 7))))))
  (css_one (cs_ret (ce_var 4)))) css_nil)
  (css_cons (cs_set 5 sc_l_draws.nd (ce_mod (ce_callTy call_int1 sim_int1 T.b_int (by decide +kernel) (ca_cons (ce_add (ce_var 3) (ce_mul ce_int (ce_var 1))) ca_nil)) ce_int))
  (css_cons (cs_for (passes_of rfl) rfl (ci_range1 T.b_range (ce_callB call_len sim_len T.b_len (by decide +kernel) (ca_cons (ce_var 2) ca_nil))) (pg_one 6 sc_l_draws.nd) (css_cons (cs_set 5 sc_l_draws.nd (ce_mod (ce_callTy call_int1 sim_int1 T.b_int (by decide +kernel) (ca_cons (ce_add (ce_add (ce_mul (ce_var 5) ce_int) (ce_mul ce_int (ce_var 6))) ce_int) ca_nil)) ce_int))
  (css_cons (cs_set 8 sc_l_draws.nd (ce_mod (ce_callTy call_int1 sim_int1 T.b_int (by decide +kernel) (ca_cons (ce_add (ce_add (ce_mul (ce_div (ce_var 5) ce_int) ce_int) (ce_mul ce_int (ce_var 6))) ce_int) ca_nil)) ce_int))
  (css_one (cs_expr (ce_meth (by decide) PySem.F.plainAttrs_list PySem.F.slot_list_append PySem.F.type_list_append mt_append sim_append (ce_var 4) (ca_cons (ce_mod (ce_callTy call_int1 sim_int1 T.b_int (by decide +kernel) (ca_cons (ce_var 8) ca_nil)) (ce_ix (ce_var 2) (ce_var 6))) ca_nil)))))))
  (css_one (cs_ret (ce_var 4)))))))))
theorem ok_l_word (T : Tx K mg g) : FnOk Pr w K mg base (L2N.CX Pr w) 1 T.a_l_word T.d_l_word ["first", "number", "tail"] (spC K 3 (cf_l_word K g)) :=
  fok (k := 0) T.F_l_word sc_l_word fun cdv A outer s H E hr => (css_cons (cs_set 3 sc_l_word.nd (ce_str))
  (css_cons (cs_set 4 sc_l_word.nd (ce_lst (ca_cons (ce_str) (ca_cons (ce_str) (ca_cons (ce_str) (ca_cons (ce_str) (ca_cons (ce_str) (ca_cons (ce_str) ca_nil))))))))
  (css_one (cs_ret (ce_add (ce_add (ce_ix (ce_var 3) (ce_mod (ce_callTy call_int1 sim_int1 T.b_int (by decide +kernel) (ca_cons (ce_var 0) ca_nil)) ce_int)) (ce_callTy call_str_int sim_str T.b_str (by decide +kernel) (ca_cons (ce_var 1) ca_nil))) (ce_ix (ce_var 4) (ce_mod (ce_callTy call_int1 sim_int1 T.b_int (by decide +kernel) (ca_cons (ce_var 2) ca_nil)) ce_int)))))))
theorem okH_l_is_number (T : Tx K mg g) : L2H.FnH Pr w K mg base (L2N.CX Pr w) 1 T.a_l_is_number T.d_l_is_number ["told"] (spC K 1 (cf_l_is_number K g)) :=
  fokH (k := 0) T.F_l_is_number sc_l_is_number fun cdv A outer s H E p hrH => (css_one (cs_ret (ce_and (ce_callB call_isi sim_isi T.b_isinstance (by decide +kernel) (ca_cons (ce_var 0) (ca_cons (ce_tyname T.b_int (by decide +kernel)) ca_nil))) (ce_one (ce_not (ce_callB call_isi sim_isi T.b_isinstance (by decide +kernel) (ca_cons (ce_var 0) (ca_cons (ce_tyname T.b_bool (by decide +kernel)) ca_nil))))))))
theorem ok_l_is_number (T : Tx K mg g) : FnOk Pr w K mg base (L2N.CX Pr w) 1 T.a_l_is_number T.d_l_is_number ["told"] (spC K 1 (cf_l_is_number K g)) :=
  fok (k := 0) T.F_l_is_number sc_l_is_number fun cdv A outer s H E hr => (css_one (cs_ret (ce_and (ce_callB call_isi sim_isi T.b_isinstance (by decide +kernel) (ca_cons (ce_var 0) (ca_cons (ce_tyname T.b_int (by decide +kernel)) ca_nil))) (ce_one (ce_not (ce_callB call_isi sim_isi T.b_isinstance (by decide +kernel) (ca_cons (ce_var 0) (ca_cons (ce_tyname T.b_bool (by decide +kernel)) ca_nil))))))))
theorem ok_l_city (T : Tx K mg g) : FnOk Pr w K mg base (L2N.CX Pr w) 2 T.a_l_city T.d_l_city ["script", "k"] (spC K 2 (cf_l_city K g)) :=
  fok (k := 1) T.F_l_city sc_l_city fun cdv A outer s H E hr => (css_cons (cs_set 2 sc_l_city.nd (ce_call (ok_l_draws T) (hr.mono (by decide)) T.g_l_draws T.F_l_draws.kp T.bd_l_draws (ca_cons (ce_var 0) (ca_cons (ce_var 1) (ca_cons (ce_lst (ca_cons ce_int (ca_cons ce_int ca_nil))) ca_nil)))))
  (css_cons (cs_set 3 sc_l_city.nd (ce_add ce_int (ce_ix (ce_var 2) ce_int)))
  (css_cons (cs_set 4 sc_l_city.nd (ce_add ce_int (ce_ix (ce_var 2) ce_int)))
  (css_cons (cs_set 5 sc_l_city.nd (ce_call (ok_l_draws T) (hr.mono (by decide)) T.g_l_draws T.F_l_draws.kp T.bd_l_draws (ca_cons (ce_var 0) (ca_cons (ce_var 1) (ca_cons (ce_add (ce_add (ce_lst (ca_cons ce_int (ca_cons ce_int ca_nil))) (ce_mul (ce_lst (ca_cons ce_int (ca_cons ce_int (ca_cons ce_int ca_nil)))) (ce_var 3))) (ce_mul (ce_lst (ca_cons ce_int (ca_cons ce_int (ca_cons ce_int (ca_cons ce_int (ca_cons ce_int (ca_cons ce_int (ca_cons ce_int (ca_cons ce_int (ca_cons ce_int ca_nil)))))))))) (ce_var 4))) ca_nil)))))
  (css_cons (cs_set 6 sc_l_city.nd (ce_lst ca_nil))
  (css_cons (cs_for (passes_of rfl) rfl (ci_range1 T.b_range (ce_var 3)) (pg_one 7 sc_l_city.nd) (css_cons (cs_set 9 sc_l_city.nd (ce_add ce_int (ce_mul ce_int (ce_var 7))))
  (css_one (cs_expr (ce_meth (by decide) PySem.F.plainAttrs_list PySem.F.slot_list_append PySem.F.type_list_append mt_append sim_append (ce_var 6) (ca_cons (ce_tup (ca_cons (ce_call (ok_l_word T) (hr.mono (by decide)) T.g_l_word T.F_l_word.kp T.bd_l_word (ca_cons (ce_ix (ce_var 5) (ce_var 9)) (ca_cons (ce_var 7) (ca_cons (ce_ix (ce_var 5) (ce_add (ce_var 9) ce_int)) ca_nil)))) (ca_cons (ce_ix (ce_lst (ca_cons ce_int (ca_cons ce_int (ca_cons ce_int (ca_cons ce_int (ca_cons ce_int (ca_cons ce_int (ca_cons ce_int (ca_cons ce_int ca_nil))))))))) (ce_ix (ce_var 5) (ce_add (ce_var 9) ce_int))) ca_nil))) ca_nil))))))
  (css_cons (cs_set 8 sc_l_city.nd (ce_lst ca_nil))
  (css_cons (cs_for (passes_of rfl) rfl (ci_range1 T.b_range (ce_var 4)) (pg_one 7 sc_l_city.nd) (css_cons (cs_set 9 sc_l_city.nd (ce_add (ce_add ce_int (ce_mul ce_int (ce_var 3))) (ce_mul ce_int (ce_var 7))))
  (css_cons (cs_setComp (own := [("stop", 14)]) (g := (.one 14)) (bN := N_l_city) (bs := defScope s_l_city) 10 rfl sc_l_city.nd (ci_seq (ce_var 6)) (by decide +kernel) (by decide) (fun _ _ _ _ _ => (pg_one 14 sc_l_city.nd)) (fun _ _ _ _ _ => cif_nil) (fun _ _ _ _ _ => (ce_ix (ce_var 14) ce_int)) (sw_true rfl rfl rfl (by decide +kernel)))
  (css_cons (cs_set 11 sc_l_city.nd (ce_lst ca_nil))
  (css_cons (cs_for (passes_of rfl) rfl (ci_range1 T.b_range (ce_add ce_int (ce_ix (ce_var 5) (ce_add (ce_var 9) ce_int)))) (pg_one 12 sc_l_city.nd) (css_one (cs_if (ct_gt (ce_callB call_len sim_len T.b_len (by decide +kernel) (ca_cons (ce_var 10) ca_nil)) ce_int) (css_one (cs_expr (ce_meth (by decide) PySem.F.plainAttrs_list PySem.F.slot_list_append PySem.F.type_list_append mt_append sim_append (ce_var 11) (ca_cons (ce_meth (by decide) PySem.F.plainAttrs_list PySem.F.slot_list_pop PySem.F.type_list_pop mt_popAt sim_popAt (ce_var 10) (ca_cons (ce_mod (ce_callTy call_int1 sim_int1 T.b_int (by decide +kernel) (ca_cons (ce_ix (ce_var 5) (ce_add (ce_add (ce_var 9) ce_int) (ce_var 12))) ca_nil)) (ce_callB call_len sim_len T.b_len (by decide +kernel) (ca_cons (ce_var 10) ca_nil))) ca_nil)) ca_nil)))) css_nil)))
  (css_cons (cs_set 13 sc_l_city.nd (ce_call (ok_l_word T) (hr.mono (by decide)) T.g_l_word T.F_l_word.kp T.bd_l_word (ca_cons (ce_ix (ce_var 5) (ce_var 9)) (ca_cons (ce_add ce_int (ce_var 7)) (ca_cons (ce_ix (ce_var 5) (ce_add (ce_var 9) ce_int)) ca_nil)))))
  (css_cons (cs_if (CWt.t (cw_and (ct_eq hr (ce_ix (ce_var 5) (ce_add (ce_var 9) ce_int)) ce_int) (cw_and1 (ct_lt (ce_var 7) ce_int)))) (css_one (cs_set 13 sc_l_city.nd (ce_ix (ce_ix (ce_var 6) (ce_var 7)) ce_int))) css_nil)
  (css_one (cs_expr (ce_meth (by decide) PySem.F.plainAttrs_list PySem.F.slot_list_append PySem.F.type_list_append mt_append sim_append (ce_var 8) (ca_cons (ce_tup (ca_cons (ce_var 13) (ca_cons (ce_call (ok_l_word T) (hr.mono (by decide)) T.g_l_word T.F_l_word.kp T.bd_l_word (ca_cons (ce_ix (ce_var 5) (ce_add (ce_var 9) ce_int)) (ca_cons (ce_add ce_int (ce_var 7)) (ca_cons (ce_ix (ce_var 5) (ce_var 9)) ca_nil)))) (ca_cons (ce_callTy call_tuple_of sim_tuple T.b_tuple (by decide +kernel) (ca_cons (ce_var 11) ca_nil)) ca_nil)))) ca_nil)))))))))))
  (css_one (cs_ret (ce_tup (ca_cons (ce_callTy call_tuple_of sim_tuple T.b_tuple (by decide +kernel) (ca_cons (ce_var 6) ca_nil)) (ca_cons (ce_callTy call_tuple_of sim_tuple T.b_tuple (by decide +kernel) (ca_cons (ce_var 8) ca_nil)) (ca_cons (ce_tup ca_nil) (ca_cons (ce_tup ca_nil) ca_nil)))))))))))))))
theorem ok_l_runs (T : Tx K mg g) : FnOk Pr w K mg base (L2N.CX Pr w) 2 T.a_l_runs T.d_l_runs ["script", "k", "lines", "limit"] (spC K 4 (cf_l_runs K g)) :=
  fok (k := 1) T.F_l_runs sc_l_runs fun cdv A outer s H E hr => (css_cons (cs_set 4 sc_l_runs.nd (ce_ix (ce_call (ok_l_draws T) (hr.mono (by decide)) T.g_l_draws T.F_l_draws.kp T.bd_l_draws (ca_cons (ce_var 0) (ca_cons (ce_var 1) (ca_cons (ce_lst (ca_cons (ce_add (ce_var 3) ce_int) ca_nil)) ca_nil)))) ce_int))
  (css_cons (cs_set 5 sc_l_runs.nd (ce_call (ok_l_draws T) (hr.mono (by decide)) T.g_l_draws T.F_l_draws.kp T.bd_l_draws (ca_cons (ce_var 0) (ca_cons (ce_var 1) (ca_cons (ce_add (ce_lst (ca_cons (ce_add (ce_var 3) ce_int) (ca_cons ce_int ca_nil))) (ce_mul (ce_lst (ca_cons ce_int (ca_cons ce_int (ca_cons ce_int (ca_cons ce_int ca_nil))))) (ce_var 4))) ca_nil)))))
  (css_cons (cs_set 6 sc_l_runs.nd (ce_lst ca_nil))
  (css_cons (cs_set 7 sc_l_runs.nd ce_int)
  (css_cons (cs_for (passes_of rfl) rfl (ci_range1 T.b_range (ce_var 4)) (pg_one 8 sc_l_runs.nd) (css_cons (cs_set 10 sc_l_runs.nd (ce_add ce_int (ce_mul ce_int (ce_var 8))))
  (css_cons (cs_set 11 sc_l_runs.nd (ce_ix (ce_var 2) (ce_mod (ce_callTy call_int1 sim_int1 T.b_int (by decide +kernel) (ca_cons (ce_ix (ce_var 5) (ce_var 10)) ca_nil)) (ce_callB call_len sim_len T.b_len (by decide +kernel) (ca_cons (ce_var 2) ca_nil)))))
  (css_cons (cs_expr (ce_meth (by decide) PySem.F.plainAttrs_list PySem.F.slot_list_append PySem.F.type_list_append mt_append sim_append (ce_var 6) (ca_cons (ce_tup (ca_cons (ce_ix (ce_var 11) ce_int) (ca_cons (ce_ix (ce_lst (ca_cons (ce_str) (ca_cons (ce_str) ca_nil))) (ce_ix (ce_var 5) (ce_add (ce_var 10) ce_int))) (ca_cons (ce_ix (ce_var 5) (ce_add (ce_var 10) ce_int)) (ca_cons (ce_add ce_int (ce_ix (ce_var 5) (ce_add (ce_var 10) ce_int))) ca_nil))))) ca_nil)))
  (css_one (cs_set 7 sc_l_runs.nd (ce_callB (call_max2 rfl) sim_two T.b_max (by decide +kernel) (ca_cons (ce_var 7) (ca_cons (ce_add (ce_ix (ce_var 5) (ce_add (ce_var 10) ce_int)) (ce_mul (ce_add ce_int (ce_ix (ce_var 5) (ce_add (ce_var 10) ce_int))) (ce_sub (ce_callB call_len sim_len T.b_len (by decide +kernel) (ca_cons (ce_ix (ce_var 11) ce_int) ca_nil)) ce_int))) ca_nil)))))))))
  (css_cons (cs_set 9 sc_l_runs.nd ce_int)
  (css_cons (cs_if (ct_eq hr (ce_ix (ce_var 5) ce_int) ce_int) (css_one (cs_set 9 sc_l_runs.nd (ce_sub ce_int (ce_var 7)))) css_nil)
  (css_one (cs_ret (ce_tup (ca_cons (ce_callTy call_tuple_of sim_tuple T.b_tuple (by decide +kernel) (ca_cons (ce_comp (own := [("run", 12)]) (g := (.one 12)) (bN := N_l_runs) (bs := defScope s_l_runs) rfl sc_l_runs.nd (ci_seq (ce_var 6)) (by decide +kernel) (by decide) (fun _ _ _ _ _ => (pg_one 12 sc_l_runs.nd)) (fun _ _ _ _ _ => cif_nil) (fun _ _ _ _ _ => (ce_tup (ca_cons (ce_ix (ce_var 12) ce_int) (ca_cons (ce_ix (ce_var 12) ce_int) (ca_cons (ce_add (ce_ix (ce_var 12) ce_int) (ce_var 9)) (ca_cons (ce_ix (ce_var 12) ce_int) ca_nil))))))) ca_nil)) (ca_cons (ce_var 9) ca_nil))))))))))))
theorem ok_l_are_runs (T : Tx K mg g) : FnOk Pr w K mg base (L2N.CX Pr w) 2 T.a_l_are_runs T.d_l_are_runs ["told"] (spC K 1 (cf_l_are_runs K g)) :=
  fok (k := 1) T.F_l_are_runs sc_l_are_runs fun cdv A outer s H E hr => (css_cons (cs_if (ct_not (ct_val (ce_callB call_isi sim_isi T.b_isinstance (by decide +kernel) (ca_cons (ce_var 0) (ca_cons (ce_tyname T.b_tuple (by decide +kernel)) ca_nil))))) (css_one (cs_ret ce_bl)) css_nil)
  (css_cons (cs_for (passes_of rfl) rfl (ci_seq (ce_var 0)) (pg_one 1 sc_l_are_runs.nd) (css_cons (cs_if (CWt.t (cw_or (ct_not (ct_val (ce_callB call_isi sim_isi T.b_isinstance (by decide +kernel) (ca_cons (ce_var 1) (ca_cons (ce_tyname T.b_tuple (by decide +kernel)) ca_nil))))) (cw_or1 (ct_ne hr (ce_callB call_len sim_len T.b_len (by decide +kernel) (ca_cons (ce_var 1) ca_nil)) ce_int)))) (css_one (cs_ret ce_bl)) css_nil)
  (css_cons (cs_if (CWt.t (cw_or (ct_not (ct_val (ce_callB call_isi sim_isi T.b_isinstance (by decide +kernel) (ca_cons (ce_ix (ce_var 1) ce_int) (ca_cons (ce_tyname T.b_str (by decide +kernel)) ca_nil))))) (cw_or1 (ct_not (ct_val (ce_callB call_isi sim_isi T.b_isinstance (by decide +kernel) (ca_cons (ce_ix (ce_var 1) ce_int) (ca_cons (ce_tyname T.b_str (by decide +kernel)) ca_nil)))))))) (css_one (cs_ret ce_bl)) css_nil)
  (css_one (cs_if (CWt.t (cw_or (ct_not (ct_val (ce_call (ok_l_is_number T) (hr.mono (by decide)) T.g_l_is_number T.F_l_is_number.kp T.bd_l_is_number (ca_cons (ce_ix (ce_var 1) ce_int) ca_nil)))) (cw_or1 (ct_not (ct_val (ce_call (ok_l_is_number T) (hr.mono (by decide)) T.g_l_is_number T.F_l_is_number.kp T.bd_l_is_number (ca_cons (ce_ix (ce_var 1) ce_int) ca_nil))))))) (css_one (cs_ret ce_bl)) css_nil)))))
  (css_one (cs_ret ce_bl))))
theorem ok_l_visits (T : Tx K mg g) : FnOk Pr w K mg base (L2N.CX Pr w) 1 T.a_l_visits T.d_l_visits ["city", "run"] (spC K 2 (cf_l_visits K g)) :=
  fok (k := 0) T.F_l_visits sc_l_visits fun cdv A outer s H E hr => (css_cons (cs_set 2 sc_l_visits.nd (ce_lst ca_nil))
  (css_cons (cs_for (passes_of rfl) rfl (ci_seq (ce_ix (ce_var 0) ce_int)) (pg_one 3 sc_l_visits.nd) (css_one (cs_if (ct_eq hr (ce_ix (ce_var 3) ce_int) (ce_ix (ce_var 1) ce_int)) (css_one (cs_set 2 sc_l_visits.nd (ce_callTy call_list_of sim_list T.b_list (by decide +kernel) (ca_cons (ce_ix (ce_var 3) ce_int) ca_nil)))) css_nil)))
  (css_cons (cs_if (ct_eq hr (ce_ix (ce_var 1) ce_int) (ce_str)) (css_one (cs_set 2 sc_l_visits.nd (ce_rev (ce_var 2)))) css_nil)
  (css_one (cs_ret (ce_callTy call_tuple_of sim_tuple T.b_tuple (by decide +kernel) (ca_cons (ce_comp (own := [("j", 4)]) (g := (.one 4)) (bN := N_l_visits) (bs := defScope s_l_visits) rfl sc_l_visits.nd (ci_range1 T.b_range (ce_callB call_len sim_len T.b_len (by decide +kernel) (ca_cons (ce_var 2) ca_nil))) (by decide +kernel) (by decide) (fun _ _ _ _ _ => (pg_one 4 sc_l_visits.nd)) (fun _ _ _ _ _ => cif_nil) (fun _ _ _ _ _ => (ce_tup (ca_cons (ce_ix (ce_var 2) (ce_var 4)) (ca_cons (ce_add (ce_ix (ce_var 1) ce_int) (ce_mul (ce_ix (ce_var 1) ce_int) (ce_var 4))) ca_nil))))) ca_nil)))))))
theorem ok_l_are_visits (T : Tx K mg g) : FnOk Pr w K mg base (L2N.CX Pr w) 2 T.a_l_are_visits T.d_l_are_visits ["told"] (spC K 1 (cf_l_are_visits K g)) :=
  fok (k := 1) T.F_l_are_visits sc_l_are_visits fun cdv A outer s H E hr => (css_cons (cs_if (ct_not (ct_val (ce_callB call_isi sim_isi T.b_isinstance (by decide +kernel) (ca_cons (ce_var 0) (ca_cons (ce_tyname T.b_tuple (by decide +kernel)) ca_nil))))) (css_one (cs_ret ce_bl)) css_nil)
  (css_cons (cs_for (passes_of rfl) rfl (ci_seq (ce_var 0)) (pg_one 1 sc_l_are_visits.nd) (css_cons (cs_if (CWt.t (cw_or (ct_not (ct_val (ce_callB call_isi sim_isi T.b_isinstance (by decide +kernel) (ca_cons (ce_var 1) (ca_cons (ce_tyname T.b_tuple (by decide +kernel)) ca_nil))))) (cw_or1 (ct_ne hr (ce_callB call_len sim_len T.b_len (by decide +kernel) (ca_cons (ce_var 1) ca_nil)) ce_int)))) (css_one (cs_ret ce_bl)) css_nil)
  (css_one (cs_if (CWt.t (cw_or (ct_not (ct_val (ce_callB call_isi sim_isi T.b_isinstance (by decide +kernel) (ca_cons (ce_ix (ce_var 1) ce_int) (ca_cons (ce_tyname T.b_str (by decide +kernel)) ca_nil))))) (cw_or1 (ct_not (ct_val (ce_call (ok_l_is_number T) (hr.mono (by decide)) T.g_l_is_number T.F_l_is_number.kp T.bd_l_is_number (ca_cons (ce_ix (ce_var 1) ce_int) ca_nil))))))) (css_one (cs_ret ce_bl)) css_nil))))
  (css_one (cs_ret ce_bl))))
theorem ok_l_late (T : Tx K mg g) : FnOk Pr w K mg base (L2N.CX Pr w) 5 T.a_l_late T.d_l_late ["city", "runs", "delays"] (spC K 3 (cf_l_late K g)) :=
  fok (k := 4) T.F_l_late sc_l_late fun cdv A outer s H E hr => (css_cons (cs_try rfl rfl sc_l_late.nd (fun pn xe pa => (css_one (cs_set 4 sc_l_late.nd (ce_call (ok_late_runs T) (hr.mono (by decide)) T.g_late_runs T.F_late_runs.kp T.bd_late_runs (ca_cons (ce_var 0) (ca_cons (ce_var 1) (ca_cons (ce_var 2) ca_nil))))))) (.named T.e_BadSplit rfl (by decide) rfl rfl (fun sa oe sC sd pn hz hf => (css_cons (cs_if (CWt.t (cw_and (ct_val (ce_callB (call_isS hz hf) sim_isS T.b_isinstance (by decide +kernel) (ca_cons (ce_var 3) (ca_cons (ce_glob (v := .ref g.FareError) rfl T.e_FareError rfl fun _ => Rl.rf) ca_nil)))) (cw_and (ct_val (ce_callB (call_isS hz hf) sim_isS T.b_isinstance (by decide +kernel) (ca_cons (ce_var 3) (ca_cons (ce_tyname T.b_ValueError (by decide +kernel)) ca_nil)))) (cw_and1 (ct_not (ct_val (ce_callB (call_isS hz hf) sim_isS T.b_isinstance (by decide +kernel) (ca_cons (ce_var 3) (ca_cons (ce_glob (v := .ref g.TooMany) rfl T.e_TooMany rfl fun _ => Rl.rf) ca_nil))))))))) (css_one (cs_ret (ce_tup (ca_cons (ce_str) ca_nil)))) css_nil)
  (css_one (cs_ret (ce_tup (ca_cons (ce_str) ca_nil)))))) (.named T.e_TooMany rfl (by decide) rfl rfl (fun sa oe sC sd pn hz hf => (css_cons (cs_if (CWt.t (cw_and (ct_val (ce_callB (call_isS hz hf) sim_isS T.b_isinstance (by decide +kernel) (ca_cons (ce_var 3) (ca_cons (ce_glob (v := .ref g.FareError) rfl T.e_FareError rfl fun _ => Rl.rf) ca_nil)))) (cw_and (ct_val (ce_callB (call_isS hz hf) sim_isS T.b_isinstance (by decide +kernel) (ca_cons (ce_var 3) (ca_cons (ce_tyname T.b_ValueError (by decide +kernel)) ca_nil)))) (cw_and1 (ct_val (ce_callH (okH_l_is_number T) (hot_room hr (by decide)) (hot_of hz hf) T.g_l_is_number T.F_l_is_number.kp T.bd_l_is_number (ca_cons (ce_xf T.f_TooMany T.a_TooMany_limit hz hf (ce_var 3)) ca_nil))))))) (css_one (cs_ret (ce_tup (ca_cons (ce_str) (ca_cons (ce_xf T.f_TooMany T.a_TooMany_limit hz hf (ce_var 3)) ca_nil))))) css_nil)
  (css_one (cs_ret (ce_tup (ca_cons (ce_str) ca_nil)))))) (.plain T.e_FareError rfl (by decide) (fun sa oe sC sd pn hz hf => (css_one (cs_ret (ce_tup (ca_cons (ce_str) ca_nil))))) .nil))))
  (css_cons (cs_if (ct_not (ct_val (ce_call (ok_l_are_runs T) (hr.mono (by decide)) T.g_l_are_runs T.F_l_are_runs.kp T.bd_l_are_runs (ca_cons (ce_var 4) ca_nil)))) (css_one (cs_ret (ce_tup (ca_cons (ce_str) ca_nil)))) css_nil)
  (css_one (cs_ret (ce_tup (ca_cons (ce_str) (ca_cons (ce_var 4) ca_nil)))))))
theorem ok_l_delays (T : Tx K mg g) : FnOk Pr w K mg base (L2N.CX Pr w) 2 T.a_l_delays T.d_l_delays ["script", "k", "city", "runs"] (spC K 4 (cf_l_delays K g)) :=
  fok (k := 1) T.F_l_delays sc_l_delays fun cdv A outer s H E hr => (css_cons (cs_set 4 sc_l_delays.nd (ce_call (ok_l_draws T) (hr.mono (by decide)) T.g_l_draws T.F_l_draws.kp T.bd_l_draws (ca_cons (ce_var 0) (ca_cons (ce_var 1) (ca_cons (ce_mul (ce_lst (ca_cons ce_int (ca_cons ce_int (ca_cons ce_int ca_nil)))) (ce_callB call_len sim_len T.b_len (by decide +kernel) (ca_cons (ce_var 3) ca_nil))) ca_nil)))))
  (css_cons (cs_set 5 sc_l_delays.nd (ce_lst ca_nil))
  (css_cons (cs_for (passes_of rfl) rfl (ci_range1 T.b_range (ce_callB call_len sim_len T.b_len (by decide +kernel) (ca_cons (ce_var 3) ca_nil))) (pg_one 6 sc_l_delays.nd) (css_cons (cs_set 7 sc_l_delays.nd (ce_sub ce_int (ce_ix (ce_ix (ce_call (ok_l_visits T) (hr.mono (by decide)) T.g_l_visits T.F_l_visits.kp T.bd_l_visits (ca_cons (ce_var 2) (ca_cons (ce_ix (ce_var 3) (ce_var 6)) ca_nil))) (ce_neg ce_int)) ce_int)))
  (css_cons (cs_set 8 sc_l_delays.nd (ce_ix (ce_var 4) (ce_mul ce_int (ce_var 6))))
  (css_cons (cs_set 9 sc_l_delays.nd ce_int)
  (css_cons (cs_if (ct_eq hr (ce_var 8) ce_int) (css_one (cs_set 9 sc_l_delays.nd (ce_callB (call_min2 rfl) sim_two T.b_min (by decide +kernel) (ca_cons (ce_var 7) (ca_cons (ce_ix (ce_var 4) (ce_add (ce_mul ce_int (ce_var 6)) ce_int)) ca_nil))))) (css_one (cs_if (ct_eq hr (ce_var 8) ce_int) (css_one (cs_set 9 sc_l_delays.nd (ce_var 7))) (css_one (cs_if (ct_eq hr (ce_var 8) ce_int) (css_one (cs_set 9 sc_l_delays.nd (ce_mod (ce_callTy call_int1 sim_int1 T.b_int (by decide +kernel) (ca_cons (ce_ix (ce_var 4) (ce_add (ce_mul ce_int (ce_var 6)) ce_int)) ca_nil)) (ce_add (ce_var 7) ce_int)))) css_nil)))))
  (css_one (cs_expr (ce_meth (by decide) PySem.F.plainAttrs_list PySem.F.slot_list_append PySem.F.type_list_append mt_append sim_append (ce_var 5) (ca_cons (ce_var 9) ca_nil)))))))))
  (css_one (cs_ret (ce_var 5))))))
theorem ok_l_added (T : Tx K mg g) : FnOk Pr w K mg base (L2N.CX Pr w) 1 T.a_l_added T.d_l_added ["runs", "delays"] (spC K 2 (cf_l_added K g)) :=
  fok (k := 0) T.F_l_added sc_l_added fun cdv A outer s H E hr => (css_cons (cs_set 2 sc_l_added.nd (ce_lst ca_nil))
  (css_cons (cs_for (passes_of rfl) rfl (ci_range1 T.b_range (ce_callB call_len sim_len T.b_len (by decide +kernel) (ca_cons (ce_var 0) ca_nil))) (pg_one 3 sc_l_added.nd) (css_one (cs_expr (ce_meth (by decide) PySem.F.plainAttrs_list PySem.F.slot_list_append PySem.F.type_list_append mt_append sim_append (ce_var 2) (ca_cons (ce_tup (ca_cons (ce_ix (ce_ix (ce_var 0) (ce_var 3)) ce_int) (ca_cons (ce_ix (ce_ix (ce_var 0) (ce_var 3)) ce_int) (ca_cons (ce_add (ce_ix (ce_ix (ce_var 0) (ce_var 3)) ce_int) (ce_ix (ce_var 1) (ce_var 3))) (ca_cons (ce_ix (ce_ix (ce_var 0) (ce_var 3)) ce_int) ca_nil))))) ca_nil)))))
  (css_one (cs_ret (ce_callTy call_tuple_of sim_tuple T.b_tuple (by decide +kernel) (ca_cons (ce_var 2) ca_nil))))))
theorem ok_law (T : Tx K mg g) : FnOk Pr w K mg base (L2N.CX Pr w) 6 T.a_law T.d_law ["script"] (spC K 1 (cf_law K g)) :=
  fok (k := 5) T.F_law sc_law fun cdv A outer s H E hr => (css_cons (cs_set 1 sc_law.nd (ce_call (ok_l_city T) (hr.mono (by decide)) T.g_l_city T.F_l_city.kp T.bd_l_city (ca_cons (ce_var 0) (ca_cons ce_int ca_nil))))
  (css_cons (cs_set 2 sc_law.nd (ce_call (ok_l_draws T) (hr.mono (by decide)) T.g_l_draws T.F_l_draws.kp T.bd_l_draws (ca_cons (ce_var 0) (ca_cons ce_int (ca_cons (ce_lst (ca_cons ce_int (ca_cons ce_int (ca_cons ce_int ca_nil)))) ca_nil)))))
  (css_cons (cs_set 3 sc_law.nd ce_int)
  (css_cons (cs_set 4 sc_law.nd (ce_ix (ce_call (ok_l_runs T) (hr.mono (by decide)) T.g_l_runs T.F_l_runs.kp T.bd_l_runs (ca_cons (ce_var 0) (ca_cons ce_int (ca_cons (ce_ix (ce_var 1) ce_int) (ca_cons (ce_var 3) ca_nil))))) ce_int))
  (css_cons (cs_if (ct_eq hr (ce_ix (ce_var 2) ce_int) ce_int) (css_cons (cs_setComp (own := [("j", 15)]) (g := (.one 15)) (bN := N_law) (bs := defScope s_law) 9 rfl sc_law.nd (ci_range1 T.b_range ce_int) (by decide +kernel) (by decide) (fun _ _ _ _ _ => (pg_one 15 sc_law.nd)) (fun _ _ _ _ _ => cif_nil) (fun _ _ _ _ _ => (ce_ix (ce_call (ok_l_runs T) (hr.mono (by decide)) T.g_l_runs T.F_l_runs.kp T.bd_l_runs (ca_cons (ce_var 0) (ca_cons (ce_add ce_int (ce_var 15)) (ca_cons (ce_ix (ce_var 1) ce_int) (ca_cons (ce_var 3) ca_nil))))) ce_int)) (sw_true rfl rfl rfl (by decide +kernel)))
  (css_cons (cs_for (passes_of rfl) rfl (ci_seq (ce_var 9)) (pg_one 10 sc_law.nd) (css_one (cs_set 4 sc_law.nd (ce_add (ce_var 4) (ce_var 10)))))
  (css_one (cs_set 4 sc_law.nd (ce_slice (ce_var 4) co_none (co_some ce_int)))))) css_nil)
  (css_cons (cs_set 5 sc_law.nd (ce_tup (ca_cons (ce_ix (ce_var 1) ce_int) (ca_cons (ce_ix (ce_var 1) ce_int) ca_nil))))
  (css_cons (cs_if (ct_eq hr (ce_ix (ce_var 2) ce_int) ce_int) (css_one (cs_set 5 sc_law.nd (ce_var 1))) css_nil)
  (css_cons (cs_set 6 sc_law.nd (ce_call (ok_l_delays T) (hr.mono (by decide)) T.g_l_delays T.F_l_delays.kp T.bd_l_delays (ca_cons (ce_var 0) (ca_cons ce_int (ca_cons (ce_var 5) (ca_cons (ce_var 4) ca_nil))))))
  (css_cons (cs_set 7 sc_law.nd (ce_call (ok_l_added T) (hr.mono (by decide)) T.g_l_added T.F_l_added.kp T.bd_l_added (ca_cons (ce_var 4) (ca_cons (ce_var 6) ca_nil))))
  (css_cons (cs_if (ct_ne hr (ce_call (ok_l_late T) (hr.mono (by decide)) T.g_l_late T.F_l_late.kp T.bd_l_late (ca_cons (ce_var 5) (ca_cons (ce_var 4) (ca_cons (ce_callTy call_tuple_of sim_tuple T.b_tuple (by decide +kernel) (ca_cons (ce_var 6) ca_nil)) ca_nil)))) (ce_tup (ca_cons (ce_str) (ca_cons (ce_var 7) ca_nil)))) (css_one (cs_ret ce_bl)) css_nil)
  (css_cons (cs_if (ct_ne hr (ce_call (ok_l_late T) (hr.mono (by decide)) T.g_l_late T.F_l_late.kp T.bd_l_late (ca_cons (ce_var 5) (ca_cons (ce_var 4) (ca_cons (ce_callTy call_tuple_of sim_tuple T.b_tuple (by decide +kernel) (ca_cons (ce_comp (own := [("run", 8)]) (g := (.one 8)) (bN := N_law) (bs := defScope s_law) rfl sc_law.nd (ci_seq (ce_var 4)) (by decide +kernel) (by decide) (fun _ _ _ _ _ => (pg_one 8 sc_law.nd)) (fun _ _ _ _ _ => cif_nil) (fun _ _ _ _ _ => ce_int)) ca_nil)) ca_nil)))) (ce_tup (ca_cons (ce_str) (ca_cons (ce_var 4) ca_nil)))) (css_one (cs_ret ce_bl)) css_nil)
  (css_cons (cs_for (passes_of rfl) rfl (ci_seq (ce_add (ce_var 4) (ce_var 7))) (pg_one 8 sc_law.nd) (css_cons (cs_set 11 sc_law.nd (ce_call (ok_visits_of T) (hr.mono (by decide)) T.g_visits_of T.F_visits_of.kp T.bd_visits_of (ca_cons (ce_var 5) (ca_cons (ce_var 8) ca_nil))))
  (css_one (cs_if (CWt.t (cw_or (ct_not (ct_val (ce_call (ok_l_are_visits T) (hr.mono (by decide)) T.g_l_are_visits T.F_l_are_visits.kp T.bd_l_are_visits (ca_cons (ce_var 11) ca_nil)))) (cw_or1 (ct_ne hr (ce_var 11) (ce_call (ok_l_visits T) (hr.mono (by decide)) T.g_l_visits T.F_l_visits.kp T.bd_l_visits (ca_cons (ce_var 5) (ca_cons (ce_var 8) ca_nil))))))) (css_one (cs_ret ce_bl)) css_nil))))
  (css_cons (cs_if (ct_ne hr (ce_call (ok_l_late T) (hr.mono (by decide)) T.g_l_late T.F_l_late.kp T.bd_l_late (ca_cons (ce_var 5) (ca_cons (ce_var 4) (ca_cons (ce_callTy call_tuple_of sim_tuple T.b_tuple (by decide +kernel) (ca_cons (ce_add (ce_var 6) (ce_lst (ca_cons ce_int ca_nil))) ca_nil)) ca_nil)))) (ce_tup (ca_cons (ce_str) ca_nil))) (css_one (cs_ret ce_bl)) css_nil)
  (css_cons (cs_if (ct_gt (ce_callB call_len sim_len T.b_len (by decide +kernel) (ca_cons (ce_var 4) ca_nil)) ce_int) (css_cons (cs_set 12 sc_law.nd (ce_mod (ce_callTy call_int1 sim_int1 T.b_int (by decide +kernel) (ca_cons (ce_ix (ce_var 2) ce_int) ca_nil)) (ce_callB call_len sim_len T.b_len (by decide +kernel) (ca_cons (ce_var 4) ca_nil))))
  (css_cons (cs_set 13 sc_law.nd (ce_callTy call_list_of sim_list T.b_list (by decide +kernel) (ca_cons (ce_var 6) ca_nil)))
  (css_cons (cs_asg (ce_sub ce_int (ce_ix (ce_ix (ce_call (ok_l_visits T) (hr.mono (by decide)) T.g_l_visits T.F_l_visits.kp T.bd_l_visits (ca_cons (ce_var 5) (ca_cons (ce_ix (ce_var 4) (ce_var 12)) ca_nil))) (ce_neg ce_int)) ce_int)) (cg_ixL (ce_var 13) (ce_var 12)))
  (css_cons (cs_if (ct_ne hr (ce_call (ok_l_late T) (hr.mono (by decide)) T.g_l_late T.F_l_late.kp T.bd_l_late (ca_cons (ce_var 5) (ca_cons (ce_var 4) (ca_cons (ce_callTy call_tuple_of sim_tuple T.b_tuple (by decide +kernel) (ca_cons (ce_var 13) ca_nil)) ca_nil)))) (ce_tup (ca_cons (ce_str) (ca_cons ce_int ca_nil)))) (css_one (cs_ret ce_bl)) css_nil)
  (css_one (cs_for (passes_of rfl) rfl (ci_seq (ce_lst (ca_cons (ce_add (ce_var 13) (ce_lst (ca_cons ce_int ca_nil))) (ca_cons (ce_slice (ce_var 13) co_none (co_some (ce_neg ce_int))) (ca_cons (ce_lst ca_nil) (ca_cons (ce_slice (ce_var 6) co_none (co_some (ce_neg ce_int))) (ca_cons (ce_slice (ce_var 6) (co_some ce_int) co_none) ca_nil))))))) (pg_one 14 sc_law.nd) (css_one (cs_if (CWt.t (cw_and (ct_ne hr (ce_callB call_len sim_len T.b_len (by decide +kernel) (ca_cons (ce_var 14) ca_nil)) (ce_callB call_len sim_len T.b_len (by decide +kernel) (ca_cons (ce_var 4) ca_nil))) (cw_and1 (ct_ne hr (ce_call (ok_l_late T) (hr.mono (by decide)) T.g_l_late T.F_l_late.kp T.bd_l_late (ca_cons (ce_var 5) (ca_cons (ce_var 4) (ca_cons (ce_callTy call_tuple_of sim_tuple T.b_tuple (by decide +kernel) (ca_cons (ce_var 14) ca_nil)) ca_nil)))) (ce_tup (ca_cons (ce_str) ca_nil)))))) (css_one (cs_ret ce_bl)) css_nil)))))))) css_nil)
  (css_one (cs_ret (ce_eq hr (ce_call (ok_l_late T) (hr.mono (by decide)) T.g_l_late T.F_l_late.kp T.bd_l_late (ca_cons (ce_var 5) (ca_cons (ce_var 4) (ca_cons (ce_callTy call_tuple_of sim_tuple T.b_tuple (by decide +kernel) (ca_cons (ce_var 6) ca_nil)) ca_nil)))) (ce_tup (ca_cons (ce_str) (ca_cons (ce_var 7) ca_nil))))))))))))))))))))
end
end K61

/-! the head -/
namespace K61
open PySem PySem.Spec PyProof.Rows L2 CL CH He
def dd (x : Str) (i : Nat) : He.DefD := ⟨(x, none), x, x, defArgs (top i), defBody (top i), defScope (top i), [], []⟩
def initOf (s : Stmt) : Stmt := match s with
  | .ClassDef _ _ _ body _ _ _ _ _ _ _ => (body.filter fun t => match t with | .FunctionDef .. => true | _ => false).headD s
  | _ => s
def cdd (x q : Str) (i : Nat) (fs : List Str) : ExD := ⟨x, q, defArgs (initOf (top i)), defBody (initOf (top i)), defScope (initOf (top i)), fs⟩
def dfn : List He.DefD := [dd "line_of" 6, dd "visits_of" 8, dd "check_end" 9, dd "late_runs" 10, dd "_law_draws" 12, dd "_law_word" 13, dd "_law_is_number" 14, dd "_law_city" 15, dd "_law_runs" 16, dd "_law_are_runs" 17, dd "_law_visits" 18, dd "_law_are_visits" 19, dd "_law_late" 20, dd "_law_delays" 21, dd "_law_added" 22, dd "law" 23]
def dxs : List ExD := [cdd "TooMany" "TooMany.__init__" 2 ["limit"], cdd "BadSplit" "BadSplit.__init__" 3 []]
def dfa : List He.Fa := [.glo "line_of", .glo "visits_of", .glo "check_end", .glo "late_runs", .glo "_law_draws", .glo "_law_word", .glo "_law_is_number", .glo "_law_city", .glo "_law_runs", .glo "_law_are_runs", .glo "_law_visits", .glo "_law_are_visits", .glo "_law_late", .glo "_law_delays", .glo "_law_added", .glo "law", .glo "FareError", .glo "TooMany", .glo "BadSplit", .free "ValueError", .free "bool", .free "int", .free "isinstance", .free "len", .free "list", .free "max", .free "min", .free "range", .free "str", .free "tuple", .free "super", .int "MOST_TIME" 9999, .noat "TooMany" "limit", .exm "TooMany" "FareError" true, .exm "TooMany" "TooMany" true, .exm "TooMany" "BadSplit" false, .exm "BadSplit" "FareError" true, .exm "BadSplit" "TooMany" false, .exm "BadSplit" "BadSplit" true]
def dex : List (PySem.W.Frag → Bool) := [fun K => exB K Pr (cdd "TooMany" "TooMany.__init__" 2 ["limit"]),
  fun K => xfB K (ga K "TooMany"),
  fun K => xiB K (ga K "TooMany"),
  fun K => decide (PySem.W.kitOne K (.ref (ga K "TooMany")) (.ref (ga K "FareError")) = some true),
  fun K => decide (PySem.W.kitOne K (.ref (ga K "TooMany")) (.ref (ga K "TooMany")) = some true),
  fun K => decide (PySem.W.kitOne K (.ref (ga K "TooMany")) (.ref (ga K "BadSplit")) = some false),
  fun K => decide (PySem.W.kitOne K (.ref (ga K "TooMany")) (.type "ValueError") = some true),
  fun K => exB K Pr (cdd "BadSplit" "BadSplit.__init__" 3 []),
  fun K => xfB K (ga K "BadSplit"),
  fun K => xiB K (ga K "BadSplit"),
  fun K => decide (PySem.W.kitOne K (.ref (ga K "BadSplit")) (.ref (ga K "FareError")) = some true),
  fun K => decide (PySem.W.kitOne K (.ref (ga K "BadSplit")) (.ref (ga K "TooMany")) = some false),
  fun K => decide (PySem.W.kitOne K (.ref (ga K "BadSplit")) (.ref (ga K "BadSplit")) = some true),
  fun K => decide (PySem.W.kitOne K (.ref (ga K "BadSplit")) (.type "ValueError") = some true),
  fun K => noLst K]
abbrev R : PySem.W.OpenRow := PySem.W.OpenLaw.row PySem.Challenge.rw_roundsfare_k61_visits_and_late_runs
abbrev hk : PySem.W.Hook := hookC 4 dfa dfn dxs dex
def ob (s : PySem.W.SharedT) : AlC := obsCG 4 dfa dfn dxs dex (HandSHeadRun.getT s)
theorem ob_eq (s : PySem.W.SharedT) : ob s = hk.obs s.abs := obsCG_eq (HandSHeadRun.getT_eq s)
/-- what the plain proofs need of the classes -/
structure Px (K : PySem.W.Frag) (g : Cs) : Prop where
  xi_TooMany : XiC K g.TooMany
  xm_TooMany_FareError : PySem.W.exmOne K (.ref g.TooMany) (.ref g.FareError) = some true
  kt_TooMany_FareError : PySem.W.kitOne K (.ref g.TooMany) (.ref g.FareError) = some true
  xm_TooMany_TooMany : PySem.W.exmOne K (.ref g.TooMany) (.ref g.TooMany) = some true
  kt_TooMany_TooMany : PySem.W.kitOne K (.ref g.TooMany) (.ref g.TooMany) = some true
  xm_TooMany_BadSplit : PySem.W.exmOne K (.ref g.TooMany) (.ref g.BadSplit) = some false
  kt_TooMany_BadSplit : PySem.W.kitOne K (.ref g.TooMany) (.ref g.BadSplit) = some false
  kv_TooMany : PySem.W.kitOne K (.ref g.TooMany) (.type "ValueError") = some true
  xi_BadSplit : XiC K g.BadSplit
  xm_BadSplit_FareError : PySem.W.exmOne K (.ref g.BadSplit) (.ref g.FareError) = some true
  kt_BadSplit_FareError : PySem.W.kitOne K (.ref g.BadSplit) (.ref g.FareError) = some true
  xm_BadSplit_TooMany : PySem.W.exmOne K (.ref g.BadSplit) (.ref g.TooMany) = some false
  kt_BadSplit_TooMany : PySem.W.kitOne K (.ref g.BadSplit) (.ref g.TooMany) = some false
  xm_BadSplit_BadSplit : PySem.W.exmOne K (.ref g.BadSplit) (.ref g.BadSplit) = some true
  kt_BadSplit_BadSplit : PySem.W.kitOne K (.ref g.BadSplit) (.ref g.BadSplit) = some true
  kv_BadSplit : PySem.W.kitOne K (.ref g.BadSplit) (.type "ValueError") = some true
  triv : True := trivial
def gof (K : PySem.W.Frag) : Cs := ⟨ga K "FareError", ga K "TooMany", ga K "BadSplit"⟩
theorem px {K : PySem.W.Frag} (c : SaysC dfa dfn dxs dex K) : Px K (gof K) where
  xi_TooMany := xiB_ok (c.more 2)
  xm_TooMany_FareError := of_decide_eq_true (c.fact 33 (f := .exm "TooMany" "FareError" true))
  kt_TooMany_FareError := of_decide_eq_true (c.more 3)
  xm_TooMany_TooMany := of_decide_eq_true (c.fact 34 (f := .exm "TooMany" "TooMany" true))
  kt_TooMany_TooMany := of_decide_eq_true (c.more 4)
  xm_TooMany_BadSplit := of_decide_eq_true (c.fact 35 (f := .exm "TooMany" "BadSplit" false))
  kt_TooMany_BadSplit := of_decide_eq_true (c.more 5)
  kv_TooMany := of_decide_eq_true (c.more 6)
  xi_BadSplit := xiB_ok (c.more 9)
  xm_BadSplit_FareError := of_decide_eq_true (c.fact 36 (f := .exm "BadSplit" "FareError" true))
  kt_BadSplit_FareError := of_decide_eq_true (c.more 10)
  xm_BadSplit_TooMany := of_decide_eq_true (c.fact 37 (f := .exm "BadSplit" "TooMany" false))
  kt_BadSplit_TooMany := of_decide_eq_true (c.more 11)
  xm_BadSplit_BadSplit := of_decide_eq_true (c.fact 38 (f := .exm "BadSplit" "BadSplit" true))
  kt_BadSplit_BadSplit := of_decide_eq_true (c.more 12)
  kv_BadSplit := of_decide_eq_true (c.more 13)
theorem facts {K : PySem.W.Frag} {h : Heap} {mg : Str → Option Value} (X : K.In h) (G : h.Ns mainGlobals mg) (c : SaysC dfa dfn dxs dex K) : Nonempty (Tx K mg (gof K)) := by
  obtain ⟨fd0, F0⟩ := c.def_ 0 (d := dd "line_of" 6)
  obtain ⟨fd1, F1⟩ := c.def_ 1 (d := dd "visits_of" 8)
  obtain ⟨fd2, F2⟩ := c.def_ 2 (d := dd "check_end" 9)
  obtain ⟨fd3, F3⟩ := c.def_ 3 (d := dd "late_runs" 10)
  obtain ⟨fd4, F4⟩ := c.def_ 4 (d := dd "_law_draws" 12)
  obtain ⟨fd5, F5⟩ := c.def_ 5 (d := dd "_law_word" 13)
  obtain ⟨fd6, F6⟩ := c.def_ 6 (d := dd "_law_is_number" 14)
  obtain ⟨fd7, F7⟩ := c.def_ 7 (d := dd "_law_city" 15)
  obtain ⟨fd8, F8⟩ := c.def_ 8 (d := dd "_law_runs" 16)
  obtain ⟨fd9, F9⟩ := c.def_ 9 (d := dd "_law_are_runs" 17)
  obtain ⟨fd10, F10⟩ := c.def_ 10 (d := dd "_law_visits" 18)
  obtain ⟨fd11, F11⟩ := c.def_ 11 (d := dd "_law_are_visits" 19)
  obtain ⟨fd12, F12⟩ := c.def_ 12 (d := dd "_law_late" 20)
  obtain ⟨fd13, F13⟩ := c.def_ 13 (d := dd "_law_delays" 21)
  obtain ⟨fd14, F14⟩ := c.def_ 14 (d := dd "_law_added" 22)
  obtain ⟨fd15, F15⟩ := c.def_ 15 (d := dd "law" 23)
  have E_TooMany : ExAll Pr K (cdd "TooMany" "TooMany.__init__" 2 ["limit"]) := exB_ok (c.ini 0) (c.more 0)
  have T_TooMany := xcT1 E_TooMany (He.glo_ok X G (c.fact 17 (f := .glo "TooMany"))) (He.free_ok X G (c.fact 30 (f := .free "super"))) rfl rfl ⟨by decide +kernel, by decide +kernel, by decide +kernel, by decide +kernel, by decide +kernel, by decide +kernel, by decide +kernel, by decide +kernel⟩ (fun fI L cda cc => ⟨⟨_, rfl⟩, rfl, rfl, rfl⟩) (fun fI L cda cc => rfl) (fun s x v doc pm an cda ct cc => .of_eq rfl) ⟨_, rfl, rfl⟩ (by decide)
  have E_BadSplit : ExAll Pr K (cdd "BadSplit" "BadSplit.__init__" 3 []) := exB_ok (c.ini 1) (c.more 7)
  have T_BadSplit := xcT0 E_BadSplit (He.glo_ok X G (c.fact 18 (f := .glo "BadSplit"))) (He.free_ok X G (c.fact 30 (f := .free "super"))) rfl rfl ⟨by decide +kernel, by decide +kernel, by decide +kernel, by decide +kernel, by decide +kernel, by decide +kernel, by decide +kernel, by decide +kernel⟩ (fun fI L cda cc => ⟨⟨_, rfl⟩, rfl, rfl, rfl⟩) (fun s x doc pm an cda ct cc => .of_eq rfl) ⟨_, rfl, rfl⟩
  obtain ⟨t_MOST_TIME, k_MOST_TIME⟩ := He.int_ok X G (c.fact 31 (f := .int "MOST_TIME" 9999))
  exact ⟨{
    a_line_of := _, d_line_of := fd0, F_line_of := F0, g_line_of := He.glo_ok X G (c.fact 0 (f := .glo "line_of")), bd_line_of := F0.bindsN fun _ _ _ _ _ _ us hl => match us, hl with | [_, _], _ => rfl,
    a_visits_of := _, d_visits_of := fd1, F_visits_of := F1, g_visits_of := He.glo_ok X G (c.fact 1 (f := .glo "visits_of")), bd_visits_of := F1.bindsN fun _ _ _ _ _ _ us hl => match us, hl with | [_, _], _ => rfl,
    a_check_end := _, d_check_end := fd2, F_check_end := F2, g_check_end := He.glo_ok X G (c.fact 2 (f := .glo "check_end")), bd_check_end := F2.bindsN fun _ _ _ _ _ _ us hl => match us, hl with | [_, _], _ => rfl,
    a_late_runs := _, d_late_runs := fd3, F_late_runs := F3, g_late_runs := He.glo_ok X G (c.fact 3 (f := .glo "late_runs")), bd_late_runs := F3.bindsN fun _ _ _ _ _ _ us hl => match us, hl with | [_, _, _], _ => rfl,
    a_l_draws := _, d_l_draws := fd4, F_l_draws := F4, g_l_draws := He.glo_ok X G (c.fact 4 (f := .glo "_law_draws")), bd_l_draws := F4.bindsN fun _ _ _ _ _ _ us hl => match us, hl with | [_, _, _], _ => rfl,
    a_l_word := _, d_l_word := fd5, F_l_word := F5, g_l_word := He.glo_ok X G (c.fact 5 (f := .glo "_law_word")), bd_l_word := F5.bindsN fun _ _ _ _ _ _ us hl => match us, hl with | [_, _, _], _ => rfl,
    a_l_is_number := _, d_l_is_number := fd6, F_l_is_number := F6, g_l_is_number := He.glo_ok X G (c.fact 6 (f := .glo "_law_is_number")), bd_l_is_number := F6.bindsN fun _ _ _ _ _ _ us hl => match us, hl with | [_], _ => rfl,
    a_l_city := _, d_l_city := fd7, F_l_city := F7, g_l_city := He.glo_ok X G (c.fact 7 (f := .glo "_law_city")), bd_l_city := F7.bindsN fun _ _ _ _ _ _ us hl => match us, hl with | [_, _], _ => rfl,
    a_l_runs := _, d_l_runs := fd8, F_l_runs := F8, g_l_runs := He.glo_ok X G (c.fact 8 (f := .glo "_law_runs")), bd_l_runs := F8.bindsN fun _ _ _ _ _ _ us hl => match us, hl with | [_, _, _, _], _ => rfl,
    a_l_are_runs := _, d_l_are_runs := fd9, F_l_are_runs := F9, g_l_are_runs := He.glo_ok X G (c.fact 9 (f := .glo "_law_are_runs")), bd_l_are_runs := F9.bindsN fun _ _ _ _ _ _ us hl => match us, hl with | [_], _ => rfl,
    a_l_visits := _, d_l_visits := fd10, F_l_visits := F10, g_l_visits := He.glo_ok X G (c.fact 10 (f := .glo "_law_visits")), bd_l_visits := F10.bindsN fun _ _ _ _ _ _ us hl => match us, hl with | [_, _], _ => rfl,
    a_l_are_visits := _, d_l_are_visits := fd11, F_l_are_visits := F11, g_l_are_visits := He.glo_ok X G (c.fact 11 (f := .glo "_law_are_visits")), bd_l_are_visits := F11.bindsN fun _ _ _ _ _ _ us hl => match us, hl with | [_], _ => rfl,
    a_l_late := _, d_l_late := fd12, F_l_late := F12, g_l_late := He.glo_ok X G (c.fact 12 (f := .glo "_law_late")), bd_l_late := F12.bindsN fun _ _ _ _ _ _ us hl => match us, hl with | [_, _, _], _ => rfl,
    a_l_delays := _, d_l_delays := fd13, F_l_delays := F13, g_l_delays := He.glo_ok X G (c.fact 13 (f := .glo "_law_delays")), bd_l_delays := F13.bindsN fun _ _ _ _ _ _ us hl => match us, hl with | [_, _, _, _], _ => rfl,
    a_l_added := _, d_l_added := fd14, F_l_added := F14, g_l_added := He.glo_ok X G (c.fact 14 (f := .glo "_law_added")), bd_l_added := F14.bindsN fun _ _ _ _ _ _ us hl => match us, hl with | [_, _], _ => rfl,
    a_law := _, d_law := fd15, F_law := F15, g_law := He.glo_ok X G (c.fact 15 (f := .glo "law")), bd_law := F15.bindsN fun _ _ _ _ _ _ us hl => match us, hl with | [_], _ => rfl,
    b_ValueError := He.free_ok X G (c.fact 19 (f := .free "ValueError")),
    b_bool := He.free_ok X G (c.fact 20 (f := .free "bool")),
    b_int := He.free_ok X G (c.fact 21 (f := .free "int")),
    b_isinstance := He.free_ok X G (c.fact 22 (f := .free "isinstance")),
    b_len := He.free_ok X G (c.fact 23 (f := .free "len")),
    b_list := He.free_ok X G (c.fact 24 (f := .free "list")),
    b_max := He.free_ok X G (c.fact 25 (f := .free "max")),
    b_min := He.free_ok X G (c.fact 26 (f := .free "min")),
    b_range := He.free_ok X G (c.fact 27 (f := .free "range")),
    b_str := He.free_ok X G (c.fact 28 (f := .free "str")),
    b_tuple := He.free_ok X G (c.fact 29 (f := .free "tuple")),
    t_MOST_TIME := t_MOST_TIME, k_MOST_TIME := k_MOST_TIME,
    e_FareError := He.glo_ok X G (c.fact 16 (f := .glo "FareError")),
    e_TooMany := He.glo_ok X G (c.fact 17 (f := .glo "TooMany")),
    e_BadSplit := He.glo_ok X G (c.fact 18 (f := .glo "BadSplit")),
    i_TooMany := _, x_TooMany := T_TooMany, f_TooMany := xfB_ok (c.more 1),
    a_TooMany_limit := He.noat_ok (c.fact 32 (f := .noat "TooMany" "limit")),
    i_BadSplit := _, x_BadSplit := T_BadSplit, f_BadSplit := xfB_ok (c.more 8) }⟩
theorem run (w : World) : HandSHeadRun.RunEq R (PySem.W.view R.prog [23]) hk ob 20000 (["FareError", "TooMany", "BadSplit", "MOST_TIME", "line_of", "visits_of", "check_end", "late_runs", "_law_draws", "_law_word", "_law_is_number", "_law_city", "_law_runs", "_law_are_runs", "_law_visits", "_law_are_visits", "_law_late", "_law_delays", "_law_added"]) w := by
  intro os
  kernel_rfl
theorem law_holds (true_ : ∀ (K : PySem.W.Frag) (g : Cs), Px K g → ∀ (M : Mm) (a : Addr) (ns : List Int), ns.length ≤ 63 → (∀ z ∈ ns, Builtin.Int.intBits z ≤ 1048576) → M a = some (.rdl (ns.map D.int)) → cf_law K g [.ref a] M (fun d _ => d = .bl true) X0) : PySem.Challenge.rw_roundsfare_k61_visits_and_late_runs.Holds := by
  w_on; o_law
  refine HandSHeadRun.head_any (r := PySem.W.OpenLaw.row PySem.Challenge.rw_roundsfare_k61_visits_and_late_runs) (q := PySem.W.view (PySem.W.OpenLaw.row PySem.Challenge.rw_roundsfare_k61_visits_and_late_runs).prog [23]) (H := hk) (ob := ob) (M := 20000) (loose := ["FareError", "TooMany", "BadSplit", "MOST_TIME", "line_of", "visits_of", "check_end", "late_runs", "_law_draws", "_law_word", "_law_is_number", "_law_city", "_law_runs", "_law_are_runs", "_law_visits", "_law_are_visits", "_law_late", "_law_delays", "_law_added"]) (d := HandSHeadRun.topDef (PySem.W.OpenLaw.row PySem.Challenge.rw_roundsfare_k61_visits_and_late_runs).prog 23) (kwd := []) ob_eq
    (by kernel_rfl) (fun s => by kernel_rfl) run (by kernel_rfl) (by kernel_rfl) (by kernel_rfl) (by rfl) (by first | assumption | decide +kernel) (by decide +kernel) ⟨rfl, rfl, rfl, rfl, rfl, by decide +kernel⟩ ?hw ?hc
  case hw => w_witness2
  case hc =>
    refine CH.law_end (l := PySem.Challenge.rw_roundsfare_k61_visits_and_late_runs) (n := 63) (k := 6) (x := "script") rfl (by decide) (by kernel_rfl) ⟨rfl, by decide, by decide⟩ ?F
    intro w mg fa h Y G hmg0
    obtain ⟨K, KX, c⟩ := Y
    obtain ⟨T⟩ := facts KX G c
    have hmg : mg ("law" : PySem.Str) = some (.ref fa) := by
      have e : (HandSHeadRun.topDef (PySem.W.OpenLaw.row PySem.Challenge.rw_roundsfare_k61_visits_and_late_runs).prog 23).name = ("law" : PySem.Str) := by kernel_rfl
      rw [← e]
      exact hmg0
    have e := hmg.symm.trans T.g_law
    cases e
    have b := FunD.bindsA (ps := ["script"]) T.F_law fun _ _ _ _ _ _ us hl => match us, hl with | [_], _ => rfl
    exact ⟨K, T.d_law, cf_law K (gof K), KX, fun s v => b s [v] rfl, c.more 14, true_ K (gof K) (px c), fun base _ _ => ok_law T⟩
end K61

namespace K61
open PySem PySem.Spec PyProof.Rows L2 CL CP
section
variable {K : PySem.W.Frag} {g : Cs} {M : Mm} {Q : CK} {E : CL.CX}
/-- what a list of draws answers -/
structure Dr (ds : List D) (ss : List Int) (r : Int → Int) : Prop where
  len : ds.length = ss.length
  at_ : ∀ i : Int, 0 ≤ i → i < ss.length → atI ds i = some (.int (r i))
  bd : ∀ (n : Nat) (s : Int), ss[n]? = some s → 0 ≤ r n ∧ r n < s
theorem dr_of {rs ss : List Int} (h1 : rs.length = ss.length) (h2 : ∀ (n : Nat) (x s : Int), rs[n]? = some x → ss[n]? = some s → 0 ≤ x ∧ x < s) : Dr (rs.map .int) ss (fun i => rs.getD i.toNat 0) := by
  refine ⟨by simpa using h1, fun i h h' => ?_, fun n s h => ?_⟩
  · have q : i.toNat < rs.length := by omega
    refine atI_of (n := i.toNat) (by omega) ?_
    simp [List.getD, List.getElem?_eq_getElem q]
  · have q : n < rs.length := by
      rcases Nat.lt_or_ge n ss.length with z | z
      · omega
      · rw [List.getElem?_eq_none z] at h; cases h
    have := h2 n rs[n] s (List.getElem?_eq_getElem q) h
    simpa [List.getD, List.getElem?_eq_getElem q] using this
theorem draws_sp {a s : Addr} {zs ss : List Int} {k : Int} (hz : lstOf (M a) = some (zs.map .int)) (hk : 0 ≤ k ∧ k < 1000) (hs : lstOf (M s) = some (ss.map .int)) (hp : ∀ x ∈ ss, 0 < x ∧ x < 1073741824) (hl : ss.length ≤ 1000000)
    (hQ : ∀ p ds r M', M p = none → MX M M' → M' p = some (.lst ds) → Dr ds ss r → Q (.ref p) M') : cf_l_draws K g [.ref a, .int k, .ref s] M Q E := by
  show R_l_draws K g ⟨_, _, _⟩ [some (.ref a), some (.int k), some (.ref s), none, none, none, none, none, none] M
  unfold R_l_draws
  (try simp only [skip_, seqset_, seqdrop_, seqasg_, ret_, retN_, if_, drop_, set_, asg_, for_, raise0_, raise1_, var_, c_, c2_, test_, and_, or_, not_, andV_, orV_, notV_, nil_, cons_, tup0_, tup1_, tup2_, tup3_, tup4_, tup5_, lst0_, lst1_, lst2_, lst3_, lst4_, lst5_, lst6_, lst7_, lst8_, lst9_, lst10_, lstv1_, lstv2_, lstv3_, lstv4_, lstv5_, b_, m_, call1_, call2_, call3_, call4_, call5_, neg_, slice_, none_, some_, rev_, comp_, gtup_, gn_nil, gn_cons, wipe_n, wipe_c, iseq_, sq_t, sq_r, r1_, r2_, add_i, add_s, add_t, sub_i, mul_i, int_o, cmp_o, isn_, ix_t, ix_r, ix_s, len_t2, len_t3, len_t4, len_t5, len_r, int1_i, two_, tuple_t, tuple_r, list_t, list_r, str_i, sl_t, sl_r, rev_t, rev_r, lo_l, lo_r, isi_t_t, isi_i_t, isi_s_s, isi_i_i, isi_i_b, isi_b_b, at0, at1, at2, at3, eq_i, eq_s, ol_s, vr_s, tb_b, ti_i, Br_t, Br_f, List.getElem?_cons_zero, List.getElem?_cons_succ, List.set_cons_zero, List.set_cons_succ, true_and, eq_self, Bool.not_true, Bool.not_false, Bool.false_eq_true, if_true, if_false, Nat.reduceLeDiff, ite_true, ite_false]); (repeat (refine Nx.mk ?_; try simp only [skip_, seqset_, seqdrop_, seqasg_, ret_, retN_, if_, drop_, set_, asg_, for_, raise0_, raise1_, var_, c_, c2_, test_, and_, or_, not_, andV_, orV_, notV_, nil_, cons_, tup0_, tup1_, tup2_, tup3_, tup4_, tup5_, lst0_, lst1_, lst2_, lst3_, lst4_, lst5_, lst6_, lst7_, lst8_, lst9_, lst10_, lstv1_, lstv2_, lstv3_, lstv4_, lstv5_, b_, m_, call1_, call2_, call3_, call4_, call5_, neg_, slice_, none_, some_, rev_, comp_, gtup_, gn_nil, gn_cons, wipe_n, wipe_c, iseq_, sq_t, sq_r, r1_, r2_, add_i, add_s, add_t, sub_i, mul_i, int_o, cmp_o, isn_, ix_t, ix_r, ix_s, len_t2, len_t3, len_t4, len_t5, len_r, int1_i, two_, tuple_t, tuple_r, list_t, list_r, str_i, sl_t, sl_r, rev_t, rev_r, lo_l, lo_r, isi_t_t, isi_i_t, isi_s_s, isi_i_i, isi_i_b, isi_b_b, at0, at1, at2, at3, eq_i, eq_s, ol_s, vr_s, tb_b, ti_i, Br_t, Br_f, List.getElem?_cons_zero, List.getElem?_cons_succ, List.set_cons_zero, List.set_cons_succ, true_and, eq_self, Bool.not_true, Bool.not_false, Bool.false_eq_true, if_true, if_false, Nat.reduceLeDiff, ite_true, ite_false]))
  (try refine Nx.mk ?_); refine seq_m (fun ρ' M' => ∃ c : Int, ρ' = [some (.ref a), some (.int k), some (.ref s), some (.int c), none, none, none, none, none] ∧ M = M') (fun Kn hK => ?_) ?_
  · (try simp only [skip_, seqset_, seqdrop_, seqasg_, ret_, retN_, if_, drop_, set_, asg_, for_, raise0_, raise1_, var_, c_, c2_, test_, and_, or_, not_, andV_, orV_, notV_, nil_, cons_, tup0_, tup1_, tup2_, tup3_, tup4_, tup5_, lst0_, lst1_, lst2_, lst3_, lst4_, lst5_, lst6_, lst7_, lst8_, lst9_, lst10_, lstv1_, lstv2_, lstv3_, lstv4_, lstv5_, b_, m_, call1_, call2_, call3_, call4_, call5_, neg_, slice_, none_, some_, rev_, comp_, gtup_, gn_nil, gn_cons, wipe_n, wipe_c, iseq_, sq_t, sq_r, r1_, r2_, add_i, add_s, add_t, sub_i, mul_i, int_o, cmp_o, isn_, ix_t, ix_r, ix_s, len_t2, len_t3, len_t4, len_t5, len_r, int1_i, two_, tuple_t, tuple_r, list_t, list_r, str_i, sl_t, sl_r, rev_t, rev_r, lo_l, lo_r, isi_t_t, isi_i_t, isi_s_s, isi_i_i, isi_i_b, isi_b_b, at0, at1, at2, at3, eq_i, eq_s, ol_s, vr_s, tb_b, ti_i, Br_t, Br_f, List.getElem?_cons_zero, List.getElem?_cons_succ, List.set_cons_zero, List.set_cons_succ, true_and, eq_self, Bool.not_true, Bool.not_false, Bool.false_eq_true, if_true, if_false, Nat.reduceLeDiff, ite_true, ite_false, hz]); (repeat (refine Nx.mk ?_; try simp only [skip_, seqset_, seqdrop_, seqasg_, ret_, retN_, if_, drop_, set_, asg_, for_, raise0_, raise1_, var_, c_, c2_, test_, and_, or_, not_, andV_, orV_, notV_, nil_, cons_, tup0_, tup1_, tup2_, tup3_, tup4_, tup5_, lst0_, lst1_, lst2_, lst3_, lst4_, lst5_, lst6_, lst7_, lst8_, lst9_, lst10_, lstv1_, lstv2_, lstv3_, lstv4_, lstv5_, b_, m_, call1_, call2_, call3_, call4_, call5_, neg_, slice_, none_, some_, rev_, comp_, gtup_, gn_nil, gn_cons, wipe_n, wipe_c, iseq_, sq_t, sq_r, r1_, r2_, add_i, add_s, add_t, sub_i, mul_i, int_o, cmp_o, isn_, ix_t, ix_r, ix_s, len_t2, len_t3, len_t4, len_t5, len_r, int1_i, two_, tuple_t, tuple_r, list_t, list_r, str_i, sl_t, sl_r, rev_t, rev_r, lo_l, lo_r, isi_t_t, isi_i_t, isi_s_s, isi_i_i, isi_i_b, isi_b_b, at0, at1, at2, at3, eq_i, eq_s, ol_s, vr_s, tb_b, ti_i, Br_t, Br_f, List.getElem?_cons_zero, List.getElem?_cons_succ, List.set_cons_zero, List.set_cons_succ, true_and, eq_self, Bool.not_true, Bool.not_false, Bool.false_eq_true, if_true, if_false, Nat.reduceLeDiff, ite_true, ite_false, hz]))
    refine Br_i (fun h => ?_) (fun h => hK _ _ ⟨_, rfl, rfl⟩)
    (try simp only [skip_, seqset_, seqdrop_, seqasg_, ret_, retN_, if_, drop_, set_, asg_, for_, raise0_, raise1_, var_, c_, c2_, test_, and_, or_, not_, andV_, orV_, notV_, nil_, cons_, tup0_, tup1_, tup2_, tup3_, tup4_, tup5_, lst0_, lst1_, lst2_, lst3_, lst4_, lst5_, lst6_, lst7_, lst8_, lst9_, lst10_, lstv1_, lstv2_, lstv3_, lstv4_, lstv5_, b_, m_, call1_, call2_, call3_, call4_, call5_, neg_, slice_, none_, some_, rev_, comp_, gtup_, gn_nil, gn_cons, wipe_n, wipe_c, iseq_, sq_t, sq_r, r1_, r2_, add_i, add_s, add_t, sub_i, mul_i, int_o, cmp_o, isn_, ix_t, ix_r, ix_s, len_t2, len_t3, len_t4, len_t5, len_r, int1_i, two_, tuple_t, tuple_r, list_t, list_r, str_i, sl_t, sl_r, rev_t, rev_r, lo_l, lo_r, isi_t_t, isi_i_t, isi_s_s, isi_i_i, isi_i_b, isi_b_b, at0, at1, at2, at3, eq_i, eq_s, ol_s, vr_s, tb_b, ti_i, Br_t, Br_f, List.getElem?_cons_zero, List.getElem?_cons_succ, List.set_cons_zero, List.set_cons_succ, true_and, eq_self, Bool.not_true, Bool.not_false, Bool.false_eq_true, if_true, if_false, Nat.reduceLeDiff, ite_true, ite_false, hz]); (repeat (refine Nx.mk ?_; try simp only [skip_, seqset_, seqdrop_, seqasg_, ret_, retN_, if_, drop_, set_, asg_, for_, raise0_, raise1_, var_, c_, c2_, test_, and_, or_, not_, andV_, orV_, notV_, nil_, cons_, tup0_, tup1_, tup2_, tup3_, tup4_, tup5_, lst0_, lst1_, lst2_, lst3_, lst4_, lst5_, lst6_, lst7_, lst8_, lst9_, lst10_, lstv1_, lstv2_, lstv3_, lstv4_, lstv5_, b_, m_, call1_, call2_, call3_, call4_, call5_, neg_, slice_, none_, some_, rev_, comp_, gtup_, gn_nil, gn_cons, wipe_n, wipe_c, iseq_, sq_t, sq_r, r1_, r2_, add_i, add_s, add_t, sub_i, mul_i, int_o, cmp_o, isn_, ix_t, ix_r, ix_s, len_t2, len_t3, len_t4, len_t5, len_r, int1_i, two_, tuple_t, tuple_r, list_t, list_r, str_i, sl_t, sl_r, rev_t, rev_r, lo_l, lo_r, isi_t_t, isi_i_t, isi_s_s, isi_i_i, isi_i_b, isi_b_b, at0, at1, at2, at3, eq_i, eq_s, ol_s, vr_s, tb_b, ti_i, Br_t, Br_f, List.getElem?_cons_zero, List.getElem?_cons_succ, List.set_cons_zero, List.set_cons_succ, true_and, eq_self, Bool.not_true, Bool.not_false, Bool.false_eq_true, if_true, if_false, Nat.reduceLeDiff, ite_true, ite_false, hz]))
    have h2 : k < (zs.map D.int).length := of_decide_eq_true h
    rw [List.length_map] at h2
    rw [atI_of (n := k.toNat) (x := .int (zs[k.toNat]'(by omega))) (by omega) (by simp [List.getElem?_eq_getElem (show k.toNat < zs.length by omega)])]
    (try simp only [skip_, seqset_, seqdrop_, seqasg_, ret_, retN_, if_, drop_, set_, asg_, for_, raise0_, raise1_, var_, c_, c2_, test_, and_, or_, not_, andV_, orV_, notV_, nil_, cons_, tup0_, tup1_, tup2_, tup3_, tup4_, tup5_, lst0_, lst1_, lst2_, lst3_, lst4_, lst5_, lst6_, lst7_, lst8_, lst9_, lst10_, lstv1_, lstv2_, lstv3_, lstv4_, lstv5_, b_, m_, call1_, call2_, call3_, call4_, call5_, neg_, slice_, none_, some_, rev_, comp_, gtup_, gn_nil, gn_cons, wipe_n, wipe_c, iseq_, sq_t, sq_r, r1_, r2_, add_i, add_s, add_t, sub_i, mul_i, int_o, cmp_o, isn_, ix_t, ix_r, ix_s, len_t2, len_t3, len_t4, len_t5, len_r, int1_i, two_, tuple_t, tuple_r, list_t, list_r, str_i, sl_t, sl_r, rev_t, rev_r, lo_l, lo_r, isi_t_t, isi_i_t, isi_s_s, isi_i_i, isi_i_b, isi_b_b, at0, at1, at2, at3, eq_i, eq_s, ol_s, vr_s, tb_b, ti_i, Br_t, Br_f, List.getElem?_cons_zero, List.getElem?_cons_succ, List.set_cons_zero, List.set_cons_succ, true_and, eq_self, Bool.not_true, Bool.not_false, Bool.false_eq_true, if_true, if_false, Nat.reduceLeDiff, ite_true, ite_false]); (repeat (refine Nx.mk ?_; try simp only [skip_, seqset_, seqdrop_, seqasg_, ret_, retN_, if_, drop_, set_, asg_, for_, raise0_, raise1_, var_, c_, c2_, test_, and_, or_, not_, andV_, orV_, notV_, nil_, cons_, tup0_, tup1_, tup2_, tup3_, tup4_, tup5_, lst0_, lst1_, lst2_, lst3_, lst4_, lst5_, lst6_, lst7_, lst8_, lst9_, lst10_, lstv1_, lstv2_, lstv3_, lstv4_, lstv5_, b_, m_, call1_, call2_, call3_, call4_, call5_, neg_, slice_, none_, some_, rev_, comp_, gtup_, gn_nil, gn_cons, wipe_n, wipe_c, iseq_, sq_t, sq_r, r1_, r2_, add_i, add_s, add_t, sub_i, mul_i, int_o, cmp_o, isn_, ix_t, ix_r, ix_s, len_t2, len_t3, len_t4, len_t5, len_r, int1_i, two_, tuple_t, tuple_r, list_t, list_r, str_i, sl_t, sl_r, rev_t, rev_r, lo_l, lo_r, isi_t_t, isi_i_t, isi_s_s, isi_i_i, isi_i_b, isi_b_b, at0, at1, at2, at3, eq_i, eq_s, ol_s, vr_s, tb_b, ti_i, Br_t, Br_f, List.getElem?_cons_zero, List.getElem?_cons_succ, List.set_cons_zero, List.set_cons_succ, true_and, eq_self, Bool.not_true, Bool.not_false, Bool.false_eq_true, if_true, if_false, Nat.reduceLeDiff, ite_true, ite_false]))
    exact hK _ _ ⟨_, rfl, rfl⟩
  · rintro _ _ ⟨c, rfl, rfl⟩
    (try simp only [skip_, seqset_, seqdrop_, seqasg_, ret_, retN_, if_, drop_, set_, asg_, for_, raise0_, raise1_, var_, c_, c2_, test_, and_, or_, not_, andV_, orV_, notV_, nil_, cons_, tup0_, tup1_, tup2_, tup3_, tup4_, tup5_, lst0_, lst1_, lst2_, lst3_, lst4_, lst5_, lst6_, lst7_, lst8_, lst9_, lst10_, lstv1_, lstv2_, lstv3_, lstv4_, lstv5_, b_, m_, call1_, call2_, call3_, call4_, call5_, neg_, slice_, none_, some_, rev_, comp_, gtup_, gn_nil, gn_cons, wipe_n, wipe_c, iseq_, sq_t, sq_r, r1_, r2_, add_i, add_s, add_t, sub_i, mul_i, int_o, cmp_o, isn_, ix_t, ix_r, ix_s, len_t2, len_t3, len_t4, len_t5, len_r, int1_i, two_, tuple_t, tuple_r, list_t, list_r, str_i, sl_t, sl_r, rev_t, rev_r, lo_l, lo_r, isi_t_t, isi_i_t, isi_s_s, isi_i_i, isi_i_b, isi_b_b, at0, at1, at2, at3, eq_i, eq_s, ol_s, vr_s, tb_b, ti_i, Br_t, Br_f, List.getElem?_cons_zero, List.getElem?_cons_succ, List.set_cons_zero, List.set_cons_succ, true_and, eq_self, Bool.not_true, Bool.not_false, Bool.false_eq_true, if_true, if_false, Nat.reduceLeDiff, ite_true, ite_false]); (repeat (refine Nx.mk ?_; try simp only [skip_, seqset_, seqdrop_, seqasg_, ret_, retN_, if_, drop_, set_, asg_, for_, raise0_, raise1_, var_, c_, c2_, test_, and_, or_, not_, andV_, orV_, notV_, nil_, cons_, tup0_, tup1_, tup2_, tup3_, tup4_, tup5_, lst0_, lst1_, lst2_, lst3_, lst4_, lst5_, lst6_, lst7_, lst8_, lst9_, lst10_, lstv1_, lstv2_, lstv3_, lstv4_, lstv5_, b_, m_, call1_, call2_, call3_, call4_, call5_, neg_, slice_, none_, some_, rev_, comp_, gtup_, gn_nil, gn_cons, wipe_n, wipe_c, iseq_, sq_t, sq_r, r1_, r2_, add_i, add_s, add_t, sub_i, mul_i, int_o, cmp_o, isn_, ix_t, ix_r, ix_s, len_t2, len_t3, len_t4, len_t5, len_r, int1_i, two_, tuple_t, tuple_r, list_t, list_r, str_i, sl_t, sl_r, rev_t, rev_r, lo_l, lo_r, isi_t_t, isi_i_t, isi_s_s, isi_i_i, isi_i_b, isi_b_b, at0, at1, at2, at3, eq_i, eq_s, ol_s, vr_s, tb_b, ti_i, Br_t, Br_f, List.getElem?_cons_zero, List.getElem?_cons_succ, List.set_cons_zero, List.set_cons_succ, true_and, eq_self, Bool.not_true, Bool.not_false, Bool.false_eq_true, if_true, if_false, Nat.reduceLeDiff, ite_true, ite_false]))
    refine newL_i fun p M1 hp0 x1 e1 => ?_
    have hs1 := mx_ol x1 hs
    have grow : ∀ {rs : List Int} {n : Nat} {s v : Int}, rs.length = n → ss[n]? = some s → 0 ≤ v → v < s → (∀ (n : Nat) (x s : Int), rs[n]? = some x → ss[n]? = some s → 0 ≤ x ∧ x < s) → ∀ (m : Nat) (x s : Int), (rs ++ [v])[m]? = some x → ss[m]? = some s → 0 ≤ x ∧ x < s := by
      intro rs n s v e1 e2 e3 e4 h m x s' h1 h2
      by_cases w : m < rs.length
      · rw [List.getElem?_append_left w] at h1; exact h m x s' h1 h2
      · rw [List.getElem?_append_right (by omega)] at h1
        have : m = n := by
          rcases Nat.lt_or_ge (m - rs.length) 1 with u | u
          · omega
          · rw [List.getElem?_eq_none (by simpa using u)] at h1; cases h1
        subst this
        rw [e2] at h2; cases h2
        rw [e1, Nat.sub_self] at h1
        cases h1
        exact ⟨e3, e4⟩
    (try refine Nx.mk ?_); rw [seq_]
    (try simp only [skip_, seqset_, seqdrop_, seqasg_, ret_, retN_, if_, drop_, set_, asg_, for_, raise0_, raise1_, var_, c_, c2_, test_, and_, or_, not_, andV_, orV_, notV_, nil_, cons_, tup0_, tup1_, tup2_, tup3_, tup4_, tup5_, lst0_, lst1_, lst2_, lst3_, lst4_, lst5_, lst6_, lst7_, lst8_, lst9_, lst10_, lstv1_, lstv2_, lstv3_, lstv4_, lstv5_, b_, m_, call1_, call2_, call3_, call4_, call5_, neg_, slice_, none_, some_, rev_, comp_, gtup_, gn_nil, gn_cons, wipe_n, wipe_c, iseq_, sq_t, sq_r, r1_, r2_, add_i, add_s, add_t, sub_i, mul_i, int_o, cmp_o, isn_, ix_t, ix_r, ix_s, len_t2, len_t3, len_t4, len_t5, len_r, int1_i, two_, tuple_t, tuple_r, list_t, list_r, str_i, sl_t, sl_r, rev_t, rev_r, lo_l, lo_r, isi_t_t, isi_i_t, isi_s_s, isi_i_i, isi_i_b, isi_b_b, at0, at1, at2, at3, eq_i, eq_s, ol_s, vr_s, tb_b, ti_i, Br_t, Br_f, List.getElem?_cons_zero, List.getElem?_cons_succ, List.set_cons_zero, List.set_cons_succ, true_and, eq_self, Bool.not_true, Bool.not_false, Bool.false_eq_true, if_true, if_false, Nat.reduceLeDiff, ite_true, ite_false]); (repeat (refine Nx.mk ?_; try simp only [skip_, seqset_, seqdrop_, seqasg_, ret_, retN_, if_, drop_, set_, asg_, for_, raise0_, raise1_, var_, c_, c2_, test_, and_, or_, not_, andV_, orV_, notV_, nil_, cons_, tup0_, tup1_, tup2_, tup3_, tup4_, tup5_, lst0_, lst1_, lst2_, lst3_, lst4_, lst5_, lst6_, lst7_, lst8_, lst9_, lst10_, lstv1_, lstv2_, lstv3_, lstv4_, lstv5_, b_, m_, call1_, call2_, call3_, call4_, call5_, neg_, slice_, none_, some_, rev_, comp_, gtup_, gn_nil, gn_cons, wipe_n, wipe_c, iseq_, sq_t, sq_r, r1_, r2_, add_i, add_s, add_t, sub_i, mul_i, int_o, cmp_o, isn_, ix_t, ix_r, ix_s, len_t2, len_t3, len_t4, len_t5, len_r, int1_i, two_, tuple_t, tuple_r, list_t, list_r, str_i, sl_t, sl_r, rev_t, rev_r, lo_l, lo_r, isi_t_t, isi_i_t, isi_s_s, isi_i_i, isi_i_b, isi_b_b, at0, at1, at2, at3, eq_i, eq_s, ol_s, vr_s, tb_b, ti_i, Br_t, Br_f, List.getElem?_cons_zero, List.getElem?_cons_succ, List.set_cons_zero, List.set_cons_succ, true_and, eq_self, Bool.not_true, Bool.not_false, Bool.false_eq_true, if_true, if_false, Nat.reduceLeDiff, ite_true, ite_false]))
    refine ⟨by constructor <;> decide, Br_i (fun h => ?_) (fun h => ?_)⟩
    · (try refine Nx.mk ?_); refine seq_m (fun ρ' M' => ∃ (c : Int) (o : Option D) (rs : List Int), ρ' = [some (.ref a), some (.int k), some (.ref s), some (.int c), some (.ref p), none, none, o, none] ∧ MX M M' ∧ M' p = some (.lst (rs.map .int)) ∧ rs.length = ss.length ∧ ∀ (n : Nat) (x s : Int), rs[n]? = some x → ss[n]? = some s → 0 ≤ x ∧ x < s) (fun Kn hK => ?_) ?_
      · (try simp only [skip_, seqset_, seqdrop_, seqasg_, ret_, retN_, if_, drop_, set_, asg_, for_, raise0_, raise1_, var_, c_, c2_, test_, and_, or_, not_, andV_, orV_, notV_, nil_, cons_, tup0_, tup1_, tup2_, tup3_, tup4_, tup5_, lst0_, lst1_, lst2_, lst3_, lst4_, lst5_, lst6_, lst7_, lst8_, lst9_, lst10_, lstv1_, lstv2_, lstv3_, lstv4_, lstv5_, b_, m_, call1_, call2_, call3_, call4_, call5_, neg_, slice_, none_, some_, rev_, comp_, gtup_, gn_nil, gn_cons, wipe_n, wipe_c, iseq_, sq_t, sq_r, r1_, r2_, add_i, add_s, add_t, sub_i, mul_i, int_o, cmp_o, isn_, ix_t, ix_r, ix_s, len_t2, len_t3, len_t4, len_t5, len_r, int1_i, two_, tuple_t, tuple_r, list_t, list_r, str_i, sl_t, sl_r, rev_t, rev_r, lo_l, lo_r, isi_t_t, isi_i_t, isi_s_s, isi_i_i, isi_i_b, isi_b_b, at0, at1, at2, at3, eq_i, eq_s, ol_s, vr_s, tb_b, ti_i, Br_t, Br_f, List.getElem?_cons_zero, List.getElem?_cons_succ, List.set_cons_zero, List.set_cons_succ, true_and, eq_self, Bool.not_true, Bool.not_false, Bool.false_eq_true, if_true, if_false, Nat.reduceLeDiff, ite_true, ite_false, hs1]); (repeat (refine Nx.mk ?_; try simp only [skip_, seqset_, seqdrop_, seqasg_, ret_, retN_, if_, drop_, set_, asg_, for_, raise0_, raise1_, var_, c_, c2_, test_, and_, or_, not_, andV_, orV_, notV_, nil_, cons_, tup0_, tup1_, tup2_, tup3_, tup4_, tup5_, lst0_, lst1_, lst2_, lst3_, lst4_, lst5_, lst6_, lst7_, lst8_, lst9_, lst10_, lstv1_, lstv2_, lstv3_, lstv4_, lstv5_, b_, m_, call1_, call2_, call3_, call4_, call5_, neg_, slice_, none_, some_, rev_, comp_, gtup_, gn_nil, gn_cons, wipe_n, wipe_c, iseq_, sq_t, sq_r, r1_, r2_, add_i, add_s, add_t, sub_i, mul_i, int_o, cmp_o, isn_, ix_t, ix_r, ix_s, len_t2, len_t3, len_t4, len_t5, len_r, int1_i, two_, tuple_t, tuple_r, list_t, list_r, str_i, sl_t, sl_r, rev_t, rev_r, lo_l, lo_r, isi_t_t, isi_i_t, isi_s_s, isi_i_i, isi_i_b, isi_b_b, at0, at1, at2, at3, eq_i, eq_s, ol_s, vr_s, tb_b, ti_i, Br_t, Br_f, List.getElem?_cons_zero, List.getElem?_cons_succ, List.set_cons_zero, List.set_cons_succ, true_and, eq_self, Bool.not_true, Bool.not_false, Bool.false_eq_true, if_true, if_false, Nat.reduceLeDiff, ite_true, ite_false, hs1]))
        refine for_0 (fun n ρ' M' => ∃ (c : Int) (o : Option D) (rs : List Int), ρ' = [some (.ref a), some (.int k), some (.ref s), some (.int c), some (.ref p), none, none, o, none] ∧ MX M M' ∧ M' p = some (.lst (rs.map .int)) ∧ rs.length = n ∧ ∀ (n : Nat) (x s : Int), rs[n]? = some x → ss[n]? = some s → 0 ≤ x ∧ x < s) ⟨c, none, [], rfl, x1, e1, rfl, fun n x s h => by simp at h⟩ ?_ ?_ ?_
        · rintro n _ M' _ ⟨c, o, rs, rfl, x, _⟩
          exact mx_ol x hs
        · rintro n d hd _ M' ⟨c, o, rs, rfl, x, e, hn, hb⟩
          rw [List.getElem?_map] at hd
          cases hsn : ss[n]? with
          | none => rw [hsn] at hd; cases hd
          | some sz =>
            rw [hsn] at hd; cases hd
            have hpz := hp sz (List.mem_of_getElem? hsn)
            refine ⟨_, rfl, fun Kn2 hK2 => ?_⟩
            (try simp only [skip_, seqset_, seqdrop_, seqasg_, ret_, retN_, if_, drop_, set_, asg_, for_, raise0_, raise1_, var_, c_, c2_, test_, and_, or_, not_, andV_, orV_, notV_, nil_, cons_, tup0_, tup1_, tup2_, tup3_, tup4_, tup5_, lst0_, lst1_, lst2_, lst3_, lst4_, lst5_, lst6_, lst7_, lst8_, lst9_, lst10_, lstv1_, lstv2_, lstv3_, lstv4_, lstv5_, b_, m_, call1_, call2_, call3_, call4_, call5_, neg_, slice_, none_, some_, rev_, comp_, gtup_, gn_nil, gn_cons, wipe_n, wipe_c, iseq_, sq_t, sq_r, r1_, r2_, add_i, add_s, add_t, sub_i, mul_i, int_o, cmp_o, isn_, ix_t, ix_r, ix_s, len_t2, len_t3, len_t4, len_t5, len_r, int1_i, two_, tuple_t, tuple_r, list_t, list_r, str_i, sl_t, sl_r, rev_t, rev_r, lo_l, lo_r, isi_t_t, isi_i_t, isi_s_s, isi_i_i, isi_i_b, isi_b_b, at0, at1, at2, at3, eq_i, eq_s, ol_s, vr_s, tb_b, ti_i, Br_t, Br_f, List.getElem?_cons_zero, List.getElem?_cons_succ, List.set_cons_zero, List.set_cons_succ, true_and, eq_self, Bool.not_true, Bool.not_false, Bool.false_eq_true, if_true, if_false, Nat.reduceLeDiff, ite_true, ite_false, ty_l e, app_ _ e]); (repeat (refine Nx.mk ?_; try simp only [skip_, seqset_, seqdrop_, seqasg_, ret_, retN_, if_, drop_, set_, asg_, for_, raise0_, raise1_, var_, c_, c2_, test_, and_, or_, not_, andV_, orV_, notV_, nil_, cons_, tup0_, tup1_, tup2_, tup3_, tup4_, tup5_, lst0_, lst1_, lst2_, lst3_, lst4_, lst5_, lst6_, lst7_, lst8_, lst9_, lst10_, lstv1_, lstv2_, lstv3_, lstv4_, lstv5_, b_, m_, call1_, call2_, call3_, call4_, call5_, neg_, slice_, none_, some_, rev_, comp_, gtup_, gn_nil, gn_cons, wipe_n, wipe_c, iseq_, sq_t, sq_r, r1_, r2_, add_i, add_s, add_t, sub_i, mul_i, int_o, cmp_o, isn_, ix_t, ix_r, ix_s, len_t2, len_t3, len_t4, len_t5, len_r, int1_i, two_, tuple_t, tuple_r, list_t, list_r, str_i, sl_t, sl_r, rev_t, rev_r, lo_l, lo_r, isi_t_t, isi_i_t, isi_s_s, isi_i_i, isi_i_b, isi_b_b, at0, at1, at2, at3, eq_i, eq_s, ol_s, vr_s, tb_b, ti_i, Br_t, Br_f, List.getElem?_cons_zero, List.getElem?_cons_succ, List.set_cons_zero, List.set_cons_succ, true_and, eq_self, Bool.not_true, Bool.not_false, Bool.false_eq_true, if_true, if_false, Nat.reduceLeDiff, ite_true, ite_false, ty_l e, app_ _ e]))
            refine ⟨by omega, by rw [List.length_map]; exact size_le (by have := (List.getElem?_eq_some_iff.mp hsn).1; omega), ⟨by omega, by omega⟩, hK2 _ _ ⟨_, _, rs ++ [c.fmod sz], rfl, mx_put x hp0, by rw [put_same]; simp, by simp [hn], ?_⟩⟩
            exact grow hn hsn (Int.fmod_nonneg_of_pos _ hpz.1) (Int.fmod_lt_of_pos _ hpz.1) hb
        · rintro _ M' ⟨c, o, rs, rfl, x, e, hn, hb⟩
          exact hK _ _ ⟨c, o, rs, rfl, x, e, by simpa using hn, hb⟩
      · rintro _ M' ⟨c, o, rs, rfl, x, e, hn, hb⟩
        (try simp only [skip_, seqset_, seqdrop_, seqasg_, ret_, retN_, if_, drop_, set_, asg_, for_, raise0_, raise1_, var_, c_, c2_, test_, and_, or_, not_, andV_, orV_, notV_, nil_, cons_, tup0_, tup1_, tup2_, tup3_, tup4_, tup5_, lst0_, lst1_, lst2_, lst3_, lst4_, lst5_, lst6_, lst7_, lst8_, lst9_, lst10_, lstv1_, lstv2_, lstv3_, lstv4_, lstv5_, b_, m_, call1_, call2_, call3_, call4_, call5_, neg_, slice_, none_, some_, rev_, comp_, gtup_, gn_nil, gn_cons, wipe_n, wipe_c, iseq_, sq_t, sq_r, r1_, r2_, add_i, add_s, add_t, sub_i, mul_i, int_o, cmp_o, isn_, ix_t, ix_r, ix_s, len_t2, len_t3, len_t4, len_t5, len_r, int1_i, two_, tuple_t, tuple_r, list_t, list_r, str_i, sl_t, sl_r, rev_t, rev_r, lo_l, lo_r, isi_t_t, isi_i_t, isi_s_s, isi_i_i, isi_i_b, isi_b_b, at0, at1, at2, at3, eq_i, eq_s, ol_s, vr_s, tb_b, ti_i, Br_t, Br_f, List.getElem?_cons_zero, List.getElem?_cons_succ, List.set_cons_zero, List.set_cons_succ, true_and, eq_self, Bool.not_true, Bool.not_false, Bool.false_eq_true, if_true, if_false, Nat.reduceLeDiff, ite_true, ite_false]); (repeat (refine Nx.mk ?_; try simp only [skip_, seqset_, seqdrop_, seqasg_, ret_, retN_, if_, drop_, set_, asg_, for_, raise0_, raise1_, var_, c_, c2_, test_, and_, or_, not_, andV_, orV_, notV_, nil_, cons_, tup0_, tup1_, tup2_, tup3_, tup4_, tup5_, lst0_, lst1_, lst2_, lst3_, lst4_, lst5_, lst6_, lst7_, lst8_, lst9_, lst10_, lstv1_, lstv2_, lstv3_, lstv4_, lstv5_, b_, m_, call1_, call2_, call3_, call4_, call5_, neg_, slice_, none_, some_, rev_, comp_, gtup_, gn_nil, gn_cons, wipe_n, wipe_c, iseq_, sq_t, sq_r, r1_, r2_, add_i, add_s, add_t, sub_i, mul_i, int_o, cmp_o, isn_, ix_t, ix_r, ix_s, len_t2, len_t3, len_t4, len_t5, len_r, int1_i, two_, tuple_t, tuple_r, list_t, list_r, str_i, sl_t, sl_r, rev_t, rev_r, lo_l, lo_r, isi_t_t, isi_i_t, isi_s_s, isi_i_i, isi_i_b, isi_b_b, at0, at1, at2, at3, eq_i, eq_s, ol_s, vr_s, tb_b, ti_i, Br_t, Br_f, List.getElem?_cons_zero, List.getElem?_cons_succ, List.set_cons_zero, List.set_cons_succ, true_and, eq_self, Bool.not_true, Bool.not_false, Bool.false_eq_true, if_true, if_false, Nat.reduceLeDiff, ite_true, ite_false]))
        exact hQ p _ _ M' hp0 x e (dr_of hn hb)
    · (try simp only [skip_, seqset_, seqdrop_, seqasg_, ret_, retN_, if_, drop_, set_, asg_, for_, raise0_, raise1_, var_, c_, c2_, test_, and_, or_, not_, andV_, orV_, notV_, nil_, cons_, tup0_, tup1_, tup2_, tup3_, tup4_, tup5_, lst0_, lst1_, lst2_, lst3_, lst4_, lst5_, lst6_, lst7_, lst8_, lst9_, lst10_, lstv1_, lstv2_, lstv3_, lstv4_, lstv5_, b_, m_, call1_, call2_, call3_, call4_, call5_, neg_, slice_, none_, some_, rev_, comp_, gtup_, gn_nil, gn_cons, wipe_n, wipe_c, iseq_, sq_t, sq_r, r1_, r2_, add_i, add_s, add_t, sub_i, mul_i, int_o, cmp_o, isn_, ix_t, ix_r, ix_s, len_t2, len_t3, len_t4, len_t5, len_r, int1_i, two_, tuple_t, tuple_r, list_t, list_r, str_i, sl_t, sl_r, rev_t, rev_r, lo_l, lo_r, isi_t_t, isi_i_t, isi_s_s, isi_i_i, isi_i_b, isi_b_b, at0, at1, at2, at3, eq_i, eq_s, ol_s, vr_s, tb_b, ti_i, Br_t, Br_f, List.getElem?_cons_zero, List.getElem?_cons_succ, List.set_cons_zero, List.set_cons_succ, true_and, eq_self, Bool.not_true, Bool.not_false, Bool.false_eq_true, if_true, if_false, Nat.reduceLeDiff, ite_true, ite_false]); (repeat (refine Nx.mk ?_; try simp only [skip_, seqset_, seqdrop_, seqasg_, ret_, retN_, if_, drop_, set_, asg_, for_, raise0_, raise1_, var_, c_, c2_, test_, and_, or_, not_, andV_, orV_, notV_, nil_, cons_, tup0_, tup1_, tup2_, tup3_, tup4_, tup5_, lst0_, lst1_, lst2_, lst3_, lst4_, lst5_, lst6_, lst7_, lst8_, lst9_, lst10_, lstv1_, lstv2_, lstv3_, lstv4_, lstv5_, b_, m_, call1_, call2_, call3_, call4_, call5_, neg_, slice_, none_, some_, rev_, comp_, gtup_, gn_nil, gn_cons, wipe_n, wipe_c, iseq_, sq_t, sq_r, r1_, r2_, add_i, add_s, add_t, sub_i, mul_i, int_o, cmp_o, isn_, ix_t, ix_r, ix_s, len_t2, len_t3, len_t4, len_t5, len_r, int1_i, two_, tuple_t, tuple_r, list_t, list_r, str_i, sl_t, sl_r, rev_t, rev_r, lo_l, lo_r, isi_t_t, isi_i_t, isi_s_s, isi_i_i, isi_i_b, isi_b_b, at0, at1, at2, at3, eq_i, eq_s, ol_s, vr_s, tb_b, ti_i, Br_t, Br_f, List.getElem?_cons_zero, List.getElem?_cons_succ, List.set_cons_zero, List.set_cons_succ, true_and, eq_self, Bool.not_true, Bool.not_false, Bool.false_eq_true, if_true, if_false, Nat.reduceLeDiff, ite_true, ite_false]))
      refine ⟨Or.inl ⟨by decide, by decide⟩, by decide, Nx.mk ?_⟩
      (try refine Nx.mk ?_); refine seq_m (fun ρ' M' => ∃ (c m : Int) (o o' : Option D) (rs : List Int), ρ' = [some (.ref a), some (.int k), some (.ref s), some (.int c), some (.ref p), some (.int m), o, none, o'] ∧ MX M M' ∧ M' p = some (.lst (rs.map .int)) ∧ rs.length = ss.length ∧ ∀ (n : Nat) (x s : Int), rs[n]? = some x → ss[n]? = some s → 0 ≤ x ∧ x < s) (fun Kn hK => ?_) ?_
      · (try simp only [skip_, seqset_, seqdrop_, seqasg_, ret_, retN_, if_, drop_, set_, asg_, for_, raise0_, raise1_, var_, c_, c2_, test_, and_, or_, not_, andV_, orV_, notV_, nil_, cons_, tup0_, tup1_, tup2_, tup3_, tup4_, tup5_, lst0_, lst1_, lst2_, lst3_, lst4_, lst5_, lst6_, lst7_, lst8_, lst9_, lst10_, lstv1_, lstv2_, lstv3_, lstv4_, lstv5_, b_, m_, call1_, call2_, call3_, call4_, call5_, neg_, slice_, none_, some_, rev_, comp_, gtup_, gn_nil, gn_cons, wipe_n, wipe_c, iseq_, sq_t, sq_r, r1_, r2_, add_i, add_s, add_t, sub_i, mul_i, int_o, cmp_o, isn_, ix_t, ix_r, ix_s, len_t2, len_t3, len_t4, len_t5, len_r, int1_i, two_, tuple_t, tuple_r, list_t, list_r, str_i, sl_t, sl_r, rev_t, rev_r, lo_l, lo_r, isi_t_t, isi_i_t, isi_s_s, isi_i_i, isi_i_b, isi_b_b, at0, at1, at2, at3, eq_i, eq_s, ol_s, vr_s, tb_b, ti_i, Br_t, Br_f, List.getElem?_cons_zero, List.getElem?_cons_succ, List.set_cons_zero, List.set_cons_succ, true_and, eq_self, Bool.not_true, Bool.not_false, Bool.false_eq_true, if_true, if_false, Nat.reduceLeDiff, ite_true, ite_false, hs1]); (repeat (refine Nx.mk ?_; try simp only [skip_, seqset_, seqdrop_, seqasg_, ret_, retN_, if_, drop_, set_, asg_, for_, raise0_, raise1_, var_, c_, c2_, test_, and_, or_, not_, andV_, orV_, notV_, nil_, cons_, tup0_, tup1_, tup2_, tup3_, tup4_, tup5_, lst0_, lst1_, lst2_, lst3_, lst4_, lst5_, lst6_, lst7_, lst8_, lst9_, lst10_, lstv1_, lstv2_, lstv3_, lstv4_, lstv5_, b_, m_, call1_, call2_, call3_, call4_, call5_, neg_, slice_, none_, some_, rev_, comp_, gtup_, gn_nil, gn_cons, wipe_n, wipe_c, iseq_, sq_t, sq_r, r1_, r2_, add_i, add_s, add_t, sub_i, mul_i, int_o, cmp_o, isn_, ix_t, ix_r, ix_s, len_t2, len_t3, len_t4, len_t5, len_r, int1_i, two_, tuple_t, tuple_r, list_t, list_r, str_i, sl_t, sl_r, rev_t, rev_r, lo_l, lo_r, isi_t_t, isi_i_t, isi_s_s, isi_i_i, isi_i_b, isi_b_b, at0, at1, at2, at3, eq_i, eq_s, ol_s, vr_s, tb_b, ti_i, Br_t, Br_f, List.getElem?_cons_zero, List.getElem?_cons_succ, List.set_cons_zero, List.set_cons_succ, true_and, eq_self, Bool.not_true, Bool.not_false, Bool.false_eq_true, if_true, if_false, Nat.reduceLeDiff, ite_true, ite_false, hs1]))
        refine ⟨by simp only [List.length_map]; omega, ?_⟩
        rw [List.length_map]
        refine for_0 (fun n ρ' M' => ∃ (c m : Int) (o o' : Option D) (rs : List Int), ρ' = [some (.ref a), some (.int k), some (.ref s), some (.int c), some (.ref p), some (.int m), o, none, o'] ∧ MX M M' ∧ M' p = some (.lst (rs.map .int)) ∧ rs.length = n ∧ ∀ (n : Nat) (x s : Int), rs[n]? = some x → ss[n]? = some s → 0 ≤ x ∧ x < s) ⟨c, _, none, none, [], rfl, x1, e1, rfl, fun n x s h => by simp at h⟩ (fun _ _ _ _ _ => trivial) ?_ ?_
        · rintro n d hd _ M' ⟨c, m, o, o', rs, rfl, x, e, hn, hb⟩
          obtain ⟨hn2, rfl⟩ := rng_at hd
          have hn2 : n < ss.length := by simpa using hn2
          have hsn : ss[n]? = some ss[n] := List.getElem?_eq_getElem hn2
          have hpz := hp _ (List.mem_of_getElem? hsn)
          refine ⟨_, rfl, fun Kn2 hK2 => ?_⟩
          (try simp only [skip_, seqset_, seqdrop_, seqasg_, ret_, retN_, if_, drop_, set_, asg_, for_, raise0_, raise1_, var_, c_, c2_, test_, and_, or_, not_, andV_, orV_, notV_, nil_, cons_, tup0_, tup1_, tup2_, tup3_, tup4_, tup5_, lst0_, lst1_, lst2_, lst3_, lst4_, lst5_, lst6_, lst7_, lst8_, lst9_, lst10_, lstv1_, lstv2_, lstv3_, lstv4_, lstv5_, b_, m_, call1_, call2_, call3_, call4_, call5_, neg_, slice_, none_, some_, rev_, comp_, gtup_, gn_nil, gn_cons, wipe_n, wipe_c, iseq_, sq_t, sq_r, r1_, r2_, add_i, add_s, add_t, sub_i, mul_i, int_o, cmp_o, isn_, ix_t, ix_r, ix_s, len_t2, len_t3, len_t4, len_t5, len_r, int1_i, two_, tuple_t, tuple_r, list_t, list_r, str_i, sl_t, sl_r, rev_t, rev_r, lo_l, lo_r, isi_t_t, isi_i_t, isi_s_s, isi_i_i, isi_i_b, isi_b_b, at0, at1, at2, at3, eq_i, eq_s, ol_s, vr_s, tb_b, ti_i, Br_t, Br_f, List.getElem?_cons_zero, List.getElem?_cons_succ, List.set_cons_zero, List.set_cons_succ, true_and, eq_self, Bool.not_true, Bool.not_false, Bool.false_eq_true, if_true, if_false, Nat.reduceLeDiff, ite_true, ite_false, ty_l e, app_ _ e, mx_ol x hs, atI_of (xs := ss.map D.int) (i := 0 + (n : Int)) (n := n) (x := .int ss[n]) (by omega) (by simp [hsn])]); (repeat (refine Nx.mk ?_; try simp only [skip_, seqset_, seqdrop_, seqasg_, ret_, retN_, if_, drop_, set_, asg_, for_, raise0_, raise1_, var_, c_, c2_, test_, and_, or_, not_, andV_, orV_, notV_, nil_, cons_, tup0_, tup1_, tup2_, tup3_, tup4_, tup5_, lst0_, lst1_, lst2_, lst3_, lst4_, lst5_, lst6_, lst7_, lst8_, lst9_, lst10_, lstv1_, lstv2_, lstv3_, lstv4_, lstv5_, b_, m_, call1_, call2_, call3_, call4_, call5_, neg_, slice_, none_, some_, rev_, comp_, gtup_, gn_nil, gn_cons, wipe_n, wipe_c, iseq_, sq_t, sq_r, r1_, r2_, add_i, add_s, add_t, sub_i, mul_i, int_o, cmp_o, isn_, ix_t, ix_r, ix_s, len_t2, len_t3, len_t4, len_t5, len_r, int1_i, two_, tuple_t, tuple_r, list_t, list_r, str_i, sl_t, sl_r, rev_t, rev_r, lo_l, lo_r, isi_t_t, isi_i_t, isi_s_s, isi_i_i, isi_i_b, isi_b_b, at0, at1, at2, at3, eq_i, eq_s, ol_s, vr_s, tb_b, ti_i, Br_t, Br_f, List.getElem?_cons_zero, List.getElem?_cons_succ, List.set_cons_zero, List.set_cons_succ, true_and, eq_self, Bool.not_true, Bool.not_false, Bool.false_eq_true, if_true, if_false, Nat.reduceLeDiff, ite_true, ite_false, ty_l e, app_ _ e, mx_ol x hs, atI_of (xs := ss.map D.int) (i := 0 + (n : Int)) (n := n) (x := .int ss[n]) (by omega) (by simp [hsn])]))
          refine ⟨Or.inr ⟨by decide, by decide⟩, Or.inl ⟨by decide, by decide⟩, by decide, ?_⟩
          (try simp only [skip_, seqset_, seqdrop_, seqasg_, ret_, retN_, if_, drop_, set_, asg_, for_, raise0_, raise1_, var_, c_, c2_, test_, and_, or_, not_, andV_, orV_, notV_, nil_, cons_, tup0_, tup1_, tup2_, tup3_, tup4_, tup5_, lst0_, lst1_, lst2_, lst3_, lst4_, lst5_, lst6_, lst7_, lst8_, lst9_, lst10_, lstv1_, lstv2_, lstv3_, lstv4_, lstv5_, b_, m_, call1_, call2_, call3_, call4_, call5_, neg_, slice_, none_, some_, rev_, comp_, gtup_, gn_nil, gn_cons, wipe_n, wipe_c, iseq_, sq_t, sq_r, r1_, r2_, add_i, add_s, add_t, sub_i, mul_i, int_o, cmp_o, isn_, ix_t, ix_r, ix_s, len_t2, len_t3, len_t4, len_t5, len_r, int1_i, two_, tuple_t, tuple_r, list_t, list_r, str_i, sl_t, sl_r, rev_t, rev_r, lo_l, lo_r, isi_t_t, isi_i_t, isi_s_s, isi_i_i, isi_i_b, isi_b_b, at0, at1, at2, at3, eq_i, eq_s, ol_s, vr_s, tb_b, ti_i, Br_t, Br_f, List.getElem?_cons_zero, List.getElem?_cons_succ, List.set_cons_zero, List.set_cons_succ, true_and, eq_self, Bool.not_true, Bool.not_false, Bool.false_eq_true, if_true, if_false, Nat.reduceLeDiff, ite_true, ite_false, ty_l e, app_ _ e, mx_ol x hs, atI_of (xs := ss.map D.int) (i := 0 + (n : Int)) (n := n) (x := .int ss[n]) (by omega) (by simp [hsn])]); (repeat (refine Nx.mk ?_; try simp only [skip_, seqset_, seqdrop_, seqasg_, ret_, retN_, if_, drop_, set_, asg_, for_, raise0_, raise1_, var_, c_, c2_, test_, and_, or_, not_, andV_, orV_, notV_, nil_, cons_, tup0_, tup1_, tup2_, tup3_, tup4_, tup5_, lst0_, lst1_, lst2_, lst3_, lst4_, lst5_, lst6_, lst7_, lst8_, lst9_, lst10_, lstv1_, lstv2_, lstv3_, lstv4_, lstv5_, b_, m_, call1_, call2_, call3_, call4_, call5_, neg_, slice_, none_, some_, rev_, comp_, gtup_, gn_nil, gn_cons, wipe_n, wipe_c, iseq_, sq_t, sq_r, r1_, r2_, add_i, add_s, add_t, sub_i, mul_i, int_o, cmp_o, isn_, ix_t, ix_r, ix_s, len_t2, len_t3, len_t4, len_t5, len_r, int1_i, two_, tuple_t, tuple_r, list_t, list_r, str_i, sl_t, sl_r, rev_t, rev_r, lo_l, lo_r, isi_t_t, isi_i_t, isi_s_s, isi_i_i, isi_i_b, isi_b_b, at0, at1, at2, at3, eq_i, eq_s, ol_s, vr_s, tb_b, ti_i, Br_t, Br_f, List.getElem?_cons_zero, List.getElem?_cons_succ, List.set_cons_zero, List.set_cons_succ, true_and, eq_self, Bool.not_true, Bool.not_false, Bool.false_eq_true, if_true, if_false, Nat.reduceLeDiff, ite_true, ite_false, ty_l e, app_ _ e, mx_ol x hs, atI_of (xs := ss.map D.int) (i := 0 + (n : Int)) (n := n) (x := .int ss[n]) (by omega) (by simp [hsn])]))
          refine ⟨⟨by decide, by decide⟩, Or.inr ⟨by decide, by decide⟩, Or.inl ⟨by decide, by decide⟩, by decide, ?_⟩
          (try simp only [skip_, seqset_, seqdrop_, seqasg_, ret_, retN_, if_, drop_, set_, asg_, for_, raise0_, raise1_, var_, c_, c2_, test_, and_, or_, not_, andV_, orV_, notV_, nil_, cons_, tup0_, tup1_, tup2_, tup3_, tup4_, tup5_, lst0_, lst1_, lst2_, lst3_, lst4_, lst5_, lst6_, lst7_, lst8_, lst9_, lst10_, lstv1_, lstv2_, lstv3_, lstv4_, lstv5_, b_, m_, call1_, call2_, call3_, call4_, call5_, neg_, slice_, none_, some_, rev_, comp_, gtup_, gn_nil, gn_cons, wipe_n, wipe_c, iseq_, sq_t, sq_r, r1_, r2_, add_i, add_s, add_t, sub_i, mul_i, int_o, cmp_o, isn_, ix_t, ix_r, ix_s, len_t2, len_t3, len_t4, len_t5, len_r, int1_i, two_, tuple_t, tuple_r, list_t, list_r, str_i, sl_t, sl_r, rev_t, rev_r, lo_l, lo_r, isi_t_t, isi_i_t, isi_s_s, isi_i_i, isi_i_b, isi_b_b, at0, at1, at2, at3, eq_i, eq_s, ol_s, vr_s, tb_b, ti_i, Br_t, Br_f, List.getElem?_cons_zero, List.getElem?_cons_succ, List.set_cons_zero, List.set_cons_succ, true_and, eq_self, Bool.not_true, Bool.not_false, Bool.false_eq_true, if_true, if_false, Nat.reduceLeDiff, ite_true, ite_false, ty_l e, app_ _ e, mx_ol x hs, atI_of (xs := ss.map D.int) (i := 0 + (n : Int)) (n := n) (x := .int ss[n]) (by omega) (by simp [hsn])]); (repeat (refine Nx.mk ?_; try simp only [skip_, seqset_, seqdrop_, seqasg_, ret_, retN_, if_, drop_, set_, asg_, for_, raise0_, raise1_, var_, c_, c2_, test_, and_, or_, not_, andV_, orV_, notV_, nil_, cons_, tup0_, tup1_, tup2_, tup3_, tup4_, tup5_, lst0_, lst1_, lst2_, lst3_, lst4_, lst5_, lst6_, lst7_, lst8_, lst9_, lst10_, lstv1_, lstv2_, lstv3_, lstv4_, lstv5_, b_, m_, call1_, call2_, call3_, call4_, call5_, neg_, slice_, none_, some_, rev_, comp_, gtup_, gn_nil, gn_cons, wipe_n, wipe_c, iseq_, sq_t, sq_r, r1_, r2_, add_i, add_s, add_t, sub_i, mul_i, int_o, cmp_o, isn_, ix_t, ix_r, ix_s, len_t2, len_t3, len_t4, len_t5, len_r, int1_i, two_, tuple_t, tuple_r, list_t, list_r, str_i, sl_t, sl_r, rev_t, rev_r, lo_l, lo_r, isi_t_t, isi_i_t, isi_s_s, isi_i_i, isi_i_b, isi_b_b, at0, at1, at2, at3, eq_i, eq_s, ol_s, vr_s, tb_b, ti_i, Br_t, Br_f, List.getElem?_cons_zero, List.getElem?_cons_succ, List.set_cons_zero, List.set_cons_succ, true_and, eq_self, Bool.not_true, Bool.not_false, Bool.false_eq_true, if_true, if_false, Nat.reduceLeDiff, ite_true, ite_false, ty_l e, app_ _ e, mx_ol x hs, atI_of (xs := ss.map D.int) (i := 0 + (n : Int)) (n := n) (x := .int ss[n]) (by omega) (by simp [hsn])]))
          refine ⟨by omega, by rw [List.length_map]; exact size_le (by omega), hK2 _ _ ⟨_, _, _, _, rs ++ [_], rfl, mx_put x hp0, by rw [put_same]; simp; rfl, by simp [hn], ?_⟩⟩
          exact grow hn hsn (Int.fmod_nonneg_of_pos _ hpz.1) (Int.fmod_lt_of_pos _ hpz.1) hb
        · rintro _ M' ⟨c, m, o, o', rs, rfl, x, e, hn, hb⟩
          exact hK _ _ ⟨c, m, o, o', rs, rfl, x, e, by simpa [rng_len] using hn, hb⟩
      · rintro _ M' ⟨c, m, o, o', rs, rfl, x, e, hn, hb⟩
        (try simp only [skip_, seqset_, seqdrop_, seqasg_, ret_, retN_, if_, drop_, set_, asg_, for_, raise0_, raise1_, var_, c_, c2_, test_, and_, or_, not_, andV_, orV_, notV_, nil_, cons_, tup0_, tup1_, tup2_, tup3_, tup4_, tup5_, lst0_, lst1_, lst2_, lst3_, lst4_, lst5_, lst6_, lst7_, lst8_, lst9_, lst10_, lstv1_, lstv2_, lstv3_, lstv4_, lstv5_, b_, m_, call1_, call2_, call3_, call4_, call5_, neg_, slice_, none_, some_, rev_, comp_, gtup_, gn_nil, gn_cons, wipe_n, wipe_c, iseq_, sq_t, sq_r, r1_, r2_, add_i, add_s, add_t, sub_i, mul_i, int_o, cmp_o, isn_, ix_t, ix_r, ix_s, len_t2, len_t3, len_t4, len_t5, len_r, int1_i, two_, tuple_t, tuple_r, list_t, list_r, str_i, sl_t, sl_r, rev_t, rev_r, lo_l, lo_r, isi_t_t, isi_i_t, isi_s_s, isi_i_i, isi_i_b, isi_b_b, at0, at1, at2, at3, eq_i, eq_s, ol_s, vr_s, tb_b, ti_i, Br_t, Br_f, List.getElem?_cons_zero, List.getElem?_cons_succ, List.set_cons_zero, List.set_cons_succ, true_and, eq_self, Bool.not_true, Bool.not_false, Bool.false_eq_true, if_true, if_false, Nat.reduceLeDiff, ite_true, ite_false]); (repeat (refine Nx.mk ?_; try simp only [skip_, seqset_, seqdrop_, seqasg_, ret_, retN_, if_, drop_, set_, asg_, for_, raise0_, raise1_, var_, c_, c2_, test_, and_, or_, not_, andV_, orV_, notV_, nil_, cons_, tup0_, tup1_, tup2_, tup3_, tup4_, tup5_, lst0_, lst1_, lst2_, lst3_, lst4_, lst5_, lst6_, lst7_, lst8_, lst9_, lst10_, lstv1_, lstv2_, lstv3_, lstv4_, lstv5_, b_, m_, call1_, call2_, call3_, call4_, call5_, neg_, slice_, none_, some_, rev_, comp_, gtup_, gn_nil, gn_cons, wipe_n, wipe_c, iseq_, sq_t, sq_r, r1_, r2_, add_i, add_s, add_t, sub_i, mul_i, int_o, cmp_o, isn_, ix_t, ix_r, ix_s, len_t2, len_t3, len_t4, len_t5, len_r, int1_i, two_, tuple_t, tuple_r, list_t, list_r, str_i, sl_t, sl_r, rev_t, rev_r, lo_l, lo_r, isi_t_t, isi_i_t, isi_s_s, isi_i_i, isi_i_b, isi_b_b, at0, at1, at2, at3, eq_i, eq_s, ol_s, vr_s, tb_b, ti_i, Br_t, Br_f, List.getElem?_cons_zero, List.getElem?_cons_succ, List.set_cons_zero, List.set_cons_succ, true_and, eq_self, Bool.not_true, Bool.not_false, Bool.false_eq_true, if_true, if_false, Nat.reduceLeDiff, ite_true, ite_false]))
        exact hQ p _ _ M' hp0 x e (dr_of hn hb)

/-! ### words -/
def Nm (n : Nat) (w : Str) : Prop := ∃ (c : Nat) (t : Str), w = (⟨#[c]⟩ : Str) ++ (toString (n : Int) : Str) ++ t ∧ w.length ≤ 10
theorem digits_ok : ∀ n ∈ List.range 100, (toString (n : Int) : Str).length ≤ 2 ∧ PyData.strOk (toString (n : Int) : Str) = true ∧ ((n : Int)).natAbs.log2 < 1920 := by decide +kernel
theorem str_len_app (x y : Str) : (x ++ y).length = x.length + y.length := by
  show (x.cps ++ y.cps).size = _
  exact Array.size_append
theorem word_sp {f t : Int} {n : Nat} (hn : n < 100) (hQ : ∀ w M', MX M M' → Nm n w → Q (.str w) M') : cf_l_word K g [.int f, .int n, .int t] M Q E := by
  show R_l_word K g ⟨_, _, _⟩ [some (.int f), some (.int n), some (.int t), none, none] M
  unfold R_l_word
  (try simp only [skip_, seqset_, seqdrop_, seqasg_, ret_, retN_, if_, drop_, set_, asg_, for_, raise0_, raise1_, var_, c_, c2_, test_, and_, or_, not_, andV_, orV_, notV_, nil_, cons_, tup0_, tup1_, tup2_, tup3_, tup4_, tup5_, lst0_, lst1_, lst2_, lst3_, lst4_, lst5_, lst6_, lst7_, lst8_, lst9_, lst10_, lstv1_, lstv2_, lstv3_, lstv4_, lstv5_, b_, m_, call1_, call2_, call3_, call4_, call5_, neg_, slice_, none_, some_, rev_, comp_, gtup_, gn_nil, gn_cons, wipe_n, wipe_c, iseq_, sq_t, sq_r, r1_, r2_, add_i, add_s, add_t, sub_i, mul_i, int_o, cmp_o, isn_, ix_t, ix_r, ix_s, len_t2, len_t3, len_t4, len_t5, len_r, int1_i, two_, tuple_t, tuple_r, list_t, list_r, str_i, sl_t, sl_r, rev_t, rev_r, lo_l, lo_r, isi_t_t, isi_i_t, isi_s_s, isi_i_i, isi_i_b, isi_b_b, at0, at1, at2, at3, eq_i, eq_s, ol_s, vr_s, tb_b, ti_i, Br_t, Br_f, List.getElem?_cons_zero, List.getElem?_cons_succ, List.set_cons_zero, List.set_cons_succ, true_and, eq_self, Bool.not_true, Bool.not_false, Bool.false_eq_true, if_true, if_false, Nat.reduceLeDiff, ite_true, ite_false]); (repeat (refine Nx.mk ?_; try simp only [skip_, seqset_, seqdrop_, seqasg_, ret_, retN_, if_, drop_, set_, asg_, for_, raise0_, raise1_, var_, c_, c2_, test_, and_, or_, not_, andV_, orV_, notV_, nil_, cons_, tup0_, tup1_, tup2_, tup3_, tup4_, tup5_, lst0_, lst1_, lst2_, lst3_, lst4_, lst5_, lst6_, lst7_, lst8_, lst9_, lst10_, lstv1_, lstv2_, lstv3_, lstv4_, lstv5_, b_, m_, call1_, call2_, call3_, call4_, call5_, neg_, slice_, none_, some_, rev_, comp_, gtup_, gn_nil, gn_cons, wipe_n, wipe_c, iseq_, sq_t, sq_r, r1_, r2_, add_i, add_s, add_t, sub_i, mul_i, int_o, cmp_o, isn_, ix_t, ix_r, ix_s, len_t2, len_t3, len_t4, len_t5, len_r, int1_i, two_, tuple_t, tuple_r, list_t, list_r, str_i, sl_t, sl_r, rev_t, rev_r, lo_l, lo_r, isi_t_t, isi_i_t, isi_s_s, isi_i_i, isi_i_b, isi_b_b, at0, at1, at2, at3, eq_i, eq_s, ol_s, vr_s, tb_b, ti_i, Br_t, Br_f, List.getElem?_cons_zero, List.getElem?_cons_succ, List.set_cons_zero, List.set_cons_succ, true_and, eq_self, Bool.not_true, Bool.not_false, Bool.false_eq_true, if_true, if_false, Nat.reduceLeDiff, ite_true, ite_false]))
  refine newL_i fun p M1 hp0 x1 e1 => ?_
  obtain ⟨d1, d2, d3⟩ := digits_ok n (List.mem_range.mpr hn)
  have b1 := Int.fmod_nonneg_of_pos f (show (0 : Int) < 26 by decide)
  have b2 := Int.fmod_lt_of_pos f (show (0 : Int) < 26 by decide)
  have b3 := Int.fmod_nonneg_of_pos t (show (0 : Int) < 6 by decide)
  have b4 := Int.fmod_lt_of_pos t (show (0 : Int) < 6 by decide)
  have hl : ("qwertzuiopasdfghjklyxcvbnm" : Str).cps.toList.length = 26 := by decide +kernel
  obtain ⟨c, hc⟩ : ∃ c, atI ("qwertzuiopasdfghjklyxcvbnm" : Str).cps.toList (f.fmod 26) = some c := ⟨_, atI_of (n := (f.fmod 26).toNat) (by omega) (List.getElem?_eq_getElem (by omega))⟩
  obtain ⟨tl, ht, ht2⟩ : ∃ tl : Str, atI [D.str "", D.str "b", D.str "x7", D.str "m", D.str "zz", D.str "k0k"] (t.fmod 6) = some (.str tl) ∧ tl.length ≤ 3 := by
    have : t.fmod 6 = 0 ∨ t.fmod 6 = 1 ∨ t.fmod 6 = 2 ∨ t.fmod 6 = 3 ∨ t.fmod 6 = 4 ∨ t.fmod 6 = 5 := by omega
    rcases this with h | h | h | h | h | h <;> rw [h]
    · exact ⟨_, atI_of (n := 0) rfl rfl, by decide +kernel⟩
    · exact ⟨_, atI_of (n := 1) rfl rfl, by decide +kernel⟩
    · exact ⟨_, atI_of (n := 2) rfl rfl, by decide +kernel⟩
    · exact ⟨_, atI_of (n := 3) rfl rfl, by decide +kernel⟩
    · exact ⟨_, atI_of (n := 4) rfl rfl, by decide +kernel⟩
    · exact ⟨_, atI_of (n := 5) rfl rfl, by decide +kernel⟩
  have l1 : (⟨#[c]⟩ : Str).length = 1 := rfl
  (try simp only [skip_, seqset_, seqdrop_, seqasg_, ret_, retN_, if_, drop_, set_, asg_, for_, raise0_, raise1_, var_, c_, c2_, test_, and_, or_, not_, andV_, orV_, notV_, nil_, cons_, tup0_, tup1_, tup2_, tup3_, tup4_, tup5_, lst0_, lst1_, lst2_, lst3_, lst4_, lst5_, lst6_, lst7_, lst8_, lst9_, lst10_, lstv1_, lstv2_, lstv3_, lstv4_, lstv5_, b_, m_, call1_, call2_, call3_, call4_, call5_, neg_, slice_, none_, some_, rev_, comp_, gtup_, gn_nil, gn_cons, wipe_n, wipe_c, iseq_, sq_t, sq_r, r1_, r2_, add_i, add_s, add_t, sub_i, mul_i, int_o, cmp_o, isn_, ix_t, ix_r, ix_s, len_t2, len_t3, len_t4, len_t5, len_r, int1_i, two_, tuple_t, tuple_r, list_t, list_r, str_i, sl_t, sl_r, rev_t, rev_r, lo_l, lo_r, isi_t_t, isi_i_t, isi_s_s, isi_i_i, isi_i_b, isi_b_b, at0, at1, at2, at3, eq_i, eq_s, ol_s, vr_s, tb_b, ti_i, Br_t, Br_f, List.getElem?_cons_zero, List.getElem?_cons_succ, List.set_cons_zero, List.set_cons_succ, true_and, eq_self, Bool.not_true, Bool.not_false, Bool.false_eq_true, if_true, if_false, Nat.reduceLeDiff, ite_true, ite_false, hc, ht, e1]); (repeat (refine Nx.mk ?_; try simp only [skip_, seqset_, seqdrop_, seqasg_, ret_, retN_, if_, drop_, set_, asg_, for_, raise0_, raise1_, var_, c_, c2_, test_, and_, or_, not_, andV_, orV_, notV_, nil_, cons_, tup0_, tup1_, tup2_, tup3_, tup4_, tup5_, lst0_, lst1_, lst2_, lst3_, lst4_, lst5_, lst6_, lst7_, lst8_, lst9_, lst10_, lstv1_, lstv2_, lstv3_, lstv4_, lstv5_, b_, m_, call1_, call2_, call3_, call4_, call5_, neg_, slice_, none_, some_, rev_, comp_, gtup_, gn_nil, gn_cons, wipe_n, wipe_c, iseq_, sq_t, sq_r, r1_, r2_, add_i, add_s, add_t, sub_i, mul_i, int_o, cmp_o, isn_, ix_t, ix_r, ix_s, len_t2, len_t3, len_t4, len_t5, len_r, int1_i, two_, tuple_t, tuple_r, list_t, list_r, str_i, sl_t, sl_r, rev_t, rev_r, lo_l, lo_r, isi_t_t, isi_i_t, isi_s_s, isi_i_i, isi_i_b, isi_b_b, at0, at1, at2, at3, eq_i, eq_s, ol_s, vr_s, tb_b, ti_i, Br_t, Br_f, List.getElem?_cons_zero, List.getElem?_cons_succ, List.set_cons_zero, List.set_cons_succ, true_and, eq_self, Bool.not_true, Bool.not_false, Bool.false_eq_true, if_true, if_false, Nat.reduceLeDiff, ite_true, ite_false, hc, ht, e1]))
  refine ⟨by decide, by decide +kernel, d3, d2, size_le (by omega), by decide, size_le (by rw [str_len_app]; omega), hQ _ _ x1 ⟨c, tl, rfl, by rw [str_len_app, str_len_app]; omega⟩⟩

/-! ### cities -/
def Ln (j : Nat) (d : D) : Prop := ∃ (nm w : Str) (path : List Str), d = .tup [.str nm, .str w, .tup (path.map .str)] ∧ (Nm (40 + j) nm ∨ j < 2 ∧ Nm j nm) ∧ 0 < path.length ∧ path.length ≤ 8
def Sp (j : Nat) (d : D) : Prop := ∃ (nm : Str) (n : Int), d = .tup [.str nm, .int n] ∧ Nm j nm
theorem all_snoc {G : Nat → D → Prop} {l : List D} {y : D} (h : ∀ n d, l[n]? = some d → G n d) (hy : G l.length y) : ∀ n d, (l ++ [y])[n]? = some d → G n d := fun n d e => by
  by_cases w : n < l.length
  · rw [List.getElem?_append_left w] at e; exact h n d e
  · rw [List.getElem?_append_right (by omega)] at e
    have : n = l.length := by
      rcases Nat.lt_or_ge (n - l.length) 1 with u | u
      · omega
      · rw [List.getElem?_eq_none (by simpa using u)] at e; cases e
    subst this
    rw [Nat.sub_self] at e
    cases e
    exact hy
theorem rep_map (xs : List Int) (k : Int) : repL (xs.map D.int) k = ((List.replicate k.toNat xs).flatten).map D.int := by simp [repL, List.map_flatten, List.map_replicate]
theorem rep_len (xs : List Int) (k : Nat) : ((List.replicate k xs).flatten).length = k * xs.length := by simp
theorem rep_at (xs : List Int) : ∀ (k q m : Nat), q < k → m < xs.length → ((List.replicate k xs).flatten)[q * xs.length + m]? = xs[m]?
  | 0, q, m, h, _ => absurd h (by omega)
  | k + 1, 0, m, h, hm => by
    simp only [List.replicate_succ, List.flatten_cons, Nat.zero_mul, Nat.zero_add]
    exact List.getElem?_append_left hm
  | k + 1, q + 1, m, h, hm => by
    simp only [List.replicate_succ, List.flatten_cons]
    rw [List.getElem?_append_right (by rw [Nat.succ_mul]; omega), show (q + 1) * xs.length + m - xs.length = q * xs.length + m by rw [Nat.succ_mul]; omega]
    exact rep_at xs k q m (by omega) hm
theorem rep_mem {xs : List Int} {k : Nat} {x : Int} (h : x ∈ (List.replicate k xs).flatten) : x ∈ xs := by
  obtain ⟨l, h1, h2⟩ := List.mem_flatten.mp h
  rw [(List.mem_replicate.mp h1).2] at h2
  exact h2
theorem erase_map {α β : Type} (f : α → β) : ∀ (l : List α) (n : Nat), (l.map f).eraseIdx n = (l.eraseIdx n).map f
  | [], n => rfl
  | a :: l, 0 => rfl
  | a :: l, n + 1 => by simp [erase_map f l n]
def Sz (many count : Nat) : List Int := [7, 4] ++ (List.replicate many [26, 6, 8]).flatten ++ (List.replicate count [26, 6, 4, 9, 9, 9, 9, 9, 8]).flatten
theorem city_sp {a : Addr} {zs : List Int} {k : Int} (hz : lstOf (M a) = some (zs.map .int)) (hk : 0 ≤ k ∧ k < 1000)
    (hQ : ∀ sts lns M', MX M M' → (∀ n d, sts[n]? = some d → Sp n d) → (∀ n d, lns[n]? = some d → Ln n d) → 0 < lns.length → lns.length ≤ 4 → Q (.tup [.tup sts, .tup lns, .tup [], .tup []]) M') : cf_l_city K g [.ref a, .int k] M Q E := by
  show R_l_city K g ⟨_, _, _⟩ [some (.ref a), some (.int k), none, none, none, none, none, none, none, none, none, none, none, none, none] M
  unfold R_l_city
  (try simp only [skip_, seqset_, seqdrop_, seqasg_, ret_, retN_, if_, drop_, set_, asg_, for_, raise0_, raise1_, var_, c_, c2_, test_, and_, or_, not_, andV_, orV_, notV_, nil_, cons_, tup0_, tup1_, tup2_, tup3_, tup4_, tup5_, lst0_, lst1_, lst2_, lst3_, lst4_, lst5_, lst6_, lst7_, lst8_, lst9_, lst10_, lstv1_, lstv2_, lstv3_, lstv4_, lstv5_, b_, m_, call1_, call2_, call3_, call4_, call5_, neg_, slice_, none_, some_, rev_, comp_, gtup_, gn_nil, gn_cons, wipe_n, wipe_c, iseq_, sq_t, sq_r, r1_, r2_, add_i, add_s, add_t, sub_i, mul_i, int_o, cmp_o, isn_, ix_t, ix_r, ix_s, len_t2, len_t3, len_t4, len_t5, len_r, int1_i, two_, tuple_t, tuple_r, list_t, list_r, str_i, sl_t, sl_r, rev_t, rev_r, lo_l, lo_r, isi_t_t, isi_i_t, isi_s_s, isi_i_i, isi_i_b, isi_b_b, at0, at1, at2, at3, eq_i, eq_s, ol_s, vr_s, tb_b, ti_i, Br_t, Br_f, List.getElem?_cons_zero, List.getElem?_cons_succ, List.set_cons_zero, List.set_cons_succ, true_and, eq_self, Bool.not_true, Bool.not_false, Bool.false_eq_true, if_true, if_false, Nat.reduceLeDiff, ite_true, ite_false]); (repeat (refine Nx.mk ?_; try simp only [skip_, seqset_, seqdrop_, seqasg_, ret_, retN_, if_, drop_, set_, asg_, for_, raise0_, raise1_, var_, c_, c2_, test_, and_, or_, not_, andV_, orV_, notV_, nil_, cons_, tup0_, tup1_, tup2_, tup3_, tup4_, tup5_, lst0_, lst1_, lst2_, lst3_, lst4_, lst5_, lst6_, lst7_, lst8_, lst9_, lst10_, lstv1_, lstv2_, lstv3_, lstv4_, lstv5_, b_, m_, call1_, call2_, call3_, call4_, call5_, neg_, slice_, none_, some_, rev_, comp_, gtup_, gn_nil, gn_cons, wipe_n, wipe_c, iseq_, sq_t, sq_r, r1_, r2_, add_i, add_s, add_t, sub_i, mul_i, int_o, cmp_o, isn_, ix_t, ix_r, ix_s, len_t2, len_t3, len_t4, len_t5, len_r, int1_i, two_, tuple_t, tuple_r, list_t, list_r, str_i, sl_t, sl_r, rev_t, rev_r, lo_l, lo_r, isi_t_t, isi_i_t, isi_s_s, isi_i_i, isi_i_b, isi_b_b, at0, at1, at2, at3, eq_i, eq_s, ol_s, vr_s, tb_b, ti_i, Br_t, Br_f, List.getElem?_cons_zero, List.getElem?_cons_succ, List.set_cons_zero, List.set_cons_succ, true_and, eq_self, Bool.not_true, Bool.not_false, Bool.false_eq_true, if_true, if_false, Nat.reduceLeDiff, ite_true, ite_false]))
  refine newL_i fun p1 M1 hp1 x1 e1 => draws_sp (ss := [7, 4]) (mx_ol x1 hz) hk (lst_ol e1) (by decide) (by decide) fun p2 ds2 r2 M2 hp2 x2 e2 D2 => ?_
  have b0 := D2.bd 0 7 rfl
  have b1 := D2.bd 1 4 rfl
  have a0 := D2.at_ 0 (by decide) (by decide)
  have a1 := D2.at_ 1 (by decide) (by decide)
  (try simp only [skip_, seqset_, seqdrop_, seqasg_, ret_, retN_, if_, drop_, set_, asg_, for_, raise0_, raise1_, var_, c_, c2_, test_, and_, or_, not_, andV_, orV_, notV_, nil_, cons_, tup0_, tup1_, tup2_, tup3_, tup4_, tup5_, lst0_, lst1_, lst2_, lst3_, lst4_, lst5_, lst6_, lst7_, lst8_, lst9_, lst10_, lstv1_, lstv2_, lstv3_, lstv4_, lstv5_, b_, m_, call1_, call2_, call3_, call4_, call5_, neg_, slice_, none_, some_, rev_, comp_, gtup_, gn_nil, gn_cons, wipe_n, wipe_c, iseq_, sq_t, sq_r, r1_, r2_, add_i, add_s, add_t, sub_i, mul_i, int_o, cmp_o, isn_, ix_t, ix_r, ix_s, len_t2, len_t3, len_t4, len_t5, len_r, int1_i, two_, tuple_t, tuple_r, list_t, list_r, str_i, sl_t, sl_r, rev_t, rev_r, lo_l, lo_r, isi_t_t, isi_i_t, isi_s_s, isi_i_i, isi_i_b, isi_b_b, at0, at1, at2, at3, eq_i, eq_s, ol_s, vr_s, tb_b, ti_i, Br_t, Br_f, List.getElem?_cons_zero, List.getElem?_cons_succ, List.set_cons_zero, List.set_cons_succ, true_and, eq_self, Bool.not_true, Bool.not_false, Bool.false_eq_true, if_true, if_false, Nat.reduceLeDiff, ite_true, ite_false, e2, a0, a1]); (repeat (refine Nx.mk ?_; try simp only [skip_, seqset_, seqdrop_, seqasg_, ret_, retN_, if_, drop_, set_, asg_, for_, raise0_, raise1_, var_, c_, c2_, test_, and_, or_, not_, andV_, orV_, notV_, nil_, cons_, tup0_, tup1_, tup2_, tup3_, tup4_, tup5_, lst0_, lst1_, lst2_, lst3_, lst4_, lst5_, lst6_, lst7_, lst8_, lst9_, lst10_, lstv1_, lstv2_, lstv3_, lstv4_, lstv5_, b_, m_, call1_, call2_, call3_, call4_, call5_, neg_, slice_, none_, some_, rev_, comp_, gtup_, gn_nil, gn_cons, wipe_n, wipe_c, iseq_, sq_t, sq_r, r1_, r2_, add_i, add_s, add_t, sub_i, mul_i, int_o, cmp_o, isn_, ix_t, ix_r, ix_s, len_t2, len_t3, len_t4, len_t5, len_r, int1_i, two_, tuple_t, tuple_r, list_t, list_r, str_i, sl_t, sl_r, rev_t, rev_r, lo_l, lo_r, isi_t_t, isi_i_t, isi_s_s, isi_i_i, isi_i_b, isi_b_b, at0, at1, at2, at3, eq_i, eq_s, ol_s, vr_s, tb_b, ti_i, Br_t, Br_f, List.getElem?_cons_zero, List.getElem?_cons_succ, List.set_cons_zero, List.set_cons_succ, true_and, eq_self, Bool.not_true, Bool.not_false, Bool.false_eq_true, if_true, if_false, Nat.reduceLeDiff, ite_true, ite_false, e2, a0, a1]))
  simp only [Int.ofNat_zero, Int.natCast_zero, Int.natCast_one, Int.ofNat_one] at b0 b1
  obtain ⟨many, hm⟩ : ∃ m : Nat, 2 + r2 0 = m := ⟨(2 + r2 0).toNat, by omega⟩
  obtain ⟨count, hcn⟩ : ∃ m : Nat, 1 + r2 1 = m := ⟨(1 + r2 1).toNat, by omega⟩
  rw [hm, hcn]
  refine newL_i fun p3 M3 hp3 x3 e3 => newL_i fun p4 M4 hp4 x4 e4 => ?_
  rw [repl_ (xs := [26, 6, 8].map D.int) e4, rep_map]
  refine ⟨by omega, by omega, size_le (by simp; omega), newL_i fun p5 M5 hp5 x5 e5 => ?_⟩
  rw [add_l (xs := [7, 4].map D.int) (x5 _ _ (x4 _ _ e3)) e5, ← List.map_append]
  refine ⟨size_le (by simp; omega), newL_i fun p6 M6 hp6 x6 e6 => newL_i fun p7 M7 hp7 x7 e7 => ?_⟩
  rw [repl_ (xs := [26, 6, 4, 9, 9, 9, 9, 9, 8].map D.int) e7, rep_map]
  refine ⟨by omega, by omega, size_le (by simp; omega), newL_i fun p8 M8 hp8 x8 e8 => ?_⟩
  rw [add_l (x8 _ _ (x7 _ _ e6)) e8, ← List.map_append]
  refine ⟨size_le (by simp; omega), newL_i fun p9 M9 hp9 x9 e9 => ?_⟩
  simp only [Int.toNat_natCast] at e9
  have e9 : M9 p9 = some (.lst ((Sz many count).map .int)) := e9
  have X9 : MX M M9 := mxT x1 (mxT x2 (mxT x3 (mxT x4 (mxT x5 (mxT x6 (mxT x7 (mxT x8 x9)))))))
  have hlen : (Sz many count).length = 2 + 3 * many + 9 * count := by simp [Sz]; omega
  refine draws_sp (mx_ol X9 hz) hk (lst_ol e9) (fun x hx => ?_) (by rw [hlen]; omega) fun pd ds r MD hpd xD eD Dd => ?_
  · simp only [Sz, List.mem_append] at hx
    rcases hx with (hx | hx) | hx
    · simp at hx; omega
    · have := rep_mem hx; simp at this; omega
    · have := rep_mem hx; simp at this; omega
  have XD := mxT X9 xD
  have at2 : ∀ i : Int, 0 ≤ i → i < 2 + 3 * (many : Int) + 9 * (count : Int) → atI ds i = some (.int (r i)) := fun i h1 h2 => Dd.at_ i h1 (by rw [hlen]; omega)
  have bst : ∀ j : Nat, j < many → 0 ≤ r (2 + 3 * (j : Int) + 2) ∧ r (2 + 3 * (j : Int) + 2) < 8 := fun j hj => by
    have := Dd.bd (2 + 3 * j + 2) 8 (by
      have q := rep_at [26, 6, 8] many j 2 hj (by decide)
      simp only [List.length_cons, List.length_nil] at q
      simp only [Sz]
      rw [List.getElem?_append_left (by simp; omega), List.getElem?_append_right (by simp)]
      rw [show 2 + 3 * j + 2 - ([7, 4] : List Int).length = j * (0 + 1 + 1 + 1) + 2 by simp; omega, q]
      rfl)
    simpa using this
  have bln : ∀ j : Nat, j < count → 0 ≤ r (2 + 3 * (many : Int) + 9 * (j : Int) + 2) ∧ r (2 + 3 * (many : Int) + 9 * (j : Int) + 2) < 4 := fun j hj => by
    have := Dd.bd (2 + 3 * many + 9 * j + 2) 4 (by
      have q := rep_at [26, 6, 4, 9, 9, 9, 9, 9, 8] count j 2 hj (by decide)
      simp only [List.length_cons, List.length_nil] at q
      simp only [Sz]
      rw [List.getElem?_append_right (by simp; omega)]
      rw [show 2 + 3 * many + 9 * j + 2 - ([7, 4] ++ (List.replicate many [26, 6, 8]).flatten : List Int).length = j * (0 + 1 + 1 + 1 + 1 + 1 + 1 + 1 + 1 + 1) + 2 by (simp; try omega), q]
      rfl)
    simpa using this
  (try simp only [skip_, seqset_, seqdrop_, seqasg_, ret_, retN_, if_, drop_, set_, asg_, for_, raise0_, raise1_, var_, c_, c2_, test_, and_, or_, not_, andV_, orV_, notV_, nil_, cons_, tup0_, tup1_, tup2_, tup3_, tup4_, tup5_, lst0_, lst1_, lst2_, lst3_, lst4_, lst5_, lst6_, lst7_, lst8_, lst9_, lst10_, lstv1_, lstv2_, lstv3_, lstv4_, lstv5_, b_, m_, call1_, call2_, call3_, call4_, call5_, neg_, slice_, none_, some_, rev_, comp_, gtup_, gn_nil, gn_cons, wipe_n, wipe_c, iseq_, sq_t, sq_r, r1_, r2_, add_i, add_s, add_t, sub_i, mul_i, int_o, cmp_o, isn_, ix_t, ix_r, ix_s, len_t2, len_t3, len_t4, len_t5, len_r, int1_i, two_, tuple_t, tuple_r, list_t, list_r, str_i, sl_t, sl_r, rev_t, rev_r, lo_l, lo_r, isi_t_t, isi_i_t, isi_s_s, isi_i_i, isi_i_b, isi_b_b, at0, at1, at2, at3, eq_i, eq_s, ol_s, vr_s, tb_b, ti_i, Br_t, Br_f, List.getElem?_cons_zero, List.getElem?_cons_succ, List.set_cons_zero, List.set_cons_succ, true_and, eq_self, Bool.not_true, Bool.not_false, Bool.false_eq_true, if_true, if_false, Nat.reduceLeDiff, ite_true, ite_false]); (repeat (refine Nx.mk ?_; try simp only [skip_, seqset_, seqdrop_, seqasg_, ret_, retN_, if_, drop_, set_, asg_, for_, raise0_, raise1_, var_, c_, c2_, test_, and_, or_, not_, andV_, orV_, notV_, nil_, cons_, tup0_, tup1_, tup2_, tup3_, tup4_, tup5_, lst0_, lst1_, lst2_, lst3_, lst4_, lst5_, lst6_, lst7_, lst8_, lst9_, lst10_, lstv1_, lstv2_, lstv3_, lstv4_, lstv5_, b_, m_, call1_, call2_, call3_, call4_, call5_, neg_, slice_, none_, some_, rev_, comp_, gtup_, gn_nil, gn_cons, wipe_n, wipe_c, iseq_, sq_t, sq_r, r1_, r2_, add_i, add_s, add_t, sub_i, mul_i, int_o, cmp_o, isn_, ix_t, ix_r, ix_s, len_t2, len_t3, len_t4, len_t5, len_r, int1_i, two_, tuple_t, tuple_r, list_t, list_r, str_i, sl_t, sl_r, rev_t, rev_r, lo_l, lo_r, isi_t_t, isi_i_t, isi_s_s, isi_i_i, isi_i_b, isi_b_b, at0, at1, at2, at3, eq_i, eq_s, ol_s, vr_s, tb_b, ti_i, Br_t, Br_f, List.getElem?_cons_zero, List.getElem?_cons_succ, List.set_cons_zero, List.set_cons_succ, true_and, eq_self, Bool.not_true, Bool.not_false, Bool.false_eq_true, if_true, if_false, Nat.reduceLeDiff, ite_true, ite_false]))
  refine newL_i fun ps MS hps xS eS => ?_
  (try refine Nx.mk ?_); refine seq_m (fun ρ' M' => ∃ (o7 o9 : Option D) (sts : List D), ρ' = [some (.ref a), some (.int k), some (.ref p2), some (.int many), some (.int count), some (.ref pd), some (.ref ps), o7, none, o9, none, none, none, none, none] ∧ MX MD M' ∧ M' ps = some (.lst sts) ∧ sts.length = many ∧ ∀ n d, sts[n]? = some d → Sp n d) (fun Kn hK => ?_) ?_
  · (try simp only [skip_, seqset_, seqdrop_, seqasg_, ret_, retN_, if_, drop_, set_, asg_, for_, raise0_, raise1_, var_, c_, c2_, test_, and_, or_, not_, andV_, orV_, notV_, nil_, cons_, tup0_, tup1_, tup2_, tup3_, tup4_, tup5_, lst0_, lst1_, lst2_, lst3_, lst4_, lst5_, lst6_, lst7_, lst8_, lst9_, lst10_, lstv1_, lstv2_, lstv3_, lstv4_, lstv5_, b_, m_, call1_, call2_, call3_, call4_, call5_, neg_, slice_, none_, some_, rev_, comp_, gtup_, gn_nil, gn_cons, wipe_n, wipe_c, iseq_, sq_t, sq_r, r1_, r2_, add_i, add_s, add_t, sub_i, mul_i, int_o, cmp_o, isn_, ix_t, ix_r, ix_s, len_t2, len_t3, len_t4, len_t5, len_r, int1_i, two_, tuple_t, tuple_r, list_t, list_r, str_i, sl_t, sl_r, rev_t, rev_r, lo_l, lo_r, isi_t_t, isi_i_t, isi_s_s, isi_i_i, isi_i_b, isi_b_b, at0, at1, at2, at3, eq_i, eq_s, ol_s, vr_s, tb_b, ti_i, Br_t, Br_f, List.getElem?_cons_zero, List.getElem?_cons_succ, List.set_cons_zero, List.set_cons_succ, true_and, eq_self, Bool.not_true, Bool.not_false, Bool.false_eq_true, if_true, if_false, Nat.reduceLeDiff, ite_true, ite_false]); (repeat (refine Nx.mk ?_; try simp only [skip_, seqset_, seqdrop_, seqasg_, ret_, retN_, if_, drop_, set_, asg_, for_, raise0_, raise1_, var_, c_, c2_, test_, and_, or_, not_, andV_, orV_, notV_, nil_, cons_, tup0_, tup1_, tup2_, tup3_, tup4_, tup5_, lst0_, lst1_, lst2_, lst3_, lst4_, lst5_, lst6_, lst7_, lst8_, lst9_, lst10_, lstv1_, lstv2_, lstv3_, lstv4_, lstv5_, b_, m_, call1_, call2_, call3_, call4_, call5_, neg_, slice_, none_, some_, rev_, comp_, gtup_, gn_nil, gn_cons, wipe_n, wipe_c, iseq_, sq_t, sq_r, r1_, r2_, add_i, add_s, add_t, sub_i, mul_i, int_o, cmp_o, isn_, ix_t, ix_r, ix_s, len_t2, len_t3, len_t4, len_t5, len_r, int1_i, two_, tuple_t, tuple_r, list_t, list_r, str_i, sl_t, sl_r, rev_t, rev_r, lo_l, lo_r, isi_t_t, isi_i_t, isi_s_s, isi_i_i, isi_i_b, isi_b_b, at0, at1, at2, at3, eq_i, eq_s, ol_s, vr_s, tb_b, ti_i, Br_t, Br_f, List.getElem?_cons_zero, List.getElem?_cons_succ, List.set_cons_zero, List.set_cons_succ, true_and, eq_self, Bool.not_true, Bool.not_false, Bool.false_eq_true, if_true, if_false, Nat.reduceLeDiff, ite_true, ite_false]))
    refine ⟨by omega, ?_⟩
    refine for_0 (fun n ρ' M' => ∃ (o7 o9 : Option D) (sts : List D), ρ' = [some (.ref a), some (.int k), some (.ref p2), some (.int many), some (.int count), some (.ref pd), some (.ref ps), o7, none, o9, none, none, none, none, none] ∧ MX MD M' ∧ M' ps = some (.lst sts) ∧ sts.length = n ∧ ∀ n d, sts[n]? = some d → Sp n d) ⟨none, none, [], rfl, xS, eS, rfl, fun n d h => by simp at h⟩ (fun _ _ _ _ _ => trivial) ?_ ?_
    · rintro n d hd _ M' ⟨o7, o9, sts, rfl, x, e, hn, hb⟩
      obtain ⟨hn2, rfl⟩ := rng_at hd
      have hn2 : n < many := by simpa using hn2
      refine ⟨_, rfl, fun Kn2 hK2 => ?_⟩
      (try simp (disch := omega) only [skip_, seqset_, seqdrop_, seqasg_, ret_, retN_, if_, drop_, set_, asg_, for_, raise0_, raise1_, var_, c_, c2_, test_, and_, or_, not_, andV_, orV_, notV_, nil_, cons_, tup0_, tup1_, tup2_, tup3_, tup4_, tup5_, lst0_, lst1_, lst2_, lst3_, lst4_, lst5_, lst6_, lst7_, lst8_, lst9_, lst10_, lstv1_, lstv2_, lstv3_, lstv4_, lstv5_, b_, m_, call1_, call2_, call3_, call4_, call5_, neg_, slice_, none_, some_, rev_, comp_, gtup_, gn_nil, gn_cons, wipe_n, wipe_c, iseq_, sq_t, sq_r, r1_, r2_, add_i, add_s, add_t, sub_i, mul_i, int_o, cmp_o, isn_, ix_t, ix_r, ix_s, len_t2, len_t3, len_t4, len_t5, len_r, int1_i, two_, tuple_t, tuple_r, list_t, list_r, str_i, sl_t, sl_r, rev_t, rev_r, lo_l, lo_r, isi_t_t, isi_i_t, isi_s_s, isi_i_i, isi_i_b, isi_b_b, at0, at1, at2, at3, eq_i, eq_s, ol_s, vr_s, tb_b, ti_i, Br_t, Br_f, List.getElem?_cons_zero, List.getElem?_cons_succ, List.set_cons_zero, List.set_cons_succ, true_and, eq_self, Bool.not_true, Bool.not_false, Bool.false_eq_true, if_true, if_false, Nat.reduceLeDiff, ite_true, ite_false, ty_l e, mx_ol x (lst_ol eD), at2, Int.zero_add]); (repeat (refine Nx.mk ?_; try simp (disch := omega) only [skip_, seqset_, seqdrop_, seqasg_, ret_, retN_, if_, drop_, set_, asg_, for_, raise0_, raise1_, var_, c_, c2_, test_, and_, or_, not_, andV_, orV_, notV_, nil_, cons_, tup0_, tup1_, tup2_, tup3_, tup4_, tup5_, lst0_, lst1_, lst2_, lst3_, lst4_, lst5_, lst6_, lst7_, lst8_, lst9_, lst10_, lstv1_, lstv2_, lstv3_, lstv4_, lstv5_, b_, m_, call1_, call2_, call3_, call4_, call5_, neg_, slice_, none_, some_, rev_, comp_, gtup_, gn_nil, gn_cons, wipe_n, wipe_c, iseq_, sq_t, sq_r, r1_, r2_, add_i, add_s, add_t, sub_i, mul_i, int_o, cmp_o, isn_, ix_t, ix_r, ix_s, len_t2, len_t3, len_t4, len_t5, len_r, int1_i, two_, tuple_t, tuple_r, list_t, list_r, str_i, sl_t, sl_r, rev_t, rev_r, lo_l, lo_r, isi_t_t, isi_i_t, isi_s_s, isi_i_i, isi_i_b, isi_b_b, at0, at1, at2, at3, eq_i, eq_s, ol_s, vr_s, tb_b, ti_i, Br_t, Br_f, List.getElem?_cons_zero, List.getElem?_cons_succ, List.set_cons_zero, List.set_cons_succ, true_and, eq_self, Bool.not_true, Bool.not_false, Bool.false_eq_true, if_true, if_false, Nat.reduceLeDiff, ite_true, ite_false, ty_l e, mx_ol x (lst_ol eD), at2, Int.zero_add]))
      refine ⟨Or.inl ⟨by decide, by decide⟩, ?_⟩
      (try simp (disch := omega) only [skip_, seqset_, seqdrop_, seqasg_, ret_, retN_, if_, drop_, set_, asg_, for_, raise0_, raise1_, var_, c_, c2_, test_, and_, or_, not_, andV_, orV_, notV_, nil_, cons_, tup0_, tup1_, tup2_, tup3_, tup4_, tup5_, lst0_, lst1_, lst2_, lst3_, lst4_, lst5_, lst6_, lst7_, lst8_, lst9_, lst10_, lstv1_, lstv2_, lstv3_, lstv4_, lstv5_, b_, m_, call1_, call2_, call3_, call4_, call5_, neg_, slice_, none_, some_, rev_, comp_, gtup_, gn_nil, gn_cons, wipe_n, wipe_c, iseq_, sq_t, sq_r, r1_, r2_, add_i, add_s, add_t, sub_i, mul_i, int_o, cmp_o, isn_, ix_t, ix_r, ix_s, len_t2, len_t3, len_t4, len_t5, len_r, int1_i, two_, tuple_t, tuple_r, list_t, list_r, str_i, sl_t, sl_r, rev_t, rev_r, lo_l, lo_r, isi_t_t, isi_i_t, isi_s_s, isi_i_i, isi_i_b, isi_b_b, at0, at1, at2, at3, eq_i, eq_s, ol_s, vr_s, tb_b, ti_i, Br_t, Br_f, List.getElem?_cons_zero, List.getElem?_cons_succ, List.set_cons_zero, List.set_cons_succ, true_and, eq_self, Bool.not_true, Bool.not_false, Bool.false_eq_true, if_true, if_false, Nat.reduceLeDiff, ite_true, ite_false, ty_l e, mx_ol x (lst_ol eD), at2, Int.zero_add]); (repeat (refine Nx.mk ?_; try simp (disch := omega) only [skip_, seqset_, seqdrop_, seqasg_, ret_, retN_, if_, drop_, set_, asg_, for_, raise0_, raise1_, var_, c_, c2_, test_, and_, or_, not_, andV_, orV_, notV_, nil_, cons_, tup0_, tup1_, tup2_, tup3_, tup4_, tup5_, lst0_, lst1_, lst2_, lst3_, lst4_, lst5_, lst6_, lst7_, lst8_, lst9_, lst10_, lstv1_, lstv2_, lstv3_, lstv4_, lstv5_, b_, m_, call1_, call2_, call3_, call4_, call5_, neg_, slice_, none_, some_, rev_, comp_, gtup_, gn_nil, gn_cons, wipe_n, wipe_c, iseq_, sq_t, sq_r, r1_, r2_, add_i, add_s, add_t, sub_i, mul_i, int_o, cmp_o, isn_, ix_t, ix_r, ix_s, len_t2, len_t3, len_t4, len_t5, len_r, int1_i, two_, tuple_t, tuple_r, list_t, list_r, str_i, sl_t, sl_r, rev_t, rev_r, lo_l, lo_r, isi_t_t, isi_i_t, isi_s_s, isi_i_i, isi_i_b, isi_b_b, at0, at1, at2, at3, eq_i, eq_s, ol_s, vr_s, tb_b, ti_i, Br_t, Br_f, List.getElem?_cons_zero, List.getElem?_cons_succ, List.set_cons_zero, List.set_cons_succ, true_and, eq_self, Bool.not_true, Bool.not_false, Bool.false_eq_true, if_true, if_false, Nat.reduceLeDiff, ite_true, ite_false, ty_l e, mx_ol x (lst_ol eD), at2, Int.zero_add]))
      refine word_sp (by omega) fun nm M'' x' hnm => ?_
      refine newL_i fun p10 M10 hp10 x10 e10 => ?_
      have bs := bst n hn2
      obtain ⟨v, hv⟩ : ∃ v, atI [D.int 1, D.int 1, D.int 2, D.int 2, D.int 3, D.int 4, D.int 5, D.int 6] (r (2 + 3 * (n : Int) + 2)) = some (.int v) := by
        have : r (2 + 3 * (n : Int) + 2) = 0 ∨ r (2 + 3 * (n : Int) + 2) = 1 ∨ r (2 + 3 * (n : Int) + 2) = 2 ∨ r (2 + 3 * (n : Int) + 2) = 3 ∨ r (2 + 3 * (n : Int) + 2) = 4 ∨ r (2 + 3 * (n : Int) + 2) = 5 ∨ r (2 + 3 * (n : Int) + 2) = 6 ∨ r (2 + 3 * (n : Int) + 2) = 7 := by omega
        rcases this with h | h | h | h | h | h | h | h <;> rw [h]
        · exact ⟨_, atI_of (n := 0) rfl rfl⟩
        · exact ⟨_, atI_of (n := 1) rfl rfl⟩
        · exact ⟨_, atI_of (n := 2) rfl rfl⟩
        · exact ⟨_, atI_of (n := 3) rfl rfl⟩
        · exact ⟨_, atI_of (n := 4) rfl rfl⟩
        · exact ⟨_, atI_of (n := 5) rfl rfl⟩
        · exact ⟨_, atI_of (n := 6) rfl rfl⟩
        · exact ⟨_, atI_of (n := 7) rfl rfl⟩
      have x2' := mxT x (mxT x' x10)
      have e' := x10 _ _ (x' _ _ e)
      (try simp (disch := omega) only [skip_, seqset_, seqdrop_, seqasg_, ret_, retN_, if_, drop_, set_, asg_, for_, raise0_, raise1_, var_, c_, c2_, test_, and_, or_, not_, andV_, orV_, notV_, nil_, cons_, tup0_, tup1_, tup2_, tup3_, tup4_, tup5_, lst0_, lst1_, lst2_, lst3_, lst4_, lst5_, lst6_, lst7_, lst8_, lst9_, lst10_, lstv1_, lstv2_, lstv3_, lstv4_, lstv5_, b_, m_, call1_, call2_, call3_, call4_, call5_, neg_, slice_, none_, some_, rev_, comp_, gtup_, gn_nil, gn_cons, wipe_n, wipe_c, iseq_, sq_t, sq_r, r1_, r2_, add_i, add_s, add_t, sub_i, mul_i, int_o, cmp_o, isn_, ix_t, ix_r, ix_s, len_t2, len_t3, len_t4, len_t5, len_r, int1_i, two_, tuple_t, tuple_r, list_t, list_r, str_i, sl_t, sl_r, rev_t, rev_r, lo_l, lo_r, isi_t_t, isi_i_t, isi_s_s, isi_i_i, isi_i_b, isi_b_b, at0, at1, at2, at3, eq_i, eq_s, ol_s, vr_s, tb_b, ti_i, Br_t, Br_f, List.getElem?_cons_zero, List.getElem?_cons_succ, List.set_cons_zero, List.set_cons_succ, true_and, eq_self, Bool.not_true, Bool.not_false, Bool.false_eq_true, if_true, if_false, Nat.reduceLeDiff, ite_true, ite_false, mx_ol x2' (lst_ol eD), at2, e10, hv, app_ _ e']); (repeat (refine Nx.mk ?_; try simp (disch := omega) only [skip_, seqset_, seqdrop_, seqasg_, ret_, retN_, if_, drop_, set_, asg_, for_, raise0_, raise1_, var_, c_, c2_, test_, and_, or_, not_, andV_, orV_, notV_, nil_, cons_, tup0_, tup1_, tup2_, tup3_, tup4_, tup5_, lst0_, lst1_, lst2_, lst3_, lst4_, lst5_, lst6_, lst7_, lst8_, lst9_, lst10_, lstv1_, lstv2_, lstv3_, lstv4_, lstv5_, b_, m_, call1_, call2_, call3_, call4_, call5_, neg_, slice_, none_, some_, rev_, comp_, gtup_, gn_nil, gn_cons, wipe_n, wipe_c, iseq_, sq_t, sq_r, r1_, r2_, add_i, add_s, add_t, sub_i, mul_i, int_o, cmp_o, isn_, ix_t, ix_r, ix_s, len_t2, len_t3, len_t4, len_t5, len_r, int1_i, two_, tuple_t, tuple_r, list_t, list_r, str_i, sl_t, sl_r, rev_t, rev_r, lo_l, lo_r, isi_t_t, isi_i_t, isi_s_s, isi_i_i, isi_i_b, isi_b_b, at0, at1, at2, at3, eq_i, eq_s, ol_s, vr_s, tb_b, ti_i, Br_t, Br_f, List.getElem?_cons_zero, List.getElem?_cons_succ, List.set_cons_zero, List.set_cons_succ, true_and, eq_self, Bool.not_true, Bool.not_false, Bool.false_eq_true, if_true, if_false, Nat.reduceLeDiff, ite_true, ite_false, mx_ol x2' (lst_ol eD), at2, e10, hv, app_ _ e']))
      refine ⟨size_le (by omega), hK2 _ _ ⟨_, _, _, rfl, mx_put x2' hps, put_same, by simp [hn], all_snoc hb (hn ▸ ⟨nm, v, rfl, hnm⟩)⟩⟩
    · rintro _ M' ⟨o7, o9, sts, rfl, x, e, hn, hb⟩
      exact hK _ _ ⟨o7, o9, sts, rfl, x, e, by simpa [rng_len] using hn, hb⟩
  · rintro _ M' ⟨o7, o9, sts, rfl, x, e, hn, hb⟩
    (try simp only [skip_, seqset_, seqdrop_, seqasg_, ret_, retN_, if_, drop_, set_, asg_, for_, raise0_, raise1_, var_, c_, c2_, test_, and_, or_, not_, andV_, orV_, notV_, nil_, cons_, tup0_, tup1_, tup2_, tup3_, tup4_, tup5_, lst0_, lst1_, lst2_, lst3_, lst4_, lst5_, lst6_, lst7_, lst8_, lst9_, lst10_, lstv1_, lstv2_, lstv3_, lstv4_, lstv5_, b_, m_, call1_, call2_, call3_, call4_, call5_, neg_, slice_, none_, some_, rev_, comp_, gtup_, gn_nil, gn_cons, wipe_n, wipe_c, iseq_, sq_t, sq_r, r1_, r2_, add_i, add_s, add_t, sub_i, mul_i, int_o, cmp_o, isn_, ix_t, ix_r, ix_s, len_t2, len_t3, len_t4, len_t5, len_r, int1_i, two_, tuple_t, tuple_r, list_t, list_r, str_i, sl_t, sl_r, rev_t, rev_r, lo_l, lo_r, isi_t_t, isi_i_t, isi_s_s, isi_i_i, isi_i_b, isi_b_b, at0, at1, at2, at3, eq_i, eq_s, ol_s, vr_s, tb_b, ti_i, Br_t, Br_f, List.getElem?_cons_zero, List.getElem?_cons_succ, List.set_cons_zero, List.set_cons_succ, true_and, eq_self, Bool.not_true, Bool.not_false, Bool.false_eq_true, if_true, if_false, Nat.reduceLeDiff, ite_true, ite_false]); (repeat (refine Nx.mk ?_; try simp only [skip_, seqset_, seqdrop_, seqasg_, ret_, retN_, if_, drop_, set_, asg_, for_, raise0_, raise1_, var_, c_, c2_, test_, and_, or_, not_, andV_, orV_, notV_, nil_, cons_, tup0_, tup1_, tup2_, tup3_, tup4_, tup5_, lst0_, lst1_, lst2_, lst3_, lst4_, lst5_, lst6_, lst7_, lst8_, lst9_, lst10_, lstv1_, lstv2_, lstv3_, lstv4_, lstv5_, b_, m_, call1_, call2_, call3_, call4_, call5_, neg_, slice_, none_, some_, rev_, comp_, gtup_, gn_nil, gn_cons, wipe_n, wipe_c, iseq_, sq_t, sq_r, r1_, r2_, add_i, add_s, add_t, sub_i, mul_i, int_o, cmp_o, isn_, ix_t, ix_r, ix_s, len_t2, len_t3, len_t4, len_t5, len_r, int1_i, two_, tuple_t, tuple_r, list_t, list_r, str_i, sl_t, sl_r, rev_t, rev_r, lo_l, lo_r, isi_t_t, isi_i_t, isi_s_s, isi_i_i, isi_i_b, isi_b_b, at0, at1, at2, at3, eq_i, eq_s, ol_s, vr_s, tb_b, ti_i, Br_t, Br_f, List.getElem?_cons_zero, List.getElem?_cons_succ, List.set_cons_zero, List.set_cons_succ, true_and, eq_self, Bool.not_true, Bool.not_false, Bool.false_eq_true, if_true, if_false, Nat.reduceLeDiff, ite_true, ite_false]))
    refine newL_i fun pl ML hpl xL eL => ?_
    (try refine Nx.mk ?_); refine seq_m (fun ρ' M'' => ∃ (o7 o9 o10 o11 o12 o13 : Option D) (lns : List D), ρ' = [some (.ref a), some (.int k), some (.ref p2), some (.int many), some (.int count), some (.ref pd), some (.ref ps), o7, some (.ref pl), o9, o10, o11, o12, o13, none] ∧ MX M' M'' ∧ M'' pl = some (.lst lns) ∧ lns.length = count ∧ ∀ n d, lns[n]? = some d → Ln n d) (fun Kn hK => ?_) ?_
    · (try simp only [skip_, seqset_, seqdrop_, seqasg_, ret_, retN_, if_, drop_, set_, asg_, for_, raise0_, raise1_, var_, c_, c2_, test_, and_, or_, not_, andV_, orV_, notV_, nil_, cons_, tup0_, tup1_, tup2_, tup3_, tup4_, tup5_, lst0_, lst1_, lst2_, lst3_, lst4_, lst5_, lst6_, lst7_, lst8_, lst9_, lst10_, lstv1_, lstv2_, lstv3_, lstv4_, lstv5_, b_, m_, call1_, call2_, call3_, call4_, call5_, neg_, slice_, none_, some_, rev_, comp_, gtup_, gn_nil, gn_cons, wipe_n, wipe_c, iseq_, sq_t, sq_r, r1_, r2_, add_i, add_s, add_t, sub_i, mul_i, int_o, cmp_o, isn_, ix_t, ix_r, ix_s, len_t2, len_t3, len_t4, len_t5, len_r, int1_i, two_, tuple_t, tuple_r, list_t, list_r, str_i, sl_t, sl_r, rev_t, rev_r, lo_l, lo_r, isi_t_t, isi_i_t, isi_s_s, isi_i_i, isi_i_b, isi_b_b, at0, at1, at2, at3, eq_i, eq_s, ol_s, vr_s, tb_b, ti_i, Br_t, Br_f, List.getElem?_cons_zero, List.getElem?_cons_succ, List.set_cons_zero, List.set_cons_succ, true_and, eq_self, Bool.not_true, Bool.not_false, Bool.false_eq_true, if_true, if_false, Nat.reduceLeDiff, ite_true, ite_false]); (repeat (refine Nx.mk ?_; try simp only [skip_, seqset_, seqdrop_, seqasg_, ret_, retN_, if_, drop_, set_, asg_, for_, raise0_, raise1_, var_, c_, c2_, test_, and_, or_, not_, andV_, orV_, notV_, nil_, cons_, tup0_, tup1_, tup2_, tup3_, tup4_, tup5_, lst0_, lst1_, lst2_, lst3_, lst4_, lst5_, lst6_, lst7_, lst8_, lst9_, lst10_, lstv1_, lstv2_, lstv3_, lstv4_, lstv5_, b_, m_, call1_, call2_, call3_, call4_, call5_, neg_, slice_, none_, some_, rev_, comp_, gtup_, gn_nil, gn_cons, wipe_n, wipe_c, iseq_, sq_t, sq_r, r1_, r2_, add_i, add_s, add_t, sub_i, mul_i, int_o, cmp_o, isn_, ix_t, ix_r, ix_s, len_t2, len_t3, len_t4, len_t5, len_r, int1_i, two_, tuple_t, tuple_r, list_t, list_r, str_i, sl_t, sl_r, rev_t, rev_r, lo_l, lo_r, isi_t_t, isi_i_t, isi_s_s, isi_i_i, isi_i_b, isi_b_b, at0, at1, at2, at3, eq_i, eq_s, ol_s, vr_s, tb_b, ti_i, Br_t, Br_f, List.getElem?_cons_zero, List.getElem?_cons_succ, List.set_cons_zero, List.set_cons_succ, true_and, eq_self, Bool.not_true, Bool.not_false, Bool.false_eq_true, if_true, if_false, Nat.reduceLeDiff, ite_true, ite_false]))
      refine ⟨by omega, ?_⟩
      refine for_0 (fun cnt ρ' M'' => ∃ (o7 o9 o10 o11 o12 o13 : Option D) (lns : List D), ρ' = [some (.ref a), some (.int k), some (.ref p2), some (.int many), some (.int count), some (.ref pd), some (.ref ps), o7, some (.ref pl), o9, o10, o11, o12, o13, none] ∧ MX M' M'' ∧ M'' pl = some (.lst lns) ∧ lns.length = cnt ∧ ∀ n d, lns[n]? = some d → Ln n d) ⟨o7, o9, none, none, none, none, [], rfl, xL, eL, rfl, fun n d h => by simp at h⟩ (fun _ _ _ _ _ => trivial) ?_ ?_
      · rintro n d hd _ M1 ⟨o7, o9, o10, o11, o12, o13, lns, rfl, x1', el, hn', hb'⟩
        obtain ⟨hn2, rfl⟩ := rng_at hd
        have hn2 : n < count := by simpa using hn2
        refine ⟨_, rfl, fun Kn2 hK2 => ?_⟩
        (try simp (disch := omega) only [skip_, seqset_, seqdrop_, seqasg_, ret_, retN_, if_, drop_, set_, asg_, for_, raise0_, raise1_, var_, c_, c2_, test_, and_, or_, not_, andV_, orV_, notV_, nil_, cons_, tup0_, tup1_, tup2_, tup3_, tup4_, tup5_, lst0_, lst1_, lst2_, lst3_, lst4_, lst5_, lst6_, lst7_, lst8_, lst9_, lst10_, lstv1_, lstv2_, lstv3_, lstv4_, lstv5_, b_, m_, call1_, call2_, call3_, call4_, call5_, neg_, slice_, none_, some_, rev_, comp_, gtup_, gn_nil, gn_cons, wipe_n, wipe_c, iseq_, sq_t, sq_r, r1_, r2_, add_i, add_s, add_t, sub_i, mul_i, int_o, cmp_o, isn_, ix_t, ix_r, ix_s, len_t2, len_t3, len_t4, len_t5, len_r, int1_i, two_, tuple_t, tuple_r, list_t, list_r, str_i, sl_t, sl_r, rev_t, rev_r, lo_l, lo_r, isi_t_t, isi_i_t, isi_s_s, isi_i_i, isi_i_b, isi_b_b, at0, at1, at2, at3, eq_i, eq_s, ol_s, vr_s, tb_b, ti_i, Br_t, Br_f, List.getElem?_cons_zero, List.getElem?_cons_succ, List.set_cons_zero, List.set_cons_succ, true_and, eq_self, Bool.not_true, Bool.not_false, Bool.false_eq_true, if_true, if_false, Nat.reduceLeDiff, ite_true, ite_false, Int.zero_add]); (repeat (refine Nx.mk ?_; try simp (disch := omega) only [skip_, seqset_, seqdrop_, seqasg_, ret_, retN_, if_, drop_, set_, asg_, for_, raise0_, raise1_, var_, c_, c2_, test_, and_, or_, not_, andV_, orV_, notV_, nil_, cons_, tup0_, tup1_, tup2_, tup3_, tup4_, tup5_, lst0_, lst1_, lst2_, lst3_, lst4_, lst5_, lst6_, lst7_, lst8_, lst9_, lst10_, lstv1_, lstv2_, lstv3_, lstv4_, lstv5_, b_, m_, call1_, call2_, call3_, call4_, call5_, neg_, slice_, none_, some_, rev_, comp_, gtup_, gn_nil, gn_cons, wipe_n, wipe_c, iseq_, sq_t, sq_r, r1_, r2_, add_i, add_s, add_t, sub_i, mul_i, int_o, cmp_o, isn_, ix_t, ix_r, ix_s, len_t2, len_t3, len_t4, len_t5, len_r, int1_i, two_, tuple_t, tuple_r, list_t, list_r, str_i, sl_t, sl_r, rev_t, rev_r, lo_l, lo_r, isi_t_t, isi_i_t, isi_s_s, isi_i_i, isi_i_b, isi_b_b, at0, at1, at2, at3, eq_i, eq_s, ol_s, vr_s, tb_b, ti_i, Br_t, Br_f, List.getElem?_cons_zero, List.getElem?_cons_succ, List.set_cons_zero, List.set_cons_succ, true_and, eq_self, Bool.not_true, Bool.not_false, Bool.false_eq_true, if_true, if_false, Nat.reduceLeDiff, ite_true, ite_false, Int.zero_add]))
        refine ⟨Or.inl ⟨by decide, by decide⟩, Or.inl ⟨by decide, by decide⟩, ?_⟩
        have es1 := x1' _ _ e
        (try simp (disch := omega) only [skip_, seqset_, seqdrop_, seqasg_, ret_, retN_, if_, drop_, set_, asg_, for_, raise0_, raise1_, var_, c_, c2_, test_, and_, or_, not_, andV_, orV_, notV_, nil_, cons_, tup0_, tup1_, tup2_, tup3_, tup4_, tup5_, lst0_, lst1_, lst2_, lst3_, lst4_, lst5_, lst6_, lst7_, lst8_, lst9_, lst10_, lstv1_, lstv2_, lstv3_, lstv4_, lstv5_, b_, m_, call1_, call2_, call3_, call4_, call5_, neg_, slice_, none_, some_, rev_, comp_, gtup_, gn_nil, gn_cons, wipe_n, wipe_c, iseq_, sq_t, sq_r, r1_, r2_, add_i, add_s, add_t, sub_i, mul_i, int_o, cmp_o, isn_, ix_t, ix_r, ix_s, len_t2, len_t3, len_t4, len_t5, len_r, int1_i, two_, tuple_t, tuple_r, list_t, list_r, str_i, sl_t, sl_r, rev_t, rev_r, lo_l, lo_r, isi_t_t, isi_i_t, isi_s_s, isi_i_i, isi_i_b, isi_b_b, at0, at1, at2, at3, eq_i, eq_s, ol_s, vr_s, tb_b, ti_i, Br_t, Br_f, List.getElem?_cons_zero, List.getElem?_cons_succ, List.set_cons_zero, List.set_cons_succ, true_and, eq_self, Bool.not_true, Bool.not_false, Bool.false_eq_true, if_true, if_false, Nat.reduceLeDiff, ite_true, ite_false, lst_ol es1]); (repeat (refine Nx.mk ?_; try simp (disch := omega) only [skip_, seqset_, seqdrop_, seqasg_, ret_, retN_, if_, drop_, set_, asg_, for_, raise0_, raise1_, var_, c_, c2_, test_, and_, or_, not_, andV_, orV_, notV_, nil_, cons_, tup0_, tup1_, tup2_, tup3_, tup4_, tup5_, lst0_, lst1_, lst2_, lst3_, lst4_, lst5_, lst6_, lst7_, lst8_, lst9_, lst10_, lstv1_, lstv2_, lstv3_, lstv4_, lstv5_, b_, m_, call1_, call2_, call3_, call4_, call5_, neg_, slice_, none_, some_, rev_, comp_, gtup_, gn_nil, gn_cons, wipe_n, wipe_c, iseq_, sq_t, sq_r, r1_, r2_, add_i, add_s, add_t, sub_i, mul_i, int_o, cmp_o, isn_, ix_t, ix_r, ix_s, len_t2, len_t3, len_t4, len_t5, len_r, int1_i, two_, tuple_t, tuple_r, list_t, list_r, str_i, sl_t, sl_r, rev_t, rev_r, lo_l, lo_r, isi_t_t, isi_i_t, isi_s_s, isi_i_i, isi_i_b, isi_b_b, at0, at1, at2, at3, eq_i, eq_s, ol_s, vr_s, tb_b, ti_i, Br_t, Br_f, List.getElem?_cons_zero, List.getElem?_cons_succ, List.set_cons_zero, List.set_cons_succ, true_and, eq_self, Bool.not_true, Bool.not_false, Bool.false_eq_true, if_true, if_false, Nat.reduceLeDiff, ite_true, ite_false, lst_ol es1]))
        refine comp_i (fun _ d => ∃ w : Str, d = .str w) (size_le (by omega)) (fun M2 xm => mx_ol xm (lst_ol es1)) (fun m d M2 hd xm => ?_) (fun pf ys M2 hpf xf ef lf gf => ?_)
        · obtain ⟨nm, v, rfl, _⟩ := hb m d hd
          refine ⟨_, rfl, fun Q' hQ' => ?_⟩
          (try simp only [skip_, seqset_, seqdrop_, seqasg_, ret_, retN_, if_, drop_, set_, asg_, for_, raise0_, raise1_, var_, c_, c2_, test_, and_, or_, not_, andV_, orV_, notV_, nil_, cons_, tup0_, tup1_, tup2_, tup3_, tup4_, tup5_, lst0_, lst1_, lst2_, lst3_, lst4_, lst5_, lst6_, lst7_, lst8_, lst9_, lst10_, lstv1_, lstv2_, lstv3_, lstv4_, lstv5_, b_, m_, call1_, call2_, call3_, call4_, call5_, neg_, slice_, none_, some_, rev_, comp_, gtup_, gn_nil, gn_cons, wipe_n, wipe_c, iseq_, sq_t, sq_r, r1_, r2_, add_i, add_s, add_t, sub_i, mul_i, int_o, cmp_o, isn_, ix_t, ix_r, ix_s, len_t2, len_t3, len_t4, len_t5, len_r, int1_i, two_, tuple_t, tuple_r, list_t, list_r, str_i, sl_t, sl_r, rev_t, rev_r, lo_l, lo_r, isi_t_t, isi_i_t, isi_s_s, isi_i_i, isi_i_b, isi_b_b, at0, at1, at2, at3, eq_i, eq_s, ol_s, vr_s, tb_b, ti_i, Br_t, Br_f, List.getElem?_cons_zero, List.getElem?_cons_succ, List.set_cons_zero, List.set_cons_succ, true_and, eq_self, Bool.not_true, Bool.not_false, Bool.false_eq_true, if_true, if_false, Nat.reduceLeDiff, ite_true, ite_false]); (repeat (refine Nx.mk ?_; try simp only [skip_, seqset_, seqdrop_, seqasg_, ret_, retN_, if_, drop_, set_, asg_, for_, raise0_, raise1_, var_, c_, c2_, test_, and_, or_, not_, andV_, orV_, notV_, nil_, cons_, tup0_, tup1_, tup2_, tup3_, tup4_, tup5_, lst0_, lst1_, lst2_, lst3_, lst4_, lst5_, lst6_, lst7_, lst8_, lst9_, lst10_, lstv1_, lstv2_, lstv3_, lstv4_, lstv5_, b_, m_, call1_, call2_, call3_, call4_, call5_, neg_, slice_, none_, some_, rev_, comp_, gtup_, gn_nil, gn_cons, wipe_n, wipe_c, iseq_, sq_t, sq_r, r1_, r2_, add_i, add_s, add_t, sub_i, mul_i, int_o, cmp_o, isn_, ix_t, ix_r, ix_s, len_t2, len_t3, len_t4, len_t5, len_r, int1_i, two_, tuple_t, tuple_r, list_t, list_r, str_i, sl_t, sl_r, rev_t, rev_r, lo_l, lo_r, isi_t_t, isi_i_t, isi_s_s, isi_i_i, isi_i_b, isi_b_b, at0, at1, at2, at3, eq_i, eq_s, ol_s, vr_s, tb_b, ti_i, Br_t, Br_f, List.getElem?_cons_zero, List.getElem?_cons_succ, List.set_cons_zero, List.set_cons_succ, true_and, eq_self, Bool.not_true, Bool.not_false, Bool.false_eq_true, if_true, if_false, Nat.reduceLeDiff, ite_true, ite_false]))
          exact hQ' _ _ MX.refl' ⟨nm, rfl⟩
        · obtain ⟨ls0, rfl⟩ : ∃ ls0 : List Str, ys = ls0.map .str := by
            clear lf ef
            have : ∀ ys : List D, (∀ (n : Nat) (y : D), ys[n]? = some y → ∃ w : Str, y = .str w) → ∃ ls0 : List Str, ys = ls0.map .str := by
              intro ys
              induction ys with
              | nil => exact fun _ => ⟨[], rfl⟩
              | cons y ys ih =>
                intro h
                obtain ⟨w, rfl⟩ := h 0 y rfl
                obtain ⟨l, rfl⟩ := ih fun n y hy => h (n + 1) y (by simpa using hy)
                exact ⟨w :: l, rfl⟩
            exact this ys gf
          rw [List.length_map] at lf
          (try simp only [skip_, seqset_, seqdrop_, seqasg_, ret_, retN_, if_, drop_, set_, asg_, for_, raise0_, raise1_, var_, c_, c2_, test_, and_, or_, not_, andV_, orV_, notV_, nil_, cons_, tup0_, tup1_, tup2_, tup3_, tup4_, tup5_, lst0_, lst1_, lst2_, lst3_, lst4_, lst5_, lst6_, lst7_, lst8_, lst9_, lst10_, lstv1_, lstv2_, lstv3_, lstv4_, lstv5_, b_, m_, call1_, call2_, call3_, call4_, call5_, neg_, slice_, none_, some_, rev_, comp_, gtup_, gn_nil, gn_cons, wipe_n, wipe_c, iseq_, sq_t, sq_r, r1_, r2_, add_i, add_s, add_t, sub_i, mul_i, int_o, cmp_o, isn_, ix_t, ix_r, ix_s, len_t2, len_t3, len_t4, len_t5, len_r, int1_i, two_, tuple_t, tuple_r, list_t, list_r, str_i, sl_t, sl_r, rev_t, rev_r, lo_l, lo_r, isi_t_t, isi_i_t, isi_s_s, isi_i_i, isi_i_b, isi_b_b, at0, at1, at2, at3, eq_i, eq_s, ol_s, vr_s, tb_b, ti_i, Br_t, Br_f, List.getElem?_cons_zero, List.getElem?_cons_succ, List.set_cons_zero, List.set_cons_succ, true_and, eq_self, Bool.not_true, Bool.not_false, Bool.false_eq_true, if_true, if_false, Nat.reduceLeDiff, ite_true, ite_false]); (repeat (refine Nx.mk ?_; try simp only [skip_, seqset_, seqdrop_, seqasg_, ret_, retN_, if_, drop_, set_, asg_, for_, raise0_, raise1_, var_, c_, c2_, test_, and_, or_, not_, andV_, orV_, notV_, nil_, cons_, tup0_, tup1_, tup2_, tup3_, tup4_, tup5_, lst0_, lst1_, lst2_, lst3_, lst4_, lst5_, lst6_, lst7_, lst8_, lst9_, lst10_, lstv1_, lstv2_, lstv3_, lstv4_, lstv5_, b_, m_, call1_, call2_, call3_, call4_, call5_, neg_, slice_, none_, some_, rev_, comp_, gtup_, gn_nil, gn_cons, wipe_n, wipe_c, iseq_, sq_t, sq_r, r1_, r2_, add_i, add_s, add_t, sub_i, mul_i, int_o, cmp_o, isn_, ix_t, ix_r, ix_s, len_t2, len_t3, len_t4, len_t5, len_r, int1_i, two_, tuple_t, tuple_r, list_t, list_r, str_i, sl_t, sl_r, rev_t, rev_r, lo_l, lo_r, isi_t_t, isi_i_t, isi_s_s, isi_i_i, isi_i_b, isi_b_b, at0, at1, at2, at3, eq_i, eq_s, ol_s, vr_s, tb_b, ti_i, Br_t, Br_f, List.getElem?_cons_zero, List.getElem?_cons_succ, List.set_cons_zero, List.set_cons_succ, true_and, eq_self, Bool.not_true, Bool.not_false, Bool.false_eq_true, if_true, if_false, Nat.reduceLeDiff, ite_true, ite_false]))
          refine newL_i fun pp M3 hpp xp ep => ?_
          have XM1 : MX MD M1 := mxT x x1'
          have hpp1 := mx_none xf hpp
          have npf : pf ≠ pp := fun z => by subst z; rw [ef] at hpp; cases hpp
          have hln := bln n hn2
          (try refine Nx.mk ?_); refine seq_m (fun ρ' M'' => ∃ (o12 : Option D) (ls ps' : List Str), ρ' = [some (.ref a), some (.int k), some (.ref p2), some (.int many), some (.int count), some (.ref pd), some (.ref ps), some (.int n), some (.ref pl), some (.int (2 + 3 * (many : Int) + 9 * (n : Int))), some (.ref pf), some (.ref pp), o12, o13, none] ∧ MX M1 M'' ∧ M'' pf = some (.lst (ls.map .str)) ∧ M'' pp = some (.lst (ps'.map .str)) ∧ ls.length + ps'.length = many ∧ ps'.length ≤ 8 ∧ 0 < ps'.length) (fun Kn3 hK3 => ?_) ?_
          · (try simp (disch := omega) only [skip_, seqset_, seqdrop_, seqasg_, ret_, retN_, if_, drop_, set_, asg_, for_, raise0_, raise1_, var_, c_, c2_, test_, and_, or_, not_, andV_, orV_, notV_, nil_, cons_, tup0_, tup1_, tup2_, tup3_, tup4_, tup5_, lst0_, lst1_, lst2_, lst3_, lst4_, lst5_, lst6_, lst7_, lst8_, lst9_, lst10_, lstv1_, lstv2_, lstv3_, lstv4_, lstv5_, b_, m_, call1_, call2_, call3_, call4_, call5_, neg_, slice_, none_, some_, rev_, comp_, gtup_, gn_nil, gn_cons, wipe_n, wipe_c, iseq_, sq_t, sq_r, r1_, r2_, add_i, add_s, add_t, sub_i, mul_i, int_o, cmp_o, isn_, ix_t, ix_r, ix_s, len_t2, len_t3, len_t4, len_t5, len_r, int1_i, two_, tuple_t, tuple_r, list_t, list_r, str_i, sl_t, sl_r, rev_t, rev_r, lo_l, lo_r, isi_t_t, isi_i_t, isi_s_s, isi_i_i, isi_i_b, isi_b_b, at0, at1, at2, at3, eq_i, eq_s, ol_s, vr_s, tb_b, ti_i, Br_t, Br_f, List.getElem?_cons_zero, List.getElem?_cons_succ, List.set_cons_zero, List.set_cons_succ, true_and, eq_self, Bool.not_true, Bool.not_false, Bool.false_eq_true, if_true, if_false, Nat.reduceLeDiff, ite_true, ite_false, mx_ol (mxT XM1 (mxT xf xp)) (lst_ol eD), at2]); (repeat (refine Nx.mk ?_; try simp (disch := omega) only [skip_, seqset_, seqdrop_, seqasg_, ret_, retN_, if_, drop_, set_, asg_, for_, raise0_, raise1_, var_, c_, c2_, test_, and_, or_, not_, andV_, orV_, notV_, nil_, cons_, tup0_, tup1_, tup2_, tup3_, tup4_, tup5_, lst0_, lst1_, lst2_, lst3_, lst4_, lst5_, lst6_, lst7_, lst8_, lst9_, lst10_, lstv1_, lstv2_, lstv3_, lstv4_, lstv5_, b_, m_, call1_, call2_, call3_, call4_, call5_, neg_, slice_, none_, some_, rev_, comp_, gtup_, gn_nil, gn_cons, wipe_n, wipe_c, iseq_, sq_t, sq_r, r1_, r2_, add_i, add_s, add_t, sub_i, mul_i, int_o, cmp_o, isn_, ix_t, ix_r, ix_s, len_t2, len_t3, len_t4, len_t5, len_r, int1_i, two_, tuple_t, tuple_r, list_t, list_r, str_i, sl_t, sl_r, rev_t, rev_r, lo_l, lo_r, isi_t_t, isi_i_t, isi_s_s, isi_i_i, isi_i_b, isi_b_b, at0, at1, at2, at3, eq_i, eq_s, ol_s, vr_s, tb_b, ti_i, Br_t, Br_f, List.getElem?_cons_zero, List.getElem?_cons_succ, List.set_cons_zero, List.set_cons_succ, true_and, eq_self, Bool.not_true, Bool.not_false, Bool.false_eq_true, if_true, if_false, Nat.reduceLeDiff, ite_true, ite_false, mx_ol (mxT XM1 (mxT xf xp)) (lst_ol eD), at2]))
            refine ⟨by omega, ?_⟩
            refine for_0 (fun cnt ρ' M'' => ∃ (o12 : Option D) (ls ps' : List Str), ρ' = [some (.ref a), some (.int k), some (.ref p2), some (.int many), some (.int count), some (.ref pd), some (.ref ps), some (.int n), some (.ref pl), some (.int (2 + 3 * (many : Int) + 9 * (n : Int))), some (.ref pf), some (.ref pp), o12, o13, none] ∧ MX M1 M'' ∧ M'' pf = some (.lst (ls.map .str)) ∧ M'' pp = some (.lst (ps'.map .str)) ∧ ls.length + ps'.length = many ∧ ps'.length ≤ cnt ∧ (0 < cnt → 0 < ps'.length)) ⟨_, ls0, [], rfl, mxT xf xp, xp _ _ ef, ep, by simp; omega, by simp, by simp⟩ (fun _ _ _ _ _ => trivial) ?_ ?_
            · rintro m d hd _ M4 ⟨o12, ls, ps', rfl, x4, e4, e5, hsum, hle, hpos⟩
              obtain ⟨hm2, rfl⟩ := rng_at hd
              refine ⟨_, rfl, fun Kn4 hK4 => ?_⟩
              (try simp (disch := omega) only [skip_, seqset_, seqdrop_, seqasg_, ret_, retN_, if_, drop_, set_, asg_, for_, raise0_, raise1_, var_, c_, c2_, test_, and_, or_, not_, andV_, orV_, notV_, nil_, cons_, tup0_, tup1_, tup2_, tup3_, tup4_, tup5_, lst0_, lst1_, lst2_, lst3_, lst4_, lst5_, lst6_, lst7_, lst8_, lst9_, lst10_, lstv1_, lstv2_, lstv3_, lstv4_, lstv5_, b_, m_, call1_, call2_, call3_, call4_, call5_, neg_, slice_, none_, some_, rev_, comp_, gtup_, gn_nil, gn_cons, wipe_n, wipe_c, iseq_, sq_t, sq_r, r1_, r2_, add_i, add_s, add_t, sub_i, mul_i, int_o, cmp_o, isn_, ix_t, ix_r, ix_s, len_t2, len_t3, len_t4, len_t5, len_r, int1_i, two_, tuple_t, tuple_r, list_t, list_r, str_i, sl_t, sl_r, rev_t, rev_r, lo_l, lo_r, isi_t_t, isi_i_t, isi_s_s, isi_i_i, isi_i_b, isi_b_b, at0, at1, at2, at3, eq_i, eq_s, ol_s, vr_s, tb_b, ti_i, Br_t, Br_f, List.getElem?_cons_zero, List.getElem?_cons_succ, List.set_cons_zero, List.set_cons_succ, true_and, eq_self, Bool.not_true, Bool.not_false, Bool.false_eq_true, if_true, if_false, Nat.reduceLeDiff, ite_true, ite_false, lst_ol e4]); (repeat (refine Nx.mk ?_; try simp (disch := omega) only [skip_, seqset_, seqdrop_, seqasg_, ret_, retN_, if_, drop_, set_, asg_, for_, raise0_, raise1_, var_, c_, c2_, test_, and_, or_, not_, andV_, orV_, notV_, nil_, cons_, tup0_, tup1_, tup2_, tup3_, tup4_, tup5_, lst0_, lst1_, lst2_, lst3_, lst4_, lst5_, lst6_, lst7_, lst8_, lst9_, lst10_, lstv1_, lstv2_, lstv3_, lstv4_, lstv5_, b_, m_, call1_, call2_, call3_, call4_, call5_, neg_, slice_, none_, some_, rev_, comp_, gtup_, gn_nil, gn_cons, wipe_n, wipe_c, iseq_, sq_t, sq_r, r1_, r2_, add_i, add_s, add_t, sub_i, mul_i, int_o, cmp_o, isn_, ix_t, ix_r, ix_s, len_t2, len_t3, len_t4, len_t5, len_r, int1_i, two_, tuple_t, tuple_r, list_t, list_r, str_i, sl_t, sl_r, rev_t, rev_r, lo_l, lo_r, isi_t_t, isi_i_t, isi_s_s, isi_i_i, isi_i_b, isi_b_b, at0, at1, at2, at3, eq_i, eq_s, ol_s, vr_s, tb_b, ti_i, Br_t, Br_f, List.getElem?_cons_zero, List.getElem?_cons_succ, List.set_cons_zero, List.set_cons_succ, true_and, eq_self, Bool.not_true, Bool.not_false, Bool.false_eq_true, if_true, if_false, Nat.reduceLeDiff, ite_true, ite_false, lst_ol e4]))
              refine Br_i (fun h => ?_) (fun h => ?_)
              · have h := of_decide_eq_true h
                rw [List.length_map] at h
                (try simp (disch := omega) only [skip_, seqset_, seqdrop_, seqasg_, ret_, retN_, if_, drop_, set_, asg_, for_, raise0_, raise1_, var_, c_, c2_, test_, and_, or_, not_, andV_, orV_, notV_, nil_, cons_, tup0_, tup1_, tup2_, tup3_, tup4_, tup5_, lst0_, lst1_, lst2_, lst3_, lst4_, lst5_, lst6_, lst7_, lst8_, lst9_, lst10_, lstv1_, lstv2_, lstv3_, lstv4_, lstv5_, b_, m_, call1_, call2_, call3_, call4_, call5_, neg_, slice_, none_, some_, rev_, comp_, gtup_, gn_nil, gn_cons, wipe_n, wipe_c, iseq_, sq_t, sq_r, r1_, r2_, add_i, add_s, add_t, sub_i, mul_i, int_o, cmp_o, isn_, ix_t, ix_r, ix_s, len_t2, len_t3, len_t4, len_t5, len_r, int1_i, two_, tuple_t, tuple_r, list_t, list_r, str_i, sl_t, sl_r, rev_t, rev_r, lo_l, lo_r, isi_t_t, isi_i_t, isi_s_s, isi_i_i, isi_i_b, isi_b_b, at0, at1, at2, at3, eq_i, eq_s, ol_s, vr_s, tb_b, ti_i, Br_t, Br_f, List.getElem?_cons_zero, List.getElem?_cons_succ, List.set_cons_zero, List.set_cons_succ, true_and, eq_self, Bool.not_true, Bool.not_false, Bool.false_eq_true, if_true, if_false, Nat.reduceLeDiff, ite_true, ite_false, lst_ol e4, ty_l e4, ty_l e5, mx_ol (mxT XM1 x4) (lst_ol eD), at2, Int.zero_add]); (repeat (refine Nx.mk ?_; try simp (disch := omega) only [skip_, seqset_, seqdrop_, seqasg_, ret_, retN_, if_, drop_, set_, asg_, for_, raise0_, raise1_, var_, c_, c2_, test_, and_, or_, not_, andV_, orV_, notV_, nil_, cons_, tup0_, tup1_, tup2_, tup3_, tup4_, tup5_, lst0_, lst1_, lst2_, lst3_, lst4_, lst5_, lst6_, lst7_, lst8_, lst9_, lst10_, lstv1_, lstv2_, lstv3_, lstv4_, lstv5_, b_, m_, call1_, call2_, call3_, call4_, call5_, neg_, slice_, none_, some_, rev_, comp_, gtup_, gn_nil, gn_cons, wipe_n, wipe_c, iseq_, sq_t, sq_r, r1_, r2_, add_i, add_s, add_t, sub_i, mul_i, int_o, cmp_o, isn_, ix_t, ix_r, ix_s, len_t2, len_t3, len_t4, len_t5, len_r, int1_i, two_, tuple_t, tuple_r, list_t, list_r, str_i, sl_t, sl_r, rev_t, rev_r, lo_l, lo_r, isi_t_t, isi_i_t, isi_s_s, isi_i_i, isi_i_b, isi_b_b, at0, at1, at2, at3, eq_i, eq_s, ol_s, vr_s, tb_b, ti_i, Br_t, Br_f, List.getElem?_cons_zero, List.getElem?_cons_succ, List.set_cons_zero, List.set_cons_succ, true_and, eq_self, Bool.not_true, Bool.not_false, Bool.false_eq_true, if_true, if_false, Nat.reduceLeDiff, ite_true, ite_false, lst_ol e4, ty_l e4, ty_l e5, mx_ol (mxT XM1 x4) (lst_ol eD), at2, Int.zero_add]))
                rw [List.length_map]
                have q1 := Int.fmod_nonneg_of_pos (r (2 + 3 * (many : Int) + 9 * (n : Int) + 3 + (m : Int))) h
                have q2 := Int.fmod_lt_of_pos (r (2 + 3 * (many : Int) + 9 * (n : Int) + 3 + (m : Int))) h
                refine ⟨by omega, pop_i e4 q1 (by simpa using q2) (by simp; omega) (d := .str (ls[((r (2 + 3 * (many : Int) + 9 * (n : Int) + 3 + (m : Int))).fmod (ls.length : Int)).toNat]'(by omega))) (by simp [List.getElem?_eq_getElem (show ((r (2 + 3 * (many : Int) + 9 * (n : Int) + 3 + (m : Int))).fmod (ls.length : Int)).toNat < ls.length by omega)]) ?_⟩
                have e5' := (put_ne (M := M4) (o := .lst ((ls.map D.str).eraseIdx ((r (2 + 3 * (many : Int) + 9 * (n : Int) + 3 + (m : Int))).fmod (ls.length : Int)).toNat)) npf.symm).trans e5
                (try simp only [skip_, seqset_, seqdrop_, seqasg_, ret_, retN_, if_, drop_, set_, asg_, for_, raise0_, raise1_, var_, c_, c2_, test_, and_, or_, not_, andV_, orV_, notV_, nil_, cons_, tup0_, tup1_, tup2_, tup3_, tup4_, tup5_, lst0_, lst1_, lst2_, lst3_, lst4_, lst5_, lst6_, lst7_, lst8_, lst9_, lst10_, lstv1_, lstv2_, lstv3_, lstv4_, lstv5_, b_, m_, call1_, call2_, call3_, call4_, call5_, neg_, slice_, none_, some_, rev_, comp_, gtup_, gn_nil, gn_cons, wipe_n, wipe_c, iseq_, sq_t, sq_r, r1_, r2_, add_i, add_s, add_t, sub_i, mul_i, int_o, cmp_o, isn_, ix_t, ix_r, ix_s, len_t2, len_t3, len_t4, len_t5, len_r, int1_i, two_, tuple_t, tuple_r, list_t, list_r, str_i, sl_t, sl_r, rev_t, rev_r, lo_l, lo_r, isi_t_t, isi_i_t, isi_s_s, isi_i_i, isi_i_b, isi_b_b, at0, at1, at2, at3, eq_i, eq_s, ol_s, vr_s, tb_b, ti_i, Br_t, Br_f, List.getElem?_cons_zero, List.getElem?_cons_succ, List.set_cons_zero, List.set_cons_succ, true_and, eq_self, Bool.not_true, Bool.not_false, Bool.false_eq_true, if_true, if_false, Nat.reduceLeDiff, ite_true, ite_false, app_ _ e5']); (repeat (refine Nx.mk ?_; try simp only [skip_, seqset_, seqdrop_, seqasg_, ret_, retN_, if_, drop_, set_, asg_, for_, raise0_, raise1_, var_, c_, c2_, test_, and_, or_, not_, andV_, orV_, notV_, nil_, cons_, tup0_, tup1_, tup2_, tup3_, tup4_, tup5_, lst0_, lst1_, lst2_, lst3_, lst4_, lst5_, lst6_, lst7_, lst8_, lst9_, lst10_, lstv1_, lstv2_, lstv3_, lstv4_, lstv5_, b_, m_, call1_, call2_, call3_, call4_, call5_, neg_, slice_, none_, some_, rev_, comp_, gtup_, gn_nil, gn_cons, wipe_n, wipe_c, iseq_, sq_t, sq_r, r1_, r2_, add_i, add_s, add_t, sub_i, mul_i, int_o, cmp_o, isn_, ix_t, ix_r, ix_s, len_t2, len_t3, len_t4, len_t5, len_r, int1_i, two_, tuple_t, tuple_r, list_t, list_r, str_i, sl_t, sl_r, rev_t, rev_r, lo_l, lo_r, isi_t_t, isi_i_t, isi_s_s, isi_i_i, isi_i_b, isi_b_b, at0, at1, at2, at3, eq_i, eq_s, ol_s, vr_s, tb_b, ti_i, Br_t, Br_f, List.getElem?_cons_zero, List.getElem?_cons_succ, List.set_cons_zero, List.set_cons_succ, true_and, eq_self, Bool.not_true, Bool.not_false, Bool.false_eq_true, if_true, if_false, Nat.reduceLeDiff, ite_true, ite_false, app_ _ e5']))
                refine ⟨size_le (by simp; omega), hK4 _ _ ⟨_, ls.eraseIdx ((r (2 + 3 * (many : Int) + 9 * (n : Int) + 3 + (m : Int))).fmod (ls.length : Int)).toNat, ps' ++ [_], rfl, mx_put (mx_put x4 hpf) hpp1, by rw [put_ne npf, put_same, erase_map], by rw [put_same]; simp; rfl, by rw [List.length_eraseIdx_of_lt (by omega)]; simp; omega, by simp; omega, by simp⟩⟩
              · have h := of_decide_eq_false h
                rw [List.length_map] at h
                (try simp only [skip_, seqset_, seqdrop_, seqasg_, ret_, retN_, if_, drop_, set_, asg_, for_, raise0_, raise1_, var_, c_, c2_, test_, and_, or_, not_, andV_, orV_, notV_, nil_, cons_, tup0_, tup1_, tup2_, tup3_, tup4_, tup5_, lst0_, lst1_, lst2_, lst3_, lst4_, lst5_, lst6_, lst7_, lst8_, lst9_, lst10_, lstv1_, lstv2_, lstv3_, lstv4_, lstv5_, b_, m_, call1_, call2_, call3_, call4_, call5_, neg_, slice_, none_, some_, rev_, comp_, gtup_, gn_nil, gn_cons, wipe_n, wipe_c, iseq_, sq_t, sq_r, r1_, r2_, add_i, add_s, add_t, sub_i, mul_i, int_o, cmp_o, isn_, ix_t, ix_r, ix_s, len_t2, len_t3, len_t4, len_t5, len_r, int1_i, two_, tuple_t, tuple_r, list_t, list_r, str_i, sl_t, sl_r, rev_t, rev_r, lo_l, lo_r, isi_t_t, isi_i_t, isi_s_s, isi_i_i, isi_i_b, isi_b_b, at0, at1, at2, at3, eq_i, eq_s, ol_s, vr_s, tb_b, ti_i, Br_t, Br_f, List.getElem?_cons_zero, List.getElem?_cons_succ, List.set_cons_zero, List.set_cons_succ, true_and, eq_self, Bool.not_true, Bool.not_false, Bool.false_eq_true, if_true, if_false, Nat.reduceLeDiff, ite_true, ite_false]); (repeat (refine Nx.mk ?_; try simp only [skip_, seqset_, seqdrop_, seqasg_, ret_, retN_, if_, drop_, set_, asg_, for_, raise0_, raise1_, var_, c_, c2_, test_, and_, or_, not_, andV_, orV_, notV_, nil_, cons_, tup0_, tup1_, tup2_, tup3_, tup4_, tup5_, lst0_, lst1_, lst2_, lst3_, lst4_, lst5_, lst6_, lst7_, lst8_, lst9_, lst10_, lstv1_, lstv2_, lstv3_, lstv4_, lstv5_, b_, m_, call1_, call2_, call3_, call4_, call5_, neg_, slice_, none_, some_, rev_, comp_, gtup_, gn_nil, gn_cons, wipe_n, wipe_c, iseq_, sq_t, sq_r, r1_, r2_, add_i, add_s, add_t, sub_i, mul_i, int_o, cmp_o, isn_, ix_t, ix_r, ix_s, len_t2, len_t3, len_t4, len_t5, len_r, int1_i, two_, tuple_t, tuple_r, list_t, list_r, str_i, sl_t, sl_r, rev_t, rev_r, lo_l, lo_r, isi_t_t, isi_i_t, isi_s_s, isi_i_i, isi_i_b, isi_b_b, at0, at1, at2, at3, eq_i, eq_s, ol_s, vr_s, tb_b, ti_i, Br_t, Br_f, List.getElem?_cons_zero, List.getElem?_cons_succ, List.set_cons_zero, List.set_cons_succ, true_and, eq_self, Bool.not_true, Bool.not_false, Bool.false_eq_true, if_true, if_false, Nat.reduceLeDiff, ite_true, ite_false]))
                exact hK4 _ _ ⟨_, ls, ps', rfl, x4, e4, e5, hsum, by omega, fun _ => by omega⟩
            · rintro _ M4 ⟨o12, ls, ps', rfl, x4, e4, e5, hsum, hle, hpos⟩
              rw [rng_len] at hle hpos
              exact hK3 _ _ ⟨_, ls, ps', rfl, x4, e4, e5, hsum, by omega, hpos (by omega)⟩
          · rintro _ M4 ⟨o12, ls, ps', rfl, x4, e4, e5, hsum, hle, hpos⟩
            have XM4 := mxT XM1 x4
            (try simp (disch := omega) only [skip_, seqset_, seqdrop_, seqasg_, ret_, retN_, if_, drop_, set_, asg_, for_, raise0_, raise1_, var_, c_, c2_, test_, and_, or_, not_, andV_, orV_, notV_, nil_, cons_, tup0_, tup1_, tup2_, tup3_, tup4_, tup5_, lst0_, lst1_, lst2_, lst3_, lst4_, lst5_, lst6_, lst7_, lst8_, lst9_, lst10_, lstv1_, lstv2_, lstv3_, lstv4_, lstv5_, b_, m_, call1_, call2_, call3_, call4_, call5_, neg_, slice_, none_, some_, rev_, comp_, gtup_, gn_nil, gn_cons, wipe_n, wipe_c, iseq_, sq_t, sq_r, r1_, r2_, add_i, add_s, add_t, sub_i, mul_i, int_o, cmp_o, isn_, ix_t, ix_r, ix_s, len_t2, len_t3, len_t4, len_t5, len_r, int1_i, two_, tuple_t, tuple_r, list_t, list_r, str_i, sl_t, sl_r, rev_t, rev_r, lo_l, lo_r, isi_t_t, isi_i_t, isi_s_s, isi_i_i, isi_i_b, isi_b_b, at0, at1, at2, at3, eq_i, eq_s, ol_s, vr_s, tb_b, ti_i, Br_t, Br_f, List.getElem?_cons_zero, List.getElem?_cons_succ, List.set_cons_zero, List.set_cons_succ, true_and, eq_self, Bool.not_true, Bool.not_false, Bool.false_eq_true, if_true, if_false, Nat.reduceLeDiff, ite_true, ite_false, mx_ol XM4 (lst_ol eD), at2]); (repeat (refine Nx.mk ?_; try simp (disch := omega) only [skip_, seqset_, seqdrop_, seqasg_, ret_, retN_, if_, drop_, set_, asg_, for_, raise0_, raise1_, var_, c_, c2_, test_, and_, or_, not_, andV_, orV_, notV_, nil_, cons_, tup0_, tup1_, tup2_, tup3_, tup4_, tup5_, lst0_, lst1_, lst2_, lst3_, lst4_, lst5_, lst6_, lst7_, lst8_, lst9_, lst10_, lstv1_, lstv2_, lstv3_, lstv4_, lstv5_, b_, m_, call1_, call2_, call3_, call4_, call5_, neg_, slice_, none_, some_, rev_, comp_, gtup_, gn_nil, gn_cons, wipe_n, wipe_c, iseq_, sq_t, sq_r, r1_, r2_, add_i, add_s, add_t, sub_i, mul_i, int_o, cmp_o, isn_, ix_t, ix_r, ix_s, len_t2, len_t3, len_t4, len_t5, len_r, int1_i, two_, tuple_t, tuple_r, list_t, list_r, str_i, sl_t, sl_r, rev_t, rev_r, lo_l, lo_r, isi_t_t, isi_i_t, isi_s_s, isi_i_i, isi_i_b, isi_b_b, at0, at1, at2, at3, eq_i, eq_s, ol_s, vr_s, tb_b, ti_i, Br_t, Br_f, List.getElem?_cons_zero, List.getElem?_cons_succ, List.set_cons_zero, List.set_cons_succ, true_and, eq_self, Bool.not_true, Bool.not_false, Bool.false_eq_true, if_true, if_false, Nat.reduceLeDiff, ite_true, ite_false, mx_ol XM4 (lst_ol eD), at2]))
            rw [show (40 : Int) + (n : Int) = ((40 + n : Nat) : Int) by omega]
            refine word_sp (by omega) fun nm M5 x5 hnm => ?_
            (try simp only [skip_, seqset_, seqdrop_, seqasg_, ret_, retN_, if_, drop_, set_, asg_, for_, raise0_, raise1_, var_, c_, c2_, test_, and_, or_, not_, andV_, orV_, notV_, nil_, cons_, tup0_, tup1_, tup2_, tup3_, tup4_, tup5_, lst0_, lst1_, lst2_, lst3_, lst4_, lst5_, lst6_, lst7_, lst8_, lst9_, lst10_, lstv1_, lstv2_, lstv3_, lstv4_, lstv5_, b_, m_, call1_, call2_, call3_, call4_, call5_, neg_, slice_, none_, some_, rev_, comp_, gtup_, gn_nil, gn_cons, wipe_n, wipe_c, iseq_, sq_t, sq_r, r1_, r2_, add_i, add_s, add_t, sub_i, mul_i, int_o, cmp_o, isn_, ix_t, ix_r, ix_s, len_t2, len_t3, len_t4, len_t5, len_r, int1_i, two_, tuple_t, tuple_r, list_t, list_r, str_i, sl_t, sl_r, rev_t, rev_r, lo_l, lo_r, isi_t_t, isi_i_t, isi_s_s, isi_i_i, isi_i_b, isi_b_b, at0, at1, at2, at3, eq_i, eq_s, ol_s, vr_s, tb_b, ti_i, Br_t, Br_f, List.getElem?_cons_zero, List.getElem?_cons_succ, List.set_cons_zero, List.set_cons_succ, true_and, eq_self, Bool.not_true, Bool.not_false, Bool.false_eq_true, if_true, if_false, Nat.reduceLeDiff, ite_true, ite_false]); (repeat (refine Nx.mk ?_; try simp only [skip_, seqset_, seqdrop_, seqasg_, ret_, retN_, if_, drop_, set_, asg_, for_, raise0_, raise1_, var_, c_, c2_, test_, and_, or_, not_, andV_, orV_, notV_, nil_, cons_, tup0_, tup1_, tup2_, tup3_, tup4_, tup5_, lst0_, lst1_, lst2_, lst3_, lst4_, lst5_, lst6_, lst7_, lst8_, lst9_, lst10_, lstv1_, lstv2_, lstv3_, lstv4_, lstv5_, b_, m_, call1_, call2_, call3_, call4_, call5_, neg_, slice_, none_, some_, rev_, comp_, gtup_, gn_nil, gn_cons, wipe_n, wipe_c, iseq_, sq_t, sq_r, r1_, r2_, add_i, add_s, add_t, sub_i, mul_i, int_o, cmp_o, isn_, ix_t, ix_r, ix_s, len_t2, len_t3, len_t4, len_t5, len_r, int1_i, two_, tuple_t, tuple_r, list_t, list_r, str_i, sl_t, sl_r, rev_t, rev_r, lo_l, lo_r, isi_t_t, isi_i_t, isi_s_s, isi_i_i, isi_i_b, isi_b_b, at0, at1, at2, at3, eq_i, eq_s, ol_s, vr_s, tb_b, ti_i, Br_t, Br_f, List.getElem?_cons_zero, List.getElem?_cons_succ, List.set_cons_zero, List.set_cons_succ, true_and, eq_self, Bool.not_true, Bool.not_false, Bool.false_eq_true, if_true, if_false, Nat.reduceLeDiff, ite_true, ite_false]))
            have XM5 := mxT XM4 x5
            have es5 := x5 _ _ (x4 _ _ es1)
            have el5 := x5 _ _ (x4 _ _ el)
            have ep5 := x5 _ _ e5
            (try refine Nx.mk ?_); refine seq_m (fun ρ' M'' => ∃ nm : Str, ρ' = [some (.ref a), some (.int k), some (.ref p2), some (.int many), some (.int count), some (.ref pd), some (.ref ps), some (.int n), some (.ref pl), some (.int (2 + 3 * (many : Int) + 9 * (n : Int))), some (.ref pf), some (.ref pp), o12, some (.str nm), none] ∧ (Nm (40 + n) nm ∨ n < 2 ∧ Nm n nm) ∧ M5 = M'') (fun Kn3 hK3 => ?_) ?_
            · (try simp (disch := omega) only [skip_, seqset_, seqdrop_, seqasg_, ret_, retN_, if_, drop_, set_, asg_, for_, raise0_, raise1_, var_, c_, c2_, test_, and_, or_, not_, andV_, orV_, notV_, nil_, cons_, tup0_, tup1_, tup2_, tup3_, tup4_, tup5_, lst0_, lst1_, lst2_, lst3_, lst4_, lst5_, lst6_, lst7_, lst8_, lst9_, lst10_, lstv1_, lstv2_, lstv3_, lstv4_, lstv5_, b_, m_, call1_, call2_, call3_, call4_, call5_, neg_, slice_, none_, some_, rev_, comp_, gtup_, gn_nil, gn_cons, wipe_n, wipe_c, iseq_, sq_t, sq_r, r1_, r2_, add_i, add_s, add_t, sub_i, mul_i, int_o, cmp_o, isn_, ix_t, ix_r, ix_s, len_t2, len_t3, len_t4, len_t5, len_r, int1_i, two_, tuple_t, tuple_r, list_t, list_r, str_i, sl_t, sl_r, rev_t, rev_r, lo_l, lo_r, isi_t_t, isi_i_t, isi_s_s, isi_i_i, isi_i_b, isi_b_b, at0, at1, at2, at3, eq_i, eq_s, ol_s, vr_s, tb_b, ti_i, Br_t, Br_f, List.getElem?_cons_zero, List.getElem?_cons_succ, List.set_cons_zero, List.set_cons_succ, true_and, eq_self, Bool.not_true, Bool.not_false, Bool.false_eq_true, if_true, if_false, Nat.reduceLeDiff, ite_true, ite_false, mx_ol XM5 (lst_ol eD), at2]); (repeat (refine Nx.mk ?_; try simp (disch := omega) only [skip_, seqset_, seqdrop_, seqasg_, ret_, retN_, if_, drop_, set_, asg_, for_, raise0_, raise1_, var_, c_, c2_, test_, and_, or_, not_, andV_, orV_, notV_, nil_, cons_, tup0_, tup1_, tup2_, tup3_, tup4_, tup5_, lst0_, lst1_, lst2_, lst3_, lst4_, lst5_, lst6_, lst7_, lst8_, lst9_, lst10_, lstv1_, lstv2_, lstv3_, lstv4_, lstv5_, b_, m_, call1_, call2_, call3_, call4_, call5_, neg_, slice_, none_, some_, rev_, comp_, gtup_, gn_nil, gn_cons, wipe_n, wipe_c, iseq_, sq_t, sq_r, r1_, r2_, add_i, add_s, add_t, sub_i, mul_i, int_o, cmp_o, isn_, ix_t, ix_r, ix_s, len_t2, len_t3, len_t4, len_t5, len_r, int1_i, two_, tuple_t, tuple_r, list_t, list_r, str_i, sl_t, sl_r, rev_t, rev_r, lo_l, lo_r, isi_t_t, isi_i_t, isi_s_s, isi_i_i, isi_i_b, isi_b_b, at0, at1, at2, at3, eq_i, eq_s, ol_s, vr_s, tb_b, ti_i, Br_t, Br_f, List.getElem?_cons_zero, List.getElem?_cons_succ, List.set_cons_zero, List.set_cons_succ, true_and, eq_self, Bool.not_true, Bool.not_false, Bool.false_eq_true, if_true, if_false, Nat.reduceLeDiff, ite_true, ite_false, mx_ol XM5 (lst_ol eD), at2]))
              refine Br_i (fun h => ?_) (fun h => hK3 _ _ ⟨nm, rfl, Or.inl hnm, rfl⟩)
              (try simp only [skip_, seqset_, seqdrop_, seqasg_, ret_, retN_, if_, drop_, set_, asg_, for_, raise0_, raise1_, var_, c_, c2_, test_, and_, or_, not_, andV_, orV_, notV_, nil_, cons_, tup0_, tup1_, tup2_, tup3_, tup4_, tup5_, lst0_, lst1_, lst2_, lst3_, lst4_, lst5_, lst6_, lst7_, lst8_, lst9_, lst10_, lstv1_, lstv2_, lstv3_, lstv4_, lstv5_, b_, m_, call1_, call2_, call3_, call4_, call5_, neg_, slice_, none_, some_, rev_, comp_, gtup_, gn_nil, gn_cons, wipe_n, wipe_c, iseq_, sq_t, sq_r, r1_, r2_, add_i, add_s, add_t, sub_i, mul_i, int_o, cmp_o, isn_, ix_t, ix_r, ix_s, len_t2, len_t3, len_t4, len_t5, len_r, int1_i, two_, tuple_t, tuple_r, list_t, list_r, str_i, sl_t, sl_r, rev_t, rev_r, lo_l, lo_r, isi_t_t, isi_i_t, isi_s_s, isi_i_i, isi_i_b, isi_b_b, at0, at1, at2, at3, eq_i, eq_s, ol_s, vr_s, tb_b, ti_i, Br_t, Br_f, List.getElem?_cons_zero, List.getElem?_cons_succ, List.set_cons_zero, List.set_cons_succ, true_and, eq_self, Bool.not_true, Bool.not_false, Bool.false_eq_true, if_true, if_false, Nat.reduceLeDiff, ite_true, ite_false]); (repeat (refine Nx.mk ?_; try simp only [skip_, seqset_, seqdrop_, seqasg_, ret_, retN_, if_, drop_, set_, asg_, for_, raise0_, raise1_, var_, c_, c2_, test_, and_, or_, not_, andV_, orV_, notV_, nil_, cons_, tup0_, tup1_, tup2_, tup3_, tup4_, tup5_, lst0_, lst1_, lst2_, lst3_, lst4_, lst5_, lst6_, lst7_, lst8_, lst9_, lst10_, lstv1_, lstv2_, lstv3_, lstv4_, lstv5_, b_, m_, call1_, call2_, call3_, call4_, call5_, neg_, slice_, none_, some_, rev_, comp_, gtup_, gn_nil, gn_cons, wipe_n, wipe_c, iseq_, sq_t, sq_r, r1_, r2_, add_i, add_s, add_t, sub_i, mul_i, int_o, cmp_o, isn_, ix_t, ix_r, ix_s, len_t2, len_t3, len_t4, len_t5, len_r, int1_i, two_, tuple_t, tuple_r, list_t, list_r, str_i, sl_t, sl_r, rev_t, rev_r, lo_l, lo_r, isi_t_t, isi_i_t, isi_s_s, isi_i_i, isi_i_b, isi_b_b, at0, at1, at2, at3, eq_i, eq_s, ol_s, vr_s, tb_b, ti_i, Br_t, Br_f, List.getElem?_cons_zero, List.getElem?_cons_succ, List.set_cons_zero, List.set_cons_succ, true_and, eq_self, Bool.not_true, Bool.not_false, Bool.false_eq_true, if_true, if_false, Nat.reduceLeDiff, ite_true, ite_false]))
              refine Br_i (fun h => ?_) (fun h => hK3 _ _ ⟨nm, rfl, Or.inl hnm, rfl⟩)
              have h := of_decide_eq_true h
              have hs2 : n < sts.length := by omega
              obtain ⟨nm2, v2, hd2, hnm2⟩ := hb n _ (List.getElem?_eq_getElem hs2)
              (try simp only [skip_, seqset_, seqdrop_, seqasg_, ret_, retN_, if_, drop_, set_, asg_, for_, raise0_, raise1_, var_, c_, c2_, test_, and_, or_, not_, andV_, orV_, notV_, nil_, cons_, tup0_, tup1_, tup2_, tup3_, tup4_, tup5_, lst0_, lst1_, lst2_, lst3_, lst4_, lst5_, lst6_, lst7_, lst8_, lst9_, lst10_, lstv1_, lstv2_, lstv3_, lstv4_, lstv5_, b_, m_, call1_, call2_, call3_, call4_, call5_, neg_, slice_, none_, some_, rev_, comp_, gtup_, gn_nil, gn_cons, wipe_n, wipe_c, iseq_, sq_t, sq_r, r1_, r2_, add_i, add_s, add_t, sub_i, mul_i, int_o, cmp_o, isn_, ix_t, ix_r, ix_s, len_t2, len_t3, len_t4, len_t5, len_r, int1_i, two_, tuple_t, tuple_r, list_t, list_r, str_i, sl_t, sl_r, rev_t, rev_r, lo_l, lo_r, isi_t_t, isi_i_t, isi_s_s, isi_i_i, isi_i_b, isi_b_b, at0, at1, at2, at3, eq_i, eq_s, ol_s, vr_s, tb_b, ti_i, Br_t, Br_f, List.getElem?_cons_zero, List.getElem?_cons_succ, List.set_cons_zero, List.set_cons_succ, true_and, eq_self, Bool.not_true, Bool.not_false, Bool.false_eq_true, if_true, if_false, Nat.reduceLeDiff, ite_true, ite_false, lst_ol es5, atI_of (xs := sts) (i := (n : Int)) (n := n) rfl ((List.getElem?_eq_getElem hs2).trans (congrArg some hd2))]); (repeat (refine Nx.mk ?_; try simp only [skip_, seqset_, seqdrop_, seqasg_, ret_, retN_, if_, drop_, set_, asg_, for_, raise0_, raise1_, var_, c_, c2_, test_, and_, or_, not_, andV_, orV_, notV_, nil_, cons_, tup0_, tup1_, tup2_, tup3_, tup4_, tup5_, lst0_, lst1_, lst2_, lst3_, lst4_, lst5_, lst6_, lst7_, lst8_, lst9_, lst10_, lstv1_, lstv2_, lstv3_, lstv4_, lstv5_, b_, m_, call1_, call2_, call3_, call4_, call5_, neg_, slice_, none_, some_, rev_, comp_, gtup_, gn_nil, gn_cons, wipe_n, wipe_c, iseq_, sq_t, sq_r, r1_, r2_, add_i, add_s, add_t, sub_i, mul_i, int_o, cmp_o, isn_, ix_t, ix_r, ix_s, len_t2, len_t3, len_t4, len_t5, len_r, int1_i, two_, tuple_t, tuple_r, list_t, list_r, str_i, sl_t, sl_r, rev_t, rev_r, lo_l, lo_r, isi_t_t, isi_i_t, isi_s_s, isi_i_i, isi_i_b, isi_b_b, at0, at1, at2, at3, eq_i, eq_s, ol_s, vr_s, tb_b, ti_i, Br_t, Br_f, List.getElem?_cons_zero, List.getElem?_cons_succ, List.set_cons_zero, List.set_cons_succ, true_and, eq_self, Bool.not_true, Bool.not_false, Bool.false_eq_true, if_true, if_false, Nat.reduceLeDiff, ite_true, ite_false, lst_ol es5, atI_of (xs := sts) (i := (n : Int)) (n := n) rfl ((List.getElem?_eq_getElem hs2).trans (congrArg some hd2))]))
              exact hK3 _ _ ⟨nm2, rfl, Or.inr ⟨by omega, hnm2⟩, rfl⟩
            · rintro _ _ ⟨nm, rfl, hnm, rfl⟩
              (try simp (disch := omega) only [skip_, seqset_, seqdrop_, seqasg_, ret_, retN_, if_, drop_, set_, asg_, for_, raise0_, raise1_, var_, c_, c2_, test_, and_, or_, not_, andV_, orV_, notV_, nil_, cons_, tup0_, tup1_, tup2_, tup3_, tup4_, tup5_, lst0_, lst1_, lst2_, lst3_, lst4_, lst5_, lst6_, lst7_, lst8_, lst9_, lst10_, lstv1_, lstv2_, lstv3_, lstv4_, lstv5_, b_, m_, call1_, call2_, call3_, call4_, call5_, neg_, slice_, none_, some_, rev_, comp_, gtup_, gn_nil, gn_cons, wipe_n, wipe_c, iseq_, sq_t, sq_r, r1_, r2_, add_i, add_s, add_t, sub_i, mul_i, int_o, cmp_o, isn_, ix_t, ix_r, ix_s, len_t2, len_t3, len_t4, len_t5, len_r, int1_i, two_, tuple_t, tuple_r, list_t, list_r, str_i, sl_t, sl_r, rev_t, rev_r, lo_l, lo_r, isi_t_t, isi_i_t, isi_s_s, isi_i_i, isi_i_b, isi_b_b, at0, at1, at2, at3, eq_i, eq_s, ol_s, vr_s, tb_b, ti_i, Br_t, Br_f, List.getElem?_cons_zero, List.getElem?_cons_succ, List.set_cons_zero, List.set_cons_succ, true_and, eq_self, Bool.not_true, Bool.not_false, Bool.false_eq_true, if_true, if_false, Nat.reduceLeDiff, ite_true, ite_false, ty_l el5, mx_ol XM5 (lst_ol eD), at2]); (repeat (refine Nx.mk ?_; try simp (disch := omega) only [skip_, seqset_, seqdrop_, seqasg_, ret_, retN_, if_, drop_, set_, asg_, for_, raise0_, raise1_, var_, c_, c2_, test_, and_, or_, not_, andV_, orV_, notV_, nil_, cons_, tup0_, tup1_, tup2_, tup3_, tup4_, tup5_, lst0_, lst1_, lst2_, lst3_, lst4_, lst5_, lst6_, lst7_, lst8_, lst9_, lst10_, lstv1_, lstv2_, lstv3_, lstv4_, lstv5_, b_, m_, call1_, call2_, call3_, call4_, call5_, neg_, slice_, none_, some_, rev_, comp_, gtup_, gn_nil, gn_cons, wipe_n, wipe_c, iseq_, sq_t, sq_r, r1_, r2_, add_i, add_s, add_t, sub_i, mul_i, int_o, cmp_o, isn_, ix_t, ix_r, ix_s, len_t2, len_t3, len_t4, len_t5, len_r, int1_i, two_, tuple_t, tuple_r, list_t, list_r, str_i, sl_t, sl_r, rev_t, rev_r, lo_l, lo_r, isi_t_t, isi_i_t, isi_s_s, isi_i_i, isi_i_b, isi_b_b, at0, at1, at2, at3, eq_i, eq_s, ol_s, vr_s, tb_b, ti_i, Br_t, Br_f, List.getElem?_cons_zero, List.getElem?_cons_succ, List.set_cons_zero, List.set_cons_succ, true_and, eq_self, Bool.not_true, Bool.not_false, Bool.false_eq_true, if_true, if_false, Nat.reduceLeDiff, ite_true, ite_false, ty_l el5, mx_ol XM5 (lst_ol eD), at2]))
              rw [show (60 : Int) + (n : Int) = ((60 + n : Nat) : Int) by omega]
              refine word_sp (by omega) fun w M6 x6 hw => ?_
              (try simp (disch := omega) only [skip_, seqset_, seqdrop_, seqasg_, ret_, retN_, if_, drop_, set_, asg_, for_, raise0_, raise1_, var_, c_, c2_, test_, and_, or_, not_, andV_, orV_, notV_, nil_, cons_, tup0_, tup1_, tup2_, tup3_, tup4_, tup5_, lst0_, lst1_, lst2_, lst3_, lst4_, lst5_, lst6_, lst7_, lst8_, lst9_, lst10_, lstv1_, lstv2_, lstv3_, lstv4_, lstv5_, b_, m_, call1_, call2_, call3_, call4_, call5_, neg_, slice_, none_, some_, rev_, comp_, gtup_, gn_nil, gn_cons, wipe_n, wipe_c, iseq_, sq_t, sq_r, r1_, r2_, add_i, add_s, add_t, sub_i, mul_i, int_o, cmp_o, isn_, ix_t, ix_r, ix_s, len_t2, len_t3, len_t4, len_t5, len_r, int1_i, two_, tuple_t, tuple_r, list_t, list_r, str_i, sl_t, sl_r, rev_t, rev_r, lo_l, lo_r, isi_t_t, isi_i_t, isi_s_s, isi_i_i, isi_i_b, isi_b_b, at0, at1, at2, at3, eq_i, eq_s, ol_s, vr_s, tb_b, ti_i, Br_t, Br_f, List.getElem?_cons_zero, List.getElem?_cons_succ, List.set_cons_zero, List.set_cons_succ, true_and, eq_self, Bool.not_true, Bool.not_false, Bool.false_eq_true, if_true, if_false, Nat.reduceLeDiff, ite_true, ite_false, lst_ol (x6 _ _ ep5), app_ _ (x6 _ _ el5)]); (repeat (refine Nx.mk ?_; try simp (disch := omega) only [skip_, seqset_, seqdrop_, seqasg_, ret_, retN_, if_, drop_, set_, asg_, for_, raise0_, raise1_, var_, c_, c2_, test_, and_, or_, not_, andV_, orV_, notV_, nil_, cons_, tup0_, tup1_, tup2_, tup3_, tup4_, tup5_, lst0_, lst1_, lst2_, lst3_, lst4_, lst5_, lst6_, lst7_, lst8_, lst9_, lst10_, lstv1_, lstv2_, lstv3_, lstv4_, lstv5_, b_, m_, call1_, call2_, call3_, call4_, call5_, neg_, slice_, none_, some_, rev_, comp_, gtup_, gn_nil, gn_cons, wipe_n, wipe_c, iseq_, sq_t, sq_r, r1_, r2_, add_i, add_s, add_t, sub_i, mul_i, int_o, cmp_o, isn_, ix_t, ix_r, ix_s, len_t2, len_t3, len_t4, len_t5, len_r, int1_i, two_, tuple_t, tuple_r, list_t, list_r, str_i, sl_t, sl_r, rev_t, rev_r, lo_l, lo_r, isi_t_t, isi_i_t, isi_s_s, isi_i_i, isi_i_b, isi_b_b, at0, at1, at2, at3, eq_i, eq_s, ol_s, vr_s, tb_b, ti_i, Br_t, Br_f, List.getElem?_cons_zero, List.getElem?_cons_succ, List.set_cons_zero, List.set_cons_succ, true_and, eq_self, Bool.not_true, Bool.not_false, Bool.false_eq_true, if_true, if_false, Nat.reduceLeDiff, ite_true, ite_false, lst_ol (x6 _ _ ep5), app_ _ (x6 _ _ el5)]))
              refine ⟨size_le (by omega), hK2 _ _ ⟨_, _, _, _, _, _, _, rfl, mx_put (mxT x1' (mxT x4 (mxT x5 x6))) hpl, put_same, by simp [hn'], all_snoc hb' (hn' ▸ ⟨nm, w, ps', rfl, hnm, hpos, hle⟩)⟩⟩
      · rintro _ M1 ⟨o7, o9, o10, o11, o12, o13, lns, rfl, x1', el, hn', hb'⟩
        exact hK _ _ ⟨o7, o9, o10, o11, o12, o13, lns, rfl, x1', el, by simpa [rng_len] using hn', hb'⟩
    · rintro _ M1 ⟨o7, o9, o10, o11, o12, o13, lns, rfl, x1', el, hn', hb'⟩
      have es := x1' _ _ e
      (try simp only [skip_, seqset_, seqdrop_, seqasg_, ret_, retN_, if_, drop_, set_, asg_, for_, raise0_, raise1_, var_, c_, c2_, test_, and_, or_, not_, andV_, orV_, notV_, nil_, cons_, tup0_, tup1_, tup2_, tup3_, tup4_, tup5_, lst0_, lst1_, lst2_, lst3_, lst4_, lst5_, lst6_, lst7_, lst8_, lst9_, lst10_, lstv1_, lstv2_, lstv3_, lstv4_, lstv5_, b_, m_, call1_, call2_, call3_, call4_, call5_, neg_, slice_, none_, some_, rev_, comp_, gtup_, gn_nil, gn_cons, wipe_n, wipe_c, iseq_, sq_t, sq_r, r1_, r2_, add_i, add_s, add_t, sub_i, mul_i, int_o, cmp_o, isn_, ix_t, ix_r, ix_s, len_t2, len_t3, len_t4, len_t5, len_r, int1_i, two_, tuple_t, tuple_r, list_t, list_r, str_i, sl_t, sl_r, rev_t, rev_r, lo_l, lo_r, isi_t_t, isi_i_t, isi_s_s, isi_i_i, isi_i_b, isi_b_b, at0, at1, at2, at3, eq_i, eq_s, ol_s, vr_s, tb_b, ti_i, Br_t, Br_f, List.getElem?_cons_zero, List.getElem?_cons_succ, List.set_cons_zero, List.set_cons_succ, true_and, eq_self, Bool.not_true, Bool.not_false, Bool.false_eq_true, if_true, if_false, Nat.reduceLeDiff, ite_true, ite_false, es, el]); (repeat (refine Nx.mk ?_; try simp only [skip_, seqset_, seqdrop_, seqasg_, ret_, retN_, if_, drop_, set_, asg_, for_, raise0_, raise1_, var_, c_, c2_, test_, and_, or_, not_, andV_, orV_, notV_, nil_, cons_, tup0_, tup1_, tup2_, tup3_, tup4_, tup5_, lst0_, lst1_, lst2_, lst3_, lst4_, lst5_, lst6_, lst7_, lst8_, lst9_, lst10_, lstv1_, lstv2_, lstv3_, lstv4_, lstv5_, b_, m_, call1_, call2_, call3_, call4_, call5_, neg_, slice_, none_, some_, rev_, comp_, gtup_, gn_nil, gn_cons, wipe_n, wipe_c, iseq_, sq_t, sq_r, r1_, r2_, add_i, add_s, add_t, sub_i, mul_i, int_o, cmp_o, isn_, ix_t, ix_r, ix_s, len_t2, len_t3, len_t4, len_t5, len_r, int1_i, two_, tuple_t, tuple_r, list_t, list_r, str_i, sl_t, sl_r, rev_t, rev_r, lo_l, lo_r, isi_t_t, isi_i_t, isi_s_s, isi_i_i, isi_i_b, isi_b_b, at0, at1, at2, at3, eq_i, eq_s, ol_s, vr_s, tb_b, ti_i, Br_t, Br_f, List.getElem?_cons_zero, List.getElem?_cons_succ, List.set_cons_zero, List.set_cons_succ, true_and, eq_self, Bool.not_true, Bool.not_false, Bool.false_eq_true, if_true, if_false, Nat.reduceLeDiff, ite_true, ite_false, es, el]))
      exact hQ _ _ _ (mxT XD (mxT x x1')) hb hb' (by omega) (by omega)
end
end K61

namespace K61
open PySem PySem.Spec PyProof.Rows L2 CL CP
section
variable {K : PySem.W.Frag} {g : Cs} {M : Mm} {Q : CK} {E : CL.CX}
structure Lt where
  nm : Str
  w : Str
  path : List Str
def Lt.d (l : Lt) : D := .tup [.str l.nm, .str l.w, .tup (l.path.map .str)]
structure Rn where
  l : Lt
  j : Nat
  way : Str
  f : Int
  st : Int
theorem Lt.d_eq (l : Lt) : l.d = .tup [.str l.nm, .str l.w, .tup (l.path.map .str)] := rfl
def Rn.d (r : Rn) : D := .tup [.str r.l.nm, .str r.way, .int r.f, .int r.st]
def Rn.en (r : Rn) : Int := r.f + r.st * ((r.l.path.length : Int) - 1)
def Rn.p (r : Rn) : List Str := if r.way = "home" then r.l.path.reverse else r.l.path
def visL (p : List Str) (f st : Int) : List D := (List.range p.length).map fun i => .tup [.str (p.getD i ""), .int (f + st * (i : Nat))]
def Rn.vis (r : Rn) : List D := visL r.p r.f r.st
def Rn.add (r : Rn) (x : Int) : Rn := { r with f := r.f + x }
structure Uq (ls : List Lt) : Prop where
  uq : ∀ (i j : Nat) (a b : Lt), ls[i]? = some a → ls[j]? = some b → a.nm = b.nm → i = j
  pos : ∀ l ∈ ls, 0 < l.path.length ∧ l.path.length ≤ 8
  ne : 0 < ls.length ∧ ls.length ≤ 4
structure Ok (ls : List Lt) (r : Rn) : Prop where
  at_ : ls[r.j]? = some r.l
  st : 0 < r.st ∧ r.st < 100
theorem Ok.add {ls : List Lt} {r : Rn} (h : Ok ls r) (x : Int) : Ok ls (r.add x) := ⟨h.at_, h.st⟩
theorem Rn.p_len (r : Rn) : r.p.length = r.l.path.length := by unfold Rn.p; split <;> simp
/-! names are told apart -/
def S6 : List Nat := [0, 1, 40, 41, 42, 43]
theorem dig : (toString ((0 : Nat) : Int) : Str).cps.toList = [48] ∧ (toString ((1 : Nat) : Int) : Str).cps.toList = [49] ∧ (toString ((40 : Nat) : Int) : Str).cps.toList = [52, 48] ∧ (toString ((41 : Nat) : Int) : Str).cps.toList = [52, 49] ∧ (toString ((42 : Nat) : Int) : Str).cps.toList = [52, 50] ∧ (toString ((43 : Nat) : Int) : Str).cps.toList = [52, 51] := by decide +kernel
theorem app_l (x y : Str) : (x ++ y).cps.toList = x.cps.toList ++ y.cps.toList := by
  show (x.cps ++ y.cps).toList = _
  exact Array.toList_append
theorem nm_inj {a b : Nat} {w : Str} (ha : a ∈ S6) (hb : b ∈ S6) (h : Nm a w) (h' : Nm b w) : a = b := by
  obtain ⟨c, t, e, _⟩ := h
  obtain ⟨c', t', e', _⟩ := h'
  have q : (((⟨#[c]⟩ : Str) ++ (toString (a : Int) : Str)) ++ t).cps.toList = (((⟨#[c']⟩ : Str) ++ (toString (b : Int) : Str)) ++ t').cps.toList := by rw [← e, ← e']
  rw [app_l, app_l, app_l, app_l] at q
  obtain ⟨d0, d1, d2, d3, d4, d5⟩ := dig
  simp only [S6, List.mem_cons, List.not_mem_nil, or_false] at ha hb
  rcases ha with rfl | rfl | rfl | rfl | rfl | rfl <;> rcases hb with rfl | rfl | rfl | rfl | rfl | rfl <;> first | rfl | (exfalso; simp only [d0, d1, d2, d3, d4, d5, List.cons_append, List.nil_append, List.cons.injEq] at q; simp at q)
theorem uq_of {lns : List D} (h : ∀ n d, lns[n]? = some d → Ln n d) (h1 : 0 < lns.length) (h2 : lns.length ≤ 4) : ∃ ls : List Lt, lns = ls.map Lt.d ∧ Uq ls := by
  have key : ∀ (lns : List D) (k : Nat), (∀ n d, lns[n]? = some d → Ln (k + n) d) → ∃ ls : List Lt, lns = ls.map Lt.d ∧ ∀ n l, ls[n]? = some l → (Nm (40 + (k + n)) l.nm ∨ k + n < 2 ∧ Nm (k + n) l.nm) ∧ 0 < l.path.length ∧ l.path.length ≤ 8 := by
    intro lns
    induction lns with
    | nil => exact fun k _ => ⟨[], rfl, fun n l h => by simp at h⟩
    | cons d lns ih =>
      intro k h
      obtain ⟨nm, w, path, rfl, hn, hp⟩ := h 0 d rfl
      obtain ⟨ls, rfl, h'⟩ := ih (k + 1) fun n d hd => by have := h (n + 1) d (by simpa using hd); rwa [show k + (n + 1) = k + 1 + n by omega] at this
      refine ⟨⟨nm, w, path⟩ :: ls, rfl, fun n l hl => ?_⟩
      cases n with
      | zero => cases hl; exact ⟨hn, hp⟩
      | succ n => have := h' n l (by simpa using hl); rwa [show k + 1 + n = k + (n + 1) by omega] at this
  obtain ⟨ls, rfl, hl⟩ := key lns 0 (fun n d hd => by rw [Nat.zero_add]; exact h n d hd)
  rw [List.length_map] at h1 h2
  refine ⟨ls, rfl, ⟨fun i j a b ha hb hab => ?_, fun l hm => ?_, h1, h2⟩⟩
  · have hi := (List.getElem?_eq_some_iff.mp ha).1
    have hj := (List.getElem?_eq_some_iff.mp hb).1
    have A := (hl i a ha).1
    have B := (hl j b hb).1
    rw [hab] at A
    simp only [Nat.zero_add] at A B
    have mi : 40 + i ∈ S6 := by simp only [S6, List.mem_cons, List.not_mem_nil, or_false]; omega
    have mj : 40 + j ∈ S6 := by simp only [S6, List.mem_cons, List.not_mem_nil, or_false]; omega
    rcases A with A | ⟨a2, A⟩ <;> rcases B with B | ⟨b2, B⟩
    · have := nm_inj mi mj A B; omega
    · have := nm_inj mi (by simp only [S6, List.mem_cons, List.not_mem_nil, or_false]; omega) A B; omega
    · have := nm_inj (by simp only [S6, List.mem_cons, List.not_mem_nil, or_false]; omega) mj A B; omega
    · have := nm_inj (by simp only [S6, List.mem_cons, List.not_mem_nil, or_false]; omega) (by simp only [S6, List.mem_cons, List.not_mem_nil, or_false]; omega) A B; omega
  · obtain ⟨n, hn⟩ := List.mem_iff_getElem?.mp hm
    exact (hl n l hn).2
/-! the product's lookup -/
theorem line_of_sp {c0 : D} {cr : List D} {ls : List Lt} (U : Uq ls) {j : Nat} {l : Lt} (hl : ls[j]? = some l) (hQ : ∀ M', MX M M' → Q l.d M') : cf_line_of K g [.tup (c0 :: .tup (ls.map Lt.d) :: cr), .str l.nm] M Q E := by
  show R_line_of K g ⟨_, _, _⟩ [some (.tup (c0 :: .tup (ls.map Lt.d) :: cr)), some (.str l.nm), none] M
  unfold R_line_of
  (try refine Nx.mk ?_); refine seq_m (fun _ _ => False) (fun Kn hK => ?_) (fun _ _ h => h.elim)
  (try simp only [skip_, seqset_, seqdrop_, seqasg_, ret_, retN_, if_, drop_, set_, asg_, for_, raise0_, raise1_, var_, c_, c2_, test_, and_, or_, not_, andV_, orV_, notV_, nil_, cons_, tup0_, tup1_, tup2_, tup3_, tup4_, tup5_, lst0_, lst1_, lst2_, lst3_, lst4_, lst5_, lst6_, lst7_, lst8_, lst9_, lst10_, lstv1_, lstv2_, lstv3_, lstv4_, lstv5_, b_, m_, call1_, call2_, call3_, call4_, call5_, neg_, slice_, none_, some_, rev_, comp_, gtup_, gn_nil, gn_cons, wipe_n, wipe_c, iseq_, sq_t, sq_r, r1_, r2_, add_i, add_s, add_t, sub_i, mul_i, int_o, cmp_o, isn_, ix_t, ix_r, ix_s, len_t2, len_t3, len_t4, len_t5, len_r, int1_i, two_, tuple_t, tuple_r, list_t, list_r, str_i, sl_t, sl_r, rev_t, rev_r, lo_l, lo_r, isi_t_t, isi_i_t, isi_s_s, isi_i_i, isi_i_b, isi_b_b, at0, at1, at2, at3, eq_i, eq_s, ol_s, vr_s, tb_b, ti_i, Br_t, Br_f, List.getElem?_cons_zero, List.getElem?_cons_succ, List.set_cons_zero, List.set_cons_succ, true_and, eq_self, Bool.not_true, Bool.not_false, Bool.false_eq_true, if_true, if_false, Nat.reduceLeDiff, ite_true, ite_false]); (repeat (refine Nx.mk ?_; try simp only [skip_, seqset_, seqdrop_, seqasg_, ret_, retN_, if_, drop_, set_, asg_, for_, raise0_, raise1_, var_, c_, c2_, test_, and_, or_, not_, andV_, orV_, notV_, nil_, cons_, tup0_, tup1_, tup2_, tup3_, tup4_, tup5_, lst0_, lst1_, lst2_, lst3_, lst4_, lst5_, lst6_, lst7_, lst8_, lst9_, lst10_, lstv1_, lstv2_, lstv3_, lstv4_, lstv5_, b_, m_, call1_, call2_, call3_, call4_, call5_, neg_, slice_, none_, some_, rev_, comp_, gtup_, gn_nil, gn_cons, wipe_n, wipe_c, iseq_, sq_t, sq_r, r1_, r2_, add_i, add_s, add_t, sub_i, mul_i, int_o, cmp_o, isn_, ix_t, ix_r, ix_s, len_t2, len_t3, len_t4, len_t5, len_r, int1_i, two_, tuple_t, tuple_r, list_t, list_r, str_i, sl_t, sl_r, rev_t, rev_r, lo_l, lo_r, isi_t_t, isi_i_t, isi_s_s, isi_i_i, isi_i_b, isi_b_b, at0, at1, at2, at3, eq_i, eq_s, ol_s, vr_s, tb_b, ti_i, Br_t, Br_f, List.getElem?_cons_zero, List.getElem?_cons_succ, List.set_cons_zero, List.set_cons_succ, true_and, eq_self, Bool.not_true, Bool.not_false, Bool.false_eq_true, if_true, if_false, Nat.reduceLeDiff, ite_true, ite_false]))
  refine for_0 (fun n ρ' M' => ∃ o, ρ' = [some (.tup (c0 :: .tup (ls.map Lt.d) :: cr)), some (.str l.nm), o] ∧ n ≤ j ∧ MX M M') ⟨_, rfl, Nat.zero_le _, MX.refl'⟩ (fun _ _ _ _ _ => trivial) ?_ ?_
  · rintro n d hd _ M' ⟨o, rfl, hn, x⟩
    rw [List.getElem?_map] at hd
    cases hln : ls[n]? with
    | none => rw [hln] at hd; cases hd
    | some l2 =>
      rw [hln] at hd; cases hd
      refine ⟨_, rfl, fun Kn2 hK2 => ?_⟩
      rw [Lt.d_eq]
      (try simp only [skip_, seqset_, seqdrop_, seqasg_, ret_, retN_, if_, drop_, set_, asg_, for_, raise0_, raise1_, var_, c_, c2_, test_, and_, or_, not_, andV_, orV_, notV_, nil_, cons_, tup0_, tup1_, tup2_, tup3_, tup4_, tup5_, lst0_, lst1_, lst2_, lst3_, lst4_, lst5_, lst6_, lst7_, lst8_, lst9_, lst10_, lstv1_, lstv2_, lstv3_, lstv4_, lstv5_, b_, m_, call1_, call2_, call3_, call4_, call5_, neg_, slice_, none_, some_, rev_, comp_, gtup_, gn_nil, gn_cons, wipe_n, wipe_c, iseq_, sq_t, sq_r, r1_, r2_, add_i, add_s, add_t, sub_i, mul_i, int_o, cmp_o, isn_, ix_t, ix_r, ix_s, len_t2, len_t3, len_t4, len_t5, len_r, int1_i, two_, tuple_t, tuple_r, list_t, list_r, str_i, sl_t, sl_r, rev_t, rev_r, lo_l, lo_r, isi_t_t, isi_i_t, isi_s_s, isi_i_i, isi_i_b, isi_b_b, at0, at1, at2, at3, eq_i, eq_s, ol_s, vr_s, tb_b, ti_i, Br_t, Br_f, List.getElem?_cons_zero, List.getElem?_cons_succ, List.set_cons_zero, List.set_cons_succ, true_and, eq_self, Bool.not_true, Bool.not_false, Bool.false_eq_true, if_true, if_false, Nat.reduceLeDiff, ite_true, ite_false]); (repeat (refine Nx.mk ?_; try simp only [skip_, seqset_, seqdrop_, seqasg_, ret_, retN_, if_, drop_, set_, asg_, for_, raise0_, raise1_, var_, c_, c2_, test_, and_, or_, not_, andV_, orV_, notV_, nil_, cons_, tup0_, tup1_, tup2_, tup3_, tup4_, tup5_, lst0_, lst1_, lst2_, lst3_, lst4_, lst5_, lst6_, lst7_, lst8_, lst9_, lst10_, lstv1_, lstv2_, lstv3_, lstv4_, lstv5_, b_, m_, call1_, call2_, call3_, call4_, call5_, neg_, slice_, none_, some_, rev_, comp_, gtup_, gn_nil, gn_cons, wipe_n, wipe_c, iseq_, sq_t, sq_r, r1_, r2_, add_i, add_s, add_t, sub_i, mul_i, int_o, cmp_o, isn_, ix_t, ix_r, ix_s, len_t2, len_t3, len_t4, len_t5, len_r, int1_i, two_, tuple_t, tuple_r, list_t, list_r, str_i, sl_t, sl_r, rev_t, rev_r, lo_l, lo_r, isi_t_t, isi_i_t, isi_s_s, isi_i_i, isi_i_b, isi_b_b, at0, at1, at2, at3, eq_i, eq_s, ol_s, vr_s, tb_b, ti_i, Br_t, Br_f, List.getElem?_cons_zero, List.getElem?_cons_succ, List.set_cons_zero, List.set_cons_succ, true_and, eq_self, Bool.not_true, Bool.not_false, Bool.false_eq_true, if_true, if_false, Nat.reduceLeDiff, ite_true, ite_false]))
      refine Br_i (fun h => ?_) (fun h => hK2 _ _ ⟨_, rfl, ?_, x⟩)
      · have h := of_decide_eq_true h
        have := U.uq n j l2 l hln hl h
        subst this
        rw [hl] at hln
        cases hln
        (try simp only [skip_, seqset_, seqdrop_, seqasg_, ret_, retN_, if_, drop_, set_, asg_, for_, raise0_, raise1_, var_, c_, c2_, test_, and_, or_, not_, andV_, orV_, notV_, nil_, cons_, tup0_, tup1_, tup2_, tup3_, tup4_, tup5_, lst0_, lst1_, lst2_, lst3_, lst4_, lst5_, lst6_, lst7_, lst8_, lst9_, lst10_, lstv1_, lstv2_, lstv3_, lstv4_, lstv5_, b_, m_, call1_, call2_, call3_, call4_, call5_, neg_, slice_, none_, some_, rev_, comp_, gtup_, gn_nil, gn_cons, wipe_n, wipe_c, iseq_, sq_t, sq_r, r1_, r2_, add_i, add_s, add_t, sub_i, mul_i, int_o, cmp_o, isn_, ix_t, ix_r, ix_s, len_t2, len_t3, len_t4, len_t5, len_r, int1_i, two_, tuple_t, tuple_r, list_t, list_r, str_i, sl_t, sl_r, rev_t, rev_r, lo_l, lo_r, isi_t_t, isi_i_t, isi_s_s, isi_i_i, isi_i_b, isi_b_b, at0, at1, at2, at3, eq_i, eq_s, ol_s, vr_s, tb_b, ti_i, Br_t, Br_f, List.getElem?_cons_zero, List.getElem?_cons_succ, List.set_cons_zero, List.set_cons_succ, true_and, eq_self, Bool.not_true, Bool.not_false, Bool.false_eq_true, if_true, if_false, Nat.reduceLeDiff, ite_true, ite_false]); (repeat (refine Nx.mk ?_; try simp only [skip_, seqset_, seqdrop_, seqasg_, ret_, retN_, if_, drop_, set_, asg_, for_, raise0_, raise1_, var_, c_, c2_, test_, and_, or_, not_, andV_, orV_, notV_, nil_, cons_, tup0_, tup1_, tup2_, tup3_, tup4_, tup5_, lst0_, lst1_, lst2_, lst3_, lst4_, lst5_, lst6_, lst7_, lst8_, lst9_, lst10_, lstv1_, lstv2_, lstv3_, lstv4_, lstv5_, b_, m_, call1_, call2_, call3_, call4_, call5_, neg_, slice_, none_, some_, rev_, comp_, gtup_, gn_nil, gn_cons, wipe_n, wipe_c, iseq_, sq_t, sq_r, r1_, r2_, add_i, add_s, add_t, sub_i, mul_i, int_o, cmp_o, isn_, ix_t, ix_r, ix_s, len_t2, len_t3, len_t4, len_t5, len_r, int1_i, two_, tuple_t, tuple_r, list_t, list_r, str_i, sl_t, sl_r, rev_t, rev_r, lo_l, lo_r, isi_t_t, isi_i_t, isi_s_s, isi_i_i, isi_i_b, isi_b_b, at0, at1, at2, at3, eq_i, eq_s, ol_s, vr_s, tb_b, ti_i, Br_t, Br_f, List.getElem?_cons_zero, List.getElem?_cons_succ, List.set_cons_zero, List.set_cons_succ, true_and, eq_self, Bool.not_true, Bool.not_false, Bool.false_eq_true, if_true, if_false, Nat.reduceLeDiff, ite_true, ite_false]))
        exact hQ _ x
      · have h := of_decide_eq_false h
        have : n ≠ j := fun z => by subst z; rw [hl] at hln; cases hln; exact h rfl
        omega
  · rintro _ M' ⟨o, rfl, hn, x⟩
    have := (List.getElem?_eq_some_iff.mp hl).1
    rw [List.length_map] at hn
    omega
theorem visL_comp {p : List Str} {f st : Int} {ys : List D} (h : ys.length = p.length) (hy : ∀ n y, ys[n]? = some y → y = D.tup [.str (p.getD n ""), .int (f + st * (n : Nat))]) : ys = visL p f st := by
  refine List.ext_getElem? fun n => ?_
  by_cases hn : n < p.length
  · have h1 : ys[n]? = some ys[n] := List.getElem?_eq_getElem (by omega)
    rw [h1, hy n _ h1]
    simp [visL, List.getElem?_range hn]
  · rw [List.getElem?_eq_none (by omega), List.getElem?_eq_none (by simp [visL]; omega)]
theorem visits_sp {c0 : D} {cr : List D} {ls : List Lt} (U : Uq ls) {r : Rn} (O : Ok ls r) (hQ : ∀ M', MX M M' → Q (.tup r.vis) M') : cf_visits_of K g [.tup (c0 :: .tup (ls.map Lt.d) :: cr), r.d] M Q E := by
  show R_visits_of K g ⟨_, _, _⟩ [some (.tup (c0 :: .tup (ls.map Lt.d) :: cr)), some r.d, none, none, none, none, none, none] M
  unfold R_visits_of Rn.d
  have hp := U.pos r.l (List.mem_of_getElem? O.at_)
  (try simp only [skip_, seqset_, seqdrop_, seqasg_, ret_, retN_, if_, drop_, set_, asg_, for_, raise0_, raise1_, var_, c_, c2_, test_, and_, or_, not_, andV_, orV_, notV_, nil_, cons_, tup0_, tup1_, tup2_, tup3_, tup4_, tup5_, lst0_, lst1_, lst2_, lst3_, lst4_, lst5_, lst6_, lst7_, lst8_, lst9_, lst10_, lstv1_, lstv2_, lstv3_, lstv4_, lstv5_, b_, m_, call1_, call2_, call3_, call4_, call5_, neg_, slice_, none_, some_, rev_, comp_, gtup_, gn_nil, gn_cons, wipe_n, wipe_c, iseq_, sq_t, sq_r, r1_, r2_, add_i, add_s, add_t, sub_i, mul_i, int_o, cmp_o, isn_, ix_t, ix_r, ix_s, len_t2, len_t3, len_t4, len_t5, len_r, int1_i, two_, tuple_t, tuple_r, list_t, list_r, str_i, sl_t, sl_r, rev_t, rev_r, lo_l, lo_r, isi_t_t, isi_i_t, isi_s_s, isi_i_i, isi_i_b, isi_b_b, at0, at1, at2, at3, eq_i, eq_s, ol_s, vr_s, tb_b, ti_i, Br_t, Br_f, List.getElem?_cons_zero, List.getElem?_cons_succ, List.set_cons_zero, List.set_cons_succ, true_and, eq_self, Bool.not_true, Bool.not_false, Bool.false_eq_true, if_true, if_false, Nat.reduceLeDiff, ite_true, ite_false]); (repeat (refine Nx.mk ?_; try simp only [skip_, seqset_, seqdrop_, seqasg_, ret_, retN_, if_, drop_, set_, asg_, for_, raise0_, raise1_, var_, c_, c2_, test_, and_, or_, not_, andV_, orV_, notV_, nil_, cons_, tup0_, tup1_, tup2_, tup3_, tup4_, tup5_, lst0_, lst1_, lst2_, lst3_, lst4_, lst5_, lst6_, lst7_, lst8_, lst9_, lst10_, lstv1_, lstv2_, lstv3_, lstv4_, lstv5_, b_, m_, call1_, call2_, call3_, call4_, call5_, neg_, slice_, none_, some_, rev_, comp_, gtup_, gn_nil, gn_cons, wipe_n, wipe_c, iseq_, sq_t, sq_r, r1_, r2_, add_i, add_s, add_t, sub_i, mul_i, int_o, cmp_o, isn_, ix_t, ix_r, ix_s, len_t2, len_t3, len_t4, len_t5, len_r, int1_i, two_, tuple_t, tuple_r, list_t, list_r, str_i, sl_t, sl_r, rev_t, rev_r, lo_l, lo_r, isi_t_t, isi_i_t, isi_s_s, isi_i_i, isi_i_b, isi_b_b, at0, at1, at2, at3, eq_i, eq_s, ol_s, vr_s, tb_b, ti_i, Br_t, Br_f, List.getElem?_cons_zero, List.getElem?_cons_succ, List.set_cons_zero, List.set_cons_succ, true_and, eq_self, Bool.not_true, Bool.not_false, Bool.false_eq_true, if_true, if_false, Nat.reduceLeDiff, ite_true, ite_false]))
  refine line_of_sp U O.at_ fun M1 x1 => ?_
  rw [Lt.d_eq]
  (try simp only [skip_, seqset_, seqdrop_, seqasg_, ret_, retN_, if_, drop_, set_, asg_, for_, raise0_, raise1_, var_, c_, c2_, test_, and_, or_, not_, andV_, orV_, notV_, nil_, cons_, tup0_, tup1_, tup2_, tup3_, tup4_, tup5_, lst0_, lst1_, lst2_, lst3_, lst4_, lst5_, lst6_, lst7_, lst8_, lst9_, lst10_, lstv1_, lstv2_, lstv3_, lstv4_, lstv5_, b_, m_, call1_, call2_, call3_, call4_, call5_, neg_, slice_, none_, some_, rev_, comp_, gtup_, gn_nil, gn_cons, wipe_n, wipe_c, iseq_, sq_t, sq_r, r1_, r2_, add_i, add_s, add_t, sub_i, mul_i, int_o, cmp_o, isn_, ix_t, ix_r, ix_s, len_t2, len_t3, len_t4, len_t5, len_r, int1_i, two_, tuple_t, tuple_r, list_t, list_r, str_i, sl_t, sl_r, rev_t, rev_r, lo_l, lo_r, isi_t_t, isi_i_t, isi_s_s, isi_i_i, isi_i_b, isi_b_b, at0, at1, at2, at3, eq_i, eq_s, ol_s, vr_s, tb_b, ti_i, Br_t, Br_f, List.getElem?_cons_zero, List.getElem?_cons_succ, List.set_cons_zero, List.set_cons_succ, true_and, eq_self, Bool.not_true, Bool.not_false, Bool.false_eq_true, if_true, if_false, Nat.reduceLeDiff, ite_true, ite_false]); (repeat (refine Nx.mk ?_; try simp only [skip_, seqset_, seqdrop_, seqasg_, ret_, retN_, if_, drop_, set_, asg_, for_, raise0_, raise1_, var_, c_, c2_, test_, and_, or_, not_, andV_, orV_, notV_, nil_, cons_, tup0_, tup1_, tup2_, tup3_, tup4_, tup5_, lst0_, lst1_, lst2_, lst3_, lst4_, lst5_, lst6_, lst7_, lst8_, lst9_, lst10_, lstv1_, lstv2_, lstv3_, lstv4_, lstv5_, b_, m_, call1_, call2_, call3_, call4_, call5_, neg_, slice_, none_, some_, rev_, comp_, gtup_, gn_nil, gn_cons, wipe_n, wipe_c, iseq_, sq_t, sq_r, r1_, r2_, add_i, add_s, add_t, sub_i, mul_i, int_o, cmp_o, isn_, ix_t, ix_r, ix_s, len_t2, len_t3, len_t4, len_t5, len_r, int1_i, two_, tuple_t, tuple_r, list_t, list_r, str_i, sl_t, sl_r, rev_t, rev_r, lo_l, lo_r, isi_t_t, isi_i_t, isi_s_s, isi_i_i, isi_i_b, isi_b_b, at0, at1, at2, at3, eq_i, eq_s, ol_s, vr_s, tb_b, ti_i, Br_t, Br_f, List.getElem?_cons_zero, List.getElem?_cons_succ, List.set_cons_zero, List.set_cons_succ, true_and, eq_self, Bool.not_true, Bool.not_false, Bool.false_eq_true, if_true, if_false, Nat.reduceLeDiff, ite_true, ite_false]))
  (try refine Nx.mk ?_); refine seq_m (fun ρ' M' => ∃ o, ρ' = [some (.tup (c0 :: .tup (ls.map Lt.d) :: cr)), some r.d, some (.tup (r.p.map .str)), some (.str r.l.nm), some (.str r.way), some (.int r.f), some (.int r.st), o] ∧ M1 = M') (fun Kn hK => ?_) ?_
  · (try simp only [skip_, seqset_, seqdrop_, seqasg_, ret_, retN_, if_, drop_, set_, asg_, for_, raise0_, raise1_, var_, c_, c2_, test_, and_, or_, not_, andV_, orV_, notV_, nil_, cons_, tup0_, tup1_, tup2_, tup3_, tup4_, tup5_, lst0_, lst1_, lst2_, lst3_, lst4_, lst5_, lst6_, lst7_, lst8_, lst9_, lst10_, lstv1_, lstv2_, lstv3_, lstv4_, lstv5_, b_, m_, call1_, call2_, call3_, call4_, call5_, neg_, slice_, none_, some_, rev_, comp_, gtup_, gn_nil, gn_cons, wipe_n, wipe_c, iseq_, sq_t, sq_r, r1_, r2_, add_i, add_s, add_t, sub_i, mul_i, int_o, cmp_o, isn_, ix_t, ix_r, ix_s, len_t2, len_t3, len_t4, len_t5, len_r, int1_i, two_, tuple_t, tuple_r, list_t, list_r, str_i, sl_t, sl_r, rev_t, rev_r, lo_l, lo_r, isi_t_t, isi_i_t, isi_s_s, isi_i_i, isi_i_b, isi_b_b, at0, at1, at2, at3, eq_i, eq_s, ol_s, vr_s, tb_b, ti_i, Br_t, Br_f, List.getElem?_cons_zero, List.getElem?_cons_succ, List.set_cons_zero, List.set_cons_succ, true_and, eq_self, Bool.not_true, Bool.not_false, Bool.false_eq_true, if_true, if_false, Nat.reduceLeDiff, ite_true, ite_false]); (repeat (refine Nx.mk ?_; try simp only [skip_, seqset_, seqdrop_, seqasg_, ret_, retN_, if_, drop_, set_, asg_, for_, raise0_, raise1_, var_, c_, c2_, test_, and_, or_, not_, andV_, orV_, notV_, nil_, cons_, tup0_, tup1_, tup2_, tup3_, tup4_, tup5_, lst0_, lst1_, lst2_, lst3_, lst4_, lst5_, lst6_, lst7_, lst8_, lst9_, lst10_, lstv1_, lstv2_, lstv3_, lstv4_, lstv5_, b_, m_, call1_, call2_, call3_, call4_, call5_, neg_, slice_, none_, some_, rev_, comp_, gtup_, gn_nil, gn_cons, wipe_n, wipe_c, iseq_, sq_t, sq_r, r1_, r2_, add_i, add_s, add_t, sub_i, mul_i, int_o, cmp_o, isn_, ix_t, ix_r, ix_s, len_t2, len_t3, len_t4, len_t5, len_r, int1_i, two_, tuple_t, tuple_r, list_t, list_r, str_i, sl_t, sl_r, rev_t, rev_r, lo_l, lo_r, isi_t_t, isi_i_t, isi_s_s, isi_i_i, isi_i_b, isi_b_b, at0, at1, at2, at3, eq_i, eq_s, ol_s, vr_s, tb_b, ti_i, Br_t, Br_f, List.getElem?_cons_zero, List.getElem?_cons_succ, List.set_cons_zero, List.set_cons_succ, true_and, eq_self, Bool.not_true, Bool.not_false, Bool.false_eq_true, if_true, if_false, Nat.reduceLeDiff, ite_true, ite_false]))
    refine Br_i (fun h => ?_) (fun h => hK _ _ ⟨none, ?_, rfl⟩)
    · have h := of_decide_eq_true h
      (try simp only [skip_, seqset_, seqdrop_, seqasg_, ret_, retN_, if_, drop_, set_, asg_, for_, raise0_, raise1_, var_, c_, c2_, test_, and_, or_, not_, andV_, orV_, notV_, nil_, cons_, tup0_, tup1_, tup2_, tup3_, tup4_, tup5_, lst0_, lst1_, lst2_, lst3_, lst4_, lst5_, lst6_, lst7_, lst8_, lst9_, lst10_, lstv1_, lstv2_, lstv3_, lstv4_, lstv5_, b_, m_, call1_, call2_, call3_, call4_, call5_, neg_, slice_, none_, some_, rev_, comp_, gtup_, gn_nil, gn_cons, wipe_n, wipe_c, iseq_, sq_t, sq_r, r1_, r2_, add_i, add_s, add_t, sub_i, mul_i, int_o, cmp_o, isn_, ix_t, ix_r, ix_s, len_t2, len_t3, len_t4, len_t5, len_r, int1_i, two_, tuple_t, tuple_r, list_t, list_r, str_i, sl_t, sl_r, rev_t, rev_r, lo_l, lo_r, isi_t_t, isi_i_t, isi_s_s, isi_i_i, isi_i_b, isi_b_b, at0, at1, at2, at3, eq_i, eq_s, ol_s, vr_s, tb_b, ti_i, Br_t, Br_f, List.getElem?_cons_zero, List.getElem?_cons_succ, List.set_cons_zero, List.set_cons_succ, true_and, eq_self, Bool.not_true, Bool.not_false, Bool.false_eq_true, if_true, if_false, Nat.reduceLeDiff, ite_true, ite_false]); (repeat (refine Nx.mk ?_; try simp only [skip_, seqset_, seqdrop_, seqasg_, ret_, retN_, if_, drop_, set_, asg_, for_, raise0_, raise1_, var_, c_, c2_, test_, and_, or_, not_, andV_, orV_, notV_, nil_, cons_, tup0_, tup1_, tup2_, tup3_, tup4_, tup5_, lst0_, lst1_, lst2_, lst3_, lst4_, lst5_, lst6_, lst7_, lst8_, lst9_, lst10_, lstv1_, lstv2_, lstv3_, lstv4_, lstv5_, b_, m_, call1_, call2_, call3_, call4_, call5_, neg_, slice_, none_, some_, rev_, comp_, gtup_, gn_nil, gn_cons, wipe_n, wipe_c, iseq_, sq_t, sq_r, r1_, r2_, add_i, add_s, add_t, sub_i, mul_i, int_o, cmp_o, isn_, ix_t, ix_r, ix_s, len_t2, len_t3, len_t4, len_t5, len_r, int1_i, two_, tuple_t, tuple_r, list_t, list_r, str_i, sl_t, sl_r, rev_t, rev_r, lo_l, lo_r, isi_t_t, isi_i_t, isi_s_s, isi_i_i, isi_i_b, isi_b_b, at0, at1, at2, at3, eq_i, eq_s, ol_s, vr_s, tb_b, ti_i, Br_t, Br_f, List.getElem?_cons_zero, List.getElem?_cons_succ, List.set_cons_zero, List.set_cons_succ, true_and, eq_self, Bool.not_true, Bool.not_false, Bool.false_eq_true, if_true, if_false, Nat.reduceLeDiff, ite_true, ite_false]))
      refine hK _ _ ⟨none, ?_, rfl⟩
      unfold Rn.p
      rw [if_pos h, List.map_reverse]
      rfl
    · have h := of_decide_eq_false h
      unfold Rn.p
      rw [if_neg h]
      rfl
  · rintro _ _ ⟨o, rfl, rfl⟩
    have hl := r.p_len
    (try simp only [skip_, seqset_, seqdrop_, seqasg_, ret_, retN_, if_, drop_, set_, asg_, for_, raise0_, raise1_, var_, c_, c2_, test_, and_, or_, not_, andV_, orV_, notV_, nil_, cons_, tup0_, tup1_, tup2_, tup3_, tup4_, tup5_, lst0_, lst1_, lst2_, lst3_, lst4_, lst5_, lst6_, lst7_, lst8_, lst9_, lst10_, lstv1_, lstv2_, lstv3_, lstv4_, lstv5_, b_, m_, call1_, call2_, call3_, call4_, call5_, neg_, slice_, none_, some_, rev_, comp_, gtup_, gn_nil, gn_cons, wipe_n, wipe_c, iseq_, sq_t, sq_r, r1_, r2_, add_i, add_s, add_t, sub_i, mul_i, int_o, cmp_o, isn_, ix_t, ix_r, ix_s, len_t2, len_t3, len_t4, len_t5, len_r, int1_i, two_, tuple_t, tuple_r, list_t, list_r, str_i, sl_t, sl_r, rev_t, rev_r, lo_l, lo_r, isi_t_t, isi_i_t, isi_s_s, isi_i_i, isi_i_b, isi_b_b, at0, at1, at2, at3, eq_i, eq_s, ol_s, vr_s, tb_b, ti_i, Br_t, Br_f, List.getElem?_cons_zero, List.getElem?_cons_succ, List.set_cons_zero, List.set_cons_succ, true_and, eq_self, Bool.not_true, Bool.not_false, Bool.false_eq_true, if_true, if_false, Nat.reduceLeDiff, ite_true, ite_false, len_t]); (repeat (refine Nx.mk ?_; try simp only [skip_, seqset_, seqdrop_, seqasg_, ret_, retN_, if_, drop_, set_, asg_, for_, raise0_, raise1_, var_, c_, c2_, test_, and_, or_, not_, andV_, orV_, notV_, nil_, cons_, tup0_, tup1_, tup2_, tup3_, tup4_, tup5_, lst0_, lst1_, lst2_, lst3_, lst4_, lst5_, lst6_, lst7_, lst8_, lst9_, lst10_, lstv1_, lstv2_, lstv3_, lstv4_, lstv5_, b_, m_, call1_, call2_, call3_, call4_, call5_, neg_, slice_, none_, some_, rev_, comp_, gtup_, gn_nil, gn_cons, wipe_n, wipe_c, iseq_, sq_t, sq_r, r1_, r2_, add_i, add_s, add_t, sub_i, mul_i, int_o, cmp_o, isn_, ix_t, ix_r, ix_s, len_t2, len_t3, len_t4, len_t5, len_r, int1_i, two_, tuple_t, tuple_r, list_t, list_r, str_i, sl_t, sl_r, rev_t, rev_r, lo_l, lo_r, isi_t_t, isi_i_t, isi_s_s, isi_i_i, isi_i_b, isi_b_b, at0, at1, at2, at3, eq_i, eq_s, ol_s, vr_s, tb_b, ti_i, Br_t, Br_f, List.getElem?_cons_zero, List.getElem?_cons_succ, List.set_cons_zero, List.set_cons_succ, true_and, eq_self, Bool.not_true, Bool.not_false, Bool.false_eq_true, if_true, if_false, Nat.reduceLeDiff, ite_true, ite_false, len_t]))
    rw [List.length_map]
    refine ⟨by omega, comp_i (fun n y => y = .tup [.str (r.p.getD n ""), .int (r.f + r.st * (n : Nat))]) (size_le (by rw [rng_len]; omega)) (fun _ _ => trivial) (fun n d M2 hd x => ?_) (fun p ys M2 hp0 x e hlen hy => ?_)⟩
    · obtain ⟨hn, rfl⟩ := rng_at hd
      refine ⟨_, rfl, fun Q' hQ' => ?_⟩
      have hn : n < r.p.length := by simpa using hn
      (try simp only [skip_, seqset_, seqdrop_, seqasg_, ret_, retN_, if_, drop_, set_, asg_, for_, raise0_, raise1_, var_, c_, c2_, test_, and_, or_, not_, andV_, orV_, notV_, nil_, cons_, tup0_, tup1_, tup2_, tup3_, tup4_, tup5_, lst0_, lst1_, lst2_, lst3_, lst4_, lst5_, lst6_, lst7_, lst8_, lst9_, lst10_, lstv1_, lstv2_, lstv3_, lstv4_, lstv5_, b_, m_, call1_, call2_, call3_, call4_, call5_, neg_, slice_, none_, some_, rev_, comp_, gtup_, gn_nil, gn_cons, wipe_n, wipe_c, iseq_, sq_t, sq_r, r1_, r2_, add_i, add_s, add_t, sub_i, mul_i, int_o, cmp_o, isn_, ix_t, ix_r, ix_s, len_t2, len_t3, len_t4, len_t5, len_r, int1_i, two_, tuple_t, tuple_r, list_t, list_r, str_i, sl_t, sl_r, rev_t, rev_r, lo_l, lo_r, isi_t_t, isi_i_t, isi_s_s, isi_i_i, isi_i_b, isi_b_b, at0, at1, at2, at3, eq_i, eq_s, ol_s, vr_s, tb_b, ti_i, Br_t, Br_f, List.getElem?_cons_zero, List.getElem?_cons_succ, List.set_cons_zero, List.set_cons_succ, true_and, eq_self, Bool.not_true, Bool.not_false, Bool.false_eq_true, if_true, if_false, Nat.reduceLeDiff, ite_true, ite_false, atI_of (xs := r.p.map D.str) (i := 0 + (n : Int)) (n := n) (x := .str (r.p.getD n "")) (by omega) (by simp [List.getElem?_eq_getElem hn, List.getD])]); (repeat (refine Nx.mk ?_; try simp only [skip_, seqset_, seqdrop_, seqasg_, ret_, retN_, if_, drop_, set_, asg_, for_, raise0_, raise1_, var_, c_, c2_, test_, and_, or_, not_, andV_, orV_, notV_, nil_, cons_, tup0_, tup1_, tup2_, tup3_, tup4_, tup5_, lst0_, lst1_, lst2_, lst3_, lst4_, lst5_, lst6_, lst7_, lst8_, lst9_, lst10_, lstv1_, lstv2_, lstv3_, lstv4_, lstv5_, b_, m_, call1_, call2_, call3_, call4_, call5_, neg_, slice_, none_, some_, rev_, comp_, gtup_, gn_nil, gn_cons, wipe_n, wipe_c, iseq_, sq_t, sq_r, r1_, r2_, add_i, add_s, add_t, sub_i, mul_i, int_o, cmp_o, isn_, ix_t, ix_r, ix_s, len_t2, len_t3, len_t4, len_t5, len_r, int1_i, two_, tuple_t, tuple_r, list_t, list_r, str_i, sl_t, sl_r, rev_t, rev_r, lo_l, lo_r, isi_t_t, isi_i_t, isi_s_s, isi_i_i, isi_i_b, isi_b_b, at0, at1, at2, at3, eq_i, eq_s, ol_s, vr_s, tb_b, ti_i, Br_t, Br_f, List.getElem?_cons_zero, List.getElem?_cons_succ, List.set_cons_zero, List.set_cons_succ, true_and, eq_self, Bool.not_true, Bool.not_false, Bool.false_eq_true, if_true, if_false, Nat.reduceLeDiff, ite_true, ite_false, atI_of (xs := r.p.map D.str) (i := 0 + (n : Int)) (n := n) (x := .str (r.p.getD n "")) (by omega) (by simp [List.getElem?_eq_getElem hn, List.getD])]))
      refine ⟨Or.inl ⟨by have := O.st; omega, by have := O.st; omega⟩, hQ' _ _ MX.refl' ?_⟩
      rw [Int.zero_add]
    · rw [rng_len] at hlen
      have := visL_comp (p := r.p) (f := r.f) (st := r.st) (by omega) hy
      subst this
      (try simp only [skip_, seqset_, seqdrop_, seqasg_, ret_, retN_, if_, drop_, set_, asg_, for_, raise0_, raise1_, var_, c_, c2_, test_, and_, or_, not_, andV_, orV_, notV_, nil_, cons_, tup0_, tup1_, tup2_, tup3_, tup4_, tup5_, lst0_, lst1_, lst2_, lst3_, lst4_, lst5_, lst6_, lst7_, lst8_, lst9_, lst10_, lstv1_, lstv2_, lstv3_, lstv4_, lstv5_, b_, m_, call1_, call2_, call3_, call4_, call5_, neg_, slice_, none_, some_, rev_, comp_, gtup_, gn_nil, gn_cons, wipe_n, wipe_c, iseq_, sq_t, sq_r, r1_, r2_, add_i, add_s, add_t, sub_i, mul_i, int_o, cmp_o, isn_, ix_t, ix_r, ix_s, len_t2, len_t3, len_t4, len_t5, len_r, int1_i, two_, tuple_t, tuple_r, list_t, list_r, str_i, sl_t, sl_r, rev_t, rev_r, lo_l, lo_r, isi_t_t, isi_i_t, isi_s_s, isi_i_i, isi_i_b, isi_b_b, at0, at1, at2, at3, eq_i, eq_s, ol_s, vr_s, tb_b, ti_i, Br_t, Br_f, List.getElem?_cons_zero, List.getElem?_cons_succ, List.set_cons_zero, List.set_cons_succ, true_and, eq_self, Bool.not_true, Bool.not_false, Bool.false_eq_true, if_true, if_false, Nat.reduceLeDiff, ite_true, ite_false, lst_ol e]); (repeat (refine Nx.mk ?_; try simp only [skip_, seqset_, seqdrop_, seqasg_, ret_, retN_, if_, drop_, set_, asg_, for_, raise0_, raise1_, var_, c_, c2_, test_, and_, or_, not_, andV_, orV_, notV_, nil_, cons_, tup0_, tup1_, tup2_, tup3_, tup4_, tup5_, lst0_, lst1_, lst2_, lst3_, lst4_, lst5_, lst6_, lst7_, lst8_, lst9_, lst10_, lstv1_, lstv2_, lstv3_, lstv4_, lstv5_, b_, m_, call1_, call2_, call3_, call4_, call5_, neg_, slice_, none_, some_, rev_, comp_, gtup_, gn_nil, gn_cons, wipe_n, wipe_c, iseq_, sq_t, sq_r, r1_, r2_, add_i, add_s, add_t, sub_i, mul_i, int_o, cmp_o, isn_, ix_t, ix_r, ix_s, len_t2, len_t3, len_t4, len_t5, len_r, int1_i, two_, tuple_t, tuple_r, list_t, list_r, str_i, sl_t, sl_r, rev_t, rev_r, lo_l, lo_r, isi_t_t, isi_i_t, isi_s_s, isi_i_i, isi_i_b, isi_b_b, at0, at1, at2, at3, eq_i, eq_s, ol_s, vr_s, tb_b, ti_i, Br_t, Br_f, List.getElem?_cons_zero, List.getElem?_cons_succ, List.set_cons_zero, List.set_cons_succ, true_and, eq_self, Bool.not_true, Bool.not_false, Bool.false_eq_true, if_true, if_false, Nat.reduceLeDiff, ite_true, ite_false, lst_ol e]))
      exact hQ _ (mxT x1 x)
end
end K61

namespace K61
open PySem PySem.Spec PyProof.Rows L2 CL CP
section
variable {K : PySem.W.Frag} {g : Cs} {M : Mm} {Q : CK} {E : CL.CX}
theorem Rn.d_eq (r : Rn) : r.d = .tup [.str r.l.nm, .str r.way, .int r.f, .int r.st] := rfl
theorem lvisits_sp {c0 : D} {cr : List D} {ls : List Lt} (U : Uq ls) {r : Rn} (O : Ok ls r) (hQ : ∀ M', MX M M' → Q (.tup r.vis) M') : cf_l_visits K g [.tup (c0 :: .tup (ls.map Lt.d) :: cr), r.d] M Q E := by
  show R_l_visits K g ⟨_, _, _⟩ [some (.tup (c0 :: .tup (ls.map Lt.d) :: cr)), some r.d, none, none, none] M
  unfold R_l_visits
  have hp := U.pos r.l (List.mem_of_getElem? O.at_)
  (try simp only [skip_, seqset_, seqdrop_, seqasg_, ret_, retN_, if_, drop_, set_, asg_, for_, raise0_, raise1_, var_, c_, c2_, test_, and_, or_, not_, andV_, orV_, notV_, nil_, cons_, tup0_, tup1_, tup2_, tup3_, tup4_, tup5_, lst0_, lst1_, lst2_, lst3_, lst4_, lst5_, lst6_, lst7_, lst8_, lst9_, lst10_, lstv1_, lstv2_, lstv3_, lstv4_, lstv5_, b_, m_, call1_, call2_, call3_, call4_, call5_, neg_, slice_, none_, some_, rev_, comp_, gtup_, gn_nil, gn_cons, wipe_n, wipe_c, iseq_, sq_t, sq_r, r1_, r2_, add_i, add_s, add_t, sub_i, mul_i, int_o, cmp_o, isn_, ix_t, ix_r, ix_s, len_t2, len_t3, len_t4, len_t5, len_r, int1_i, two_, tuple_t, tuple_r, list_t, list_r, str_i, sl_t, sl_r, rev_t, rev_r, lo_l, lo_r, isi_t_t, isi_i_t, isi_s_s, isi_i_i, isi_i_b, isi_b_b, at0, at1, at2, at3, eq_i, eq_s, ol_s, vr_s, tb_b, ti_i, Br_t, Br_f, List.getElem?_cons_zero, List.getElem?_cons_succ, List.set_cons_zero, List.set_cons_succ, true_and, eq_self, Bool.not_true, Bool.not_false, Bool.false_eq_true, if_true, if_false, Nat.reduceLeDiff, ite_true, ite_false]); (repeat (refine Nx.mk ?_; try simp only [skip_, seqset_, seqdrop_, seqasg_, ret_, retN_, if_, drop_, set_, asg_, for_, raise0_, raise1_, var_, c_, c2_, test_, and_, or_, not_, andV_, orV_, notV_, nil_, cons_, tup0_, tup1_, tup2_, tup3_, tup4_, tup5_, lst0_, lst1_, lst2_, lst3_, lst4_, lst5_, lst6_, lst7_, lst8_, lst9_, lst10_, lstv1_, lstv2_, lstv3_, lstv4_, lstv5_, b_, m_, call1_, call2_, call3_, call4_, call5_, neg_, slice_, none_, some_, rev_, comp_, gtup_, gn_nil, gn_cons, wipe_n, wipe_c, iseq_, sq_t, sq_r, r1_, r2_, add_i, add_s, add_t, sub_i, mul_i, int_o, cmp_o, isn_, ix_t, ix_r, ix_s, len_t2, len_t3, len_t4, len_t5, len_r, int1_i, two_, tuple_t, tuple_r, list_t, list_r, str_i, sl_t, sl_r, rev_t, rev_r, lo_l, lo_r, isi_t_t, isi_i_t, isi_s_s, isi_i_i, isi_i_b, isi_b_b, at0, at1, at2, at3, eq_i, eq_s, ol_s, vr_s, tb_b, ti_i, Br_t, Br_f, List.getElem?_cons_zero, List.getElem?_cons_succ, List.set_cons_zero, List.set_cons_succ, true_and, eq_self, Bool.not_true, Bool.not_false, Bool.false_eq_true, if_true, if_false, Nat.reduceLeDiff, ite_true, ite_false]))
  refine newL_i fun p0 M1 hp0 x1 e1 => ?_
  (try refine Nx.mk ?_); refine seq_m (fun ρ' M' => ∃ (p : Addr) (o : Option D), ρ' = [some (.tup (c0 :: .tup (ls.map Lt.d) :: cr)), some r.d, some (.ref p), o, none] ∧ MX M M' ∧ M' p = some (.lst (r.l.path.map .str))) (fun Kn hK => ?_) ?_
  · (try simp only [skip_, seqset_, seqdrop_, seqasg_, ret_, retN_, if_, drop_, set_, asg_, for_, raise0_, raise1_, var_, c_, c2_, test_, and_, or_, not_, andV_, orV_, notV_, nil_, cons_, tup0_, tup1_, tup2_, tup3_, tup4_, tup5_, lst0_, lst1_, lst2_, lst3_, lst4_, lst5_, lst6_, lst7_, lst8_, lst9_, lst10_, lstv1_, lstv2_, lstv3_, lstv4_, lstv5_, b_, m_, call1_, call2_, call3_, call4_, call5_, neg_, slice_, none_, some_, rev_, comp_, gtup_, gn_nil, gn_cons, wipe_n, wipe_c, iseq_, sq_t, sq_r, r1_, r2_, add_i, add_s, add_t, sub_i, mul_i, int_o, cmp_o, isn_, ix_t, ix_r, ix_s, len_t2, len_t3, len_t4, len_t5, len_r, int1_i, two_, tuple_t, tuple_r, list_t, list_r, str_i, sl_t, sl_r, rev_t, rev_r, lo_l, lo_r, isi_t_t, isi_i_t, isi_s_s, isi_i_i, isi_i_b, isi_b_b, at0, at1, at2, at3, eq_i, eq_s, ol_s, vr_s, tb_b, ti_i, Br_t, Br_f, List.getElem?_cons_zero, List.getElem?_cons_succ, List.set_cons_zero, List.set_cons_succ, true_and, eq_self, Bool.not_true, Bool.not_false, Bool.false_eq_true, if_true, if_false, Nat.reduceLeDiff, ite_true, ite_false]); (repeat (refine Nx.mk ?_; try simp only [skip_, seqset_, seqdrop_, seqasg_, ret_, retN_, if_, drop_, set_, asg_, for_, raise0_, raise1_, var_, c_, c2_, test_, and_, or_, not_, andV_, orV_, notV_, nil_, cons_, tup0_, tup1_, tup2_, tup3_, tup4_, tup5_, lst0_, lst1_, lst2_, lst3_, lst4_, lst5_, lst6_, lst7_, lst8_, lst9_, lst10_, lstv1_, lstv2_, lstv3_, lstv4_, lstv5_, b_, m_, call1_, call2_, call3_, call4_, call5_, neg_, slice_, none_, some_, rev_, comp_, gtup_, gn_nil, gn_cons, wipe_n, wipe_c, iseq_, sq_t, sq_r, r1_, r2_, add_i, add_s, add_t, sub_i, mul_i, int_o, cmp_o, isn_, ix_t, ix_r, ix_s, len_t2, len_t3, len_t4, len_t5, len_r, int1_i, two_, tuple_t, tuple_r, list_t, list_r, str_i, sl_t, sl_r, rev_t, rev_r, lo_l, lo_r, isi_t_t, isi_i_t, isi_s_s, isi_i_i, isi_i_b, isi_b_b, at0, at1, at2, at3, eq_i, eq_s, ol_s, vr_s, tb_b, ti_i, Br_t, Br_f, List.getElem?_cons_zero, List.getElem?_cons_succ, List.set_cons_zero, List.set_cons_succ, true_and, eq_self, Bool.not_true, Bool.not_false, Bool.false_eq_true, if_true, if_false, Nat.reduceLeDiff, ite_true, ite_false]))
    refine for_0 (fun n ρ' M' => ∃ (p : Addr) (o : Option D), ρ' = [some (.tup (c0 :: .tup (ls.map Lt.d) :: cr)), some r.d, some (.ref p), o, none] ∧ MX M M' ∧ (r.j < n → M' p = some (.lst (r.l.path.map .str)))) ⟨_, _, rfl, x1, fun h => by omega⟩ (fun _ _ _ _ _ => trivial) ?_ ?_
    · rintro n d hd _ M' ⟨p, o, rfl, x, hh⟩
      rw [List.getElem?_map] at hd
      cases hln : ls[n]? with
      | none => rw [hln] at hd; cases hd
      | some l2 =>
        rw [hln] at hd; cases hd
        refine ⟨_, rfl, fun Kn2 hK2 => ?_⟩
        rw [Lt.d_eq, Rn.d_eq]
        (try simp only [skip_, seqset_, seqdrop_, seqasg_, ret_, retN_, if_, drop_, set_, asg_, for_, raise0_, raise1_, var_, c_, c2_, test_, and_, or_, not_, andV_, orV_, notV_, nil_, cons_, tup0_, tup1_, tup2_, tup3_, tup4_, tup5_, lst0_, lst1_, lst2_, lst3_, lst4_, lst5_, lst6_, lst7_, lst8_, lst9_, lst10_, lstv1_, lstv2_, lstv3_, lstv4_, lstv5_, b_, m_, call1_, call2_, call3_, call4_, call5_, neg_, slice_, none_, some_, rev_, comp_, gtup_, gn_nil, gn_cons, wipe_n, wipe_c, iseq_, sq_t, sq_r, r1_, r2_, add_i, add_s, add_t, sub_i, mul_i, int_o, cmp_o, isn_, ix_t, ix_r, ix_s, len_t2, len_t3, len_t4, len_t5, len_r, int1_i, two_, tuple_t, tuple_r, list_t, list_r, str_i, sl_t, sl_r, rev_t, rev_r, lo_l, lo_r, isi_t_t, isi_i_t, isi_s_s, isi_i_i, isi_i_b, isi_b_b, at0, at1, at2, at3, eq_i, eq_s, ol_s, vr_s, tb_b, ti_i, Br_t, Br_f, List.getElem?_cons_zero, List.getElem?_cons_succ, List.set_cons_zero, List.set_cons_succ, true_and, eq_self, Bool.not_true, Bool.not_false, Bool.false_eq_true, if_true, if_false, Nat.reduceLeDiff, ite_true, ite_false]); (repeat (refine Nx.mk ?_; try simp only [skip_, seqset_, seqdrop_, seqasg_, ret_, retN_, if_, drop_, set_, asg_, for_, raise0_, raise1_, var_, c_, c2_, test_, and_, or_, not_, andV_, orV_, notV_, nil_, cons_, tup0_, tup1_, tup2_, tup3_, tup4_, tup5_, lst0_, lst1_, lst2_, lst3_, lst4_, lst5_, lst6_, lst7_, lst8_, lst9_, lst10_, lstv1_, lstv2_, lstv3_, lstv4_, lstv5_, b_, m_, call1_, call2_, call3_, call4_, call5_, neg_, slice_, none_, some_, rev_, comp_, gtup_, gn_nil, gn_cons, wipe_n, wipe_c, iseq_, sq_t, sq_r, r1_, r2_, add_i, add_s, add_t, sub_i, mul_i, int_o, cmp_o, isn_, ix_t, ix_r, ix_s, len_t2, len_t3, len_t4, len_t5, len_r, int1_i, two_, tuple_t, tuple_r, list_t, list_r, str_i, sl_t, sl_r, rev_t, rev_r, lo_l, lo_r, isi_t_t, isi_i_t, isi_s_s, isi_i_i, isi_i_b, isi_b_b, at0, at1, at2, at3, eq_i, eq_s, ol_s, vr_s, tb_b, ti_i, Br_t, Br_f, List.getElem?_cons_zero, List.getElem?_cons_succ, List.set_cons_zero, List.set_cons_succ, true_and, eq_self, Bool.not_true, Bool.not_false, Bool.false_eq_true, if_true, if_false, Nat.reduceLeDiff, ite_true, ite_false]))
        refine Br_i (fun h => ?_) (fun h => hK2 _ _ ⟨_, _, rfl, x, fun z => hh ?_⟩)
        · have h := of_decide_eq_true h
          have := U.uq n r.j l2 r.l hln O.at_ h
          subst this
          rw [O.at_] at hln
          cases hln
          (try simp only [skip_, seqset_, seqdrop_, seqasg_, ret_, retN_, if_, drop_, set_, asg_, for_, raise0_, raise1_, var_, c_, c2_, test_, and_, or_, not_, andV_, orV_, notV_, nil_, cons_, tup0_, tup1_, tup2_, tup3_, tup4_, tup5_, lst0_, lst1_, lst2_, lst3_, lst4_, lst5_, lst6_, lst7_, lst8_, lst9_, lst10_, lstv1_, lstv2_, lstv3_, lstv4_, lstv5_, b_, m_, call1_, call2_, call3_, call4_, call5_, neg_, slice_, none_, some_, rev_, comp_, gtup_, gn_nil, gn_cons, wipe_n, wipe_c, iseq_, sq_t, sq_r, r1_, r2_, add_i, add_s, add_t, sub_i, mul_i, int_o, cmp_o, isn_, ix_t, ix_r, ix_s, len_t2, len_t3, len_t4, len_t5, len_r, int1_i, two_, tuple_t, tuple_r, list_t, list_r, str_i, sl_t, sl_r, rev_t, rev_r, lo_l, lo_r, isi_t_t, isi_i_t, isi_s_s, isi_i_i, isi_i_b, isi_b_b, at0, at1, at2, at3, eq_i, eq_s, ol_s, vr_s, tb_b, ti_i, Br_t, Br_f, List.getElem?_cons_zero, List.getElem?_cons_succ, List.set_cons_zero, List.set_cons_succ, true_and, eq_self, Bool.not_true, Bool.not_false, Bool.false_eq_true, if_true, if_false, Nat.reduceLeDiff, ite_true, ite_false]); (repeat (refine Nx.mk ?_; try simp only [skip_, seqset_, seqdrop_, seqasg_, ret_, retN_, if_, drop_, set_, asg_, for_, raise0_, raise1_, var_, c_, c2_, test_, and_, or_, not_, andV_, orV_, notV_, nil_, cons_, tup0_, tup1_, tup2_, tup3_, tup4_, tup5_, lst0_, lst1_, lst2_, lst3_, lst4_, lst5_, lst6_, lst7_, lst8_, lst9_, lst10_, lstv1_, lstv2_, lstv3_, lstv4_, lstv5_, b_, m_, call1_, call2_, call3_, call4_, call5_, neg_, slice_, none_, some_, rev_, comp_, gtup_, gn_nil, gn_cons, wipe_n, wipe_c, iseq_, sq_t, sq_r, r1_, r2_, add_i, add_s, add_t, sub_i, mul_i, int_o, cmp_o, isn_, ix_t, ix_r, ix_s, len_t2, len_t3, len_t4, len_t5, len_r, int1_i, two_, tuple_t, tuple_r, list_t, list_r, str_i, sl_t, sl_r, rev_t, rev_r, lo_l, lo_r, isi_t_t, isi_i_t, isi_s_s, isi_i_i, isi_i_b, isi_b_b, at0, at1, at2, at3, eq_i, eq_s, ol_s, vr_s, tb_b, ti_i, Br_t, Br_f, List.getElem?_cons_zero, List.getElem?_cons_succ, List.set_cons_zero, List.set_cons_succ, true_and, eq_self, Bool.not_true, Bool.not_false, Bool.false_eq_true, if_true, if_false, Nat.reduceLeDiff, ite_true, ite_false]))
          refine newL_i fun p2 M2 hp2 x2 e2 => ?_
          exact hK2 _ _ ⟨_, _, rfl, mxT x x2, fun _ => e2⟩
        · have h := of_decide_eq_false h
          have : n ≠ r.j := fun z => by subst z; rw [O.at_] at hln; cases hln; exact h rfl
          omega
    · rintro _ M' ⟨p, o, rfl, x, hh⟩
      have := (List.getElem?_eq_some_iff.mp O.at_).1
      exact hK _ _ ⟨_, _, rfl, x, hh (by simpa using this)⟩
  · rintro _ M2 ⟨p, o, rfl, x2, e2⟩
    (try refine Nx.mk ?_); refine seq_m (fun ρ' M' => ∃ p, ρ' = [some (.tup (c0 :: .tup (ls.map Lt.d) :: cr)), some r.d, some (.ref p), o, none] ∧ MX M M' ∧ M' p = some (.lst (r.p.map .str))) (fun Kn hK => ?_) ?_
    · rw [Rn.d_eq]
      (try simp only [skip_, seqset_, seqdrop_, seqasg_, ret_, retN_, if_, drop_, set_, asg_, for_, raise0_, raise1_, var_, c_, c2_, test_, and_, or_, not_, andV_, orV_, notV_, nil_, cons_, tup0_, tup1_, tup2_, tup3_, tup4_, tup5_, lst0_, lst1_, lst2_, lst3_, lst4_, lst5_, lst6_, lst7_, lst8_, lst9_, lst10_, lstv1_, lstv2_, lstv3_, lstv4_, lstv5_, b_, m_, call1_, call2_, call3_, call4_, call5_, neg_, slice_, none_, some_, rev_, comp_, gtup_, gn_nil, gn_cons, wipe_n, wipe_c, iseq_, sq_t, sq_r, r1_, r2_, add_i, add_s, add_t, sub_i, mul_i, int_o, cmp_o, isn_, ix_t, ix_r, ix_s, len_t2, len_t3, len_t4, len_t5, len_r, int1_i, two_, tuple_t, tuple_r, list_t, list_r, str_i, sl_t, sl_r, rev_t, rev_r, lo_l, lo_r, isi_t_t, isi_i_t, isi_s_s, isi_i_i, isi_i_b, isi_b_b, at0, at1, at2, at3, eq_i, eq_s, ol_s, vr_s, tb_b, ti_i, Br_t, Br_f, List.getElem?_cons_zero, List.getElem?_cons_succ, List.set_cons_zero, List.set_cons_succ, true_and, eq_self, Bool.not_true, Bool.not_false, Bool.false_eq_true, if_true, if_false, Nat.reduceLeDiff, ite_true, ite_false]); (repeat (refine Nx.mk ?_; try simp only [skip_, seqset_, seqdrop_, seqasg_, ret_, retN_, if_, drop_, set_, asg_, for_, raise0_, raise1_, var_, c_, c2_, test_, and_, or_, not_, andV_, orV_, notV_, nil_, cons_, tup0_, tup1_, tup2_, tup3_, tup4_, tup5_, lst0_, lst1_, lst2_, lst3_, lst4_, lst5_, lst6_, lst7_, lst8_, lst9_, lst10_, lstv1_, lstv2_, lstv3_, lstv4_, lstv5_, b_, m_, call1_, call2_, call3_, call4_, call5_, neg_, slice_, none_, some_, rev_, comp_, gtup_, gn_nil, gn_cons, wipe_n, wipe_c, iseq_, sq_t, sq_r, r1_, r2_, add_i, add_s, add_t, sub_i, mul_i, int_o, cmp_o, isn_, ix_t, ix_r, ix_s, len_t2, len_t3, len_t4, len_t5, len_r, int1_i, two_, tuple_t, tuple_r, list_t, list_r, str_i, sl_t, sl_r, rev_t, rev_r, lo_l, lo_r, isi_t_t, isi_i_t, isi_s_s, isi_i_i, isi_i_b, isi_b_b, at0, at1, at2, at3, eq_i, eq_s, ol_s, vr_s, tb_b, ti_i, Br_t, Br_f, List.getElem?_cons_zero, List.getElem?_cons_succ, List.set_cons_zero, List.set_cons_succ, true_and, eq_self, Bool.not_true, Bool.not_false, Bool.false_eq_true, if_true, if_false, Nat.reduceLeDiff, ite_true, ite_false]))
      refine Br_i (fun h => ?_) (fun h => hK _ _ ⟨_, rfl, x2, ?_⟩)
      · have h := of_decide_eq_true h
        (try simp only [skip_, seqset_, seqdrop_, seqasg_, ret_, retN_, if_, drop_, set_, asg_, for_, raise0_, raise1_, var_, c_, c2_, test_, and_, or_, not_, andV_, orV_, notV_, nil_, cons_, tup0_, tup1_, tup2_, tup3_, tup4_, tup5_, lst0_, lst1_, lst2_, lst3_, lst4_, lst5_, lst6_, lst7_, lst8_, lst9_, lst10_, lstv1_, lstv2_, lstv3_, lstv4_, lstv5_, b_, m_, call1_, call2_, call3_, call4_, call5_, neg_, slice_, none_, some_, rev_, comp_, gtup_, gn_nil, gn_cons, wipe_n, wipe_c, iseq_, sq_t, sq_r, r1_, r2_, add_i, add_s, add_t, sub_i, mul_i, int_o, cmp_o, isn_, ix_t, ix_r, ix_s, len_t2, len_t3, len_t4, len_t5, len_r, int1_i, two_, tuple_t, tuple_r, list_t, list_r, str_i, sl_t, sl_r, rev_t, rev_r, lo_l, lo_r, isi_t_t, isi_i_t, isi_s_s, isi_i_i, isi_i_b, isi_b_b, at0, at1, at2, at3, eq_i, eq_s, ol_s, vr_s, tb_b, ti_i, Br_t, Br_f, List.getElem?_cons_zero, List.getElem?_cons_succ, List.set_cons_zero, List.set_cons_succ, true_and, eq_self, Bool.not_true, Bool.not_false, Bool.false_eq_true, if_true, if_false, Nat.reduceLeDiff, ite_true, ite_false, lst_ol e2]); (repeat (refine Nx.mk ?_; try simp only [skip_, seqset_, seqdrop_, seqasg_, ret_, retN_, if_, drop_, set_, asg_, for_, raise0_, raise1_, var_, c_, c2_, test_, and_, or_, not_, andV_, orV_, notV_, nil_, cons_, tup0_, tup1_, tup2_, tup3_, tup4_, tup5_, lst0_, lst1_, lst2_, lst3_, lst4_, lst5_, lst6_, lst7_, lst8_, lst9_, lst10_, lstv1_, lstv2_, lstv3_, lstv4_, lstv5_, b_, m_, call1_, call2_, call3_, call4_, call5_, neg_, slice_, none_, some_, rev_, comp_, gtup_, gn_nil, gn_cons, wipe_n, wipe_c, iseq_, sq_t, sq_r, r1_, r2_, add_i, add_s, add_t, sub_i, mul_i, int_o, cmp_o, isn_, ix_t, ix_r, ix_s, len_t2, len_t3, len_t4, len_t5, len_r, int1_i, two_, tuple_t, tuple_r, list_t, list_r, str_i, sl_t, sl_r, rev_t, rev_r, lo_l, lo_r, isi_t_t, isi_i_t, isi_s_s, isi_i_i, isi_i_b, isi_b_b, at0, at1, at2, at3, eq_i, eq_s, ol_s, vr_s, tb_b, ti_i, Br_t, Br_f, List.getElem?_cons_zero, List.getElem?_cons_succ, List.set_cons_zero, List.set_cons_succ, true_and, eq_self, Bool.not_true, Bool.not_false, Bool.false_eq_true, if_true, if_false, Nat.reduceLeDiff, ite_true, ite_false, lst_ol e2]))
        refine newL_i fun p3 M3 hp3 x3 e3 => hK _ _ ⟨_, rfl, mxT x2 x3, ?_⟩
        unfold Rn.p
        rw [if_pos h, List.map_reverse]
        exact e3
      · have h := of_decide_eq_false h
        unfold Rn.p
        rw [if_neg h]
        exact e2
    · rintro _ M3 ⟨p, rfl, x3, e3⟩
      have hl := r.p_len
      (try simp only [skip_, seqset_, seqdrop_, seqasg_, ret_, retN_, if_, drop_, set_, asg_, for_, raise0_, raise1_, var_, c_, c2_, test_, and_, or_, not_, andV_, orV_, notV_, nil_, cons_, tup0_, tup1_, tup2_, tup3_, tup4_, tup5_, lst0_, lst1_, lst2_, lst3_, lst4_, lst5_, lst6_, lst7_, lst8_, lst9_, lst10_, lstv1_, lstv2_, lstv3_, lstv4_, lstv5_, b_, m_, call1_, call2_, call3_, call4_, call5_, neg_, slice_, none_, some_, rev_, comp_, gtup_, gn_nil, gn_cons, wipe_n, wipe_c, iseq_, sq_t, sq_r, r1_, r2_, add_i, add_s, add_t, sub_i, mul_i, int_o, cmp_o, isn_, ix_t, ix_r, ix_s, len_t2, len_t3, len_t4, len_t5, len_r, int1_i, two_, tuple_t, tuple_r, list_t, list_r, str_i, sl_t, sl_r, rev_t, rev_r, lo_l, lo_r, isi_t_t, isi_i_t, isi_s_s, isi_i_i, isi_i_b, isi_b_b, at0, at1, at2, at3, eq_i, eq_s, ol_s, vr_s, tb_b, ti_i, Br_t, Br_f, List.getElem?_cons_zero, List.getElem?_cons_succ, List.set_cons_zero, List.set_cons_succ, true_and, eq_self, Bool.not_true, Bool.not_false, Bool.false_eq_true, if_true, if_false, Nat.reduceLeDiff, ite_true, ite_false, lst_ol e3]); (repeat (refine Nx.mk ?_; try simp only [skip_, seqset_, seqdrop_, seqasg_, ret_, retN_, if_, drop_, set_, asg_, for_, raise0_, raise1_, var_, c_, c2_, test_, and_, or_, not_, andV_, orV_, notV_, nil_, cons_, tup0_, tup1_, tup2_, tup3_, tup4_, tup5_, lst0_, lst1_, lst2_, lst3_, lst4_, lst5_, lst6_, lst7_, lst8_, lst9_, lst10_, lstv1_, lstv2_, lstv3_, lstv4_, lstv5_, b_, m_, call1_, call2_, call3_, call4_, call5_, neg_, slice_, none_, some_, rev_, comp_, gtup_, gn_nil, gn_cons, wipe_n, wipe_c, iseq_, sq_t, sq_r, r1_, r2_, add_i, add_s, add_t, sub_i, mul_i, int_o, cmp_o, isn_, ix_t, ix_r, ix_s, len_t2, len_t3, len_t4, len_t5, len_r, int1_i, two_, tuple_t, tuple_r, list_t, list_r, str_i, sl_t, sl_r, rev_t, rev_r, lo_l, lo_r, isi_t_t, isi_i_t, isi_s_s, isi_i_i, isi_i_b, isi_b_b, at0, at1, at2, at3, eq_i, eq_s, ol_s, vr_s, tb_b, ti_i, Br_t, Br_f, List.getElem?_cons_zero, List.getElem?_cons_succ, List.set_cons_zero, List.set_cons_succ, true_and, eq_self, Bool.not_true, Bool.not_false, Bool.false_eq_true, if_true, if_false, Nat.reduceLeDiff, ite_true, ite_false, lst_ol e3]))
      rw [List.length_map]
      refine ⟨by omega, comp_i (fun n y => y = .tup [.str (r.p.getD n ""), .int (r.f + r.st * (n : Nat))]) (size_le (by rw [rng_len]; omega)) (fun _ _ => trivial) (fun n d M4 hd x => ?_) (fun p ys M4 hp0 x e hlen hy => ?_)⟩
      · obtain ⟨hn, rfl⟩ := rng_at hd
        refine ⟨_, rfl, fun Q' hQ' => ?_⟩
        have hn : n < r.p.length := by simpa using hn
        rw [Rn.d_eq]
        (try simp only [skip_, seqset_, seqdrop_, seqasg_, ret_, retN_, if_, drop_, set_, asg_, for_, raise0_, raise1_, var_, c_, c2_, test_, and_, or_, not_, andV_, orV_, notV_, nil_, cons_, tup0_, tup1_, tup2_, tup3_, tup4_, tup5_, lst0_, lst1_, lst2_, lst3_, lst4_, lst5_, lst6_, lst7_, lst8_, lst9_, lst10_, lstv1_, lstv2_, lstv3_, lstv4_, lstv5_, b_, m_, call1_, call2_, call3_, call4_, call5_, neg_, slice_, none_, some_, rev_, comp_, gtup_, gn_nil, gn_cons, wipe_n, wipe_c, iseq_, sq_t, sq_r, r1_, r2_, add_i, add_s, add_t, sub_i, mul_i, int_o, cmp_o, isn_, ix_t, ix_r, ix_s, len_t2, len_t3, len_t4, len_t5, len_r, int1_i, two_, tuple_t, tuple_r, list_t, list_r, str_i, sl_t, sl_r, rev_t, rev_r, lo_l, lo_r, isi_t_t, isi_i_t, isi_s_s, isi_i_i, isi_i_b, isi_b_b, at0, at1, at2, at3, eq_i, eq_s, ol_s, vr_s, tb_b, ti_i, Br_t, Br_f, List.getElem?_cons_zero, List.getElem?_cons_succ, List.set_cons_zero, List.set_cons_succ, true_and, eq_self, Bool.not_true, Bool.not_false, Bool.false_eq_true, if_true, if_false, Nat.reduceLeDiff, ite_true, ite_false, mx_ol x (lst_ol e3), atI_of (xs := r.p.map D.str) (i := 0 + (n : Int)) (n := n) (x := .str (r.p.getD n "")) (by omega) (by simp [List.getElem?_eq_getElem hn, List.getD])]); (repeat (refine Nx.mk ?_; try simp only [skip_, seqset_, seqdrop_, seqasg_, ret_, retN_, if_, drop_, set_, asg_, for_, raise0_, raise1_, var_, c_, c2_, test_, and_, or_, not_, andV_, orV_, notV_, nil_, cons_, tup0_, tup1_, tup2_, tup3_, tup4_, tup5_, lst0_, lst1_, lst2_, lst3_, lst4_, lst5_, lst6_, lst7_, lst8_, lst9_, lst10_, lstv1_, lstv2_, lstv3_, lstv4_, lstv5_, b_, m_, call1_, call2_, call3_, call4_, call5_, neg_, slice_, none_, some_, rev_, comp_, gtup_, gn_nil, gn_cons, wipe_n, wipe_c, iseq_, sq_t, sq_r, r1_, r2_, add_i, add_s, add_t, sub_i, mul_i, int_o, cmp_o, isn_, ix_t, ix_r, ix_s, len_t2, len_t3, len_t4, len_t5, len_r, int1_i, two_, tuple_t, tuple_r, list_t, list_r, str_i, sl_t, sl_r, rev_t, rev_r, lo_l, lo_r, isi_t_t, isi_i_t, isi_s_s, isi_i_i, isi_i_b, isi_b_b, at0, at1, at2, at3, eq_i, eq_s, ol_s, vr_s, tb_b, ti_i, Br_t, Br_f, List.getElem?_cons_zero, List.getElem?_cons_succ, List.set_cons_zero, List.set_cons_succ, true_and, eq_self, Bool.not_true, Bool.not_false, Bool.false_eq_true, if_true, if_false, Nat.reduceLeDiff, ite_true, ite_false, mx_ol x (lst_ol e3), atI_of (xs := r.p.map D.str) (i := 0 + (n : Int)) (n := n) (x := .str (r.p.getD n "")) (by omega) (by simp [List.getElem?_eq_getElem hn, List.getD])]))
        refine ⟨Or.inl ⟨by have := O.st; omega, by have := O.st; omega⟩, hQ' _ _ MX.refl' ?_⟩
        rw [Int.zero_add]
      · rw [rng_len] at hlen
        have := visL_comp (p := r.p) (f := r.f) (st := r.st) (by omega) hy
        subst this
        (try simp only [skip_, seqset_, seqdrop_, seqasg_, ret_, retN_, if_, drop_, set_, asg_, for_, raise0_, raise1_, var_, c_, c2_, test_, and_, or_, not_, andV_, orV_, notV_, nil_, cons_, tup0_, tup1_, tup2_, tup3_, tup4_, tup5_, lst0_, lst1_, lst2_, lst3_, lst4_, lst5_, lst6_, lst7_, lst8_, lst9_, lst10_, lstv1_, lstv2_, lstv3_, lstv4_, lstv5_, b_, m_, call1_, call2_, call3_, call4_, call5_, neg_, slice_, none_, some_, rev_, comp_, gtup_, gn_nil, gn_cons, wipe_n, wipe_c, iseq_, sq_t, sq_r, r1_, r2_, add_i, add_s, add_t, sub_i, mul_i, int_o, cmp_o, isn_, ix_t, ix_r, ix_s, len_t2, len_t3, len_t4, len_t5, len_r, int1_i, two_, tuple_t, tuple_r, list_t, list_r, str_i, sl_t, sl_r, rev_t, rev_r, lo_l, lo_r, isi_t_t, isi_i_t, isi_s_s, isi_i_i, isi_i_b, isi_b_b, at0, at1, at2, at3, eq_i, eq_s, ol_s, vr_s, tb_b, ti_i, Br_t, Br_f, List.getElem?_cons_zero, List.getElem?_cons_succ, List.set_cons_zero, List.set_cons_succ, true_and, eq_self, Bool.not_true, Bool.not_false, Bool.false_eq_true, if_true, if_false, Nat.reduceLeDiff, ite_true, ite_false, lst_ol e]); (repeat (refine Nx.mk ?_; try simp only [skip_, seqset_, seqdrop_, seqasg_, ret_, retN_, if_, drop_, set_, asg_, for_, raise0_, raise1_, var_, c_, c2_, test_, and_, or_, not_, andV_, orV_, notV_, nil_, cons_, tup0_, tup1_, tup2_, tup3_, tup4_, tup5_, lst0_, lst1_, lst2_, lst3_, lst4_, lst5_, lst6_, lst7_, lst8_, lst9_, lst10_, lstv1_, lstv2_, lstv3_, lstv4_, lstv5_, b_, m_, call1_, call2_, call3_, call4_, call5_, neg_, slice_, none_, some_, rev_, comp_, gtup_, gn_nil, gn_cons, wipe_n, wipe_c, iseq_, sq_t, sq_r, r1_, r2_, add_i, add_s, add_t, sub_i, mul_i, int_o, cmp_o, isn_, ix_t, ix_r, ix_s, len_t2, len_t3, len_t4, len_t5, len_r, int1_i, two_, tuple_t, tuple_r, list_t, list_r, str_i, sl_t, sl_r, rev_t, rev_r, lo_l, lo_r, isi_t_t, isi_i_t, isi_s_s, isi_i_i, isi_i_b, isi_b_b, at0, at1, at2, at3, eq_i, eq_s, ol_s, vr_s, tb_b, ti_i, Br_t, Br_f, List.getElem?_cons_zero, List.getElem?_cons_succ, List.set_cons_zero, List.set_cons_succ, true_and, eq_self, Bool.not_true, Bool.not_false, Bool.false_eq_true, if_true, if_false, Nat.reduceLeDiff, ite_true, ite_false, lst_ol e]))
        exact hQ _ (mxT x3 x)
theorem vis_last {r : Rn} (h : 0 < r.l.path.length) : atI r.vis (-1) = some (.tup [.str (r.p.getD (r.l.path.length - 1) ""), .int r.en]) := by
  refine atI_last ?_
  have hl := r.p_len
  rw [List.getLast?_eq_getElem?]
  unfold Rn.vis visL Rn.en
  simp only [List.length_map, List.length_range, List.getElem?_map, hl]
  rw [List.getElem?_range (by omega)]
  simp only [Option.map_some]
  rw [show ((r.l.path.length - 1 : Nat) : Int) = (r.l.path.length : Int) - 1 by omega]
theorem check_sp {c0 : D} {cr : List D} {ls : List Lt} (U : Uq ls) {r : Rn} (O : Ok ls r) (hQ : r.en ≤ 9999 → ∀ M', MX M M' → Q .non M') (hE : 9999 < r.en → ∀ M' d, MX M M' → M' d = some (.xd [("limit", .int 9999)]) → E g.TooMany (some d) M') : cf_check_end K g [.tup (c0 :: .tup (ls.map Lt.d) :: cr), r.d] M Q E := by
  unfold cf_check_end cfOf
  rw [show startD 2 [D.tup (c0 :: .tup (ls.map Lt.d) :: cr), r.d] = [some (.tup (c0 :: .tup (ls.map Lt.d) :: cr)), some r.d] from rfl]
  unfold R_check_end
  have hp := U.pos r.l (List.mem_of_getElem? O.at_)
  (try simp only [skip_, seqset_, seqdrop_, seqasg_, ret_, retN_, if_, drop_, set_, asg_, for_, raise0_, raise1_, var_, c_, c2_, test_, and_, or_, not_, andV_, orV_, notV_, nil_, cons_, tup0_, tup1_, tup2_, tup3_, tup4_, tup5_, lst0_, lst1_, lst2_, lst3_, lst4_, lst5_, lst6_, lst7_, lst8_, lst9_, lst10_, lstv1_, lstv2_, lstv3_, lstv4_, lstv5_, b_, m_, call1_, call2_, call3_, call4_, call5_, neg_, slice_, none_, some_, rev_, comp_, gtup_, gn_nil, gn_cons, wipe_n, wipe_c, iseq_, sq_t, sq_r, r1_, r2_, add_i, add_s, add_t, sub_i, mul_i, int_o, cmp_o, isn_, ix_t, ix_r, ix_s, len_t2, len_t3, len_t4, len_t5, len_r, int1_i, two_, tuple_t, tuple_r, list_t, list_r, str_i, sl_t, sl_r, rev_t, rev_r, lo_l, lo_r, isi_t_t, isi_i_t, isi_s_s, isi_i_i, isi_i_b, isi_b_b, at0, at1, at2, at3, eq_i, eq_s, ol_s, vr_s, tb_b, ti_i, Br_t, Br_f, List.getElem?_cons_zero, List.getElem?_cons_succ, List.set_cons_zero, List.set_cons_succ, true_and, eq_self, Bool.not_true, Bool.not_false, Bool.false_eq_true, if_true, if_false, Nat.reduceLeDiff, ite_true, ite_false]); (repeat (refine Nx.mk ?_; try simp only [skip_, seqset_, seqdrop_, seqasg_, ret_, retN_, if_, drop_, set_, asg_, for_, raise0_, raise1_, var_, c_, c2_, test_, and_, or_, not_, andV_, orV_, notV_, nil_, cons_, tup0_, tup1_, tup2_, tup3_, tup4_, tup5_, lst0_, lst1_, lst2_, lst3_, lst4_, lst5_, lst6_, lst7_, lst8_, lst9_, lst10_, lstv1_, lstv2_, lstv3_, lstv4_, lstv5_, b_, m_, call1_, call2_, call3_, call4_, call5_, neg_, slice_, none_, some_, rev_, comp_, gtup_, gn_nil, gn_cons, wipe_n, wipe_c, iseq_, sq_t, sq_r, r1_, r2_, add_i, add_s, add_t, sub_i, mul_i, int_o, cmp_o, isn_, ix_t, ix_r, ix_s, len_t2, len_t3, len_t4, len_t5, len_r, int1_i, two_, tuple_t, tuple_r, list_t, list_r, str_i, sl_t, sl_r, rev_t, rev_r, lo_l, lo_r, isi_t_t, isi_i_t, isi_s_s, isi_i_i, isi_i_b, isi_b_b, at0, at1, at2, at3, eq_i, eq_s, ol_s, vr_s, tb_b, ti_i, Br_t, Br_f, List.getElem?_cons_zero, List.getElem?_cons_succ, List.set_cons_zero, List.set_cons_succ, true_and, eq_self, Bool.not_true, Bool.not_false, Bool.false_eq_true, if_true, if_false, Nat.reduceLeDiff, ite_true, ite_false]))
  refine visits_sp U O fun M1 x1 => ?_
  (try simp only [skip_, seqset_, seqdrop_, seqasg_, ret_, retN_, if_, drop_, set_, asg_, for_, raise0_, raise1_, var_, c_, c2_, test_, and_, or_, not_, andV_, orV_, notV_, nil_, cons_, tup0_, tup1_, tup2_, tup3_, tup4_, tup5_, lst0_, lst1_, lst2_, lst3_, lst4_, lst5_, lst6_, lst7_, lst8_, lst9_, lst10_, lstv1_, lstv2_, lstv3_, lstv4_, lstv5_, b_, m_, call1_, call2_, call3_, call4_, call5_, neg_, slice_, none_, some_, rev_, comp_, gtup_, gn_nil, gn_cons, wipe_n, wipe_c, iseq_, sq_t, sq_r, r1_, r2_, add_i, add_s, add_t, sub_i, mul_i, int_o, cmp_o, isn_, ix_t, ix_r, ix_s, len_t2, len_t3, len_t4, len_t5, len_r, int1_i, two_, tuple_t, tuple_r, list_t, list_r, str_i, sl_t, sl_r, rev_t, rev_r, lo_l, lo_r, isi_t_t, isi_i_t, isi_s_s, isi_i_i, isi_i_b, isi_b_b, at0, at1, at2, at3, eq_i, eq_s, ol_s, vr_s, tb_b, ti_i, Br_t, Br_f, List.getElem?_cons_zero, List.getElem?_cons_succ, List.set_cons_zero, List.set_cons_succ, true_and, eq_self, Bool.not_true, Bool.not_false, Bool.false_eq_true, if_true, if_false, Nat.reduceLeDiff, ite_true, ite_false, vis_last hp.1]); (repeat (refine Nx.mk ?_; try simp only [skip_, seqset_, seqdrop_, seqasg_, ret_, retN_, if_, drop_, set_, asg_, for_, raise0_, raise1_, var_, c_, c2_, test_, and_, or_, not_, andV_, orV_, notV_, nil_, cons_, tup0_, tup1_, tup2_, tup3_, tup4_, tup5_, lst0_, lst1_, lst2_, lst3_, lst4_, lst5_, lst6_, lst7_, lst8_, lst9_, lst10_, lstv1_, lstv2_, lstv3_, lstv4_, lstv5_, b_, m_, call1_, call2_, call3_, call4_, call5_, neg_, slice_, none_, some_, rev_, comp_, gtup_, gn_nil, gn_cons, wipe_n, wipe_c, iseq_, sq_t, sq_r, r1_, r2_, add_i, add_s, add_t, sub_i, mul_i, int_o, cmp_o, isn_, ix_t, ix_r, ix_s, len_t2, len_t3, len_t4, len_t5, len_r, int1_i, two_, tuple_t, tuple_r, list_t, list_r, str_i, sl_t, sl_r, rev_t, rev_r, lo_l, lo_r, isi_t_t, isi_i_t, isi_s_s, isi_i_i, isi_i_b, isi_b_b, at0, at1, at2, at3, eq_i, eq_s, ol_s, vr_s, tb_b, ti_i, Br_t, Br_f, List.getElem?_cons_zero, List.getElem?_cons_succ, List.set_cons_zero, List.set_cons_succ, true_and, eq_self, Bool.not_true, Bool.not_false, Bool.false_eq_true, if_true, if_false, Nat.reduceLeDiff, ite_true, ite_false, vis_last hp.1]))
  refine Br_i (fun h => ?_) (fun h => ?_)
  · (try simp only [skip_, seqset_, seqdrop_, seqasg_, ret_, retN_, if_, drop_, set_, asg_, for_, raise0_, raise1_, var_, c_, c2_, test_, and_, or_, not_, andV_, orV_, notV_, nil_, cons_, tup0_, tup1_, tup2_, tup3_, tup4_, tup5_, lst0_, lst1_, lst2_, lst3_, lst4_, lst5_, lst6_, lst7_, lst8_, lst9_, lst10_, lstv1_, lstv2_, lstv3_, lstv4_, lstv5_, b_, m_, call1_, call2_, call3_, call4_, call5_, neg_, slice_, none_, some_, rev_, comp_, gtup_, gn_nil, gn_cons, wipe_n, wipe_c, iseq_, sq_t, sq_r, r1_, r2_, add_i, add_s, add_t, sub_i, mul_i, int_o, cmp_o, isn_, ix_t, ix_r, ix_s, len_t2, len_t3, len_t4, len_t5, len_r, int1_i, two_, tuple_t, tuple_r, list_t, list_r, str_i, sl_t, sl_r, rev_t, rev_r, lo_l, lo_r, isi_t_t, isi_i_t, isi_s_s, isi_i_i, isi_i_b, isi_b_b, at0, at1, at2, at3, eq_i, eq_s, ol_s, vr_s, tb_b, ti_i, Br_t, Br_f, List.getElem?_cons_zero, List.getElem?_cons_succ, List.set_cons_zero, List.set_cons_succ, true_and, eq_self, Bool.not_true, Bool.not_false, Bool.false_eq_true, if_true, if_false, Nat.reduceLeDiff, ite_true, ite_false]); (repeat (refine Nx.mk ?_; try simp only [skip_, seqset_, seqdrop_, seqasg_, ret_, retN_, if_, drop_, set_, asg_, for_, raise0_, raise1_, var_, c_, c2_, test_, and_, or_, not_, andV_, orV_, notV_, nil_, cons_, tup0_, tup1_, tup2_, tup3_, tup4_, tup5_, lst0_, lst1_, lst2_, lst3_, lst4_, lst5_, lst6_, lst7_, lst8_, lst9_, lst10_, lstv1_, lstv2_, lstv3_, lstv4_, lstv5_, b_, m_, call1_, call2_, call3_, call4_, call5_, neg_, slice_, none_, some_, rev_, comp_, gtup_, gn_nil, gn_cons, wipe_n, wipe_c, iseq_, sq_t, sq_r, r1_, r2_, add_i, add_s, add_t, sub_i, mul_i, int_o, cmp_o, isn_, ix_t, ix_r, ix_s, len_t2, len_t3, len_t4, len_t5, len_r, int1_i, two_, tuple_t, tuple_r, list_t, list_r, str_i, sl_t, sl_r, rev_t, rev_r, lo_l, lo_r, isi_t_t, isi_i_t, isi_s_s, isi_i_i, isi_i_b, isi_b_b, at0, at1, at2, at3, eq_i, eq_s, ol_s, vr_s, tb_b, ti_i, Br_t, Br_f, List.getElem?_cons_zero, List.getElem?_cons_succ, List.set_cons_zero, List.set_cons_succ, true_and, eq_self, Bool.not_true, Bool.not_false, Bool.false_eq_true, if_true, if_false, Nat.reduceLeDiff, ite_true, ite_false]))
    intro a ha
    exact hE (of_decide_eq_true h) _ _ (mx_put x1 (mx_none x1 ha)) put_same
  · exact hQ (by have := of_decide_eq_false h; omega) _ x1
theorem isnum_sp (i : Int) (hQ : Q (.bl true) M) : cf_l_is_number K g [.int i] M Q E := by
  show R_l_is_number K g ⟨_, _, _⟩ [some (.int i)] M
  unfold R_l_is_number
  (try simp only [skip_, seqset_, seqdrop_, seqasg_, ret_, retN_, if_, drop_, set_, asg_, for_, raise0_, raise1_, var_, c_, c2_, test_, and_, or_, not_, andV_, orV_, notV_, nil_, cons_, tup0_, tup1_, tup2_, tup3_, tup4_, tup5_, lst0_, lst1_, lst2_, lst3_, lst4_, lst5_, lst6_, lst7_, lst8_, lst9_, lst10_, lstv1_, lstv2_, lstv3_, lstv4_, lstv5_, b_, m_, call1_, call2_, call3_, call4_, call5_, neg_, slice_, none_, some_, rev_, comp_, gtup_, gn_nil, gn_cons, wipe_n, wipe_c, iseq_, sq_t, sq_r, r1_, r2_, add_i, add_s, add_t, sub_i, mul_i, int_o, cmp_o, isn_, ix_t, ix_r, ix_s, len_t2, len_t3, len_t4, len_t5, len_r, int1_i, two_, tuple_t, tuple_r, list_t, list_r, str_i, sl_t, sl_r, rev_t, rev_r, lo_l, lo_r, isi_t_t, isi_i_t, isi_s_s, isi_i_i, isi_i_b, isi_b_b, at0, at1, at2, at3, eq_i, eq_s, ol_s, vr_s, tb_b, ti_i, Br_t, Br_f, List.getElem?_cons_zero, List.getElem?_cons_succ, List.set_cons_zero, List.set_cons_succ, true_and, eq_self, Bool.not_true, Bool.not_false, Bool.false_eq_true, if_true, if_false, Nat.reduceLeDiff, ite_true, ite_false]); (repeat (refine Nx.mk ?_; try simp only [skip_, seqset_, seqdrop_, seqasg_, ret_, retN_, if_, drop_, set_, asg_, for_, raise0_, raise1_, var_, c_, c2_, test_, and_, or_, not_, andV_, orV_, notV_, nil_, cons_, tup0_, tup1_, tup2_, tup3_, tup4_, tup5_, lst0_, lst1_, lst2_, lst3_, lst4_, lst5_, lst6_, lst7_, lst8_, lst9_, lst10_, lstv1_, lstv2_, lstv3_, lstv4_, lstv5_, b_, m_, call1_, call2_, call3_, call4_, call5_, neg_, slice_, none_, some_, rev_, comp_, gtup_, gn_nil, gn_cons, wipe_n, wipe_c, iseq_, sq_t, sq_r, r1_, r2_, add_i, add_s, add_t, sub_i, mul_i, int_o, cmp_o, isn_, ix_t, ix_r, ix_s, len_t2, len_t3, len_t4, len_t5, len_r, int1_i, two_, tuple_t, tuple_r, list_t, list_r, str_i, sl_t, sl_r, rev_t, rev_r, lo_l, lo_r, isi_t_t, isi_i_t, isi_s_s, isi_i_i, isi_i_b, isi_b_b, at0, at1, at2, at3, eq_i, eq_s, ol_s, vr_s, tb_b, ti_i, Br_t, Br_f, List.getElem?_cons_zero, List.getElem?_cons_succ, List.set_cons_zero, List.set_cons_succ, true_and, eq_self, Bool.not_true, Bool.not_false, Bool.false_eq_true, if_true, if_false, Nat.reduceLeDiff, ite_true, ite_false]))
  exact hQ
theorem are_runs_sp (rs : List Rn) (hQ : Q (.bl true) M) : cf_l_are_runs K g [.tup (rs.map Rn.d)] M Q E := by
  show R_l_are_runs K g ⟨_, _, _⟩ [some (.tup (rs.map Rn.d)), none] M
  unfold R_l_are_runs
  (try refine Nx.mk ?_); rw [seq_]
  (try simp only [skip_, seqset_, seqdrop_, seqasg_, ret_, retN_, if_, drop_, set_, asg_, for_, raise0_, raise1_, var_, c_, c2_, test_, and_, or_, not_, andV_, orV_, notV_, nil_, cons_, tup0_, tup1_, tup2_, tup3_, tup4_, tup5_, lst0_, lst1_, lst2_, lst3_, lst4_, lst5_, lst6_, lst7_, lst8_, lst9_, lst10_, lstv1_, lstv2_, lstv3_, lstv4_, lstv5_, b_, m_, call1_, call2_, call3_, call4_, call5_, neg_, slice_, none_, some_, rev_, comp_, gtup_, gn_nil, gn_cons, wipe_n, wipe_c, iseq_, sq_t, sq_r, r1_, r2_, add_i, add_s, add_t, sub_i, mul_i, int_o, cmp_o, isn_, ix_t, ix_r, ix_s, len_t2, len_t3, len_t4, len_t5, len_r, int1_i, two_, tuple_t, tuple_r, list_t, list_r, str_i, sl_t, sl_r, rev_t, rev_r, lo_l, lo_r, isi_t_t, isi_i_t, isi_s_s, isi_i_i, isi_i_b, isi_b_b, at0, at1, at2, at3, eq_i, eq_s, ol_s, vr_s, tb_b, ti_i, Br_t, Br_f, List.getElem?_cons_zero, List.getElem?_cons_succ, List.set_cons_zero, List.set_cons_succ, true_and, eq_self, Bool.not_true, Bool.not_false, Bool.false_eq_true, if_true, if_false, Nat.reduceLeDiff, ite_true, ite_false]); (repeat (refine Nx.mk ?_; try simp only [skip_, seqset_, seqdrop_, seqasg_, ret_, retN_, if_, drop_, set_, asg_, for_, raise0_, raise1_, var_, c_, c2_, test_, and_, or_, not_, andV_, orV_, notV_, nil_, cons_, tup0_, tup1_, tup2_, tup3_, tup4_, tup5_, lst0_, lst1_, lst2_, lst3_, lst4_, lst5_, lst6_, lst7_, lst8_, lst9_, lst10_, lstv1_, lstv2_, lstv3_, lstv4_, lstv5_, b_, m_, call1_, call2_, call3_, call4_, call5_, neg_, slice_, none_, some_, rev_, comp_, gtup_, gn_nil, gn_cons, wipe_n, wipe_c, iseq_, sq_t, sq_r, r1_, r2_, add_i, add_s, add_t, sub_i, mul_i, int_o, cmp_o, isn_, ix_t, ix_r, ix_s, len_t2, len_t3, len_t4, len_t5, len_r, int1_i, two_, tuple_t, tuple_r, list_t, list_r, str_i, sl_t, sl_r, rev_t, rev_r, lo_l, lo_r, isi_t_t, isi_i_t, isi_s_s, isi_i_i, isi_i_b, isi_b_b, at0, at1, at2, at3, eq_i, eq_s, ol_s, vr_s, tb_b, ti_i, Br_t, Br_f, List.getElem?_cons_zero, List.getElem?_cons_succ, List.set_cons_zero, List.set_cons_succ, true_and, eq_self, Bool.not_true, Bool.not_false, Bool.false_eq_true, if_true, if_false, Nat.reduceLeDiff, ite_true, ite_false]))
  (try refine Nx.mk ?_); refine seq_m (fun _ M' => M = M') (fun Kn hK => ?_) ?_
  · (try simp only [skip_, seqset_, seqdrop_, seqasg_, ret_, retN_, if_, drop_, set_, asg_, for_, raise0_, raise1_, var_, c_, c2_, test_, and_, or_, not_, andV_, orV_, notV_, nil_, cons_, tup0_, tup1_, tup2_, tup3_, tup4_, tup5_, lst0_, lst1_, lst2_, lst3_, lst4_, lst5_, lst6_, lst7_, lst8_, lst9_, lst10_, lstv1_, lstv2_, lstv3_, lstv4_, lstv5_, b_, m_, call1_, call2_, call3_, call4_, call5_, neg_, slice_, none_, some_, rev_, comp_, gtup_, gn_nil, gn_cons, wipe_n, wipe_c, iseq_, sq_t, sq_r, r1_, r2_, add_i, add_s, add_t, sub_i, mul_i, int_o, cmp_o, isn_, ix_t, ix_r, ix_s, len_t2, len_t3, len_t4, len_t5, len_r, int1_i, two_, tuple_t, tuple_r, list_t, list_r, str_i, sl_t, sl_r, rev_t, rev_r, lo_l, lo_r, isi_t_t, isi_i_t, isi_s_s, isi_i_i, isi_i_b, isi_b_b, at0, at1, at2, at3, eq_i, eq_s, ol_s, vr_s, tb_b, ti_i, Br_t, Br_f, List.getElem?_cons_zero, List.getElem?_cons_succ, List.set_cons_zero, List.set_cons_succ, true_and, eq_self, Bool.not_true, Bool.not_false, Bool.false_eq_true, if_true, if_false, Nat.reduceLeDiff, ite_true, ite_false]); (repeat (refine Nx.mk ?_; try simp only [skip_, seqset_, seqdrop_, seqasg_, ret_, retN_, if_, drop_, set_, asg_, for_, raise0_, raise1_, var_, c_, c2_, test_, and_, or_, not_, andV_, orV_, notV_, nil_, cons_, tup0_, tup1_, tup2_, tup3_, tup4_, tup5_, lst0_, lst1_, lst2_, lst3_, lst4_, lst5_, lst6_, lst7_, lst8_, lst9_, lst10_, lstv1_, lstv2_, lstv3_, lstv4_, lstv5_, b_, m_, call1_, call2_, call3_, call4_, call5_, neg_, slice_, none_, some_, rev_, comp_, gtup_, gn_nil, gn_cons, wipe_n, wipe_c, iseq_, sq_t, sq_r, r1_, r2_, add_i, add_s, add_t, sub_i, mul_i, int_o, cmp_o, isn_, ix_t, ix_r, ix_s, len_t2, len_t3, len_t4, len_t5, len_r, int1_i, two_, tuple_t, tuple_r, list_t, list_r, str_i, sl_t, sl_r, rev_t, rev_r, lo_l, lo_r, isi_t_t, isi_i_t, isi_s_s, isi_i_i, isi_i_b, isi_b_b, at0, at1, at2, at3, eq_i, eq_s, ol_s, vr_s, tb_b, ti_i, Br_t, Br_f, List.getElem?_cons_zero, List.getElem?_cons_succ, List.set_cons_zero, List.set_cons_succ, true_and, eq_self, Bool.not_true, Bool.not_false, Bool.false_eq_true, if_true, if_false, Nat.reduceLeDiff, ite_true, ite_false]))
    refine for_0 (fun n ρ' M' => ∃ o, ρ' = [some (.tup (rs.map Rn.d)), o] ∧ M = M') ⟨_, rfl, rfl⟩ (fun _ _ _ _ _ => trivial) ?_ ?_
    · rintro n d hd _ _ ⟨o, rfl, rfl⟩
      rw [List.getElem?_map] at hd
      cases hln : rs[n]? with
      | none => rw [hln] at hd; cases hd
      | some r =>
        rw [hln] at hd; cases hd
        refine ⟨_, rfl, fun Kn2 hK2 => ?_⟩
        rw [Rn.d_eq]
        (try refine Nx.mk ?_); rw [seq_]
        (try simp only [skip_, seqset_, seqdrop_, seqasg_, ret_, retN_, if_, drop_, set_, asg_, for_, raise0_, raise1_, var_, c_, c2_, test_, and_, or_, not_, andV_, orV_, notV_, nil_, cons_, tup0_, tup1_, tup2_, tup3_, tup4_, tup5_, lst0_, lst1_, lst2_, lst3_, lst4_, lst5_, lst6_, lst7_, lst8_, lst9_, lst10_, lstv1_, lstv2_, lstv3_, lstv4_, lstv5_, b_, m_, call1_, call2_, call3_, call4_, call5_, neg_, slice_, none_, some_, rev_, comp_, gtup_, gn_nil, gn_cons, wipe_n, wipe_c, iseq_, sq_t, sq_r, r1_, r2_, add_i, add_s, add_t, sub_i, mul_i, int_o, cmp_o, isn_, ix_t, ix_r, ix_s, len_t2, len_t3, len_t4, len_t5, len_r, int1_i, two_, tuple_t, tuple_r, list_t, list_r, str_i, sl_t, sl_r, rev_t, rev_r, lo_l, lo_r, isi_t_t, isi_i_t, isi_s_s, isi_i_i, isi_i_b, isi_b_b, at0, at1, at2, at3, eq_i, eq_s, ol_s, vr_s, tb_b, ti_i, Br_t, Br_f, List.getElem?_cons_zero, List.getElem?_cons_succ, List.set_cons_zero, List.set_cons_succ, true_and, eq_self, Bool.not_true, Bool.not_false, Bool.false_eq_true, if_true, if_false, Nat.reduceLeDiff, ite_true, ite_false, decide_true, if_true]); (repeat (refine Nx.mk ?_; try simp only [skip_, seqset_, seqdrop_, seqasg_, ret_, retN_, if_, drop_, set_, asg_, for_, raise0_, raise1_, var_, c_, c2_, test_, and_, or_, not_, andV_, orV_, notV_, nil_, cons_, tup0_, tup1_, tup2_, tup3_, tup4_, tup5_, lst0_, lst1_, lst2_, lst3_, lst4_, lst5_, lst6_, lst7_, lst8_, lst9_, lst10_, lstv1_, lstv2_, lstv3_, lstv4_, lstv5_, b_, m_, call1_, call2_, call3_, call4_, call5_, neg_, slice_, none_, some_, rev_, comp_, gtup_, gn_nil, gn_cons, wipe_n, wipe_c, iseq_, sq_t, sq_r, r1_, r2_, add_i, add_s, add_t, sub_i, mul_i, int_o, cmp_o, isn_, ix_t, ix_r, ix_s, len_t2, len_t3, len_t4, len_t5, len_r, int1_i, two_, tuple_t, tuple_r, list_t, list_r, str_i, sl_t, sl_r, rev_t, rev_r, lo_l, lo_r, isi_t_t, isi_i_t, isi_s_s, isi_i_i, isi_i_b, isi_b_b, at0, at1, at2, at3, eq_i, eq_s, ol_s, vr_s, tb_b, ti_i, Br_t, Br_f, List.getElem?_cons_zero, List.getElem?_cons_succ, List.set_cons_zero, List.set_cons_succ, true_and, eq_self, Bool.not_true, Bool.not_false, Bool.false_eq_true, if_true, if_false, Nat.reduceLeDiff, ite_true, ite_false, decide_true, if_true]))
        (try refine Nx.mk ?_); rw [seq_]
        (try simp only [skip_, seqset_, seqdrop_, seqasg_, ret_, retN_, if_, drop_, set_, asg_, for_, raise0_, raise1_, var_, c_, c2_, test_, and_, or_, not_, andV_, orV_, notV_, nil_, cons_, tup0_, tup1_, tup2_, tup3_, tup4_, tup5_, lst0_, lst1_, lst2_, lst3_, lst4_, lst5_, lst6_, lst7_, lst8_, lst9_, lst10_, lstv1_, lstv2_, lstv3_, lstv4_, lstv5_, b_, m_, call1_, call2_, call3_, call4_, call5_, neg_, slice_, none_, some_, rev_, comp_, gtup_, gn_nil, gn_cons, wipe_n, wipe_c, iseq_, sq_t, sq_r, r1_, r2_, add_i, add_s, add_t, sub_i, mul_i, int_o, cmp_o, isn_, ix_t, ix_r, ix_s, len_t2, len_t3, len_t4, len_t5, len_r, int1_i, two_, tuple_t, tuple_r, list_t, list_r, str_i, sl_t, sl_r, rev_t, rev_r, lo_l, lo_r, isi_t_t, isi_i_t, isi_s_s, isi_i_i, isi_i_b, isi_b_b, at0, at1, at2, at3, eq_i, eq_s, ol_s, vr_s, tb_b, ti_i, Br_t, Br_f, List.getElem?_cons_zero, List.getElem?_cons_succ, List.set_cons_zero, List.set_cons_succ, true_and, eq_self, Bool.not_true, Bool.not_false, Bool.false_eq_true, if_true, if_false, Nat.reduceLeDiff, ite_true, ite_false]); (repeat (refine Nx.mk ?_; try simp only [skip_, seqset_, seqdrop_, seqasg_, ret_, retN_, if_, drop_, set_, asg_, for_, raise0_, raise1_, var_, c_, c2_, test_, and_, or_, not_, andV_, orV_, notV_, nil_, cons_, tup0_, tup1_, tup2_, tup3_, tup4_, tup5_, lst0_, lst1_, lst2_, lst3_, lst4_, lst5_, lst6_, lst7_, lst8_, lst9_, lst10_, lstv1_, lstv2_, lstv3_, lstv4_, lstv5_, b_, m_, call1_, call2_, call3_, call4_, call5_, neg_, slice_, none_, some_, rev_, comp_, gtup_, gn_nil, gn_cons, wipe_n, wipe_c, iseq_, sq_t, sq_r, r1_, r2_, add_i, add_s, add_t, sub_i, mul_i, int_o, cmp_o, isn_, ix_t, ix_r, ix_s, len_t2, len_t3, len_t4, len_t5, len_r, int1_i, two_, tuple_t, tuple_r, list_t, list_r, str_i, sl_t, sl_r, rev_t, rev_r, lo_l, lo_r, isi_t_t, isi_i_t, isi_s_s, isi_i_i, isi_i_b, isi_b_b, at0, at1, at2, at3, eq_i, eq_s, ol_s, vr_s, tb_b, ti_i, Br_t, Br_f, List.getElem?_cons_zero, List.getElem?_cons_succ, List.set_cons_zero, List.set_cons_succ, true_and, eq_self, Bool.not_true, Bool.not_false, Bool.false_eq_true, if_true, if_false, Nat.reduceLeDiff, ite_true, ite_false]))
        refine isnum_sp _ ?_
        (try simp only [skip_, seqset_, seqdrop_, seqasg_, ret_, retN_, if_, drop_, set_, asg_, for_, raise0_, raise1_, var_, c_, c2_, test_, and_, or_, not_, andV_, orV_, notV_, nil_, cons_, tup0_, tup1_, tup2_, tup3_, tup4_, tup5_, lst0_, lst1_, lst2_, lst3_, lst4_, lst5_, lst6_, lst7_, lst8_, lst9_, lst10_, lstv1_, lstv2_, lstv3_, lstv4_, lstv5_, b_, m_, call1_, call2_, call3_, call4_, call5_, neg_, slice_, none_, some_, rev_, comp_, gtup_, gn_nil, gn_cons, wipe_n, wipe_c, iseq_, sq_t, sq_r, r1_, r2_, add_i, add_s, add_t, sub_i, mul_i, int_o, cmp_o, isn_, ix_t, ix_r, ix_s, len_t2, len_t3, len_t4, len_t5, len_r, int1_i, two_, tuple_t, tuple_r, list_t, list_r, str_i, sl_t, sl_r, rev_t, rev_r, lo_l, lo_r, isi_t_t, isi_i_t, isi_s_s, isi_i_i, isi_i_b, isi_b_b, at0, at1, at2, at3, eq_i, eq_s, ol_s, vr_s, tb_b, ti_i, Br_t, Br_f, List.getElem?_cons_zero, List.getElem?_cons_succ, List.set_cons_zero, List.set_cons_succ, true_and, eq_self, Bool.not_true, Bool.not_false, Bool.false_eq_true, if_true, if_false, Nat.reduceLeDiff, ite_true, ite_false]); (repeat (refine Nx.mk ?_; try simp only [skip_, seqset_, seqdrop_, seqasg_, ret_, retN_, if_, drop_, set_, asg_, for_, raise0_, raise1_, var_, c_, c2_, test_, and_, or_, not_, andV_, orV_, notV_, nil_, cons_, tup0_, tup1_, tup2_, tup3_, tup4_, tup5_, lst0_, lst1_, lst2_, lst3_, lst4_, lst5_, lst6_, lst7_, lst8_, lst9_, lst10_, lstv1_, lstv2_, lstv3_, lstv4_, lstv5_, b_, m_, call1_, call2_, call3_, call4_, call5_, neg_, slice_, none_, some_, rev_, comp_, gtup_, gn_nil, gn_cons, wipe_n, wipe_c, iseq_, sq_t, sq_r, r1_, r2_, add_i, add_s, add_t, sub_i, mul_i, int_o, cmp_o, isn_, ix_t, ix_r, ix_s, len_t2, len_t3, len_t4, len_t5, len_r, int1_i, two_, tuple_t, tuple_r, list_t, list_r, str_i, sl_t, sl_r, rev_t, rev_r, lo_l, lo_r, isi_t_t, isi_i_t, isi_s_s, isi_i_i, isi_i_b, isi_b_b, at0, at1, at2, at3, eq_i, eq_s, ol_s, vr_s, tb_b, ti_i, Br_t, Br_f, List.getElem?_cons_zero, List.getElem?_cons_succ, List.set_cons_zero, List.set_cons_succ, true_and, eq_self, Bool.not_true, Bool.not_false, Bool.false_eq_true, if_true, if_false, Nat.reduceLeDiff, ite_true, ite_false]))
        refine isnum_sp _ ?_
        (try simp only [skip_, seqset_, seqdrop_, seqasg_, ret_, retN_, if_, drop_, set_, asg_, for_, raise0_, raise1_, var_, c_, c2_, test_, and_, or_, not_, andV_, orV_, notV_, nil_, cons_, tup0_, tup1_, tup2_, tup3_, tup4_, tup5_, lst0_, lst1_, lst2_, lst3_, lst4_, lst5_, lst6_, lst7_, lst8_, lst9_, lst10_, lstv1_, lstv2_, lstv3_, lstv4_, lstv5_, b_, m_, call1_, call2_, call3_, call4_, call5_, neg_, slice_, none_, some_, rev_, comp_, gtup_, gn_nil, gn_cons, wipe_n, wipe_c, iseq_, sq_t, sq_r, r1_, r2_, add_i, add_s, add_t, sub_i, mul_i, int_o, cmp_o, isn_, ix_t, ix_r, ix_s, len_t2, len_t3, len_t4, len_t5, len_r, int1_i, two_, tuple_t, tuple_r, list_t, list_r, str_i, sl_t, sl_r, rev_t, rev_r, lo_l, lo_r, isi_t_t, isi_i_t, isi_s_s, isi_i_i, isi_i_b, isi_b_b, at0, at1, at2, at3, eq_i, eq_s, ol_s, vr_s, tb_b, ti_i, Br_t, Br_f, List.getElem?_cons_zero, List.getElem?_cons_succ, List.set_cons_zero, List.set_cons_succ, true_and, eq_self, Bool.not_true, Bool.not_false, Bool.false_eq_true, if_true, if_false, Nat.reduceLeDiff, ite_true, ite_false]); (repeat (refine Nx.mk ?_; try simp only [skip_, seqset_, seqdrop_, seqasg_, ret_, retN_, if_, drop_, set_, asg_, for_, raise0_, raise1_, var_, c_, c2_, test_, and_, or_, not_, andV_, orV_, notV_, nil_, cons_, tup0_, tup1_, tup2_, tup3_, tup4_, tup5_, lst0_, lst1_, lst2_, lst3_, lst4_, lst5_, lst6_, lst7_, lst8_, lst9_, lst10_, lstv1_, lstv2_, lstv3_, lstv4_, lstv5_, b_, m_, call1_, call2_, call3_, call4_, call5_, neg_, slice_, none_, some_, rev_, comp_, gtup_, gn_nil, gn_cons, wipe_n, wipe_c, iseq_, sq_t, sq_r, r1_, r2_, add_i, add_s, add_t, sub_i, mul_i, int_o, cmp_o, isn_, ix_t, ix_r, ix_s, len_t2, len_t3, len_t4, len_t5, len_r, int1_i, two_, tuple_t, tuple_r, list_t, list_r, str_i, sl_t, sl_r, rev_t, rev_r, lo_l, lo_r, isi_t_t, isi_i_t, isi_s_s, isi_i_i, isi_i_b, isi_b_b, at0, at1, at2, at3, eq_i, eq_s, ol_s, vr_s, tb_b, ti_i, Br_t, Br_f, List.getElem?_cons_zero, List.getElem?_cons_succ, List.set_cons_zero, List.set_cons_succ, true_and, eq_self, Bool.not_true, Bool.not_false, Bool.false_eq_true, if_true, if_false, Nat.reduceLeDiff, ite_true, ite_false]))
        exact hK2 _ _ ⟨_, rfl, rfl⟩
    · rintro _ _ ⟨o, rfl, rfl⟩
      exact hK _ _ rfl
  · rintro _ _ rfl
    (try simp only [skip_, seqset_, seqdrop_, seqasg_, ret_, retN_, if_, drop_, set_, asg_, for_, raise0_, raise1_, var_, c_, c2_, test_, and_, or_, not_, andV_, orV_, notV_, nil_, cons_, tup0_, tup1_, tup2_, tup3_, tup4_, tup5_, lst0_, lst1_, lst2_, lst3_, lst4_, lst5_, lst6_, lst7_, lst8_, lst9_, lst10_, lstv1_, lstv2_, lstv3_, lstv4_, lstv5_, b_, m_, call1_, call2_, call3_, call4_, call5_, neg_, slice_, none_, some_, rev_, comp_, gtup_, gn_nil, gn_cons, wipe_n, wipe_c, iseq_, sq_t, sq_r, r1_, r2_, add_i, add_s, add_t, sub_i, mul_i, int_o, cmp_o, isn_, ix_t, ix_r, ix_s, len_t2, len_t3, len_t4, len_t5, len_r, int1_i, two_, tuple_t, tuple_r, list_t, list_r, str_i, sl_t, sl_r, rev_t, rev_r, lo_l, lo_r, isi_t_t, isi_i_t, isi_s_s, isi_i_i, isi_i_b, isi_b_b, at0, at1, at2, at3, eq_i, eq_s, ol_s, vr_s, tb_b, ti_i, Br_t, Br_f, List.getElem?_cons_zero, List.getElem?_cons_succ, List.set_cons_zero, List.set_cons_succ, true_and, eq_self, Bool.not_true, Bool.not_false, Bool.false_eq_true, if_true, if_false, Nat.reduceLeDiff, ite_true, ite_false]); (repeat (refine Nx.mk ?_; try simp only [skip_, seqset_, seqdrop_, seqasg_, ret_, retN_, if_, drop_, set_, asg_, for_, raise0_, raise1_, var_, c_, c2_, test_, and_, or_, not_, andV_, orV_, notV_, nil_, cons_, tup0_, tup1_, tup2_, tup3_, tup4_, tup5_, lst0_, lst1_, lst2_, lst3_, lst4_, lst5_, lst6_, lst7_, lst8_, lst9_, lst10_, lstv1_, lstv2_, lstv3_, lstv4_, lstv5_, b_, m_, call1_, call2_, call3_, call4_, call5_, neg_, slice_, none_, some_, rev_, comp_, gtup_, gn_nil, gn_cons, wipe_n, wipe_c, iseq_, sq_t, sq_r, r1_, r2_, add_i, add_s, add_t, sub_i, mul_i, int_o, cmp_o, isn_, ix_t, ix_r, ix_s, len_t2, len_t3, len_t4, len_t5, len_r, int1_i, two_, tuple_t, tuple_r, list_t, list_r, str_i, sl_t, sl_r, rev_t, rev_r, lo_l, lo_r, isi_t_t, isi_i_t, isi_s_s, isi_i_i, isi_i_b, isi_b_b, at0, at1, at2, at3, eq_i, eq_s, ol_s, vr_s, tb_b, ti_i, Br_t, Br_f, List.getElem?_cons_zero, List.getElem?_cons_succ, List.set_cons_zero, List.set_cons_succ, true_and, eq_self, Bool.not_true, Bool.not_false, Bool.false_eq_true, if_true, if_false, Nat.reduceLeDiff, ite_true, ite_false]))
    exact hQ
theorem are_visits_sp (r : Rn) (hQ : Q (.bl true) M) : cf_l_are_visits K g [.tup r.vis] M Q E := by
  show R_l_are_visits K g ⟨_, _, _⟩ [some (.tup r.vis), none] M
  unfold R_l_are_visits
  (try refine Nx.mk ?_); rw [seq_]
  (try simp only [skip_, seqset_, seqdrop_, seqasg_, ret_, retN_, if_, drop_, set_, asg_, for_, raise0_, raise1_, var_, c_, c2_, test_, and_, or_, not_, andV_, orV_, notV_, nil_, cons_, tup0_, tup1_, tup2_, tup3_, tup4_, tup5_, lst0_, lst1_, lst2_, lst3_, lst4_, lst5_, lst6_, lst7_, lst8_, lst9_, lst10_, lstv1_, lstv2_, lstv3_, lstv4_, lstv5_, b_, m_, call1_, call2_, call3_, call4_, call5_, neg_, slice_, none_, some_, rev_, comp_, gtup_, gn_nil, gn_cons, wipe_n, wipe_c, iseq_, sq_t, sq_r, r1_, r2_, add_i, add_s, add_t, sub_i, mul_i, int_o, cmp_o, isn_, ix_t, ix_r, ix_s, len_t2, len_t3, len_t4, len_t5, len_r, int1_i, two_, tuple_t, tuple_r, list_t, list_r, str_i, sl_t, sl_r, rev_t, rev_r, lo_l, lo_r, isi_t_t, isi_i_t, isi_s_s, isi_i_i, isi_i_b, isi_b_b, at0, at1, at2, at3, eq_i, eq_s, ol_s, vr_s, tb_b, ti_i, Br_t, Br_f, List.getElem?_cons_zero, List.getElem?_cons_succ, List.set_cons_zero, List.set_cons_succ, true_and, eq_self, Bool.not_true, Bool.not_false, Bool.false_eq_true, if_true, if_false, Nat.reduceLeDiff, ite_true, ite_false]); (repeat (refine Nx.mk ?_; try simp only [skip_, seqset_, seqdrop_, seqasg_, ret_, retN_, if_, drop_, set_, asg_, for_, raise0_, raise1_, var_, c_, c2_, test_, and_, or_, not_, andV_, orV_, notV_, nil_, cons_, tup0_, tup1_, tup2_, tup3_, tup4_, tup5_, lst0_, lst1_, lst2_, lst3_, lst4_, lst5_, lst6_, lst7_, lst8_, lst9_, lst10_, lstv1_, lstv2_, lstv3_, lstv4_, lstv5_, b_, m_, call1_, call2_, call3_, call4_, call5_, neg_, slice_, none_, some_, rev_, comp_, gtup_, gn_nil, gn_cons, wipe_n, wipe_c, iseq_, sq_t, sq_r, r1_, r2_, add_i, add_s, add_t, sub_i, mul_i, int_o, cmp_o, isn_, ix_t, ix_r, ix_s, len_t2, len_t3, len_t4, len_t5, len_r, int1_i, two_, tuple_t, tuple_r, list_t, list_r, str_i, sl_t, sl_r, rev_t, rev_r, lo_l, lo_r, isi_t_t, isi_i_t, isi_s_s, isi_i_i, isi_i_b, isi_b_b, at0, at1, at2, at3, eq_i, eq_s, ol_s, vr_s, tb_b, ti_i, Br_t, Br_f, List.getElem?_cons_zero, List.getElem?_cons_succ, List.set_cons_zero, List.set_cons_succ, true_and, eq_self, Bool.not_true, Bool.not_false, Bool.false_eq_true, if_true, if_false, Nat.reduceLeDiff, ite_true, ite_false]))
  (try refine Nx.mk ?_); refine seq_m (fun _ M' => M = M') (fun Kn hK => ?_) ?_
  · (try simp only [skip_, seqset_, seqdrop_, seqasg_, ret_, retN_, if_, drop_, set_, asg_, for_, raise0_, raise1_, var_, c_, c2_, test_, and_, or_, not_, andV_, orV_, notV_, nil_, cons_, tup0_, tup1_, tup2_, tup3_, tup4_, tup5_, lst0_, lst1_, lst2_, lst3_, lst4_, lst5_, lst6_, lst7_, lst8_, lst9_, lst10_, lstv1_, lstv2_, lstv3_, lstv4_, lstv5_, b_, m_, call1_, call2_, call3_, call4_, call5_, neg_, slice_, none_, some_, rev_, comp_, gtup_, gn_nil, gn_cons, wipe_n, wipe_c, iseq_, sq_t, sq_r, r1_, r2_, add_i, add_s, add_t, sub_i, mul_i, int_o, cmp_o, isn_, ix_t, ix_r, ix_s, len_t2, len_t3, len_t4, len_t5, len_r, int1_i, two_, tuple_t, tuple_r, list_t, list_r, str_i, sl_t, sl_r, rev_t, rev_r, lo_l, lo_r, isi_t_t, isi_i_t, isi_s_s, isi_i_i, isi_i_b, isi_b_b, at0, at1, at2, at3, eq_i, eq_s, ol_s, vr_s, tb_b, ti_i, Br_t, Br_f, List.getElem?_cons_zero, List.getElem?_cons_succ, List.set_cons_zero, List.set_cons_succ, true_and, eq_self, Bool.not_true, Bool.not_false, Bool.false_eq_true, if_true, if_false, Nat.reduceLeDiff, ite_true, ite_false]); (repeat (refine Nx.mk ?_; try simp only [skip_, seqset_, seqdrop_, seqasg_, ret_, retN_, if_, drop_, set_, asg_, for_, raise0_, raise1_, var_, c_, c2_, test_, and_, or_, not_, andV_, orV_, notV_, nil_, cons_, tup0_, tup1_, tup2_, tup3_, tup4_, tup5_, lst0_, lst1_, lst2_, lst3_, lst4_, lst5_, lst6_, lst7_, lst8_, lst9_, lst10_, lstv1_, lstv2_, lstv3_, lstv4_, lstv5_, b_, m_, call1_, call2_, call3_, call4_, call5_, neg_, slice_, none_, some_, rev_, comp_, gtup_, gn_nil, gn_cons, wipe_n, wipe_c, iseq_, sq_t, sq_r, r1_, r2_, add_i, add_s, add_t, sub_i, mul_i, int_o, cmp_o, isn_, ix_t, ix_r, ix_s, len_t2, len_t3, len_t4, len_t5, len_r, int1_i, two_, tuple_t, tuple_r, list_t, list_r, str_i, sl_t, sl_r, rev_t, rev_r, lo_l, lo_r, isi_t_t, isi_i_t, isi_s_s, isi_i_i, isi_i_b, isi_b_b, at0, at1, at2, at3, eq_i, eq_s, ol_s, vr_s, tb_b, ti_i, Br_t, Br_f, List.getElem?_cons_zero, List.getElem?_cons_succ, List.set_cons_zero, List.set_cons_succ, true_and, eq_self, Bool.not_true, Bool.not_false, Bool.false_eq_true, if_true, if_false, Nat.reduceLeDiff, ite_true, ite_false]))
    refine for_0 (fun n ρ' M' => ∃ o, ρ' = [some (.tup r.vis), o] ∧ M = M') ⟨_, rfl, rfl⟩ (fun _ _ _ _ _ => trivial) ?_ ?_
    · rintro n d hd _ _ ⟨o, rfl, rfl⟩
      obtain ⟨x, y, rfl⟩ : ∃ (x : Str) (y : Int), d = .tup [.str x, .int y] := by
        unfold Rn.vis visL at hd
        rw [List.getElem?_map] at hd
        simp only [Option.map_eq_some_iff] at hd
        obtain ⟨i, _, rfl⟩ := hd
        exact ⟨_, _, rfl⟩
      refine ⟨_, rfl, fun Kn2 hK2 => ?_⟩
      (try refine Nx.mk ?_); rw [seq_]
      (try simp only [skip_, seqset_, seqdrop_, seqasg_, ret_, retN_, if_, drop_, set_, asg_, for_, raise0_, raise1_, var_, c_, c2_, test_, and_, or_, not_, andV_, orV_, notV_, nil_, cons_, tup0_, tup1_, tup2_, tup3_, tup4_, tup5_, lst0_, lst1_, lst2_, lst3_, lst4_, lst5_, lst6_, lst7_, lst8_, lst9_, lst10_, lstv1_, lstv2_, lstv3_, lstv4_, lstv5_, b_, m_, call1_, call2_, call3_, call4_, call5_, neg_, slice_, none_, some_, rev_, comp_, gtup_, gn_nil, gn_cons, wipe_n, wipe_c, iseq_, sq_t, sq_r, r1_, r2_, add_i, add_s, add_t, sub_i, mul_i, int_o, cmp_o, isn_, ix_t, ix_r, ix_s, len_t2, len_t3, len_t4, len_t5, len_r, int1_i, two_, tuple_t, tuple_r, list_t, list_r, str_i, sl_t, sl_r, rev_t, rev_r, lo_l, lo_r, isi_t_t, isi_i_t, isi_s_s, isi_i_i, isi_i_b, isi_b_b, at0, at1, at2, at3, eq_i, eq_s, ol_s, vr_s, tb_b, ti_i, Br_t, Br_f, List.getElem?_cons_zero, List.getElem?_cons_succ, List.set_cons_zero, List.set_cons_succ, true_and, eq_self, Bool.not_true, Bool.not_false, Bool.false_eq_true, if_true, if_false, Nat.reduceLeDiff, ite_true, ite_false, decide_true, if_true]); (repeat (refine Nx.mk ?_; try simp only [skip_, seqset_, seqdrop_, seqasg_, ret_, retN_, if_, drop_, set_, asg_, for_, raise0_, raise1_, var_, c_, c2_, test_, and_, or_, not_, andV_, orV_, notV_, nil_, cons_, tup0_, tup1_, tup2_, tup3_, tup4_, tup5_, lst0_, lst1_, lst2_, lst3_, lst4_, lst5_, lst6_, lst7_, lst8_, lst9_, lst10_, lstv1_, lstv2_, lstv3_, lstv4_, lstv5_, b_, m_, call1_, call2_, call3_, call4_, call5_, neg_, slice_, none_, some_, rev_, comp_, gtup_, gn_nil, gn_cons, wipe_n, wipe_c, iseq_, sq_t, sq_r, r1_, r2_, add_i, add_s, add_t, sub_i, mul_i, int_o, cmp_o, isn_, ix_t, ix_r, ix_s, len_t2, len_t3, len_t4, len_t5, len_r, int1_i, two_, tuple_t, tuple_r, list_t, list_r, str_i, sl_t, sl_r, rev_t, rev_r, lo_l, lo_r, isi_t_t, isi_i_t, isi_s_s, isi_i_i, isi_i_b, isi_b_b, at0, at1, at2, at3, eq_i, eq_s, ol_s, vr_s, tb_b, ti_i, Br_t, Br_f, List.getElem?_cons_zero, List.getElem?_cons_succ, List.set_cons_zero, List.set_cons_succ, true_and, eq_self, Bool.not_true, Bool.not_false, Bool.false_eq_true, if_true, if_false, Nat.reduceLeDiff, ite_true, ite_false, decide_true, if_true]))
      refine isnum_sp _ ?_
      (try simp only [skip_, seqset_, seqdrop_, seqasg_, ret_, retN_, if_, drop_, set_, asg_, for_, raise0_, raise1_, var_, c_, c2_, test_, and_, or_, not_, andV_, orV_, notV_, nil_, cons_, tup0_, tup1_, tup2_, tup3_, tup4_, tup5_, lst0_, lst1_, lst2_, lst3_, lst4_, lst5_, lst6_, lst7_, lst8_, lst9_, lst10_, lstv1_, lstv2_, lstv3_, lstv4_, lstv5_, b_, m_, call1_, call2_, call3_, call4_, call5_, neg_, slice_, none_, some_, rev_, comp_, gtup_, gn_nil, gn_cons, wipe_n, wipe_c, iseq_, sq_t, sq_r, r1_, r2_, add_i, add_s, add_t, sub_i, mul_i, int_o, cmp_o, isn_, ix_t, ix_r, ix_s, len_t2, len_t3, len_t4, len_t5, len_r, int1_i, two_, tuple_t, tuple_r, list_t, list_r, str_i, sl_t, sl_r, rev_t, rev_r, lo_l, lo_r, isi_t_t, isi_i_t, isi_s_s, isi_i_i, isi_i_b, isi_b_b, at0, at1, at2, at3, eq_i, eq_s, ol_s, vr_s, tb_b, ti_i, Br_t, Br_f, List.getElem?_cons_zero, List.getElem?_cons_succ, List.set_cons_zero, List.set_cons_succ, true_and, eq_self, Bool.not_true, Bool.not_false, Bool.false_eq_true, if_true, if_false, Nat.reduceLeDiff, ite_true, ite_false]); (repeat (refine Nx.mk ?_; try simp only [skip_, seqset_, seqdrop_, seqasg_, ret_, retN_, if_, drop_, set_, asg_, for_, raise0_, raise1_, var_, c_, c2_, test_, and_, or_, not_, andV_, orV_, notV_, nil_, cons_, tup0_, tup1_, tup2_, tup3_, tup4_, tup5_, lst0_, lst1_, lst2_, lst3_, lst4_, lst5_, lst6_, lst7_, lst8_, lst9_, lst10_, lstv1_, lstv2_, lstv3_, lstv4_, lstv5_, b_, m_, call1_, call2_, call3_, call4_, call5_, neg_, slice_, none_, some_, rev_, comp_, gtup_, gn_nil, gn_cons, wipe_n, wipe_c, iseq_, sq_t, sq_r, r1_, r2_, add_i, add_s, add_t, sub_i, mul_i, int_o, cmp_o, isn_, ix_t, ix_r, ix_s, len_t2, len_t3, len_t4, len_t5, len_r, int1_i, two_, tuple_t, tuple_r, list_t, list_r, str_i, sl_t, sl_r, rev_t, rev_r, lo_l, lo_r, isi_t_t, isi_i_t, isi_s_s, isi_i_i, isi_i_b, isi_b_b, at0, at1, at2, at3, eq_i, eq_s, ol_s, vr_s, tb_b, ti_i, Br_t, Br_f, List.getElem?_cons_zero, List.getElem?_cons_succ, List.set_cons_zero, List.set_cons_succ, true_and, eq_self, Bool.not_true, Bool.not_false, Bool.false_eq_true, if_true, if_false, Nat.reduceLeDiff, ite_true, ite_false]))
      exact hK2 _ _ ⟨_, rfl, rfl⟩
    · rintro _ _ ⟨o, rfl, rfl⟩
      exact hK _ _ rfl
  · rintro _ _ rfl
    (try simp only [skip_, seqset_, seqdrop_, seqasg_, ret_, retN_, if_, drop_, set_, asg_, for_, raise0_, raise1_, var_, c_, c2_, test_, and_, or_, not_, andV_, orV_, notV_, nil_, cons_, tup0_, tup1_, tup2_, tup3_, tup4_, tup5_, lst0_, lst1_, lst2_, lst3_, lst4_, lst5_, lst6_, lst7_, lst8_, lst9_, lst10_, lstv1_, lstv2_, lstv3_, lstv4_, lstv5_, b_, m_, call1_, call2_, call3_, call4_, call5_, neg_, slice_, none_, some_, rev_, comp_, gtup_, gn_nil, gn_cons, wipe_n, wipe_c, iseq_, sq_t, sq_r, r1_, r2_, add_i, add_s, add_t, sub_i, mul_i, int_o, cmp_o, isn_, ix_t, ix_r, ix_s, len_t2, len_t3, len_t4, len_t5, len_r, int1_i, two_, tuple_t, tuple_r, list_t, list_r, str_i, sl_t, sl_r, rev_t, rev_r, lo_l, lo_r, isi_t_t, isi_i_t, isi_s_s, isi_i_i, isi_i_b, isi_b_b, at0, at1, at2, at3, eq_i, eq_s, ol_s, vr_s, tb_b, ti_i, Br_t, Br_f, List.getElem?_cons_zero, List.getElem?_cons_succ, List.set_cons_zero, List.set_cons_succ, true_and, eq_self, Bool.not_true, Bool.not_false, Bool.false_eq_true, if_true, if_false, Nat.reduceLeDiff, ite_true, ite_false]); (repeat (refine Nx.mk ?_; try simp only [skip_, seqset_, seqdrop_, seqasg_, ret_, retN_, if_, drop_, set_, asg_, for_, raise0_, raise1_, var_, c_, c2_, test_, and_, or_, not_, andV_, orV_, notV_, nil_, cons_, tup0_, tup1_, tup2_, tup3_, tup4_, tup5_, lst0_, lst1_, lst2_, lst3_, lst4_, lst5_, lst6_, lst7_, lst8_, lst9_, lst10_, lstv1_, lstv2_, lstv3_, lstv4_, lstv5_, b_, m_, call1_, call2_, call3_, call4_, call5_, neg_, slice_, none_, some_, rev_, comp_, gtup_, gn_nil, gn_cons, wipe_n, wipe_c, iseq_, sq_t, sq_r, r1_, r2_, add_i, add_s, add_t, sub_i, mul_i, int_o, cmp_o, isn_, ix_t, ix_r, ix_s, len_t2, len_t3, len_t4, len_t5, len_r, int1_i, two_, tuple_t, tuple_r, list_t, list_r, str_i, sl_t, sl_r, rev_t, rev_r, lo_l, lo_r, isi_t_t, isi_i_t, isi_s_s, isi_i_i, isi_i_b, isi_b_b, at0, at1, at2, at3, eq_i, eq_s, ol_s, vr_s, tb_b, ti_i, Br_t, Br_f, List.getElem?_cons_zero, List.getElem?_cons_succ, List.set_cons_zero, List.set_cons_succ, true_and, eq_self, Bool.not_true, Bool.not_false, Bool.false_eq_true, if_true, if_false, Nat.reduceLeDiff, ite_true, ite_false]))
    exact hQ
end
end K61

namespace CP
open PySem PySem.Spec PyProof.Rows L2 CL
theorem xcl_hit {K : PySem.W.Frag} {Dc : CEnds} {c C0 : Addr} {o : Option Nat} {ts : Addr → Addr → Option Addr → CS} {r : List ClauC} {dx : Option Addr} {ρ : CL.Env} {M : Mm} (h : PySem.W.exmOne K (.ref C0) (.ref c) = some true)
    (hs : ∀ a, M a = none → ts a C0 dx ⟨fun ρ' M' => Dc.nx (freedC o ρ') M', Dc.rt, fun _ _ _ _ => False⟩ (heldC o a ρ) M) : xCl K Dc ((c, o, ts) :: r) C0 dx ρ M := ⟨true, h, fun _ => hs, fun z => Bool.noConfusion z⟩
theorem xcl_miss {K : PySem.W.Frag} {Dc : CEnds} {c C0 : Addr} {o : Option Nat} {ts : Addr → Addr → Option Addr → CS} {r : List ClauC} {dx : Option Addr} {ρ : CL.Env} {M : Mm} (h : PySem.W.exmOne K (.ref C0) (.ref c) = some false)
    (hs : xCl K Dc r C0 dx ρ M) : xCl K Dc ((c, o, ts) :: r) C0 dx ρ M := ⟨false, h, fun z => Bool.noConfusion z, fun _ => hs⟩
theorem iss_ {K : PySem.W.Frag} {C a : Addr} {dx : Option Addr} {c : D} {cv : Value} {k : Bool} {M : Mm} {Q : CK} (xi : XiC K C) (hx : hasX dx M) (hc : clsD c = some cv) (kk : PySem.W.kitOne K (.ref C) cv = some k) (q : Q (.bl k) M) : oIsS K C a dx [.ref a, c] M Q := Or.inr ⟨rfl, xi, hx, cv, k, hc, kk, q⟩
theorem xf_ {a C dd : Addr} {f : Str} {i : Nat} {ρ : CL.Env} {M : Mm} {Q : CK} {E : CL.CX} {fs : List (Str × D)} {y : D} (h : ρ[i]? = some (some (.ref a))) (hd : M dd = some (.xd fs)) (hf : fs.lookup f = some y) (q : Q y M) : cXf a C (some dd) C f (cVar i) ρ M Q E := by
  unfold cXf cVar
  rw [h]
  exact ⟨rfl, rfl, by simp only [hd, hf]; exact q⟩
end CP
namespace K61
open PySem PySem.Spec PyProof.Rows L2 CL CP
section
variable {K : PySem.W.Frag} {g : Cs} {M : Mm} {Q : CK} {E : CL.CX}
def lates (rs : List Rn) (xs : List Int) : List Rn := (rs.zip xs).map fun p => p.1.add p.2
theorem lates_at {rs : List Rn} {xs : List Int} {n : Nat} {r : Rn} {x : Int} (h : rs[n]? = some r) (h' : xs[n]? = some x) : (lates rs xs)[n]? = some (r.add x) := by
  unfold lates
  rw [List.getElem?_map, show (rs.zip xs)[n]? = some (r, x) from List.getElem?_zip_eq_some.mpr ⟨h, h'⟩]
  rfl
theorem lates_of {rs : List Rn} {xs : List Int} {n : Nat} {y : Rn} (h : (lates rs xs)[n]? = some y) : ∃ r x, rs[n]? = some r ∧ xs[n]? = some x ∧ y = r.add x := by
  unfold lates at h
  rw [List.getElem?_map] at h
  cases q : (rs.zip xs)[n]? with
  | none => rw [q] at h; cases h
  | some p =>
    rw [q] at h; cases h
    have z := List.getElem?_zip_eq_some.mp (show (rs.zip xs)[n]? = some (p.1, p.2) from q)
    exact ⟨p.1, p.2, z.1, z.2, rfl⟩
theorem lates_len {rs : List Rn} {xs : List Int} (h : xs.length = rs.length) : (lates rs xs).length = rs.length := by simp [lates, h]
theorem late_bad {city : D} {rs : List Rn} {xs : List Int} (h : xs.length ≠ rs.length) (hE : E g.BadSplit none M) : cf_late_runs K g [city, .tup (rs.map Rn.d), .tup (xs.map .int)] M Q E := by
  unfold cf_late_runs cfOf
  rw [show startD 10 [city, .tup (rs.map Rn.d), .tup (xs.map .int)] = [some city, some (.tup (rs.map Rn.d)), some (.tup (xs.map .int)), none, none, none, none, none, none, none] from rfl]
  unfold R_late_runs
  (try refine Nx.mk ?_); rw [seq_]
  (try simp only [skip_, seqset_, seqdrop_, seqasg_, ret_, retN_, if_, drop_, set_, asg_, for_, raise0_, raise1_, var_, c_, c2_, test_, and_, or_, not_, andV_, orV_, notV_, nil_, cons_, tup0_, tup1_, tup2_, tup3_, tup4_, tup5_, lst0_, lst1_, lst2_, lst3_, lst4_, lst5_, lst6_, lst7_, lst8_, lst9_, lst10_, lstv1_, lstv2_, lstv3_, lstv4_, lstv5_, b_, m_, call1_, call2_, call3_, call4_, call5_, neg_, slice_, none_, some_, rev_, comp_, gtup_, gn_nil, gn_cons, wipe_n, wipe_c, iseq_, sq_t, sq_r, r1_, r2_, add_i, add_s, add_t, sub_i, mul_i, int_o, cmp_o, isn_, ix_t, ix_r, ix_s, len_t2, len_t3, len_t4, len_t5, len_r, int1_i, two_, tuple_t, tuple_r, list_t, list_r, str_i, sl_t, sl_r, rev_t, rev_r, lo_l, lo_r, isi_t_t, isi_i_t, isi_s_s, isi_i_i, isi_i_b, isi_b_b, at0, at1, at2, at3, eq_i, eq_s, ol_s, vr_s, tb_b, ti_i, Br_t, Br_f, List.getElem?_cons_zero, List.getElem?_cons_succ, List.set_cons_zero, List.set_cons_succ, true_and, eq_self, Bool.not_true, Bool.not_false, Bool.false_eq_true, if_true, if_false, Nat.reduceLeDiff, ite_true, ite_false, len_t]); (repeat (refine Nx.mk ?_; try simp only [skip_, seqset_, seqdrop_, seqasg_, ret_, retN_, if_, drop_, set_, asg_, for_, raise0_, raise1_, var_, c_, c2_, test_, and_, or_, not_, andV_, orV_, notV_, nil_, cons_, tup0_, tup1_, tup2_, tup3_, tup4_, tup5_, lst0_, lst1_, lst2_, lst3_, lst4_, lst5_, lst6_, lst7_, lst8_, lst9_, lst10_, lstv1_, lstv2_, lstv3_, lstv4_, lstv5_, b_, m_, call1_, call2_, call3_, call4_, call5_, neg_, slice_, none_, some_, rev_, comp_, gtup_, gn_nil, gn_cons, wipe_n, wipe_c, iseq_, sq_t, sq_r, r1_, r2_, add_i, add_s, add_t, sub_i, mul_i, int_o, cmp_o, isn_, ix_t, ix_r, ix_s, len_t2, len_t3, len_t4, len_t5, len_r, int1_i, two_, tuple_t, tuple_r, list_t, list_r, str_i, sl_t, sl_r, rev_t, rev_r, lo_l, lo_r, isi_t_t, isi_i_t, isi_s_s, isi_i_i, isi_i_b, isi_b_b, at0, at1, at2, at3, eq_i, eq_s, ol_s, vr_s, tb_b, ti_i, Br_t, Br_f, List.getElem?_cons_zero, List.getElem?_cons_succ, List.set_cons_zero, List.set_cons_succ, true_and, eq_self, Bool.not_true, Bool.not_false, Bool.false_eq_true, if_true, if_false, Nat.reduceLeDiff, ite_true, ite_false, len_t]))
  refine Br_i (fun _ => ?_) (fun z => ?_)
  · (try simp only [skip_, seqset_, seqdrop_, seqasg_, ret_, retN_, if_, drop_, set_, asg_, for_, raise0_, raise1_, var_, c_, c2_, test_, and_, or_, not_, andV_, orV_, notV_, nil_, cons_, tup0_, tup1_, tup2_, tup3_, tup4_, tup5_, lst0_, lst1_, lst2_, lst3_, lst4_, lst5_, lst6_, lst7_, lst8_, lst9_, lst10_, lstv1_, lstv2_, lstv3_, lstv4_, lstv5_, b_, m_, call1_, call2_, call3_, call4_, call5_, neg_, slice_, none_, some_, rev_, comp_, gtup_, gn_nil, gn_cons, wipe_n, wipe_c, iseq_, sq_t, sq_r, r1_, r2_, add_i, add_s, add_t, sub_i, mul_i, int_o, cmp_o, isn_, ix_t, ix_r, ix_s, len_t2, len_t3, len_t4, len_t5, len_r, int1_i, two_, tuple_t, tuple_r, list_t, list_r, str_i, sl_t, sl_r, rev_t, rev_r, lo_l, lo_r, isi_t_t, isi_i_t, isi_s_s, isi_i_i, isi_i_b, isi_b_b, at0, at1, at2, at3, eq_i, eq_s, ol_s, vr_s, tb_b, ti_i, Br_t, Br_f, List.getElem?_cons_zero, List.getElem?_cons_succ, List.set_cons_zero, List.set_cons_succ, true_and, eq_self, Bool.not_true, Bool.not_false, Bool.false_eq_true, if_true, if_false, Nat.reduceLeDiff, ite_true, ite_false]); (repeat (refine Nx.mk ?_; try simp only [skip_, seqset_, seqdrop_, seqasg_, ret_, retN_, if_, drop_, set_, asg_, for_, raise0_, raise1_, var_, c_, c2_, test_, and_, or_, not_, andV_, orV_, notV_, nil_, cons_, tup0_, tup1_, tup2_, tup3_, tup4_, tup5_, lst0_, lst1_, lst2_, lst3_, lst4_, lst5_, lst6_, lst7_, lst8_, lst9_, lst10_, lstv1_, lstv2_, lstv3_, lstv4_, lstv5_, b_, m_, call1_, call2_, call3_, call4_, call5_, neg_, slice_, none_, some_, rev_, comp_, gtup_, gn_nil, gn_cons, wipe_n, wipe_c, iseq_, sq_t, sq_r, r1_, r2_, add_i, add_s, add_t, sub_i, mul_i, int_o, cmp_o, isn_, ix_t, ix_r, ix_s, len_t2, len_t3, len_t4, len_t5, len_r, int1_i, two_, tuple_t, tuple_r, list_t, list_r, str_i, sl_t, sl_r, rev_t, rev_r, lo_l, lo_r, isi_t_t, isi_i_t, isi_s_s, isi_i_i, isi_i_b, isi_b_b, at0, at1, at2, at3, eq_i, eq_s, ol_s, vr_s, tb_b, ti_i, Br_t, Br_f, List.getElem?_cons_zero, List.getElem?_cons_succ, List.set_cons_zero, List.set_cons_succ, true_and, eq_self, Bool.not_true, Bool.not_false, Bool.false_eq_true, if_true, if_false, Nat.reduceLeDiff, ite_true, ite_false]))
    exact hE
  · exfalso
    simp at z
    exact h (by omega)
theorem late_sp {c0 : D} {cr : List D} {ls : List Lt} (U : Uq ls) {rs : List Rn} {xs : List Int} (hO : ∀ r ∈ rs, Ok ls r) (hl : xs.length = rs.length) (hm : rs.length ≤ 1000)
    (hQ : (∀ (n : Nat) (r : Rn), (lates rs xs)[n]? = some r → r.en ≤ 9999) → ∀ M', MX M M' → Q (.tup ((lates rs xs).map Rn.d)) M')
    (hE : (∃ (n : Nat) (r : Rn), (lates rs xs)[n]? = some r ∧ 9999 < r.en) → ∀ M' d, MX M M' → M' d = some (.xd [("limit", .int 9999)]) → E g.TooMany (some d) M') : cf_late_runs K g [.tup (c0 :: .tup (ls.map Lt.d) :: cr), .tup (rs.map Rn.d), .tup (xs.map .int)] M Q E := by
  unfold cf_late_runs cfOf
  generalize hcity : (D.tup (c0 :: .tup (ls.map Lt.d) :: cr)) = city
  rw [show startD 10 [city, .tup (rs.map Rn.d), .tup (xs.map .int)] = [some city, some (.tup (rs.map Rn.d)), some (.tup (xs.map .int)), none, none, none, none, none, none, none] from rfl]
  unfold R_late_runs
  (try refine Nx.mk ?_); rw [seq_]
  (try simp only [skip_, seqset_, seqdrop_, seqasg_, ret_, retN_, if_, drop_, set_, asg_, for_, raise0_, raise1_, var_, c_, c2_, test_, and_, or_, not_, andV_, orV_, notV_, nil_, cons_, tup0_, tup1_, tup2_, tup3_, tup4_, tup5_, lst0_, lst1_, lst2_, lst3_, lst4_, lst5_, lst6_, lst7_, lst8_, lst9_, lst10_, lstv1_, lstv2_, lstv3_, lstv4_, lstv5_, b_, m_, call1_, call2_, call3_, call4_, call5_, neg_, slice_, none_, some_, rev_, comp_, gtup_, gn_nil, gn_cons, wipe_n, wipe_c, iseq_, sq_t, sq_r, r1_, r2_, add_i, add_s, add_t, sub_i, mul_i, int_o, cmp_o, isn_, ix_t, ix_r, ix_s, len_t2, len_t3, len_t4, len_t5, len_r, int1_i, two_, tuple_t, tuple_r, list_t, list_r, str_i, sl_t, sl_r, rev_t, rev_r, lo_l, lo_r, isi_t_t, isi_i_t, isi_s_s, isi_i_i, isi_i_b, isi_b_b, at0, at1, at2, at3, eq_i, eq_s, ol_s, vr_s, tb_b, ti_i, Br_t, Br_f, List.getElem?_cons_zero, List.getElem?_cons_succ, List.set_cons_zero, List.set_cons_succ, true_and, eq_self, Bool.not_true, Bool.not_false, Bool.false_eq_true, if_true, if_false, Nat.reduceLeDiff, ite_true, ite_false, len_t]); (repeat (refine Nx.mk ?_; try simp only [skip_, seqset_, seqdrop_, seqasg_, ret_, retN_, if_, drop_, set_, asg_, for_, raise0_, raise1_, var_, c_, c2_, test_, and_, or_, not_, andV_, orV_, notV_, nil_, cons_, tup0_, tup1_, tup2_, tup3_, tup4_, tup5_, lst0_, lst1_, lst2_, lst3_, lst4_, lst5_, lst6_, lst7_, lst8_, lst9_, lst10_, lstv1_, lstv2_, lstv3_, lstv4_, lstv5_, b_, m_, call1_, call2_, call3_, call4_, call5_, neg_, slice_, none_, some_, rev_, comp_, gtup_, gn_nil, gn_cons, wipe_n, wipe_c, iseq_, sq_t, sq_r, r1_, r2_, add_i, add_s, add_t, sub_i, mul_i, int_o, cmp_o, isn_, ix_t, ix_r, ix_s, len_t2, len_t3, len_t4, len_t5, len_r, int1_i, two_, tuple_t, tuple_r, list_t, list_r, str_i, sl_t, sl_r, rev_t, rev_r, lo_l, lo_r, isi_t_t, isi_i_t, isi_s_s, isi_i_i, isi_i_b, isi_b_b, at0, at1, at2, at3, eq_i, eq_s, ol_s, vr_s, tb_b, ti_i, Br_t, Br_f, List.getElem?_cons_zero, List.getElem?_cons_succ, List.set_cons_zero, List.set_cons_succ, true_and, eq_self, Bool.not_true, Bool.not_false, Bool.false_eq_true, if_true, if_false, Nat.reduceLeDiff, ite_true, ite_false, len_t]))
  refine Br_i (fun z => by exfalso; simp at z; exact z (by omega)) (fun _ => ?_)
  (try simp only [skip_, seqset_, seqdrop_, seqasg_, ret_, retN_, if_, drop_, set_, asg_, for_, raise0_, raise1_, var_, c_, c2_, test_, and_, or_, not_, andV_, orV_, notV_, nil_, cons_, tup0_, tup1_, tup2_, tup3_, tup4_, tup5_, lst0_, lst1_, lst2_, lst3_, lst4_, lst5_, lst6_, lst7_, lst8_, lst9_, lst10_, lstv1_, lstv2_, lstv3_, lstv4_, lstv5_, b_, m_, call1_, call2_, call3_, call4_, call5_, neg_, slice_, none_, some_, rev_, comp_, gtup_, gn_nil, gn_cons, wipe_n, wipe_c, iseq_, sq_t, sq_r, r1_, r2_, add_i, add_s, add_t, sub_i, mul_i, int_o, cmp_o, isn_, ix_t, ix_r, ix_s, len_t2, len_t3, len_t4, len_t5, len_r, int1_i, two_, tuple_t, tuple_r, list_t, list_r, str_i, sl_t, sl_r, rev_t, rev_r, lo_l, lo_r, isi_t_t, isi_i_t, isi_s_s, isi_i_i, isi_i_b, isi_b_b, at0, at1, at2, at3, eq_i, eq_s, ol_s, vr_s, tb_b, ti_i, Br_t, Br_f, List.getElem?_cons_zero, List.getElem?_cons_succ, List.set_cons_zero, List.set_cons_succ, true_and, eq_self, Bool.not_true, Bool.not_false, Bool.false_eq_true, if_true, if_false, Nat.reduceLeDiff, ite_true, ite_false]); (repeat (refine Nx.mk ?_; try simp only [skip_, seqset_, seqdrop_, seqasg_, ret_, retN_, if_, drop_, set_, asg_, for_, raise0_, raise1_, var_, c_, c2_, test_, and_, or_, not_, andV_, orV_, notV_, nil_, cons_, tup0_, tup1_, tup2_, tup3_, tup4_, tup5_, lst0_, lst1_, lst2_, lst3_, lst4_, lst5_, lst6_, lst7_, lst8_, lst9_, lst10_, lstv1_, lstv2_, lstv3_, lstv4_, lstv5_, b_, m_, call1_, call2_, call3_, call4_, call5_, neg_, slice_, none_, some_, rev_, comp_, gtup_, gn_nil, gn_cons, wipe_n, wipe_c, iseq_, sq_t, sq_r, r1_, r2_, add_i, add_s, add_t, sub_i, mul_i, int_o, cmp_o, isn_, ix_t, ix_r, ix_s, len_t2, len_t3, len_t4, len_t5, len_r, int1_i, two_, tuple_t, tuple_r, list_t, list_r, str_i, sl_t, sl_r, rev_t, rev_r, lo_l, lo_r, isi_t_t, isi_i_t, isi_s_s, isi_i_i, isi_i_b, isi_b_b, at0, at1, at2, at3, eq_i, eq_s, ol_s, vr_s, tb_b, ti_i, Br_t, Br_f, List.getElem?_cons_zero, List.getElem?_cons_succ, List.set_cons_zero, List.set_cons_succ, true_and, eq_self, Bool.not_true, Bool.not_false, Bool.false_eq_true, if_true, if_false, Nat.reduceLeDiff, ite_true, ite_false]))
  refine newL_i fun p M1 hp x1 e1 => ?_
  (try refine Nx.mk ?_); refine seq_m (fun ρ' M' => ∃ o4 o6 o7 o8 o9, ρ' = [some city, some (.tup (rs.map Rn.d)), some (.tup (xs.map .int)), some (.ref p), o4, none, o6, o7, o8, o9] ∧ MX M M' ∧ M' p = some (.lst ((lates rs xs).map Rn.d))) (fun Kn hK => ?_) ?_
  · (try simp only [skip_, seqset_, seqdrop_, seqasg_, ret_, retN_, if_, drop_, set_, asg_, for_, raise0_, raise1_, var_, c_, c2_, test_, and_, or_, not_, andV_, orV_, notV_, nil_, cons_, tup0_, tup1_, tup2_, tup3_, tup4_, tup5_, lst0_, lst1_, lst2_, lst3_, lst4_, lst5_, lst6_, lst7_, lst8_, lst9_, lst10_, lstv1_, lstv2_, lstv3_, lstv4_, lstv5_, b_, m_, call1_, call2_, call3_, call4_, call5_, neg_, slice_, none_, some_, rev_, comp_, gtup_, gn_nil, gn_cons, wipe_n, wipe_c, iseq_, sq_t, sq_r, r1_, r2_, add_i, add_s, add_t, sub_i, mul_i, int_o, cmp_o, isn_, ix_t, ix_r, ix_s, len_t2, len_t3, len_t4, len_t5, len_r, int1_i, two_, tuple_t, tuple_r, list_t, list_r, str_i, sl_t, sl_r, rev_t, rev_r, lo_l, lo_r, isi_t_t, isi_i_t, isi_s_s, isi_i_i, isi_i_b, isi_b_b, at0, at1, at2, at3, eq_i, eq_s, ol_s, vr_s, tb_b, ti_i, Br_t, Br_f, List.getElem?_cons_zero, List.getElem?_cons_succ, List.set_cons_zero, List.set_cons_succ, true_and, eq_self, Bool.not_true, Bool.not_false, Bool.false_eq_true, if_true, if_false, Nat.reduceLeDiff, ite_true, ite_false, len_t]); (repeat (refine Nx.mk ?_; try simp only [skip_, seqset_, seqdrop_, seqasg_, ret_, retN_, if_, drop_, set_, asg_, for_, raise0_, raise1_, var_, c_, c2_, test_, and_, or_, not_, andV_, orV_, notV_, nil_, cons_, tup0_, tup1_, tup2_, tup3_, tup4_, tup5_, lst0_, lst1_, lst2_, lst3_, lst4_, lst5_, lst6_, lst7_, lst8_, lst9_, lst10_, lstv1_, lstv2_, lstv3_, lstv4_, lstv5_, b_, m_, call1_, call2_, call3_, call4_, call5_, neg_, slice_, none_, some_, rev_, comp_, gtup_, gn_nil, gn_cons, wipe_n, wipe_c, iseq_, sq_t, sq_r, r1_, r2_, add_i, add_s, add_t, sub_i, mul_i, int_o, cmp_o, isn_, ix_t, ix_r, ix_s, len_t2, len_t3, len_t4, len_t5, len_r, int1_i, two_, tuple_t, tuple_r, list_t, list_r, str_i, sl_t, sl_r, rev_t, rev_r, lo_l, lo_r, isi_t_t, isi_i_t, isi_s_s, isi_i_i, isi_i_b, isi_b_b, at0, at1, at2, at3, eq_i, eq_s, ol_s, vr_s, tb_b, ti_i, Br_t, Br_f, List.getElem?_cons_zero, List.getElem?_cons_succ, List.set_cons_zero, List.set_cons_succ, true_and, eq_self, Bool.not_true, Bool.not_false, Bool.false_eq_true, if_true, if_false, Nat.reduceLeDiff, ite_true, ite_false, len_t]))
    rw [List.length_map]
    refine ⟨by omega, for_0 (fun n ρ' M' => ∃ o4 o6 o7 o8 o9, ρ' = [some city, some (.tup (rs.map Rn.d)), some (.tup (xs.map .int)), some (.ref p), o4, none, o6, o7, o8, o9] ∧ MX M M' ∧ M' p = some (.lst (((lates rs xs).take n).map Rn.d))) ⟨_, _, _, _, _, rfl, x1, e1⟩ (fun _ _ _ _ _ => trivial) ?_ ?_⟩
    · rintro n d hd _ M' ⟨o4, o6, o7, o8, o9, rfl, x, e⟩
      obtain ⟨hn, rfl⟩ := rng_at hd
      have hn : n < rs.length := by simpa using hn
      refine ⟨_, rfl, fun Kn2 hK2 => ?_⟩
      have h1 : rs[n]? = some rs[n] := List.getElem?_eq_getElem hn
      have h2 : xs[n]? = some (xs[n]'(by omega)) := List.getElem?_eq_getElem (by omega)
      have h3 := lates_at h1 h2
      have hz : (lates rs xs).length = rs.length := lates_len hl
      (try simp only [skip_, seqset_, seqdrop_, seqasg_, ret_, retN_, if_, drop_, set_, asg_, for_, raise0_, raise1_, var_, c_, c2_, test_, and_, or_, not_, andV_, orV_, notV_, nil_, cons_, tup0_, tup1_, tup2_, tup3_, tup4_, tup5_, lst0_, lst1_, lst2_, lst3_, lst4_, lst5_, lst6_, lst7_, lst8_, lst9_, lst10_, lstv1_, lstv2_, lstv3_, lstv4_, lstv5_, b_, m_, call1_, call2_, call3_, call4_, call5_, neg_, slice_, none_, some_, rev_, comp_, gtup_, gn_nil, gn_cons, wipe_n, wipe_c, iseq_, sq_t, sq_r, r1_, r2_, add_i, add_s, add_t, sub_i, mul_i, int_o, cmp_o, isn_, ix_t, ix_r, ix_s, len_t2, len_t3, len_t4, len_t5, len_r, int1_i, two_, tuple_t, tuple_r, list_t, list_r, str_i, sl_t, sl_r, rev_t, rev_r, lo_l, lo_r, isi_t_t, isi_i_t, isi_s_s, isi_i_i, isi_i_b, isi_b_b, at0, at1, at2, at3, eq_i, eq_s, ol_s, vr_s, tb_b, ti_i, Br_t, Br_f, List.getElem?_cons_zero, List.getElem?_cons_succ, List.set_cons_zero, List.set_cons_succ, true_and, eq_self, Bool.not_true, Bool.not_false, Bool.false_eq_true, if_true, if_false, Nat.reduceLeDiff, ite_true, ite_false, atI_of (xs := rs.map Rn.d) (i := 0 + (n : Int)) (n := n) (x := rs[n].d) (by omega) (by rw [List.getElem?_map, h1]; rfl), Rn.d_eq rs[n]]); (repeat (refine Nx.mk ?_; try simp only [skip_, seqset_, seqdrop_, seqasg_, ret_, retN_, if_, drop_, set_, asg_, for_, raise0_, raise1_, var_, c_, c2_, test_, and_, or_, not_, andV_, orV_, notV_, nil_, cons_, tup0_, tup1_, tup2_, tup3_, tup4_, tup5_, lst0_, lst1_, lst2_, lst3_, lst4_, lst5_, lst6_, lst7_, lst8_, lst9_, lst10_, lstv1_, lstv2_, lstv3_, lstv4_, lstv5_, b_, m_, call1_, call2_, call3_, call4_, call5_, neg_, slice_, none_, some_, rev_, comp_, gtup_, gn_nil, gn_cons, wipe_n, wipe_c, iseq_, sq_t, sq_r, r1_, r2_, add_i, add_s, add_t, sub_i, mul_i, int_o, cmp_o, isn_, ix_t, ix_r, ix_s, len_t2, len_t3, len_t4, len_t5, len_r, int1_i, two_, tuple_t, tuple_r, list_t, list_r, str_i, sl_t, sl_r, rev_t, rev_r, lo_l, lo_r, isi_t_t, isi_i_t, isi_s_s, isi_i_i, isi_i_b, isi_b_b, at0, at1, at2, at3, eq_i, eq_s, ol_s, vr_s, tb_b, ti_i, Br_t, Br_f, List.getElem?_cons_zero, List.getElem?_cons_succ, List.set_cons_zero, List.set_cons_succ, true_and, eq_self, Bool.not_true, Bool.not_false, Bool.false_eq_true, if_true, if_false, Nat.reduceLeDiff, ite_true, ite_false, atI_of (xs := rs.map Rn.d) (i := 0 + (n : Int)) (n := n) (x := rs[n].d) (by omega) (by rw [List.getElem?_map, h1]; rfl), Rn.d_eq rs[n]]))
      (try simp only [skip_, seqset_, seqdrop_, seqasg_, ret_, retN_, if_, drop_, set_, asg_, for_, raise0_, raise1_, var_, c_, c2_, test_, and_, or_, not_, andV_, orV_, notV_, nil_, cons_, tup0_, tup1_, tup2_, tup3_, tup4_, tup5_, lst0_, lst1_, lst2_, lst3_, lst4_, lst5_, lst6_, lst7_, lst8_, lst9_, lst10_, lstv1_, lstv2_, lstv3_, lstv4_, lstv5_, b_, m_, call1_, call2_, call3_, call4_, call5_, neg_, slice_, none_, some_, rev_, comp_, gtup_, gn_nil, gn_cons, wipe_n, wipe_c, iseq_, sq_t, sq_r, r1_, r2_, add_i, add_s, add_t, sub_i, mul_i, int_o, cmp_o, isn_, ix_t, ix_r, ix_s, len_t2, len_t3, len_t4, len_t5, len_r, int1_i, two_, tuple_t, tuple_r, list_t, list_r, str_i, sl_t, sl_r, rev_t, rev_r, lo_l, lo_r, isi_t_t, isi_i_t, isi_s_s, isi_i_i, isi_i_b, isi_b_b, at0, at1, at2, at3, eq_i, eq_s, ol_s, vr_s, tb_b, ti_i, Br_t, Br_f, List.getElem?_cons_zero, List.getElem?_cons_succ, List.set_cons_zero, List.set_cons_succ, true_and, eq_self, Bool.not_true, Bool.not_false, Bool.false_eq_true, if_true, if_false, Nat.reduceLeDiff, ite_true, ite_false, atI_of (xs := xs.map D.int) (i := 0 + (n : Int)) (n := n) (x := .int (xs[n]'(by omega))) (by omega) (by rw [List.getElem?_map, h2]; rfl), ty_l e, app_ _ e]); (repeat (refine Nx.mk ?_; try simp only [skip_, seqset_, seqdrop_, seqasg_, ret_, retN_, if_, drop_, set_, asg_, for_, raise0_, raise1_, var_, c_, c2_, test_, and_, or_, not_, andV_, orV_, notV_, nil_, cons_, tup0_, tup1_, tup2_, tup3_, tup4_, tup5_, lst0_, lst1_, lst2_, lst3_, lst4_, lst5_, lst6_, lst7_, lst8_, lst9_, lst10_, lstv1_, lstv2_, lstv3_, lstv4_, lstv5_, b_, m_, call1_, call2_, call3_, call4_, call5_, neg_, slice_, none_, some_, rev_, comp_, gtup_, gn_nil, gn_cons, wipe_n, wipe_c, iseq_, sq_t, sq_r, r1_, r2_, add_i, add_s, add_t, sub_i, mul_i, int_o, cmp_o, isn_, ix_t, ix_r, ix_s, len_t2, len_t3, len_t4, len_t5, len_r, int1_i, two_, tuple_t, tuple_r, list_t, list_r, str_i, sl_t, sl_r, rev_t, rev_r, lo_l, lo_r, isi_t_t, isi_i_t, isi_s_s, isi_i_i, isi_i_b, isi_b_b, at0, at1, at2, at3, eq_i, eq_s, ol_s, vr_s, tb_b, ti_i, Br_t, Br_f, List.getElem?_cons_zero, List.getElem?_cons_succ, List.set_cons_zero, List.set_cons_succ, true_and, eq_self, Bool.not_true, Bool.not_false, Bool.false_eq_true, if_true, if_false, Nat.reduceLeDiff, ite_true, ite_false, atI_of (xs := xs.map D.int) (i := 0 + (n : Int)) (n := n) (x := .int (xs[n]'(by omega))) (by omega) (by rw [List.getElem?_map, h2]; rfl), ty_l e, app_ _ e]))
      refine ⟨size_le (by simp; omega), hK2 _ _ ⟨_, _, _, _, _, rfl, mx_put x hp, ?_⟩⟩
      rw [put_same, List.take_succ, h3]
      simp
      rfl
    · rintro _ M' ⟨o4, o6, o7, o8, o9, rfl, x, e⟩
      refine hK _ _ ⟨_, _, _, _, _, rfl, x, ?_⟩
      rw [rng_len, List.take_of_length_le (by rw [lates_len hl]; simp)] at e
      exact e
  · rintro _ M2 ⟨o4, o6, o7, o8, o9, rfl, x2, e2⟩
    (try refine Nx.mk ?_); refine seq_m (fun ρ' M' => ∃ o5, ρ' = [some city, some (.tup (rs.map Rn.d)), some (.tup (xs.map .int)), some (.ref p), o4, o5, o6, o7, o8, o9] ∧ MX M2 M' ∧ ∀ (n : Nat) (r : Rn), (lates rs xs)[n]? = some r → r.en ≤ 9999) (fun Kn hK => ?_) ?_
    · (try simp only [skip_, seqset_, seqdrop_, seqasg_, ret_, retN_, if_, drop_, set_, asg_, for_, raise0_, raise1_, var_, c_, c2_, test_, and_, or_, not_, andV_, orV_, notV_, nil_, cons_, tup0_, tup1_, tup2_, tup3_, tup4_, tup5_, lst0_, lst1_, lst2_, lst3_, lst4_, lst5_, lst6_, lst7_, lst8_, lst9_, lst10_, lstv1_, lstv2_, lstv3_, lstv4_, lstv5_, b_, m_, call1_, call2_, call3_, call4_, call5_, neg_, slice_, none_, some_, rev_, comp_, gtup_, gn_nil, gn_cons, wipe_n, wipe_c, iseq_, sq_t, sq_r, r1_, r2_, add_i, add_s, add_t, sub_i, mul_i, int_o, cmp_o, isn_, ix_t, ix_r, ix_s, len_t2, len_t3, len_t4, len_t5, len_r, int1_i, two_, tuple_t, tuple_r, list_t, list_r, str_i, sl_t, sl_r, rev_t, rev_r, lo_l, lo_r, isi_t_t, isi_i_t, isi_s_s, isi_i_i, isi_i_b, isi_b_b, at0, at1, at2, at3, eq_i, eq_s, ol_s, vr_s, tb_b, ti_i, Br_t, Br_f, List.getElem?_cons_zero, List.getElem?_cons_succ, List.set_cons_zero, List.set_cons_succ, true_and, eq_self, Bool.not_true, Bool.not_false, Bool.false_eq_true, if_true, if_false, Nat.reduceLeDiff, ite_true, ite_false, lst_ol e2]); (repeat (refine Nx.mk ?_; try simp only [skip_, seqset_, seqdrop_, seqasg_, ret_, retN_, if_, drop_, set_, asg_, for_, raise0_, raise1_, var_, c_, c2_, test_, and_, or_, not_, andV_, orV_, notV_, nil_, cons_, tup0_, tup1_, tup2_, tup3_, tup4_, tup5_, lst0_, lst1_, lst2_, lst3_, lst4_, lst5_, lst6_, lst7_, lst8_, lst9_, lst10_, lstv1_, lstv2_, lstv3_, lstv4_, lstv5_, b_, m_, call1_, call2_, call3_, call4_, call5_, neg_, slice_, none_, some_, rev_, comp_, gtup_, gn_nil, gn_cons, wipe_n, wipe_c, iseq_, sq_t, sq_r, r1_, r2_, add_i, add_s, add_t, sub_i, mul_i, int_o, cmp_o, isn_, ix_t, ix_r, ix_s, len_t2, len_t3, len_t4, len_t5, len_r, int1_i, two_, tuple_t, tuple_r, list_t, list_r, str_i, sl_t, sl_r, rev_t, rev_r, lo_l, lo_r, isi_t_t, isi_i_t, isi_s_s, isi_i_i, isi_i_b, isi_b_b, at0, at1, at2, at3, eq_i, eq_s, ol_s, vr_s, tb_b, ti_i, Br_t, Br_f, List.getElem?_cons_zero, List.getElem?_cons_succ, List.set_cons_zero, List.set_cons_succ, true_and, eq_self, Bool.not_true, Bool.not_false, Bool.false_eq_true, if_true, if_false, Nat.reduceLeDiff, ite_true, ite_false, lst_ol e2]))
      refine for_0 (fun n ρ' M' => ∃ o5, ρ' = [some city, some (.tup (rs.map Rn.d)), some (.tup (xs.map .int)), some (.ref p), o4, o5, o6, o7, o8, o9] ∧ MX M2 M' ∧ ∀ (k : Nat) (r : Rn), k < n → (lates rs xs)[k]? = some r → r.en ≤ 9999) ⟨_, rfl, MX.refl', fun k r h => by omega⟩ ?_ ?_ ?_
      · rintro n _ M' _ ⟨o5, rfl, x, _⟩
        exact mx_ol x (lst_ol e2)
      · rintro n d hd _ M' ⟨o5, rfl, x, hh⟩
        rw [List.getElem?_map] at hd
        cases hln : (lates rs xs)[n]? with
        | none => rw [hln] at hd; cases hd
        | some r =>
          rw [hln] at hd; cases hd
          refine ⟨_, rfl, fun Kn2 hK2 => ?_⟩
          (try simp only [skip_, seqset_, seqdrop_, seqasg_, ret_, retN_, if_, drop_, set_, asg_, for_, raise0_, raise1_, var_, c_, c2_, test_, and_, or_, not_, andV_, orV_, notV_, nil_, cons_, tup0_, tup1_, tup2_, tup3_, tup4_, tup5_, lst0_, lst1_, lst2_, lst3_, lst4_, lst5_, lst6_, lst7_, lst8_, lst9_, lst10_, lstv1_, lstv2_, lstv3_, lstv4_, lstv5_, b_, m_, call1_, call2_, call3_, call4_, call5_, neg_, slice_, none_, some_, rev_, comp_, gtup_, gn_nil, gn_cons, wipe_n, wipe_c, iseq_, sq_t, sq_r, r1_, r2_, add_i, add_s, add_t, sub_i, mul_i, int_o, cmp_o, isn_, ix_t, ix_r, ix_s, len_t2, len_t3, len_t4, len_t5, len_r, int1_i, two_, tuple_t, tuple_r, list_t, list_r, str_i, sl_t, sl_r, rev_t, rev_r, lo_l, lo_r, isi_t_t, isi_i_t, isi_s_s, isi_i_i, isi_i_b, isi_b_b, at0, at1, at2, at3, eq_i, eq_s, ol_s, vr_s, tb_b, ti_i, Br_t, Br_f, List.getElem?_cons_zero, List.getElem?_cons_succ, List.set_cons_zero, List.set_cons_succ, true_and, eq_self, Bool.not_true, Bool.not_false, Bool.false_eq_true, if_true, if_false, Nat.reduceLeDiff, ite_true, ite_false]); (repeat (refine Nx.mk ?_; try simp only [skip_, seqset_, seqdrop_, seqasg_, ret_, retN_, if_, drop_, set_, asg_, for_, raise0_, raise1_, var_, c_, c2_, test_, and_, or_, not_, andV_, orV_, notV_, nil_, cons_, tup0_, tup1_, tup2_, tup3_, tup4_, tup5_, lst0_, lst1_, lst2_, lst3_, lst4_, lst5_, lst6_, lst7_, lst8_, lst9_, lst10_, lstv1_, lstv2_, lstv3_, lstv4_, lstv5_, b_, m_, call1_, call2_, call3_, call4_, call5_, neg_, slice_, none_, some_, rev_, comp_, gtup_, gn_nil, gn_cons, wipe_n, wipe_c, iseq_, sq_t, sq_r, r1_, r2_, add_i, add_s, add_t, sub_i, mul_i, int_o, cmp_o, isn_, ix_t, ix_r, ix_s, len_t2, len_t3, len_t4, len_t5, len_r, int1_i, two_, tuple_t, tuple_r, list_t, list_r, str_i, sl_t, sl_r, rev_t, rev_r, lo_l, lo_r, isi_t_t, isi_i_t, isi_s_s, isi_i_i, isi_i_b, isi_b_b, at0, at1, at2, at3, eq_i, eq_s, ol_s, vr_s, tb_b, ti_i, Br_t, Br_f, List.getElem?_cons_zero, List.getElem?_cons_succ, List.set_cons_zero, List.set_cons_succ, true_and, eq_self, Bool.not_true, Bool.not_false, Bool.false_eq_true, if_true, if_false, Nat.reduceLeDiff, ite_true, ite_false]))
          subst hcity
          obtain ⟨r0, x0, h1, h2, rfl⟩ := lates_of hln
          refine check_sp U ((hO r0 (List.mem_of_getElem? h1)).add x0) (fun h M3 x3 => hK2 _ _ ⟨_, rfl, mxT x x3, fun k r hk hr => ?_⟩) (fun h M3 d x3 hd => hE ⟨n, _, hln, h⟩ M3 d (mxT x2 (mxT x x3)) hd)
          by_cases z : k < n
          · exact hh k r z hr
          · have : k = n := by omega
            subst this
            rw [hln] at hr
            cases hr
            exact h
      · rintro _ M' ⟨o5, rfl, x, hh⟩
        exact hK _ _ ⟨_, rfl, x, fun n r h => hh n r (by rw [List.length_map]; exact (List.getElem?_eq_some_iff.mp h).1) h⟩
    · rintro _ M3 ⟨o5, rfl, x3, hh⟩
      (try simp only [skip_, seqset_, seqdrop_, seqasg_, ret_, retN_, if_, drop_, set_, asg_, for_, raise0_, raise1_, var_, c_, c2_, test_, and_, or_, not_, andV_, orV_, notV_, nil_, cons_, tup0_, tup1_, tup2_, tup3_, tup4_, tup5_, lst0_, lst1_, lst2_, lst3_, lst4_, lst5_, lst6_, lst7_, lst8_, lst9_, lst10_, lstv1_, lstv2_, lstv3_, lstv4_, lstv5_, b_, m_, call1_, call2_, call3_, call4_, call5_, neg_, slice_, none_, some_, rev_, comp_, gtup_, gn_nil, gn_cons, wipe_n, wipe_c, iseq_, sq_t, sq_r, r1_, r2_, add_i, add_s, add_t, sub_i, mul_i, int_o, cmp_o, isn_, ix_t, ix_r, ix_s, len_t2, len_t3, len_t4, len_t5, len_r, int1_i, two_, tuple_t, tuple_r, list_t, list_r, str_i, sl_t, sl_r, rev_t, rev_r, lo_l, lo_r, isi_t_t, isi_i_t, isi_s_s, isi_i_i, isi_i_b, isi_b_b, at0, at1, at2, at3, eq_i, eq_s, ol_s, vr_s, tb_b, ti_i, Br_t, Br_f, List.getElem?_cons_zero, List.getElem?_cons_succ, List.set_cons_zero, List.set_cons_succ, true_and, eq_self, Bool.not_true, Bool.not_false, Bool.false_eq_true, if_true, if_false, Nat.reduceLeDiff, ite_true, ite_false, mx_ol x3 (lst_ol e2)]); (repeat (refine Nx.mk ?_; try simp only [skip_, seqset_, seqdrop_, seqasg_, ret_, retN_, if_, drop_, set_, asg_, for_, raise0_, raise1_, var_, c_, c2_, test_, and_, or_, not_, andV_, orV_, notV_, nil_, cons_, tup0_, tup1_, tup2_, tup3_, tup4_, tup5_, lst0_, lst1_, lst2_, lst3_, lst4_, lst5_, lst6_, lst7_, lst8_, lst9_, lst10_, lstv1_, lstv2_, lstv3_, lstv4_, lstv5_, b_, m_, call1_, call2_, call3_, call4_, call5_, neg_, slice_, none_, some_, rev_, comp_, gtup_, gn_nil, gn_cons, wipe_n, wipe_c, iseq_, sq_t, sq_r, r1_, r2_, add_i, add_s, add_t, sub_i, mul_i, int_o, cmp_o, isn_, ix_t, ix_r, ix_s, len_t2, len_t3, len_t4, len_t5, len_r, int1_i, two_, tuple_t, tuple_r, list_t, list_r, str_i, sl_t, sl_r, rev_t, rev_r, lo_l, lo_r, isi_t_t, isi_i_t, isi_s_s, isi_i_i, isi_i_b, isi_b_b, at0, at1, at2, at3, eq_i, eq_s, ol_s, vr_s, tb_b, ti_i, Br_t, Br_f, List.getElem?_cons_zero, List.getElem?_cons_succ, List.set_cons_zero, List.set_cons_succ, true_and, eq_self, Bool.not_true, Bool.not_false, Bool.false_eq_true, if_true, if_false, Nat.reduceLeDiff, ite_true, ite_false, mx_ol x3 (lst_ol e2)]))
      exact hQ hh _ (mxT x2 x3)
/-! the law's own call of late_runs -/
theorem llate_bad (X : Px K g) {city : D} {rs : List Rn} {xs : List Int} (h : xs.length ≠ rs.length) (hQ : Q (.tup [.str "BadSplit"]) M) : cf_l_late K g [city, .tup (rs.map Rn.d), .tup (xs.map .int)] M Q E := by
  unfold cf_l_late cfOf
  rw [show startD 5 [city, .tup (rs.map Rn.d), .tup (xs.map .int)] = [some city, some (.tup (rs.map Rn.d)), some (.tup (xs.map .int)), none, none] from rfl]
  unfold R_l_late
  (try refine Nx.mk ?_); refine seq_m (fun _ _ => False) (fun Kn hK => ?_) (fun _ _ z => z.elim)
  (try simp only [skip_, seqset_, seqdrop_, seqasg_, ret_, retN_, if_, drop_, set_, asg_, for_, raise0_, raise1_, var_, c_, c2_, test_, and_, or_, not_, andV_, orV_, notV_, nil_, cons_, tup0_, tup1_, tup2_, tup3_, tup4_, tup5_, lst0_, lst1_, lst2_, lst3_, lst4_, lst5_, lst6_, lst7_, lst8_, lst9_, lst10_, lstv1_, lstv2_, lstv3_, lstv4_, lstv5_, b_, m_, call1_, call2_, call3_, call4_, call5_, neg_, slice_, none_, some_, rev_, comp_, gtup_, gn_nil, gn_cons, wipe_n, wipe_c, iseq_, sq_t, sq_r, r1_, r2_, add_i, add_s, add_t, sub_i, mul_i, int_o, cmp_o, isn_, ix_t, ix_r, ix_s, len_t2, len_t3, len_t4, len_t5, len_r, int1_i, two_, tuple_t, tuple_r, list_t, list_r, str_i, sl_t, sl_r, rev_t, rev_r, lo_l, lo_r, isi_t_t, isi_i_t, isi_s_s, isi_i_i, isi_i_b, isi_b_b, at0, at1, at2, at3, eq_i, eq_s, ol_s, vr_s, tb_b, ti_i, Br_t, Br_f, List.getElem?_cons_zero, List.getElem?_cons_succ, List.set_cons_zero, List.set_cons_succ, true_and, eq_self, Bool.not_true, Bool.not_false, Bool.false_eq_true, if_true, if_false, Nat.reduceLeDiff, ite_true, ite_false, try_]); (repeat (refine Nx.mk ?_; try simp only [skip_, seqset_, seqdrop_, seqasg_, ret_, retN_, if_, drop_, set_, asg_, for_, raise0_, raise1_, var_, c_, c2_, test_, and_, or_, not_, andV_, orV_, notV_, nil_, cons_, tup0_, tup1_, tup2_, tup3_, tup4_, tup5_, lst0_, lst1_, lst2_, lst3_, lst4_, lst5_, lst6_, lst7_, lst8_, lst9_, lst10_, lstv1_, lstv2_, lstv3_, lstv4_, lstv5_, b_, m_, call1_, call2_, call3_, call4_, call5_, neg_, slice_, none_, some_, rev_, comp_, gtup_, gn_nil, gn_cons, wipe_n, wipe_c, iseq_, sq_t, sq_r, r1_, r2_, add_i, add_s, add_t, sub_i, mul_i, int_o, cmp_o, isn_, ix_t, ix_r, ix_s, len_t2, len_t3, len_t4, len_t5, len_r, int1_i, two_, tuple_t, tuple_r, list_t, list_r, str_i, sl_t, sl_r, rev_t, rev_r, lo_l, lo_r, isi_t_t, isi_i_t, isi_s_s, isi_i_i, isi_i_b, isi_b_b, at0, at1, at2, at3, eq_i, eq_s, ol_s, vr_s, tb_b, ti_i, Br_t, Br_f, List.getElem?_cons_zero, List.getElem?_cons_succ, List.set_cons_zero, List.set_cons_succ, true_and, eq_self, Bool.not_true, Bool.not_false, Bool.false_eq_true, if_true, if_false, Nat.reduceLeDiff, ite_true, ite_false, try_]))
  refine late_bad h (xcl_hit X.xm_BadSplit_BadSplit fun a ha => ?_)
  show cSeq _ _ _ [some city, some (.tup (rs.map Rn.d)), some (.tup (xs.map .int)), some (.ref a), none] M
  (try refine Nx.mk ?_); rw [seq_]
  (try simp only [skip_, seqset_, seqdrop_, seqasg_, ret_, retN_, if_, drop_, set_, asg_, for_, raise0_, raise1_, var_, c_, c2_, test_, and_, or_, not_, andV_, orV_, notV_, nil_, cons_, tup0_, tup1_, tup2_, tup3_, tup4_, tup5_, lst0_, lst1_, lst2_, lst3_, lst4_, lst5_, lst6_, lst7_, lst8_, lst9_, lst10_, lstv1_, lstv2_, lstv3_, lstv4_, lstv5_, b_, m_, call1_, call2_, call3_, call4_, call5_, neg_, slice_, none_, some_, rev_, comp_, gtup_, gn_nil, gn_cons, wipe_n, wipe_c, iseq_, sq_t, sq_r, r1_, r2_, add_i, add_s, add_t, sub_i, mul_i, int_o, cmp_o, isn_, ix_t, ix_r, ix_s, len_t2, len_t3, len_t4, len_t5, len_r, int1_i, two_, tuple_t, tuple_r, list_t, list_r, str_i, sl_t, sl_r, rev_t, rev_r, lo_l, lo_r, isi_t_t, isi_i_t, isi_s_s, isi_i_i, isi_i_b, isi_b_b, at0, at1, at2, at3, eq_i, eq_s, ol_s, vr_s, tb_b, ti_i, Br_t, Br_f, List.getElem?_cons_zero, List.getElem?_cons_succ, List.set_cons_zero, List.set_cons_succ, true_and, eq_self, Bool.not_true, Bool.not_false, Bool.false_eq_true, if_true, if_false, Nat.reduceLeDiff, ite_true, ite_false]); (repeat (refine Nx.mk ?_; try simp only [skip_, seqset_, seqdrop_, seqasg_, ret_, retN_, if_, drop_, set_, asg_, for_, raise0_, raise1_, var_, c_, c2_, test_, and_, or_, not_, andV_, orV_, notV_, nil_, cons_, tup0_, tup1_, tup2_, tup3_, tup4_, tup5_, lst0_, lst1_, lst2_, lst3_, lst4_, lst5_, lst6_, lst7_, lst8_, lst9_, lst10_, lstv1_, lstv2_, lstv3_, lstv4_, lstv5_, b_, m_, call1_, call2_, call3_, call4_, call5_, neg_, slice_, none_, some_, rev_, comp_, gtup_, gn_nil, gn_cons, wipe_n, wipe_c, iseq_, sq_t, sq_r, r1_, r2_, add_i, add_s, add_t, sub_i, mul_i, int_o, cmp_o, isn_, ix_t, ix_r, ix_s, len_t2, len_t3, len_t4, len_t5, len_r, int1_i, two_, tuple_t, tuple_r, list_t, list_r, str_i, sl_t, sl_r, rev_t, rev_r, lo_l, lo_r, isi_t_t, isi_i_t, isi_s_s, isi_i_i, isi_i_b, isi_b_b, at0, at1, at2, at3, eq_i, eq_s, ol_s, vr_s, tb_b, ti_i, Br_t, Br_f, List.getElem?_cons_zero, List.getElem?_cons_succ, List.set_cons_zero, List.set_cons_succ, true_and, eq_self, Bool.not_true, Bool.not_false, Bool.false_eq_true, if_true, if_false, Nat.reduceLeDiff, ite_true, ite_false]))
  refine iss_ X.xi_BadSplit trivial rfl X.kt_BadSplit_FareError ?_
  (try simp only [skip_, seqset_, seqdrop_, seqasg_, ret_, retN_, if_, drop_, set_, asg_, for_, raise0_, raise1_, var_, c_, c2_, test_, and_, or_, not_, andV_, orV_, notV_, nil_, cons_, tup0_, tup1_, tup2_, tup3_, tup4_, tup5_, lst0_, lst1_, lst2_, lst3_, lst4_, lst5_, lst6_, lst7_, lst8_, lst9_, lst10_, lstv1_, lstv2_, lstv3_, lstv4_, lstv5_, b_, m_, call1_, call2_, call3_, call4_, call5_, neg_, slice_, none_, some_, rev_, comp_, gtup_, gn_nil, gn_cons, wipe_n, wipe_c, iseq_, sq_t, sq_r, r1_, r2_, add_i, add_s, add_t, sub_i, mul_i, int_o, cmp_o, isn_, ix_t, ix_r, ix_s, len_t2, len_t3, len_t4, len_t5, len_r, int1_i, two_, tuple_t, tuple_r, list_t, list_r, str_i, sl_t, sl_r, rev_t, rev_r, lo_l, lo_r, isi_t_t, isi_i_t, isi_s_s, isi_i_i, isi_i_b, isi_b_b, at0, at1, at2, at3, eq_i, eq_s, ol_s, vr_s, tb_b, ti_i, Br_t, Br_f, List.getElem?_cons_zero, List.getElem?_cons_succ, List.set_cons_zero, List.set_cons_succ, true_and, eq_self, Bool.not_true, Bool.not_false, Bool.false_eq_true, if_true, if_false, Nat.reduceLeDiff, ite_true, ite_false]); (repeat (refine Nx.mk ?_; try simp only [skip_, seqset_, seqdrop_, seqasg_, ret_, retN_, if_, drop_, set_, asg_, for_, raise0_, raise1_, var_, c_, c2_, test_, and_, or_, not_, andV_, orV_, notV_, nil_, cons_, tup0_, tup1_, tup2_, tup3_, tup4_, tup5_, lst0_, lst1_, lst2_, lst3_, lst4_, lst5_, lst6_, lst7_, lst8_, lst9_, lst10_, lstv1_, lstv2_, lstv3_, lstv4_, lstv5_, b_, m_, call1_, call2_, call3_, call4_, call5_, neg_, slice_, none_, some_, rev_, comp_, gtup_, gn_nil, gn_cons, wipe_n, wipe_c, iseq_, sq_t, sq_r, r1_, r2_, add_i, add_s, add_t, sub_i, mul_i, int_o, cmp_o, isn_, ix_t, ix_r, ix_s, len_t2, len_t3, len_t4, len_t5, len_r, int1_i, two_, tuple_t, tuple_r, list_t, list_r, str_i, sl_t, sl_r, rev_t, rev_r, lo_l, lo_r, isi_t_t, isi_i_t, isi_s_s, isi_i_i, isi_i_b, isi_b_b, at0, at1, at2, at3, eq_i, eq_s, ol_s, vr_s, tb_b, ti_i, Br_t, Br_f, List.getElem?_cons_zero, List.getElem?_cons_succ, List.set_cons_zero, List.set_cons_succ, true_and, eq_self, Bool.not_true, Bool.not_false, Bool.false_eq_true, if_true, if_false, Nat.reduceLeDiff, ite_true, ite_false]))
  refine iss_ X.xi_BadSplit trivial rfl X.kv_BadSplit ?_
  (try simp only [skip_, seqset_, seqdrop_, seqasg_, ret_, retN_, if_, drop_, set_, asg_, for_, raise0_, raise1_, var_, c_, c2_, test_, and_, or_, not_, andV_, orV_, notV_, nil_, cons_, tup0_, tup1_, tup2_, tup3_, tup4_, tup5_, lst0_, lst1_, lst2_, lst3_, lst4_, lst5_, lst6_, lst7_, lst8_, lst9_, lst10_, lstv1_, lstv2_, lstv3_, lstv4_, lstv5_, b_, m_, call1_, call2_, call3_, call4_, call5_, neg_, slice_, none_, some_, rev_, comp_, gtup_, gn_nil, gn_cons, wipe_n, wipe_c, iseq_, sq_t, sq_r, r1_, r2_, add_i, add_s, add_t, sub_i, mul_i, int_o, cmp_o, isn_, ix_t, ix_r, ix_s, len_t2, len_t3, len_t4, len_t5, len_r, int1_i, two_, tuple_t, tuple_r, list_t, list_r, str_i, sl_t, sl_r, rev_t, rev_r, lo_l, lo_r, isi_t_t, isi_i_t, isi_s_s, isi_i_i, isi_i_b, isi_b_b, at0, at1, at2, at3, eq_i, eq_s, ol_s, vr_s, tb_b, ti_i, Br_t, Br_f, List.getElem?_cons_zero, List.getElem?_cons_succ, List.set_cons_zero, List.set_cons_succ, true_and, eq_self, Bool.not_true, Bool.not_false, Bool.false_eq_true, if_true, if_false, Nat.reduceLeDiff, ite_true, ite_false]); (repeat (refine Nx.mk ?_; try simp only [skip_, seqset_, seqdrop_, seqasg_, ret_, retN_, if_, drop_, set_, asg_, for_, raise0_, raise1_, var_, c_, c2_, test_, and_, or_, not_, andV_, orV_, notV_, nil_, cons_, tup0_, tup1_, tup2_, tup3_, tup4_, tup5_, lst0_, lst1_, lst2_, lst3_, lst4_, lst5_, lst6_, lst7_, lst8_, lst9_, lst10_, lstv1_, lstv2_, lstv3_, lstv4_, lstv5_, b_, m_, call1_, call2_, call3_, call4_, call5_, neg_, slice_, none_, some_, rev_, comp_, gtup_, gn_nil, gn_cons, wipe_n, wipe_c, iseq_, sq_t, sq_r, r1_, r2_, add_i, add_s, add_t, sub_i, mul_i, int_o, cmp_o, isn_, ix_t, ix_r, ix_s, len_t2, len_t3, len_t4, len_t5, len_r, int1_i, two_, tuple_t, tuple_r, list_t, list_r, str_i, sl_t, sl_r, rev_t, rev_r, lo_l, lo_r, isi_t_t, isi_i_t, isi_s_s, isi_i_i, isi_i_b, isi_b_b, at0, at1, at2, at3, eq_i, eq_s, ol_s, vr_s, tb_b, ti_i, Br_t, Br_f, List.getElem?_cons_zero, List.getElem?_cons_succ, List.set_cons_zero, List.set_cons_succ, true_and, eq_self, Bool.not_true, Bool.not_false, Bool.false_eq_true, if_true, if_false, Nat.reduceLeDiff, ite_true, ite_false]))
  refine iss_ X.xi_BadSplit trivial rfl X.kt_BadSplit_TooMany ?_
  (try simp only [skip_, seqset_, seqdrop_, seqasg_, ret_, retN_, if_, drop_, set_, asg_, for_, raise0_, raise1_, var_, c_, c2_, test_, and_, or_, not_, andV_, orV_, notV_, nil_, cons_, tup0_, tup1_, tup2_, tup3_, tup4_, tup5_, lst0_, lst1_, lst2_, lst3_, lst4_, lst5_, lst6_, lst7_, lst8_, lst9_, lst10_, lstv1_, lstv2_, lstv3_, lstv4_, lstv5_, b_, m_, call1_, call2_, call3_, call4_, call5_, neg_, slice_, none_, some_, rev_, comp_, gtup_, gn_nil, gn_cons, wipe_n, wipe_c, iseq_, sq_t, sq_r, r1_, r2_, add_i, add_s, add_t, sub_i, mul_i, int_o, cmp_o, isn_, ix_t, ix_r, ix_s, len_t2, len_t3, len_t4, len_t5, len_r, int1_i, two_, tuple_t, tuple_r, list_t, list_r, str_i, sl_t, sl_r, rev_t, rev_r, lo_l, lo_r, isi_t_t, isi_i_t, isi_s_s, isi_i_i, isi_i_b, isi_b_b, at0, at1, at2, at3, eq_i, eq_s, ol_s, vr_s, tb_b, ti_i, Br_t, Br_f, List.getElem?_cons_zero, List.getElem?_cons_succ, List.set_cons_zero, List.set_cons_succ, true_and, eq_self, Bool.not_true, Bool.not_false, Bool.false_eq_true, if_true, if_false, Nat.reduceLeDiff, ite_true, ite_false]); (repeat (refine Nx.mk ?_; try simp only [skip_, seqset_, seqdrop_, seqasg_, ret_, retN_, if_, drop_, set_, asg_, for_, raise0_, raise1_, var_, c_, c2_, test_, and_, or_, not_, andV_, orV_, notV_, nil_, cons_, tup0_, tup1_, tup2_, tup3_, tup4_, tup5_, lst0_, lst1_, lst2_, lst3_, lst4_, lst5_, lst6_, lst7_, lst8_, lst9_, lst10_, lstv1_, lstv2_, lstv3_, lstv4_, lstv5_, b_, m_, call1_, call2_, call3_, call4_, call5_, neg_, slice_, none_, some_, rev_, comp_, gtup_, gn_nil, gn_cons, wipe_n, wipe_c, iseq_, sq_t, sq_r, r1_, r2_, add_i, add_s, add_t, sub_i, mul_i, int_o, cmp_o, isn_, ix_t, ix_r, ix_s, len_t2, len_t3, len_t4, len_t5, len_r, int1_i, two_, tuple_t, tuple_r, list_t, list_r, str_i, sl_t, sl_r, rev_t, rev_r, lo_l, lo_r, isi_t_t, isi_i_t, isi_s_s, isi_i_i, isi_i_b, isi_b_b, at0, at1, at2, at3, eq_i, eq_s, ol_s, vr_s, tb_b, ti_i, Br_t, Br_f, List.getElem?_cons_zero, List.getElem?_cons_succ, List.set_cons_zero, List.set_cons_succ, true_and, eq_self, Bool.not_true, Bool.not_false, Bool.false_eq_true, if_true, if_false, Nat.reduceLeDiff, ite_true, ite_false]))
  exact hQ
theorem llate_sp (X : Px K g) {c0 : D} {cr : List D} {ls : List Lt} (U : Uq ls) {rs : List Rn} {xs : List Int} (hO : ∀ r ∈ rs, Ok ls r) (hl : xs.length = rs.length) (hm : rs.length ≤ 1000)
    (hQ : (∀ (n : Nat) (r : Rn), (lates rs xs)[n]? = some r → r.en ≤ 9999) → ∀ M', MX M M' → Q (.tup [.str "runs", .tup ((lates rs xs).map Rn.d)]) M')
    (hE : (∃ (n : Nat) (r : Rn), (lates rs xs)[n]? = some r ∧ 9999 < r.en) → ∀ M', MX M M' → Q (.tup [.str "TooMany", .int 9999]) M') : cf_l_late K g [.tup (c0 :: .tup (ls.map Lt.d) :: cr), .tup (rs.map Rn.d), .tup (xs.map .int)] M Q E := by
  unfold cf_l_late cfOf
  generalize hcity : (D.tup (c0 :: .tup (ls.map Lt.d) :: cr)) = city
  rw [show startD 5 [city, .tup (rs.map Rn.d), .tup (xs.map .int)] = [some city, some (.tup (rs.map Rn.d)), some (.tup (xs.map .int)), none, none] from rfl]
  unfold R_l_late
  (try refine Nx.mk ?_); refine seq_m (fun ρ' M' => ρ' = [some city, some (.tup (rs.map Rn.d)), some (.tup (xs.map .int)), none, some (.tup ((lates rs xs).map Rn.d))] ∧ MX M M' ∧ ∀ (n : Nat) (r : Rn), (lates rs xs)[n]? = some r → r.en ≤ 9999) (fun Kn hK => ?_) ?_
  · (try simp only [skip_, seqset_, seqdrop_, seqasg_, ret_, retN_, if_, drop_, set_, asg_, for_, raise0_, raise1_, var_, c_, c2_, test_, and_, or_, not_, andV_, orV_, notV_, nil_, cons_, tup0_, tup1_, tup2_, tup3_, tup4_, tup5_, lst0_, lst1_, lst2_, lst3_, lst4_, lst5_, lst6_, lst7_, lst8_, lst9_, lst10_, lstv1_, lstv2_, lstv3_, lstv4_, lstv5_, b_, m_, call1_, call2_, call3_, call4_, call5_, neg_, slice_, none_, some_, rev_, comp_, gtup_, gn_nil, gn_cons, wipe_n, wipe_c, iseq_, sq_t, sq_r, r1_, r2_, add_i, add_s, add_t, sub_i, mul_i, int_o, cmp_o, isn_, ix_t, ix_r, ix_s, len_t2, len_t3, len_t4, len_t5, len_r, int1_i, two_, tuple_t, tuple_r, list_t, list_r, str_i, sl_t, sl_r, rev_t, rev_r, lo_l, lo_r, isi_t_t, isi_i_t, isi_s_s, isi_i_i, isi_i_b, isi_b_b, at0, at1, at2, at3, eq_i, eq_s, ol_s, vr_s, tb_b, ti_i, Br_t, Br_f, List.getElem?_cons_zero, List.getElem?_cons_succ, List.set_cons_zero, List.set_cons_succ, true_and, eq_self, Bool.not_true, Bool.not_false, Bool.false_eq_true, if_true, if_false, Nat.reduceLeDiff, ite_true, ite_false, try_]); (repeat (refine Nx.mk ?_; try simp only [skip_, seqset_, seqdrop_, seqasg_, ret_, retN_, if_, drop_, set_, asg_, for_, raise0_, raise1_, var_, c_, c2_, test_, and_, or_, not_, andV_, orV_, notV_, nil_, cons_, tup0_, tup1_, tup2_, tup3_, tup4_, tup5_, lst0_, lst1_, lst2_, lst3_, lst4_, lst5_, lst6_, lst7_, lst8_, lst9_, lst10_, lstv1_, lstv2_, lstv3_, lstv4_, lstv5_, b_, m_, call1_, call2_, call3_, call4_, call5_, neg_, slice_, none_, some_, rev_, comp_, gtup_, gn_nil, gn_cons, wipe_n, wipe_c, iseq_, sq_t, sq_r, r1_, r2_, add_i, add_s, add_t, sub_i, mul_i, int_o, cmp_o, isn_, ix_t, ix_r, ix_s, len_t2, len_t3, len_t4, len_t5, len_r, int1_i, two_, tuple_t, tuple_r, list_t, list_r, str_i, sl_t, sl_r, rev_t, rev_r, lo_l, lo_r, isi_t_t, isi_i_t, isi_s_s, isi_i_i, isi_i_b, isi_b_b, at0, at1, at2, at3, eq_i, eq_s, ol_s, vr_s, tb_b, ti_i, Br_t, Br_f, List.getElem?_cons_zero, List.getElem?_cons_succ, List.set_cons_zero, List.set_cons_succ, true_and, eq_self, Bool.not_true, Bool.not_false, Bool.false_eq_true, if_true, if_false, Nat.reduceLeDiff, ite_true, ite_false, try_]))
    subst hcity
    refine late_sp U hO hl hm (fun h M1 x1 => hK _ _ ⟨rfl, x1, h⟩) (fun h M1 d x1 hd => xcl_miss X.xm_TooMany_BadSplit (xcl_hit X.xm_TooMany_TooMany fun a ha => ?_))
    show cSeq _ _ _ [some (.tup (c0 :: .tup (ls.map Lt.d) :: cr)), some (.tup (rs.map Rn.d)), some (.tup (xs.map .int)), some (.ref a), none] M1
    have hx : hasX (some d) M1 := by unfold hasX; simp only [hd]
    (try refine Nx.mk ?_); rw [seq_]
    (try simp only [skip_, seqset_, seqdrop_, seqasg_, ret_, retN_, if_, drop_, set_, asg_, for_, raise0_, raise1_, var_, c_, c2_, test_, and_, or_, not_, andV_, orV_, notV_, nil_, cons_, tup0_, tup1_, tup2_, tup3_, tup4_, tup5_, lst0_, lst1_, lst2_, lst3_, lst4_, lst5_, lst6_, lst7_, lst8_, lst9_, lst10_, lstv1_, lstv2_, lstv3_, lstv4_, lstv5_, b_, m_, call1_, call2_, call3_, call4_, call5_, neg_, slice_, none_, some_, rev_, comp_, gtup_, gn_nil, gn_cons, wipe_n, wipe_c, iseq_, sq_t, sq_r, r1_, r2_, add_i, add_s, add_t, sub_i, mul_i, int_o, cmp_o, isn_, ix_t, ix_r, ix_s, len_t2, len_t3, len_t4, len_t5, len_r, int1_i, two_, tuple_t, tuple_r, list_t, list_r, str_i, sl_t, sl_r, rev_t, rev_r, lo_l, lo_r, isi_t_t, isi_i_t, isi_s_s, isi_i_i, isi_i_b, isi_b_b, at0, at1, at2, at3, eq_i, eq_s, ol_s, vr_s, tb_b, ti_i, Br_t, Br_f, List.getElem?_cons_zero, List.getElem?_cons_succ, List.set_cons_zero, List.set_cons_succ, true_and, eq_self, Bool.not_true, Bool.not_false, Bool.false_eq_true, if_true, if_false, Nat.reduceLeDiff, ite_true, ite_false]); (repeat (refine Nx.mk ?_; try simp only [skip_, seqset_, seqdrop_, seqasg_, ret_, retN_, if_, drop_, set_, asg_, for_, raise0_, raise1_, var_, c_, c2_, test_, and_, or_, not_, andV_, orV_, notV_, nil_, cons_, tup0_, tup1_, tup2_, tup3_, tup4_, tup5_, lst0_, lst1_, lst2_, lst3_, lst4_, lst5_, lst6_, lst7_, lst8_, lst9_, lst10_, lstv1_, lstv2_, lstv3_, lstv4_, lstv5_, b_, m_, call1_, call2_, call3_, call4_, call5_, neg_, slice_, none_, some_, rev_, comp_, gtup_, gn_nil, gn_cons, wipe_n, wipe_c, iseq_, sq_t, sq_r, r1_, r2_, add_i, add_s, add_t, sub_i, mul_i, int_o, cmp_o, isn_, ix_t, ix_r, ix_s, len_t2, len_t3, len_t4, len_t5, len_r, int1_i, two_, tuple_t, tuple_r, list_t, list_r, str_i, sl_t, sl_r, rev_t, rev_r, lo_l, lo_r, isi_t_t, isi_i_t, isi_s_s, isi_i_i, isi_i_b, isi_b_b, at0, at1, at2, at3, eq_i, eq_s, ol_s, vr_s, tb_b, ti_i, Br_t, Br_f, List.getElem?_cons_zero, List.getElem?_cons_succ, List.set_cons_zero, List.set_cons_succ, true_and, eq_self, Bool.not_true, Bool.not_false, Bool.false_eq_true, if_true, if_false, Nat.reduceLeDiff, ite_true, ite_false]))
    refine iss_ X.xi_TooMany hx rfl X.kt_TooMany_FareError ?_
    (try simp only [skip_, seqset_, seqdrop_, seqasg_, ret_, retN_, if_, drop_, set_, asg_, for_, raise0_, raise1_, var_, c_, c2_, test_, and_, or_, not_, andV_, orV_, notV_, nil_, cons_, tup0_, tup1_, tup2_, tup3_, tup4_, tup5_, lst0_, lst1_, lst2_, lst3_, lst4_, lst5_, lst6_, lst7_, lst8_, lst9_, lst10_, lstv1_, lstv2_, lstv3_, lstv4_, lstv5_, b_, m_, call1_, call2_, call3_, call4_, call5_, neg_, slice_, none_, some_, rev_, comp_, gtup_, gn_nil, gn_cons, wipe_n, wipe_c, iseq_, sq_t, sq_r, r1_, r2_, add_i, add_s, add_t, sub_i, mul_i, int_o, cmp_o, isn_, ix_t, ix_r, ix_s, len_t2, len_t3, len_t4, len_t5, len_r, int1_i, two_, tuple_t, tuple_r, list_t, list_r, str_i, sl_t, sl_r, rev_t, rev_r, lo_l, lo_r, isi_t_t, isi_i_t, isi_s_s, isi_i_i, isi_i_b, isi_b_b, at0, at1, at2, at3, eq_i, eq_s, ol_s, vr_s, tb_b, ti_i, Br_t, Br_f, List.getElem?_cons_zero, List.getElem?_cons_succ, List.set_cons_zero, List.set_cons_succ, true_and, eq_self, Bool.not_true, Bool.not_false, Bool.false_eq_true, if_true, if_false, Nat.reduceLeDiff, ite_true, ite_false]); (repeat (refine Nx.mk ?_; try simp only [skip_, seqset_, seqdrop_, seqasg_, ret_, retN_, if_, drop_, set_, asg_, for_, raise0_, raise1_, var_, c_, c2_, test_, and_, or_, not_, andV_, orV_, notV_, nil_, cons_, tup0_, tup1_, tup2_, tup3_, tup4_, tup5_, lst0_, lst1_, lst2_, lst3_, lst4_, lst5_, lst6_, lst7_, lst8_, lst9_, lst10_, lstv1_, lstv2_, lstv3_, lstv4_, lstv5_, b_, m_, call1_, call2_, call3_, call4_, call5_, neg_, slice_, none_, some_, rev_, comp_, gtup_, gn_nil, gn_cons, wipe_n, wipe_c, iseq_, sq_t, sq_r, r1_, r2_, add_i, add_s, add_t, sub_i, mul_i, int_o, cmp_o, isn_, ix_t, ix_r, ix_s, len_t2, len_t3, len_t4, len_t5, len_r, int1_i, two_, tuple_t, tuple_r, list_t, list_r, str_i, sl_t, sl_r, rev_t, rev_r, lo_l, lo_r, isi_t_t, isi_i_t, isi_s_s, isi_i_i, isi_i_b, isi_b_b, at0, at1, at2, at3, eq_i, eq_s, ol_s, vr_s, tb_b, ti_i, Br_t, Br_f, List.getElem?_cons_zero, List.getElem?_cons_succ, List.set_cons_zero, List.set_cons_succ, true_and, eq_self, Bool.not_true, Bool.not_false, Bool.false_eq_true, if_true, if_false, Nat.reduceLeDiff, ite_true, ite_false]))
    refine iss_ X.xi_TooMany hx rfl X.kv_TooMany ?_
    (try simp only [skip_, seqset_, seqdrop_, seqasg_, ret_, retN_, if_, drop_, set_, asg_, for_, raise0_, raise1_, var_, c_, c2_, test_, and_, or_, not_, andV_, orV_, notV_, nil_, cons_, tup0_, tup1_, tup2_, tup3_, tup4_, tup5_, lst0_, lst1_, lst2_, lst3_, lst4_, lst5_, lst6_, lst7_, lst8_, lst9_, lst10_, lstv1_, lstv2_, lstv3_, lstv4_, lstv5_, b_, m_, call1_, call2_, call3_, call4_, call5_, neg_, slice_, none_, some_, rev_, comp_, gtup_, gn_nil, gn_cons, wipe_n, wipe_c, iseq_, sq_t, sq_r, r1_, r2_, add_i, add_s, add_t, sub_i, mul_i, int_o, cmp_o, isn_, ix_t, ix_r, ix_s, len_t2, len_t3, len_t4, len_t5, len_r, int1_i, two_, tuple_t, tuple_r, list_t, list_r, str_i, sl_t, sl_r, rev_t, rev_r, lo_l, lo_r, isi_t_t, isi_i_t, isi_s_s, isi_i_i, isi_i_b, isi_b_b, at0, at1, at2, at3, eq_i, eq_s, ol_s, vr_s, tb_b, ti_i, Br_t, Br_f, List.getElem?_cons_zero, List.getElem?_cons_succ, List.set_cons_zero, List.set_cons_succ, true_and, eq_self, Bool.not_true, Bool.not_false, Bool.false_eq_true, if_true, if_false, Nat.reduceLeDiff, ite_true, ite_false]); (repeat (refine Nx.mk ?_; try simp only [skip_, seqset_, seqdrop_, seqasg_, ret_, retN_, if_, drop_, set_, asg_, for_, raise0_, raise1_, var_, c_, c2_, test_, and_, or_, not_, andV_, orV_, notV_, nil_, cons_, tup0_, tup1_, tup2_, tup3_, tup4_, tup5_, lst0_, lst1_, lst2_, lst3_, lst4_, lst5_, lst6_, lst7_, lst8_, lst9_, lst10_, lstv1_, lstv2_, lstv3_, lstv4_, lstv5_, b_, m_, call1_, call2_, call3_, call4_, call5_, neg_, slice_, none_, some_, rev_, comp_, gtup_, gn_nil, gn_cons, wipe_n, wipe_c, iseq_, sq_t, sq_r, r1_, r2_, add_i, add_s, add_t, sub_i, mul_i, int_o, cmp_o, isn_, ix_t, ix_r, ix_s, len_t2, len_t3, len_t4, len_t5, len_r, int1_i, two_, tuple_t, tuple_r, list_t, list_r, str_i, sl_t, sl_r, rev_t, rev_r, lo_l, lo_r, isi_t_t, isi_i_t, isi_s_s, isi_i_i, isi_i_b, isi_b_b, at0, at1, at2, at3, eq_i, eq_s, ol_s, vr_s, tb_b, ti_i, Br_t, Br_f, List.getElem?_cons_zero, List.getElem?_cons_succ, List.set_cons_zero, List.set_cons_succ, true_and, eq_self, Bool.not_true, Bool.not_false, Bool.false_eq_true, if_true, if_false, Nat.reduceLeDiff, ite_true, ite_false]))
    refine xf_ rfl hd rfl (isnum_sp _ ?_)
    (try simp only [skip_, seqset_, seqdrop_, seqasg_, ret_, retN_, if_, drop_, set_, asg_, for_, raise0_, raise1_, var_, c_, c2_, test_, and_, or_, not_, andV_, orV_, notV_, nil_, cons_, tup0_, tup1_, tup2_, tup3_, tup4_, tup5_, lst0_, lst1_, lst2_, lst3_, lst4_, lst5_, lst6_, lst7_, lst8_, lst9_, lst10_, lstv1_, lstv2_, lstv3_, lstv4_, lstv5_, b_, m_, call1_, call2_, call3_, call4_, call5_, neg_, slice_, none_, some_, rev_, comp_, gtup_, gn_nil, gn_cons, wipe_n, wipe_c, iseq_, sq_t, sq_r, r1_, r2_, add_i, add_s, add_t, sub_i, mul_i, int_o, cmp_o, isn_, ix_t, ix_r, ix_s, len_t2, len_t3, len_t4, len_t5, len_r, int1_i, two_, tuple_t, tuple_r, list_t, list_r, str_i, sl_t, sl_r, rev_t, rev_r, lo_l, lo_r, isi_t_t, isi_i_t, isi_s_s, isi_i_i, isi_i_b, isi_b_b, at0, at1, at2, at3, eq_i, eq_s, ol_s, vr_s, tb_b, ti_i, Br_t, Br_f, List.getElem?_cons_zero, List.getElem?_cons_succ, List.set_cons_zero, List.set_cons_succ, true_and, eq_self, Bool.not_true, Bool.not_false, Bool.false_eq_true, if_true, if_false, Nat.reduceLeDiff, ite_true, ite_false]); (repeat (refine Nx.mk ?_; try simp only [skip_, seqset_, seqdrop_, seqasg_, ret_, retN_, if_, drop_, set_, asg_, for_, raise0_, raise1_, var_, c_, c2_, test_, and_, or_, not_, andV_, orV_, notV_, nil_, cons_, tup0_, tup1_, tup2_, tup3_, tup4_, tup5_, lst0_, lst1_, lst2_, lst3_, lst4_, lst5_, lst6_, lst7_, lst8_, lst9_, lst10_, lstv1_, lstv2_, lstv3_, lstv4_, lstv5_, b_, m_, call1_, call2_, call3_, call4_, call5_, neg_, slice_, none_, some_, rev_, comp_, gtup_, gn_nil, gn_cons, wipe_n, wipe_c, iseq_, sq_t, sq_r, r1_, r2_, add_i, add_s, add_t, sub_i, mul_i, int_o, cmp_o, isn_, ix_t, ix_r, ix_s, len_t2, len_t3, len_t4, len_t5, len_r, int1_i, two_, tuple_t, tuple_r, list_t, list_r, str_i, sl_t, sl_r, rev_t, rev_r, lo_l, lo_r, isi_t_t, isi_i_t, isi_s_s, isi_i_i, isi_i_b, isi_b_b, at0, at1, at2, at3, eq_i, eq_s, ol_s, vr_s, tb_b, ti_i, Br_t, Br_f, List.getElem?_cons_zero, List.getElem?_cons_succ, List.set_cons_zero, List.set_cons_succ, true_and, eq_self, Bool.not_true, Bool.not_false, Bool.false_eq_true, if_true, if_false, Nat.reduceLeDiff, ite_true, ite_false]))
    refine xf_ rfl hd rfl ?_
    (try simp only [skip_, seqset_, seqdrop_, seqasg_, ret_, retN_, if_, drop_, set_, asg_, for_, raise0_, raise1_, var_, c_, c2_, test_, and_, or_, not_, andV_, orV_, notV_, nil_, cons_, tup0_, tup1_, tup2_, tup3_, tup4_, tup5_, lst0_, lst1_, lst2_, lst3_, lst4_, lst5_, lst6_, lst7_, lst8_, lst9_, lst10_, lstv1_, lstv2_, lstv3_, lstv4_, lstv5_, b_, m_, call1_, call2_, call3_, call4_, call5_, neg_, slice_, none_, some_, rev_, comp_, gtup_, gn_nil, gn_cons, wipe_n, wipe_c, iseq_, sq_t, sq_r, r1_, r2_, add_i, add_s, add_t, sub_i, mul_i, int_o, cmp_o, isn_, ix_t, ix_r, ix_s, len_t2, len_t3, len_t4, len_t5, len_r, int1_i, two_, tuple_t, tuple_r, list_t, list_r, str_i, sl_t, sl_r, rev_t, rev_r, lo_l, lo_r, isi_t_t, isi_i_t, isi_s_s, isi_i_i, isi_i_b, isi_b_b, at0, at1, at2, at3, eq_i, eq_s, ol_s, vr_s, tb_b, ti_i, Br_t, Br_f, List.getElem?_cons_zero, List.getElem?_cons_succ, List.set_cons_zero, List.set_cons_succ, true_and, eq_self, Bool.not_true, Bool.not_false, Bool.false_eq_true, if_true, if_false, Nat.reduceLeDiff, ite_true, ite_false]); (repeat (refine Nx.mk ?_; try simp only [skip_, seqset_, seqdrop_, seqasg_, ret_, retN_, if_, drop_, set_, asg_, for_, raise0_, raise1_, var_, c_, c2_, test_, and_, or_, not_, andV_, orV_, notV_, nil_, cons_, tup0_, tup1_, tup2_, tup3_, tup4_, tup5_, lst0_, lst1_, lst2_, lst3_, lst4_, lst5_, lst6_, lst7_, lst8_, lst9_, lst10_, lstv1_, lstv2_, lstv3_, lstv4_, lstv5_, b_, m_, call1_, call2_, call3_, call4_, call5_, neg_, slice_, none_, some_, rev_, comp_, gtup_, gn_nil, gn_cons, wipe_n, wipe_c, iseq_, sq_t, sq_r, r1_, r2_, add_i, add_s, add_t, sub_i, mul_i, int_o, cmp_o, isn_, ix_t, ix_r, ix_s, len_t2, len_t3, len_t4, len_t5, len_r, int1_i, two_, tuple_t, tuple_r, list_t, list_r, str_i, sl_t, sl_r, rev_t, rev_r, lo_l, lo_r, isi_t_t, isi_i_t, isi_s_s, isi_i_i, isi_i_b, isi_b_b, at0, at1, at2, at3, eq_i, eq_s, ol_s, vr_s, tb_b, ti_i, Br_t, Br_f, List.getElem?_cons_zero, List.getElem?_cons_succ, List.set_cons_zero, List.set_cons_succ, true_and, eq_self, Bool.not_true, Bool.not_false, Bool.false_eq_true, if_true, if_false, Nat.reduceLeDiff, ite_true, ite_false]))
    exact hE h _ x1
  · rintro _ M1 ⟨rfl, x1, hh⟩
    (try refine Nx.mk ?_); rw [seq_]
    (try simp only [skip_, seqset_, seqdrop_, seqasg_, ret_, retN_, if_, drop_, set_, asg_, for_, raise0_, raise1_, var_, c_, c2_, test_, and_, or_, not_, andV_, orV_, notV_, nil_, cons_, tup0_, tup1_, tup2_, tup3_, tup4_, tup5_, lst0_, lst1_, lst2_, lst3_, lst4_, lst5_, lst6_, lst7_, lst8_, lst9_, lst10_, lstv1_, lstv2_, lstv3_, lstv4_, lstv5_, b_, m_, call1_, call2_, call3_, call4_, call5_, neg_, slice_, none_, some_, rev_, comp_, gtup_, gn_nil, gn_cons, wipe_n, wipe_c, iseq_, sq_t, sq_r, r1_, r2_, add_i, add_s, add_t, sub_i, mul_i, int_o, cmp_o, isn_, ix_t, ix_r, ix_s, len_t2, len_t3, len_t4, len_t5, len_r, int1_i, two_, tuple_t, tuple_r, list_t, list_r, str_i, sl_t, sl_r, rev_t, rev_r, lo_l, lo_r, isi_t_t, isi_i_t, isi_s_s, isi_i_i, isi_i_b, isi_b_b, at0, at1, at2, at3, eq_i, eq_s, ol_s, vr_s, tb_b, ti_i, Br_t, Br_f, List.getElem?_cons_zero, List.getElem?_cons_succ, List.set_cons_zero, List.set_cons_succ, true_and, eq_self, Bool.not_true, Bool.not_false, Bool.false_eq_true, if_true, if_false, Nat.reduceLeDiff, ite_true, ite_false]); (repeat (refine Nx.mk ?_; try simp only [skip_, seqset_, seqdrop_, seqasg_, ret_, retN_, if_, drop_, set_, asg_, for_, raise0_, raise1_, var_, c_, c2_, test_, and_, or_, not_, andV_, orV_, notV_, nil_, cons_, tup0_, tup1_, tup2_, tup3_, tup4_, tup5_, lst0_, lst1_, lst2_, lst3_, lst4_, lst5_, lst6_, lst7_, lst8_, lst9_, lst10_, lstv1_, lstv2_, lstv3_, lstv4_, lstv5_, b_, m_, call1_, call2_, call3_, call4_, call5_, neg_, slice_, none_, some_, rev_, comp_, gtup_, gn_nil, gn_cons, wipe_n, wipe_c, iseq_, sq_t, sq_r, r1_, r2_, add_i, add_s, add_t, sub_i, mul_i, int_o, cmp_o, isn_, ix_t, ix_r, ix_s, len_t2, len_t3, len_t4, len_t5, len_r, int1_i, two_, tuple_t, tuple_r, list_t, list_r, str_i, sl_t, sl_r, rev_t, rev_r, lo_l, lo_r, isi_t_t, isi_i_t, isi_s_s, isi_i_i, isi_i_b, isi_b_b, at0, at1, at2, at3, eq_i, eq_s, ol_s, vr_s, tb_b, ti_i, Br_t, Br_f, List.getElem?_cons_zero, List.getElem?_cons_succ, List.set_cons_zero, List.set_cons_succ, true_and, eq_self, Bool.not_true, Bool.not_false, Bool.false_eq_true, if_true, if_false, Nat.reduceLeDiff, ite_true, ite_false]))
    refine are_runs_sp _ ?_
    (try simp only [skip_, seqset_, seqdrop_, seqasg_, ret_, retN_, if_, drop_, set_, asg_, for_, raise0_, raise1_, var_, c_, c2_, test_, and_, or_, not_, andV_, orV_, notV_, nil_, cons_, tup0_, tup1_, tup2_, tup3_, tup4_, tup5_, lst0_, lst1_, lst2_, lst3_, lst4_, lst5_, lst6_, lst7_, lst8_, lst9_, lst10_, lstv1_, lstv2_, lstv3_, lstv4_, lstv5_, b_, m_, call1_, call2_, call3_, call4_, call5_, neg_, slice_, none_, some_, rev_, comp_, gtup_, gn_nil, gn_cons, wipe_n, wipe_c, iseq_, sq_t, sq_r, r1_, r2_, add_i, add_s, add_t, sub_i, mul_i, int_o, cmp_o, isn_, ix_t, ix_r, ix_s, len_t2, len_t3, len_t4, len_t5, len_r, int1_i, two_, tuple_t, tuple_r, list_t, list_r, str_i, sl_t, sl_r, rev_t, rev_r, lo_l, lo_r, isi_t_t, isi_i_t, isi_s_s, isi_i_i, isi_i_b, isi_b_b, at0, at1, at2, at3, eq_i, eq_s, ol_s, vr_s, tb_b, ti_i, Br_t, Br_f, List.getElem?_cons_zero, List.getElem?_cons_succ, List.set_cons_zero, List.set_cons_succ, true_and, eq_self, Bool.not_true, Bool.not_false, Bool.false_eq_true, if_true, if_false, Nat.reduceLeDiff, ite_true, ite_false]); (repeat (refine Nx.mk ?_; try simp only [skip_, seqset_, seqdrop_, seqasg_, ret_, retN_, if_, drop_, set_, asg_, for_, raise0_, raise1_, var_, c_, c2_, test_, and_, or_, not_, andV_, orV_, notV_, nil_, cons_, tup0_, tup1_, tup2_, tup3_, tup4_, tup5_, lst0_, lst1_, lst2_, lst3_, lst4_, lst5_, lst6_, lst7_, lst8_, lst9_, lst10_, lstv1_, lstv2_, lstv3_, lstv4_, lstv5_, b_, m_, call1_, call2_, call3_, call4_, call5_, neg_, slice_, none_, some_, rev_, comp_, gtup_, gn_nil, gn_cons, wipe_n, wipe_c, iseq_, sq_t, sq_r, r1_, r2_, add_i, add_s, add_t, sub_i, mul_i, int_o, cmp_o, isn_, ix_t, ix_r, ix_s, len_t2, len_t3, len_t4, len_t5, len_r, int1_i, two_, tuple_t, tuple_r, list_t, list_r, str_i, sl_t, sl_r, rev_t, rev_r, lo_l, lo_r, isi_t_t, isi_i_t, isi_s_s, isi_i_i, isi_i_b, isi_b_b, at0, at1, at2, at3, eq_i, eq_s, ol_s, vr_s, tb_b, ti_i, Br_t, Br_f, List.getElem?_cons_zero, List.getElem?_cons_succ, List.set_cons_zero, List.set_cons_succ, true_and, eq_self, Bool.not_true, Bool.not_false, Bool.false_eq_true, if_true, if_false, Nat.reduceLeDiff, ite_true, ite_false]))
    exact hQ hh _ x1
end
end K61

namespace K61
open PySem PySem.Spec PyProof.Rows L2 CL CP
section
variable {K : PySem.W.Frag} {g : Cs} {M : Mm} {Q : CK} {E : CL.CX}
theorem runs_sp {a : Addr} {zs : List Int} {k : Int} {ls : List Lt} (U : Uq ls) (hz : lstOf (M a) = some (zs.map .int)) (hk : 0 ≤ k ∧ k < 1000)
    (hQ : ∀ (rs : List Rn) (sh : Int) M', MX M M' → (∀ r ∈ rs, Ok ls r ∧ r.en ≤ 9999) → rs.length ≤ 8 → Q (.tup [.tup (rs.map Rn.d), .int sh]) M') : cf_l_runs K g [.ref a, .int k, .tup (ls.map Lt.d), .int 8] M Q E := by
  unfold cf_l_runs cfOf
  rw [show startD 13 [.ref a, .int k, .tup (ls.map Lt.d), .int 8] = [some (.ref a), some (.int k), some (.tup (ls.map Lt.d)), some (.int 8), none, none, none, none, none, none, none, none, none] from rfl]
  unfold R_l_runs
  (try simp only [skip_, seqset_, seqdrop_, seqasg_, ret_, retN_, if_, drop_, set_, asg_, for_, raise0_, raise1_, var_, c_, c2_, test_, and_, or_, not_, andV_, orV_, notV_, nil_, cons_, tup0_, tup1_, tup2_, tup3_, tup4_, tup5_, lst0_, lst1_, lst2_, lst3_, lst4_, lst5_, lst6_, lst7_, lst8_, lst9_, lst10_, lstv1_, lstv2_, lstv3_, lstv4_, lstv5_, b_, m_, call1_, call2_, call3_, call4_, call5_, neg_, slice_, none_, some_, rev_, comp_, gtup_, gn_nil, gn_cons, wipe_n, wipe_c, iseq_, sq_t, sq_r, r1_, r2_, add_i, add_s, add_t, sub_i, mul_i, int_o, cmp_o, isn_, ix_t, ix_r, ix_s, len_t2, len_t3, len_t4, len_t5, len_r, int1_i, two_, tuple_t, tuple_r, list_t, list_r, str_i, sl_t, sl_r, rev_t, rev_r, lo_l, lo_r, isi_t_t, isi_i_t, isi_s_s, isi_i_i, isi_i_b, isi_b_b, at0, at1, at2, at3, eq_i, eq_s, ol_s, vr_s, tb_b, ti_i, Br_t, Br_f, List.getElem?_cons_zero, List.getElem?_cons_succ, List.set_cons_zero, List.set_cons_succ, true_and, eq_self, Bool.not_true, Bool.not_false, Bool.false_eq_true, if_true, if_false, Nat.reduceLeDiff, ite_true, ite_false]); (repeat (refine Nx.mk ?_; try simp only [skip_, seqset_, seqdrop_, seqasg_, ret_, retN_, if_, drop_, set_, asg_, for_, raise0_, raise1_, var_, c_, c2_, test_, and_, or_, not_, andV_, orV_, notV_, nil_, cons_, tup0_, tup1_, tup2_, tup3_, tup4_, tup5_, lst0_, lst1_, lst2_, lst3_, lst4_, lst5_, lst6_, lst7_, lst8_, lst9_, lst10_, lstv1_, lstv2_, lstv3_, lstv4_, lstv5_, b_, m_, call1_, call2_, call3_, call4_, call5_, neg_, slice_, none_, some_, rev_, comp_, gtup_, gn_nil, gn_cons, wipe_n, wipe_c, iseq_, sq_t, sq_r, r1_, r2_, add_i, add_s, add_t, sub_i, mul_i, int_o, cmp_o, isn_, ix_t, ix_r, ix_s, len_t2, len_t3, len_t4, len_t5, len_r, int1_i, two_, tuple_t, tuple_r, list_t, list_r, str_i, sl_t, sl_r, rev_t, rev_r, lo_l, lo_r, isi_t_t, isi_i_t, isi_s_s, isi_i_i, isi_i_b, isi_b_b, at0, at1, at2, at3, eq_i, eq_s, ol_s, vr_s, tb_b, ti_i, Br_t, Br_f, List.getElem?_cons_zero, List.getElem?_cons_succ, List.set_cons_zero, List.set_cons_succ, true_and, eq_self, Bool.not_true, Bool.not_false, Bool.false_eq_true, if_true, if_false, Nat.reduceLeDiff, ite_true, ite_false]))
  refine newL_i fun p1 M1 hp1 x1 e1 => draws_sp (ss := [8 + 1]) (mx_ol x1 hz) hk (lst_ol e1) (by decide) (by decide) fun p2 ds2 r2 M2 hp2 x2 e2 D2 => ?_
  have b0 := D2.bd 0 (8 + 1) rfl
  have a0 := D2.at_ 0 (by decide) (by decide)
  simp only [Int.natCast_zero] at b0
  (try simp only [skip_, seqset_, seqdrop_, seqasg_, ret_, retN_, if_, drop_, set_, asg_, for_, raise0_, raise1_, var_, c_, c2_, test_, and_, or_, not_, andV_, orV_, notV_, nil_, cons_, tup0_, tup1_, tup2_, tup3_, tup4_, tup5_, lst0_, lst1_, lst2_, lst3_, lst4_, lst5_, lst6_, lst7_, lst8_, lst9_, lst10_, lstv1_, lstv2_, lstv3_, lstv4_, lstv5_, b_, m_, call1_, call2_, call3_, call4_, call5_, neg_, slice_, none_, some_, rev_, comp_, gtup_, gn_nil, gn_cons, wipe_n, wipe_c, iseq_, sq_t, sq_r, r1_, r2_, add_i, add_s, add_t, sub_i, mul_i, int_o, cmp_o, isn_, ix_t, ix_r, ix_s, len_t2, len_t3, len_t4, len_t5, len_r, int1_i, two_, tuple_t, tuple_r, list_t, list_r, str_i, sl_t, sl_r, rev_t, rev_r, lo_l, lo_r, isi_t_t, isi_i_t, isi_s_s, isi_i_i, isi_i_b, isi_b_b, at0, at1, at2, at3, eq_i, eq_s, ol_s, vr_s, tb_b, ti_i, Br_t, Br_f, List.getElem?_cons_zero, List.getElem?_cons_succ, List.set_cons_zero, List.set_cons_succ, true_and, eq_self, Bool.not_true, Bool.not_false, Bool.false_eq_true, if_true, if_false, Nat.reduceLeDiff, ite_true, ite_false, lst_ol e2, a0]); (repeat (refine Nx.mk ?_; try simp only [skip_, seqset_, seqdrop_, seqasg_, ret_, retN_, if_, drop_, set_, asg_, for_, raise0_, raise1_, var_, c_, c2_, test_, and_, or_, not_, andV_, orV_, notV_, nil_, cons_, tup0_, tup1_, tup2_, tup3_, tup4_, tup5_, lst0_, lst1_, lst2_, lst3_, lst4_, lst5_, lst6_, lst7_, lst8_, lst9_, lst10_, lstv1_, lstv2_, lstv3_, lstv4_, lstv5_, b_, m_, call1_, call2_, call3_, call4_, call5_, neg_, slice_, none_, some_, rev_, comp_, gtup_, gn_nil, gn_cons, wipe_n, wipe_c, iseq_, sq_t, sq_r, r1_, r2_, add_i, add_s, add_t, sub_i, mul_i, int_o, cmp_o, isn_, ix_t, ix_r, ix_s, len_t2, len_t3, len_t4, len_t5, len_r, int1_i, two_, tuple_t, tuple_r, list_t, list_r, str_i, sl_t, sl_r, rev_t, rev_r, lo_l, lo_r, isi_t_t, isi_i_t, isi_s_s, isi_i_i, isi_i_b, isi_b_b, at0, at1, at2, at3, eq_i, eq_s, ol_s, vr_s, tb_b, ti_i, Br_t, Br_f, List.getElem?_cons_zero, List.getElem?_cons_succ, List.set_cons_zero, List.set_cons_succ, true_and, eq_self, Bool.not_true, Bool.not_false, Bool.false_eq_true, if_true, if_false, Nat.reduceLeDiff, ite_true, ite_false, lst_ol e2, a0]))
  obtain ⟨many, hm⟩ : ∃ m : Nat, r2 0 = m := ⟨(r2 0).toNat, by omega⟩
  rw [hm]
  refine newL_i fun p3 M3 hp3 x3 e3 => newL_i fun p4 M4 hp4 x4 e4 => ?_
  rw [repl_ (xs := [12, 2, 26, 5].map D.int) e4, rep_map]
  refine ⟨by omega, by omega, size_le (by simp; omega), newL_i fun p5 M5 hp5 x5 e5 => ?_⟩
  rw [add_l (xs := [8 + 1, 6].map D.int) (x5 _ _ (x4 _ _ e3)) e5, ← List.map_append]
  refine ⟨size_le (by simp; omega), newL_i fun p6 M6 hp6 x6 e6 => ?_⟩
  simp only [Int.toNat_natCast] at e6
  have X6 : MX M M6 := mxT x1 (mxT x2 (mxT x3 (mxT x4 (mxT x5 x6))))
  have hlen : ([8 + 1, 6] ++ (List.replicate many [12, 2, 26, 5]).flatten : List Int).length = 2 + 4 * many := by simp; omega
  refine draws_sp (mx_ol X6 hz) hk (lst_ol e6) (fun x hx => ?_) (by rw [hlen]; omega) fun pd ds r MD hpd xD eD Dd => ?_
  · rw [List.mem_append] at hx
    rcases hx with hx | hx
    · simp at hx; omega
    · have := rep_mem hx; simp at this; omega
  have XD := mxT X6 xD
  have atD : ∀ i : Int, 0 ≤ i → i < 2 + 4 * (many : Int) → atI ds i = some (.int (r i)) := fun i h1 h2 => Dd.at_ i h1 (by rw [hlen]; omega)
  have bd : ∀ (j m : Nat) (s : Int), j < many → [12, 2, 26, 5][m]? = some s → 0 ≤ r (2 + 4 * (j : Int) + (m : Int)) ∧ r (2 + 4 * (j : Int) + (m : Int)) < s := fun j m s hj hm4 => by
    have hm5 : m < 4 := (List.getElem?_eq_some_iff.mp hm4).1
    have := Dd.bd (2 + 4 * j + m) s (by
      have q := rep_at [12, 2, 26, 5] many j m hj hm5
      simp only [List.length_cons, List.length_nil] at q
      rw [List.getElem?_append_right (by simp; omega)]
      rw [show 2 + 4 * j + m - ([8 + 1, 6] : List Int).length = j * (0 + 1 + 1 + 1 + 1) + m by (simp; omega), q]
      exact hm4)
    simpa using this
  (try simp only [skip_, seqset_, seqdrop_, seqasg_, ret_, retN_, if_, drop_, set_, asg_, for_, raise0_, raise1_, var_, c_, c2_, test_, and_, or_, not_, andV_, orV_, notV_, nil_, cons_, tup0_, tup1_, tup2_, tup3_, tup4_, tup5_, lst0_, lst1_, lst2_, lst3_, lst4_, lst5_, lst6_, lst7_, lst8_, lst9_, lst10_, lstv1_, lstv2_, lstv3_, lstv4_, lstv5_, b_, m_, call1_, call2_, call3_, call4_, call5_, neg_, slice_, none_, some_, rev_, comp_, gtup_, gn_nil, gn_cons, wipe_n, wipe_c, iseq_, sq_t, sq_r, r1_, r2_, add_i, add_s, add_t, sub_i, mul_i, int_o, cmp_o, isn_, ix_t, ix_r, ix_s, len_t2, len_t3, len_t4, len_t5, len_r, int1_i, two_, tuple_t, tuple_r, list_t, list_r, str_i, sl_t, sl_r, rev_t, rev_r, lo_l, lo_r, isi_t_t, isi_i_t, isi_s_s, isi_i_i, isi_i_b, isi_b_b, at0, at1, at2, at3, eq_i, eq_s, ol_s, vr_s, tb_b, ti_i, Br_t, Br_f, List.getElem?_cons_zero, List.getElem?_cons_succ, List.set_cons_zero, List.set_cons_succ, true_and, eq_self, Bool.not_true, Bool.not_false, Bool.false_eq_true, if_true, if_false, Nat.reduceLeDiff, ite_true, ite_false]); (repeat (refine Nx.mk ?_; try simp only [skip_, seqset_, seqdrop_, seqasg_, ret_, retN_, if_, drop_, set_, asg_, for_, raise0_, raise1_, var_, c_, c2_, test_, and_, or_, not_, andV_, orV_, notV_, nil_, cons_, tup0_, tup1_, tup2_, tup3_, tup4_, tup5_, lst0_, lst1_, lst2_, lst3_, lst4_, lst5_, lst6_, lst7_, lst8_, lst9_, lst10_, lstv1_, lstv2_, lstv3_, lstv4_, lstv5_, b_, m_, call1_, call2_, call3_, call4_, call5_, neg_, slice_, none_, some_, rev_, comp_, gtup_, gn_nil, gn_cons, wipe_n, wipe_c, iseq_, sq_t, sq_r, r1_, r2_, add_i, add_s, add_t, sub_i, mul_i, int_o, cmp_o, isn_, ix_t, ix_r, ix_s, len_t2, len_t3, len_t4, len_t5, len_r, int1_i, two_, tuple_t, tuple_r, list_t, list_r, str_i, sl_t, sl_r, rev_t, rev_r, lo_l, lo_r, isi_t_t, isi_i_t, isi_s_s, isi_i_i, isi_i_b, isi_b_b, at0, at1, at2, at3, eq_i, eq_s, ol_s, vr_s, tb_b, ti_i, Br_t, Br_f, List.getElem?_cons_zero, List.getElem?_cons_succ, List.set_cons_zero, List.set_cons_succ, true_and, eq_self, Bool.not_true, Bool.not_false, Bool.false_eq_true, if_true, if_false, Nat.reduceLeDiff, ite_true, ite_false]))
  refine newL_i fun pr MR hpr xR eR => ?_
  (try simp only [skip_, seqset_, seqdrop_, seqasg_, ret_, retN_, if_, drop_, set_, asg_, for_, raise0_, raise1_, var_, c_, c2_, test_, and_, or_, not_, andV_, orV_, notV_, nil_, cons_, tup0_, tup1_, tup2_, tup3_, tup4_, tup5_, lst0_, lst1_, lst2_, lst3_, lst4_, lst5_, lst6_, lst7_, lst8_, lst9_, lst10_, lstv1_, lstv2_, lstv3_, lstv4_, lstv5_, b_, m_, call1_, call2_, call3_, call4_, call5_, neg_, slice_, none_, some_, rev_, comp_, gtup_, gn_nil, gn_cons, wipe_n, wipe_c, iseq_, sq_t, sq_r, r1_, r2_, add_i, add_s, add_t, sub_i, mul_i, int_o, cmp_o, isn_, ix_t, ix_r, ix_s, len_t2, len_t3, len_t4, len_t5, len_r, int1_i, two_, tuple_t, tuple_r, list_t, list_r, str_i, sl_t, sl_r, rev_t, rev_r, lo_l, lo_r, isi_t_t, isi_i_t, isi_s_s, isi_i_i, isi_i_b, isi_b_b, at0, at1, at2, at3, eq_i, eq_s, ol_s, vr_s, tb_b, ti_i, Br_t, Br_f, List.getElem?_cons_zero, List.getElem?_cons_succ, List.set_cons_zero, List.set_cons_succ, true_and, eq_self, Bool.not_true, Bool.not_false, Bool.false_eq_true, if_true, if_false, Nat.reduceLeDiff, ite_true, ite_false]); (repeat (refine Nx.mk ?_; try simp only [skip_, seqset_, seqdrop_, seqasg_, ret_, retN_, if_, drop_, set_, asg_, for_, raise0_, raise1_, var_, c_, c2_, test_, and_, or_, not_, andV_, orV_, notV_, nil_, cons_, tup0_, tup1_, tup2_, tup3_, tup4_, tup5_, lst0_, lst1_, lst2_, lst3_, lst4_, lst5_, lst6_, lst7_, lst8_, lst9_, lst10_, lstv1_, lstv2_, lstv3_, lstv4_, lstv5_, b_, m_, call1_, call2_, call3_, call4_, call5_, neg_, slice_, none_, some_, rev_, comp_, gtup_, gn_nil, gn_cons, wipe_n, wipe_c, iseq_, sq_t, sq_r, r1_, r2_, add_i, add_s, add_t, sub_i, mul_i, int_o, cmp_o, isn_, ix_t, ix_r, ix_s, len_t2, len_t3, len_t4, len_t5, len_r, int1_i, two_, tuple_t, tuple_r, list_t, list_r, str_i, sl_t, sl_r, rev_t, rev_r, lo_l, lo_r, isi_t_t, isi_i_t, isi_s_s, isi_i_i, isi_i_b, isi_b_b, at0, at1, at2, at3, eq_i, eq_s, ol_s, vr_s, tb_b, ti_i, Br_t, Br_f, List.getElem?_cons_zero, List.getElem?_cons_succ, List.set_cons_zero, List.set_cons_succ, true_and, eq_self, Bool.not_true, Bool.not_false, Bool.false_eq_true, if_true, if_false, Nat.reduceLeDiff, ite_true, ite_false]))
  (try refine Nx.mk ?_); refine seq_m (fun ρ' M' => ∃ (o8 o10 o11 : Option D) (last : Int) (rs : List Rn), ρ' = [some (.ref a), some (.int k), some (.tup (ls.map Lt.d)), some (.int 8), some (.int many), some (.ref pd), some (.ref pr), some (.int last), o8, none, o10, o11, none] ∧ MX MD M' ∧ M' pr = some (.lst (rs.map Rn.d)) ∧ rs.length = many ∧ (0 ≤ last ∧ last < 1000) ∧ ∀ r ∈ rs, Ok ls r ∧ r.en ≤ last) (fun Kn hK => ?_) ?_
  · (try simp only [skip_, seqset_, seqdrop_, seqasg_, ret_, retN_, if_, drop_, set_, asg_, for_, raise0_, raise1_, var_, c_, c2_, test_, and_, or_, not_, andV_, orV_, notV_, nil_, cons_, tup0_, tup1_, tup2_, tup3_, tup4_, tup5_, lst0_, lst1_, lst2_, lst3_, lst4_, lst5_, lst6_, lst7_, lst8_, lst9_, lst10_, lstv1_, lstv2_, lstv3_, lstv4_, lstv5_, b_, m_, call1_, call2_, call3_, call4_, call5_, neg_, slice_, none_, some_, rev_, comp_, gtup_, gn_nil, gn_cons, wipe_n, wipe_c, iseq_, sq_t, sq_r, r1_, r2_, add_i, add_s, add_t, sub_i, mul_i, int_o, cmp_o, isn_, ix_t, ix_r, ix_s, len_t2, len_t3, len_t4, len_t5, len_r, int1_i, two_, tuple_t, tuple_r, list_t, list_r, str_i, sl_t, sl_r, rev_t, rev_r, lo_l, lo_r, isi_t_t, isi_i_t, isi_s_s, isi_i_i, isi_i_b, isi_b_b, at0, at1, at2, at3, eq_i, eq_s, ol_s, vr_s, tb_b, ti_i, Br_t, Br_f, List.getElem?_cons_zero, List.getElem?_cons_succ, List.set_cons_zero, List.set_cons_succ, true_and, eq_self, Bool.not_true, Bool.not_false, Bool.false_eq_true, if_true, if_false, Nat.reduceLeDiff, ite_true, ite_false]); (repeat (refine Nx.mk ?_; try simp only [skip_, seqset_, seqdrop_, seqasg_, ret_, retN_, if_, drop_, set_, asg_, for_, raise0_, raise1_, var_, c_, c2_, test_, and_, or_, not_, andV_, orV_, notV_, nil_, cons_, tup0_, tup1_, tup2_, tup3_, tup4_, tup5_, lst0_, lst1_, lst2_, lst3_, lst4_, lst5_, lst6_, lst7_, lst8_, lst9_, lst10_, lstv1_, lstv2_, lstv3_, lstv4_, lstv5_, b_, m_, call1_, call2_, call3_, call4_, call5_, neg_, slice_, none_, some_, rev_, comp_, gtup_, gn_nil, gn_cons, wipe_n, wipe_c, iseq_, sq_t, sq_r, r1_, r2_, add_i, add_s, add_t, sub_i, mul_i, int_o, cmp_o, isn_, ix_t, ix_r, ix_s, len_t2, len_t3, len_t4, len_t5, len_r, int1_i, two_, tuple_t, tuple_r, list_t, list_r, str_i, sl_t, sl_r, rev_t, rev_r, lo_l, lo_r, isi_t_t, isi_i_t, isi_s_s, isi_i_i, isi_i_b, isi_b_b, at0, at1, at2, at3, eq_i, eq_s, ol_s, vr_s, tb_b, ti_i, Br_t, Br_f, List.getElem?_cons_zero, List.getElem?_cons_succ, List.set_cons_zero, List.set_cons_succ, true_and, eq_self, Bool.not_true, Bool.not_false, Bool.false_eq_true, if_true, if_false, Nat.reduceLeDiff, ite_true, ite_false]))
    refine ⟨by omega, for_0 (fun n ρ' M' => ∃ (o8 o10 o11 : Option D) (last : Int) (rs : List Rn), ρ' = [some (.ref a), some (.int k), some (.tup (ls.map Lt.d)), some (.int 8), some (.int many), some (.ref pd), some (.ref pr), some (.int last), o8, none, o10, o11, none] ∧ MX MD M' ∧ M' pr = some (.lst (rs.map Rn.d)) ∧ rs.length = n ∧ (0 ≤ last ∧ last < 1000) ∧ ∀ r ∈ rs, Ok ls r ∧ r.en ≤ last) ⟨_, _, _, 0, [], rfl, xR, eR, rfl, by decide, fun r h => by cases h⟩ (fun _ _ _ _ _ => trivial) ?_ ?_⟩
    · rintro n d hd _ M' ⟨o8, o10, o11, last, rs, rfl, x, e, hn, hla, hb⟩
      obtain ⟨hn2, rfl⟩ := rng_at hd
      have hn2 : n < many := by simpa using hn2
      refine ⟨_, rfl, fun Kn2 hK2 => ?_⟩
      (try simp (disch := omega) only [skip_, seqset_, seqdrop_, seqasg_, ret_, retN_, if_, drop_, set_, asg_, for_, raise0_, raise1_, var_, c_, c2_, test_, and_, or_, not_, andV_, orV_, notV_, nil_, cons_, tup0_, tup1_, tup2_, tup3_, tup4_, tup5_, lst0_, lst1_, lst2_, lst3_, lst4_, lst5_, lst6_, lst7_, lst8_, lst9_, lst10_, lstv1_, lstv2_, lstv3_, lstv4_, lstv5_, b_, m_, call1_, call2_, call3_, call4_, call5_, neg_, slice_, none_, some_, rev_, comp_, gtup_, gn_nil, gn_cons, wipe_n, wipe_c, iseq_, sq_t, sq_r, r1_, r2_, add_i, add_s, add_t, sub_i, mul_i, int_o, cmp_o, isn_, ix_t, ix_r, ix_s, len_t2, len_t3, len_t4, len_t5, len_r, int1_i, two_, tuple_t, tuple_r, list_t, list_r, str_i, sl_t, sl_r, rev_t, rev_r, lo_l, lo_r, isi_t_t, isi_i_t, isi_s_s, isi_i_i, isi_i_b, isi_b_b, at0, at1, at2, at3, eq_i, eq_s, ol_s, vr_s, tb_b, ti_i, Br_t, Br_f, List.getElem?_cons_zero, List.getElem?_cons_succ, List.set_cons_zero, List.set_cons_succ, true_and, eq_self, Bool.not_true, Bool.not_false, Bool.false_eq_true, if_true, if_false, Nat.reduceLeDiff, ite_true, ite_false, Int.zero_add]); (repeat (refine Nx.mk ?_; try simp (disch := omega) only [skip_, seqset_, seqdrop_, seqasg_, ret_, retN_, if_, drop_, set_, asg_, for_, raise0_, raise1_, var_, c_, c2_, test_, and_, or_, not_, andV_, orV_, notV_, nil_, cons_, tup0_, tup1_, tup2_, tup3_, tup4_, tup5_, lst0_, lst1_, lst2_, lst3_, lst4_, lst5_, lst6_, lst7_, lst8_, lst9_, lst10_, lstv1_, lstv2_, lstv3_, lstv4_, lstv5_, b_, m_, call1_, call2_, call3_, call4_, call5_, neg_, slice_, none_, some_, rev_, comp_, gtup_, gn_nil, gn_cons, wipe_n, wipe_c, iseq_, sq_t, sq_r, r1_, r2_, add_i, add_s, add_t, sub_i, mul_i, int_o, cmp_o, isn_, ix_t, ix_r, ix_s, len_t2, len_t3, len_t4, len_t5, len_r, int1_i, two_, tuple_t, tuple_r, list_t, list_r, str_i, sl_t, sl_r, rev_t, rev_r, lo_l, lo_r, isi_t_t, isi_i_t, isi_s_s, isi_i_i, isi_i_b, isi_b_b, at0, at1, at2, at3, eq_i, eq_s, ol_s, vr_s, tb_b, ti_i, Br_t, Br_f, List.getElem?_cons_zero, List.getElem?_cons_succ, List.set_cons_zero, List.set_cons_succ, true_and, eq_self, Bool.not_true, Bool.not_false, Bool.false_eq_true, if_true, if_false, Nat.reduceLeDiff, ite_true, ite_false, Int.zero_add]))
      refine ⟨Or.inl ⟨by decide, by decide⟩, ?_⟩
      have hpos : (0 : Int) < (ls.length : Int) := by have := U.ne; omega
      (try simp (disch := omega) only [skip_, seqset_, seqdrop_, seqasg_, ret_, retN_, if_, drop_, set_, asg_, for_, raise0_, raise1_, var_, c_, c2_, test_, and_, or_, not_, andV_, orV_, notV_, nil_, cons_, tup0_, tup1_, tup2_, tup3_, tup4_, tup5_, lst0_, lst1_, lst2_, lst3_, lst4_, lst5_, lst6_, lst7_, lst8_, lst9_, lst10_, lstv1_, lstv2_, lstv3_, lstv4_, lstv5_, b_, m_, call1_, call2_, call3_, call4_, call5_, neg_, slice_, none_, some_, rev_, comp_, gtup_, gn_nil, gn_cons, wipe_n, wipe_c, iseq_, sq_t, sq_r, r1_, r2_, add_i, add_s, add_t, sub_i, mul_i, int_o, cmp_o, isn_, ix_t, ix_r, ix_s, len_t2, len_t3, len_t4, len_t5, len_r, int1_i, two_, tuple_t, tuple_r, list_t, list_r, str_i, sl_t, sl_r, rev_t, rev_r, lo_l, lo_r, isi_t_t, isi_i_t, isi_s_s, isi_i_i, isi_i_b, isi_b_b, at0, at1, at2, at3, eq_i, eq_s, ol_s, vr_s, tb_b, ti_i, Br_t, Br_f, List.getElem?_cons_zero, List.getElem?_cons_succ, List.set_cons_zero, List.set_cons_succ, true_and, eq_self, Bool.not_true, Bool.not_false, Bool.false_eq_true, if_true, if_false, Nat.reduceLeDiff, ite_true, ite_false, Int.zero_add, mx_ol x (lst_ol eD), atD, len_t]); (repeat (refine Nx.mk ?_; try simp (disch := omega) only [skip_, seqset_, seqdrop_, seqasg_, ret_, retN_, if_, drop_, set_, asg_, for_, raise0_, raise1_, var_, c_, c2_, test_, and_, or_, not_, andV_, orV_, notV_, nil_, cons_, tup0_, tup1_, tup2_, tup3_, tup4_, tup5_, lst0_, lst1_, lst2_, lst3_, lst4_, lst5_, lst6_, lst7_, lst8_, lst9_, lst10_, lstv1_, lstv2_, lstv3_, lstv4_, lstv5_, b_, m_, call1_, call2_, call3_, call4_, call5_, neg_, slice_, none_, some_, rev_, comp_, gtup_, gn_nil, gn_cons, wipe_n, wipe_c, iseq_, sq_t, sq_r, r1_, r2_, add_i, add_s, add_t, sub_i, mul_i, int_o, cmp_o, isn_, ix_t, ix_r, ix_s, len_t2, len_t3, len_t4, len_t5, len_r, int1_i, two_, tuple_t, tuple_r, list_t, list_r, str_i, sl_t, sl_r, rev_t, rev_r, lo_l, lo_r, isi_t_t, isi_i_t, isi_s_s, isi_i_i, isi_i_b, isi_b_b, at0, at1, at2, at3, eq_i, eq_s, ol_s, vr_s, tb_b, ti_i, Br_t, Br_f, List.getElem?_cons_zero, List.getElem?_cons_succ, List.set_cons_zero, List.set_cons_succ, true_and, eq_self, Bool.not_true, Bool.not_false, Bool.false_eq_true, if_true, if_false, Nat.reduceLeDiff, ite_true, ite_false, Int.zero_add, mx_ol x (lst_ol eD), atD, len_t]))
      rw [List.length_map]
      refine ⟨by omega, ?_⟩
      have q1 := Int.fmod_nonneg_of_pos (r (2 + 4 * (n : Int))) hpos
      have q2 := Int.fmod_lt_of_pos (r (2 + 4 * (n : Int))) hpos
      obtain ⟨i, hi⟩ : ∃ i : Nat, (r (2 + 4 * (n : Int))).fmod (ls.length : Int) = i := ⟨_, (Int.toNat_of_nonneg q1).symm⟩
      rw [hi] at q2 ⊢
      have hi2 : ls[i]? = some (ls[i]'(by omega)) := List.getElem?_eq_getElem (by omega)
      generalize hlL : ls[i]'(by omega) = l at hi2
      have hpl := U.pos l (List.mem_of_getElem? hi2)
      (try simp only [skip_, seqset_, seqdrop_, seqasg_, ret_, retN_, if_, drop_, set_, asg_, for_, raise0_, raise1_, var_, c_, c2_, test_, and_, or_, not_, andV_, orV_, notV_, nil_, cons_, tup0_, tup1_, tup2_, tup3_, tup4_, tup5_, lst0_, lst1_, lst2_, lst3_, lst4_, lst5_, lst6_, lst7_, lst8_, lst9_, lst10_, lstv1_, lstv2_, lstv3_, lstv4_, lstv5_, b_, m_, call1_, call2_, call3_, call4_, call5_, neg_, slice_, none_, some_, rev_, comp_, gtup_, gn_nil, gn_cons, wipe_n, wipe_c, iseq_, sq_t, sq_r, r1_, r2_, add_i, add_s, add_t, sub_i, mul_i, int_o, cmp_o, isn_, ix_t, ix_r, ix_s, len_t2, len_t3, len_t4, len_t5, len_r, int1_i, two_, tuple_t, tuple_r, list_t, list_r, str_i, sl_t, sl_r, rev_t, rev_r, lo_l, lo_r, isi_t_t, isi_i_t, isi_s_s, isi_i_i, isi_i_b, isi_b_b, at0, at1, at2, at3, eq_i, eq_s, ol_s, vr_s, tb_b, ti_i, Br_t, Br_f, List.getElem?_cons_zero, List.getElem?_cons_succ, List.set_cons_zero, List.set_cons_succ, true_and, eq_self, Bool.not_true, Bool.not_false, Bool.false_eq_true, if_true, if_false, Nat.reduceLeDiff, ite_true, ite_false, atI_of (xs := ls.map Lt.d) (i := (i : Int)) (n := i) (x := l.d) rfl (by rw [List.getElem?_map, hi2]; rfl)]); (repeat (refine Nx.mk ?_; try simp only [skip_, seqset_, seqdrop_, seqasg_, ret_, retN_, if_, drop_, set_, asg_, for_, raise0_, raise1_, var_, c_, c2_, test_, and_, or_, not_, andV_, orV_, notV_, nil_, cons_, tup0_, tup1_, tup2_, tup3_, tup4_, tup5_, lst0_, lst1_, lst2_, lst3_, lst4_, lst5_, lst6_, lst7_, lst8_, lst9_, lst10_, lstv1_, lstv2_, lstv3_, lstv4_, lstv5_, b_, m_, call1_, call2_, call3_, call4_, call5_, neg_, slice_, none_, some_, rev_, comp_, gtup_, gn_nil, gn_cons, wipe_n, wipe_c, iseq_, sq_t, sq_r, r1_, r2_, add_i, add_s, add_t, sub_i, mul_i, int_o, cmp_o, isn_, ix_t, ix_r, ix_s, len_t2, len_t3, len_t4, len_t5, len_r, int1_i, two_, tuple_t, tuple_r, list_t, list_r, str_i, sl_t, sl_r, rev_t, rev_r, lo_l, lo_r, isi_t_t, isi_i_t, isi_s_s, isi_i_i, isi_i_b, isi_b_b, at0, at1, at2, at3, eq_i, eq_s, ol_s, vr_s, tb_b, ti_i, Br_t, Br_f, List.getElem?_cons_zero, List.getElem?_cons_succ, List.set_cons_zero, List.set_cons_succ, true_and, eq_self, Bool.not_true, Bool.not_false, Bool.false_eq_true, if_true, if_false, Nat.reduceLeDiff, ite_true, ite_false, atI_of (xs := ls.map Lt.d) (i := (i : Int)) (n := i) (x := l.d) rfl (by rw [List.getElem?_map, hi2]; rfl)]))
      (try simp only [skip_, seqset_, seqdrop_, seqasg_, ret_, retN_, if_, drop_, set_, asg_, for_, raise0_, raise1_, var_, c_, c2_, test_, and_, or_, not_, andV_, orV_, notV_, nil_, cons_, tup0_, tup1_, tup2_, tup3_, tup4_, tup5_, lst0_, lst1_, lst2_, lst3_, lst4_, lst5_, lst6_, lst7_, lst8_, lst9_, lst10_, lstv1_, lstv2_, lstv3_, lstv4_, lstv5_, b_, m_, call1_, call2_, call3_, call4_, call5_, neg_, slice_, none_, some_, rev_, comp_, gtup_, gn_nil, gn_cons, wipe_n, wipe_c, iseq_, sq_t, sq_r, r1_, r2_, add_i, add_s, add_t, sub_i, mul_i, int_o, cmp_o, isn_, ix_t, ix_r, ix_s, len_t2, len_t3, len_t4, len_t5, len_r, int1_i, two_, tuple_t, tuple_r, list_t, list_r, str_i, sl_t, sl_r, rev_t, rev_r, lo_l, lo_r, isi_t_t, isi_i_t, isi_s_s, isi_i_i, isi_i_b, isi_b_b, at0, at1, at2, at3, eq_i, eq_s, ol_s, vr_s, tb_b, ti_i, Br_t, Br_f, List.getElem?_cons_zero, List.getElem?_cons_succ, List.set_cons_zero, List.set_cons_succ, true_and, eq_self, Bool.not_true, Bool.not_false, Bool.false_eq_true, if_true, if_false, Nat.reduceLeDiff, ite_true, ite_false, ty_l e, Lt.d_eq l]); (repeat (refine Nx.mk ?_; try simp only [skip_, seqset_, seqdrop_, seqasg_, ret_, retN_, if_, drop_, set_, asg_, for_, raise0_, raise1_, var_, c_, c2_, test_, and_, or_, not_, andV_, orV_, notV_, nil_, cons_, tup0_, tup1_, tup2_, tup3_, tup4_, tup5_, lst0_, lst1_, lst2_, lst3_, lst4_, lst5_, lst6_, lst7_, lst8_, lst9_, lst10_, lstv1_, lstv2_, lstv3_, lstv4_, lstv5_, b_, m_, call1_, call2_, call3_, call4_, call5_, neg_, slice_, none_, some_, rev_, comp_, gtup_, gn_nil, gn_cons, wipe_n, wipe_c, iseq_, sq_t, sq_r, r1_, r2_, add_i, add_s, add_t, sub_i, mul_i, int_o, cmp_o, isn_, ix_t, ix_r, ix_s, len_t2, len_t3, len_t4, len_t5, len_r, int1_i, two_, tuple_t, tuple_r, list_t, list_r, str_i, sl_t, sl_r, rev_t, rev_r, lo_l, lo_r, isi_t_t, isi_i_t, isi_s_s, isi_i_i, isi_i_b, isi_b_b, at0, at1, at2, at3, eq_i, eq_s, ol_s, vr_s, tb_b, ti_i, Br_t, Br_f, List.getElem?_cons_zero, List.getElem?_cons_succ, List.set_cons_zero, List.set_cons_succ, true_and, eq_self, Bool.not_true, Bool.not_false, Bool.false_eq_true, if_true, if_false, Nat.reduceLeDiff, ite_true, ite_false, ty_l e, Lt.d_eq l]))
      refine newL_i fun p10 M10 hp10 x10 e10 => ?_
      have b1 := bd n 1 2 hn2 rfl
      have b2 := bd n 2 26 hn2 rfl
      have b3 := bd n 3 5 hn2 rfl
      simp only [Int.natCast_one, Int.cast_ofNat_Int] at b1 b2 b3
      obtain ⟨way, hw⟩ : ∃ way : Str, atI [D.str "out", D.str "home"] (r (2 + 4 * (n : Int) + 1)) = some (.str way) := by
        have : r (2 + 4 * (n : Int) + 1) = 0 ∨ r (2 + 4 * (n : Int) + 1) = 1 := by omega
        rcases this with h | h <;> rw [h]
        · exact ⟨_, atI_of (n := 0) rfl rfl⟩
        · exact ⟨_, atI_of (n := 1) rfl rfl⟩
      have x2' := mxT x x10
      (try simp (disch := omega) only [skip_, seqset_, seqdrop_, seqasg_, ret_, retN_, if_, drop_, set_, asg_, for_, raise0_, raise1_, var_, c_, c2_, test_, and_, or_, not_, andV_, orV_, notV_, nil_, cons_, tup0_, tup1_, tup2_, tup3_, tup4_, tup5_, lst0_, lst1_, lst2_, lst3_, lst4_, lst5_, lst6_, lst7_, lst8_, lst9_, lst10_, lstv1_, lstv2_, lstv3_, lstv4_, lstv5_, b_, m_, call1_, call2_, call3_, call4_, call5_, neg_, slice_, none_, some_, rev_, comp_, gtup_, gn_nil, gn_cons, wipe_n, wipe_c, iseq_, sq_t, sq_r, r1_, r2_, add_i, add_s, add_t, sub_i, mul_i, int_o, cmp_o, isn_, ix_t, ix_r, ix_s, len_t2, len_t3, len_t4, len_t5, len_r, int1_i, two_, tuple_t, tuple_r, list_t, list_r, str_i, sl_t, sl_r, rev_t, rev_r, lo_l, lo_r, isi_t_t, isi_i_t, isi_s_s, isi_i_i, isi_i_b, isi_b_b, at0, at1, at2, at3, eq_i, eq_s, ol_s, vr_s, tb_b, ti_i, Br_t, Br_f, List.getElem?_cons_zero, List.getElem?_cons_succ, List.set_cons_zero, List.set_cons_succ, true_and, eq_self, Bool.not_true, Bool.not_false, Bool.false_eq_true, if_true, if_false, Nat.reduceLeDiff, ite_true, ite_false, mx_ol x2' (lst_ol eD), atD, lst_ol e10, hw, app_ _ (x10 _ _ e)]); (repeat (refine Nx.mk ?_; try simp (disch := omega) only [skip_, seqset_, seqdrop_, seqasg_, ret_, retN_, if_, drop_, set_, asg_, for_, raise0_, raise1_, var_, c_, c2_, test_, and_, or_, not_, andV_, orV_, notV_, nil_, cons_, tup0_, tup1_, tup2_, tup3_, tup4_, tup5_, lst0_, lst1_, lst2_, lst3_, lst4_, lst5_, lst6_, lst7_, lst8_, lst9_, lst10_, lstv1_, lstv2_, lstv3_, lstv4_, lstv5_, b_, m_, call1_, call2_, call3_, call4_, call5_, neg_, slice_, none_, some_, rev_, comp_, gtup_, gn_nil, gn_cons, wipe_n, wipe_c, iseq_, sq_t, sq_r, r1_, r2_, add_i, add_s, add_t, sub_i, mul_i, int_o, cmp_o, isn_, ix_t, ix_r, ix_s, len_t2, len_t3, len_t4, len_t5, len_r, int1_i, two_, tuple_t, tuple_r, list_t, list_r, str_i, sl_t, sl_r, rev_t, rev_r, lo_l, lo_r, isi_t_t, isi_i_t, isi_s_s, isi_i_i, isi_i_b, isi_b_b, at0, at1, at2, at3, eq_i, eq_s, ol_s, vr_s, tb_b, ti_i, Br_t, Br_f, List.getElem?_cons_zero, List.getElem?_cons_succ, List.set_cons_zero, List.set_cons_succ, true_and, eq_self, Bool.not_true, Bool.not_false, Bool.false_eq_true, if_true, if_false, Nat.reduceLeDiff, ite_true, ite_false, mx_ol x2' (lst_ol eD), atD, lst_ol e10, hw, app_ _ (x10 _ _ e)]))
      refine ⟨size_le (by simp; omega), ?_⟩
      have X3 : MX MD (put M10 pr (.lst (rs.map Rn.d ++ [.tup [.str l.nm, .str way, .int (r (2 + 4 * (n : Int) + 2)), .int (1 + r (2 + 4 * (n : Int) + 3))]]))) := mx_put x2' hpr
      (try simp (disch := omega) only [skip_, seqset_, seqdrop_, seqasg_, ret_, retN_, if_, drop_, set_, asg_, for_, raise0_, raise1_, var_, c_, c2_, test_, and_, or_, not_, andV_, orV_, notV_, nil_, cons_, tup0_, tup1_, tup2_, tup3_, tup4_, tup5_, lst0_, lst1_, lst2_, lst3_, lst4_, lst5_, lst6_, lst7_, lst8_, lst9_, lst10_, lstv1_, lstv2_, lstv3_, lstv4_, lstv5_, b_, m_, call1_, call2_, call3_, call4_, call5_, neg_, slice_, none_, some_, rev_, comp_, gtup_, gn_nil, gn_cons, wipe_n, wipe_c, iseq_, sq_t, sq_r, r1_, r2_, add_i, add_s, add_t, sub_i, mul_i, int_o, cmp_o, isn_, ix_t, ix_r, ix_s, len_t2, len_t3, len_t4, len_t5, len_r, int1_i, two_, tuple_t, tuple_r, list_t, list_r, str_i, sl_t, sl_r, rev_t, rev_r, lo_l, lo_r, isi_t_t, isi_i_t, isi_s_s, isi_i_i, isi_i_b, isi_b_b, at0, at1, at2, at3, eq_i, eq_s, ol_s, vr_s, tb_b, ti_i, Br_t, Br_f, List.getElem?_cons_zero, List.getElem?_cons_succ, List.set_cons_zero, List.set_cons_succ, true_and, eq_self, Bool.not_true, Bool.not_false, Bool.false_eq_true, if_true, if_false, Nat.reduceLeDiff, ite_true, ite_false, mx_ol X3 (lst_ol eD), atD, Lt.d_eq l, len_t]); (repeat (refine Nx.mk ?_; try simp (disch := omega) only [skip_, seqset_, seqdrop_, seqasg_, ret_, retN_, if_, drop_, set_, asg_, for_, raise0_, raise1_, var_, c_, c2_, test_, and_, or_, not_, andV_, orV_, notV_, nil_, cons_, tup0_, tup1_, tup2_, tup3_, tup4_, tup5_, lst0_, lst1_, lst2_, lst3_, lst4_, lst5_, lst6_, lst7_, lst8_, lst9_, lst10_, lstv1_, lstv2_, lstv3_, lstv4_, lstv5_, b_, m_, call1_, call2_, call3_, call4_, call5_, neg_, slice_, none_, some_, rev_, comp_, gtup_, gn_nil, gn_cons, wipe_n, wipe_c, iseq_, sq_t, sq_r, r1_, r2_, add_i, add_s, add_t, sub_i, mul_i, int_o, cmp_o, isn_, ix_t, ix_r, ix_s, len_t2, len_t3, len_t4, len_t5, len_r, int1_i, two_, tuple_t, tuple_r, list_t, list_r, str_i, sl_t, sl_r, rev_t, rev_r, lo_l, lo_r, isi_t_t, isi_i_t, isi_s_s, isi_i_i, isi_i_b, isi_b_b, at0, at1, at2, at3, eq_i, eq_s, ol_s, vr_s, tb_b, ti_i, Br_t, Br_f, List.getElem?_cons_zero, List.getElem?_cons_succ, List.set_cons_zero, List.set_cons_succ, true_and, eq_self, Bool.not_true, Bool.not_false, Bool.false_eq_true, if_true, if_false, Nat.reduceLeDiff, ite_true, ite_false, mx_ol X3 (lst_ol eD), atD, Lt.d_eq l, len_t]))
      rw [List.length_map]
      refine ⟨Or.inl ⟨by omega, by omega⟩, ?_⟩
      have hmul : 0 ≤ (1 + r (2 + 4 * (n : Int) + 3)) * ((l.path.length : Int) - 1) ∧ (1 + r (2 + 4 * (n : Int) + 3)) * ((l.path.length : Int) - 1) ≤ 5 * 7 := ⟨Int.mul_nonneg (by omega) (by omega), Int.mul_le_mul (by omega) (by omega) (by omega) (by omega)⟩
      refine hK2 _ _ ⟨_, _, _, _, rs ++ [⟨l, i, way, r (2 + 4 * (n : Int) + 2), 1 + r (2 + 4 * (n : Int) + 3)⟩], rfl, X3, by rw [put_same]; simp; rfl, by simp [hn], ?_, ?_⟩
      · split <;> omega
      · intro r' hr'
        rw [List.mem_append] at hr'
        rcases hr' with hr' | hr'
        · refine ⟨(hb r' hr').1, ?_⟩
          have := (hb r' hr').2
          split <;> omega
        · simp only [List.mem_singleton] at hr'
          subst hr'
          refine ⟨⟨hi2, by show 0 < 1 + r _ ∧ 1 + r _ < 100; omega⟩, ?_⟩
          show r (2 + 4 * (n : Int) + 2) + (1 + r (2 + 4 * (n : Int) + 3)) * ((l.path.length : Int) - 1) ≤ _
          split <;> omega
    · rintro _ M' ⟨o8, o10, o11, last, rs, rfl, x, e, hn, hla, hb⟩
      exact hK _ _ ⟨_, _, _, last, rs, rfl, x, e, by simpa [rng_len] using hn, hla, hb⟩
  · rintro _ M' ⟨o8, o10, o11, last, rs, rfl, x, e, hn, hla, hb⟩
    (try simp only [skip_, seqset_, seqdrop_, seqasg_, ret_, retN_, if_, drop_, set_, asg_, for_, raise0_, raise1_, var_, c_, c2_, test_, and_, or_, not_, andV_, orV_, notV_, nil_, cons_, tup0_, tup1_, tup2_, tup3_, tup4_, tup5_, lst0_, lst1_, lst2_, lst3_, lst4_, lst5_, lst6_, lst7_, lst8_, lst9_, lst10_, lstv1_, lstv2_, lstv3_, lstv4_, lstv5_, b_, m_, call1_, call2_, call3_, call4_, call5_, neg_, slice_, none_, some_, rev_, comp_, gtup_, gn_nil, gn_cons, wipe_n, wipe_c, iseq_, sq_t, sq_r, r1_, r2_, add_i, add_s, add_t, sub_i, mul_i, int_o, cmp_o, isn_, ix_t, ix_r, ix_s, len_t2, len_t3, len_t4, len_t5, len_r, int1_i, two_, tuple_t, tuple_r, list_t, list_r, str_i, sl_t, sl_r, rev_t, rev_r, lo_l, lo_r, isi_t_t, isi_i_t, isi_s_s, isi_i_i, isi_i_b, isi_b_b, at0, at1, at2, at3, eq_i, eq_s, ol_s, vr_s, tb_b, ti_i, Br_t, Br_f, List.getElem?_cons_zero, List.getElem?_cons_succ, List.set_cons_zero, List.set_cons_succ, true_and, eq_self, Bool.not_true, Bool.not_false, Bool.false_eq_true, if_true, if_false, Nat.reduceLeDiff, ite_true, ite_false]); (repeat (refine Nx.mk ?_; try simp only [skip_, seqset_, seqdrop_, seqasg_, ret_, retN_, if_, drop_, set_, asg_, for_, raise0_, raise1_, var_, c_, c2_, test_, and_, or_, not_, andV_, orV_, notV_, nil_, cons_, tup0_, tup1_, tup2_, tup3_, tup4_, tup5_, lst0_, lst1_, lst2_, lst3_, lst4_, lst5_, lst6_, lst7_, lst8_, lst9_, lst10_, lstv1_, lstv2_, lstv3_, lstv4_, lstv5_, b_, m_, call1_, call2_, call3_, call4_, call5_, neg_, slice_, none_, some_, rev_, comp_, gtup_, gn_nil, gn_cons, wipe_n, wipe_c, iseq_, sq_t, sq_r, r1_, r2_, add_i, add_s, add_t, sub_i, mul_i, int_o, cmp_o, isn_, ix_t, ix_r, ix_s, len_t2, len_t3, len_t4, len_t5, len_r, int1_i, two_, tuple_t, tuple_r, list_t, list_r, str_i, sl_t, sl_r, rev_t, rev_r, lo_l, lo_r, isi_t_t, isi_i_t, isi_s_s, isi_i_i, isi_i_b, isi_b_b, at0, at1, at2, at3, eq_i, eq_s, ol_s, vr_s, tb_b, ti_i, Br_t, Br_f, List.getElem?_cons_zero, List.getElem?_cons_succ, List.set_cons_zero, List.set_cons_succ, true_and, eq_self, Bool.not_true, Bool.not_false, Bool.false_eq_true, if_true, if_false, Nat.reduceLeDiff, ite_true, ite_false]))
    have a1 := Dd.at_ 1 (by decide) (by rw [hlen]; omega)
    (try refine Nx.mk ?_); refine seq_m (fun ρ' M'' => ∃ sh : Int, ρ' = [some (.ref a), some (.int k), some (.tup (ls.map Lt.d)), some (.int 8), some (.int many), some (.ref pd), some (.ref pr), some (.int last), o8, some (.int sh), o10, o11, none] ∧ last + sh ≤ 9999 ∧ M' = M'') (fun Kn hK => ?_) ?_
    · (try simp only [skip_, seqset_, seqdrop_, seqasg_, ret_, retN_, if_, drop_, set_, asg_, for_, raise0_, raise1_, var_, c_, c2_, test_, and_, or_, not_, andV_, orV_, notV_, nil_, cons_, tup0_, tup1_, tup2_, tup3_, tup4_, tup5_, lst0_, lst1_, lst2_, lst3_, lst4_, lst5_, lst6_, lst7_, lst8_, lst9_, lst10_, lstv1_, lstv2_, lstv3_, lstv4_, lstv5_, b_, m_, call1_, call2_, call3_, call4_, call5_, neg_, slice_, none_, some_, rev_, comp_, gtup_, gn_nil, gn_cons, wipe_n, wipe_c, iseq_, sq_t, sq_r, r1_, r2_, add_i, add_s, add_t, sub_i, mul_i, int_o, cmp_o, isn_, ix_t, ix_r, ix_s, len_t2, len_t3, len_t4, len_t5, len_r, int1_i, two_, tuple_t, tuple_r, list_t, list_r, str_i, sl_t, sl_r, rev_t, rev_r, lo_l, lo_r, isi_t_t, isi_i_t, isi_s_s, isi_i_i, isi_i_b, isi_b_b, at0, at1, at2, at3, eq_i, eq_s, ol_s, vr_s, tb_b, ti_i, Br_t, Br_f, List.getElem?_cons_zero, List.getElem?_cons_succ, List.set_cons_zero, List.set_cons_succ, true_and, eq_self, Bool.not_true, Bool.not_false, Bool.false_eq_true, if_true, if_false, Nat.reduceLeDiff, ite_true, ite_false, mx_ol x (lst_ol eD), a1]); (repeat (refine Nx.mk ?_; try simp only [skip_, seqset_, seqdrop_, seqasg_, ret_, retN_, if_, drop_, set_, asg_, for_, raise0_, raise1_, var_, c_, c2_, test_, and_, or_, not_, andV_, orV_, notV_, nil_, cons_, tup0_, tup1_, tup2_, tup3_, tup4_, tup5_, lst0_, lst1_, lst2_, lst3_, lst4_, lst5_, lst6_, lst7_, lst8_, lst9_, lst10_, lstv1_, lstv2_, lstv3_, lstv4_, lstv5_, b_, m_, call1_, call2_, call3_, call4_, call5_, neg_, slice_, none_, some_, rev_, comp_, gtup_, gn_nil, gn_cons, wipe_n, wipe_c, iseq_, sq_t, sq_r, r1_, r2_, add_i, add_s, add_t, sub_i, mul_i, int_o, cmp_o, isn_, ix_t, ix_r, ix_s, len_t2, len_t3, len_t4, len_t5, len_r, int1_i, two_, tuple_t, tuple_r, list_t, list_r, str_i, sl_t, sl_r, rev_t, rev_r, lo_l, lo_r, isi_t_t, isi_i_t, isi_s_s, isi_i_i, isi_i_b, isi_b_b, at0, at1, at2, at3, eq_i, eq_s, ol_s, vr_s, tb_b, ti_i, Br_t, Br_f, List.getElem?_cons_zero, List.getElem?_cons_succ, List.set_cons_zero, List.set_cons_succ, true_and, eq_self, Bool.not_true, Bool.not_false, Bool.false_eq_true, if_true, if_false, Nat.reduceLeDiff, ite_true, ite_false, mx_ol x (lst_ol eD), a1]))
      refine Br_i (fun h => ?_) (fun h => hK _ _ ⟨_, rfl, by omega, rfl⟩)
      (try simp only [skip_, seqset_, seqdrop_, seqasg_, ret_, retN_, if_, drop_, set_, asg_, for_, raise0_, raise1_, var_, c_, c2_, test_, and_, or_, not_, andV_, orV_, notV_, nil_, cons_, tup0_, tup1_, tup2_, tup3_, tup4_, tup5_, lst0_, lst1_, lst2_, lst3_, lst4_, lst5_, lst6_, lst7_, lst8_, lst9_, lst10_, lstv1_, lstv2_, lstv3_, lstv4_, lstv5_, b_, m_, call1_, call2_, call3_, call4_, call5_, neg_, slice_, none_, some_, rev_, comp_, gtup_, gn_nil, gn_cons, wipe_n, wipe_c, iseq_, sq_t, sq_r, r1_, r2_, add_i, add_s, add_t, sub_i, mul_i, int_o, cmp_o, isn_, ix_t, ix_r, ix_s, len_t2, len_t3, len_t4, len_t5, len_r, int1_i, two_, tuple_t, tuple_r, list_t, list_r, str_i, sl_t, sl_r, rev_t, rev_r, lo_l, lo_r, isi_t_t, isi_i_t, isi_s_s, isi_i_i, isi_i_b, isi_b_b, at0, at1, at2, at3, eq_i, eq_s, ol_s, vr_s, tb_b, ti_i, Br_t, Br_f, List.getElem?_cons_zero, List.getElem?_cons_succ, List.set_cons_zero, List.set_cons_succ, true_and, eq_self, Bool.not_true, Bool.not_false, Bool.false_eq_true, if_true, if_false, Nat.reduceLeDiff, ite_true, ite_false]); (repeat (refine Nx.mk ?_; try simp only [skip_, seqset_, seqdrop_, seqasg_, ret_, retN_, if_, drop_, set_, asg_, for_, raise0_, raise1_, var_, c_, c2_, test_, and_, or_, not_, andV_, orV_, notV_, nil_, cons_, tup0_, tup1_, tup2_, tup3_, tup4_, tup5_, lst0_, lst1_, lst2_, lst3_, lst4_, lst5_, lst6_, lst7_, lst8_, lst9_, lst10_, lstv1_, lstv2_, lstv3_, lstv4_, lstv5_, b_, m_, call1_, call2_, call3_, call4_, call5_, neg_, slice_, none_, some_, rev_, comp_, gtup_, gn_nil, gn_cons, wipe_n, wipe_c, iseq_, sq_t, sq_r, r1_, r2_, add_i, add_s, add_t, sub_i, mul_i, int_o, cmp_o, isn_, ix_t, ix_r, ix_s, len_t2, len_t3, len_t4, len_t5, len_r, int1_i, two_, tuple_t, tuple_r, list_t, list_r, str_i, sl_t, sl_r, rev_t, rev_r, lo_l, lo_r, isi_t_t, isi_i_t, isi_s_s, isi_i_i, isi_i_b, isi_b_b, at0, at1, at2, at3, eq_i, eq_s, ol_s, vr_s, tb_b, ti_i, Br_t, Br_f, List.getElem?_cons_zero, List.getElem?_cons_succ, List.set_cons_zero, List.set_cons_succ, true_and, eq_self, Bool.not_true, Bool.not_false, Bool.false_eq_true, if_true, if_false, Nat.reduceLeDiff, ite_true, ite_false]))
      exact hK _ _ ⟨_, rfl, by omega, rfl⟩
    · rintro _ _ ⟨sh, rfl, hsh, rfl⟩
      (try simp only [skip_, seqset_, seqdrop_, seqasg_, ret_, retN_, if_, drop_, set_, asg_, for_, raise0_, raise1_, var_, c_, c2_, test_, and_, or_, not_, andV_, orV_, notV_, nil_, cons_, tup0_, tup1_, tup2_, tup3_, tup4_, tup5_, lst0_, lst1_, lst2_, lst3_, lst4_, lst5_, lst6_, lst7_, lst8_, lst9_, lst10_, lstv1_, lstv2_, lstv3_, lstv4_, lstv5_, b_, m_, call1_, call2_, call3_, call4_, call5_, neg_, slice_, none_, some_, rev_, comp_, gtup_, gn_nil, gn_cons, wipe_n, wipe_c, iseq_, sq_t, sq_r, r1_, r2_, add_i, add_s, add_t, sub_i, mul_i, int_o, cmp_o, isn_, ix_t, ix_r, ix_s, len_t2, len_t3, len_t4, len_t5, len_r, int1_i, two_, tuple_t, tuple_r, list_t, list_r, str_i, sl_t, sl_r, rev_t, rev_r, lo_l, lo_r, isi_t_t, isi_i_t, isi_s_s, isi_i_i, isi_i_b, isi_b_b, at0, at1, at2, at3, eq_i, eq_s, ol_s, vr_s, tb_b, ti_i, Br_t, Br_f, List.getElem?_cons_zero, List.getElem?_cons_succ, List.set_cons_zero, List.set_cons_succ, true_and, eq_self, Bool.not_true, Bool.not_false, Bool.false_eq_true, if_true, if_false, Nat.reduceLeDiff, ite_true, ite_false, lst_ol e]); (repeat (refine Nx.mk ?_; try simp only [skip_, seqset_, seqdrop_, seqasg_, ret_, retN_, if_, drop_, set_, asg_, for_, raise0_, raise1_, var_, c_, c2_, test_, and_, or_, not_, andV_, orV_, notV_, nil_, cons_, tup0_, tup1_, tup2_, tup3_, tup4_, tup5_, lst0_, lst1_, lst2_, lst3_, lst4_, lst5_, lst6_, lst7_, lst8_, lst9_, lst10_, lstv1_, lstv2_, lstv3_, lstv4_, lstv5_, b_, m_, call1_, call2_, call3_, call4_, call5_, neg_, slice_, none_, some_, rev_, comp_, gtup_, gn_nil, gn_cons, wipe_n, wipe_c, iseq_, sq_t, sq_r, r1_, r2_, add_i, add_s, add_t, sub_i, mul_i, int_o, cmp_o, isn_, ix_t, ix_r, ix_s, len_t2, len_t3, len_t4, len_t5, len_r, int1_i, two_, tuple_t, tuple_r, list_t, list_r, str_i, sl_t, sl_r, rev_t, rev_r, lo_l, lo_r, isi_t_t, isi_i_t, isi_s_s, isi_i_i, isi_i_b, isi_b_b, at0, at1, at2, at3, eq_i, eq_s, ol_s, vr_s, tb_b, ti_i, Br_t, Br_f, List.getElem?_cons_zero, List.getElem?_cons_succ, List.set_cons_zero, List.set_cons_succ, true_and, eq_self, Bool.not_true, Bool.not_false, Bool.false_eq_true, if_true, if_false, Nat.reduceLeDiff, ite_true, ite_false, lst_ol e]))
      refine comp_i (fun n y => ∃ r, rs[n]? = some r ∧ y = (r.add sh).d) (size_le (by simp; omega)) (fun _ h => mx_ol h (lst_ol e)) (fun n d M4 hd x4 => ?_) (fun p ys M4 hp0 x4 e4 hly hy => ?_)
      · rw [List.getElem?_map] at hd
        cases hln : rs[n]? with
        | none => rw [hln] at hd; cases hd
        | some r0 =>
          rw [hln] at hd; cases hd
          refine ⟨_, rfl, fun Q' hQ' => ?_⟩
          rw [Rn.d_eq]
          (try simp only [skip_, seqset_, seqdrop_, seqasg_, ret_, retN_, if_, drop_, set_, asg_, for_, raise0_, raise1_, var_, c_, c2_, test_, and_, or_, not_, andV_, orV_, notV_, nil_, cons_, tup0_, tup1_, tup2_, tup3_, tup4_, tup5_, lst0_, lst1_, lst2_, lst3_, lst4_, lst5_, lst6_, lst7_, lst8_, lst9_, lst10_, lstv1_, lstv2_, lstv3_, lstv4_, lstv5_, b_, m_, call1_, call2_, call3_, call4_, call5_, neg_, slice_, none_, some_, rev_, comp_, gtup_, gn_nil, gn_cons, wipe_n, wipe_c, iseq_, sq_t, sq_r, r1_, r2_, add_i, add_s, add_t, sub_i, mul_i, int_o, cmp_o, isn_, ix_t, ix_r, ix_s, len_t2, len_t3, len_t4, len_t5, len_r, int1_i, two_, tuple_t, tuple_r, list_t, list_r, str_i, sl_t, sl_r, rev_t, rev_r, lo_l, lo_r, isi_t_t, isi_i_t, isi_s_s, isi_i_i, isi_i_b, isi_b_b, at0, at1, at2, at3, eq_i, eq_s, ol_s, vr_s, tb_b, ti_i, Br_t, Br_f, List.getElem?_cons_zero, List.getElem?_cons_succ, List.set_cons_zero, List.set_cons_succ, true_and, eq_self, Bool.not_true, Bool.not_false, Bool.false_eq_true, if_true, if_false, Nat.reduceLeDiff, ite_true, ite_false]); (repeat (refine Nx.mk ?_; try simp only [skip_, seqset_, seqdrop_, seqasg_, ret_, retN_, if_, drop_, set_, asg_, for_, raise0_, raise1_, var_, c_, c2_, test_, and_, or_, not_, andV_, orV_, notV_, nil_, cons_, tup0_, tup1_, tup2_, tup3_, tup4_, tup5_, lst0_, lst1_, lst2_, lst3_, lst4_, lst5_, lst6_, lst7_, lst8_, lst9_, lst10_, lstv1_, lstv2_, lstv3_, lstv4_, lstv5_, b_, m_, call1_, call2_, call3_, call4_, call5_, neg_, slice_, none_, some_, rev_, comp_, gtup_, gn_nil, gn_cons, wipe_n, wipe_c, iseq_, sq_t, sq_r, r1_, r2_, add_i, add_s, add_t, sub_i, mul_i, int_o, cmp_o, isn_, ix_t, ix_r, ix_s, len_t2, len_t3, len_t4, len_t5, len_r, int1_i, two_, tuple_t, tuple_r, list_t, list_r, str_i, sl_t, sl_r, rev_t, rev_r, lo_l, lo_r, isi_t_t, isi_i_t, isi_s_s, isi_i_i, isi_i_b, isi_b_b, at0, at1, at2, at3, eq_i, eq_s, ol_s, vr_s, tb_b, ti_i, Br_t, Br_f, List.getElem?_cons_zero, List.getElem?_cons_succ, List.set_cons_zero, List.set_cons_succ, true_and, eq_self, Bool.not_true, Bool.not_false, Bool.false_eq_true, if_true, if_false, Nat.reduceLeDiff, ite_true, ite_false]))
          exact hQ' _ _ MX.refl' ⟨r0, rfl, rfl⟩
      · rw [List.length_map] at hly
        have : ys = (rs.map fun r => r.add sh).map Rn.d := by
          refine List.ext_getElem? fun n => ?_
          by_cases hn3 : n < ys.length
          · have h1 : ys[n]? = some ys[n] := List.getElem?_eq_getElem hn3
            obtain ⟨r0, h2, h3⟩ := hy n _ h1
            rw [h1, h3, List.getElem?_map, List.getElem?_map, h2]
            rfl
          · rw [List.getElem?_eq_none (by omega), List.getElem?_eq_none (by simp; omega)]
        subst this
        (try simp only [skip_, seqset_, seqdrop_, seqasg_, ret_, retN_, if_, drop_, set_, asg_, for_, raise0_, raise1_, var_, c_, c2_, test_, and_, or_, not_, andV_, orV_, notV_, nil_, cons_, tup0_, tup1_, tup2_, tup3_, tup4_, tup5_, lst0_, lst1_, lst2_, lst3_, lst4_, lst5_, lst6_, lst7_, lst8_, lst9_, lst10_, lstv1_, lstv2_, lstv3_, lstv4_, lstv5_, b_, m_, call1_, call2_, call3_, call4_, call5_, neg_, slice_, none_, some_, rev_, comp_, gtup_, gn_nil, gn_cons, wipe_n, wipe_c, iseq_, sq_t, sq_r, r1_, r2_, add_i, add_s, add_t, sub_i, mul_i, int_o, cmp_o, isn_, ix_t, ix_r, ix_s, len_t2, len_t3, len_t4, len_t5, len_r, int1_i, two_, tuple_t, tuple_r, list_t, list_r, str_i, sl_t, sl_r, rev_t, rev_r, lo_l, lo_r, isi_t_t, isi_i_t, isi_s_s, isi_i_i, isi_i_b, isi_b_b, at0, at1, at2, at3, eq_i, eq_s, ol_s, vr_s, tb_b, ti_i, Br_t, Br_f, List.getElem?_cons_zero, List.getElem?_cons_succ, List.set_cons_zero, List.set_cons_succ, true_and, eq_self, Bool.not_true, Bool.not_false, Bool.false_eq_true, if_true, if_false, Nat.reduceLeDiff, ite_true, ite_false, lst_ol e4]); (repeat (refine Nx.mk ?_; try simp only [skip_, seqset_, seqdrop_, seqasg_, ret_, retN_, if_, drop_, set_, asg_, for_, raise0_, raise1_, var_, c_, c2_, test_, and_, or_, not_, andV_, orV_, notV_, nil_, cons_, tup0_, tup1_, tup2_, tup3_, tup4_, tup5_, lst0_, lst1_, lst2_, lst3_, lst4_, lst5_, lst6_, lst7_, lst8_, lst9_, lst10_, lstv1_, lstv2_, lstv3_, lstv4_, lstv5_, b_, m_, call1_, call2_, call3_, call4_, call5_, neg_, slice_, none_, some_, rev_, comp_, gtup_, gn_nil, gn_cons, wipe_n, wipe_c, iseq_, sq_t, sq_r, r1_, r2_, add_i, add_s, add_t, sub_i, mul_i, int_o, cmp_o, isn_, ix_t, ix_r, ix_s, len_t2, len_t3, len_t4, len_t5, len_r, int1_i, two_, tuple_t, tuple_r, list_t, list_r, str_i, sl_t, sl_r, rev_t, rev_r, lo_l, lo_r, isi_t_t, isi_i_t, isi_s_s, isi_i_i, isi_i_b, isi_b_b, at0, at1, at2, at3, eq_i, eq_s, ol_s, vr_s, tb_b, ti_i, Br_t, Br_f, List.getElem?_cons_zero, List.getElem?_cons_succ, List.set_cons_zero, List.set_cons_succ, true_and, eq_self, Bool.not_true, Bool.not_false, Bool.false_eq_true, if_true, if_false, Nat.reduceLeDiff, ite_true, ite_false, lst_ol e4]))
        refine hQ _ sh _ (mxT XD (mxT x x4)) (fun r' hr' => ?_) (by simp; omega)
        obtain ⟨r0, hr0, rfl⟩ := List.mem_map.mp hr'
        refine ⟨(hb r0 hr0).1.add sh, ?_⟩
        have := (hb r0 hr0).2
        unfold Rn.en at this ⊢
        show r0.f + sh + r0.st * ((r0.l.path.length : Int) - 1) ≤ 9999
        omega

theorem add_en (r : Rn) (x : Int) : (r.add x).en = r.en + x := by
  unfold Rn.en
  show r.f + x + r.st * ((r.l.path.length : Int) - 1) = _
  omega
theorem delays_sp {a : Addr} {zs : List Int} {k : Int} {c0 : D} {cr : List D} {ls : List Lt} (U : Uq ls) (hz : lstOf (M a) = some (zs.map .int)) (hk : 0 ≤ k ∧ k < 1000) {rs : List Rn} (hO : ∀ r ∈ rs, Ok ls r ∧ r.en ≤ 9999) (hm : rs.length ≤ 1000)
    (hQ : ∀ (p : Addr) (xs : List Int) M', MX M M' → M p = none → M' p = some (.lst (xs.map .int)) → xs.length = rs.length → (∀ (n : Nat) (r : Rn), (lates rs xs)[n]? = some r → r.en ≤ 9999) → Q (.ref p) M') : cf_l_delays K g [.ref a, .int k, .tup (c0 :: .tup (ls.map Lt.d) :: cr), .tup (rs.map Rn.d)] M Q E := by
  unfold cf_l_delays cfOf
  generalize hcity : (D.tup (c0 :: .tup (ls.map Lt.d) :: cr)) = city
  rw [show startD 10 [.ref a, .int k, city, .tup (rs.map Rn.d)] = [some (.ref a), some (.int k), some city, some (.tup (rs.map Rn.d)), none, none, none, none, none, none] from rfl]
  unfold R_l_delays
  (try simp only [skip_, seqset_, seqdrop_, seqasg_, ret_, retN_, if_, drop_, set_, asg_, for_, raise0_, raise1_, var_, c_, c2_, test_, and_, or_, not_, andV_, orV_, notV_, nil_, cons_, tup0_, tup1_, tup2_, tup3_, tup4_, tup5_, lst0_, lst1_, lst2_, lst3_, lst4_, lst5_, lst6_, lst7_, lst8_, lst9_, lst10_, lstv1_, lstv2_, lstv3_, lstv4_, lstv5_, b_, m_, call1_, call2_, call3_, call4_, call5_, neg_, slice_, none_, some_, rev_, comp_, gtup_, gn_nil, gn_cons, wipe_n, wipe_c, iseq_, sq_t, sq_r, r1_, r2_, add_i, add_s, add_t, sub_i, mul_i, int_o, cmp_o, isn_, ix_t, ix_r, ix_s, len_t2, len_t3, len_t4, len_t5, len_r, int1_i, two_, tuple_t, tuple_r, list_t, list_r, str_i, sl_t, sl_r, rev_t, rev_r, lo_l, lo_r, isi_t_t, isi_i_t, isi_s_s, isi_i_i, isi_i_b, isi_b_b, at0, at1, at2, at3, eq_i, eq_s, ol_s, vr_s, tb_b, ti_i, Br_t, Br_f, List.getElem?_cons_zero, List.getElem?_cons_succ, List.set_cons_zero, List.set_cons_succ, true_and, eq_self, Bool.not_true, Bool.not_false, Bool.false_eq_true, if_true, if_false, Nat.reduceLeDiff, ite_true, ite_false, len_t]); (repeat (refine Nx.mk ?_; try simp only [skip_, seqset_, seqdrop_, seqasg_, ret_, retN_, if_, drop_, set_, asg_, for_, raise0_, raise1_, var_, c_, c2_, test_, and_, or_, not_, andV_, orV_, notV_, nil_, cons_, tup0_, tup1_, tup2_, tup3_, tup4_, tup5_, lst0_, lst1_, lst2_, lst3_, lst4_, lst5_, lst6_, lst7_, lst8_, lst9_, lst10_, lstv1_, lstv2_, lstv3_, lstv4_, lstv5_, b_, m_, call1_, call2_, call3_, call4_, call5_, neg_, slice_, none_, some_, rev_, comp_, gtup_, gn_nil, gn_cons, wipe_n, wipe_c, iseq_, sq_t, sq_r, r1_, r2_, add_i, add_s, add_t, sub_i, mul_i, int_o, cmp_o, isn_, ix_t, ix_r, ix_s, len_t2, len_t3, len_t4, len_t5, len_r, int1_i, two_, tuple_t, tuple_r, list_t, list_r, str_i, sl_t, sl_r, rev_t, rev_r, lo_l, lo_r, isi_t_t, isi_i_t, isi_s_s, isi_i_i, isi_i_b, isi_b_b, at0, at1, at2, at3, eq_i, eq_s, ol_s, vr_s, tb_b, ti_i, Br_t, Br_f, List.getElem?_cons_zero, List.getElem?_cons_succ, List.set_cons_zero, List.set_cons_succ, true_and, eq_self, Bool.not_true, Bool.not_false, Bool.false_eq_true, if_true, if_false, Nat.reduceLeDiff, ite_true, ite_false, len_t]))
  refine newL_i fun p4 M4 hp4 x4 e4 => ?_
  rw [repl_ (xs := [4, 12, 10000].map D.int) e4, rep_map, List.length_map]
  refine ⟨by omega, by omega, size_le (by simp; omega), newL_i fun p5 M5 hp5 x5 e5 => ?_⟩
  simp only [Int.toNat_natCast] at e5
  have X5 : MX M M5 := mxT x4 x5
  have hlen : ((List.replicate rs.length [4, 12, 10000]).flatten : List Int).length = 3 * rs.length := by simp; omega
  refine draws_sp (mx_ol X5 hz) hk (lst_ol e5) (fun x hx => by have := rep_mem hx; simp at this; omega) (by rw [hlen]; omega) fun pd ds r MD hpd xD eD Dd => ?_
  have XD := mxT X5 xD
  have atD : ∀ i : Int, 0 ≤ i → i < 3 * (rs.length : Int) → atI ds i = some (.int (r i)) := fun i h1 h2 => Dd.at_ i h1 (by rw [hlen]; omega)
  (try simp only [skip_, seqset_, seqdrop_, seqasg_, ret_, retN_, if_, drop_, set_, asg_, for_, raise0_, raise1_, var_, c_, c2_, test_, and_, or_, not_, andV_, orV_, notV_, nil_, cons_, tup0_, tup1_, tup2_, tup3_, tup4_, tup5_, lst0_, lst1_, lst2_, lst3_, lst4_, lst5_, lst6_, lst7_, lst8_, lst9_, lst10_, lstv1_, lstv2_, lstv3_, lstv4_, lstv5_, b_, m_, call1_, call2_, call3_, call4_, call5_, neg_, slice_, none_, some_, rev_, comp_, gtup_, gn_nil, gn_cons, wipe_n, wipe_c, iseq_, sq_t, sq_r, r1_, r2_, add_i, add_s, add_t, sub_i, mul_i, int_o, cmp_o, isn_, ix_t, ix_r, ix_s, len_t2, len_t3, len_t4, len_t5, len_r, int1_i, two_, tuple_t, tuple_r, list_t, list_r, str_i, sl_t, sl_r, rev_t, rev_r, lo_l, lo_r, isi_t_t, isi_i_t, isi_s_s, isi_i_i, isi_i_b, isi_b_b, at0, at1, at2, at3, eq_i, eq_s, ol_s, vr_s, tb_b, ti_i, Br_t, Br_f, List.getElem?_cons_zero, List.getElem?_cons_succ, List.set_cons_zero, List.set_cons_succ, true_and, eq_self, Bool.not_true, Bool.not_false, Bool.false_eq_true, if_true, if_false, Nat.reduceLeDiff, ite_true, ite_false]); (repeat (refine Nx.mk ?_; try simp only [skip_, seqset_, seqdrop_, seqasg_, ret_, retN_, if_, drop_, set_, asg_, for_, raise0_, raise1_, var_, c_, c2_, test_, and_, or_, not_, andV_, orV_, notV_, nil_, cons_, tup0_, tup1_, tup2_, tup3_, tup4_, tup5_, lst0_, lst1_, lst2_, lst3_, lst4_, lst5_, lst6_, lst7_, lst8_, lst9_, lst10_, lstv1_, lstv2_, lstv3_, lstv4_, lstv5_, b_, m_, call1_, call2_, call3_, call4_, call5_, neg_, slice_, none_, some_, rev_, comp_, gtup_, gn_nil, gn_cons, wipe_n, wipe_c, iseq_, sq_t, sq_r, r1_, r2_, add_i, add_s, add_t, sub_i, mul_i, int_o, cmp_o, isn_, ix_t, ix_r, ix_s, len_t2, len_t3, len_t4, len_t5, len_r, int1_i, two_, tuple_t, tuple_r, list_t, list_r, str_i, sl_t, sl_r, rev_t, rev_r, lo_l, lo_r, isi_t_t, isi_i_t, isi_s_s, isi_i_i, isi_i_b, isi_b_b, at0, at1, at2, at3, eq_i, eq_s, ol_s, vr_s, tb_b, ti_i, Br_t, Br_f, List.getElem?_cons_zero, List.getElem?_cons_succ, List.set_cons_zero, List.set_cons_succ, true_and, eq_self, Bool.not_true, Bool.not_false, Bool.false_eq_true, if_true, if_false, Nat.reduceLeDiff, ite_true, ite_false]))
  refine newL_i fun pr MR hpr xR eR => ?_
  (try refine Nx.mk ?_); refine seq_m (fun ρ' M' => ∃ (o6 o7 o8 o9 : Option D) (xs : List Int), ρ' = [some (.ref a), some (.int k), some city, some (.tup (rs.map Rn.d)), some (.ref pd), some (.ref pr), o6, o7, o8, o9] ∧ MX MD M' ∧ M' pr = some (.lst (xs.map .int)) ∧ xs.length = rs.length ∧ ∀ (n : Nat) (r : Rn), (lates rs xs)[n]? = some r → r.en ≤ 9999) (fun Kn hK => ?_) ?_
  · (try simp only [skip_, seqset_, seqdrop_, seqasg_, ret_, retN_, if_, drop_, set_, asg_, for_, raise0_, raise1_, var_, c_, c2_, test_, and_, or_, not_, andV_, orV_, notV_, nil_, cons_, tup0_, tup1_, tup2_, tup3_, tup4_, tup5_, lst0_, lst1_, lst2_, lst3_, lst4_, lst5_, lst6_, lst7_, lst8_, lst9_, lst10_, lstv1_, lstv2_, lstv3_, lstv4_, lstv5_, b_, m_, call1_, call2_, call3_, call4_, call5_, neg_, slice_, none_, some_, rev_, comp_, gtup_, gn_nil, gn_cons, wipe_n, wipe_c, iseq_, sq_t, sq_r, r1_, r2_, add_i, add_s, add_t, sub_i, mul_i, int_o, cmp_o, isn_, ix_t, ix_r, ix_s, len_t2, len_t3, len_t4, len_t5, len_r, int1_i, two_, tuple_t, tuple_r, list_t, list_r, str_i, sl_t, sl_r, rev_t, rev_r, lo_l, lo_r, isi_t_t, isi_i_t, isi_s_s, isi_i_i, isi_i_b, isi_b_b, at0, at1, at2, at3, eq_i, eq_s, ol_s, vr_s, tb_b, ti_i, Br_t, Br_f, List.getElem?_cons_zero, List.getElem?_cons_succ, List.set_cons_zero, List.set_cons_succ, true_and, eq_self, Bool.not_true, Bool.not_false, Bool.false_eq_true, if_true, if_false, Nat.reduceLeDiff, ite_true, ite_false, len_t]); (repeat (refine Nx.mk ?_; try simp only [skip_, seqset_, seqdrop_, seqasg_, ret_, retN_, if_, drop_, set_, asg_, for_, raise0_, raise1_, var_, c_, c2_, test_, and_, or_, not_, andV_, orV_, notV_, nil_, cons_, tup0_, tup1_, tup2_, tup3_, tup4_, tup5_, lst0_, lst1_, lst2_, lst3_, lst4_, lst5_, lst6_, lst7_, lst8_, lst9_, lst10_, lstv1_, lstv2_, lstv3_, lstv4_, lstv5_, b_, m_, call1_, call2_, call3_, call4_, call5_, neg_, slice_, none_, some_, rev_, comp_, gtup_, gn_nil, gn_cons, wipe_n, wipe_c, iseq_, sq_t, sq_r, r1_, r2_, add_i, add_s, add_t, sub_i, mul_i, int_o, cmp_o, isn_, ix_t, ix_r, ix_s, len_t2, len_t3, len_t4, len_t5, len_r, int1_i, two_, tuple_t, tuple_r, list_t, list_r, str_i, sl_t, sl_r, rev_t, rev_r, lo_l, lo_r, isi_t_t, isi_i_t, isi_s_s, isi_i_i, isi_i_b, isi_b_b, at0, at1, at2, at3, eq_i, eq_s, ol_s, vr_s, tb_b, ti_i, Br_t, Br_f, List.getElem?_cons_zero, List.getElem?_cons_succ, List.set_cons_zero, List.set_cons_succ, true_and, eq_self, Bool.not_true, Bool.not_false, Bool.false_eq_true, if_true, if_false, Nat.reduceLeDiff, ite_true, ite_false, len_t]))
    rw [List.length_map]
    refine ⟨by omega, for_0 (fun n ρ' M' => ∃ (o6 o7 o8 o9 : Option D) (xs : List Int), ρ' = [some (.ref a), some (.int k), some city, some (.tup (rs.map Rn.d)), some (.ref pd), some (.ref pr), o6, o7, o8, o9] ∧ MX MD M' ∧ M' pr = some (.lst (xs.map .int)) ∧ xs.length = n ∧ ∀ (n : Nat) (r : Rn), (lates rs xs)[n]? = some r → r.en ≤ 9999) ⟨_, _, _, _, [], rfl, xR, eR, rfl, fun n r h => by simp [lates] at h⟩ (fun _ _ _ _ _ => trivial) ?_ ?_⟩
    · rintro n d hd _ M' ⟨o6, o7, o8, o9, xs, rfl, x, e, hn, hb⟩
      obtain ⟨hn2, rfl⟩ := rng_at hd
      have hn2 : n < rs.length := by simpa using hn2
      refine ⟨_, rfl, fun Kn2 hK2 => ?_⟩
      have hrn : rs[n]? = some rs[n] := List.getElem?_eq_getElem hn2
      generalize rs[n] = r0 at hrn
      obtain ⟨O, hen⟩ := hO r0 (List.mem_of_getElem? hrn)
      have hpl := U.pos r0.l (List.mem_of_getElem? O.at_)
      (try simp only [skip_, seqset_, seqdrop_, seqasg_, ret_, retN_, if_, drop_, set_, asg_, for_, raise0_, raise1_, var_, c_, c2_, test_, and_, or_, not_, andV_, orV_, notV_, nil_, cons_, tup0_, tup1_, tup2_, tup3_, tup4_, tup5_, lst0_, lst1_, lst2_, lst3_, lst4_, lst5_, lst6_, lst7_, lst8_, lst9_, lst10_, lstv1_, lstv2_, lstv3_, lstv4_, lstv5_, b_, m_, call1_, call2_, call3_, call4_, call5_, neg_, slice_, none_, some_, rev_, comp_, gtup_, gn_nil, gn_cons, wipe_n, wipe_c, iseq_, sq_t, sq_r, r1_, r2_, add_i, add_s, add_t, sub_i, mul_i, int_o, cmp_o, isn_, ix_t, ix_r, ix_s, len_t2, len_t3, len_t4, len_t5, len_r, int1_i, two_, tuple_t, tuple_r, list_t, list_r, str_i, sl_t, sl_r, rev_t, rev_r, lo_l, lo_r, isi_t_t, isi_i_t, isi_s_s, isi_i_i, isi_i_b, isi_b_b, at0, at1, at2, at3, eq_i, eq_s, ol_s, vr_s, tb_b, ti_i, Br_t, Br_f, List.getElem?_cons_zero, List.getElem?_cons_succ, List.set_cons_zero, List.set_cons_succ, true_and, eq_self, Bool.not_true, Bool.not_false, Bool.false_eq_true, if_true, if_false, Nat.reduceLeDiff, ite_true, ite_false, Int.zero_add, atI_of (xs := rs.map Rn.d) (i := (n : Int)) (n := n) (x := r0.d) rfl (by rw [List.getElem?_map, hrn]; rfl)]); (repeat (refine Nx.mk ?_; try simp only [skip_, seqset_, seqdrop_, seqasg_, ret_, retN_, if_, drop_, set_, asg_, for_, raise0_, raise1_, var_, c_, c2_, test_, and_, or_, not_, andV_, orV_, notV_, nil_, cons_, tup0_, tup1_, tup2_, tup3_, tup4_, tup5_, lst0_, lst1_, lst2_, lst3_, lst4_, lst5_, lst6_, lst7_, lst8_, lst9_, lst10_, lstv1_, lstv2_, lstv3_, lstv4_, lstv5_, b_, m_, call1_, call2_, call3_, call4_, call5_, neg_, slice_, none_, some_, rev_, comp_, gtup_, gn_nil, gn_cons, wipe_n, wipe_c, iseq_, sq_t, sq_r, r1_, r2_, add_i, add_s, add_t, sub_i, mul_i, int_o, cmp_o, isn_, ix_t, ix_r, ix_s, len_t2, len_t3, len_t4, len_t5, len_r, int1_i, two_, tuple_t, tuple_r, list_t, list_r, str_i, sl_t, sl_r, rev_t, rev_r, lo_l, lo_r, isi_t_t, isi_i_t, isi_s_s, isi_i_i, isi_i_b, isi_b_b, at0, at1, at2, at3, eq_i, eq_s, ol_s, vr_s, tb_b, ti_i, Br_t, Br_f, List.getElem?_cons_zero, List.getElem?_cons_succ, List.set_cons_zero, List.set_cons_succ, true_and, eq_self, Bool.not_true, Bool.not_false, Bool.false_eq_true, if_true, if_false, Nat.reduceLeDiff, ite_true, ite_false, Int.zero_add, atI_of (xs := rs.map Rn.d) (i := (n : Int)) (n := n) (x := r0.d) rfl (by rw [List.getElem?_map, hrn]; rfl)]))
      subst hcity
      refine lvisits_sp U O fun M2 x2 => ?_
      have XM2 := mxT x x2
      (try simp (disch := omega) only [skip_, seqset_, seqdrop_, seqasg_, ret_, retN_, if_, drop_, set_, asg_, for_, raise0_, raise1_, var_, c_, c2_, test_, and_, or_, not_, andV_, orV_, notV_, nil_, cons_, tup0_, tup1_, tup2_, tup3_, tup4_, tup5_, lst0_, lst1_, lst2_, lst3_, lst4_, lst5_, lst6_, lst7_, lst8_, lst9_, lst10_, lstv1_, lstv2_, lstv3_, lstv4_, lstv5_, b_, m_, call1_, call2_, call3_, call4_, call5_, neg_, slice_, none_, some_, rev_, comp_, gtup_, gn_nil, gn_cons, wipe_n, wipe_c, iseq_, sq_t, sq_r, r1_, r2_, add_i, add_s, add_t, sub_i, mul_i, int_o, cmp_o, isn_, ix_t, ix_r, ix_s, len_t2, len_t3, len_t4, len_t5, len_r, int1_i, two_, tuple_t, tuple_r, list_t, list_r, str_i, sl_t, sl_r, rev_t, rev_r, lo_l, lo_r, isi_t_t, isi_i_t, isi_s_s, isi_i_i, isi_i_b, isi_b_b, at0, at1, at2, at3, eq_i, eq_s, ol_s, vr_s, tb_b, ti_i, Br_t, Br_f, List.getElem?_cons_zero, List.getElem?_cons_succ, List.set_cons_zero, List.set_cons_succ, true_and, eq_self, Bool.not_true, Bool.not_false, Bool.false_eq_true, if_true, if_false, Nat.reduceLeDiff, ite_true, ite_false, Int.zero_add, vis_last hpl.1, mx_ol XM2 (lst_ol eD), atD]); (repeat (refine Nx.mk ?_; try simp (disch := omega) only [skip_, seqset_, seqdrop_, seqasg_, ret_, retN_, if_, drop_, set_, asg_, for_, raise0_, raise1_, var_, c_, c2_, test_, and_, or_, not_, andV_, orV_, notV_, nil_, cons_, tup0_, tup1_, tup2_, tup3_, tup4_, tup5_, lst0_, lst1_, lst2_, lst3_, lst4_, lst5_, lst6_, lst7_, lst8_, lst9_, lst10_, lstv1_, lstv2_, lstv3_, lstv4_, lstv5_, b_, m_, call1_, call2_, call3_, call4_, call5_, neg_, slice_, none_, some_, rev_, comp_, gtup_, gn_nil, gn_cons, wipe_n, wipe_c, iseq_, sq_t, sq_r, r1_, r2_, add_i, add_s, add_t, sub_i, mul_i, int_o, cmp_o, isn_, ix_t, ix_r, ix_s, len_t2, len_t3, len_t4, len_t5, len_r, int1_i, two_, tuple_t, tuple_r, list_t, list_r, str_i, sl_t, sl_r, rev_t, rev_r, lo_l, lo_r, isi_t_t, isi_i_t, isi_s_s, isi_i_i, isi_i_b, isi_b_b, at0, at1, at2, at3, eq_i, eq_s, ol_s, vr_s, tb_b, ti_i, Br_t, Br_f, List.getElem?_cons_zero, List.getElem?_cons_succ, List.set_cons_zero, List.set_cons_succ, true_and, eq_self, Bool.not_true, Bool.not_false, Bool.false_eq_true, if_true, if_false, Nat.reduceLeDiff, ite_true, ite_false, Int.zero_add, vis_last hpl.1, mx_ol XM2 (lst_ol eD), atD]))
      refine ⟨Or.inl ⟨by decide, by decide⟩, ?_⟩
      (try simp (disch := omega) only [skip_, seqset_, seqdrop_, seqasg_, ret_, retN_, if_, drop_, set_, asg_, for_, raise0_, raise1_, var_, c_, c2_, test_, and_, or_, not_, andV_, orV_, notV_, nil_, cons_, tup0_, tup1_, tup2_, tup3_, tup4_, tup5_, lst0_, lst1_, lst2_, lst3_, lst4_, lst5_, lst6_, lst7_, lst8_, lst9_, lst10_, lstv1_, lstv2_, lstv3_, lstv4_, lstv5_, b_, m_, call1_, call2_, call3_, call4_, call5_, neg_, slice_, none_, some_, rev_, comp_, gtup_, gn_nil, gn_cons, wipe_n, wipe_c, iseq_, sq_t, sq_r, r1_, r2_, add_i, add_s, add_t, sub_i, mul_i, int_o, cmp_o, isn_, ix_t, ix_r, ix_s, len_t2, len_t3, len_t4, len_t5, len_r, int1_i, two_, tuple_t, tuple_r, list_t, list_r, str_i, sl_t, sl_r, rev_t, rev_r, lo_l, lo_r, isi_t_t, isi_i_t, isi_s_s, isi_i_i, isi_i_b, isi_b_b, at0, at1, at2, at3, eq_i, eq_s, ol_s, vr_s, tb_b, ti_i, Br_t, Br_f, List.getElem?_cons_zero, List.getElem?_cons_succ, List.set_cons_zero, List.set_cons_succ, true_and, eq_self, Bool.not_true, Bool.not_false, Bool.false_eq_true, if_true, if_false, Nat.reduceLeDiff, ite_true, ite_false, Int.zero_add, vis_last hpl.1, mx_ol XM2 (lst_ol eD), atD]); (repeat (refine Nx.mk ?_; try simp (disch := omega) only [skip_, seqset_, seqdrop_, seqasg_, ret_, retN_, if_, drop_, set_, asg_, for_, raise0_, raise1_, var_, c_, c2_, test_, and_, or_, not_, andV_, orV_, notV_, nil_, cons_, tup0_, tup1_, tup2_, tup3_, tup4_, tup5_, lst0_, lst1_, lst2_, lst3_, lst4_, lst5_, lst6_, lst7_, lst8_, lst9_, lst10_, lstv1_, lstv2_, lstv3_, lstv4_, lstv5_, b_, m_, call1_, call2_, call3_, call4_, call5_, neg_, slice_, none_, some_, rev_, comp_, gtup_, gn_nil, gn_cons, wipe_n, wipe_c, iseq_, sq_t, sq_r, r1_, r2_, add_i, add_s, add_t, sub_i, mul_i, int_o, cmp_o, isn_, ix_t, ix_r, ix_s, len_t2, len_t3, len_t4, len_t5, len_r, int1_i, two_, tuple_t, tuple_r, list_t, list_r, str_i, sl_t, sl_r, rev_t, rev_r, lo_l, lo_r, isi_t_t, isi_i_t, isi_s_s, isi_i_i, isi_i_b, isi_b_b, at0, at1, at2, at3, eq_i, eq_s, ol_s, vr_s, tb_b, ti_i, Br_t, Br_f, List.getElem?_cons_zero, List.getElem?_cons_succ, List.set_cons_zero, List.set_cons_succ, true_and, eq_self, Bool.not_true, Bool.not_false, Bool.false_eq_true, if_true, if_false, Nat.reduceLeDiff, ite_true, ite_false, Int.zero_add, vis_last hpl.1, mx_ol XM2 (lst_ol eD), atD]))
      (try refine Nx.mk ?_); refine seq_m (fun ρ' M' => ∃ (o8 : Option D) (dl : Int), ρ' = [some (.ref a), some (.int k), some (.tup (c0 :: .tup (ls.map Lt.d) :: cr)), some (.tup (rs.map Rn.d)), some (.ref pd), some (.ref pr), some (.int (n : Int)), some (.int (9999 - r0.en)), o8, some (.int dl)] ∧ dl ≤ 9999 - r0.en ∧ M2 = M') (fun Kn3 hK3 => ?_) ?_
      · (try simp only [skip_, seqset_, seqdrop_, seqasg_, ret_, retN_, if_, drop_, set_, asg_, for_, raise0_, raise1_, var_, c_, c2_, test_, and_, or_, not_, andV_, orV_, notV_, nil_, cons_, tup0_, tup1_, tup2_, tup3_, tup4_, tup5_, lst0_, lst1_, lst2_, lst3_, lst4_, lst5_, lst6_, lst7_, lst8_, lst9_, lst10_, lstv1_, lstv2_, lstv3_, lstv4_, lstv5_, b_, m_, call1_, call2_, call3_, call4_, call5_, neg_, slice_, none_, some_, rev_, comp_, gtup_, gn_nil, gn_cons, wipe_n, wipe_c, iseq_, sq_t, sq_r, r1_, r2_, add_i, add_s, add_t, sub_i, mul_i, int_o, cmp_o, isn_, ix_t, ix_r, ix_s, len_t2, len_t3, len_t4, len_t5, len_r, int1_i, two_, tuple_t, tuple_r, list_t, list_r, str_i, sl_t, sl_r, rev_t, rev_r, lo_l, lo_r, isi_t_t, isi_i_t, isi_s_s, isi_i_i, isi_i_b, isi_b_b, at0, at1, at2, at3, eq_i, eq_s, ol_s, vr_s, tb_b, ti_i, Br_t, Br_f, List.getElem?_cons_zero, List.getElem?_cons_succ, List.set_cons_zero, List.set_cons_succ, true_and, eq_self, Bool.not_true, Bool.not_false, Bool.false_eq_true, if_true, if_false, Nat.reduceLeDiff, ite_true, ite_false]); (repeat (refine Nx.mk ?_; try simp only [skip_, seqset_, seqdrop_, seqasg_, ret_, retN_, if_, drop_, set_, asg_, for_, raise0_, raise1_, var_, c_, c2_, test_, and_, or_, not_, andV_, orV_, notV_, nil_, cons_, tup0_, tup1_, tup2_, tup3_, tup4_, tup5_, lst0_, lst1_, lst2_, lst3_, lst4_, lst5_, lst6_, lst7_, lst8_, lst9_, lst10_, lstv1_, lstv2_, lstv3_, lstv4_, lstv5_, b_, m_, call1_, call2_, call3_, call4_, call5_, neg_, slice_, none_, some_, rev_, comp_, gtup_, gn_nil, gn_cons, wipe_n, wipe_c, iseq_, sq_t, sq_r, r1_, r2_, add_i, add_s, add_t, sub_i, mul_i, int_o, cmp_o, isn_, ix_t, ix_r, ix_s, len_t2, len_t3, len_t4, len_t5, len_r, int1_i, two_, tuple_t, tuple_r, list_t, list_r, str_i, sl_t, sl_r, rev_t, rev_r, lo_l, lo_r, isi_t_t, isi_i_t, isi_s_s, isi_i_i, isi_i_b, isi_b_b, at0, at1, at2, at3, eq_i, eq_s, ol_s, vr_s, tb_b, ti_i, Br_t, Br_f, List.getElem?_cons_zero, List.getElem?_cons_succ, List.set_cons_zero, List.set_cons_succ, true_and, eq_self, Bool.not_true, Bool.not_false, Bool.false_eq_true, if_true, if_false, Nat.reduceLeDiff, ite_true, ite_false]))
        refine Br_i (fun h => ?_) (fun h => ?_)
        · (try simp (disch := omega) only [skip_, seqset_, seqdrop_, seqasg_, ret_, retN_, if_, drop_, set_, asg_, for_, raise0_, raise1_, var_, c_, c2_, test_, and_, or_, not_, andV_, orV_, notV_, nil_, cons_, tup0_, tup1_, tup2_, tup3_, tup4_, tup5_, lst0_, lst1_, lst2_, lst3_, lst4_, lst5_, lst6_, lst7_, lst8_, lst9_, lst10_, lstv1_, lstv2_, lstv3_, lstv4_, lstv5_, b_, m_, call1_, call2_, call3_, call4_, call5_, neg_, slice_, none_, some_, rev_, comp_, gtup_, gn_nil, gn_cons, wipe_n, wipe_c, iseq_, sq_t, sq_r, r1_, r2_, add_i, add_s, add_t, sub_i, mul_i, int_o, cmp_o, isn_, ix_t, ix_r, ix_s, len_t2, len_t3, len_t4, len_t5, len_r, int1_i, two_, tuple_t, tuple_r, list_t, list_r, str_i, sl_t, sl_r, rev_t, rev_r, lo_l, lo_r, isi_t_t, isi_i_t, isi_s_s, isi_i_i, isi_i_b, isi_b_b, at0, at1, at2, at3, eq_i, eq_s, ol_s, vr_s, tb_b, ti_i, Br_t, Br_f, List.getElem?_cons_zero, List.getElem?_cons_succ, List.set_cons_zero, List.set_cons_succ, true_and, eq_self, Bool.not_true, Bool.not_false, Bool.false_eq_true, if_true, if_false, Nat.reduceLeDiff, ite_true, ite_false, mx_ol XM2 (lst_ol eD), atD]); (repeat (refine Nx.mk ?_; try simp (disch := omega) only [skip_, seqset_, seqdrop_, seqasg_, ret_, retN_, if_, drop_, set_, asg_, for_, raise0_, raise1_, var_, c_, c2_, test_, and_, or_, not_, andV_, orV_, notV_, nil_, cons_, tup0_, tup1_, tup2_, tup3_, tup4_, tup5_, lst0_, lst1_, lst2_, lst3_, lst4_, lst5_, lst6_, lst7_, lst8_, lst9_, lst10_, lstv1_, lstv2_, lstv3_, lstv4_, lstv5_, b_, m_, call1_, call2_, call3_, call4_, call5_, neg_, slice_, none_, some_, rev_, comp_, gtup_, gn_nil, gn_cons, wipe_n, wipe_c, iseq_, sq_t, sq_r, r1_, r2_, add_i, add_s, add_t, sub_i, mul_i, int_o, cmp_o, isn_, ix_t, ix_r, ix_s, len_t2, len_t3, len_t4, len_t5, len_r, int1_i, two_, tuple_t, tuple_r, list_t, list_r, str_i, sl_t, sl_r, rev_t, rev_r, lo_l, lo_r, isi_t_t, isi_i_t, isi_s_s, isi_i_i, isi_i_b, isi_b_b, at0, at1, at2, at3, eq_i, eq_s, ol_s, vr_s, tb_b, ti_i, Br_t, Br_f, List.getElem?_cons_zero, List.getElem?_cons_succ, List.set_cons_zero, List.set_cons_succ, true_and, eq_self, Bool.not_true, Bool.not_false, Bool.false_eq_true, if_true, if_false, Nat.reduceLeDiff, ite_true, ite_false, mx_ol XM2 (lst_ol eD), atD]))
          refine ⟨Or.inl ⟨by decide, by decide⟩, hK3 _ _ ⟨_, _, rfl, ?_, rfl⟩⟩
          split <;> omega
        · (try simp only [skip_, seqset_, seqdrop_, seqasg_, ret_, retN_, if_, drop_, set_, asg_, for_, raise0_, raise1_, var_, c_, c2_, test_, and_, or_, not_, andV_, orV_, notV_, nil_, cons_, tup0_, tup1_, tup2_, tup3_, tup4_, tup5_, lst0_, lst1_, lst2_, lst3_, lst4_, lst5_, lst6_, lst7_, lst8_, lst9_, lst10_, lstv1_, lstv2_, lstv3_, lstv4_, lstv5_, b_, m_, call1_, call2_, call3_, call4_, call5_, neg_, slice_, none_, some_, rev_, comp_, gtup_, gn_nil, gn_cons, wipe_n, wipe_c, iseq_, sq_t, sq_r, r1_, r2_, add_i, add_s, add_t, sub_i, mul_i, int_o, cmp_o, isn_, ix_t, ix_r, ix_s, len_t2, len_t3, len_t4, len_t5, len_r, int1_i, two_, tuple_t, tuple_r, list_t, list_r, str_i, sl_t, sl_r, rev_t, rev_r, lo_l, lo_r, isi_t_t, isi_i_t, isi_s_s, isi_i_i, isi_i_b, isi_b_b, at0, at1, at2, at3, eq_i, eq_s, ol_s, vr_s, tb_b, ti_i, Br_t, Br_f, List.getElem?_cons_zero, List.getElem?_cons_succ, List.set_cons_zero, List.set_cons_succ, true_and, eq_self, Bool.not_true, Bool.not_false, Bool.false_eq_true, if_true, if_false, Nat.reduceLeDiff, ite_true, ite_false]); (repeat (refine Nx.mk ?_; try simp only [skip_, seqset_, seqdrop_, seqasg_, ret_, retN_, if_, drop_, set_, asg_, for_, raise0_, raise1_, var_, c_, c2_, test_, and_, or_, not_, andV_, orV_, notV_, nil_, cons_, tup0_, tup1_, tup2_, tup3_, tup4_, tup5_, lst0_, lst1_, lst2_, lst3_, lst4_, lst5_, lst6_, lst7_, lst8_, lst9_, lst10_, lstv1_, lstv2_, lstv3_, lstv4_, lstv5_, b_, m_, call1_, call2_, call3_, call4_, call5_, neg_, slice_, none_, some_, rev_, comp_, gtup_, gn_nil, gn_cons, wipe_n, wipe_c, iseq_, sq_t, sq_r, r1_, r2_, add_i, add_s, add_t, sub_i, mul_i, int_o, cmp_o, isn_, ix_t, ix_r, ix_s, len_t2, len_t3, len_t4, len_t5, len_r, int1_i, two_, tuple_t, tuple_r, list_t, list_r, str_i, sl_t, sl_r, rev_t, rev_r, lo_l, lo_r, isi_t_t, isi_i_t, isi_s_s, isi_i_i, isi_i_b, isi_b_b, at0, at1, at2, at3, eq_i, eq_s, ol_s, vr_s, tb_b, ti_i, Br_t, Br_f, List.getElem?_cons_zero, List.getElem?_cons_succ, List.set_cons_zero, List.set_cons_succ, true_and, eq_self, Bool.not_true, Bool.not_false, Bool.false_eq_true, if_true, if_false, Nat.reduceLeDiff, ite_true, ite_false]))
          refine Br_i (fun h => ?_) (fun h => ?_)
          · (try simp only [skip_, seqset_, seqdrop_, seqasg_, ret_, retN_, if_, drop_, set_, asg_, for_, raise0_, raise1_, var_, c_, c2_, test_, and_, or_, not_, andV_, orV_, notV_, nil_, cons_, tup0_, tup1_, tup2_, tup3_, tup4_, tup5_, lst0_, lst1_, lst2_, lst3_, lst4_, lst5_, lst6_, lst7_, lst8_, lst9_, lst10_, lstv1_, lstv2_, lstv3_, lstv4_, lstv5_, b_, m_, call1_, call2_, call3_, call4_, call5_, neg_, slice_, none_, some_, rev_, comp_, gtup_, gn_nil, gn_cons, wipe_n, wipe_c, iseq_, sq_t, sq_r, r1_, r2_, add_i, add_s, add_t, sub_i, mul_i, int_o, cmp_o, isn_, ix_t, ix_r, ix_s, len_t2, len_t3, len_t4, len_t5, len_r, int1_i, two_, tuple_t, tuple_r, list_t, list_r, str_i, sl_t, sl_r, rev_t, rev_r, lo_l, lo_r, isi_t_t, isi_i_t, isi_s_s, isi_i_i, isi_i_b, isi_b_b, at0, at1, at2, at3, eq_i, eq_s, ol_s, vr_s, tb_b, ti_i, Br_t, Br_f, List.getElem?_cons_zero, List.getElem?_cons_succ, List.set_cons_zero, List.set_cons_succ, true_and, eq_self, Bool.not_true, Bool.not_false, Bool.false_eq_true, if_true, if_false, Nat.reduceLeDiff, ite_true, ite_false]); (repeat (refine Nx.mk ?_; try simp only [skip_, seqset_, seqdrop_, seqasg_, ret_, retN_, if_, drop_, set_, asg_, for_, raise0_, raise1_, var_, c_, c2_, test_, and_, or_, not_, andV_, orV_, notV_, nil_, cons_, tup0_, tup1_, tup2_, tup3_, tup4_, tup5_, lst0_, lst1_, lst2_, lst3_, lst4_, lst5_, lst6_, lst7_, lst8_, lst9_, lst10_, lstv1_, lstv2_, lstv3_, lstv4_, lstv5_, b_, m_, call1_, call2_, call3_, call4_, call5_, neg_, slice_, none_, some_, rev_, comp_, gtup_, gn_nil, gn_cons, wipe_n, wipe_c, iseq_, sq_t, sq_r, r1_, r2_, add_i, add_s, add_t, sub_i, mul_i, int_o, cmp_o, isn_, ix_t, ix_r, ix_s, len_t2, len_t3, len_t4, len_t5, len_r, int1_i, two_, tuple_t, tuple_r, list_t, list_r, str_i, sl_t, sl_r, rev_t, rev_r, lo_l, lo_r, isi_t_t, isi_i_t, isi_s_s, isi_i_i, isi_i_b, isi_b_b, at0, at1, at2, at3, eq_i, eq_s, ol_s, vr_s, tb_b, ti_i, Br_t, Br_f, List.getElem?_cons_zero, List.getElem?_cons_succ, List.set_cons_zero, List.set_cons_succ, true_and, eq_self, Bool.not_true, Bool.not_false, Bool.false_eq_true, if_true, if_false, Nat.reduceLeDiff, ite_true, ite_false]))
            exact hK3 _ _ ⟨_, _, rfl, Int.le_refl _, rfl⟩
          · (try simp only [skip_, seqset_, seqdrop_, seqasg_, ret_, retN_, if_, drop_, set_, asg_, for_, raise0_, raise1_, var_, c_, c2_, test_, and_, or_, not_, andV_, orV_, notV_, nil_, cons_, tup0_, tup1_, tup2_, tup3_, tup4_, tup5_, lst0_, lst1_, lst2_, lst3_, lst4_, lst5_, lst6_, lst7_, lst8_, lst9_, lst10_, lstv1_, lstv2_, lstv3_, lstv4_, lstv5_, b_, m_, call1_, call2_, call3_, call4_, call5_, neg_, slice_, none_, some_, rev_, comp_, gtup_, gn_nil, gn_cons, wipe_n, wipe_c, iseq_, sq_t, sq_r, r1_, r2_, add_i, add_s, add_t, sub_i, mul_i, int_o, cmp_o, isn_, ix_t, ix_r, ix_s, len_t2, len_t3, len_t4, len_t5, len_r, int1_i, two_, tuple_t, tuple_r, list_t, list_r, str_i, sl_t, sl_r, rev_t, rev_r, lo_l, lo_r, isi_t_t, isi_i_t, isi_s_s, isi_i_i, isi_i_b, isi_b_b, at0, at1, at2, at3, eq_i, eq_s, ol_s, vr_s, tb_b, ti_i, Br_t, Br_f, List.getElem?_cons_zero, List.getElem?_cons_succ, List.set_cons_zero, List.set_cons_succ, true_and, eq_self, Bool.not_true, Bool.not_false, Bool.false_eq_true, if_true, if_false, Nat.reduceLeDiff, ite_true, ite_false]); (repeat (refine Nx.mk ?_; try simp only [skip_, seqset_, seqdrop_, seqasg_, ret_, retN_, if_, drop_, set_, asg_, for_, raise0_, raise1_, var_, c_, c2_, test_, and_, or_, not_, andV_, orV_, notV_, nil_, cons_, tup0_, tup1_, tup2_, tup3_, tup4_, tup5_, lst0_, lst1_, lst2_, lst3_, lst4_, lst5_, lst6_, lst7_, lst8_, lst9_, lst10_, lstv1_, lstv2_, lstv3_, lstv4_, lstv5_, b_, m_, call1_, call2_, call3_, call4_, call5_, neg_, slice_, none_, some_, rev_, comp_, gtup_, gn_nil, gn_cons, wipe_n, wipe_c, iseq_, sq_t, sq_r, r1_, r2_, add_i, add_s, add_t, sub_i, mul_i, int_o, cmp_o, isn_, ix_t, ix_r, ix_s, len_t2, len_t3, len_t4, len_t5, len_r, int1_i, two_, tuple_t, tuple_r, list_t, list_r, str_i, sl_t, sl_r, rev_t, rev_r, lo_l, lo_r, isi_t_t, isi_i_t, isi_s_s, isi_i_i, isi_i_b, isi_b_b, at0, at1, at2, at3, eq_i, eq_s, ol_s, vr_s, tb_b, ti_i, Br_t, Br_f, List.getElem?_cons_zero, List.getElem?_cons_succ, List.set_cons_zero, List.set_cons_succ, true_and, eq_self, Bool.not_true, Bool.not_false, Bool.false_eq_true, if_true, if_false, Nat.reduceLeDiff, ite_true, ite_false]))
            refine Br_i (fun h => ?_) (fun h => ?_)
            · (try simp (disch := omega) only [skip_, seqset_, seqdrop_, seqasg_, ret_, retN_, if_, drop_, set_, asg_, for_, raise0_, raise1_, var_, c_, c2_, test_, and_, or_, not_, andV_, orV_, notV_, nil_, cons_, tup0_, tup1_, tup2_, tup3_, tup4_, tup5_, lst0_, lst1_, lst2_, lst3_, lst4_, lst5_, lst6_, lst7_, lst8_, lst9_, lst10_, lstv1_, lstv2_, lstv3_, lstv4_, lstv5_, b_, m_, call1_, call2_, call3_, call4_, call5_, neg_, slice_, none_, some_, rev_, comp_, gtup_, gn_nil, gn_cons, wipe_n, wipe_c, iseq_, sq_t, sq_r, r1_, r2_, add_i, add_s, add_t, sub_i, mul_i, int_o, cmp_o, isn_, ix_t, ix_r, ix_s, len_t2, len_t3, len_t4, len_t5, len_r, int1_i, two_, tuple_t, tuple_r, list_t, list_r, str_i, sl_t, sl_r, rev_t, rev_r, lo_l, lo_r, isi_t_t, isi_i_t, isi_s_s, isi_i_i, isi_i_b, isi_b_b, at0, at1, at2, at3, eq_i, eq_s, ol_s, vr_s, tb_b, ti_i, Br_t, Br_f, List.getElem?_cons_zero, List.getElem?_cons_succ, List.set_cons_zero, List.set_cons_succ, true_and, eq_self, Bool.not_true, Bool.not_false, Bool.false_eq_true, if_true, if_false, Nat.reduceLeDiff, ite_true, ite_false, mx_ol XM2 (lst_ol eD), atD]); (repeat (refine Nx.mk ?_; try simp (disch := omega) only [skip_, seqset_, seqdrop_, seqasg_, ret_, retN_, if_, drop_, set_, asg_, for_, raise0_, raise1_, var_, c_, c2_, test_, and_, or_, not_, andV_, orV_, notV_, nil_, cons_, tup0_, tup1_, tup2_, tup3_, tup4_, tup5_, lst0_, lst1_, lst2_, lst3_, lst4_, lst5_, lst6_, lst7_, lst8_, lst9_, lst10_, lstv1_, lstv2_, lstv3_, lstv4_, lstv5_, b_, m_, call1_, call2_, call3_, call4_, call5_, neg_, slice_, none_, some_, rev_, comp_, gtup_, gn_nil, gn_cons, wipe_n, wipe_c, iseq_, sq_t, sq_r, r1_, r2_, add_i, add_s, add_t, sub_i, mul_i, int_o, cmp_o, isn_, ix_t, ix_r, ix_s, len_t2, len_t3, len_t4, len_t5, len_r, int1_i, two_, tuple_t, tuple_r, list_t, list_r, str_i, sl_t, sl_r, rev_t, rev_r, lo_l, lo_r, isi_t_t, isi_i_t, isi_s_s, isi_i_i, isi_i_b, isi_b_b, at0, at1, at2, at3, eq_i, eq_s, ol_s, vr_s, tb_b, ti_i, Br_t, Br_f, List.getElem?_cons_zero, List.getElem?_cons_succ, List.set_cons_zero, List.set_cons_succ, true_and, eq_self, Bool.not_true, Bool.not_false, Bool.false_eq_true, if_true, if_false, Nat.reduceLeDiff, ite_true, ite_false, mx_ol XM2 (lst_ol eD), atD]))
              refine ⟨Or.inl ⟨by decide, by decide⟩, by omega, hK3 _ _ ⟨_, _, rfl, ?_, rfl⟩⟩
              have := Int.fmod_lt_of_pos (r (3 * (n : Int) + 2)) (show 0 < 9999 - r0.en + 1 by omega)
              omega
            · (try simp only [skip_, seqset_, seqdrop_, seqasg_, ret_, retN_, if_, drop_, set_, asg_, for_, raise0_, raise1_, var_, c_, c2_, test_, and_, or_, not_, andV_, orV_, notV_, nil_, cons_, tup0_, tup1_, tup2_, tup3_, tup4_, tup5_, lst0_, lst1_, lst2_, lst3_, lst4_, lst5_, lst6_, lst7_, lst8_, lst9_, lst10_, lstv1_, lstv2_, lstv3_, lstv4_, lstv5_, b_, m_, call1_, call2_, call3_, call4_, call5_, neg_, slice_, none_, some_, rev_, comp_, gtup_, gn_nil, gn_cons, wipe_n, wipe_c, iseq_, sq_t, sq_r, r1_, r2_, add_i, add_s, add_t, sub_i, mul_i, int_o, cmp_o, isn_, ix_t, ix_r, ix_s, len_t2, len_t3, len_t4, len_t5, len_r, int1_i, two_, tuple_t, tuple_r, list_t, list_r, str_i, sl_t, sl_r, rev_t, rev_r, lo_l, lo_r, isi_t_t, isi_i_t, isi_s_s, isi_i_i, isi_i_b, isi_b_b, at0, at1, at2, at3, eq_i, eq_s, ol_s, vr_s, tb_b, ti_i, Br_t, Br_f, List.getElem?_cons_zero, List.getElem?_cons_succ, List.set_cons_zero, List.set_cons_succ, true_and, eq_self, Bool.not_true, Bool.not_false, Bool.false_eq_true, if_true, if_false, Nat.reduceLeDiff, ite_true, ite_false]); (repeat (refine Nx.mk ?_; try simp only [skip_, seqset_, seqdrop_, seqasg_, ret_, retN_, if_, drop_, set_, asg_, for_, raise0_, raise1_, var_, c_, c2_, test_, and_, or_, not_, andV_, orV_, notV_, nil_, cons_, tup0_, tup1_, tup2_, tup3_, tup4_, tup5_, lst0_, lst1_, lst2_, lst3_, lst4_, lst5_, lst6_, lst7_, lst8_, lst9_, lst10_, lstv1_, lstv2_, lstv3_, lstv4_, lstv5_, b_, m_, call1_, call2_, call3_, call4_, call5_, neg_, slice_, none_, some_, rev_, comp_, gtup_, gn_nil, gn_cons, wipe_n, wipe_c, iseq_, sq_t, sq_r, r1_, r2_, add_i, add_s, add_t, sub_i, mul_i, int_o, cmp_o, isn_, ix_t, ix_r, ix_s, len_t2, len_t3, len_t4, len_t5, len_r, int1_i, two_, tuple_t, tuple_r, list_t, list_r, str_i, sl_t, sl_r, rev_t, rev_r, lo_l, lo_r, isi_t_t, isi_i_t, isi_s_s, isi_i_i, isi_i_b, isi_b_b, at0, at1, at2, at3, eq_i, eq_s, ol_s, vr_s, tb_b, ti_i, Br_t, Br_f, List.getElem?_cons_zero, List.getElem?_cons_succ, List.set_cons_zero, List.set_cons_succ, true_and, eq_self, Bool.not_true, Bool.not_false, Bool.false_eq_true, if_true, if_false, Nat.reduceLeDiff, ite_true, ite_false]))
              exact hK3 _ _ ⟨_, _, rfl, by omega, rfl⟩
      · rintro _ _ ⟨o8, dl, rfl, hdl, rfl⟩
        have e2 := x2 _ _ e
        (try simp only [skip_, seqset_, seqdrop_, seqasg_, ret_, retN_, if_, drop_, set_, asg_, for_, raise0_, raise1_, var_, c_, c2_, test_, and_, or_, not_, andV_, orV_, notV_, nil_, cons_, tup0_, tup1_, tup2_, tup3_, tup4_, tup5_, lst0_, lst1_, lst2_, lst3_, lst4_, lst5_, lst6_, lst7_, lst8_, lst9_, lst10_, lstv1_, lstv2_, lstv3_, lstv4_, lstv5_, b_, m_, call1_, call2_, call3_, call4_, call5_, neg_, slice_, none_, some_, rev_, comp_, gtup_, gn_nil, gn_cons, wipe_n, wipe_c, iseq_, sq_t, sq_r, r1_, r2_, add_i, add_s, add_t, sub_i, mul_i, int_o, cmp_o, isn_, ix_t, ix_r, ix_s, len_t2, len_t3, len_t4, len_t5, len_r, int1_i, two_, tuple_t, tuple_r, list_t, list_r, str_i, sl_t, sl_r, rev_t, rev_r, lo_l, lo_r, isi_t_t, isi_i_t, isi_s_s, isi_i_i, isi_i_b, isi_b_b, at0, at1, at2, at3, eq_i, eq_s, ol_s, vr_s, tb_b, ti_i, Br_t, Br_f, List.getElem?_cons_zero, List.getElem?_cons_succ, List.set_cons_zero, List.set_cons_succ, true_and, eq_self, Bool.not_true, Bool.not_false, Bool.false_eq_true, if_true, if_false, Nat.reduceLeDiff, ite_true, ite_false, ty_l e2, app_ _ e2]); (repeat (refine Nx.mk ?_; try simp only [skip_, seqset_, seqdrop_, seqasg_, ret_, retN_, if_, drop_, set_, asg_, for_, raise0_, raise1_, var_, c_, c2_, test_, and_, or_, not_, andV_, orV_, notV_, nil_, cons_, tup0_, tup1_, tup2_, tup3_, tup4_, tup5_, lst0_, lst1_, lst2_, lst3_, lst4_, lst5_, lst6_, lst7_, lst8_, lst9_, lst10_, lstv1_, lstv2_, lstv3_, lstv4_, lstv5_, b_, m_, call1_, call2_, call3_, call4_, call5_, neg_, slice_, none_, some_, rev_, comp_, gtup_, gn_nil, gn_cons, wipe_n, wipe_c, iseq_, sq_t, sq_r, r1_, r2_, add_i, add_s, add_t, sub_i, mul_i, int_o, cmp_o, isn_, ix_t, ix_r, ix_s, len_t2, len_t3, len_t4, len_t5, len_r, int1_i, two_, tuple_t, tuple_r, list_t, list_r, str_i, sl_t, sl_r, rev_t, rev_r, lo_l, lo_r, isi_t_t, isi_i_t, isi_s_s, isi_i_i, isi_i_b, isi_b_b, at0, at1, at2, at3, eq_i, eq_s, ol_s, vr_s, tb_b, ti_i, Br_t, Br_f, List.getElem?_cons_zero, List.getElem?_cons_succ, List.set_cons_zero, List.set_cons_succ, true_and, eq_self, Bool.not_true, Bool.not_false, Bool.false_eq_true, if_true, if_false, Nat.reduceLeDiff, ite_true, ite_false, ty_l e2, app_ _ e2]))
        refine ⟨size_le (by simp; omega), hK2 _ _ ⟨_, _, _, _, xs ++ [dl], rfl, mx_put XM2 hpr, by rw [put_same]; simp, by simp [hn], fun m r' hr' => ?_⟩⟩
        obtain ⟨r1, y, h1, h2, rfl⟩ := lates_of hr'
        by_cases hm2 : m < n
        · rw [List.getElem?_append_left (by omega)] at h2
          exact hb m _ (lates_at h1 h2)
        · have : m = n := by
            have := (List.getElem?_eq_some_iff.mp h2).1
            simp at this
            omega
          subst this
          rw [← hn, List.getElem?_append_right (Nat.le_refl _), Nat.sub_self] at h2
          cases h2
          rw [hrn] at h1
          cases h1
          rw [add_en]
          omega
    · rintro _ M' ⟨o6, o7, o8, o9, xs, rfl, x, e, hn, hb⟩
      exact hK _ _ ⟨_, _, _, _, xs, rfl, x, e, by simpa [rng_len] using hn, hb⟩
  · rintro _ M' ⟨o6, o7, o8, o9, xs, rfl, x, e, hn, hb⟩
    (try simp only [skip_, seqset_, seqdrop_, seqasg_, ret_, retN_, if_, drop_, set_, asg_, for_, raise0_, raise1_, var_, c_, c2_, test_, and_, or_, not_, andV_, orV_, notV_, nil_, cons_, tup0_, tup1_, tup2_, tup3_, tup4_, tup5_, lst0_, lst1_, lst2_, lst3_, lst4_, lst5_, lst6_, lst7_, lst8_, lst9_, lst10_, lstv1_, lstv2_, lstv3_, lstv4_, lstv5_, b_, m_, call1_, call2_, call3_, call4_, call5_, neg_, slice_, none_, some_, rev_, comp_, gtup_, gn_nil, gn_cons, wipe_n, wipe_c, iseq_, sq_t, sq_r, r1_, r2_, add_i, add_s, add_t, sub_i, mul_i, int_o, cmp_o, isn_, ix_t, ix_r, ix_s, len_t2, len_t3, len_t4, len_t5, len_r, int1_i, two_, tuple_t, tuple_r, list_t, list_r, str_i, sl_t, sl_r, rev_t, rev_r, lo_l, lo_r, isi_t_t, isi_i_t, isi_s_s, isi_i_i, isi_i_b, isi_b_b, at0, at1, at2, at3, eq_i, eq_s, ol_s, vr_s, tb_b, ti_i, Br_t, Br_f, List.getElem?_cons_zero, List.getElem?_cons_succ, List.set_cons_zero, List.set_cons_succ, true_and, eq_self, Bool.not_true, Bool.not_false, Bool.false_eq_true, if_true, if_false, Nat.reduceLeDiff, ite_true, ite_false]); (repeat (refine Nx.mk ?_; try simp only [skip_, seqset_, seqdrop_, seqasg_, ret_, retN_, if_, drop_, set_, asg_, for_, raise0_, raise1_, var_, c_, c2_, test_, and_, or_, not_, andV_, orV_, notV_, nil_, cons_, tup0_, tup1_, tup2_, tup3_, tup4_, tup5_, lst0_, lst1_, lst2_, lst3_, lst4_, lst5_, lst6_, lst7_, lst8_, lst9_, lst10_, lstv1_, lstv2_, lstv3_, lstv4_, lstv5_, b_, m_, call1_, call2_, call3_, call4_, call5_, neg_, slice_, none_, some_, rev_, comp_, gtup_, gn_nil, gn_cons, wipe_n, wipe_c, iseq_, sq_t, sq_r, r1_, r2_, add_i, add_s, add_t, sub_i, mul_i, int_o, cmp_o, isn_, ix_t, ix_r, ix_s, len_t2, len_t3, len_t4, len_t5, len_r, int1_i, two_, tuple_t, tuple_r, list_t, list_r, str_i, sl_t, sl_r, rev_t, rev_r, lo_l, lo_r, isi_t_t, isi_i_t, isi_s_s, isi_i_i, isi_i_b, isi_b_b, at0, at1, at2, at3, eq_i, eq_s, ol_s, vr_s, tb_b, ti_i, Br_t, Br_f, List.getElem?_cons_zero, List.getElem?_cons_succ, List.set_cons_zero, List.set_cons_succ, true_and, eq_self, Bool.not_true, Bool.not_false, Bool.false_eq_true, if_true, if_false, Nat.reduceLeDiff, ite_true, ite_false]))
    exact hQ pr xs _ (mxT XD x) (mx_none XD hpr) e hn hb
theorem added_sp {rs : List Rn} {xs : List Int} {p : Addr} (hp : lstOf (M p) = some (xs.map .int)) (hl : xs.length = rs.length) (hm : rs.length ≤ 1000) (hQ : ∀ M', MX M M' → Q (.tup ((lates rs xs).map Rn.d)) M') : cf_l_added K g [.tup (rs.map Rn.d), .ref p] M Q E := by
  unfold cf_l_added cfOf
  rw [show startD 4 [.tup (rs.map Rn.d), .ref p] = [some (.tup (rs.map Rn.d)), some (.ref p), none, none] from rfl]
  unfold R_l_added
  (try simp only [skip_, seqset_, seqdrop_, seqasg_, ret_, retN_, if_, drop_, set_, asg_, for_, raise0_, raise1_, var_, c_, c2_, test_, and_, or_, not_, andV_, orV_, notV_, nil_, cons_, tup0_, tup1_, tup2_, tup3_, tup4_, tup5_, lst0_, lst1_, lst2_, lst3_, lst4_, lst5_, lst6_, lst7_, lst8_, lst9_, lst10_, lstv1_, lstv2_, lstv3_, lstv4_, lstv5_, b_, m_, call1_, call2_, call3_, call4_, call5_, neg_, slice_, none_, some_, rev_, comp_, gtup_, gn_nil, gn_cons, wipe_n, wipe_c, iseq_, sq_t, sq_r, r1_, r2_, add_i, add_s, add_t, sub_i, mul_i, int_o, cmp_o, isn_, ix_t, ix_r, ix_s, len_t2, len_t3, len_t4, len_t5, len_r, int1_i, two_, tuple_t, tuple_r, list_t, list_r, str_i, sl_t, sl_r, rev_t, rev_r, lo_l, lo_r, isi_t_t, isi_i_t, isi_s_s, isi_i_i, isi_i_b, isi_b_b, at0, at1, at2, at3, eq_i, eq_s, ol_s, vr_s, tb_b, ti_i, Br_t, Br_f, List.getElem?_cons_zero, List.getElem?_cons_succ, List.set_cons_zero, List.set_cons_succ, true_and, eq_self, Bool.not_true, Bool.not_false, Bool.false_eq_true, if_true, if_false, Nat.reduceLeDiff, ite_true, ite_false]); (repeat (refine Nx.mk ?_; try simp only [skip_, seqset_, seqdrop_, seqasg_, ret_, retN_, if_, drop_, set_, asg_, for_, raise0_, raise1_, var_, c_, c2_, test_, and_, or_, not_, andV_, orV_, notV_, nil_, cons_, tup0_, tup1_, tup2_, tup3_, tup4_, tup5_, lst0_, lst1_, lst2_, lst3_, lst4_, lst5_, lst6_, lst7_, lst8_, lst9_, lst10_, lstv1_, lstv2_, lstv3_, lstv4_, lstv5_, b_, m_, call1_, call2_, call3_, call4_, call5_, neg_, slice_, none_, some_, rev_, comp_, gtup_, gn_nil, gn_cons, wipe_n, wipe_c, iseq_, sq_t, sq_r, r1_, r2_, add_i, add_s, add_t, sub_i, mul_i, int_o, cmp_o, isn_, ix_t, ix_r, ix_s, len_t2, len_t3, len_t4, len_t5, len_r, int1_i, two_, tuple_t, tuple_r, list_t, list_r, str_i, sl_t, sl_r, rev_t, rev_r, lo_l, lo_r, isi_t_t, isi_i_t, isi_s_s, isi_i_i, isi_i_b, isi_b_b, at0, at1, at2, at3, eq_i, eq_s, ol_s, vr_s, tb_b, ti_i, Br_t, Br_f, List.getElem?_cons_zero, List.getElem?_cons_succ, List.set_cons_zero, List.set_cons_succ, true_and, eq_self, Bool.not_true, Bool.not_false, Bool.false_eq_true, if_true, if_false, Nat.reduceLeDiff, ite_true, ite_false]))
  refine newL_i fun q M1 hq x1 e1 => ?_
  (try refine Nx.mk ?_); refine seq_m (fun ρ' M' => ∃ o3, ρ' = [some (.tup (rs.map Rn.d)), some (.ref p), some (.ref q), o3] ∧ MX M M' ∧ M' q = some (.lst ((lates rs xs).map Rn.d))) (fun Kn hK => ?_) ?_
  · (try simp only [skip_, seqset_, seqdrop_, seqasg_, ret_, retN_, if_, drop_, set_, asg_, for_, raise0_, raise1_, var_, c_, c2_, test_, and_, or_, not_, andV_, orV_, notV_, nil_, cons_, tup0_, tup1_, tup2_, tup3_, tup4_, tup5_, lst0_, lst1_, lst2_, lst3_, lst4_, lst5_, lst6_, lst7_, lst8_, lst9_, lst10_, lstv1_, lstv2_, lstv3_, lstv4_, lstv5_, b_, m_, call1_, call2_, call3_, call4_, call5_, neg_, slice_, none_, some_, rev_, comp_, gtup_, gn_nil, gn_cons, wipe_n, wipe_c, iseq_, sq_t, sq_r, r1_, r2_, add_i, add_s, add_t, sub_i, mul_i, int_o, cmp_o, isn_, ix_t, ix_r, ix_s, len_t2, len_t3, len_t4, len_t5, len_r, int1_i, two_, tuple_t, tuple_r, list_t, list_r, str_i, sl_t, sl_r, rev_t, rev_r, lo_l, lo_r, isi_t_t, isi_i_t, isi_s_s, isi_i_i, isi_i_b, isi_b_b, at0, at1, at2, at3, eq_i, eq_s, ol_s, vr_s, tb_b, ti_i, Br_t, Br_f, List.getElem?_cons_zero, List.getElem?_cons_succ, List.set_cons_zero, List.set_cons_succ, true_and, eq_self, Bool.not_true, Bool.not_false, Bool.false_eq_true, if_true, if_false, Nat.reduceLeDiff, ite_true, ite_false, len_t]); (repeat (refine Nx.mk ?_; try simp only [skip_, seqset_, seqdrop_, seqasg_, ret_, retN_, if_, drop_, set_, asg_, for_, raise0_, raise1_, var_, c_, c2_, test_, and_, or_, not_, andV_, orV_, notV_, nil_, cons_, tup0_, tup1_, tup2_, tup3_, tup4_, tup5_, lst0_, lst1_, lst2_, lst3_, lst4_, lst5_, lst6_, lst7_, lst8_, lst9_, lst10_, lstv1_, lstv2_, lstv3_, lstv4_, lstv5_, b_, m_, call1_, call2_, call3_, call4_, call5_, neg_, slice_, none_, some_, rev_, comp_, gtup_, gn_nil, gn_cons, wipe_n, wipe_c, iseq_, sq_t, sq_r, r1_, r2_, add_i, add_s, add_t, sub_i, mul_i, int_o, cmp_o, isn_, ix_t, ix_r, ix_s, len_t2, len_t3, len_t4, len_t5, len_r, int1_i, two_, tuple_t, tuple_r, list_t, list_r, str_i, sl_t, sl_r, rev_t, rev_r, lo_l, lo_r, isi_t_t, isi_i_t, isi_s_s, isi_i_i, isi_i_b, isi_b_b, at0, at1, at2, at3, eq_i, eq_s, ol_s, vr_s, tb_b, ti_i, Br_t, Br_f, List.getElem?_cons_zero, List.getElem?_cons_succ, List.set_cons_zero, List.set_cons_succ, true_and, eq_self, Bool.not_true, Bool.not_false, Bool.false_eq_true, if_true, if_false, Nat.reduceLeDiff, ite_true, ite_false, len_t]))
    rw [List.length_map]
    refine ⟨by omega, for_0 (fun n ρ' M' => ∃ o3, ρ' = [some (.tup (rs.map Rn.d)), some (.ref p), some (.ref q), o3] ∧ MX M M' ∧ M' q = some (.lst (((lates rs xs).take n).map Rn.d))) ⟨_, rfl, x1, e1⟩ (fun _ _ _ _ _ => trivial) ?_ ?_⟩
    · rintro n d hd _ M' ⟨o3, rfl, x, e⟩
      obtain ⟨hn, rfl⟩ := rng_at hd
      have hn : n < rs.length := by simpa using hn
      refine ⟨_, rfl, fun Kn2 hK2 => ?_⟩
      have h1 : rs[n]? = some rs[n] := List.getElem?_eq_getElem hn
      have h2 : xs[n]? = some (xs[n]'(by omega)) := List.getElem?_eq_getElem (by omega)
      have h3 := lates_at h1 h2
      have hz : (lates rs xs).length = rs.length := lates_len hl
      (try simp only [skip_, seqset_, seqdrop_, seqasg_, ret_, retN_, if_, drop_, set_, asg_, for_, raise0_, raise1_, var_, c_, c2_, test_, and_, or_, not_, andV_, orV_, notV_, nil_, cons_, tup0_, tup1_, tup2_, tup3_, tup4_, tup5_, lst0_, lst1_, lst2_, lst3_, lst4_, lst5_, lst6_, lst7_, lst8_, lst9_, lst10_, lstv1_, lstv2_, lstv3_, lstv4_, lstv5_, b_, m_, call1_, call2_, call3_, call4_, call5_, neg_, slice_, none_, some_, rev_, comp_, gtup_, gn_nil, gn_cons, wipe_n, wipe_c, iseq_, sq_t, sq_r, r1_, r2_, add_i, add_s, add_t, sub_i, mul_i, int_o, cmp_o, isn_, ix_t, ix_r, ix_s, len_t2, len_t3, len_t4, len_t5, len_r, int1_i, two_, tuple_t, tuple_r, list_t, list_r, str_i, sl_t, sl_r, rev_t, rev_r, lo_l, lo_r, isi_t_t, isi_i_t, isi_s_s, isi_i_i, isi_i_b, isi_b_b, at0, at1, at2, at3, eq_i, eq_s, ol_s, vr_s, tb_b, ti_i, Br_t, Br_f, List.getElem?_cons_zero, List.getElem?_cons_succ, List.set_cons_zero, List.set_cons_succ, true_and, eq_self, Bool.not_true, Bool.not_false, Bool.false_eq_true, if_true, if_false, Nat.reduceLeDiff, ite_true, ite_false, atI_of (xs := rs.map Rn.d) (i := 0 + (n : Int)) (n := n) (x := rs[n].d) (by omega) (by rw [List.getElem?_map, h1]; rfl), Rn.d_eq rs[n], mx_ol x hp, atI_of (xs := xs.map D.int) (i := 0 + (n : Int)) (n := n) (x := .int (xs[n]'(by omega))) (by omega) (by rw [List.getElem?_map, h2]; rfl), ty_l e, app_ _ e]); (repeat (refine Nx.mk ?_; try simp only [skip_, seqset_, seqdrop_, seqasg_, ret_, retN_, if_, drop_, set_, asg_, for_, raise0_, raise1_, var_, c_, c2_, test_, and_, or_, not_, andV_, orV_, notV_, nil_, cons_, tup0_, tup1_, tup2_, tup3_, tup4_, tup5_, lst0_, lst1_, lst2_, lst3_, lst4_, lst5_, lst6_, lst7_, lst8_, lst9_, lst10_, lstv1_, lstv2_, lstv3_, lstv4_, lstv5_, b_, m_, call1_, call2_, call3_, call4_, call5_, neg_, slice_, none_, some_, rev_, comp_, gtup_, gn_nil, gn_cons, wipe_n, wipe_c, iseq_, sq_t, sq_r, r1_, r2_, add_i, add_s, add_t, sub_i, mul_i, int_o, cmp_o, isn_, ix_t, ix_r, ix_s, len_t2, len_t3, len_t4, len_t5, len_r, int1_i, two_, tuple_t, tuple_r, list_t, list_r, str_i, sl_t, sl_r, rev_t, rev_r, lo_l, lo_r, isi_t_t, isi_i_t, isi_s_s, isi_i_i, isi_i_b, isi_b_b, at0, at1, at2, at3, eq_i, eq_s, ol_s, vr_s, tb_b, ti_i, Br_t, Br_f, List.getElem?_cons_zero, List.getElem?_cons_succ, List.set_cons_zero, List.set_cons_succ, true_and, eq_self, Bool.not_true, Bool.not_false, Bool.false_eq_true, if_true, if_false, Nat.reduceLeDiff, ite_true, ite_false, atI_of (xs := rs.map Rn.d) (i := 0 + (n : Int)) (n := n) (x := rs[n].d) (by omega) (by rw [List.getElem?_map, h1]; rfl), Rn.d_eq rs[n], mx_ol x hp, atI_of (xs := xs.map D.int) (i := 0 + (n : Int)) (n := n) (x := .int (xs[n]'(by omega))) (by omega) (by rw [List.getElem?_map, h2]; rfl), ty_l e, app_ _ e]))
      refine ⟨size_le (by simp; omega), hK2 _ _ ⟨_, rfl, mx_put x hq, ?_⟩⟩
      rw [put_same, List.take_succ, h3]
      simp
      rfl
    · rintro _ M' ⟨o3, rfl, x, e⟩
      refine hK _ _ ⟨_, rfl, x, ?_⟩
      rw [rng_len, List.take_of_length_le (by rw [lates_len hl]; simp)] at e
      exact e
  · rintro _ M2 ⟨o3, rfl, x2, e2⟩
    (try simp only [skip_, seqset_, seqdrop_, seqasg_, ret_, retN_, if_, drop_, set_, asg_, for_, raise0_, raise1_, var_, c_, c2_, test_, and_, or_, not_, andV_, orV_, notV_, nil_, cons_, tup0_, tup1_, tup2_, tup3_, tup4_, tup5_, lst0_, lst1_, lst2_, lst3_, lst4_, lst5_, lst6_, lst7_, lst8_, lst9_, lst10_, lstv1_, lstv2_, lstv3_, lstv4_, lstv5_, b_, m_, call1_, call2_, call3_, call4_, call5_, neg_, slice_, none_, some_, rev_, comp_, gtup_, gn_nil, gn_cons, wipe_n, wipe_c, iseq_, sq_t, sq_r, r1_, r2_, add_i, add_s, add_t, sub_i, mul_i, int_o, cmp_o, isn_, ix_t, ix_r, ix_s, len_t2, len_t3, len_t4, len_t5, len_r, int1_i, two_, tuple_t, tuple_r, list_t, list_r, str_i, sl_t, sl_r, rev_t, rev_r, lo_l, lo_r, isi_t_t, isi_i_t, isi_s_s, isi_i_i, isi_i_b, isi_b_b, at0, at1, at2, at3, eq_i, eq_s, ol_s, vr_s, tb_b, ti_i, Br_t, Br_f, List.getElem?_cons_zero, List.getElem?_cons_succ, List.set_cons_zero, List.set_cons_succ, true_and, eq_self, Bool.not_true, Bool.not_false, Bool.false_eq_true, if_true, if_false, Nat.reduceLeDiff, ite_true, ite_false, lst_ol e2]); (repeat (refine Nx.mk ?_; try simp only [skip_, seqset_, seqdrop_, seqasg_, ret_, retN_, if_, drop_, set_, asg_, for_, raise0_, raise1_, var_, c_, c2_, test_, and_, or_, not_, andV_, orV_, notV_, nil_, cons_, tup0_, tup1_, tup2_, tup3_, tup4_, tup5_, lst0_, lst1_, lst2_, lst3_, lst4_, lst5_, lst6_, lst7_, lst8_, lst9_, lst10_, lstv1_, lstv2_, lstv3_, lstv4_, lstv5_, b_, m_, call1_, call2_, call3_, call4_, call5_, neg_, slice_, none_, some_, rev_, comp_, gtup_, gn_nil, gn_cons, wipe_n, wipe_c, iseq_, sq_t, sq_r, r1_, r2_, add_i, add_s, add_t, sub_i, mul_i, int_o, cmp_o, isn_, ix_t, ix_r, ix_s, len_t2, len_t3, len_t4, len_t5, len_r, int1_i, two_, tuple_t, tuple_r, list_t, list_r, str_i, sl_t, sl_r, rev_t, rev_r, lo_l, lo_r, isi_t_t, isi_i_t, isi_s_s, isi_i_i, isi_i_b, isi_b_b, at0, at1, at2, at3, eq_i, eq_s, ol_s, vr_s, tb_b, ti_i, Br_t, Br_f, List.getElem?_cons_zero, List.getElem?_cons_succ, List.set_cons_zero, List.set_cons_succ, true_and, eq_self, Bool.not_true, Bool.not_false, Bool.false_eq_true, if_true, if_false, Nat.reduceLeDiff, ite_true, ite_false, lst_ol e2]))
    exact hQ _ x2
end
end K61

namespace CP
open PySem PySem.Spec PyProof.Rows L2 CL
theorem cut_map {α β : Type} (f : α → β) (xs : List α) (lo hi : Option Int) : CL.cutD (xs.map f) lo hi = (CL.cutD xs lo hi).map f := by simp [CL.cutD, List.map_drop, List.map_take]
theorem cut_mem {α : Type} {xs : List α} {lo hi : Option Int} {x : α} (h : x ∈ CL.cutD xs lo hi) : x ∈ xs := List.mem_of_mem_drop (List.mem_of_mem_take h)
theorem cut_take {α : Type} (xs : List α) (k : Nat) : CL.cutD xs none (some (k : Int)) = xs.take (min k xs.length) := by
  unfold CL.cutD
  rw [HT.sIx_none, HT.sIx_nat]
  simp
theorem cut_le {α : Type} (xs : List α) (lo hi : Option Int) : (CL.cutD xs lo hi).length ≤ xs.length := by
  unfold CL.cutD
  simp only [List.length_take, List.length_drop]
  omega
theorem setix_ {a : Addr} {i : Int} {xs : List D} {v : D} {ρ : CL.Env} {M : Mm} {Q : CL.Env → Mm → Prop} {E : CL.CX} {n m : Nat} (h1 : ρ[n]? = some (some (.ref a))) (h2 : ρ[m]? = some (some (.int i))) (h : M a = some (.lst xs)) (h0 : 0 ≤ i) (h3 : i < xs.length) (q : Q ρ (put M a (.lst (xs.set i.toNat v)))) : gIxL (cVar n) (cVar m) v ρ M Q E := by
  unfold gIxL cVar
  rw [h1]
  dsimp only
  rw [h2]
  dsimp only
  simp only [h, ixN_of h0 h3]
  exact q
end CP
namespace K61
open PySem PySem.Spec PyProof.Rows L2 CL CP
section
variable {K : PySem.W.Frag} {g : Cs} {M : Mm} {Q : CK} {E : CL.CX}
def Gd (ls : List Lt) (rs : List Rn) : Prop := ∀ r ∈ rs, Ok ls r ∧ r.en ≤ 9999
theorem lates_zero (rs : List Rn) {xs : List Int} (h : xs.length = rs.length) (hz : ∀ x ∈ xs, x = 0) : lates rs xs = rs := by
  refine List.ext_getElem? fun n => ?_
  by_cases hn : n < rs.length
  · have h1 : rs[n]? = some rs[n] := List.getElem?_eq_getElem hn
    have h2 : xs[n]? = some (xs[n]'(by omega)) := List.getElem?_eq_getElem (by omega)
    rw [lates_at h1 h2, h1, hz _ (List.mem_of_getElem? h2)]
    unfold Rn.add
    rw [Int.add_zero]
  · rw [List.getElem?_eq_none (by rw [lates_len h]; omega), List.getElem?_eq_none (by omega)]
theorem flat_runs (rs : List Rn) : flat 4 (.tup [.str "runs", .tup (rs.map Rn.d)]) = true := by
  simp only [flat, List.all_cons, List.all_nil, Bool.true_and, Bool.and_true, List.all_map]
  exact List.all_eq_true.mpr fun r _ => by simp [Rn.d, flat]
theorem flat_vis (r : Rn) : flat 4 (.tup r.vis) = true := by
  simp only [flat, Rn.vis, visL, List.all_map]
  exact List.all_eq_true.mpr fun r _ => by simp [flat]
theorem law_true (X : Px K g) {a : Addr} {zs : List Int} (hz : M a = some (.rdl (zs.map .int))) (hQ : ∀ M', Q (.bl true) M') : cf_law K g [.ref a] M Q E := by
  unfold cf_law cfOf
  rw [show startD 16 [.ref a] = [some (.ref a), none, none, none, none, none, none, none, none, none, none, none, none, none, none, none] from rfl]
  unfold R_law
  have hz := rdl_ol hz
  (try simp only [skip_, seqset_, seqdrop_, seqasg_, ret_, retN_, if_, drop_, set_, asg_, for_, raise0_, raise1_, var_, c_, c2_, test_, and_, or_, not_, andV_, orV_, notV_, nil_, cons_, tup0_, tup1_, tup2_, tup3_, tup4_, tup5_, lst0_, lst1_, lst2_, lst3_, lst4_, lst5_, lst6_, lst7_, lst8_, lst9_, lst10_, lstv1_, lstv2_, lstv3_, lstv4_, lstv5_, b_, m_, call1_, call2_, call3_, call4_, call5_, neg_, slice_, none_, some_, rev_, comp_, gtup_, gn_nil, gn_cons, wipe_n, wipe_c, iseq_, sq_t, sq_r, r1_, r2_, add_i, add_s, add_t, sub_i, mul_i, int_o, cmp_o, isn_, ix_t, ix_r, ix_s, len_t2, len_t3, len_t4, len_t5, len_r, int1_i, two_, tuple_t, tuple_r, list_t, list_r, str_i, sl_t, sl_r, rev_t, rev_r, lo_l, lo_r, isi_t_t, isi_i_t, isi_s_s, isi_i_i, isi_i_b, isi_b_b, at0, at1, at2, at3, eq_i, eq_s, ol_s, vr_s, tb_b, ti_i, Br_t, Br_f, List.getElem?_cons_zero, List.getElem?_cons_succ, List.set_cons_zero, List.set_cons_succ, true_and, eq_self, Bool.not_true, Bool.not_false, Bool.false_eq_true, if_true, if_false, Nat.reduceLeDiff, ite_true, ite_false]); (repeat (refine Nx.mk ?_; try simp only [skip_, seqset_, seqdrop_, seqasg_, ret_, retN_, if_, drop_, set_, asg_, for_, raise0_, raise1_, var_, c_, c2_, test_, and_, or_, not_, andV_, orV_, notV_, nil_, cons_, tup0_, tup1_, tup2_, tup3_, tup4_, tup5_, lst0_, lst1_, lst2_, lst3_, lst4_, lst5_, lst6_, lst7_, lst8_, lst9_, lst10_, lstv1_, lstv2_, lstv3_, lstv4_, lstv5_, b_, m_, call1_, call2_, call3_, call4_, call5_, neg_, slice_, none_, some_, rev_, comp_, gtup_, gn_nil, gn_cons, wipe_n, wipe_c, iseq_, sq_t, sq_r, r1_, r2_, add_i, add_s, add_t, sub_i, mul_i, int_o, cmp_o, isn_, ix_t, ix_r, ix_s, len_t2, len_t3, len_t4, len_t5, len_r, int1_i, two_, tuple_t, tuple_r, list_t, list_r, str_i, sl_t, sl_r, rev_t, rev_r, lo_l, lo_r, isi_t_t, isi_i_t, isi_s_s, isi_i_i, isi_i_b, isi_b_b, at0, at1, at2, at3, eq_i, eq_s, ol_s, vr_s, tb_b, ti_i, Br_t, Br_f, List.getElem?_cons_zero, List.getElem?_cons_succ, List.set_cons_zero, List.set_cons_succ, true_and, eq_self, Bool.not_true, Bool.not_false, Bool.false_eq_true, if_true, if_false, Nat.reduceLeDiff, ite_true, ite_false]))
  refine city_sp hz (by omega) fun sts lns M1 x1 hs hl h1 h2 => ?_
  obtain ⟨ls, rfl, U⟩ := uq_of hl h1 h2
  clear hl
  (try simp only [skip_, seqset_, seqdrop_, seqasg_, ret_, retN_, if_, drop_, set_, asg_, for_, raise0_, raise1_, var_, c_, c2_, test_, and_, or_, not_, andV_, orV_, notV_, nil_, cons_, tup0_, tup1_, tup2_, tup3_, tup4_, tup5_, lst0_, lst1_, lst2_, lst3_, lst4_, lst5_, lst6_, lst7_, lst8_, lst9_, lst10_, lstv1_, lstv2_, lstv3_, lstv4_, lstv5_, b_, m_, call1_, call2_, call3_, call4_, call5_, neg_, slice_, none_, some_, rev_, comp_, gtup_, gn_nil, gn_cons, wipe_n, wipe_c, iseq_, sq_t, sq_r, r1_, r2_, add_i, add_s, add_t, sub_i, mul_i, int_o, cmp_o, isn_, ix_t, ix_r, ix_s, len_t2, len_t3, len_t4, len_t5, len_r, int1_i, two_, tuple_t, tuple_r, list_t, list_r, str_i, sl_t, sl_r, rev_t, rev_r, lo_l, lo_r, isi_t_t, isi_i_t, isi_s_s, isi_i_i, isi_i_b, isi_b_b, at0, at1, at2, at3, eq_i, eq_s, ol_s, vr_s, tb_b, ti_i, Br_t, Br_f, List.getElem?_cons_zero, List.getElem?_cons_succ, List.set_cons_zero, List.set_cons_succ, true_and, eq_self, Bool.not_true, Bool.not_false, Bool.false_eq_true, if_true, if_false, Nat.reduceLeDiff, ite_true, ite_false]); (repeat (refine Nx.mk ?_; try simp only [skip_, seqset_, seqdrop_, seqasg_, ret_, retN_, if_, drop_, set_, asg_, for_, raise0_, raise1_, var_, c_, c2_, test_, and_, or_, not_, andV_, orV_, notV_, nil_, cons_, tup0_, tup1_, tup2_, tup3_, tup4_, tup5_, lst0_, lst1_, lst2_, lst3_, lst4_, lst5_, lst6_, lst7_, lst8_, lst9_, lst10_, lstv1_, lstv2_, lstv3_, lstv4_, lstv5_, b_, m_, call1_, call2_, call3_, call4_, call5_, neg_, slice_, none_, some_, rev_, comp_, gtup_, gn_nil, gn_cons, wipe_n, wipe_c, iseq_, sq_t, sq_r, r1_, r2_, add_i, add_s, add_t, sub_i, mul_i, int_o, cmp_o, isn_, ix_t, ix_r, ix_s, len_t2, len_t3, len_t4, len_t5, len_r, int1_i, two_, tuple_t, tuple_r, list_t, list_r, str_i, sl_t, sl_r, rev_t, rev_r, lo_l, lo_r, isi_t_t, isi_i_t, isi_s_s, isi_i_i, isi_i_b, isi_b_b, at0, at1, at2, at3, eq_i, eq_s, ol_s, vr_s, tb_b, ti_i, Br_t, Br_f, List.getElem?_cons_zero, List.getElem?_cons_succ, List.set_cons_zero, List.set_cons_succ, true_and, eq_self, Bool.not_true, Bool.not_false, Bool.false_eq_true, if_true, if_false, Nat.reduceLeDiff, ite_true, ite_false]))
  refine newL_i fun p2 M2 hp2 x2 e2 => draws_sp (ss := [6, 31, 2]) (mx_ol (mxT x1 x2) hz) (by omega) (lst_ol e2) (by decide) (by decide) fun pd ds r M3 hpd x3 e3 Dd => ?_
  have X3 := mxT x1 (mxT x2 x3)
  have d0 := Dd.at_ 0 (by decide) (by decide)
  have d1 := Dd.at_ 1 (by decide) (by decide)
  have d2 := Dd.at_ 2 (by decide) (by decide)
  (try simp only [skip_, seqset_, seqdrop_, seqasg_, ret_, retN_, if_, drop_, set_, asg_, for_, raise0_, raise1_, var_, c_, c2_, test_, and_, or_, not_, andV_, orV_, notV_, nil_, cons_, tup0_, tup1_, tup2_, tup3_, tup4_, tup5_, lst0_, lst1_, lst2_, lst3_, lst4_, lst5_, lst6_, lst7_, lst8_, lst9_, lst10_, lstv1_, lstv2_, lstv3_, lstv4_, lstv5_, b_, m_, call1_, call2_, call3_, call4_, call5_, neg_, slice_, none_, some_, rev_, comp_, gtup_, gn_nil, gn_cons, wipe_n, wipe_c, iseq_, sq_t, sq_r, r1_, r2_, add_i, add_s, add_t, sub_i, mul_i, int_o, cmp_o, isn_, ix_t, ix_r, ix_s, len_t2, len_t3, len_t4, len_t5, len_r, int1_i, two_, tuple_t, tuple_r, list_t, list_r, str_i, sl_t, sl_r, rev_t, rev_r, lo_l, lo_r, isi_t_t, isi_i_t, isi_s_s, isi_i_i, isi_i_b, isi_b_b, at0, at1, at2, at3, eq_i, eq_s, ol_s, vr_s, tb_b, ti_i, Br_t, Br_f, List.getElem?_cons_zero, List.getElem?_cons_succ, List.set_cons_zero, List.set_cons_succ, true_and, eq_self, Bool.not_true, Bool.not_false, Bool.false_eq_true, if_true, if_false, Nat.reduceLeDiff, ite_true, ite_false]); (repeat (refine Nx.mk ?_; try simp only [skip_, seqset_, seqdrop_, seqasg_, ret_, retN_, if_, drop_, set_, asg_, for_, raise0_, raise1_, var_, c_, c2_, test_, and_, or_, not_, andV_, orV_, notV_, nil_, cons_, tup0_, tup1_, tup2_, tup3_, tup4_, tup5_, lst0_, lst1_, lst2_, lst3_, lst4_, lst5_, lst6_, lst7_, lst8_, lst9_, lst10_, lstv1_, lstv2_, lstv3_, lstv4_, lstv5_, b_, m_, call1_, call2_, call3_, call4_, call5_, neg_, slice_, none_, some_, rev_, comp_, gtup_, gn_nil, gn_cons, wipe_n, wipe_c, iseq_, sq_t, sq_r, r1_, r2_, add_i, add_s, add_t, sub_i, mul_i, int_o, cmp_o, isn_, ix_t, ix_r, ix_s, len_t2, len_t3, len_t4, len_t5, len_r, int1_i, two_, tuple_t, tuple_r, list_t, list_r, str_i, sl_t, sl_r, rev_t, rev_r, lo_l, lo_r, isi_t_t, isi_i_t, isi_s_s, isi_i_i, isi_i_b, isi_b_b, at0, at1, at2, at3, eq_i, eq_s, ol_s, vr_s, tb_b, ti_i, Br_t, Br_f, List.getElem?_cons_zero, List.getElem?_cons_succ, List.set_cons_zero, List.set_cons_succ, true_and, eq_self, Bool.not_true, Bool.not_false, Bool.false_eq_true, if_true, if_false, Nat.reduceLeDiff, ite_true, ite_false]))
  refine runs_sp U (mx_ol X3 hz) (by omega) fun rs0 sh M4 x4 hg0 hl0 => ?_
  (try simp only [skip_, seqset_, seqdrop_, seqasg_, ret_, retN_, if_, drop_, set_, asg_, for_, raise0_, raise1_, var_, c_, c2_, test_, and_, or_, not_, andV_, orV_, notV_, nil_, cons_, tup0_, tup1_, tup2_, tup3_, tup4_, tup5_, lst0_, lst1_, lst2_, lst3_, lst4_, lst5_, lst6_, lst7_, lst8_, lst9_, lst10_, lstv1_, lstv2_, lstv3_, lstv4_, lstv5_, b_, m_, call1_, call2_, call3_, call4_, call5_, neg_, slice_, none_, some_, rev_, comp_, gtup_, gn_nil, gn_cons, wipe_n, wipe_c, iseq_, sq_t, sq_r, r1_, r2_, add_i, add_s, add_t, sub_i, mul_i, int_o, cmp_o, isn_, ix_t, ix_r, ix_s, len_t2, len_t3, len_t4, len_t5, len_r, int1_i, two_, tuple_t, tuple_r, list_t, list_r, str_i, sl_t, sl_r, rev_t, rev_r, lo_l, lo_r, isi_t_t, isi_i_t, isi_s_s, isi_i_i, isi_i_b, isi_b_b, at0, at1, at2, at3, eq_i, eq_s, ol_s, vr_s, tb_b, ti_i, Br_t, Br_f, List.getElem?_cons_zero, List.getElem?_cons_succ, List.set_cons_zero, List.set_cons_succ, true_and, eq_self, Bool.not_true, Bool.not_false, Bool.false_eq_true, if_true, if_false, Nat.reduceLeDiff, ite_true, ite_false]); (repeat (refine Nx.mk ?_; try simp only [skip_, seqset_, seqdrop_, seqasg_, ret_, retN_, if_, drop_, set_, asg_, for_, raise0_, raise1_, var_, c_, c2_, test_, and_, or_, not_, andV_, orV_, notV_, nil_, cons_, tup0_, tup1_, tup2_, tup3_, tup4_, tup5_, lst0_, lst1_, lst2_, lst3_, lst4_, lst5_, lst6_, lst7_, lst8_, lst9_, lst10_, lstv1_, lstv2_, lstv3_, lstv4_, lstv5_, b_, m_, call1_, call2_, call3_, call4_, call5_, neg_, slice_, none_, some_, rev_, comp_, gtup_, gn_nil, gn_cons, wipe_n, wipe_c, iseq_, sq_t, sq_r, r1_, r2_, add_i, add_s, add_t, sub_i, mul_i, int_o, cmp_o, isn_, ix_t, ix_r, ix_s, len_t2, len_t3, len_t4, len_t5, len_r, int1_i, two_, tuple_t, tuple_r, list_t, list_r, str_i, sl_t, sl_r, rev_t, rev_r, lo_l, lo_r, isi_t_t, isi_i_t, isi_s_s, isi_i_i, isi_i_b, isi_b_b, at0, at1, at2, at3, eq_i, eq_s, ol_s, vr_s, tb_b, ti_i, Br_t, Br_f, List.getElem?_cons_zero, List.getElem?_cons_succ, List.set_cons_zero, List.set_cons_succ, true_and, eq_self, Bool.not_true, Bool.not_false, Bool.false_eq_true, if_true, if_false, Nat.reduceLeDiff, ite_true, ite_false]))
  have X4 := mxT X3 x4
  (try refine Nx.mk ?_); refine seq_m (fun ρ' M' => ∃ (o9 o10 : Option D) (rs : List Rn), ρ' = [some (.ref a), some (.tup [.tup sts, .tup (ls.map Lt.d), .tup [], .tup []]), some (.ref pd), some (.int 8), some (.tup (rs.map Rn.d)), none, none, none, none, o9, o10, none, none, none, none, none] ∧ MX M4 M' ∧ Gd ls rs ∧ rs.length ≤ 30) (fun Kn hK => ?_) ?_
  · (try simp only [skip_, seqset_, seqdrop_, seqasg_, ret_, retN_, if_, drop_, set_, asg_, for_, raise0_, raise1_, var_, c_, c2_, test_, and_, or_, not_, andV_, orV_, notV_, nil_, cons_, tup0_, tup1_, tup2_, tup3_, tup4_, tup5_, lst0_, lst1_, lst2_, lst3_, lst4_, lst5_, lst6_, lst7_, lst8_, lst9_, lst10_, lstv1_, lstv2_, lstv3_, lstv4_, lstv5_, b_, m_, call1_, call2_, call3_, call4_, call5_, neg_, slice_, none_, some_, rev_, comp_, gtup_, gn_nil, gn_cons, wipe_n, wipe_c, iseq_, sq_t, sq_r, r1_, r2_, add_i, add_s, add_t, sub_i, mul_i, int_o, cmp_o, isn_, ix_t, ix_r, ix_s, len_t2, len_t3, len_t4, len_t5, len_r, int1_i, two_, tuple_t, tuple_r, list_t, list_r, str_i, sl_t, sl_r, rev_t, rev_r, lo_l, lo_r, isi_t_t, isi_i_t, isi_s_s, isi_i_i, isi_i_b, isi_b_b, at0, at1, at2, at3, eq_i, eq_s, ol_s, vr_s, tb_b, ti_i, Br_t, Br_f, List.getElem?_cons_zero, List.getElem?_cons_succ, List.set_cons_zero, List.set_cons_succ, true_and, eq_self, Bool.not_true, Bool.not_false, Bool.false_eq_true, if_true, if_false, Nat.reduceLeDiff, ite_true, ite_false, mx_ol x4 (lst_ol e3), d0]); (repeat (refine Nx.mk ?_; try simp only [skip_, seqset_, seqdrop_, seqasg_, ret_, retN_, if_, drop_, set_, asg_, for_, raise0_, raise1_, var_, c_, c2_, test_, and_, or_, not_, andV_, orV_, notV_, nil_, cons_, tup0_, tup1_, tup2_, tup3_, tup4_, tup5_, lst0_, lst1_, lst2_, lst3_, lst4_, lst5_, lst6_, lst7_, lst8_, lst9_, lst10_, lstv1_, lstv2_, lstv3_, lstv4_, lstv5_, b_, m_, call1_, call2_, call3_, call4_, call5_, neg_, slice_, none_, some_, rev_, comp_, gtup_, gn_nil, gn_cons, wipe_n, wipe_c, iseq_, sq_t, sq_r, r1_, r2_, add_i, add_s, add_t, sub_i, mul_i, int_o, cmp_o, isn_, ix_t, ix_r, ix_s, len_t2, len_t3, len_t4, len_t5, len_r, int1_i, two_, tuple_t, tuple_r, list_t, list_r, str_i, sl_t, sl_r, rev_t, rev_r, lo_l, lo_r, isi_t_t, isi_i_t, isi_s_s, isi_i_i, isi_i_b, isi_b_b, at0, at1, at2, at3, eq_i, eq_s, ol_s, vr_s, tb_b, ti_i, Br_t, Br_f, List.getElem?_cons_zero, List.getElem?_cons_succ, List.set_cons_zero, List.set_cons_succ, true_and, eq_self, Bool.not_true, Bool.not_false, Bool.false_eq_true, if_true, if_false, Nat.reduceLeDiff, ite_true, ite_false, mx_ol x4 (lst_ol e3), d0]))
    refine Br_i (fun _ => ?_) (fun _ => hK _ _ ⟨_, _, rs0, rfl, MX.refl', hg0, by omega⟩)
    (try simp only [skip_, seqset_, seqdrop_, seqasg_, ret_, retN_, if_, drop_, set_, asg_, for_, raise0_, raise1_, var_, c_, c2_, test_, and_, or_, not_, andV_, orV_, notV_, nil_, cons_, tup0_, tup1_, tup2_, tup3_, tup4_, tup5_, lst0_, lst1_, lst2_, lst3_, lst4_, lst5_, lst6_, lst7_, lst8_, lst9_, lst10_, lstv1_, lstv2_, lstv3_, lstv4_, lstv5_, b_, m_, call1_, call2_, call3_, call4_, call5_, neg_, slice_, none_, some_, rev_, comp_, gtup_, gn_nil, gn_cons, wipe_n, wipe_c, iseq_, sq_t, sq_r, r1_, r2_, add_i, add_s, add_t, sub_i, mul_i, int_o, cmp_o, isn_, ix_t, ix_r, ix_s, len_t2, len_t3, len_t4, len_t5, len_r, int1_i, two_, tuple_t, tuple_r, list_t, list_r, str_i, sl_t, sl_r, rev_t, rev_r, lo_l, lo_r, isi_t_t, isi_i_t, isi_s_s, isi_i_i, isi_i_b, isi_b_b, at0, at1, at2, at3, eq_i, eq_s, ol_s, vr_s, tb_b, ti_i, Br_t, Br_f, List.getElem?_cons_zero, List.getElem?_cons_succ, List.set_cons_zero, List.set_cons_succ, true_and, eq_self, Bool.not_true, Bool.not_false, Bool.false_eq_true, if_true, if_false, Nat.reduceLeDiff, ite_true, ite_false]); (repeat (refine Nx.mk ?_; try simp only [skip_, seqset_, seqdrop_, seqasg_, ret_, retN_, if_, drop_, set_, asg_, for_, raise0_, raise1_, var_, c_, c2_, test_, and_, or_, not_, andV_, orV_, notV_, nil_, cons_, tup0_, tup1_, tup2_, tup3_, tup4_, tup5_, lst0_, lst1_, lst2_, lst3_, lst4_, lst5_, lst6_, lst7_, lst8_, lst9_, lst10_, lstv1_, lstv2_, lstv3_, lstv4_, lstv5_, b_, m_, call1_, call2_, call3_, call4_, call5_, neg_, slice_, none_, some_, rev_, comp_, gtup_, gn_nil, gn_cons, wipe_n, wipe_c, iseq_, sq_t, sq_r, r1_, r2_, add_i, add_s, add_t, sub_i, mul_i, int_o, cmp_o, isn_, ix_t, ix_r, ix_s, len_t2, len_t3, len_t4, len_t5, len_r, int1_i, two_, tuple_t, tuple_r, list_t, list_r, str_i, sl_t, sl_r, rev_t, rev_r, lo_l, lo_r, isi_t_t, isi_i_t, isi_s_s, isi_i_i, isi_i_b, isi_b_b, at0, at1, at2, at3, eq_i, eq_s, ol_s, vr_s, tb_b, ti_i, Br_t, Br_f, List.getElem?_cons_zero, List.getElem?_cons_succ, List.set_cons_zero, List.set_cons_succ, true_and, eq_self, Bool.not_true, Bool.not_false, Bool.false_eq_true, if_true, if_false, Nat.reduceLeDiff, ite_true, ite_false]))
    refine ⟨by decide, comp_i (fun n y => ∃ rs : List Rn, y = .tup (rs.map Rn.d) ∧ Gd ls rs ∧ rs.length ≤ 8) (size_le (by rw [rng_len]; decide)) (fun _ _ => trivial) (fun n d M5 hd x5 => ?_) (fun p ys M5 hp0 x5 e5 hly hy => ?_)⟩
    · obtain ⟨hn, rfl⟩ := rng_at hd
      refine ⟨_, rfl, fun Q' hQ' => ?_⟩
      (try simp only [skip_, seqset_, seqdrop_, seqasg_, ret_, retN_, if_, drop_, set_, asg_, for_, raise0_, raise1_, var_, c_, c2_, test_, and_, or_, not_, andV_, orV_, notV_, nil_, cons_, tup0_, tup1_, tup2_, tup3_, tup4_, tup5_, lst0_, lst1_, lst2_, lst3_, lst4_, lst5_, lst6_, lst7_, lst8_, lst9_, lst10_, lstv1_, lstv2_, lstv3_, lstv4_, lstv5_, b_, m_, call1_, call2_, call3_, call4_, call5_, neg_, slice_, none_, some_, rev_, comp_, gtup_, gn_nil, gn_cons, wipe_n, wipe_c, iseq_, sq_t, sq_r, r1_, r2_, add_i, add_s, add_t, sub_i, mul_i, int_o, cmp_o, isn_, ix_t, ix_r, ix_s, len_t2, len_t3, len_t4, len_t5, len_r, int1_i, two_, tuple_t, tuple_r, list_t, list_r, str_i, sl_t, sl_r, rev_t, rev_r, lo_l, lo_r, isi_t_t, isi_i_t, isi_s_s, isi_i_i, isi_i_b, isi_b_b, at0, at1, at2, at3, eq_i, eq_s, ol_s, vr_s, tb_b, ti_i, Br_t, Br_f, List.getElem?_cons_zero, List.getElem?_cons_succ, List.set_cons_zero, List.set_cons_succ, true_and, eq_self, Bool.not_true, Bool.not_false, Bool.false_eq_true, if_true, if_false, Nat.reduceLeDiff, ite_true, ite_false]); (repeat (refine Nx.mk ?_; try simp only [skip_, seqset_, seqdrop_, seqasg_, ret_, retN_, if_, drop_, set_, asg_, for_, raise0_, raise1_, var_, c_, c2_, test_, and_, or_, not_, andV_, orV_, notV_, nil_, cons_, tup0_, tup1_, tup2_, tup3_, tup4_, tup5_, lst0_, lst1_, lst2_, lst3_, lst4_, lst5_, lst6_, lst7_, lst8_, lst9_, lst10_, lstv1_, lstv2_, lstv3_, lstv4_, lstv5_, b_, m_, call1_, call2_, call3_, call4_, call5_, neg_, slice_, none_, some_, rev_, comp_, gtup_, gn_nil, gn_cons, wipe_n, wipe_c, iseq_, sq_t, sq_r, r1_, r2_, add_i, add_s, add_t, sub_i, mul_i, int_o, cmp_o, isn_, ix_t, ix_r, ix_s, len_t2, len_t3, len_t4, len_t5, len_r, int1_i, two_, tuple_t, tuple_r, list_t, list_r, str_i, sl_t, sl_r, rev_t, rev_r, lo_l, lo_r, isi_t_t, isi_i_t, isi_s_s, isi_i_i, isi_i_b, isi_b_b, at0, at1, at2, at3, eq_i, eq_s, ol_s, vr_s, tb_b, ti_i, Br_t, Br_f, List.getElem?_cons_zero, List.getElem?_cons_succ, List.set_cons_zero, List.set_cons_succ, true_and, eq_self, Bool.not_true, Bool.not_false, Bool.false_eq_true, if_true, if_false, Nat.reduceLeDiff, ite_true, ite_false]))
      have hn : n < 30 := hn
      refine runs_sp U (mx_ol (mxT X3 (mxT x4 x5)) hz) (by omega) fun rs sh M6 x6 hg hl => ?_
      (try simp only [skip_, seqset_, seqdrop_, seqasg_, ret_, retN_, if_, drop_, set_, asg_, for_, raise0_, raise1_, var_, c_, c2_, test_, and_, or_, not_, andV_, orV_, notV_, nil_, cons_, tup0_, tup1_, tup2_, tup3_, tup4_, tup5_, lst0_, lst1_, lst2_, lst3_, lst4_, lst5_, lst6_, lst7_, lst8_, lst9_, lst10_, lstv1_, lstv2_, lstv3_, lstv4_, lstv5_, b_, m_, call1_, call2_, call3_, call4_, call5_, neg_, slice_, none_, some_, rev_, comp_, gtup_, gn_nil, gn_cons, wipe_n, wipe_c, iseq_, sq_t, sq_r, r1_, r2_, add_i, add_s, add_t, sub_i, mul_i, int_o, cmp_o, isn_, ix_t, ix_r, ix_s, len_t2, len_t3, len_t4, len_t5, len_r, int1_i, two_, tuple_t, tuple_r, list_t, list_r, str_i, sl_t, sl_r, rev_t, rev_r, lo_l, lo_r, isi_t_t, isi_i_t, isi_s_s, isi_i_i, isi_i_b, isi_b_b, at0, at1, at2, at3, eq_i, eq_s, ol_s, vr_s, tb_b, ti_i, Br_t, Br_f, List.getElem?_cons_zero, List.getElem?_cons_succ, List.set_cons_zero, List.set_cons_succ, true_and, eq_self, Bool.not_true, Bool.not_false, Bool.false_eq_true, if_true, if_false, Nat.reduceLeDiff, ite_true, ite_false]); (repeat (refine Nx.mk ?_; try simp only [skip_, seqset_, seqdrop_, seqasg_, ret_, retN_, if_, drop_, set_, asg_, for_, raise0_, raise1_, var_, c_, c2_, test_, and_, or_, not_, andV_, orV_, notV_, nil_, cons_, tup0_, tup1_, tup2_, tup3_, tup4_, tup5_, lst0_, lst1_, lst2_, lst3_, lst4_, lst5_, lst6_, lst7_, lst8_, lst9_, lst10_, lstv1_, lstv2_, lstv3_, lstv4_, lstv5_, b_, m_, call1_, call2_, call3_, call4_, call5_, neg_, slice_, none_, some_, rev_, comp_, gtup_, gn_nil, gn_cons, wipe_n, wipe_c, iseq_, sq_t, sq_r, r1_, r2_, add_i, add_s, add_t, sub_i, mul_i, int_o, cmp_o, isn_, ix_t, ix_r, ix_s, len_t2, len_t3, len_t4, len_t5, len_r, int1_i, two_, tuple_t, tuple_r, list_t, list_r, str_i, sl_t, sl_r, rev_t, rev_r, lo_l, lo_r, isi_t_t, isi_i_t, isi_s_s, isi_i_i, isi_i_b, isi_b_b, at0, at1, at2, at3, eq_i, eq_s, ol_s, vr_s, tb_b, ti_i, Br_t, Br_f, List.getElem?_cons_zero, List.getElem?_cons_succ, List.set_cons_zero, List.set_cons_succ, true_and, eq_self, Bool.not_true, Bool.not_false, Bool.false_eq_true, if_true, if_false, Nat.reduceLeDiff, ite_true, ite_false]))
      exact hQ' _ _ x6 ⟨rs, rfl, hg, hl⟩
    · rw [rng_len] at hly
      have hly : ys.length = 30 := hly
      (try simp only [skip_, seqset_, seqdrop_, seqasg_, ret_, retN_, if_, drop_, set_, asg_, for_, raise0_, raise1_, var_, c_, c2_, test_, and_, or_, not_, andV_, orV_, notV_, nil_, cons_, tup0_, tup1_, tup2_, tup3_, tup4_, tup5_, lst0_, lst1_, lst2_, lst3_, lst4_, lst5_, lst6_, lst7_, lst8_, lst9_, lst10_, lstv1_, lstv2_, lstv3_, lstv4_, lstv5_, b_, m_, call1_, call2_, call3_, call4_, call5_, neg_, slice_, none_, some_, rev_, comp_, gtup_, gn_nil, gn_cons, wipe_n, wipe_c, iseq_, sq_t, sq_r, r1_, r2_, add_i, add_s, add_t, sub_i, mul_i, int_o, cmp_o, isn_, ix_t, ix_r, ix_s, len_t2, len_t3, len_t4, len_t5, len_r, int1_i, two_, tuple_t, tuple_r, list_t, list_r, str_i, sl_t, sl_r, rev_t, rev_r, lo_l, lo_r, isi_t_t, isi_i_t, isi_s_s, isi_i_i, isi_i_b, isi_b_b, at0, at1, at2, at3, eq_i, eq_s, ol_s, vr_s, tb_b, ti_i, Br_t, Br_f, List.getElem?_cons_zero, List.getElem?_cons_succ, List.set_cons_zero, List.set_cons_succ, true_and, eq_self, Bool.not_true, Bool.not_false, Bool.false_eq_true, if_true, if_false, Nat.reduceLeDiff, ite_true, ite_false]); (repeat (refine Nx.mk ?_; try simp only [skip_, seqset_, seqdrop_, seqasg_, ret_, retN_, if_, drop_, set_, asg_, for_, raise0_, raise1_, var_, c_, c2_, test_, and_, or_, not_, andV_, orV_, notV_, nil_, cons_, tup0_, tup1_, tup2_, tup3_, tup4_, tup5_, lst0_, lst1_, lst2_, lst3_, lst4_, lst5_, lst6_, lst7_, lst8_, lst9_, lst10_, lstv1_, lstv2_, lstv3_, lstv4_, lstv5_, b_, m_, call1_, call2_, call3_, call4_, call5_, neg_, slice_, none_, some_, rev_, comp_, gtup_, gn_nil, gn_cons, wipe_n, wipe_c, iseq_, sq_t, sq_r, r1_, r2_, add_i, add_s, add_t, sub_i, mul_i, int_o, cmp_o, isn_, ix_t, ix_r, ix_s, len_t2, len_t3, len_t4, len_t5, len_r, int1_i, two_, tuple_t, tuple_r, list_t, list_r, str_i, sl_t, sl_r, rev_t, rev_r, lo_l, lo_r, isi_t_t, isi_i_t, isi_s_s, isi_i_i, isi_i_b, isi_b_b, at0, at1, at2, at3, eq_i, eq_s, ol_s, vr_s, tb_b, ti_i, Br_t, Br_f, List.getElem?_cons_zero, List.getElem?_cons_succ, List.set_cons_zero, List.set_cons_succ, true_and, eq_self, Bool.not_true, Bool.not_false, Bool.false_eq_true, if_true, if_false, Nat.reduceLeDiff, ite_true, ite_false]))
      (try refine Nx.mk ?_); refine seq_m (fun ρ' M' => ∃ (o10 : Option D) (rs : List Rn), ρ' = [some (.ref a), some (.tup [.tup sts, .tup (ls.map Lt.d), .tup [], .tup []]), some (.ref pd), some (.int 8), some (.tup (rs.map Rn.d)), none, none, none, none, some (.ref p), o10, none, none, none, none, none] ∧ MX M5 M' ∧ Gd ls rs) (fun Kn2 hK2 => ?_) ?_
      · (try simp only [skip_, seqset_, seqdrop_, seqasg_, ret_, retN_, if_, drop_, set_, asg_, for_, raise0_, raise1_, var_, c_, c2_, test_, and_, or_, not_, andV_, orV_, notV_, nil_, cons_, tup0_, tup1_, tup2_, tup3_, tup4_, tup5_, lst0_, lst1_, lst2_, lst3_, lst4_, lst5_, lst6_, lst7_, lst8_, lst9_, lst10_, lstv1_, lstv2_, lstv3_, lstv4_, lstv5_, b_, m_, call1_, call2_, call3_, call4_, call5_, neg_, slice_, none_, some_, rev_, comp_, gtup_, gn_nil, gn_cons, wipe_n, wipe_c, iseq_, sq_t, sq_r, r1_, r2_, add_i, add_s, add_t, sub_i, mul_i, int_o, cmp_o, isn_, ix_t, ix_r, ix_s, len_t2, len_t3, len_t4, len_t5, len_r, int1_i, two_, tuple_t, tuple_r, list_t, list_r, str_i, sl_t, sl_r, rev_t, rev_r, lo_l, lo_r, isi_t_t, isi_i_t, isi_s_s, isi_i_i, isi_i_b, isi_b_b, at0, at1, at2, at3, eq_i, eq_s, ol_s, vr_s, tb_b, ti_i, Br_t, Br_f, List.getElem?_cons_zero, List.getElem?_cons_succ, List.set_cons_zero, List.set_cons_succ, true_and, eq_self, Bool.not_true, Bool.not_false, Bool.false_eq_true, if_true, if_false, Nat.reduceLeDiff, ite_true, ite_false, lst_ol e5]); (repeat (refine Nx.mk ?_; try simp only [skip_, seqset_, seqdrop_, seqasg_, ret_, retN_, if_, drop_, set_, asg_, for_, raise0_, raise1_, var_, c_, c2_, test_, and_, or_, not_, andV_, orV_, notV_, nil_, cons_, tup0_, tup1_, tup2_, tup3_, tup4_, tup5_, lst0_, lst1_, lst2_, lst3_, lst4_, lst5_, lst6_, lst7_, lst8_, lst9_, lst10_, lstv1_, lstv2_, lstv3_, lstv4_, lstv5_, b_, m_, call1_, call2_, call3_, call4_, call5_, neg_, slice_, none_, some_, rev_, comp_, gtup_, gn_nil, gn_cons, wipe_n, wipe_c, iseq_, sq_t, sq_r, r1_, r2_, add_i, add_s, add_t, sub_i, mul_i, int_o, cmp_o, isn_, ix_t, ix_r, ix_s, len_t2, len_t3, len_t4, len_t5, len_r, int1_i, two_, tuple_t, tuple_r, list_t, list_r, str_i, sl_t, sl_r, rev_t, rev_r, lo_l, lo_r, isi_t_t, isi_i_t, isi_s_s, isi_i_i, isi_i_b, isi_b_b, at0, at1, at2, at3, eq_i, eq_s, ol_s, vr_s, tb_b, ti_i, Br_t, Br_f, List.getElem?_cons_zero, List.getElem?_cons_succ, List.set_cons_zero, List.set_cons_succ, true_and, eq_self, Bool.not_true, Bool.not_false, Bool.false_eq_true, if_true, if_false, Nat.reduceLeDiff, ite_true, ite_false, lst_ol e5]))
        refine for_0 (fun n ρ' M' => ∃ (o10 : Option D) (rs : List Rn), ρ' = [some (.ref a), some (.tup [.tup sts, .tup (ls.map Lt.d), .tup [], .tup []]), some (.ref pd), some (.int 8), some (.tup (rs.map Rn.d)), none, none, none, none, some (.ref p), o10, none, none, none, none, none] ∧ MX M5 M' ∧ Gd ls rs ∧ rs.length ≤ 8 + 8 * n) ⟨_, rs0, rfl, MX.refl', hg0, by omega⟩ (fun n _ M' _ h => ?_) ?_ ?_
        · obtain ⟨_, _, _, x, _⟩ := h
          exact mx_ol x (lst_ol e5)
        · rintro n d hd _ M' ⟨o10, rs, rfl, x, hg, hl⟩
          obtain ⟨rs', rfl, hg', hl'⟩ := hy n d hd
          have hn := (List.getElem?_eq_some_iff.mp hd).1
          refine ⟨_, rfl, fun Kn3 hK3 => ?_⟩
          (try simp only [skip_, seqset_, seqdrop_, seqasg_, ret_, retN_, if_, drop_, set_, asg_, for_, raise0_, raise1_, var_, c_, c2_, test_, and_, or_, not_, andV_, orV_, notV_, nil_, cons_, tup0_, tup1_, tup2_, tup3_, tup4_, tup5_, lst0_, lst1_, lst2_, lst3_, lst4_, lst5_, lst6_, lst7_, lst8_, lst9_, lst10_, lstv1_, lstv2_, lstv3_, lstv4_, lstv5_, b_, m_, call1_, call2_, call3_, call4_, call5_, neg_, slice_, none_, some_, rev_, comp_, gtup_, gn_nil, gn_cons, wipe_n, wipe_c, iseq_, sq_t, sq_r, r1_, r2_, add_i, add_s, add_t, sub_i, mul_i, int_o, cmp_o, isn_, ix_t, ix_r, ix_s, len_t2, len_t3, len_t4, len_t5, len_r, int1_i, two_, tuple_t, tuple_r, list_t, list_r, str_i, sl_t, sl_r, rev_t, rev_r, lo_l, lo_r, isi_t_t, isi_i_t, isi_s_s, isi_i_i, isi_i_b, isi_b_b, at0, at1, at2, at3, eq_i, eq_s, ol_s, vr_s, tb_b, ti_i, Br_t, Br_f, List.getElem?_cons_zero, List.getElem?_cons_succ, List.set_cons_zero, List.set_cons_succ, true_and, eq_self, Bool.not_true, Bool.not_false, Bool.false_eq_true, if_true, if_false, Nat.reduceLeDiff, ite_true, ite_false]); (repeat (refine Nx.mk ?_; try simp only [skip_, seqset_, seqdrop_, seqasg_, ret_, retN_, if_, drop_, set_, asg_, for_, raise0_, raise1_, var_, c_, c2_, test_, and_, or_, not_, andV_, orV_, notV_, nil_, cons_, tup0_, tup1_, tup2_, tup3_, tup4_, tup5_, lst0_, lst1_, lst2_, lst3_, lst4_, lst5_, lst6_, lst7_, lst8_, lst9_, lst10_, lstv1_, lstv2_, lstv3_, lstv4_, lstv5_, b_, m_, call1_, call2_, call3_, call4_, call5_, neg_, slice_, none_, some_, rev_, comp_, gtup_, gn_nil, gn_cons, wipe_n, wipe_c, iseq_, sq_t, sq_r, r1_, r2_, add_i, add_s, add_t, sub_i, mul_i, int_o, cmp_o, isn_, ix_t, ix_r, ix_s, len_t2, len_t3, len_t4, len_t5, len_r, int1_i, two_, tuple_t, tuple_r, list_t, list_r, str_i, sl_t, sl_r, rev_t, rev_r, lo_l, lo_r, isi_t_t, isi_i_t, isi_s_s, isi_i_i, isi_i_b, isi_b_b, at0, at1, at2, at3, eq_i, eq_s, ol_s, vr_s, tb_b, ti_i, Br_t, Br_f, List.getElem?_cons_zero, List.getElem?_cons_succ, List.set_cons_zero, List.set_cons_succ, true_and, eq_self, Bool.not_true, Bool.not_false, Bool.false_eq_true, if_true, if_false, Nat.reduceLeDiff, ite_true, ite_false]))
          rw [List.length_map, List.length_map, ← List.map_append]
          refine ⟨size_le (by omega), hK3 _ _ ⟨_, rs ++ rs', rfl, x, fun r hr => ?_, by simp; omega⟩⟩
          rcases List.mem_append.mp hr with hr | hr
          · exact hg r hr
          · exact hg' r hr
        · rintro _ M' ⟨o10, rs, rfl, x, hg, hl⟩
          exact hK2 _ _ ⟨_, rs, rfl, x, hg⟩
      · rintro _ M' ⟨o10, rs, rfl, x, hg⟩
        (try simp only [skip_, seqset_, seqdrop_, seqasg_, ret_, retN_, if_, drop_, set_, asg_, for_, raise0_, raise1_, var_, c_, c2_, test_, and_, or_, not_, andV_, orV_, notV_, nil_, cons_, tup0_, tup1_, tup2_, tup3_, tup4_, tup5_, lst0_, lst1_, lst2_, lst3_, lst4_, lst5_, lst6_, lst7_, lst8_, lst9_, lst10_, lstv1_, lstv2_, lstv3_, lstv4_, lstv5_, b_, m_, call1_, call2_, call3_, call4_, call5_, neg_, slice_, none_, some_, rev_, comp_, gtup_, gn_nil, gn_cons, wipe_n, wipe_c, iseq_, sq_t, sq_r, r1_, r2_, add_i, add_s, add_t, sub_i, mul_i, int_o, cmp_o, isn_, ix_t, ix_r, ix_s, len_t2, len_t3, len_t4, len_t5, len_r, int1_i, two_, tuple_t, tuple_r, list_t, list_r, str_i, sl_t, sl_r, rev_t, rev_r, lo_l, lo_r, isi_t_t, isi_i_t, isi_s_s, isi_i_i, isi_i_b, isi_b_b, at0, at1, at2, at3, eq_i, eq_s, ol_s, vr_s, tb_b, ti_i, Br_t, Br_f, List.getElem?_cons_zero, List.getElem?_cons_succ, List.set_cons_zero, List.set_cons_succ, true_and, eq_self, Bool.not_true, Bool.not_false, Bool.false_eq_true, if_true, if_false, Nat.reduceLeDiff, ite_true, ite_false, cut_map]); (repeat (refine Nx.mk ?_; try simp only [skip_, seqset_, seqdrop_, seqasg_, ret_, retN_, if_, drop_, set_, asg_, for_, raise0_, raise1_, var_, c_, c2_, test_, and_, or_, not_, andV_, orV_, notV_, nil_, cons_, tup0_, tup1_, tup2_, tup3_, tup4_, tup5_, lst0_, lst1_, lst2_, lst3_, lst4_, lst5_, lst6_, lst7_, lst8_, lst9_, lst10_, lstv1_, lstv2_, lstv3_, lstv4_, lstv5_, b_, m_, call1_, call2_, call3_, call4_, call5_, neg_, slice_, none_, some_, rev_, comp_, gtup_, gn_nil, gn_cons, wipe_n, wipe_c, iseq_, sq_t, sq_r, r1_, r2_, add_i, add_s, add_t, sub_i, mul_i, int_o, cmp_o, isn_, ix_t, ix_r, ix_s, len_t2, len_t3, len_t4, len_t5, len_r, int1_i, two_, tuple_t, tuple_r, list_t, list_r, str_i, sl_t, sl_r, rev_t, rev_r, lo_l, lo_r, isi_t_t, isi_i_t, isi_s_s, isi_i_i, isi_i_b, isi_b_b, at0, at1, at2, at3, eq_i, eq_s, ol_s, vr_s, tb_b, ti_i, Br_t, Br_f, List.getElem?_cons_zero, List.getElem?_cons_succ, List.set_cons_zero, List.set_cons_succ, true_and, eq_self, Bool.not_true, Bool.not_false, Bool.false_eq_true, if_true, if_false, Nat.reduceLeDiff, ite_true, ite_false, cut_map]))
        refine hK _ _ ⟨_, _, CL.cutD rs none (some 30), rfl, mxT x5 x, fun r hr => hg r (cut_mem hr), ?_⟩
        rw [show (some (30 : Int)) = some ((30 : Nat) : Int) from rfl, cut_take, List.length_take]
        omega
  · rintro _ M5 ⟨o9, o10, rs, rfl, x5, hg, hl⟩
    (try simp only [skip_, seqset_, seqdrop_, seqasg_, ret_, retN_, if_, drop_, set_, asg_, for_, raise0_, raise1_, var_, c_, c2_, test_, and_, or_, not_, andV_, orV_, notV_, nil_, cons_, tup0_, tup1_, tup2_, tup3_, tup4_, tup5_, lst0_, lst1_, lst2_, lst3_, lst4_, lst5_, lst6_, lst7_, lst8_, lst9_, lst10_, lstv1_, lstv2_, lstv3_, lstv4_, lstv5_, b_, m_, call1_, call2_, call3_, call4_, call5_, neg_, slice_, none_, some_, rev_, comp_, gtup_, gn_nil, gn_cons, wipe_n, wipe_c, iseq_, sq_t, sq_r, r1_, r2_, add_i, add_s, add_t, sub_i, mul_i, int_o, cmp_o, isn_, ix_t, ix_r, ix_s, len_t2, len_t3, len_t4, len_t5, len_r, int1_i, two_, tuple_t, tuple_r, list_t, list_r, str_i, sl_t, sl_r, rev_t, rev_r, lo_l, lo_r, isi_t_t, isi_i_t, isi_s_s, isi_i_i, isi_i_b, isi_b_b, at0, at1, at2, at3, eq_i, eq_s, ol_s, vr_s, tb_b, ti_i, Br_t, Br_f, List.getElem?_cons_zero, List.getElem?_cons_succ, List.set_cons_zero, List.set_cons_succ, true_and, eq_self, Bool.not_true, Bool.not_false, Bool.false_eq_true, if_true, if_false, Nat.reduceLeDiff, ite_true, ite_false]); (repeat (refine Nx.mk ?_; try simp only [skip_, seqset_, seqdrop_, seqasg_, ret_, retN_, if_, drop_, set_, asg_, for_, raise0_, raise1_, var_, c_, c2_, test_, and_, or_, not_, andV_, orV_, notV_, nil_, cons_, tup0_, tup1_, tup2_, tup3_, tup4_, tup5_, lst0_, lst1_, lst2_, lst3_, lst4_, lst5_, lst6_, lst7_, lst8_, lst9_, lst10_, lstv1_, lstv2_, lstv3_, lstv4_, lstv5_, b_, m_, call1_, call2_, call3_, call4_, call5_, neg_, slice_, none_, some_, rev_, comp_, gtup_, gn_nil, gn_cons, wipe_n, wipe_c, iseq_, sq_t, sq_r, r1_, r2_, add_i, add_s, add_t, sub_i, mul_i, int_o, cmp_o, isn_, ix_t, ix_r, ix_s, len_t2, len_t3, len_t4, len_t5, len_r, int1_i, two_, tuple_t, tuple_r, list_t, list_r, str_i, sl_t, sl_r, rev_t, rev_r, lo_l, lo_r, isi_t_t, isi_i_t, isi_s_s, isi_i_i, isi_i_b, isi_b_b, at0, at1, at2, at3, eq_i, eq_s, ol_s, vr_s, tb_b, ti_i, Br_t, Br_f, List.getElem?_cons_zero, List.getElem?_cons_succ, List.set_cons_zero, List.set_cons_succ, true_and, eq_self, Bool.not_true, Bool.not_false, Bool.false_eq_true, if_true, if_false, Nat.reduceLeDiff, ite_true, ite_false]))
    have X5 := mxT X4 x5
    (try refine Nx.mk ?_); refine seq_m (fun ρ' M' => ∃ cr : List D, ρ' = [some (.ref a), some (.tup [.tup sts, .tup (ls.map Lt.d), .tup [], .tup []]), some (.ref pd), some (.int 8), some (.tup (rs.map Rn.d)), some (.tup (.tup sts :: .tup (ls.map Lt.d) :: cr)), none, none, none, o9, o10, none, none, none, none, none] ∧ M5 = M') (fun Kn hK => ?_) ?_
    · (try simp only [skip_, seqset_, seqdrop_, seqasg_, ret_, retN_, if_, drop_, set_, asg_, for_, raise0_, raise1_, var_, c_, c2_, test_, and_, or_, not_, andV_, orV_, notV_, nil_, cons_, tup0_, tup1_, tup2_, tup3_, tup4_, tup5_, lst0_, lst1_, lst2_, lst3_, lst4_, lst5_, lst6_, lst7_, lst8_, lst9_, lst10_, lstv1_, lstv2_, lstv3_, lstv4_, lstv5_, b_, m_, call1_, call2_, call3_, call4_, call5_, neg_, slice_, none_, some_, rev_, comp_, gtup_, gn_nil, gn_cons, wipe_n, wipe_c, iseq_, sq_t, sq_r, r1_, r2_, add_i, add_s, add_t, sub_i, mul_i, int_o, cmp_o, isn_, ix_t, ix_r, ix_s, len_t2, len_t3, len_t4, len_t5, len_r, int1_i, two_, tuple_t, tuple_r, list_t, list_r, str_i, sl_t, sl_r, rev_t, rev_r, lo_l, lo_r, isi_t_t, isi_i_t, isi_s_s, isi_i_i, isi_i_b, isi_b_b, at0, at1, at2, at3, eq_i, eq_s, ol_s, vr_s, tb_b, ti_i, Br_t, Br_f, List.getElem?_cons_zero, List.getElem?_cons_succ, List.set_cons_zero, List.set_cons_succ, true_and, eq_self, Bool.not_true, Bool.not_false, Bool.false_eq_true, if_true, if_false, Nat.reduceLeDiff, ite_true, ite_false, mx_ol (mxT x4 x5) (lst_ol e3), d2]); (repeat (refine Nx.mk ?_; try simp only [skip_, seqset_, seqdrop_, seqasg_, ret_, retN_, if_, drop_, set_, asg_, for_, raise0_, raise1_, var_, c_, c2_, test_, and_, or_, not_, andV_, orV_, notV_, nil_, cons_, tup0_, tup1_, tup2_, tup3_, tup4_, tup5_, lst0_, lst1_, lst2_, lst3_, lst4_, lst5_, lst6_, lst7_, lst8_, lst9_, lst10_, lstv1_, lstv2_, lstv3_, lstv4_, lstv5_, b_, m_, call1_, call2_, call3_, call4_, call5_, neg_, slice_, none_, some_, rev_, comp_, gtup_, gn_nil, gn_cons, wipe_n, wipe_c, iseq_, sq_t, sq_r, r1_, r2_, add_i, add_s, add_t, sub_i, mul_i, int_o, cmp_o, isn_, ix_t, ix_r, ix_s, len_t2, len_t3, len_t4, len_t5, len_r, int1_i, two_, tuple_t, tuple_r, list_t, list_r, str_i, sl_t, sl_r, rev_t, rev_r, lo_l, lo_r, isi_t_t, isi_i_t, isi_s_s, isi_i_i, isi_i_b, isi_b_b, at0, at1, at2, at3, eq_i, eq_s, ol_s, vr_s, tb_b, ti_i, Br_t, Br_f, List.getElem?_cons_zero, List.getElem?_cons_succ, List.set_cons_zero, List.set_cons_succ, true_and, eq_self, Bool.not_true, Bool.not_false, Bool.false_eq_true, if_true, if_false, Nat.reduceLeDiff, ite_true, ite_false, mx_ol (mxT x4 x5) (lst_ol e3), d2]))
      refine Br_i (fun _ => ?_) (fun _ => hK _ _ ⟨[], rfl, rfl⟩)
      (try simp only [skip_, seqset_, seqdrop_, seqasg_, ret_, retN_, if_, drop_, set_, asg_, for_, raise0_, raise1_, var_, c_, c2_, test_, and_, or_, not_, andV_, orV_, notV_, nil_, cons_, tup0_, tup1_, tup2_, tup3_, tup4_, tup5_, lst0_, lst1_, lst2_, lst3_, lst4_, lst5_, lst6_, lst7_, lst8_, lst9_, lst10_, lstv1_, lstv2_, lstv3_, lstv4_, lstv5_, b_, m_, call1_, call2_, call3_, call4_, call5_, neg_, slice_, none_, some_, rev_, comp_, gtup_, gn_nil, gn_cons, wipe_n, wipe_c, iseq_, sq_t, sq_r, r1_, r2_, add_i, add_s, add_t, sub_i, mul_i, int_o, cmp_o, isn_, ix_t, ix_r, ix_s, len_t2, len_t3, len_t4, len_t5, len_r, int1_i, two_, tuple_t, tuple_r, list_t, list_r, str_i, sl_t, sl_r, rev_t, rev_r, lo_l, lo_r, isi_t_t, isi_i_t, isi_s_s, isi_i_i, isi_i_b, isi_b_b, at0, at1, at2, at3, eq_i, eq_s, ol_s, vr_s, tb_b, ti_i, Br_t, Br_f, List.getElem?_cons_zero, List.getElem?_cons_succ, List.set_cons_zero, List.set_cons_succ, true_and, eq_self, Bool.not_true, Bool.not_false, Bool.false_eq_true, if_true, if_false, Nat.reduceLeDiff, ite_true, ite_false]); (repeat (refine Nx.mk ?_; try simp only [skip_, seqset_, seqdrop_, seqasg_, ret_, retN_, if_, drop_, set_, asg_, for_, raise0_, raise1_, var_, c_, c2_, test_, and_, or_, not_, andV_, orV_, notV_, nil_, cons_, tup0_, tup1_, tup2_, tup3_, tup4_, tup5_, lst0_, lst1_, lst2_, lst3_, lst4_, lst5_, lst6_, lst7_, lst8_, lst9_, lst10_, lstv1_, lstv2_, lstv3_, lstv4_, lstv5_, b_, m_, call1_, call2_, call3_, call4_, call5_, neg_, slice_, none_, some_, rev_, comp_, gtup_, gn_nil, gn_cons, wipe_n, wipe_c, iseq_, sq_t, sq_r, r1_, r2_, add_i, add_s, add_t, sub_i, mul_i, int_o, cmp_o, isn_, ix_t, ix_r, ix_s, len_t2, len_t3, len_t4, len_t5, len_r, int1_i, two_, tuple_t, tuple_r, list_t, list_r, str_i, sl_t, sl_r, rev_t, rev_r, lo_l, lo_r, isi_t_t, isi_i_t, isi_s_s, isi_i_i, isi_i_b, isi_b_b, at0, at1, at2, at3, eq_i, eq_s, ol_s, vr_s, tb_b, ti_i, Br_t, Br_f, List.getElem?_cons_zero, List.getElem?_cons_succ, List.set_cons_zero, List.set_cons_succ, true_and, eq_self, Bool.not_true, Bool.not_false, Bool.false_eq_true, if_true, if_false, Nat.reduceLeDiff, ite_true, ite_false]))
      exact hK _ _ ⟨_, rfl, rfl⟩
    · rintro _ _ ⟨cr, rfl, rfl⟩
      (try simp only [skip_, seqset_, seqdrop_, seqasg_, ret_, retN_, if_, drop_, set_, asg_, for_, raise0_, raise1_, var_, c_, c2_, test_, and_, or_, not_, andV_, orV_, notV_, nil_, cons_, tup0_, tup1_, tup2_, tup3_, tup4_, tup5_, lst0_, lst1_, lst2_, lst3_, lst4_, lst5_, lst6_, lst7_, lst8_, lst9_, lst10_, lstv1_, lstv2_, lstv3_, lstv4_, lstv5_, b_, m_, call1_, call2_, call3_, call4_, call5_, neg_, slice_, none_, some_, rev_, comp_, gtup_, gn_nil, gn_cons, wipe_n, wipe_c, iseq_, sq_t, sq_r, r1_, r2_, add_i, add_s, add_t, sub_i, mul_i, int_o, cmp_o, isn_, ix_t, ix_r, ix_s, len_t2, len_t3, len_t4, len_t5, len_r, int1_i, two_, tuple_t, tuple_r, list_t, list_r, str_i, sl_t, sl_r, rev_t, rev_r, lo_l, lo_r, isi_t_t, isi_i_t, isi_s_s, isi_i_i, isi_i_b, isi_b_b, at0, at1, at2, at3, eq_i, eq_s, ol_s, vr_s, tb_b, ti_i, Br_t, Br_f, List.getElem?_cons_zero, List.getElem?_cons_succ, List.set_cons_zero, List.set_cons_succ, true_and, eq_self, Bool.not_true, Bool.not_false, Bool.false_eq_true, if_true, if_false, Nat.reduceLeDiff, ite_true, ite_false]); (repeat (refine Nx.mk ?_; try simp only [skip_, seqset_, seqdrop_, seqasg_, ret_, retN_, if_, drop_, set_, asg_, for_, raise0_, raise1_, var_, c_, c2_, test_, and_, or_, not_, andV_, orV_, notV_, nil_, cons_, tup0_, tup1_, tup2_, tup3_, tup4_, tup5_, lst0_, lst1_, lst2_, lst3_, lst4_, lst5_, lst6_, lst7_, lst8_, lst9_, lst10_, lstv1_, lstv2_, lstv3_, lstv4_, lstv5_, b_, m_, call1_, call2_, call3_, call4_, call5_, neg_, slice_, none_, some_, rev_, comp_, gtup_, gn_nil, gn_cons, wipe_n, wipe_c, iseq_, sq_t, sq_r, r1_, r2_, add_i, add_s, add_t, sub_i, mul_i, int_o, cmp_o, isn_, ix_t, ix_r, ix_s, len_t2, len_t3, len_t4, len_t5, len_r, int1_i, two_, tuple_t, tuple_r, list_t, list_r, str_i, sl_t, sl_r, rev_t, rev_r, lo_l, lo_r, isi_t_t, isi_i_t, isi_s_s, isi_i_i, isi_i_b, isi_b_b, at0, at1, at2, at3, eq_i, eq_s, ol_s, vr_s, tb_b, ti_i, Br_t, Br_f, List.getElem?_cons_zero, List.getElem?_cons_succ, List.set_cons_zero, List.set_cons_succ, true_and, eq_self, Bool.not_true, Bool.not_false, Bool.false_eq_true, if_true, if_false, Nat.reduceLeDiff, ite_true, ite_false]))
      refine delays_sp U (mx_ol X5 hz) (by omega) hg (by omega) fun p xs M6 x6 hp6 e6 hlx hen => ?_
      (try simp only [skip_, seqset_, seqdrop_, seqasg_, ret_, retN_, if_, drop_, set_, asg_, for_, raise0_, raise1_, var_, c_, c2_, test_, and_, or_, not_, andV_, orV_, notV_, nil_, cons_, tup0_, tup1_, tup2_, tup3_, tup4_, tup5_, lst0_, lst1_, lst2_, lst3_, lst4_, lst5_, lst6_, lst7_, lst8_, lst9_, lst10_, lstv1_, lstv2_, lstv3_, lstv4_, lstv5_, b_, m_, call1_, call2_, call3_, call4_, call5_, neg_, slice_, none_, some_, rev_, comp_, gtup_, gn_nil, gn_cons, wipe_n, wipe_c, iseq_, sq_t, sq_r, r1_, r2_, add_i, add_s, add_t, sub_i, mul_i, int_o, cmp_o, isn_, ix_t, ix_r, ix_s, len_t2, len_t3, len_t4, len_t5, len_r, int1_i, two_, tuple_t, tuple_r, list_t, list_r, str_i, sl_t, sl_r, rev_t, rev_r, lo_l, lo_r, isi_t_t, isi_i_t, isi_s_s, isi_i_i, isi_i_b, isi_b_b, at0, at1, at2, at3, eq_i, eq_s, ol_s, vr_s, tb_b, ti_i, Br_t, Br_f, List.getElem?_cons_zero, List.getElem?_cons_succ, List.set_cons_zero, List.set_cons_succ, true_and, eq_self, Bool.not_true, Bool.not_false, Bool.false_eq_true, if_true, if_false, Nat.reduceLeDiff, ite_true, ite_false]); (repeat (refine Nx.mk ?_; try simp only [skip_, seqset_, seqdrop_, seqasg_, ret_, retN_, if_, drop_, set_, asg_, for_, raise0_, raise1_, var_, c_, c2_, test_, and_, or_, not_, andV_, orV_, notV_, nil_, cons_, tup0_, tup1_, tup2_, tup3_, tup4_, tup5_, lst0_, lst1_, lst2_, lst3_, lst4_, lst5_, lst6_, lst7_, lst8_, lst9_, lst10_, lstv1_, lstv2_, lstv3_, lstv4_, lstv5_, b_, m_, call1_, call2_, call3_, call4_, call5_, neg_, slice_, none_, some_, rev_, comp_, gtup_, gn_nil, gn_cons, wipe_n, wipe_c, iseq_, sq_t, sq_r, r1_, r2_, add_i, add_s, add_t, sub_i, mul_i, int_o, cmp_o, isn_, ix_t, ix_r, ix_s, len_t2, len_t3, len_t4, len_t5, len_r, int1_i, two_, tuple_t, tuple_r, list_t, list_r, str_i, sl_t, sl_r, rev_t, rev_r, lo_l, lo_r, isi_t_t, isi_i_t, isi_s_s, isi_i_i, isi_i_b, isi_b_b, at0, at1, at2, at3, eq_i, eq_s, ol_s, vr_s, tb_b, ti_i, Br_t, Br_f, List.getElem?_cons_zero, List.getElem?_cons_succ, List.set_cons_zero, List.set_cons_succ, true_and, eq_self, Bool.not_true, Bool.not_false, Bool.false_eq_true, if_true, if_false, Nat.reduceLeDiff, ite_true, ite_false]))
      refine added_sp (lst_ol e6) hlx (by omega) fun M7 x7 => ?_
      have hO : ∀ r ∈ rs, Ok ls r := fun r hr => (hg r hr).1
      have hll : (lates rs xs).length = rs.length := lates_len hlx
      (try refine Nx.mk ?_); rw [seq_]
      (try simp only [skip_, seqset_, seqdrop_, seqasg_, ret_, retN_, if_, drop_, set_, asg_, for_, raise0_, raise1_, var_, c_, c2_, test_, and_, or_, not_, andV_, orV_, notV_, nil_, cons_, tup0_, tup1_, tup2_, tup3_, tup4_, tup5_, lst0_, lst1_, lst2_, lst3_, lst4_, lst5_, lst6_, lst7_, lst8_, lst9_, lst10_, lstv1_, lstv2_, lstv3_, lstv4_, lstv5_, b_, m_, call1_, call2_, call3_, call4_, call5_, neg_, slice_, none_, some_, rev_, comp_, gtup_, gn_nil, gn_cons, wipe_n, wipe_c, iseq_, sq_t, sq_r, r1_, r2_, add_i, add_s, add_t, sub_i, mul_i, int_o, cmp_o, isn_, ix_t, ix_r, ix_s, len_t2, len_t3, len_t4, len_t5, len_r, int1_i, two_, tuple_t, tuple_r, list_t, list_r, str_i, sl_t, sl_r, rev_t, rev_r, lo_l, lo_r, isi_t_t, isi_i_t, isi_s_s, isi_i_i, isi_i_b, isi_b_b, at0, at1, at2, at3, eq_i, eq_s, ol_s, vr_s, tb_b, ti_i, Br_t, Br_f, List.getElem?_cons_zero, List.getElem?_cons_succ, List.set_cons_zero, List.set_cons_succ, true_and, eq_self, Bool.not_true, Bool.not_false, Bool.false_eq_true, if_true, if_false, Nat.reduceLeDiff, ite_true, ite_false, mx_ol x7 (lst_ol e6)]); (repeat (refine Nx.mk ?_; try simp only [skip_, seqset_, seqdrop_, seqasg_, ret_, retN_, if_, drop_, set_, asg_, for_, raise0_, raise1_, var_, c_, c2_, test_, and_, or_, not_, andV_, orV_, notV_, nil_, cons_, tup0_, tup1_, tup2_, tup3_, tup4_, tup5_, lst0_, lst1_, lst2_, lst3_, lst4_, lst5_, lst6_, lst7_, lst8_, lst9_, lst10_, lstv1_, lstv2_, lstv3_, lstv4_, lstv5_, b_, m_, call1_, call2_, call3_, call4_, call5_, neg_, slice_, none_, some_, rev_, comp_, gtup_, gn_nil, gn_cons, wipe_n, wipe_c, iseq_, sq_t, sq_r, r1_, r2_, add_i, add_s, add_t, sub_i, mul_i, int_o, cmp_o, isn_, ix_t, ix_r, ix_s, len_t2, len_t3, len_t4, len_t5, len_r, int1_i, two_, tuple_t, tuple_r, list_t, list_r, str_i, sl_t, sl_r, rev_t, rev_r, lo_l, lo_r, isi_t_t, isi_i_t, isi_s_s, isi_i_i, isi_i_b, isi_b_b, at0, at1, at2, at3, eq_i, eq_s, ol_s, vr_s, tb_b, ti_i, Br_t, Br_f, List.getElem?_cons_zero, List.getElem?_cons_succ, List.set_cons_zero, List.set_cons_succ, true_and, eq_self, Bool.not_true, Bool.not_false, Bool.false_eq_true, if_true, if_false, Nat.reduceLeDiff, ite_true, ite_false, mx_ol x7 (lst_ol e6)]))
      refine llate_sp X U hO hlx (by omega) (fun _ M8 x8 => ?_) (fun ⟨n, r, h, h'⟩ => absurd (hen n r h) (by omega))
      (try simp only [skip_, seqset_, seqdrop_, seqasg_, ret_, retN_, if_, drop_, set_, asg_, for_, raise0_, raise1_, var_, c_, c2_, test_, and_, or_, not_, andV_, orV_, notV_, nil_, cons_, tup0_, tup1_, tup2_, tup3_, tup4_, tup5_, lst0_, lst1_, lst2_, lst3_, lst4_, lst5_, lst6_, lst7_, lst8_, lst9_, lst10_, lstv1_, lstv2_, lstv3_, lstv4_, lstv5_, b_, m_, call1_, call2_, call3_, call4_, call5_, neg_, slice_, none_, some_, rev_, comp_, gtup_, gn_nil, gn_cons, wipe_n, wipe_c, iseq_, sq_t, sq_r, r1_, r2_, add_i, add_s, add_t, sub_i, mul_i, int_o, cmp_o, isn_, ix_t, ix_r, ix_s, len_t2, len_t3, len_t4, len_t5, len_r, int1_i, two_, tuple_t, tuple_r, list_t, list_r, str_i, sl_t, sl_r, rev_t, rev_r, lo_l, lo_r, isi_t_t, isi_i_t, isi_s_s, isi_i_i, isi_i_b, isi_b_b, at0, at1, at2, at3, eq_i, eq_s, ol_s, vr_s, tb_b, ti_i, Br_t, Br_f, List.getElem?_cons_zero, List.getElem?_cons_succ, List.set_cons_zero, List.set_cons_succ, true_and, eq_self, Bool.not_true, Bool.not_false, Bool.false_eq_true, if_true, if_false, Nat.reduceLeDiff, ite_true, ite_false]); (repeat (refine Nx.mk ?_; try simp only [skip_, seqset_, seqdrop_, seqasg_, ret_, retN_, if_, drop_, set_, asg_, for_, raise0_, raise1_, var_, c_, c2_, test_, and_, or_, not_, andV_, orV_, notV_, nil_, cons_, tup0_, tup1_, tup2_, tup3_, tup4_, tup5_, lst0_, lst1_, lst2_, lst3_, lst4_, lst5_, lst6_, lst7_, lst8_, lst9_, lst10_, lstv1_, lstv2_, lstv3_, lstv4_, lstv5_, b_, m_, call1_, call2_, call3_, call4_, call5_, neg_, slice_, none_, some_, rev_, comp_, gtup_, gn_nil, gn_cons, wipe_n, wipe_c, iseq_, sq_t, sq_r, r1_, r2_, add_i, add_s, add_t, sub_i, mul_i, int_o, cmp_o, isn_, ix_t, ix_r, ix_s, len_t2, len_t3, len_t4, len_t5, len_r, int1_i, two_, tuple_t, tuple_r, list_t, list_r, str_i, sl_t, sl_r, rev_t, rev_r, lo_l, lo_r, isi_t_t, isi_i_t, isi_s_s, isi_i_i, isi_i_b, isi_b_b, at0, at1, at2, at3, eq_i, eq_s, ol_s, vr_s, tb_b, ti_i, Br_t, Br_f, List.getElem?_cons_zero, List.getElem?_cons_succ, List.set_cons_zero, List.set_cons_succ, true_and, eq_self, Bool.not_true, Bool.not_false, Bool.false_eq_true, if_true, if_false, Nat.reduceLeDiff, ite_true, ite_false]))
      refine eq_self 4 rfl (flat_runs _) (by decide) ?_
      (try simp only [skip_, seqset_, seqdrop_, seqasg_, ret_, retN_, if_, drop_, set_, asg_, for_, raise0_, raise1_, var_, c_, c2_, test_, and_, or_, not_, andV_, orV_, notV_, nil_, cons_, tup0_, tup1_, tup2_, tup3_, tup4_, tup5_, lst0_, lst1_, lst2_, lst3_, lst4_, lst5_, lst6_, lst7_, lst8_, lst9_, lst10_, lstv1_, lstv2_, lstv3_, lstv4_, lstv5_, b_, m_, call1_, call2_, call3_, call4_, call5_, neg_, slice_, none_, some_, rev_, comp_, gtup_, gn_nil, gn_cons, wipe_n, wipe_c, iseq_, sq_t, sq_r, r1_, r2_, add_i, add_s, add_t, sub_i, mul_i, int_o, cmp_o, isn_, ix_t, ix_r, ix_s, len_t2, len_t3, len_t4, len_t5, len_r, int1_i, two_, tuple_t, tuple_r, list_t, list_r, str_i, sl_t, sl_r, rev_t, rev_r, lo_l, lo_r, isi_t_t, isi_i_t, isi_s_s, isi_i_i, isi_i_b, isi_b_b, at0, at1, at2, at3, eq_i, eq_s, ol_s, vr_s, tb_b, ti_i, Br_t, Br_f, List.getElem?_cons_zero, List.getElem?_cons_succ, List.set_cons_zero, List.set_cons_succ, true_and, eq_self, Bool.not_true, Bool.not_false, Bool.false_eq_true, if_true, if_false, Nat.reduceLeDiff, ite_true, ite_false]); (repeat (refine Nx.mk ?_; try simp only [skip_, seqset_, seqdrop_, seqasg_, ret_, retN_, if_, drop_, set_, asg_, for_, raise0_, raise1_, var_, c_, c2_, test_, and_, or_, not_, andV_, orV_, notV_, nil_, cons_, tup0_, tup1_, tup2_, tup3_, tup4_, tup5_, lst0_, lst1_, lst2_, lst3_, lst4_, lst5_, lst6_, lst7_, lst8_, lst9_, lst10_, lstv1_, lstv2_, lstv3_, lstv4_, lstv5_, b_, m_, call1_, call2_, call3_, call4_, call5_, neg_, slice_, none_, some_, rev_, comp_, gtup_, gn_nil, gn_cons, wipe_n, wipe_c, iseq_, sq_t, sq_r, r1_, r2_, add_i, add_s, add_t, sub_i, mul_i, int_o, cmp_o, isn_, ix_t, ix_r, ix_s, len_t2, len_t3, len_t4, len_t5, len_r, int1_i, two_, tuple_t, tuple_r, list_t, list_r, str_i, sl_t, sl_r, rev_t, rev_r, lo_l, lo_r, isi_t_t, isi_i_t, isi_s_s, isi_i_i, isi_i_b, isi_b_b, at0, at1, at2, at3, eq_i, eq_s, ol_s, vr_s, tb_b, ti_i, Br_t, Br_f, List.getElem?_cons_zero, List.getElem?_cons_succ, List.set_cons_zero, List.set_cons_succ, true_and, eq_self, Bool.not_true, Bool.not_false, Bool.false_eq_true, if_true, if_false, Nat.reduceLeDiff, ite_true, ite_false]))
      (try refine Nx.mk ?_); rw [seq_]
      (try simp only [skip_, seqset_, seqdrop_, seqasg_, ret_, retN_, if_, drop_, set_, asg_, for_, raise0_, raise1_, var_, c_, c2_, test_, and_, or_, not_, andV_, orV_, notV_, nil_, cons_, tup0_, tup1_, tup2_, tup3_, tup4_, tup5_, lst0_, lst1_, lst2_, lst3_, lst4_, lst5_, lst6_, lst7_, lst8_, lst9_, lst10_, lstv1_, lstv2_, lstv3_, lstv4_, lstv5_, b_, m_, call1_, call2_, call3_, call4_, call5_, neg_, slice_, none_, some_, rev_, comp_, gtup_, gn_nil, gn_cons, wipe_n, wipe_c, iseq_, sq_t, sq_r, r1_, r2_, add_i, add_s, add_t, sub_i, mul_i, int_o, cmp_o, isn_, ix_t, ix_r, ix_s, len_t2, len_t3, len_t4, len_t5, len_r, int1_i, two_, tuple_t, tuple_r, list_t, list_r, str_i, sl_t, sl_r, rev_t, rev_r, lo_l, lo_r, isi_t_t, isi_i_t, isi_s_s, isi_i_i, isi_i_b, isi_b_b, at0, at1, at2, at3, eq_i, eq_s, ol_s, vr_s, tb_b, ti_i, Br_t, Br_f, List.getElem?_cons_zero, List.getElem?_cons_succ, List.set_cons_zero, List.set_cons_succ, true_and, eq_self, Bool.not_true, Bool.not_false, Bool.false_eq_true, if_true, if_false, Nat.reduceLeDiff, ite_true, ite_false]); (repeat (refine Nx.mk ?_; try simp only [skip_, seqset_, seqdrop_, seqasg_, ret_, retN_, if_, drop_, set_, asg_, for_, raise0_, raise1_, var_, c_, c2_, test_, and_, or_, not_, andV_, orV_, notV_, nil_, cons_, tup0_, tup1_, tup2_, tup3_, tup4_, tup5_, lst0_, lst1_, lst2_, lst3_, lst4_, lst5_, lst6_, lst7_, lst8_, lst9_, lst10_, lstv1_, lstv2_, lstv3_, lstv4_, lstv5_, b_, m_, call1_, call2_, call3_, call4_, call5_, neg_, slice_, none_, some_, rev_, comp_, gtup_, gn_nil, gn_cons, wipe_n, wipe_c, iseq_, sq_t, sq_r, r1_, r2_, add_i, add_s, add_t, sub_i, mul_i, int_o, cmp_o, isn_, ix_t, ix_r, ix_s, len_t2, len_t3, len_t4, len_t5, len_r, int1_i, two_, tuple_t, tuple_r, list_t, list_r, str_i, sl_t, sl_r, rev_t, rev_r, lo_l, lo_r, isi_t_t, isi_i_t, isi_s_s, isi_i_i, isi_i_b, isi_b_b, at0, at1, at2, at3, eq_i, eq_s, ol_s, vr_s, tb_b, ti_i, Br_t, Br_f, List.getElem?_cons_zero, List.getElem?_cons_succ, List.set_cons_zero, List.set_cons_succ, true_and, eq_self, Bool.not_true, Bool.not_false, Bool.false_eq_true, if_true, if_false, Nat.reduceLeDiff, ite_true, ite_false]))
      refine comp_i (fun n y => y = D.int 0) (size_le (by simp; omega)) (fun _ _ => trivial) (fun n d M9 hd x9 => ⟨_, rfl, fun Q' hQ' => ?_⟩) (fun pz ys M9 hpz x9 e9 hly hy => ?_)
      · (try simp only [skip_, seqset_, seqdrop_, seqasg_, ret_, retN_, if_, drop_, set_, asg_, for_, raise0_, raise1_, var_, c_, c2_, test_, and_, or_, not_, andV_, orV_, notV_, nil_, cons_, tup0_, tup1_, tup2_, tup3_, tup4_, tup5_, lst0_, lst1_, lst2_, lst3_, lst4_, lst5_, lst6_, lst7_, lst8_, lst9_, lst10_, lstv1_, lstv2_, lstv3_, lstv4_, lstv5_, b_, m_, call1_, call2_, call3_, call4_, call5_, neg_, slice_, none_, some_, rev_, comp_, gtup_, gn_nil, gn_cons, wipe_n, wipe_c, iseq_, sq_t, sq_r, r1_, r2_, add_i, add_s, add_t, sub_i, mul_i, int_o, cmp_o, isn_, ix_t, ix_r, ix_s, len_t2, len_t3, len_t4, len_t5, len_r, int1_i, two_, tuple_t, tuple_r, list_t, list_r, str_i, sl_t, sl_r, rev_t, rev_r, lo_l, lo_r, isi_t_t, isi_i_t, isi_s_s, isi_i_i, isi_i_b, isi_b_b, at0, at1, at2, at3, eq_i, eq_s, ol_s, vr_s, tb_b, ti_i, Br_t, Br_f, List.getElem?_cons_zero, List.getElem?_cons_succ, List.set_cons_zero, List.set_cons_succ, true_and, eq_self, Bool.not_true, Bool.not_false, Bool.false_eq_true, if_true, if_false, Nat.reduceLeDiff, ite_true, ite_false]); (repeat (refine Nx.mk ?_; try simp only [skip_, seqset_, seqdrop_, seqasg_, ret_, retN_, if_, drop_, set_, asg_, for_, raise0_, raise1_, var_, c_, c2_, test_, and_, or_, not_, andV_, orV_, notV_, nil_, cons_, tup0_, tup1_, tup2_, tup3_, tup4_, tup5_, lst0_, lst1_, lst2_, lst3_, lst4_, lst5_, lst6_, lst7_, lst8_, lst9_, lst10_, lstv1_, lstv2_, lstv3_, lstv4_, lstv5_, b_, m_, call1_, call2_, call3_, call4_, call5_, neg_, slice_, none_, some_, rev_, comp_, gtup_, gn_nil, gn_cons, wipe_n, wipe_c, iseq_, sq_t, sq_r, r1_, r2_, add_i, add_s, add_t, sub_i, mul_i, int_o, cmp_o, isn_, ix_t, ix_r, ix_s, len_t2, len_t3, len_t4, len_t5, len_r, int1_i, two_, tuple_t, tuple_r, list_t, list_r, str_i, sl_t, sl_r, rev_t, rev_r, lo_l, lo_r, isi_t_t, isi_i_t, isi_s_s, isi_i_i, isi_i_b, isi_b_b, at0, at1, at2, at3, eq_i, eq_s, ol_s, vr_s, tb_b, ti_i, Br_t, Br_f, List.getElem?_cons_zero, List.getElem?_cons_succ, List.set_cons_zero, List.set_cons_succ, true_and, eq_self, Bool.not_true, Bool.not_false, Bool.false_eq_true, if_true, if_false, Nat.reduceLeDiff, ite_true, ite_false]))
        exact hQ' _ _ MX.refl' rfl
      · rw [List.length_map] at hly
        obtain ⟨zs', hzs, hlz, hz'⟩ : ∃ zs' : List Int, ys = zs'.map .int ∧ zs'.length = rs.length ∧ ∀ x ∈ zs', x = 0 := by
          refine ⟨List.replicate rs.length 0, List.ext_getElem? fun n => ?_, by simp, fun x hx => (List.mem_replicate.mp hx).2⟩
          by_cases hn : n < rs.length
          · have h1 : ys[n]? = some ys[n] := List.getElem?_eq_getElem (by omega)
            rw [h1, hy n _ h1]
            simp [hn]
          · rw [List.getElem?_eq_none (by omega), List.getElem?_eq_none (by simp; omega)]
        subst hzs
        have hlz2 := lates_zero rs hlz hz'
        (try simp only [skip_, seqset_, seqdrop_, seqasg_, ret_, retN_, if_, drop_, set_, asg_, for_, raise0_, raise1_, var_, c_, c2_, test_, and_, or_, not_, andV_, orV_, notV_, nil_, cons_, tup0_, tup1_, tup2_, tup3_, tup4_, tup5_, lst0_, lst1_, lst2_, lst3_, lst4_, lst5_, lst6_, lst7_, lst8_, lst9_, lst10_, lstv1_, lstv2_, lstv3_, lstv4_, lstv5_, b_, m_, call1_, call2_, call3_, call4_, call5_, neg_, slice_, none_, some_, rev_, comp_, gtup_, gn_nil, gn_cons, wipe_n, wipe_c, iseq_, sq_t, sq_r, r1_, r2_, add_i, add_s, add_t, sub_i, mul_i, int_o, cmp_o, isn_, ix_t, ix_r, ix_s, len_t2, len_t3, len_t4, len_t5, len_r, int1_i, two_, tuple_t, tuple_r, list_t, list_r, str_i, sl_t, sl_r, rev_t, rev_r, lo_l, lo_r, isi_t_t, isi_i_t, isi_s_s, isi_i_i, isi_i_b, isi_b_b, at0, at1, at2, at3, eq_i, eq_s, ol_s, vr_s, tb_b, ti_i, Br_t, Br_f, List.getElem?_cons_zero, List.getElem?_cons_succ, List.set_cons_zero, List.set_cons_succ, true_and, eq_self, Bool.not_true, Bool.not_false, Bool.false_eq_true, if_true, if_false, Nat.reduceLeDiff, ite_true, ite_false, lst_ol e9]); (repeat (refine Nx.mk ?_; try simp only [skip_, seqset_, seqdrop_, seqasg_, ret_, retN_, if_, drop_, set_, asg_, for_, raise0_, raise1_, var_, c_, c2_, test_, and_, or_, not_, andV_, orV_, notV_, nil_, cons_, tup0_, tup1_, tup2_, tup3_, tup4_, tup5_, lst0_, lst1_, lst2_, lst3_, lst4_, lst5_, lst6_, lst7_, lst8_, lst9_, lst10_, lstv1_, lstv2_, lstv3_, lstv4_, lstv5_, b_, m_, call1_, call2_, call3_, call4_, call5_, neg_, slice_, none_, some_, rev_, comp_, gtup_, gn_nil, gn_cons, wipe_n, wipe_c, iseq_, sq_t, sq_r, r1_, r2_, add_i, add_s, add_t, sub_i, mul_i, int_o, cmp_o, isn_, ix_t, ix_r, ix_s, len_t2, len_t3, len_t4, len_t5, len_r, int1_i, two_, tuple_t, tuple_r, list_t, list_r, str_i, sl_t, sl_r, rev_t, rev_r, lo_l, lo_r, isi_t_t, isi_i_t, isi_s_s, isi_i_i, isi_i_b, isi_b_b, at0, at1, at2, at3, eq_i, eq_s, ol_s, vr_s, tb_b, ti_i, Br_t, Br_f, List.getElem?_cons_zero, List.getElem?_cons_succ, List.set_cons_zero, List.set_cons_succ, true_and, eq_self, Bool.not_true, Bool.not_false, Bool.false_eq_true, if_true, if_false, Nat.reduceLeDiff, ite_true, ite_false, lst_ol e9]))
        refine llate_sp X U hO hlz (by omega) (fun _ M10 x10 => ?_) (fun ⟨n, r, h, h'⟩ => absurd (hg r (by rw [hlz2] at h; exact List.mem_of_getElem? h)).2 (by omega))
        (try simp only [skip_, seqset_, seqdrop_, seqasg_, ret_, retN_, if_, drop_, set_, asg_, for_, raise0_, raise1_, var_, c_, c2_, test_, and_, or_, not_, andV_, orV_, notV_, nil_, cons_, tup0_, tup1_, tup2_, tup3_, tup4_, tup5_, lst0_, lst1_, lst2_, lst3_, lst4_, lst5_, lst6_, lst7_, lst8_, lst9_, lst10_, lstv1_, lstv2_, lstv3_, lstv4_, lstv5_, b_, m_, call1_, call2_, call3_, call4_, call5_, neg_, slice_, none_, some_, rev_, comp_, gtup_, gn_nil, gn_cons, wipe_n, wipe_c, iseq_, sq_t, sq_r, r1_, r2_, add_i, add_s, add_t, sub_i, mul_i, int_o, cmp_o, isn_, ix_t, ix_r, ix_s, len_t2, len_t3, len_t4, len_t5, len_r, int1_i, two_, tuple_t, tuple_r, list_t, list_r, str_i, sl_t, sl_r, rev_t, rev_r, lo_l, lo_r, isi_t_t, isi_i_t, isi_s_s, isi_i_i, isi_i_b, isi_b_b, at0, at1, at2, at3, eq_i, eq_s, ol_s, vr_s, tb_b, ti_i, Br_t, Br_f, List.getElem?_cons_zero, List.getElem?_cons_succ, List.set_cons_zero, List.set_cons_succ, true_and, eq_self, Bool.not_true, Bool.not_false, Bool.false_eq_true, if_true, if_false, Nat.reduceLeDiff, ite_true, ite_false]); (repeat (refine Nx.mk ?_; try simp only [skip_, seqset_, seqdrop_, seqasg_, ret_, retN_, if_, drop_, set_, asg_, for_, raise0_, raise1_, var_, c_, c2_, test_, and_, or_, not_, andV_, orV_, notV_, nil_, cons_, tup0_, tup1_, tup2_, tup3_, tup4_, tup5_, lst0_, lst1_, lst2_, lst3_, lst4_, lst5_, lst6_, lst7_, lst8_, lst9_, lst10_, lstv1_, lstv2_, lstv3_, lstv4_, lstv5_, b_, m_, call1_, call2_, call3_, call4_, call5_, neg_, slice_, none_, some_, rev_, comp_, gtup_, gn_nil, gn_cons, wipe_n, wipe_c, iseq_, sq_t, sq_r, r1_, r2_, add_i, add_s, add_t, sub_i, mul_i, int_o, cmp_o, isn_, ix_t, ix_r, ix_s, len_t2, len_t3, len_t4, len_t5, len_r, int1_i, two_, tuple_t, tuple_r, list_t, list_r, str_i, sl_t, sl_r, rev_t, rev_r, lo_l, lo_r, isi_t_t, isi_i_t, isi_s_s, isi_i_i, isi_i_b, isi_b_b, at0, at1, at2, at3, eq_i, eq_s, ol_s, vr_s, tb_b, ti_i, Br_t, Br_f, List.getElem?_cons_zero, List.getElem?_cons_succ, List.set_cons_zero, List.set_cons_succ, true_and, eq_self, Bool.not_true, Bool.not_false, Bool.false_eq_true, if_true, if_false, Nat.reduceLeDiff, ite_true, ite_false]))
        refine eq_self 4 (by rw [hlz2]) (flat_runs _) (by decide) ?_
        (try simp only [skip_, seqset_, seqdrop_, seqasg_, ret_, retN_, if_, drop_, set_, asg_, for_, raise0_, raise1_, var_, c_, c2_, test_, and_, or_, not_, andV_, orV_, notV_, nil_, cons_, tup0_, tup1_, tup2_, tup3_, tup4_, tup5_, lst0_, lst1_, lst2_, lst3_, lst4_, lst5_, lst6_, lst7_, lst8_, lst9_, lst10_, lstv1_, lstv2_, lstv3_, lstv4_, lstv5_, b_, m_, call1_, call2_, call3_, call4_, call5_, neg_, slice_, none_, some_, rev_, comp_, gtup_, gn_nil, gn_cons, wipe_n, wipe_c, iseq_, sq_t, sq_r, r1_, r2_, add_i, add_s, add_t, sub_i, mul_i, int_o, cmp_o, isn_, ix_t, ix_r, ix_s, len_t2, len_t3, len_t4, len_t5, len_r, int1_i, two_, tuple_t, tuple_r, list_t, list_r, str_i, sl_t, sl_r, rev_t, rev_r, lo_l, lo_r, isi_t_t, isi_i_t, isi_s_s, isi_i_i, isi_i_b, isi_b_b, at0, at1, at2, at3, eq_i, eq_s, ol_s, vr_s, tb_b, ti_i, Br_t, Br_f, List.getElem?_cons_zero, List.getElem?_cons_succ, List.set_cons_zero, List.set_cons_succ, true_and, eq_self, Bool.not_true, Bool.not_false, Bool.false_eq_true, if_true, if_false, Nat.reduceLeDiff, ite_true, ite_false]); (repeat (refine Nx.mk ?_; try simp only [skip_, seqset_, seqdrop_, seqasg_, ret_, retN_, if_, drop_, set_, asg_, for_, raise0_, raise1_, var_, c_, c2_, test_, and_, or_, not_, andV_, orV_, notV_, nil_, cons_, tup0_, tup1_, tup2_, tup3_, tup4_, tup5_, lst0_, lst1_, lst2_, lst3_, lst4_, lst5_, lst6_, lst7_, lst8_, lst9_, lst10_, lstv1_, lstv2_, lstv3_, lstv4_, lstv5_, b_, m_, call1_, call2_, call3_, call4_, call5_, neg_, slice_, none_, some_, rev_, comp_, gtup_, gn_nil, gn_cons, wipe_n, wipe_c, iseq_, sq_t, sq_r, r1_, r2_, add_i, add_s, add_t, sub_i, mul_i, int_o, cmp_o, isn_, ix_t, ix_r, ix_s, len_t2, len_t3, len_t4, len_t5, len_r, int1_i, two_, tuple_t, tuple_r, list_t, list_r, str_i, sl_t, sl_r, rev_t, rev_r, lo_l, lo_r, isi_t_t, isi_i_t, isi_s_s, isi_i_i, isi_i_b, isi_b_b, at0, at1, at2, at3, eq_i, eq_s, ol_s, vr_s, tb_b, ti_i, Br_t, Br_f, List.getElem?_cons_zero, List.getElem?_cons_succ, List.set_cons_zero, List.set_cons_succ, true_and, eq_self, Bool.not_true, Bool.not_false, Bool.false_eq_true, if_true, if_false, Nat.reduceLeDiff, ite_true, ite_false]))
        have hall : ∀ r ∈ rs ++ lates rs xs, Ok ls r := fun r hr => by
          rcases List.mem_append.mp hr with hr | hr
          · exact hO r hr
          · obtain ⟨n, hn⟩ := List.mem_iff_getElem?.mp hr
            obtain ⟨r1, y, h1, h2, rfl⟩ := lates_of hn
            exact (hO r1 (List.mem_of_getElem? h1)).add y
        (try refine Nx.mk ?_); refine seq_m (fun ρ' M' => ∃ (o8 o11 : Option D), ρ' = [some (.ref a), some (.tup [.tup sts, .tup (ls.map Lt.d), .tup [], .tup []]), some (.ref pd), some (.int 8), some (.tup (rs.map Rn.d)), some (.tup (.tup sts :: .tup (ls.map Lt.d) :: cr)), some (.ref p), some (.tup ((lates rs xs).map Rn.d)), o8, o9, o10, o11, none, none, none, none] ∧ MX M10 M') (fun Kn hK => ?_) ?_
        · (try simp only [skip_, seqset_, seqdrop_, seqasg_, ret_, retN_, if_, drop_, set_, asg_, for_, raise0_, raise1_, var_, c_, c2_, test_, and_, or_, not_, andV_, orV_, notV_, nil_, cons_, tup0_, tup1_, tup2_, tup3_, tup4_, tup5_, lst0_, lst1_, lst2_, lst3_, lst4_, lst5_, lst6_, lst7_, lst8_, lst9_, lst10_, lstv1_, lstv2_, lstv3_, lstv4_, lstv5_, b_, m_, call1_, call2_, call3_, call4_, call5_, neg_, slice_, none_, some_, rev_, comp_, gtup_, gn_nil, gn_cons, wipe_n, wipe_c, iseq_, sq_t, sq_r, r1_, r2_, add_i, add_s, add_t, sub_i, mul_i, int_o, cmp_o, isn_, ix_t, ix_r, ix_s, len_t2, len_t3, len_t4, len_t5, len_r, int1_i, two_, tuple_t, tuple_r, list_t, list_r, str_i, sl_t, sl_r, rev_t, rev_r, lo_l, lo_r, isi_t_t, isi_i_t, isi_s_s, isi_i_i, isi_i_b, isi_b_b, at0, at1, at2, at3, eq_i, eq_s, ol_s, vr_s, tb_b, ti_i, Br_t, Br_f, List.getElem?_cons_zero, List.getElem?_cons_succ, List.set_cons_zero, List.set_cons_succ, true_and, eq_self, Bool.not_true, Bool.not_false, Bool.false_eq_true, if_true, if_false, Nat.reduceLeDiff, ite_true, ite_false]); (repeat (refine Nx.mk ?_; try simp only [skip_, seqset_, seqdrop_, seqasg_, ret_, retN_, if_, drop_, set_, asg_, for_, raise0_, raise1_, var_, c_, c2_, test_, and_, or_, not_, andV_, orV_, notV_, nil_, cons_, tup0_, tup1_, tup2_, tup3_, tup4_, tup5_, lst0_, lst1_, lst2_, lst3_, lst4_, lst5_, lst6_, lst7_, lst8_, lst9_, lst10_, lstv1_, lstv2_, lstv3_, lstv4_, lstv5_, b_, m_, call1_, call2_, call3_, call4_, call5_, neg_, slice_, none_, some_, rev_, comp_, gtup_, gn_nil, gn_cons, wipe_n, wipe_c, iseq_, sq_t, sq_r, r1_, r2_, add_i, add_s, add_t, sub_i, mul_i, int_o, cmp_o, isn_, ix_t, ix_r, ix_s, len_t2, len_t3, len_t4, len_t5, len_r, int1_i, two_, tuple_t, tuple_r, list_t, list_r, str_i, sl_t, sl_r, rev_t, rev_r, lo_l, lo_r, isi_t_t, isi_i_t, isi_s_s, isi_i_i, isi_i_b, isi_b_b, at0, at1, at2, at3, eq_i, eq_s, ol_s, vr_s, tb_b, ti_i, Br_t, Br_f, List.getElem?_cons_zero, List.getElem?_cons_succ, List.set_cons_zero, List.set_cons_succ, true_and, eq_self, Bool.not_true, Bool.not_false, Bool.false_eq_true, if_true, if_false, Nat.reduceLeDiff, ite_true, ite_false]))
          rw [List.length_map, List.length_map, ← List.map_append]
          refine ⟨size_le (by omega), for_0 (fun n ρ' M' => ∃ (o8 o11 : Option D), ρ' = [some (.ref a), some (.tup [.tup sts, .tup (ls.map Lt.d), .tup [], .tup []]), some (.ref pd), some (.int 8), some (.tup (rs.map Rn.d)), some (.tup (.tup sts :: .tup (ls.map Lt.d) :: cr)), some (.ref p), some (.tup ((lates rs xs).map Rn.d)), o8, o9, o10, o11, none, none, none, none] ∧ MX M10 M') ⟨_, _, rfl, MX.refl'⟩ (fun _ _ _ _ _ => trivial) ?_ ?_⟩
          · rintro n d hd _ M11 ⟨o8, o11, rfl, x11⟩
            rw [List.getElem?_map] at hd
            cases hln : (rs ++ lates rs xs)[n]? with
            | none => rw [hln] at hd; cases hd
            | some r0 =>
              rw [hln] at hd; cases hd
              have O := hall r0 (List.mem_of_getElem? hln)
              refine ⟨_, rfl, fun Kn3 hK3 => ?_⟩
              (try simp only [skip_, seqset_, seqdrop_, seqasg_, ret_, retN_, if_, drop_, set_, asg_, for_, raise0_, raise1_, var_, c_, c2_, test_, and_, or_, not_, andV_, orV_, notV_, nil_, cons_, tup0_, tup1_, tup2_, tup3_, tup4_, tup5_, lst0_, lst1_, lst2_, lst3_, lst4_, lst5_, lst6_, lst7_, lst8_, lst9_, lst10_, lstv1_, lstv2_, lstv3_, lstv4_, lstv5_, b_, m_, call1_, call2_, call3_, call4_, call5_, neg_, slice_, none_, some_, rev_, comp_, gtup_, gn_nil, gn_cons, wipe_n, wipe_c, iseq_, sq_t, sq_r, r1_, r2_, add_i, add_s, add_t, sub_i, mul_i, int_o, cmp_o, isn_, ix_t, ix_r, ix_s, len_t2, len_t3, len_t4, len_t5, len_r, int1_i, two_, tuple_t, tuple_r, list_t, list_r, str_i, sl_t, sl_r, rev_t, rev_r, lo_l, lo_r, isi_t_t, isi_i_t, isi_s_s, isi_i_i, isi_i_b, isi_b_b, at0, at1, at2, at3, eq_i, eq_s, ol_s, vr_s, tb_b, ti_i, Br_t, Br_f, List.getElem?_cons_zero, List.getElem?_cons_succ, List.set_cons_zero, List.set_cons_succ, true_and, eq_self, Bool.not_true, Bool.not_false, Bool.false_eq_true, if_true, if_false, Nat.reduceLeDiff, ite_true, ite_false]); (repeat (refine Nx.mk ?_; try simp only [skip_, seqset_, seqdrop_, seqasg_, ret_, retN_, if_, drop_, set_, asg_, for_, raise0_, raise1_, var_, c_, c2_, test_, and_, or_, not_, andV_, orV_, notV_, nil_, cons_, tup0_, tup1_, tup2_, tup3_, tup4_, tup5_, lst0_, lst1_, lst2_, lst3_, lst4_, lst5_, lst6_, lst7_, lst8_, lst9_, lst10_, lstv1_, lstv2_, lstv3_, lstv4_, lstv5_, b_, m_, call1_, call2_, call3_, call4_, call5_, neg_, slice_, none_, some_, rev_, comp_, gtup_, gn_nil, gn_cons, wipe_n, wipe_c, iseq_, sq_t, sq_r, r1_, r2_, add_i, add_s, add_t, sub_i, mul_i, int_o, cmp_o, isn_, ix_t, ix_r, ix_s, len_t2, len_t3, len_t4, len_t5, len_r, int1_i, two_, tuple_t, tuple_r, list_t, list_r, str_i, sl_t, sl_r, rev_t, rev_r, lo_l, lo_r, isi_t_t, isi_i_t, isi_s_s, isi_i_i, isi_i_b, isi_b_b, at0, at1, at2, at3, eq_i, eq_s, ol_s, vr_s, tb_b, ti_i, Br_t, Br_f, List.getElem?_cons_zero, List.getElem?_cons_succ, List.set_cons_zero, List.set_cons_succ, true_and, eq_self, Bool.not_true, Bool.not_false, Bool.false_eq_true, if_true, if_false, Nat.reduceLeDiff, ite_true, ite_false]))
              refine visits_sp U O fun M12 x12 => ?_
              (try simp only [skip_, seqset_, seqdrop_, seqasg_, ret_, retN_, if_, drop_, set_, asg_, for_, raise0_, raise1_, var_, c_, c2_, test_, and_, or_, not_, andV_, orV_, notV_, nil_, cons_, tup0_, tup1_, tup2_, tup3_, tup4_, tup5_, lst0_, lst1_, lst2_, lst3_, lst4_, lst5_, lst6_, lst7_, lst8_, lst9_, lst10_, lstv1_, lstv2_, lstv3_, lstv4_, lstv5_, b_, m_, call1_, call2_, call3_, call4_, call5_, neg_, slice_, none_, some_, rev_, comp_, gtup_, gn_nil, gn_cons, wipe_n, wipe_c, iseq_, sq_t, sq_r, r1_, r2_, add_i, add_s, add_t, sub_i, mul_i, int_o, cmp_o, isn_, ix_t, ix_r, ix_s, len_t2, len_t3, len_t4, len_t5, len_r, int1_i, two_, tuple_t, tuple_r, list_t, list_r, str_i, sl_t, sl_r, rev_t, rev_r, lo_l, lo_r, isi_t_t, isi_i_t, isi_s_s, isi_i_i, isi_i_b, isi_b_b, at0, at1, at2, at3, eq_i, eq_s, ol_s, vr_s, tb_b, ti_i, Br_t, Br_f, List.getElem?_cons_zero, List.getElem?_cons_succ, List.set_cons_zero, List.set_cons_succ, true_and, eq_self, Bool.not_true, Bool.not_false, Bool.false_eq_true, if_true, if_false, Nat.reduceLeDiff, ite_true, ite_false]); (repeat (refine Nx.mk ?_; try simp only [skip_, seqset_, seqdrop_, seqasg_, ret_, retN_, if_, drop_, set_, asg_, for_, raise0_, raise1_, var_, c_, c2_, test_, and_, or_, not_, andV_, orV_, notV_, nil_, cons_, tup0_, tup1_, tup2_, tup3_, tup4_, tup5_, lst0_, lst1_, lst2_, lst3_, lst4_, lst5_, lst6_, lst7_, lst8_, lst9_, lst10_, lstv1_, lstv2_, lstv3_, lstv4_, lstv5_, b_, m_, call1_, call2_, call3_, call4_, call5_, neg_, slice_, none_, some_, rev_, comp_, gtup_, gn_nil, gn_cons, wipe_n, wipe_c, iseq_, sq_t, sq_r, r1_, r2_, add_i, add_s, add_t, sub_i, mul_i, int_o, cmp_o, isn_, ix_t, ix_r, ix_s, len_t2, len_t3, len_t4, len_t5, len_r, int1_i, two_, tuple_t, tuple_r, list_t, list_r, str_i, sl_t, sl_r, rev_t, rev_r, lo_l, lo_r, isi_t_t, isi_i_t, isi_s_s, isi_i_i, isi_i_b, isi_b_b, at0, at1, at2, at3, eq_i, eq_s, ol_s, vr_s, tb_b, ti_i, Br_t, Br_f, List.getElem?_cons_zero, List.getElem?_cons_succ, List.set_cons_zero, List.set_cons_succ, true_and, eq_self, Bool.not_true, Bool.not_false, Bool.false_eq_true, if_true, if_false, Nat.reduceLeDiff, ite_true, ite_false]))
              refine are_visits_sp r0 ?_
              (try simp only [skip_, seqset_, seqdrop_, seqasg_, ret_, retN_, if_, drop_, set_, asg_, for_, raise0_, raise1_, var_, c_, c2_, test_, and_, or_, not_, andV_, orV_, notV_, nil_, cons_, tup0_, tup1_, tup2_, tup3_, tup4_, tup5_, lst0_, lst1_, lst2_, lst3_, lst4_, lst5_, lst6_, lst7_, lst8_, lst9_, lst10_, lstv1_, lstv2_, lstv3_, lstv4_, lstv5_, b_, m_, call1_, call2_, call3_, call4_, call5_, neg_, slice_, none_, some_, rev_, comp_, gtup_, gn_nil, gn_cons, wipe_n, wipe_c, iseq_, sq_t, sq_r, r1_, r2_, add_i, add_s, add_t, sub_i, mul_i, int_o, cmp_o, isn_, ix_t, ix_r, ix_s, len_t2, len_t3, len_t4, len_t5, len_r, int1_i, two_, tuple_t, tuple_r, list_t, list_r, str_i, sl_t, sl_r, rev_t, rev_r, lo_l, lo_r, isi_t_t, isi_i_t, isi_s_s, isi_i_i, isi_i_b, isi_b_b, at0, at1, at2, at3, eq_i, eq_s, ol_s, vr_s, tb_b, ti_i, Br_t, Br_f, List.getElem?_cons_zero, List.getElem?_cons_succ, List.set_cons_zero, List.set_cons_succ, true_and, eq_self, Bool.not_true, Bool.not_false, Bool.false_eq_true, if_true, if_false, Nat.reduceLeDiff, ite_true, ite_false]); (repeat (refine Nx.mk ?_; try simp only [skip_, seqset_, seqdrop_, seqasg_, ret_, retN_, if_, drop_, set_, asg_, for_, raise0_, raise1_, var_, c_, c2_, test_, and_, or_, not_, andV_, orV_, notV_, nil_, cons_, tup0_, tup1_, tup2_, tup3_, tup4_, tup5_, lst0_, lst1_, lst2_, lst3_, lst4_, lst5_, lst6_, lst7_, lst8_, lst9_, lst10_, lstv1_, lstv2_, lstv3_, lstv4_, lstv5_, b_, m_, call1_, call2_, call3_, call4_, call5_, neg_, slice_, none_, some_, rev_, comp_, gtup_, gn_nil, gn_cons, wipe_n, wipe_c, iseq_, sq_t, sq_r, r1_, r2_, add_i, add_s, add_t, sub_i, mul_i, int_o, cmp_o, isn_, ix_t, ix_r, ix_s, len_t2, len_t3, len_t4, len_t5, len_r, int1_i, two_, tuple_t, tuple_r, list_t, list_r, str_i, sl_t, sl_r, rev_t, rev_r, lo_l, lo_r, isi_t_t, isi_i_t, isi_s_s, isi_i_i, isi_i_b, isi_b_b, at0, at1, at2, at3, eq_i, eq_s, ol_s, vr_s, tb_b, ti_i, Br_t, Br_f, List.getElem?_cons_zero, List.getElem?_cons_succ, List.set_cons_zero, List.set_cons_succ, true_and, eq_self, Bool.not_true, Bool.not_false, Bool.false_eq_true, if_true, if_false, Nat.reduceLeDiff, ite_true, ite_false]))
              refine lvisits_sp U O fun M13 x13 => ?_
              (try simp only [skip_, seqset_, seqdrop_, seqasg_, ret_, retN_, if_, drop_, set_, asg_, for_, raise0_, raise1_, var_, c_, c2_, test_, and_, or_, not_, andV_, orV_, notV_, nil_, cons_, tup0_, tup1_, tup2_, tup3_, tup4_, tup5_, lst0_, lst1_, lst2_, lst3_, lst4_, lst5_, lst6_, lst7_, lst8_, lst9_, lst10_, lstv1_, lstv2_, lstv3_, lstv4_, lstv5_, b_, m_, call1_, call2_, call3_, call4_, call5_, neg_, slice_, none_, some_, rev_, comp_, gtup_, gn_nil, gn_cons, wipe_n, wipe_c, iseq_, sq_t, sq_r, r1_, r2_, add_i, add_s, add_t, sub_i, mul_i, int_o, cmp_o, isn_, ix_t, ix_r, ix_s, len_t2, len_t3, len_t4, len_t5, len_r, int1_i, two_, tuple_t, tuple_r, list_t, list_r, str_i, sl_t, sl_r, rev_t, rev_r, lo_l, lo_r, isi_t_t, isi_i_t, isi_s_s, isi_i_i, isi_i_b, isi_b_b, at0, at1, at2, at3, eq_i, eq_s, ol_s, vr_s, tb_b, ti_i, Br_t, Br_f, List.getElem?_cons_zero, List.getElem?_cons_succ, List.set_cons_zero, List.set_cons_succ, true_and, eq_self, Bool.not_true, Bool.not_false, Bool.false_eq_true, if_true, if_false, Nat.reduceLeDiff, ite_true, ite_false]); (repeat (refine Nx.mk ?_; try simp only [skip_, seqset_, seqdrop_, seqasg_, ret_, retN_, if_, drop_, set_, asg_, for_, raise0_, raise1_, var_, c_, c2_, test_, and_, or_, not_, andV_, orV_, notV_, nil_, cons_, tup0_, tup1_, tup2_, tup3_, tup4_, tup5_, lst0_, lst1_, lst2_, lst3_, lst4_, lst5_, lst6_, lst7_, lst8_, lst9_, lst10_, lstv1_, lstv2_, lstv3_, lstv4_, lstv5_, b_, m_, call1_, call2_, call3_, call4_, call5_, neg_, slice_, none_, some_, rev_, comp_, gtup_, gn_nil, gn_cons, wipe_n, wipe_c, iseq_, sq_t, sq_r, r1_, r2_, add_i, add_s, add_t, sub_i, mul_i, int_o, cmp_o, isn_, ix_t, ix_r, ix_s, len_t2, len_t3, len_t4, len_t5, len_r, int1_i, two_, tuple_t, tuple_r, list_t, list_r, str_i, sl_t, sl_r, rev_t, rev_r, lo_l, lo_r, isi_t_t, isi_i_t, isi_s_s, isi_i_i, isi_i_b, isi_b_b, at0, at1, at2, at3, eq_i, eq_s, ol_s, vr_s, tb_b, ti_i, Br_t, Br_f, List.getElem?_cons_zero, List.getElem?_cons_succ, List.set_cons_zero, List.set_cons_succ, true_and, eq_self, Bool.not_true, Bool.not_false, Bool.false_eq_true, if_true, if_false, Nat.reduceLeDiff, ite_true, ite_false]))
              refine eq_self 4 rfl (flat_vis _) (by decide) ?_
              (try simp only [skip_, seqset_, seqdrop_, seqasg_, ret_, retN_, if_, drop_, set_, asg_, for_, raise0_, raise1_, var_, c_, c2_, test_, and_, or_, not_, andV_, orV_, notV_, nil_, cons_, tup0_, tup1_, tup2_, tup3_, tup4_, tup5_, lst0_, lst1_, lst2_, lst3_, lst4_, lst5_, lst6_, lst7_, lst8_, lst9_, lst10_, lstv1_, lstv2_, lstv3_, lstv4_, lstv5_, b_, m_, call1_, call2_, call3_, call4_, call5_, neg_, slice_, none_, some_, rev_, comp_, gtup_, gn_nil, gn_cons, wipe_n, wipe_c, iseq_, sq_t, sq_r, r1_, r2_, add_i, add_s, add_t, sub_i, mul_i, int_o, cmp_o, isn_, ix_t, ix_r, ix_s, len_t2, len_t3, len_t4, len_t5, len_r, int1_i, two_, tuple_t, tuple_r, list_t, list_r, str_i, sl_t, sl_r, rev_t, rev_r, lo_l, lo_r, isi_t_t, isi_i_t, isi_s_s, isi_i_i, isi_i_b, isi_b_b, at0, at1, at2, at3, eq_i, eq_s, ol_s, vr_s, tb_b, ti_i, Br_t, Br_f, List.getElem?_cons_zero, List.getElem?_cons_succ, List.set_cons_zero, List.set_cons_succ, true_and, eq_self, Bool.not_true, Bool.not_false, Bool.false_eq_true, if_true, if_false, Nat.reduceLeDiff, ite_true, ite_false]); (repeat (refine Nx.mk ?_; try simp only [skip_, seqset_, seqdrop_, seqasg_, ret_, retN_, if_, drop_, set_, asg_, for_, raise0_, raise1_, var_, c_, c2_, test_, and_, or_, not_, andV_, orV_, notV_, nil_, cons_, tup0_, tup1_, tup2_, tup3_, tup4_, tup5_, lst0_, lst1_, lst2_, lst3_, lst4_, lst5_, lst6_, lst7_, lst8_, lst9_, lst10_, lstv1_, lstv2_, lstv3_, lstv4_, lstv5_, b_, m_, call1_, call2_, call3_, call4_, call5_, neg_, slice_, none_, some_, rev_, comp_, gtup_, gn_nil, gn_cons, wipe_n, wipe_c, iseq_, sq_t, sq_r, r1_, r2_, add_i, add_s, add_t, sub_i, mul_i, int_o, cmp_o, isn_, ix_t, ix_r, ix_s, len_t2, len_t3, len_t4, len_t5, len_r, int1_i, two_, tuple_t, tuple_r, list_t, list_r, str_i, sl_t, sl_r, rev_t, rev_r, lo_l, lo_r, isi_t_t, isi_i_t, isi_s_s, isi_i_i, isi_i_b, isi_b_b, at0, at1, at2, at3, eq_i, eq_s, ol_s, vr_s, tb_b, ti_i, Br_t, Br_f, List.getElem?_cons_zero, List.getElem?_cons_succ, List.set_cons_zero, List.set_cons_succ, true_and, eq_self, Bool.not_true, Bool.not_false, Bool.false_eq_true, if_true, if_false, Nat.reduceLeDiff, ite_true, ite_false]))
              exact hK3 _ _ ⟨_, _, rfl, mxT x11 (mxT x12 x13)⟩
          · rintro _ M' ⟨o8, o11, rfl, x11⟩
            exact hK _ _ ⟨_, _, rfl, x11⟩
        · rintro _ M11 ⟨o8, o11, rfl, x11⟩
          have X11 : MX M6 M11 := mxT x7 (mxT x8 (mxT x9 (mxT x10 x11)))
          (try refine Nx.mk ?_); rw [seq_]
          (try simp only [skip_, seqset_, seqdrop_, seqasg_, ret_, retN_, if_, drop_, set_, asg_, for_, raise0_, raise1_, var_, c_, c2_, test_, and_, or_, not_, andV_, orV_, notV_, nil_, cons_, tup0_, tup1_, tup2_, tup3_, tup4_, tup5_, lst0_, lst1_, lst2_, lst3_, lst4_, lst5_, lst6_, lst7_, lst8_, lst9_, lst10_, lstv1_, lstv2_, lstv3_, lstv4_, lstv5_, b_, m_, call1_, call2_, call3_, call4_, call5_, neg_, slice_, none_, some_, rev_, comp_, gtup_, gn_nil, gn_cons, wipe_n, wipe_c, iseq_, sq_t, sq_r, r1_, r2_, add_i, add_s, add_t, sub_i, mul_i, int_o, cmp_o, isn_, ix_t, ix_r, ix_s, len_t2, len_t3, len_t4, len_t5, len_r, int1_i, two_, tuple_t, tuple_r, list_t, list_r, str_i, sl_t, sl_r, rev_t, rev_r, lo_l, lo_r, isi_t_t, isi_i_t, isi_s_s, isi_i_i, isi_i_b, isi_b_b, at0, at1, at2, at3, eq_i, eq_s, ol_s, vr_s, tb_b, ti_i, Br_t, Br_f, List.getElem?_cons_zero, List.getElem?_cons_succ, List.set_cons_zero, List.set_cons_succ, true_and, eq_self, Bool.not_true, Bool.not_false, Bool.false_eq_true, if_true, if_false, Nat.reduceLeDiff, ite_true, ite_false]); (repeat (refine Nx.mk ?_; try simp only [skip_, seqset_, seqdrop_, seqasg_, ret_, retN_, if_, drop_, set_, asg_, for_, raise0_, raise1_, var_, c_, c2_, test_, and_, or_, not_, andV_, orV_, notV_, nil_, cons_, tup0_, tup1_, tup2_, tup3_, tup4_, tup5_, lst0_, lst1_, lst2_, lst3_, lst4_, lst5_, lst6_, lst7_, lst8_, lst9_, lst10_, lstv1_, lstv2_, lstv3_, lstv4_, lstv5_, b_, m_, call1_, call2_, call3_, call4_, call5_, neg_, slice_, none_, some_, rev_, comp_, gtup_, gn_nil, gn_cons, wipe_n, wipe_c, iseq_, sq_t, sq_r, r1_, r2_, add_i, add_s, add_t, sub_i, mul_i, int_o, cmp_o, isn_, ix_t, ix_r, ix_s, len_t2, len_t3, len_t4, len_t5, len_r, int1_i, two_, tuple_t, tuple_r, list_t, list_r, str_i, sl_t, sl_r, rev_t, rev_r, lo_l, lo_r, isi_t_t, isi_i_t, isi_s_s, isi_i_i, isi_i_b, isi_b_b, at0, at1, at2, at3, eq_i, eq_s, ol_s, vr_s, tb_b, ti_i, Br_t, Br_f, List.getElem?_cons_zero, List.getElem?_cons_succ, List.set_cons_zero, List.set_cons_succ, true_and, eq_self, Bool.not_true, Bool.not_false, Bool.false_eq_true, if_true, if_false, Nat.reduceLeDiff, ite_true, ite_false]))
          refine newL_i fun pa M12 hpa x12 e12 => ?_
          have e6' := x12 _ _ (X11 _ _ e6)
          rw [add_l e6' e12, show xs.map D.int ++ [D.int 0] = (xs ++ [0]).map D.int by simp]
          refine ⟨size_le (by simp; omega), newL_i fun pb M13 hpb x13 e13 => ?_⟩
          (try simp only [skip_, seqset_, seqdrop_, seqasg_, ret_, retN_, if_, drop_, set_, asg_, for_, raise0_, raise1_, var_, c_, c2_, test_, and_, or_, not_, andV_, orV_, notV_, nil_, cons_, tup0_, tup1_, tup2_, tup3_, tup4_, tup5_, lst0_, lst1_, lst2_, lst3_, lst4_, lst5_, lst6_, lst7_, lst8_, lst9_, lst10_, lstv1_, lstv2_, lstv3_, lstv4_, lstv5_, b_, m_, call1_, call2_, call3_, call4_, call5_, neg_, slice_, none_, some_, rev_, comp_, gtup_, gn_nil, gn_cons, wipe_n, wipe_c, iseq_, sq_t, sq_r, r1_, r2_, add_i, add_s, add_t, sub_i, mul_i, int_o, cmp_o, isn_, ix_t, ix_r, ix_s, len_t2, len_t3, len_t4, len_t5, len_r, int1_i, two_, tuple_t, tuple_r, list_t, list_r, str_i, sl_t, sl_r, rev_t, rev_r, lo_l, lo_r, isi_t_t, isi_i_t, isi_s_s, isi_i_i, isi_i_b, isi_b_b, at0, at1, at2, at3, eq_i, eq_s, ol_s, vr_s, tb_b, ti_i, Br_t, Br_f, List.getElem?_cons_zero, List.getElem?_cons_succ, List.set_cons_zero, List.set_cons_succ, true_and, eq_self, Bool.not_true, Bool.not_false, Bool.false_eq_true, if_true, if_false, Nat.reduceLeDiff, ite_true, ite_false, lst_ol e13]); (repeat (refine Nx.mk ?_; try simp only [skip_, seqset_, seqdrop_, seqasg_, ret_, retN_, if_, drop_, set_, asg_, for_, raise0_, raise1_, var_, c_, c2_, test_, and_, or_, not_, andV_, orV_, notV_, nil_, cons_, tup0_, tup1_, tup2_, tup3_, tup4_, tup5_, lst0_, lst1_, lst2_, lst3_, lst4_, lst5_, lst6_, lst7_, lst8_, lst9_, lst10_, lstv1_, lstv2_, lstv3_, lstv4_, lstv5_, b_, m_, call1_, call2_, call3_, call4_, call5_, neg_, slice_, none_, some_, rev_, comp_, gtup_, gn_nil, gn_cons, wipe_n, wipe_c, iseq_, sq_t, sq_r, r1_, r2_, add_i, add_s, add_t, sub_i, mul_i, int_o, cmp_o, isn_, ix_t, ix_r, ix_s, len_t2, len_t3, len_t4, len_t5, len_r, int1_i, two_, tuple_t, tuple_r, list_t, list_r, str_i, sl_t, sl_r, rev_t, rev_r, lo_l, lo_r, isi_t_t, isi_i_t, isi_s_s, isi_i_i, isi_i_b, isi_b_b, at0, at1, at2, at3, eq_i, eq_s, ol_s, vr_s, tb_b, ti_i, Br_t, Br_f, List.getElem?_cons_zero, List.getElem?_cons_succ, List.set_cons_zero, List.set_cons_succ, true_and, eq_self, Bool.not_true, Bool.not_false, Bool.false_eq_true, if_true, if_false, Nat.reduceLeDiff, ite_true, ite_false, lst_ol e13]))
          refine llate_bad X (by simp; omega) ?_
          (try simp only [skip_, seqset_, seqdrop_, seqasg_, ret_, retN_, if_, drop_, set_, asg_, for_, raise0_, raise1_, var_, c_, c2_, test_, and_, or_, not_, andV_, orV_, notV_, nil_, cons_, tup0_, tup1_, tup2_, tup3_, tup4_, tup5_, lst0_, lst1_, lst2_, lst3_, lst4_, lst5_, lst6_, lst7_, lst8_, lst9_, lst10_, lstv1_, lstv2_, lstv3_, lstv4_, lstv5_, b_, m_, call1_, call2_, call3_, call4_, call5_, neg_, slice_, none_, some_, rev_, comp_, gtup_, gn_nil, gn_cons, wipe_n, wipe_c, iseq_, sq_t, sq_r, r1_, r2_, add_i, add_s, add_t, sub_i, mul_i, int_o, cmp_o, isn_, ix_t, ix_r, ix_s, len_t2, len_t3, len_t4, len_t5, len_r, int1_i, two_, tuple_t, tuple_r, list_t, list_r, str_i, sl_t, sl_r, rev_t, rev_r, lo_l, lo_r, isi_t_t, isi_i_t, isi_s_s, isi_i_i, isi_i_b, isi_b_b, at0, at1, at2, at3, eq_i, eq_s, ol_s, vr_s, tb_b, ti_i, Br_t, Br_f, List.getElem?_cons_zero, List.getElem?_cons_succ, List.set_cons_zero, List.set_cons_succ, true_and, eq_self, Bool.not_true, Bool.not_false, Bool.false_eq_true, if_true, if_false, Nat.reduceLeDiff, ite_true, ite_false]); (repeat (refine Nx.mk ?_; try simp only [skip_, seqset_, seqdrop_, seqasg_, ret_, retN_, if_, drop_, set_, asg_, for_, raise0_, raise1_, var_, c_, c2_, test_, and_, or_, not_, andV_, orV_, notV_, nil_, cons_, tup0_, tup1_, tup2_, tup3_, tup4_, tup5_, lst0_, lst1_, lst2_, lst3_, lst4_, lst5_, lst6_, lst7_, lst8_, lst9_, lst10_, lstv1_, lstv2_, lstv3_, lstv4_, lstv5_, b_, m_, call1_, call2_, call3_, call4_, call5_, neg_, slice_, none_, some_, rev_, comp_, gtup_, gn_nil, gn_cons, wipe_n, wipe_c, iseq_, sq_t, sq_r, r1_, r2_, add_i, add_s, add_t, sub_i, mul_i, int_o, cmp_o, isn_, ix_t, ix_r, ix_s, len_t2, len_t3, len_t4, len_t5, len_r, int1_i, two_, tuple_t, tuple_r, list_t, list_r, str_i, sl_t, sl_r, rev_t, rev_r, lo_l, lo_r, isi_t_t, isi_i_t, isi_s_s, isi_i_i, isi_i_b, isi_b_b, at0, at1, at2, at3, eq_i, eq_s, ol_s, vr_s, tb_b, ti_i, Br_t, Br_f, List.getElem?_cons_zero, List.getElem?_cons_succ, List.set_cons_zero, List.set_cons_succ, true_and, eq_self, Bool.not_true, Bool.not_false, Bool.false_eq_true, if_true, if_false, Nat.reduceLeDiff, ite_true, ite_false]))
          refine eq_self 4 rfl (by rfl) (by decide) ?_
          (try simp only [skip_, seqset_, seqdrop_, seqasg_, ret_, retN_, if_, drop_, set_, asg_, for_, raise0_, raise1_, var_, c_, c2_, test_, and_, or_, not_, andV_, orV_, notV_, nil_, cons_, tup0_, tup1_, tup2_, tup3_, tup4_, tup5_, lst0_, lst1_, lst2_, lst3_, lst4_, lst5_, lst6_, lst7_, lst8_, lst9_, lst10_, lstv1_, lstv2_, lstv3_, lstv4_, lstv5_, b_, m_, call1_, call2_, call3_, call4_, call5_, neg_, slice_, none_, some_, rev_, comp_, gtup_, gn_nil, gn_cons, wipe_n, wipe_c, iseq_, sq_t, sq_r, r1_, r2_, add_i, add_s, add_t, sub_i, mul_i, int_o, cmp_o, isn_, ix_t, ix_r, ix_s, len_t2, len_t3, len_t4, len_t5, len_r, int1_i, two_, tuple_t, tuple_r, list_t, list_r, str_i, sl_t, sl_r, rev_t, rev_r, lo_l, lo_r, isi_t_t, isi_i_t, isi_s_s, isi_i_i, isi_i_b, isi_b_b, at0, at1, at2, at3, eq_i, eq_s, ol_s, vr_s, tb_b, ti_i, Br_t, Br_f, List.getElem?_cons_zero, List.getElem?_cons_succ, List.set_cons_zero, List.set_cons_succ, true_and, eq_self, Bool.not_true, Bool.not_false, Bool.false_eq_true, if_true, if_false, Nat.reduceLeDiff, ite_true, ite_false]); (repeat (refine Nx.mk ?_; try simp only [skip_, seqset_, seqdrop_, seqasg_, ret_, retN_, if_, drop_, set_, asg_, for_, raise0_, raise1_, var_, c_, c2_, test_, and_, or_, not_, andV_, orV_, notV_, nil_, cons_, tup0_, tup1_, tup2_, tup3_, tup4_, tup5_, lst0_, lst1_, lst2_, lst3_, lst4_, lst5_, lst6_, lst7_, lst8_, lst9_, lst10_, lstv1_, lstv2_, lstv3_, lstv4_, lstv5_, b_, m_, call1_, call2_, call3_, call4_, call5_, neg_, slice_, none_, some_, rev_, comp_, gtup_, gn_nil, gn_cons, wipe_n, wipe_c, iseq_, sq_t, sq_r, r1_, r2_, add_i, add_s, add_t, sub_i, mul_i, int_o, cmp_o, isn_, ix_t, ix_r, ix_s, len_t2, len_t3, len_t4, len_t5, len_r, int1_i, two_, tuple_t, tuple_r, list_t, list_r, str_i, sl_t, sl_r, rev_t, rev_r, lo_l, lo_r, isi_t_t, isi_i_t, isi_s_s, isi_i_i, isi_i_b, isi_b_b, at0, at1, at2, at3, eq_i, eq_s, ol_s, vr_s, tb_b, ti_i, Br_t, Br_f, List.getElem?_cons_zero, List.getElem?_cons_succ, List.set_cons_zero, List.set_cons_succ, true_and, eq_self, Bool.not_true, Bool.not_false, Bool.false_eq_true, if_true, if_false, Nat.reduceLeDiff, ite_true, ite_false]))
          have X13 : MX M6 M13 := mxT X11 (mxT x12 x13)
          have X63 : MX M3 M6 := mxT x4 (mxT x5 x6)
          (try refine Nx.mk ?_); refine seq_m (fun ρ' M' => ∃ (o8 o9 o10 o11 o12 o13 o14 : Option D), ρ' = [some (.ref a), some (.tup [.tup sts, .tup (ls.map Lt.d), .tup [], .tup []]), some (.ref pd), some (.int 8), some (.tup (rs.map Rn.d)), some (.tup (.tup sts :: .tup (ls.map Lt.d) :: cr)), some (.ref p), some (.tup ((lates rs xs).map Rn.d)), o8, o9, o10, o11, o12, o13, o14, none] ∧ MX M6 M') (fun Kn hK => ?_) ?_
          · (try simp only [skip_, seqset_, seqdrop_, seqasg_, ret_, retN_, if_, drop_, set_, asg_, for_, raise0_, raise1_, var_, c_, c2_, test_, and_, or_, not_, andV_, orV_, notV_, nil_, cons_, tup0_, tup1_, tup2_, tup3_, tup4_, tup5_, lst0_, lst1_, lst2_, lst3_, lst4_, lst5_, lst6_, lst7_, lst8_, lst9_, lst10_, lstv1_, lstv2_, lstv3_, lstv4_, lstv5_, b_, m_, call1_, call2_, call3_, call4_, call5_, neg_, slice_, none_, some_, rev_, comp_, gtup_, gn_nil, gn_cons, wipe_n, wipe_c, iseq_, sq_t, sq_r, r1_, r2_, add_i, add_s, add_t, sub_i, mul_i, int_o, cmp_o, isn_, ix_t, ix_r, ix_s, len_t2, len_t3, len_t4, len_t5, len_r, int1_i, two_, tuple_t, tuple_r, list_t, list_r, str_i, sl_t, sl_r, rev_t, rev_r, lo_l, lo_r, isi_t_t, isi_i_t, isi_s_s, isi_i_i, isi_i_b, isi_b_b, at0, at1, at2, at3, eq_i, eq_s, ol_s, vr_s, tb_b, ti_i, Br_t, Br_f, List.getElem?_cons_zero, List.getElem?_cons_succ, List.set_cons_zero, List.set_cons_succ, true_and, eq_self, Bool.not_true, Bool.not_false, Bool.false_eq_true, if_true, if_false, Nat.reduceLeDiff, ite_true, ite_false, len_t]); (repeat (refine Nx.mk ?_; try simp only [skip_, seqset_, seqdrop_, seqasg_, ret_, retN_, if_, drop_, set_, asg_, for_, raise0_, raise1_, var_, c_, c2_, test_, and_, or_, not_, andV_, orV_, notV_, nil_, cons_, tup0_, tup1_, tup2_, tup3_, tup4_, tup5_, lst0_, lst1_, lst2_, lst3_, lst4_, lst5_, lst6_, lst7_, lst8_, lst9_, lst10_, lstv1_, lstv2_, lstv3_, lstv4_, lstv5_, b_, m_, call1_, call2_, call3_, call4_, call5_, neg_, slice_, none_, some_, rev_, comp_, gtup_, gn_nil, gn_cons, wipe_n, wipe_c, iseq_, sq_t, sq_r, r1_, r2_, add_i, add_s, add_t, sub_i, mul_i, int_o, cmp_o, isn_, ix_t, ix_r, ix_s, len_t2, len_t3, len_t4, len_t5, len_r, int1_i, two_, tuple_t, tuple_r, list_t, list_r, str_i, sl_t, sl_r, rev_t, rev_r, lo_l, lo_r, isi_t_t, isi_i_t, isi_s_s, isi_i_i, isi_i_b, isi_b_b, at0, at1, at2, at3, eq_i, eq_s, ol_s, vr_s, tb_b, ti_i, Br_t, Br_f, List.getElem?_cons_zero, List.getElem?_cons_succ, List.set_cons_zero, List.set_cons_succ, true_and, eq_self, Bool.not_true, Bool.not_false, Bool.false_eq_true, if_true, if_false, Nat.reduceLeDiff, ite_true, ite_false, len_t]))
            rw [List.length_map]
            refine Br_i (fun h => ?_) (fun h => hK _ _ ⟨_, _, _, _, _, _, _, rfl, X13⟩)
            have hpos : (0 : Int) < (rs.length : Int) := of_decide_eq_true h
            (try simp only [skip_, seqset_, seqdrop_, seqasg_, ret_, retN_, if_, drop_, set_, asg_, for_, raise0_, raise1_, var_, c_, c2_, test_, and_, or_, not_, andV_, orV_, notV_, nil_, cons_, tup0_, tup1_, tup2_, tup3_, tup4_, tup5_, lst0_, lst1_, lst2_, lst3_, lst4_, lst5_, lst6_, lst7_, lst8_, lst9_, lst10_, lstv1_, lstv2_, lstv3_, lstv4_, lstv5_, b_, m_, call1_, call2_, call3_, call4_, call5_, neg_, slice_, none_, some_, rev_, comp_, gtup_, gn_nil, gn_cons, wipe_n, wipe_c, iseq_, sq_t, sq_r, r1_, r2_, add_i, add_s, add_t, sub_i, mul_i, int_o, cmp_o, isn_, ix_t, ix_r, ix_s, len_t2, len_t3, len_t4, len_t5, len_r, int1_i, two_, tuple_t, tuple_r, list_t, list_r, str_i, sl_t, sl_r, rev_t, rev_r, lo_l, lo_r, isi_t_t, isi_i_t, isi_s_s, isi_i_i, isi_i_b, isi_b_b, at0, at1, at2, at3, eq_i, eq_s, ol_s, vr_s, tb_b, ti_i, Br_t, Br_f, List.getElem?_cons_zero, List.getElem?_cons_succ, List.set_cons_zero, List.set_cons_succ, true_and, eq_self, Bool.not_true, Bool.not_false, Bool.false_eq_true, if_true, if_false, Nat.reduceLeDiff, ite_true, ite_false, len_t, mx_ol (mxT X63 X13) (lst_ol e3), d1]); (repeat (refine Nx.mk ?_; try simp only [skip_, seqset_, seqdrop_, seqasg_, ret_, retN_, if_, drop_, set_, asg_, for_, raise0_, raise1_, var_, c_, c2_, test_, and_, or_, not_, andV_, orV_, notV_, nil_, cons_, tup0_, tup1_, tup2_, tup3_, tup4_, tup5_, lst0_, lst1_, lst2_, lst3_, lst4_, lst5_, lst6_, lst7_, lst8_, lst9_, lst10_, lstv1_, lstv2_, lstv3_, lstv4_, lstv5_, b_, m_, call1_, call2_, call3_, call4_, call5_, neg_, slice_, none_, some_, rev_, comp_, gtup_, gn_nil, gn_cons, wipe_n, wipe_c, iseq_, sq_t, sq_r, r1_, r2_, add_i, add_s, add_t, sub_i, mul_i, int_o, cmp_o, isn_, ix_t, ix_r, ix_s, len_t2, len_t3, len_t4, len_t5, len_r, int1_i, two_, tuple_t, tuple_r, list_t, list_r, str_i, sl_t, sl_r, rev_t, rev_r, lo_l, lo_r, isi_t_t, isi_i_t, isi_s_s, isi_i_i, isi_i_b, isi_b_b, at0, at1, at2, at3, eq_i, eq_s, ol_s, vr_s, tb_b, ti_i, Br_t, Br_f, List.getElem?_cons_zero, List.getElem?_cons_succ, List.set_cons_zero, List.set_cons_succ, true_and, eq_self, Bool.not_true, Bool.not_false, Bool.false_eq_true, if_true, if_false, Nat.reduceLeDiff, ite_true, ite_false, len_t, mx_ol (mxT X63 X13) (lst_ol e3), d1]))
            rw [List.length_map]
            have q1 := Int.fmod_nonneg_of_pos (r 1) hpos
            have q2 := Int.fmod_lt_of_pos (r 1) hpos
            refine ⟨by omega, ?_⟩
            obtain ⟨i, hi⟩ : ∃ i : Nat, (r 1).fmod (rs.length : Int) = i := ⟨_, (Int.toNat_of_nonneg q1).symm⟩
            rw [hi] at q2 ⊢
            have hi2 : rs[i]? = some (rs[i]'(by omega)) := List.getElem?_eq_getElem (by omega)
            generalize rs[i]'(by omega) = r0 at hi2
            have O := hO r0 (List.mem_of_getElem? hi2)
            have hpl := U.pos r0.l (List.mem_of_getElem? O.at_)
            (try simp only [skip_, seqset_, seqdrop_, seqasg_, ret_, retN_, if_, drop_, set_, asg_, for_, raise0_, raise1_, var_, c_, c2_, test_, and_, or_, not_, andV_, orV_, notV_, nil_, cons_, tup0_, tup1_, tup2_, tup3_, tup4_, tup5_, lst0_, lst1_, lst2_, lst3_, lst4_, lst5_, lst6_, lst7_, lst8_, lst9_, lst10_, lstv1_, lstv2_, lstv3_, lstv4_, lstv5_, b_, m_, call1_, call2_, call3_, call4_, call5_, neg_, slice_, none_, some_, rev_, comp_, gtup_, gn_nil, gn_cons, wipe_n, wipe_c, iseq_, sq_t, sq_r, r1_, r2_, add_i, add_s, add_t, sub_i, mul_i, int_o, cmp_o, isn_, ix_t, ix_r, ix_s, len_t2, len_t3, len_t4, len_t5, len_r, int1_i, two_, tuple_t, tuple_r, list_t, list_r, str_i, sl_t, sl_r, rev_t, rev_r, lo_l, lo_r, isi_t_t, isi_i_t, isi_s_s, isi_i_i, isi_i_b, isi_b_b, at0, at1, at2, at3, eq_i, eq_s, ol_s, vr_s, tb_b, ti_i, Br_t, Br_f, List.getElem?_cons_zero, List.getElem?_cons_succ, List.set_cons_zero, List.set_cons_succ, true_and, eq_self, Bool.not_true, Bool.not_false, Bool.false_eq_true, if_true, if_false, Nat.reduceLeDiff, ite_true, ite_false, mx_ol X13 (lst_ol e6)]); (repeat (refine Nx.mk ?_; try simp only [skip_, seqset_, seqdrop_, seqasg_, ret_, retN_, if_, drop_, set_, asg_, for_, raise0_, raise1_, var_, c_, c2_, test_, and_, or_, not_, andV_, orV_, notV_, nil_, cons_, tup0_, tup1_, tup2_, tup3_, tup4_, tup5_, lst0_, lst1_, lst2_, lst3_, lst4_, lst5_, lst6_, lst7_, lst8_, lst9_, lst10_, lstv1_, lstv2_, lstv3_, lstv4_, lstv5_, b_, m_, call1_, call2_, call3_, call4_, call5_, neg_, slice_, none_, some_, rev_, comp_, gtup_, gn_nil, gn_cons, wipe_n, wipe_c, iseq_, sq_t, sq_r, r1_, r2_, add_i, add_s, add_t, sub_i, mul_i, int_o, cmp_o, isn_, ix_t, ix_r, ix_s, len_t2, len_t3, len_t4, len_t5, len_r, int1_i, two_, tuple_t, tuple_r, list_t, list_r, str_i, sl_t, sl_r, rev_t, rev_r, lo_l, lo_r, isi_t_t, isi_i_t, isi_s_s, isi_i_i, isi_i_b, isi_b_b, at0, at1, at2, at3, eq_i, eq_s, ol_s, vr_s, tb_b, ti_i, Br_t, Br_f, List.getElem?_cons_zero, List.getElem?_cons_succ, List.set_cons_zero, List.set_cons_succ, true_and, eq_self, Bool.not_true, Bool.not_false, Bool.false_eq_true, if_true, if_false, Nat.reduceLeDiff, ite_true, ite_false, mx_ol X13 (lst_ol e6)]))
            refine newL_i fun pe M14 hpe x14 e14 => ?_
            (try simp only [skip_, seqset_, seqdrop_, seqasg_, ret_, retN_, if_, drop_, set_, asg_, for_, raise0_, raise1_, var_, c_, c2_, test_, and_, or_, not_, andV_, orV_, notV_, nil_, cons_, tup0_, tup1_, tup2_, tup3_, tup4_, tup5_, lst0_, lst1_, lst2_, lst3_, lst4_, lst5_, lst6_, lst7_, lst8_, lst9_, lst10_, lstv1_, lstv2_, lstv3_, lstv4_, lstv5_, b_, m_, call1_, call2_, call3_, call4_, call5_, neg_, slice_, none_, some_, rev_, comp_, gtup_, gn_nil, gn_cons, wipe_n, wipe_c, iseq_, sq_t, sq_r, r1_, r2_, add_i, add_s, add_t, sub_i, mul_i, int_o, cmp_o, isn_, ix_t, ix_r, ix_s, len_t2, len_t3, len_t4, len_t5, len_r, int1_i, two_, tuple_t, tuple_r, list_t, list_r, str_i, sl_t, sl_r, rev_t, rev_r, lo_l, lo_r, isi_t_t, isi_i_t, isi_s_s, isi_i_i, isi_i_b, isi_b_b, at0, at1, at2, at3, eq_i, eq_s, ol_s, vr_s, tb_b, ti_i, Br_t, Br_f, List.getElem?_cons_zero, List.getElem?_cons_succ, List.set_cons_zero, List.set_cons_succ, true_and, eq_self, Bool.not_true, Bool.not_false, Bool.false_eq_true, if_true, if_false, Nat.reduceLeDiff, ite_true, ite_false, atI_of (xs := rs.map Rn.d) (i := (i : Int)) (n := i) (x := r0.d) rfl (by rw [List.getElem?_map, hi2]; rfl)]); (repeat (refine Nx.mk ?_; try simp only [skip_, seqset_, seqdrop_, seqasg_, ret_, retN_, if_, drop_, set_, asg_, for_, raise0_, raise1_, var_, c_, c2_, test_, and_, or_, not_, andV_, orV_, notV_, nil_, cons_, tup0_, tup1_, tup2_, tup3_, tup4_, tup5_, lst0_, lst1_, lst2_, lst3_, lst4_, lst5_, lst6_, lst7_, lst8_, lst9_, lst10_, lstv1_, lstv2_, lstv3_, lstv4_, lstv5_, b_, m_, call1_, call2_, call3_, call4_, call5_, neg_, slice_, none_, some_, rev_, comp_, gtup_, gn_nil, gn_cons, wipe_n, wipe_c, iseq_, sq_t, sq_r, r1_, r2_, add_i, add_s, add_t, sub_i, mul_i, int_o, cmp_o, isn_, ix_t, ix_r, ix_s, len_t2, len_t3, len_t4, len_t5, len_r, int1_i, two_, tuple_t, tuple_r, list_t, list_r, str_i, sl_t, sl_r, rev_t, rev_r, lo_l, lo_r, isi_t_t, isi_i_t, isi_s_s, isi_i_i, isi_i_b, isi_b_b, at0, at1, at2, at3, eq_i, eq_s, ol_s, vr_s, tb_b, ti_i, Br_t, Br_f, List.getElem?_cons_zero, List.getElem?_cons_succ, List.set_cons_zero, List.set_cons_succ, true_and, eq_self, Bool.not_true, Bool.not_false, Bool.false_eq_true, if_true, if_false, Nat.reduceLeDiff, ite_true, ite_false, atI_of (xs := rs.map Rn.d) (i := (i : Int)) (n := i) (x := r0.d) rfl (by rw [List.getElem?_map, hi2]; rfl)]))
            refine lvisits_sp U O fun M15 x15 => ?_
            (try simp only [skip_, seqset_, seqdrop_, seqasg_, ret_, retN_, if_, drop_, set_, asg_, for_, raise0_, raise1_, var_, c_, c2_, test_, and_, or_, not_, andV_, orV_, notV_, nil_, cons_, tup0_, tup1_, tup2_, tup3_, tup4_, tup5_, lst0_, lst1_, lst2_, lst3_, lst4_, lst5_, lst6_, lst7_, lst8_, lst9_, lst10_, lstv1_, lstv2_, lstv3_, lstv4_, lstv5_, b_, m_, call1_, call2_, call3_, call4_, call5_, neg_, slice_, none_, some_, rev_, comp_, gtup_, gn_nil, gn_cons, wipe_n, wipe_c, iseq_, sq_t, sq_r, r1_, r2_, add_i, add_s, add_t, sub_i, mul_i, int_o, cmp_o, isn_, ix_t, ix_r, ix_s, len_t2, len_t3, len_t4, len_t5, len_r, int1_i, two_, tuple_t, tuple_r, list_t, list_r, str_i, sl_t, sl_r, rev_t, rev_r, lo_l, lo_r, isi_t_t, isi_i_t, isi_s_s, isi_i_i, isi_i_b, isi_b_b, at0, at1, at2, at3, eq_i, eq_s, ol_s, vr_s, tb_b, ti_i, Br_t, Br_f, List.getElem?_cons_zero, List.getElem?_cons_succ, List.set_cons_zero, List.set_cons_succ, true_and, eq_self, Bool.not_true, Bool.not_false, Bool.false_eq_true, if_true, if_false, Nat.reduceLeDiff, ite_true, ite_false, vis_last hpl.1]); (repeat (refine Nx.mk ?_; try simp only [skip_, seqset_, seqdrop_, seqasg_, ret_, retN_, if_, drop_, set_, asg_, for_, raise0_, raise1_, var_, c_, c2_, test_, and_, or_, not_, andV_, orV_, notV_, nil_, cons_, tup0_, tup1_, tup2_, tup3_, tup4_, tup5_, lst0_, lst1_, lst2_, lst3_, lst4_, lst5_, lst6_, lst7_, lst8_, lst9_, lst10_, lstv1_, lstv2_, lstv3_, lstv4_, lstv5_, b_, m_, call1_, call2_, call3_, call4_, call5_, neg_, slice_, none_, some_, rev_, comp_, gtup_, gn_nil, gn_cons, wipe_n, wipe_c, iseq_, sq_t, sq_r, r1_, r2_, add_i, add_s, add_t, sub_i, mul_i, int_o, cmp_o, isn_, ix_t, ix_r, ix_s, len_t2, len_t3, len_t4, len_t5, len_r, int1_i, two_, tuple_t, tuple_r, list_t, list_r, str_i, sl_t, sl_r, rev_t, rev_r, lo_l, lo_r, isi_t_t, isi_i_t, isi_s_s, isi_i_i, isi_i_b, isi_b_b, at0, at1, at2, at3, eq_i, eq_s, ol_s, vr_s, tb_b, ti_i, Br_t, Br_f, List.getElem?_cons_zero, List.getElem?_cons_succ, List.set_cons_zero, List.set_cons_succ, true_and, eq_self, Bool.not_true, Bool.not_false, Bool.false_eq_true, if_true, if_false, Nat.reduceLeDiff, ite_true, ite_false, vis_last hpl.1]))
            have e15 := x15 _ _ e14
            refine setix_ rfl rfl e15 (by omega) (by simp; omega) ?_
            rw [Int.toNat_natCast, show (xs.map D.int).set i (.int (10000 - r0.en)) = (xs.set i (10000 - r0.en)).map D.int by rw [List.map_set]]
            generalize hM16 : put M15 pe _ = M16
            have e16 : M16 pe = some (.lst ((xs.set i (10000 - r0.en)).map D.int)) := by rw [← hM16]; exact put_same
            have X16 : MX M6 M16 := by rw [← hM16]; exact mx_put (mxT X13 (mxT x14 x15)) (mx_none X13 hpe)
            have hlx2 : (xs.set i (10000 - r0.en)).length = rs.length := by simp [hlx]
            (try refine Nx.mk ?_); rw [seq_]
            (try simp only [skip_, seqset_, seqdrop_, seqasg_, ret_, retN_, if_, drop_, set_, asg_, for_, raise0_, raise1_, var_, c_, c2_, test_, and_, or_, not_, andV_, orV_, notV_, nil_, cons_, tup0_, tup1_, tup2_, tup3_, tup4_, tup5_, lst0_, lst1_, lst2_, lst3_, lst4_, lst5_, lst6_, lst7_, lst8_, lst9_, lst10_, lstv1_, lstv2_, lstv3_, lstv4_, lstv5_, b_, m_, call1_, call2_, call3_, call4_, call5_, neg_, slice_, none_, some_, rev_, comp_, gtup_, gn_nil, gn_cons, wipe_n, wipe_c, iseq_, sq_t, sq_r, r1_, r2_, add_i, add_s, add_t, sub_i, mul_i, int_o, cmp_o, isn_, ix_t, ix_r, ix_s, len_t2, len_t3, len_t4, len_t5, len_r, int1_i, two_, tuple_t, tuple_r, list_t, list_r, str_i, sl_t, sl_r, rev_t, rev_r, lo_l, lo_r, isi_t_t, isi_i_t, isi_s_s, isi_i_i, isi_i_b, isi_b_b, at0, at1, at2, at3, eq_i, eq_s, ol_s, vr_s, tb_b, ti_i, Br_t, Br_f, List.getElem?_cons_zero, List.getElem?_cons_succ, List.set_cons_zero, List.set_cons_succ, true_and, eq_self, Bool.not_true, Bool.not_false, Bool.false_eq_true, if_true, if_false, Nat.reduceLeDiff, ite_true, ite_false, lst_ol e16]); (repeat (refine Nx.mk ?_; try simp only [skip_, seqset_, seqdrop_, seqasg_, ret_, retN_, if_, drop_, set_, asg_, for_, raise0_, raise1_, var_, c_, c2_, test_, and_, or_, not_, andV_, orV_, notV_, nil_, cons_, tup0_, tup1_, tup2_, tup3_, tup4_, tup5_, lst0_, lst1_, lst2_, lst3_, lst4_, lst5_, lst6_, lst7_, lst8_, lst9_, lst10_, lstv1_, lstv2_, lstv3_, lstv4_, lstv5_, b_, m_, call1_, call2_, call3_, call4_, call5_, neg_, slice_, none_, some_, rev_, comp_, gtup_, gn_nil, gn_cons, wipe_n, wipe_c, iseq_, sq_t, sq_r, r1_, r2_, add_i, add_s, add_t, sub_i, mul_i, int_o, cmp_o, isn_, ix_t, ix_r, ix_s, len_t2, len_t3, len_t4, len_t5, len_r, int1_i, two_, tuple_t, tuple_r, list_t, list_r, str_i, sl_t, sl_r, rev_t, rev_r, lo_l, lo_r, isi_t_t, isi_i_t, isi_s_s, isi_i_i, isi_i_b, isi_b_b, at0, at1, at2, at3, eq_i, eq_s, ol_s, vr_s, tb_b, ti_i, Br_t, Br_f, List.getElem?_cons_zero, List.getElem?_cons_succ, List.set_cons_zero, List.set_cons_succ, true_and, eq_self, Bool.not_true, Bool.not_false, Bool.false_eq_true, if_true, if_false, Nat.reduceLeDiff, ite_true, ite_false, lst_ol e16]))
            refine llate_sp X U hO hlx2 (by omega) (fun h2 _ _ => ?_) (fun _ M17 x17 => ?_)
            · exfalso
              have := h2 i _ (lates_at hi2 (show (xs.set i (10000 - r0.en))[i]? = some (10000 - r0.en) by rw [List.getElem?_set_self (by omega)]))
              rw [add_en] at this
              omega
            · (try simp only [skip_, seqset_, seqdrop_, seqasg_, ret_, retN_, if_, drop_, set_, asg_, for_, raise0_, raise1_, var_, c_, c2_, test_, and_, or_, not_, andV_, orV_, notV_, nil_, cons_, tup0_, tup1_, tup2_, tup3_, tup4_, tup5_, lst0_, lst1_, lst2_, lst3_, lst4_, lst5_, lst6_, lst7_, lst8_, lst9_, lst10_, lstv1_, lstv2_, lstv3_, lstv4_, lstv5_, b_, m_, call1_, call2_, call3_, call4_, call5_, neg_, slice_, none_, some_, rev_, comp_, gtup_, gn_nil, gn_cons, wipe_n, wipe_c, iseq_, sq_t, sq_r, r1_, r2_, add_i, add_s, add_t, sub_i, mul_i, int_o, cmp_o, isn_, ix_t, ix_r, ix_s, len_t2, len_t3, len_t4, len_t5, len_r, int1_i, two_, tuple_t, tuple_r, list_t, list_r, str_i, sl_t, sl_r, rev_t, rev_r, lo_l, lo_r, isi_t_t, isi_i_t, isi_s_s, isi_i_i, isi_i_b, isi_b_b, at0, at1, at2, at3, eq_i, eq_s, ol_s, vr_s, tb_b, ti_i, Br_t, Br_f, List.getElem?_cons_zero, List.getElem?_cons_succ, List.set_cons_zero, List.set_cons_succ, true_and, eq_self, Bool.not_true, Bool.not_false, Bool.false_eq_true, if_true, if_false, Nat.reduceLeDiff, ite_true, ite_false]); (repeat (refine Nx.mk ?_; try simp only [skip_, seqset_, seqdrop_, seqasg_, ret_, retN_, if_, drop_, set_, asg_, for_, raise0_, raise1_, var_, c_, c2_, test_, and_, or_, not_, andV_, orV_, notV_, nil_, cons_, tup0_, tup1_, tup2_, tup3_, tup4_, tup5_, lst0_, lst1_, lst2_, lst3_, lst4_, lst5_, lst6_, lst7_, lst8_, lst9_, lst10_, lstv1_, lstv2_, lstv3_, lstv4_, lstv5_, b_, m_, call1_, call2_, call3_, call4_, call5_, neg_, slice_, none_, some_, rev_, comp_, gtup_, gn_nil, gn_cons, wipe_n, wipe_c, iseq_, sq_t, sq_r, r1_, r2_, add_i, add_s, add_t, sub_i, mul_i, int_o, cmp_o, isn_, ix_t, ix_r, ix_s, len_t2, len_t3, len_t4, len_t5, len_r, int1_i, two_, tuple_t, tuple_r, list_t, list_r, str_i, sl_t, sl_r, rev_t, rev_r, lo_l, lo_r, isi_t_t, isi_i_t, isi_s_s, isi_i_i, isi_i_b, isi_b_b, at0, at1, at2, at3, eq_i, eq_s, ol_s, vr_s, tb_b, ti_i, Br_t, Br_f, List.getElem?_cons_zero, List.getElem?_cons_succ, List.set_cons_zero, List.set_cons_succ, true_and, eq_self, Bool.not_true, Bool.not_false, Bool.false_eq_true, if_true, if_false, Nat.reduceLeDiff, ite_true, ite_false]))
              refine eq_self 4 rfl (by rfl) (by decide) ?_
              have e17 := x17 _ _ e16
              (try simp only [skip_, seqset_, seqdrop_, seqasg_, ret_, retN_, if_, drop_, set_, asg_, for_, raise0_, raise1_, var_, c_, c2_, test_, and_, or_, not_, andV_, orV_, notV_, nil_, cons_, tup0_, tup1_, tup2_, tup3_, tup4_, tup5_, lst0_, lst1_, lst2_, lst3_, lst4_, lst5_, lst6_, lst7_, lst8_, lst9_, lst10_, lstv1_, lstv2_, lstv3_, lstv4_, lstv5_, b_, m_, call1_, call2_, call3_, call4_, call5_, neg_, slice_, none_, some_, rev_, comp_, gtup_, gn_nil, gn_cons, wipe_n, wipe_c, iseq_, sq_t, sq_r, r1_, r2_, add_i, add_s, add_t, sub_i, mul_i, int_o, cmp_o, isn_, ix_t, ix_r, ix_s, len_t2, len_t3, len_t4, len_t5, len_r, int1_i, two_, tuple_t, tuple_r, list_t, list_r, str_i, sl_t, sl_r, rev_t, rev_r, lo_l, lo_r, isi_t_t, isi_i_t, isi_s_s, isi_i_i, isi_i_b, isi_b_b, at0, at1, at2, at3, eq_i, eq_s, ol_s, vr_s, tb_b, ti_i, Br_t, Br_f, List.getElem?_cons_zero, List.getElem?_cons_succ, List.set_cons_zero, List.set_cons_succ, true_and, eq_self, Bool.not_true, Bool.not_false, Bool.false_eq_true, if_true, if_false, Nat.reduceLeDiff, ite_true, ite_false]); (repeat (refine Nx.mk ?_; try simp only [skip_, seqset_, seqdrop_, seqasg_, ret_, retN_, if_, drop_, set_, asg_, for_, raise0_, raise1_, var_, c_, c2_, test_, and_, or_, not_, andV_, orV_, notV_, nil_, cons_, tup0_, tup1_, tup2_, tup3_, tup4_, tup5_, lst0_, lst1_, lst2_, lst3_, lst4_, lst5_, lst6_, lst7_, lst8_, lst9_, lst10_, lstv1_, lstv2_, lstv3_, lstv4_, lstv5_, b_, m_, call1_, call2_, call3_, call4_, call5_, neg_, slice_, none_, some_, rev_, comp_, gtup_, gn_nil, gn_cons, wipe_n, wipe_c, iseq_, sq_t, sq_r, r1_, r2_, add_i, add_s, add_t, sub_i, mul_i, int_o, cmp_o, isn_, ix_t, ix_r, ix_s, len_t2, len_t3, len_t4, len_t5, len_r, int1_i, two_, tuple_t, tuple_r, list_t, list_r, str_i, sl_t, sl_r, rev_t, rev_r, lo_l, lo_r, isi_t_t, isi_i_t, isi_s_s, isi_i_i, isi_i_b, isi_b_b, at0, at1, at2, at3, eq_i, eq_s, ol_s, vr_s, tb_b, ti_i, Br_t, Br_f, List.getElem?_cons_zero, List.getElem?_cons_succ, List.set_cons_zero, List.set_cons_succ, true_and, eq_self, Bool.not_true, Bool.not_false, Bool.false_eq_true, if_true, if_false, Nat.reduceLeDiff, ite_true, ite_false]))
              refine newL_i fun pf M18 hpf x18 e18 => ?_
              rw [add_l (x18 _ _ e17) e18, show ((xs.set i (10000 - r0.en)).map D.int) ++ [D.int 0] = (xs.set i (10000 - r0.en) ++ [0]).map D.int by simp]
              refine ⟨size_le (by simp; omega), newL_i fun pg M19 hpg x19 e19 => ?_⟩
              (try simp only [skip_, seqset_, seqdrop_, seqasg_, ret_, retN_, if_, drop_, set_, asg_, for_, raise0_, raise1_, var_, c_, c2_, test_, and_, or_, not_, andV_, orV_, notV_, nil_, cons_, tup0_, tup1_, tup2_, tup3_, tup4_, tup5_, lst0_, lst1_, lst2_, lst3_, lst4_, lst5_, lst6_, lst7_, lst8_, lst9_, lst10_, lstv1_, lstv2_, lstv3_, lstv4_, lstv5_, b_, m_, call1_, call2_, call3_, call4_, call5_, neg_, slice_, none_, some_, rev_, comp_, gtup_, gn_nil, gn_cons, wipe_n, wipe_c, iseq_, sq_t, sq_r, r1_, r2_, add_i, add_s, add_t, sub_i, mul_i, int_o, cmp_o, isn_, ix_t, ix_r, ix_s, len_t2, len_t3, len_t4, len_t5, len_r, int1_i, two_, tuple_t, tuple_r, list_t, list_r, str_i, sl_t, sl_r, rev_t, rev_r, lo_l, lo_r, isi_t_t, isi_i_t, isi_s_s, isi_i_i, isi_i_b, isi_b_b, at0, at1, at2, at3, eq_i, eq_s, ol_s, vr_s, tb_b, ti_i, Br_t, Br_f, List.getElem?_cons_zero, List.getElem?_cons_succ, List.set_cons_zero, List.set_cons_succ, true_and, eq_self, Bool.not_true, Bool.not_false, Bool.false_eq_true, if_true, if_false, Nat.reduceLeDiff, ite_true, ite_false, mx_ol (mxT x18 x19) (lst_ol e17), cut_map]); (repeat (refine Nx.mk ?_; try simp only [skip_, seqset_, seqdrop_, seqasg_, ret_, retN_, if_, drop_, set_, asg_, for_, raise0_, raise1_, var_, c_, c2_, test_, and_, or_, not_, andV_, orV_, notV_, nil_, cons_, tup0_, tup1_, tup2_, tup3_, tup4_, tup5_, lst0_, lst1_, lst2_, lst3_, lst4_, lst5_, lst6_, lst7_, lst8_, lst9_, lst10_, lstv1_, lstv2_, lstv3_, lstv4_, lstv5_, b_, m_, call1_, call2_, call3_, call4_, call5_, neg_, slice_, none_, some_, rev_, comp_, gtup_, gn_nil, gn_cons, wipe_n, wipe_c, iseq_, sq_t, sq_r, r1_, r2_, add_i, add_s, add_t, sub_i, mul_i, int_o, cmp_o, isn_, ix_t, ix_r, ix_s, len_t2, len_t3, len_t4, len_t5, len_r, int1_i, two_, tuple_t, tuple_r, list_t, list_r, str_i, sl_t, sl_r, rev_t, rev_r, lo_l, lo_r, isi_t_t, isi_i_t, isi_s_s, isi_i_i, isi_i_b, isi_b_b, at0, at1, at2, at3, eq_i, eq_s, ol_s, vr_s, tb_b, ti_i, Br_t, Br_f, List.getElem?_cons_zero, List.getElem?_cons_succ, List.set_cons_zero, List.set_cons_succ, true_and, eq_self, Bool.not_true, Bool.not_false, Bool.false_eq_true, if_true, if_false, Nat.reduceLeDiff, ite_true, ite_false, mx_ol (mxT x18 x19) (lst_ol e17), cut_map]))
              refine newL_i fun ph M20 hph x20 e20 => newL_i fun pi M21 hpi x21 e21 => ?_
              have X21 : MX M6 M21 := mxT X16 (mxT x17 (mxT x18 (mxT x19 (mxT x20 x21))))
              (try simp only [skip_, seqset_, seqdrop_, seqasg_, ret_, retN_, if_, drop_, set_, asg_, for_, raise0_, raise1_, var_, c_, c2_, test_, and_, or_, not_, andV_, orV_, notV_, nil_, cons_, tup0_, tup1_, tup2_, tup3_, tup4_, tup5_, lst0_, lst1_, lst2_, lst3_, lst4_, lst5_, lst6_, lst7_, lst8_, lst9_, lst10_, lstv1_, lstv2_, lstv3_, lstv4_, lstv5_, b_, m_, call1_, call2_, call3_, call4_, call5_, neg_, slice_, none_, some_, rev_, comp_, gtup_, gn_nil, gn_cons, wipe_n, wipe_c, iseq_, sq_t, sq_r, r1_, r2_, add_i, add_s, add_t, sub_i, mul_i, int_o, cmp_o, isn_, ix_t, ix_r, ix_s, len_t2, len_t3, len_t4, len_t5, len_r, int1_i, two_, tuple_t, tuple_r, list_t, list_r, str_i, sl_t, sl_r, rev_t, rev_r, lo_l, lo_r, isi_t_t, isi_i_t, isi_s_s, isi_i_i, isi_i_b, isi_b_b, at0, at1, at2, at3, eq_i, eq_s, ol_s, vr_s, tb_b, ti_i, Br_t, Br_f, List.getElem?_cons_zero, List.getElem?_cons_succ, List.set_cons_zero, List.set_cons_succ, true_and, eq_self, Bool.not_true, Bool.not_false, Bool.false_eq_true, if_true, if_false, Nat.reduceLeDiff, ite_true, ite_false, mx_ol X21 (lst_ol e6), cut_map]); (repeat (refine Nx.mk ?_; try simp only [skip_, seqset_, seqdrop_, seqasg_, ret_, retN_, if_, drop_, set_, asg_, for_, raise0_, raise1_, var_, c_, c2_, test_, and_, or_, not_, andV_, orV_, notV_, nil_, cons_, tup0_, tup1_, tup2_, tup3_, tup4_, tup5_, lst0_, lst1_, lst2_, lst3_, lst4_, lst5_, lst6_, lst7_, lst8_, lst9_, lst10_, lstv1_, lstv2_, lstv3_, lstv4_, lstv5_, b_, m_, call1_, call2_, call3_, call4_, call5_, neg_, slice_, none_, some_, rev_, comp_, gtup_, gn_nil, gn_cons, wipe_n, wipe_c, iseq_, sq_t, sq_r, r1_, r2_, add_i, add_s, add_t, sub_i, mul_i, int_o, cmp_o, isn_, ix_t, ix_r, ix_s, len_t2, len_t3, len_t4, len_t5, len_r, int1_i, two_, tuple_t, tuple_r, list_t, list_r, str_i, sl_t, sl_r, rev_t, rev_r, lo_l, lo_r, isi_t_t, isi_i_t, isi_s_s, isi_i_i, isi_i_b, isi_b_b, at0, at1, at2, at3, eq_i, eq_s, ol_s, vr_s, tb_b, ti_i, Br_t, Br_f, List.getElem?_cons_zero, List.getElem?_cons_succ, List.set_cons_zero, List.set_cons_succ, true_and, eq_self, Bool.not_true, Bool.not_false, Bool.false_eq_true, if_true, if_false, Nat.reduceLeDiff, ite_true, ite_false, mx_ol X21 (lst_ol e6), cut_map]))
              refine newL_i fun pj M22 hpj x22 e22 => ?_
              (try simp only [skip_, seqset_, seqdrop_, seqasg_, ret_, retN_, if_, drop_, set_, asg_, for_, raise0_, raise1_, var_, c_, c2_, test_, and_, or_, not_, andV_, orV_, notV_, nil_, cons_, tup0_, tup1_, tup2_, tup3_, tup4_, tup5_, lst0_, lst1_, lst2_, lst3_, lst4_, lst5_, lst6_, lst7_, lst8_, lst9_, lst10_, lstv1_, lstv2_, lstv3_, lstv4_, lstv5_, b_, m_, call1_, call2_, call3_, call4_, call5_, neg_, slice_, none_, some_, rev_, comp_, gtup_, gn_nil, gn_cons, wipe_n, wipe_c, iseq_, sq_t, sq_r, r1_, r2_, add_i, add_s, add_t, sub_i, mul_i, int_o, cmp_o, isn_, ix_t, ix_r, ix_s, len_t2, len_t3, len_t4, len_t5, len_r, int1_i, two_, tuple_t, tuple_r, list_t, list_r, str_i, sl_t, sl_r, rev_t, rev_r, lo_l, lo_r, isi_t_t, isi_i_t, isi_s_s, isi_i_i, isi_i_b, isi_b_b, at0, at1, at2, at3, eq_i, eq_s, ol_s, vr_s, tb_b, ti_i, Br_t, Br_f, List.getElem?_cons_zero, List.getElem?_cons_succ, List.set_cons_zero, List.set_cons_succ, true_and, eq_self, Bool.not_true, Bool.not_false, Bool.false_eq_true, if_true, if_false, Nat.reduceLeDiff, ite_true, ite_false, mx_ol (mxT X21 x22) (lst_ol e6), cut_map]); (repeat (refine Nx.mk ?_; try simp only [skip_, seqset_, seqdrop_, seqasg_, ret_, retN_, if_, drop_, set_, asg_, for_, raise0_, raise1_, var_, c_, c2_, test_, and_, or_, not_, andV_, orV_, notV_, nil_, cons_, tup0_, tup1_, tup2_, tup3_, tup4_, tup5_, lst0_, lst1_, lst2_, lst3_, lst4_, lst5_, lst6_, lst7_, lst8_, lst9_, lst10_, lstv1_, lstv2_, lstv3_, lstv4_, lstv5_, b_, m_, call1_, call2_, call3_, call4_, call5_, neg_, slice_, none_, some_, rev_, comp_, gtup_, gn_nil, gn_cons, wipe_n, wipe_c, iseq_, sq_t, sq_r, r1_, r2_, add_i, add_s, add_t, sub_i, mul_i, int_o, cmp_o, isn_, ix_t, ix_r, ix_s, len_t2, len_t3, len_t4, len_t5, len_r, int1_i, two_, tuple_t, tuple_r, list_t, list_r, str_i, sl_t, sl_r, rev_t, rev_r, lo_l, lo_r, isi_t_t, isi_i_t, isi_s_s, isi_i_i, isi_i_b, isi_b_b, at0, at1, at2, at3, eq_i, eq_s, ol_s, vr_s, tb_b, ti_i, Br_t, Br_f, List.getElem?_cons_zero, List.getElem?_cons_succ, List.set_cons_zero, List.set_cons_succ, true_and, eq_self, Bool.not_true, Bool.not_false, Bool.false_eq_true, if_true, if_false, Nat.reduceLeDiff, ite_true, ite_false, mx_ol (mxT X21 x22) (lst_ol e6), cut_map]))
              refine newL_i fun pk M23 hpk x23 e23 => newL_i fun pl M24 hpl2 x24 e24 => ?_
              have hw : ∀ d ∈ [D.ref pg, .ref ph, .ref pi, .ref pj, .ref pk], ∃ (q : Addr) (ws : List Int), d = .ref q ∧ M24 q = some (.lst (ws.map .int)) ∧ ws.length ≤ 100 := by
                intro d hd
                simp only [List.mem_cons, List.not_mem_nil, or_false] at hd
                rcases hd with rfl | rfl | rfl | rfl | rfl
                · exact ⟨_, _, rfl, x24 _ _ (x23 _ _ (x22 _ _ (x21 _ _ (x20 _ _ e19)))), by simp; omega⟩
                · exact ⟨_, _, rfl, x24 _ _ (x23 _ _ (x22 _ _ (x21 _ _ e20))), Nat.le_trans (cut_le _ _ _) (by omega)⟩
                · exact ⟨_, [], rfl, x24 _ _ (x23 _ _ (x22 _ _ e21)), by simp⟩
                · exact ⟨_, _, rfl, x24 _ _ (x23 _ _ e22), Nat.le_trans (cut_le _ _ _) (by omega)⟩
                · exact ⟨_, _, rfl, x24 _ _ e23, Nat.le_trans (cut_le _ _ _) (by omega)⟩
              have X24 : MX M6 M24 := mxT X21 (mxT x22 (mxT x23 x24))
              (try simp only [skip_, seqset_, seqdrop_, seqasg_, ret_, retN_, if_, drop_, set_, asg_, for_, raise0_, raise1_, var_, c_, c2_, test_, and_, or_, not_, andV_, orV_, notV_, nil_, cons_, tup0_, tup1_, tup2_, tup3_, tup4_, tup5_, lst0_, lst1_, lst2_, lst3_, lst4_, lst5_, lst6_, lst7_, lst8_, lst9_, lst10_, lstv1_, lstv2_, lstv3_, lstv4_, lstv5_, b_, m_, call1_, call2_, call3_, call4_, call5_, neg_, slice_, none_, some_, rev_, comp_, gtup_, gn_nil, gn_cons, wipe_n, wipe_c, iseq_, sq_t, sq_r, r1_, r2_, add_i, add_s, add_t, sub_i, mul_i, int_o, cmp_o, isn_, ix_t, ix_r, ix_s, len_t2, len_t3, len_t4, len_t5, len_r, int1_i, two_, tuple_t, tuple_r, list_t, list_r, str_i, sl_t, sl_r, rev_t, rev_r, lo_l, lo_r, isi_t_t, isi_i_t, isi_s_s, isi_i_i, isi_i_b, isi_b_b, at0, at1, at2, at3, eq_i, eq_s, ol_s, vr_s, tb_b, ti_i, Br_t, Br_f, List.getElem?_cons_zero, List.getElem?_cons_succ, List.set_cons_zero, List.set_cons_succ, true_and, eq_self, Bool.not_true, Bool.not_false, Bool.false_eq_true, if_true, if_false, Nat.reduceLeDiff, ite_true, ite_false, lst_ol e24]); (repeat (refine Nx.mk ?_; try simp only [skip_, seqset_, seqdrop_, seqasg_, ret_, retN_, if_, drop_, set_, asg_, for_, raise0_, raise1_, var_, c_, c2_, test_, and_, or_, not_, andV_, orV_, notV_, nil_, cons_, tup0_, tup1_, tup2_, tup3_, tup4_, tup5_, lst0_, lst1_, lst2_, lst3_, lst4_, lst5_, lst6_, lst7_, lst8_, lst9_, lst10_, lstv1_, lstv2_, lstv3_, lstv4_, lstv5_, b_, m_, call1_, call2_, call3_, call4_, call5_, neg_, slice_, none_, some_, rev_, comp_, gtup_, gn_nil, gn_cons, wipe_n, wipe_c, iseq_, sq_t, sq_r, r1_, r2_, add_i, add_s, add_t, sub_i, mul_i, int_o, cmp_o, isn_, ix_t, ix_r, ix_s, len_t2, len_t3, len_t4, len_t5, len_r, int1_i, two_, tuple_t, tuple_r, list_t, list_r, str_i, sl_t, sl_r, rev_t, rev_r, lo_l, lo_r, isi_t_t, isi_i_t, isi_s_s, isi_i_i, isi_i_b, isi_b_b, at0, at1, at2, at3, eq_i, eq_s, ol_s, vr_s, tb_b, ti_i, Br_t, Br_f, List.getElem?_cons_zero, List.getElem?_cons_succ, List.set_cons_zero, List.set_cons_succ, true_and, eq_self, Bool.not_true, Bool.not_false, Bool.false_eq_true, if_true, if_false, Nat.reduceLeDiff, ite_true, ite_false, lst_ol e24]))
              refine for_0 (fun n ρ' M' => ∃ (o14 : Option D), ρ' = [some (.ref a), some (.tup [.tup sts, .tup (ls.map Lt.d), .tup [], .tup []]), some (.ref pd), some (.int 8), some (.tup (rs.map Rn.d)), some (.tup (.tup sts :: .tup (ls.map Lt.d) :: cr)), some (.ref p), some (.tup ((lates rs xs).map Rn.d)), o8, o9, o10, o11, some (.int (i : Int)), some (.ref pe), o14, none] ∧ MX M24 M') ⟨_, rfl, MX.refl'⟩ (fun n _ M' _ h => ?_) ?_ ?_
              · obtain ⟨_, _, x⟩ := h
                exact mx_ol x (lst_ol e24)
              · rintro n d hd _ M25 ⟨o14, rfl, x25⟩
                obtain ⟨q, ws, rfl, eq, hws⟩ := hw d (List.mem_of_getElem? hd)
                refine ⟨_, rfl, fun Kn3 hK3 => ?_⟩
                (try simp only [skip_, seqset_, seqdrop_, seqasg_, ret_, retN_, if_, drop_, set_, asg_, for_, raise0_, raise1_, var_, c_, c2_, test_, and_, or_, not_, andV_, orV_, notV_, nil_, cons_, tup0_, tup1_, tup2_, tup3_, tup4_, tup5_, lst0_, lst1_, lst2_, lst3_, lst4_, lst5_, lst6_, lst7_, lst8_, lst9_, lst10_, lstv1_, lstv2_, lstv3_, lstv4_, lstv5_, b_, m_, call1_, call2_, call3_, call4_, call5_, neg_, slice_, none_, some_, rev_, comp_, gtup_, gn_nil, gn_cons, wipe_n, wipe_c, iseq_, sq_t, sq_r, r1_, r2_, add_i, add_s, add_t, sub_i, mul_i, int_o, cmp_o, isn_, ix_t, ix_r, ix_s, len_t2, len_t3, len_t4, len_t5, len_r, int1_i, two_, tuple_t, tuple_r, list_t, list_r, str_i, sl_t, sl_r, rev_t, rev_r, lo_l, lo_r, isi_t_t, isi_i_t, isi_s_s, isi_i_i, isi_i_b, isi_b_b, at0, at1, at2, at3, eq_i, eq_s, ol_s, vr_s, tb_b, ti_i, Br_t, Br_f, List.getElem?_cons_zero, List.getElem?_cons_succ, List.set_cons_zero, List.set_cons_succ, true_and, eq_self, Bool.not_true, Bool.not_false, Bool.false_eq_true, if_true, if_false, Nat.reduceLeDiff, ite_true, ite_false, mx_ol x25 (lst_ol eq), len_t]); (repeat (refine Nx.mk ?_; try simp only [skip_, seqset_, seqdrop_, seqasg_, ret_, retN_, if_, drop_, set_, asg_, for_, raise0_, raise1_, var_, c_, c2_, test_, and_, or_, not_, andV_, orV_, notV_, nil_, cons_, tup0_, tup1_, tup2_, tup3_, tup4_, tup5_, lst0_, lst1_, lst2_, lst3_, lst4_, lst5_, lst6_, lst7_, lst8_, lst9_, lst10_, lstv1_, lstv2_, lstv3_, lstv4_, lstv5_, b_, m_, call1_, call2_, call3_, call4_, call5_, neg_, slice_, none_, some_, rev_, comp_, gtup_, gn_nil, gn_cons, wipe_n, wipe_c, iseq_, sq_t, sq_r, r1_, r2_, add_i, add_s, add_t, sub_i, mul_i, int_o, cmp_o, isn_, ix_t, ix_r, ix_s, len_t2, len_t3, len_t4, len_t5, len_r, int1_i, two_, tuple_t, tuple_r, list_t, list_r, str_i, sl_t, sl_r, rev_t, rev_r, lo_l, lo_r, isi_t_t, isi_i_t, isi_s_s, isi_i_i, isi_i_b, isi_b_b, at0, at1, at2, at3, eq_i, eq_s, ol_s, vr_s, tb_b, ti_i, Br_t, Br_f, List.getElem?_cons_zero, List.getElem?_cons_succ, List.set_cons_zero, List.set_cons_succ, true_and, eq_self, Bool.not_true, Bool.not_false, Bool.false_eq_true, if_true, if_false, Nat.reduceLeDiff, ite_true, ite_false, mx_ol x25 (lst_ol eq), len_t]))
                rw [List.length_map, List.length_map]
                refine Br_i (fun h => ?_) (fun h => ?_)
                · (try simp only [skip_, seqset_, seqdrop_, seqasg_, ret_, retN_, if_, drop_, set_, asg_, for_, raise0_, raise1_, var_, c_, c2_, test_, and_, or_, not_, andV_, orV_, notV_, nil_, cons_, tup0_, tup1_, tup2_, tup3_, tup4_, tup5_, lst0_, lst1_, lst2_, lst3_, lst4_, lst5_, lst6_, lst7_, lst8_, lst9_, lst10_, lstv1_, lstv2_, lstv3_, lstv4_, lstv5_, b_, m_, call1_, call2_, call3_, call4_, call5_, neg_, slice_, none_, some_, rev_, comp_, gtup_, gn_nil, gn_cons, wipe_n, wipe_c, iseq_, sq_t, sq_r, r1_, r2_, add_i, add_s, add_t, sub_i, mul_i, int_o, cmp_o, isn_, ix_t, ix_r, ix_s, len_t2, len_t3, len_t4, len_t5, len_r, int1_i, two_, tuple_t, tuple_r, list_t, list_r, str_i, sl_t, sl_r, rev_t, rev_r, lo_l, lo_r, isi_t_t, isi_i_t, isi_s_s, isi_i_i, isi_i_b, isi_b_b, at0, at1, at2, at3, eq_i, eq_s, ol_s, vr_s, tb_b, ti_i, Br_t, Br_f, List.getElem?_cons_zero, List.getElem?_cons_succ, List.set_cons_zero, List.set_cons_succ, true_and, eq_self, Bool.not_true, Bool.not_false, Bool.false_eq_true, if_true, if_false, Nat.reduceLeDiff, ite_true, ite_false, mx_ol x25 (lst_ol eq)]); (repeat (refine Nx.mk ?_; try simp only [skip_, seqset_, seqdrop_, seqasg_, ret_, retN_, if_, drop_, set_, asg_, for_, raise0_, raise1_, var_, c_, c2_, test_, and_, or_, not_, andV_, orV_, notV_, nil_, cons_, tup0_, tup1_, tup2_, tup3_, tup4_, tup5_, lst0_, lst1_, lst2_, lst3_, lst4_, lst5_, lst6_, lst7_, lst8_, lst9_, lst10_, lstv1_, lstv2_, lstv3_, lstv4_, lstv5_, b_, m_, call1_, call2_, call3_, call4_, call5_, neg_, slice_, none_, some_, rev_, comp_, gtup_, gn_nil, gn_cons, wipe_n, wipe_c, iseq_, sq_t, sq_r, r1_, r2_, add_i, add_s, add_t, sub_i, mul_i, int_o, cmp_o, isn_, ix_t, ix_r, ix_s, len_t2, len_t3, len_t4, len_t5, len_r, int1_i, two_, tuple_t, tuple_r, list_t, list_r, str_i, sl_t, sl_r, rev_t, rev_r, lo_l, lo_r, isi_t_t, isi_i_t, isi_s_s, isi_i_i, isi_i_b, isi_b_b, at0, at1, at2, at3, eq_i, eq_s, ol_s, vr_s, tb_b, ti_i, Br_t, Br_f, List.getElem?_cons_zero, List.getElem?_cons_succ, List.set_cons_zero, List.set_cons_succ, true_and, eq_self, Bool.not_true, Bool.not_false, Bool.false_eq_true, if_true, if_false, Nat.reduceLeDiff, ite_true, ite_false, mx_ol x25 (lst_ol eq)]))
                  refine llate_bad X (fun z => by simp [z] at h) ?_
                  (try simp only [skip_, seqset_, seqdrop_, seqasg_, ret_, retN_, if_, drop_, set_, asg_, for_, raise0_, raise1_, var_, c_, c2_, test_, and_, or_, not_, andV_, orV_, notV_, nil_, cons_, tup0_, tup1_, tup2_, tup3_, tup4_, tup5_, lst0_, lst1_, lst2_, lst3_, lst4_, lst5_, lst6_, lst7_, lst8_, lst9_, lst10_, lstv1_, lstv2_, lstv3_, lstv4_, lstv5_, b_, m_, call1_, call2_, call3_, call4_, call5_, neg_, slice_, none_, some_, rev_, comp_, gtup_, gn_nil, gn_cons, wipe_n, wipe_c, iseq_, sq_t, sq_r, r1_, r2_, add_i, add_s, add_t, sub_i, mul_i, int_o, cmp_o, isn_, ix_t, ix_r, ix_s, len_t2, len_t3, len_t4, len_t5, len_r, int1_i, two_, tuple_t, tuple_r, list_t, list_r, str_i, sl_t, sl_r, rev_t, rev_r, lo_l, lo_r, isi_t_t, isi_i_t, isi_s_s, isi_i_i, isi_i_b, isi_b_b, at0, at1, at2, at3, eq_i, eq_s, ol_s, vr_s, tb_b, ti_i, Br_t, Br_f, List.getElem?_cons_zero, List.getElem?_cons_succ, List.set_cons_zero, List.set_cons_succ, true_and, eq_self, Bool.not_true, Bool.not_false, Bool.false_eq_true, if_true, if_false, Nat.reduceLeDiff, ite_true, ite_false]); (repeat (refine Nx.mk ?_; try simp only [skip_, seqset_, seqdrop_, seqasg_, ret_, retN_, if_, drop_, set_, asg_, for_, raise0_, raise1_, var_, c_, c2_, test_, and_, or_, not_, andV_, orV_, notV_, nil_, cons_, tup0_, tup1_, tup2_, tup3_, tup4_, tup5_, lst0_, lst1_, lst2_, lst3_, lst4_, lst5_, lst6_, lst7_, lst8_, lst9_, lst10_, lstv1_, lstv2_, lstv3_, lstv4_, lstv5_, b_, m_, call1_, call2_, call3_, call4_, call5_, neg_, slice_, none_, some_, rev_, comp_, gtup_, gn_nil, gn_cons, wipe_n, wipe_c, iseq_, sq_t, sq_r, r1_, r2_, add_i, add_s, add_t, sub_i, mul_i, int_o, cmp_o, isn_, ix_t, ix_r, ix_s, len_t2, len_t3, len_t4, len_t5, len_r, int1_i, two_, tuple_t, tuple_r, list_t, list_r, str_i, sl_t, sl_r, rev_t, rev_r, lo_l, lo_r, isi_t_t, isi_i_t, isi_s_s, isi_i_i, isi_i_b, isi_b_b, at0, at1, at2, at3, eq_i, eq_s, ol_s, vr_s, tb_b, ti_i, Br_t, Br_f, List.getElem?_cons_zero, List.getElem?_cons_succ, List.set_cons_zero, List.set_cons_succ, true_and, eq_self, Bool.not_true, Bool.not_false, Bool.false_eq_true, if_true, if_false, Nat.reduceLeDiff, ite_true, ite_false]))
                  refine eq_self 4 rfl (by rfl) (by decide) ?_
                  (try simp only [skip_, seqset_, seqdrop_, seqasg_, ret_, retN_, if_, drop_, set_, asg_, for_, raise0_, raise1_, var_, c_, c2_, test_, and_, or_, not_, andV_, orV_, notV_, nil_, cons_, tup0_, tup1_, tup2_, tup3_, tup4_, tup5_, lst0_, lst1_, lst2_, lst3_, lst4_, lst5_, lst6_, lst7_, lst8_, lst9_, lst10_, lstv1_, lstv2_, lstv3_, lstv4_, lstv5_, b_, m_, call1_, call2_, call3_, call4_, call5_, neg_, slice_, none_, some_, rev_, comp_, gtup_, gn_nil, gn_cons, wipe_n, wipe_c, iseq_, sq_t, sq_r, r1_, r2_, add_i, add_s, add_t, sub_i, mul_i, int_o, cmp_o, isn_, ix_t, ix_r, ix_s, len_t2, len_t3, len_t4, len_t5, len_r, int1_i, two_, tuple_t, tuple_r, list_t, list_r, str_i, sl_t, sl_r, rev_t, rev_r, lo_l, lo_r, isi_t_t, isi_i_t, isi_s_s, isi_i_i, isi_i_b, isi_b_b, at0, at1, at2, at3, eq_i, eq_s, ol_s, vr_s, tb_b, ti_i, Br_t, Br_f, List.getElem?_cons_zero, List.getElem?_cons_succ, List.set_cons_zero, List.set_cons_succ, true_and, eq_self, Bool.not_true, Bool.not_false, Bool.false_eq_true, if_true, if_false, Nat.reduceLeDiff, ite_true, ite_false]); (repeat (refine Nx.mk ?_; try simp only [skip_, seqset_, seqdrop_, seqasg_, ret_, retN_, if_, drop_, set_, asg_, for_, raise0_, raise1_, var_, c_, c2_, test_, and_, or_, not_, andV_, orV_, notV_, nil_, cons_, tup0_, tup1_, tup2_, tup3_, tup4_, tup5_, lst0_, lst1_, lst2_, lst3_, lst4_, lst5_, lst6_, lst7_, lst8_, lst9_, lst10_, lstv1_, lstv2_, lstv3_, lstv4_, lstv5_, b_, m_, call1_, call2_, call3_, call4_, call5_, neg_, slice_, none_, some_, rev_, comp_, gtup_, gn_nil, gn_cons, wipe_n, wipe_c, iseq_, sq_t, sq_r, r1_, r2_, add_i, add_s, add_t, sub_i, mul_i, int_o, cmp_o, isn_, ix_t, ix_r, ix_s, len_t2, len_t3, len_t4, len_t5, len_r, int1_i, two_, tuple_t, tuple_r, list_t, list_r, str_i, sl_t, sl_r, rev_t, rev_r, lo_l, lo_r, isi_t_t, isi_i_t, isi_s_s, isi_i_i, isi_i_b, isi_b_b, at0, at1, at2, at3, eq_i, eq_s, ol_s, vr_s, tb_b, ti_i, Br_t, Br_f, List.getElem?_cons_zero, List.getElem?_cons_succ, List.set_cons_zero, List.set_cons_succ, true_and, eq_self, Bool.not_true, Bool.not_false, Bool.false_eq_true, if_true, if_false, Nat.reduceLeDiff, ite_true, ite_false]))
                  exact hK3 _ _ ⟨_, rfl, x25⟩
                · (try simp only [skip_, seqset_, seqdrop_, seqasg_, ret_, retN_, if_, drop_, set_, asg_, for_, raise0_, raise1_, var_, c_, c2_, test_, and_, or_, not_, andV_, orV_, notV_, nil_, cons_, tup0_, tup1_, tup2_, tup3_, tup4_, tup5_, lst0_, lst1_, lst2_, lst3_, lst4_, lst5_, lst6_, lst7_, lst8_, lst9_, lst10_, lstv1_, lstv2_, lstv3_, lstv4_, lstv5_, b_, m_, call1_, call2_, call3_, call4_, call5_, neg_, slice_, none_, some_, rev_, comp_, gtup_, gn_nil, gn_cons, wipe_n, wipe_c, iseq_, sq_t, sq_r, r1_, r2_, add_i, add_s, add_t, sub_i, mul_i, int_o, cmp_o, isn_, ix_t, ix_r, ix_s, len_t2, len_t3, len_t4, len_t5, len_r, int1_i, two_, tuple_t, tuple_r, list_t, list_r, str_i, sl_t, sl_r, rev_t, rev_r, lo_l, lo_r, isi_t_t, isi_i_t, isi_s_s, isi_i_i, isi_i_b, isi_b_b, at0, at1, at2, at3, eq_i, eq_s, ol_s, vr_s, tb_b, ti_i, Br_t, Br_f, List.getElem?_cons_zero, List.getElem?_cons_succ, List.set_cons_zero, List.set_cons_succ, true_and, eq_self, Bool.not_true, Bool.not_false, Bool.false_eq_true, if_true, if_false, Nat.reduceLeDiff, ite_true, ite_false]); (repeat (refine Nx.mk ?_; try simp only [skip_, seqset_, seqdrop_, seqasg_, ret_, retN_, if_, drop_, set_, asg_, for_, raise0_, raise1_, var_, c_, c2_, test_, and_, or_, not_, andV_, orV_, notV_, nil_, cons_, tup0_, tup1_, tup2_, tup3_, tup4_, tup5_, lst0_, lst1_, lst2_, lst3_, lst4_, lst5_, lst6_, lst7_, lst8_, lst9_, lst10_, lstv1_, lstv2_, lstv3_, lstv4_, lstv5_, b_, m_, call1_, call2_, call3_, call4_, call5_, neg_, slice_, none_, some_, rev_, comp_, gtup_, gn_nil, gn_cons, wipe_n, wipe_c, iseq_, sq_t, sq_r, r1_, r2_, add_i, add_s, add_t, sub_i, mul_i, int_o, cmp_o, isn_, ix_t, ix_r, ix_s, len_t2, len_t3, len_t4, len_t5, len_r, int1_i, two_, tuple_t, tuple_r, list_t, list_r, str_i, sl_t, sl_r, rev_t, rev_r, lo_l, lo_r, isi_t_t, isi_i_t, isi_s_s, isi_i_i, isi_i_b, isi_b_b, at0, at1, at2, at3, eq_i, eq_s, ol_s, vr_s, tb_b, ti_i, Br_t, Br_f, List.getElem?_cons_zero, List.getElem?_cons_succ, List.set_cons_zero, List.set_cons_succ, true_and, eq_self, Bool.not_true, Bool.not_false, Bool.false_eq_true, if_true, if_false, Nat.reduceLeDiff, ite_true, ite_false]))
                  exact hK3 _ _ ⟨_, rfl, x25⟩
              · rintro _ M25 ⟨o14, rfl, x25⟩
                exact hK _ _ ⟨_, _, _, _, _, _, _, rfl, mxT X24 x25⟩
          · rintro _ M26 ⟨o8, o9, o10, o11, o12, o13, o14, rfl, x26⟩
            (try simp only [skip_, seqset_, seqdrop_, seqasg_, ret_, retN_, if_, drop_, set_, asg_, for_, raise0_, raise1_, var_, c_, c2_, test_, and_, or_, not_, andV_, orV_, notV_, nil_, cons_, tup0_, tup1_, tup2_, tup3_, tup4_, tup5_, lst0_, lst1_, lst2_, lst3_, lst4_, lst5_, lst6_, lst7_, lst8_, lst9_, lst10_, lstv1_, lstv2_, lstv3_, lstv4_, lstv5_, b_, m_, call1_, call2_, call3_, call4_, call5_, neg_, slice_, none_, some_, rev_, comp_, gtup_, gn_nil, gn_cons, wipe_n, wipe_c, iseq_, sq_t, sq_r, r1_, r2_, add_i, add_s, add_t, sub_i, mul_i, int_o, cmp_o, isn_, ix_t, ix_r, ix_s, len_t2, len_t3, len_t4, len_t5, len_r, int1_i, two_, tuple_t, tuple_r, list_t, list_r, str_i, sl_t, sl_r, rev_t, rev_r, lo_l, lo_r, isi_t_t, isi_i_t, isi_s_s, isi_i_i, isi_i_b, isi_b_b, at0, at1, at2, at3, eq_i, eq_s, ol_s, vr_s, tb_b, ti_i, Br_t, Br_f, List.getElem?_cons_zero, List.getElem?_cons_succ, List.set_cons_zero, List.set_cons_succ, true_and, eq_self, Bool.not_true, Bool.not_false, Bool.false_eq_true, if_true, if_false, Nat.reduceLeDiff, ite_true, ite_false, mx_ol x26 (lst_ol e6)]); (repeat (refine Nx.mk ?_; try simp only [skip_, seqset_, seqdrop_, seqasg_, ret_, retN_, if_, drop_, set_, asg_, for_, raise0_, raise1_, var_, c_, c2_, test_, and_, or_, not_, andV_, orV_, notV_, nil_, cons_, tup0_, tup1_, tup2_, tup3_, tup4_, tup5_, lst0_, lst1_, lst2_, lst3_, lst4_, lst5_, lst6_, lst7_, lst8_, lst9_, lst10_, lstv1_, lstv2_, lstv3_, lstv4_, lstv5_, b_, m_, call1_, call2_, call3_, call4_, call5_, neg_, slice_, none_, some_, rev_, comp_, gtup_, gn_nil, gn_cons, wipe_n, wipe_c, iseq_, sq_t, sq_r, r1_, r2_, add_i, add_s, add_t, sub_i, mul_i, int_o, cmp_o, isn_, ix_t, ix_r, ix_s, len_t2, len_t3, len_t4, len_t5, len_r, int1_i, two_, tuple_t, tuple_r, list_t, list_r, str_i, sl_t, sl_r, rev_t, rev_r, lo_l, lo_r, isi_t_t, isi_i_t, isi_s_s, isi_i_i, isi_i_b, isi_b_b, at0, at1, at2, at3, eq_i, eq_s, ol_s, vr_s, tb_b, ti_i, Br_t, Br_f, List.getElem?_cons_zero, List.getElem?_cons_succ, List.set_cons_zero, List.set_cons_succ, true_and, eq_self, Bool.not_true, Bool.not_false, Bool.false_eq_true, if_true, if_false, Nat.reduceLeDiff, ite_true, ite_false, mx_ol x26 (lst_ol e6)]))
            refine llate_sp X U hO hlx (by omega) (fun _ M8 x8 => ?_) (fun ⟨n, r, h, h'⟩ => absurd (hen n r h) (by omega))
            (try simp only [skip_, seqset_, seqdrop_, seqasg_, ret_, retN_, if_, drop_, set_, asg_, for_, raise0_, raise1_, var_, c_, c2_, test_, and_, or_, not_, andV_, orV_, notV_, nil_, cons_, tup0_, tup1_, tup2_, tup3_, tup4_, tup5_, lst0_, lst1_, lst2_, lst3_, lst4_, lst5_, lst6_, lst7_, lst8_, lst9_, lst10_, lstv1_, lstv2_, lstv3_, lstv4_, lstv5_, b_, m_, call1_, call2_, call3_, call4_, call5_, neg_, slice_, none_, some_, rev_, comp_, gtup_, gn_nil, gn_cons, wipe_n, wipe_c, iseq_, sq_t, sq_r, r1_, r2_, add_i, add_s, add_t, sub_i, mul_i, int_o, cmp_o, isn_, ix_t, ix_r, ix_s, len_t2, len_t3, len_t4, len_t5, len_r, int1_i, two_, tuple_t, tuple_r, list_t, list_r, str_i, sl_t, sl_r, rev_t, rev_r, lo_l, lo_r, isi_t_t, isi_i_t, isi_s_s, isi_i_i, isi_i_b, isi_b_b, at0, at1, at2, at3, eq_i, eq_s, ol_s, vr_s, tb_b, ti_i, Br_t, Br_f, List.getElem?_cons_zero, List.getElem?_cons_succ, List.set_cons_zero, List.set_cons_succ, true_and, eq_self, Bool.not_true, Bool.not_false, Bool.false_eq_true, if_true, if_false, Nat.reduceLeDiff, ite_true, ite_false]); (repeat (refine Nx.mk ?_; try simp only [skip_, seqset_, seqdrop_, seqasg_, ret_, retN_, if_, drop_, set_, asg_, for_, raise0_, raise1_, var_, c_, c2_, test_, and_, or_, not_, andV_, orV_, notV_, nil_, cons_, tup0_, tup1_, tup2_, tup3_, tup4_, tup5_, lst0_, lst1_, lst2_, lst3_, lst4_, lst5_, lst6_, lst7_, lst8_, lst9_, lst10_, lstv1_, lstv2_, lstv3_, lstv4_, lstv5_, b_, m_, call1_, call2_, call3_, call4_, call5_, neg_, slice_, none_, some_, rev_, comp_, gtup_, gn_nil, gn_cons, wipe_n, wipe_c, iseq_, sq_t, sq_r, r1_, r2_, add_i, add_s, add_t, sub_i, mul_i, int_o, cmp_o, isn_, ix_t, ix_r, ix_s, len_t2, len_t3, len_t4, len_t5, len_r, int1_i, two_, tuple_t, tuple_r, list_t, list_r, str_i, sl_t, sl_r, rev_t, rev_r, lo_l, lo_r, isi_t_t, isi_i_t, isi_s_s, isi_i_i, isi_i_b, isi_b_b, at0, at1, at2, at3, eq_i, eq_s, ol_s, vr_s, tb_b, ti_i, Br_t, Br_f, List.getElem?_cons_zero, List.getElem?_cons_succ, List.set_cons_zero, List.set_cons_succ, true_and, eq_self, Bool.not_true, Bool.not_false, Bool.false_eq_true, if_true, if_false, Nat.reduceLeDiff, ite_true, ite_false]))
            exact eq_self 4 rfl (flat_runs _) (by decide) (hQ _)
end
end K61

theorem PySem.Challenge.cw_roundsfare_k61_visits_and_late_runs_holds : PySem.Challenge.rw_roundsfare_k61_visits_and_late_runs.Holds :=
  K61.law_holds fun _ _ X _ _ _ _ _ hz => K61.law_true X hz fun _ => rfl
