import PyProof.Rows.All
import HandS.ForMost
import HandS.ForExc
import HandS.Wide
import HandS.Flow
import HandS.Style
import HandS.Lambda
import HandS.AnyAll
import HandS.Conv
import HandS.GenList
import PyProof.TupleOfGen
import HandS.TryOnly
import PySem.Challenge.RW_raystack_k01_steps_in_space_and_shares
import HandS.Head0
import HandS.Head1
import HandS.Head2
import HandS.HeadEnd
import HandS.HeadHook1
import HandS.HeadHook2
import HandS.HeadHook4
import HandS.HeadWalk
set_option Elab.async false
set_option linter.all false
set_option maxRecDepth 100000
set_option maxHeartbeats 4000000
/-! DA: a layer of data over the hand layer: values as trees (D), a store of the lists that change, judgements without a heap (Ev, Run). -/
namespace DL
open PySem L2

/-- a lambda that captures nothing -/
structure Lm where
  q : Str
  params : Arguments
  body : Expr
  scope : Scope
inductive D where
  | non | bl (b : Bool) | int (i : Int) | str (x : Str) | tup (ds : List D) | lst (ds : List D) | seq (ds : List D) | ref (a : Addr) | lam (l : Lm) | obj (C : Addr) (ns : List Str) (ds : List D)
/-- the object at f is o -/
def ThatO (f : Addr) (o : Obj) : HO := .ext fun h => h.get? f = some o
abbrev lamObj (l : Lm) (pm : Value) (c : Addr) (ctv : Value) : Obj := PySem.W.kla_obj "<lambda>" l.q l.params l.body l.scope [] pm c ctv

mutual
def Rep (K : PySem.W.Frag) (H : Hp) : D → V → Prop
  | .non, v => v = .non
  | .bl b, v => v = .bl b
  | .int i, v => v = .int i
  | .str x, v => v = .str x
  | .tup ds, v => ∃ a vs, v = .ref a ∧ SqT K H a vs ∧ Reps K H ds vs
  | .lst ds, v => ∃ a vs, v = .ref a ∧ H a = some (.lst vs) ∧ Reps K H ds vs
  | .seq ds, v => ∃ a vs, v = .ref a ∧ SqL K H a vs ∧ Reps K H ds vs
  | .ref a, v => v = .ref a
  | .lam l, v => ∃ f c pm ctv, v = .ref f ∧ H f = some (ThatO f (lamObj l pm c ctv)) ∧ H c = some (LamX.CodeO c l.q)
  | .obj C ns ds, v => ∃ a dx vs, v = .ref a ∧ H a = some (.ins C dx (ns.zip vs)) ∧ ns.length = ds.length ∧ Reps K H ds vs
def Reps (K : PySem.W.Frag) (H : Hp) : List D → List V → Prop
  | [], vs => vs = []
  | d :: ds, vs => ∃ v ws, vs = v :: ws ∧ Rep K H d v ∧ Reps K H ds ws
end

theorem ex_rd {H H' : Hp} {a : Addr} {u : HO} (e : Same H H') (h : Rd H a u) : Rd H' a u := by
  rcases h with h | ⟨o, h⟩
  · exact .inl (e _ _ h)
  · exact .inr ⟨o, e _ _ h⟩
theorem ex_l {K : PySem.W.Frag} {H H' : Hp} {a : Addr} {xs : List V} (e : Same H H') (h : SqL K H a xs) : SqL K H' a xs := h.imp (ex_rd e) id
theorem ex_t {K : PySem.W.Frag} {H H' : Hp} {a : Addr} {xs : List V} (e : Same H H') (h : SqT K H a xs) : SqT K H' a xs := h.imp (ex_rd e) id

section
variable {K : PySem.W.Frag} {H H' : Hp}
mutual
theorem Rep.mono (e : Same H H') : ∀ {d : D} {v : V}, Rep K H d v → Rep K H' d v
  | .non, _, h => h
  | .bl _, _, h => h
  | .int _, _, h => h
  | .str _, _, h => h
  | .ref _, _, h => h
  | .tup ds, _, h => by
    obtain ⟨a, vs, rfl, hs, hr⟩ := h
    exact ⟨a, vs, rfl, ex_t e hs, Reps.mono e hr⟩
  | .lst ds, _, h => by
    obtain ⟨a, vs, rfl, hs, hr⟩ := h
    exact ⟨a, vs, rfl, e _ _ hs, Reps.mono e hr⟩
  | .seq ds, _, h => by
    obtain ⟨a, vs, rfl, hs, hr⟩ := h
    exact ⟨a, vs, rfl, ex_l e hs, Reps.mono e hr⟩
  | .lam l, _, h => by
    obtain ⟨f, c, pm, ctv, rfl, h1, h2⟩ := h
    exact ⟨f, c, pm, ctv, rfl, e _ _ h1, e _ _ h2⟩
  | .obj C ns ds, _, h => by
    obtain ⟨a, dx, vs, rfl, h1, h2, h3⟩ := h
    exact ⟨a, dx, vs, rfl, e _ _ h1, h2, Reps.mono e h3⟩
theorem Reps.mono (e : Same H H') : ∀ {ds : List D} {vs : List V}, Reps K H ds vs → Reps K H' ds vs
  | [], _, h => h
  | d :: ds, _, h => by
    obtain ⟨v, ws, rfl, h1, h2⟩ := h
    exact ⟨v, ws, rfl, Rep.mono e h1, Reps.mono e h2⟩
end
theorem Reps.length : ∀ {ds : List D} {vs : List V}, Reps K H ds vs → vs.length = ds.length
  | [], _, h => by
    have h : _ = [] := h
    subst h; rfl
  | d :: ds, _, h => by
    obtain ⟨v, ws, rfl, _, h2⟩ := h
    simp [Reps.length h2]
theorem Reps.get : ∀ {ds : List D} {vs : List V} {i : Nat} {d : D}, Reps K H ds vs → ds[i]? = some d → ∃ v, vs[i]? = some v ∧ Rep K H d v
  | [], _, _, _, _, e => by simp at e
  | x :: ds, _, 0, d, h, e => by
    obtain ⟨v, ws, rfl, h1, _⟩ := h
    simp at e
    subst e
    exact ⟨v, rfl, h1⟩
  | x :: ds, _, i + 1, d, h, e => by
    obtain ⟨v, ws, rfl, _, h2⟩ := h
    obtain ⟨u, hu, hr⟩ := Reps.get (i := i) (d := d) h2 (by simpa using e)
    exact ⟨u, by simpa using hu, hr⟩
/-- the other way: what stands at a place -/
theorem Reps.back : ∀ {ds : List D} {vs : List V} {i : Nat} {v : V}, Reps K H ds vs → vs[i]? = some v → ∃ d, ds[i]? = some d ∧ Rep K H d v
  | [], _, _, _, h, e => by
    have h : _ = [] := h
    subst h; simp at e
  | x :: ds, _, 0, v, h, e => by
    obtain ⟨u, ws, rfl, h1, _⟩ := h
    simp at e
    subst e
    exact ⟨x, rfl, h1⟩
  | x :: ds, _, i + 1, v, h, e => by
    obtain ⟨u, ws, rfl, _, h2⟩ := h
    obtain ⟨d, hd, hr⟩ := Reps.back (i := i) (v := v) h2 (by simpa using e)
    exact ⟨d, by simpa using hd, hr⟩
theorem Reps.append : ∀ {ds es : List D} {vs ws : List V}, Reps K H ds vs → Reps K H es ws → Reps K H (ds ++ es) (vs ++ ws)
  | [], _, _, _, h, h' => by
    have h : _ = [] := h
    subst h; exact h'
  | d :: ds, _, _, _, h, h' => by
    obtain ⟨v, us, rfl, h1, h2⟩ := h
    exact ⟨v, us ++ _, rfl, h1, Reps.append h2 h'⟩
theorem Reps.set {d : D} {v : V} (r : Rep K H d v) : ∀ {ds : List D} {vs : List V} (i : Nat), Reps K H ds vs → Reps K H (ds.set i d) (vs.set i v)
  | [], _, _, h => by
    have h : _ = [] := h
    subst h; exact rfl
  | x :: ds, _, 0, h => by
    obtain ⟨u, ws, rfl, _, h2⟩ := h
    exact ⟨v, ws, rfl, r, h2⟩
  | x :: ds, _, i + 1, h => by
    obtain ⟨u, ws, rfl, h1, h2⟩ := h
    exact ⟨u, ws.set i v, rfl, h1, Reps.set r i h2⟩
theorem Reps.take : ∀ {ds : List D} {vs : List V} (n : Nat), Reps K H ds vs → Reps K H (ds.take n) (vs.take n)
  | _, _, 0, _ => by simp [Reps]
  | [], _, n + 1, h => by
    have h : _ = [] := h
    subst h; simp [Reps]
  | d :: ds, _, n + 1, h => by
    obtain ⟨v, ws, rfl, h1, h2⟩ := h
    exact ⟨v, ws.take n, by simp, h1, Reps.take n h2⟩
theorem Reps.drop : ∀ {ds : List D} {vs : List V} (n : Nat), Reps K H ds vs → Reps K H (ds.drop n) (vs.drop n)
  | _, _, 0, h => by simpa using h
  | [], _, n + 1, h => by
    have h : _ = [] := h
    subst h; simp [Reps]
  | d :: ds, _, n + 1, h => by
    obtain ⟨v, ws, rfl, h1, h2⟩ := h
    simpa using Reps.drop n h2
theorem rep_non : Rep K H .non .non := rfl
theorem rep_bl {b : Bool} : Rep K H (.bl b) (.bl b) := rfl
theorem rep_int {b : Int} : Rep K H (.int b) (.int b) := rfl
theorem rep_str {b : Str} : Rep K H (.str b) (.str b) := rfl
theorem rep_ref {b : Addr} : Rep K H (.ref b) (.ref b) := rfl
theorem Reps.nil : Reps K H [] [] := rfl
theorem Reps.cons {d : D} {ds : List D} {v : V} {vs : List V} (h : Rep K H d v) (hs : Reps K H ds vs) : Reps K H (d :: ds) (v :: vs) := ⟨v, vs, rfl, h, hs⟩
theorem Reps.one {d : D} {v : V} (h : Rep K H d v) : Reps K H [d] [v] := .cons h .nil
theorem Reps.of_one {d : D} {vs : List V} (h : Reps K H [d] vs) : ∃ v, vs = [v] ∧ Rep K H d v := by
  obtain ⟨v, ws, rfl, h1, h2⟩ := h
  have h2 : ws = [] := h2
  subst h2
  exact ⟨v, rfl, h1⟩
theorem Reps.of_two {d e : D} {vs : List V} (h : Reps K H [d, e] vs) : ∃ v u, vs = [v, u] ∧ Rep K H d v ∧ Rep K H e u := by
  obtain ⟨v, ws, rfl, h1, h2⟩ := h
  obtain ⟨u, e, h3⟩ := Reps.of_one h2
  subst e
  exact ⟨v, u, rfl, h1, h3⟩
end

/-! ### the store of lists that change -/
inductive MO where
  | lst (ds : List D)
  | hid (P : List D → Prop)
abbrev Store := List (Addr × MO)
abbrev Ro := List (Option D)
/-- what all defs of one text have in common -/
structure Gx where
  P : Program
  w : World
  K : PySem.W.Frag
  mg : Str → Option Value
  base : Heap
  T : List (Addr × Option Str)
/-- a def's (a block's) own: its names by slot, its scope, its room -/
structure Lx where
  g : Gx
  N : List Str
  sc : Scope
  n : Nat
  fn : Str → Bool
  cd : Option (Addr × Option Str) := none
  top : Bool := false
def MOk (K : PySem.W.Frag) (G H : Hp) (a : Addr) : MO → Prop
  | .lst ds => ∃ vs, H a = some (.lst vs) ∧ Reps K G ds vs
  | .hid P => ∃ ds vs, P ds ∧ H a = some (.lst vs) ∧ Reps K G ds vs
def TabOk (G H : Hp) (p : Addr × Option Str) : Prop := ∃ ps : Array Value, H p.1 = some (.tbl ps) ∧ TriplesOk ps.toList ∧ ∀ q, p.2 = some q → ∀ (pos : Pos) (cv : Value), codeAmong pos ps.toList = some cv → ∃ c, cv = .ref c ∧ G c = some (LamX.CodeO c q)
structure Sta (g : Gx) (G H : Hp) (M : Store) : Prop where
  ex : Same G H
  tie : ∀ p ∈ M, G p.1 = none ∧ MOk g.K G H p.1 p.2
  nd : (M.map (·.1)).Nodup
  tabs : ∀ p ∈ g.T, TabOk G H p
  nt : ∀ a ps, G a ≠ some (.tbl ps)
structure Mv (G : Hp) (M : Store) (H G' : Hp) (M' : Store) (H' : Hp) : Prop where
  g : Same G G'
  keep : ∀ b o, H b = some o → (∀ ps, o ≠ .tbl ps) → b ∉ M.map (·.1) → H' b = some o
  new : ∀ b, (G' b ≠ none ∨ b ∈ M'.map (·.1)) → G b ≠ none ∨ b ∈ M.map (·.1) ∨ H b = none
  dom : ∀ b, H b ≠ none → H' b ≠ none
theorem Mv.refl (G : Hp) (M : Store) (H : Hp) : Mv G M H G M H := ⟨Same.refl _, fun _ _ h _ _ => h, fun _ h => h.imp id .inl, fun _ h => h⟩
theorem Mv.trans {g : Gx} {G G1 G2 H H1 H2 : Hp} {M M1 M2 : Store} (s1 : Sta g G1 H1 M1) (a : Mv G M H G1 M1 H1) (b : Mv G1 M1 H1 G2 M2 H2) : Mv G M H G2 M2 H2 where
  g := a.g.trans b.g
  keep := fun c o h n hm => b.keep c o (a.keep c o h n hm) n fun hm1 => by
    rcases a.new c (.inr hm1) with z | z | z
    · obtain ⟨p, hp, e⟩ := List.mem_map.mp hm1
      have := (s1.tie p hp).1
      rw [e] at this
      cases q : G c with
      | none => exact z q
      | some u => rw [a.g c u q] at this; cases this
    · exact hm z
    · rw [h] at z; cases z
  new := fun c h => by
    rcases b.new c h with z | z | z
    · exact a.new c (.inl z)
    · exact a.new c (.inr z)
    · refine .inr (.inr ?_)
      cases q : H c with
      | none => rfl
      | some o => exact absurd z (a.dom c (by rw [q]; intro w; cases w))
  dom := fun c h => b.dom c (a.dom c h)

/-! ### a frame -/
structure Frm (K : PySem.W.Frag) (G : Hp) (σ : L2.St) (ρ : Ro) : Prop where
  len : σ.length = ρ.length
  at_ : ∀ (i : Nat) (d : D), ρ[i]? = some (some d) → ∃ v, σ[i]? = some (some v) ∧ Rep K G d v
theorem Frm.mono {K : PySem.W.Frag} {G G' : Hp} {σ : L2.St} {ρ : Ro} (e : Same G G') (h : Frm K G σ ρ) : Frm K G' σ ρ := ⟨h.len, fun i d hd => let ⟨v, h1, h2⟩ := h.at_ i d hd; ⟨v, h1, h2.mono e⟩⟩
theorem Frm.set {K : PySem.W.Frag} {G : Hp} {σ : L2.St} {ρ : Ro} {i : Nat} {d : D} {v : V} (h : Frm K G σ ρ) (r : Rep K G d v) : Frm K G (σ.set i (some v)) (ρ.set i (some d)) := by
  refine ⟨by simp [h.len], fun j e he => ?_⟩
  by_cases hj : i = j
  · subst hj
    by_cases hi : i < ρ.length
    · rw [List.getElem?_set_self hi] at he
      cases he
      exact ⟨v, List.getElem?_set_self (by rw [h.len]; exact hi), r⟩
    · rw [List.getElem?_eq_none (by simpa using hi)] at he; cases he
  · rw [List.getElem?_set_ne hj] at he ⊢
    exact h.at_ j e he
theorem Frm.unset {K : PySem.W.Frag} {G : Hp} {σ : L2.St} {ρ : Ro} {i : Nat} {x : Option V} (h : Frm K G σ ρ) : Frm K G (σ.set i x) (ρ.set i none) := by
  refine ⟨by simp [h.len], fun j e he => ?_⟩
  by_cases hj : i = j
  · subst hj
    by_cases hi : i < ρ.length
    · rw [List.getElem?_set_self hi] at he; cases he
    · rw [List.getElem?_eq_none (by simpa using hi)] at he; cases he
  · rw [List.getElem?_set_ne hj] at he ⊢
    exact h.at_ j e he

/-! ### the code's own context, by what a rule asks of it -/
/-- a def's code object and its table -/
def CdOk (g : Gx) (v : Value) (qual : Str) (cd : Option (Addr × Option Str)) : Prop := ∀ P k, cd = some (P, k) → (∃ c, v = .ref c ∧ GxR.TabB g.base g.mg c P) ∧ (P, k) ∈ g.T ∧ (∀ q ∈ g.T, q.1 = P → q.2 = k) ∧ ∀ q, k = some q → q = qual ++ "<lambda>"
theorem CdOk.none {g : Gx} {v : Value} {qual : Str} : CdOk g v qual none := fun P k e => by cases e
structure CI (L : Lx) (X : Cx) : Prop where
  prog : X.prog = L.g.P
  w : X.w = L.g.w
  K : X.K = L.g.K
  mg : X.mg = L.g.mg
  base : X.base = L.g.base
  N : X.N = L.N
  sc : X.env.scope = L.sc
  nd : L.N.Nodup
  calm : X.calm = true
  room : Room L.n X.A
  own : PassesOwn (model X.prog X.w) X.A X.env X.xe
  fn : X.fn = L.fn
  code : CdOk L.g X.env.code X.env.qual L.cd
  top : L.top = true → X.stack = X.env :: X.outer ∧ X.env.frame = some X.env.locals
/-- an exception of the class at C may leave at σ, H -/
def Thr (X : Cx) (C : Addr) (σ : L2.St) (H : Hp) : Prop := ∀ u s', XE X (fun cls d σ' H' => cls = .ref C ∧ d = none ∧ σ' = σ ∧ H' = H) u s' → X.xe u s'
def WT (X : Cx) : WX := fun cls d σ H => ∃ C, cls = .ref C ∧ d = none ∧ Thr X C σ H
theorem takesT (X : Cx) : Takes X (WT X) := fun u s' ⟨a, B, sI, pins, σ, H, cls, d, e, I, nb, up, sky, na, os, ag, C, ec, ed, t⟩ =>
  t u s' ⟨a, B, sI, pins, σ, H, cls, d, e, I, nb, up, sky, na, os, ag, ec, ed, rfl, rfl⟩
theorem Thr.of {X : Cx} {W : WX} (tk : Takes X W) {C : Addr} {σ : L2.St} {H : Hp} (h : W (.ref C) none σ H) : Thr X C σ H := fun u s' ⟨a, B, sI, pins, σ', H', cls, d, e, I, nb, up, sky, na, os, ag, ec, ed, e1, e2⟩ => by
  subst ec; subst ed; subst e1; subst e2
  exact tk u s' ⟨a, B, sI, pins, _, _, _, _, e, I, nb, up, sky, na, os, ag, h⟩

/-! ### the weakest readings -/
def Wp (X : Cx) (e : Expr) : TE := fun σ H Q => ∀ pins s, Inv X pins σ H s → wpAny (model X.prog X.w) X.A (eval e X.env) (EP X pins σ Q) X.xe s
def WpT (X : Cx) (e : Expr) : TT := fun σ H Q => ∀ pins s, Inv X pins σ H s → wpAny (model X.prog X.w) X.A (isTrue e X.env (eval e X.env)) (TP X pins σ Q) X.xe s
def WpW (X : Cx) (e : Expr) : TT := fun σ H Q => ∀ whole pins s, Inv X pins σ H s → wpAny (model X.prog X.w) X.A (isTrue e X.env whole) (TP X pins σ Q) X.xe s
def WpA (X : Cx) (es : List Expr) : TA := fun σ H Q => ∀ pos pins s, Inv X pins σ H s → wpAny (model X.prog X.w) X.A (spliced (backTo pos (starEach es X.env))) (AP X pins σ Q) X.xe s
def WpS (X : Cx) (st : Stmt) : TS := fun D σ H => ∀ pins s, Inv X pins σ H s → wpAny (model X.prog X.w) X.A (exec st X.env) (SP X pins D) X.xe s
def WpSs (X : Cx) (st : List Stmt) : TS := fun D σ H => ∀ pins s, Inv X pins σ H s → wpAny (model X.prog X.w) X.A (execs st X.env) (SP X pins D) X.xe s
section
variable {X : Cx} {e : Expr} {es : List Expr} {st : Stmt} {ss : List Stmt} {σ : L2.St} {H : Hp}
theorem pe_wp : PE X e (Wp X e) := ⟨fun pins s _ _ _ I h => h pins s I⟩
theorem pt_wp : PT X e (WpT X e) := ⟨fun pins s _ _ _ I h => h pins s I⟩
theorem pw_wp : PW X e (WpW X e) := ⟨fun wh pins s _ _ _ I h => h wh pins s I⟩
theorem pa_wp : PA X es (WpA X es) := ⟨fun pos pins s _ _ _ I h => h pos pins s I⟩
theorem ps_wp : PS X st (WpS X st) := ⟨fun pins s _ _ _ I h => h pins s I⟩
theorem pss_wp : PSs X ss (WpSs X ss) := ⟨fun pins s _ _ _ I h => h pins s I⟩
theorem wp_of {t : TE} {Q : VK} (h : PE X e t) (q : t σ H Q) : Wp X e σ H Q := fun pins s I => h.run pins s σ H Q I q
theorem wpT_of {t : TT} {Q : Bool → Hp → Prop} (h : PT X e t) (q : t σ H Q) : WpT X e σ H Q := fun pins s I => h.run pins s σ H Q I q
theorem wpW_of {t : TT} {Q : Bool → Hp → Prop} (h : PW X e t) (q : t σ H Q) : WpW X e σ H Q := fun wh pins s I => h.run wh pins s σ H Q I q
theorem wpA_of {t : TA} {Q : List V → Hp → Prop} (h : PA X es t) (q : t σ H Q) : WpA X es σ H Q := fun pos pins s I => h.run pos pins s σ H Q I q
theorem wpS_of {t : TS} {D : Ends} (h : PS X st t) (q : t D σ H) : WpS X st D σ H := fun pins s I => h.run pins s σ H D I q
theorem wpSs_of {t : TS} {D : Ends} (h : PSs X ss t) (q : t D σ H) : WpSs X ss D σ H := fun pins s I => h.run pins s σ H D I q
end

/-! ### the judgements -/
/-- where code goes on, and where an exception goes -/
def KX (g : Gx) (X : Cx) (σ : L2.St) (G : Hp) (M : Store) (H : Hp) (E : Addr → Store → Prop) : Prop := ∀ C G' M' H', Mv G M H G' M' H' → Sta g G' H' M' → E C M' → Thr X C σ H'
def KD (g : Gx) (G : Hp) (M : Store) (H : Hp) (Q : D → Store → Prop) (R : VK) : Prop := ∀ v d G' M' H', Mv G M H G' M' H' → Sta g G' H' M' → Rep g.K G' d v → Q d M' → R v H'
def Ev (L : Lx) (ρ : Ro) (M : Store) (e : Expr) (Q : D → Store → Prop) (E : Addr → Store → Prop) : Prop :=
  ∀ X, CI L X → ∀ σ G H (R : VK), Frm L.g.K G σ ρ → Sta L.g G H M → KD L.g G M H Q R → KX L.g X σ G M H E → Wp X e σ H R
def KA (g : Gx) (G : Hp) (M : Store) (H : Hp) (Q : List D → Store → Prop) (R : List V → Hp → Prop) : Prop := ∀ vs ds G' M' H', Mv G M H G' M' H' → Sta g G' H' M' → Reps g.K G' ds vs → Q ds M' → R vs H'
def EvA (L : Lx) (ρ : Ro) (M : Store) (es : List Expr) (Q : List D → Store → Prop) (E : Addr → Store → Prop) : Prop :=
  ∀ X, CI L X → ∀ σ G H (R : List V → Hp → Prop), Frm L.g.K G σ ρ → Sta L.g G H M → KA L.g G M H Q R → KX L.g X σ G M H E → WpA X es σ H R
def KB (g : Gx) (G : Hp) (M : Store) (H : Hp) (Q : Bool → Store → Prop) (R : Bool → Hp → Prop) : Prop := ∀ b G' M' H', Mv G M H G' M' H' → Sta g G' H' M' → Q b M' → R b H'
def EvT (L : Lx) (ρ : Ro) (M : Store) (e : Expr) (Q : Bool → Store → Prop) (E : Addr → Store → Prop) : Prop :=
  ∀ X, CI L X → ∀ σ G H (R : Bool → Hp → Prop), Frm L.g.K G σ ρ → Sta L.g G H M → KB L.g G M H Q R → KX L.g X σ G M H E → WpT X e σ H R
def EvW (L : Lx) (ρ : Ro) (M : Store) (e : Expr) (Q : Bool → Store → Prop) (E : Addr → Store → Prop) : Prop :=
  ∀ X, CI L X → ∀ σ G H (R : Bool → Hp → Prop), Frm L.g.K G σ ρ → Sta L.g G H M → KB L.g G M H Q R → KX L.g X σ G M H E → WpW X e σ H R
structure Post where
  nx : Ro → Store → Prop
  rt : D → Store → Prop
  bk : Ro → Store → Prop := fun _ _ => False
  ct : Ro → Store → Prop := fun _ _ => False
  ex : Addr → Store → Prop := fun _ _ => False
structure KS (g : Gx) (X : Cx) (G : Hp) (M : Store) (H : Hp) (P : Post) (Dn : Ends) : Prop where
  nx : ∀ σ' ρ' G' M' H', Frm g.K G' σ' ρ' → Mv G M H G' M' H' → Sta g G' H' M' → P.nx ρ' M' → Dn.nx σ' H'
  rt : KD g G M H P.rt Dn.rt
  bk : ∀ σ' ρ' G' M' H', Frm g.K G' σ' ρ' → Mv G M H G' M' H' → Sta g G' H' M' → P.bk ρ' M' → Dn.bk σ' H'
  ct : ∀ σ' ρ' G' M' H', Frm g.K G' σ' ρ' → Mv G M H G' M' H' → Sta g G' H' M' → P.ct ρ' M' → Dn.ct σ' H'
  ex : ∀ σ', KX g X σ' G M H P.ex
def Stm (L : Lx) (ρ : Ro) (M : Store) (st : Stmt) (P : Post) : Prop :=
  ∀ X, CI L X → ∀ σ G H Dn, Frm L.g.K G σ ρ → Sta L.g G H M → KS L.g X G M H P Dn → WpS X st Dn σ H
def Run (L : Lx) (ρ : Ro) (M : Store) (ss : List Stmt) (P : Post) : Prop :=
  ∀ X, CI L X → ∀ σ G H Dn, Frm L.g.K G σ ρ → Sta L.g G H M → KS L.g X G M H P Dn → WpSs X ss Dn σ H
abbrev NoE : Addr → Store → Prop := fun _ _ => False
/-- it comes to v, nothing else -/
abbrev Is (v : D) (M : Store) : D → Store → Prop := fun d M' => d = v ∧ M' = M
abbrev EvD (L : Lx) (ρ : Ro) (M : Store) (e : Expr) (v : D) : Prop := Ev L ρ M e (Is v M) NoE
abbrev EvTD (L : Lx) (ρ : Ro) (M : Store) (e : Expr) (b : Bool) : Prop := EvT L ρ M e (fun c M' => c = b ∧ M' = M) NoE
abbrev EvWD (L : Lx) (ρ : Ro) (M : Store) (e : Expr) (b : Bool) : Prop := EvW L ρ M e (fun c M' => c = b ∧ M' = M) NoE
abbrev EvAD (L : Lx) (ρ : Ro) (M : Store) (es : List Expr) (vs : List D) : Prop := EvA L ρ M es (fun ds M' => ds = vs ∧ M' = M) NoE

/-! ### plumbing -/
section
variable {g : Gx} {X : Cx} {σ : L2.St} {G G1 H H1 : Hp} {M M1 : Store}
theorem KX.move {E : Addr → Store → Prop} (k : KX g X σ G M H E) (s1 : Sta g G1 H1 M1) (m : Mv G M H G1 M1 H1) : KX g X σ G1 M1 H1 E := fun C G' M' H' m' s' e => k C G' M' H' (m.trans s1 m') s' e
theorem KD.move {Q : D → Store → Prop} {R : VK} (k : KD g G M H Q R) (s1 : Sta g G1 H1 M1) (m : Mv G M H G1 M1 H1) : KD g G1 M1 H1 Q R := fun v d G' M' H' m' s' r q => k v d G' M' H' (m.trans s1 m') s' r q
theorem KA.move {Q : List D → Store → Prop} {R : List V → Hp → Prop} (k : KA g G M H Q R) (s1 : Sta g G1 H1 M1) (m : Mv G M H G1 M1 H1) : KA g G1 M1 H1 Q R := fun v d G' M' H' m' s' r q => k v d G' M' H' (m.trans s1 m') s' r q
theorem KB.move {Q : Bool → Store → Prop} {R : Bool → Hp → Prop} (k : KB g G M H Q R) (s1 : Sta g G1 H1 M1) (m : Mv G M H G1 M1 H1) : KB g G1 M1 H1 Q R := fun v G' M' H' m' s' q => k v G' M' H' (m.trans s1 m') s' q
theorem KS.move {P : Post} {Dn : Ends} (k : KS g X G M H P Dn) (s1 : Sta g G1 H1 M1) (m : Mv G M H G1 M1 H1) : KS g X G1 M1 H1 P Dn :=
  ⟨fun σ' ρ' G' M' H' f m' s' q => k.nx σ' ρ' G' M' H' f (m.trans s1 m') s' q, k.rt.move s1 m, fun σ' ρ' G' M' H' f m' s' q => k.bk σ' ρ' G' M' H' f (m.trans s1 m') s' q, fun σ' ρ' G' M' H' f m' s' q => k.ct σ' ρ' G' M' H' f (m.trans s1 m') s' q, fun σ' => (k.ex σ').move s1 m⟩
theorem KX.none : KX g X σ G M H NoE := fun _ _ _ _ _ _ e => e.elim
end
section
variable {L : Lx} {ρ : Ro} {M : Store} {e : Expr} {Q Q' : D → Store → Prop} {E E' : Addr → Store → Prop}
theorem Ev.mono (h : Ev L ρ M e Q E) (hq : ∀ d M', Q d M' → Q' d M') (he : ∀ C M', E C M' → E' C M') : Ev L ρ M e Q' E' := fun X ci σ G H R f s k x =>
  h X ci σ G H R f s (fun v d G' M' H' m s' r q => k v d G' M' H' m s' r (hq _ _ q)) (fun C G' M' H' m s' q => x C G' M' H' m s' (he _ _ q))
theorem EvD.go {v : D} (h : EvD L ρ M e v) (q : Q v M) : Ev L ρ M e Q E := Ev.mono h (fun d M' ⟨e1, e2⟩ => by rw [e1, e2]; exact q) fun _ _ z => z.elim
theorem EvT.mono {Q Q' : Bool → Store → Prop} (h : EvT L ρ M e Q E) (hq : ∀ d M', Q d M' → Q' d M') (he : ∀ C M', E C M' → E' C M') : EvT L ρ M e Q' E' := fun X ci σ G H R f s k x =>
  h X ci σ G H R f s (fun b G' M' H' m s' q => k b G' M' H' m s' (hq _ _ q)) (fun C G' M' H' m s' q => x C G' M' H' m s' (he _ _ q))
theorem EvTD.go {b : Bool} {Q : Bool → Store → Prop} (h : EvTD L ρ M e b) (q : Q b M) : EvT L ρ M e Q E := EvT.mono h (fun d M' ⟨e1, e2⟩ => by rw [e1, e2]; exact q) fun _ _ z => z.elim
theorem EvW.mono {Q Q' : Bool → Store → Prop} (h : EvW L ρ M e Q E) (hq : ∀ d M', Q d M' → Q' d M') (he : ∀ C M', E C M' → E' C M') : EvW L ρ M e Q' E' := fun X ci σ G H R f s k x =>
  h X ci σ G H R f s (fun b G' M' H' m s' q => k b G' M' H' m s' (hq _ _ q)) (fun C G' M' H' m s' q => x C G' M' H' m s' (he _ _ q))
theorem EvWD.go {b : Bool} {Q : Bool → Store → Prop} (h : EvWD L ρ M e b) (q : Q b M) : EvW L ρ M e Q E := EvW.mono h (fun d M' ⟨e1, e2⟩ => by rw [e1, e2]; exact q) fun _ _ z => z.elim
theorem EvA.mono {es : List Expr} {Q Q' : List D → Store → Prop} (h : EvA L ρ M es Q E) (hq : ∀ d M', Q d M' → Q' d M') (he : ∀ C M', E C M' → E' C M') : EvA L ρ M es Q' E' := fun X ci σ G H R f s k x =>
  h X ci σ G H R f s (fun b d G' M' H' m s' r q => k b d G' M' H' m s' r (hq _ _ q)) (fun C G' M' H' m s' q => x C G' M' H' m s' (he _ _ q))
theorem EvAD.go {es : List Expr} {vs : List D} {Q : List D → Store → Prop} (h : EvAD L ρ M es vs) (q : Q vs M) : EvA L ρ M es Q E := EvA.mono h (fun d M' ⟨e1, e2⟩ => by rw [e1, e2]; exact q) fun _ _ z => z.elim
theorem EvW.t (h : EvW L ρ M e Q2 E) : EvT L ρ M e Q2 E := fun X ci σ G H R f s k x pins s' I => h X ci σ G H R f s k x _ pins s' I

/-! ### new things -/
variable {g : Gx} {G H : Hp} {p : Addr} {o : HO}
theorem Sta.free (s : Sta g G H M) (n : H p = none) : G p = none := by
  cases q : G p with
  | none => rfl
  | some u => rw [s.ex p u q] at n; cases n
theorem Sta.notin (s : Sta g G H M) (n : H p = none) : p ∉ M.map (·.1) := fun hm => by
  obtain ⟨q, hq, e⟩ := List.mem_map.mp hm
  obtain ⟨_, h⟩ := s.tie q hq
  cases hq2 : q.2 with
  | lst ds =>
    rw [hq2] at h
    obtain ⟨vs, h, _⟩ := h
    rw [e, n] at h; cases h
  | hid P =>
    rw [hq2] at h
    obtain ⟨ds, vs, _, h, _⟩ := h
    rw [e, n] at h; cases h
theorem MOk.mono {K : PySem.W.Frag} {G' H' : Hp} {a : Addr} {m : MO} (eg : Same G G') (eh : ∀ vs, H a = some (.lst vs) → H' a = some (.lst vs)) (h : MOk K G H a m) : MOk K G' H' a m := by
  cases m with
  | lst ds =>
    obtain ⟨vs, h1, h2⟩ := h
    exact ⟨vs, eh _ h1, h2.mono eg⟩
  | hid P =>
    obtain ⟨ds, vs, h0, h1, h2⟩ := h
    exact ⟨ds, vs, h0, eh _ h1, h2.mono eg⟩
theorem TabOk.mono {G G' H' : Hp} {q : Addr × Option Str} (eg : Same G G') (e : ∀ ps, H q.1 = some (.tbl ps) → H' q.1 = some (.tbl ps)) (h : TabOk G H q) : TabOk G' H' q := by
  obtain ⟨ps, h1, h2, h3⟩ := h
  refine ⟨ps, e _ h1, h2, fun x hx pos cv hc => ?_⟩
  obtain ⟨c, e1, e2⟩ := h3 x hx pos cv hc
  exact ⟨c, e1, eg _ _ e2⟩
theorem same_new (n : H p = none) : Same H (upd H p o) := fun b u e => by rw [upd_ne (ne_of_none e n)]; exact e
theorem same_upd {G' : Hp} (e : Same G H) (nG : G p = none) : Same G (upd H p o) := fun b u hb => by rw [upd_ne (ne_of_none hb nG)]; exact e b u hb
/-- a new object, known from now on -/
theorem Sta.newG (s : Sta g G H M) (n : H p = none) (ht : ∀ ps, o ≠ .tbl ps) : Sta g (upd G p o) (upd H p o) M ∧ Mv G M H (upd G p o) M (upd H p o) := by
  have nG := s.free n
  have nM := s.notin n
  refine ⟨⟨fun b u e => ?_, fun q hq => ?_, s.nd, fun q hq => (s.tabs q hq).mono (same_new nG) (fun ps e => same_new n _ _ e), fun a ps e => ?_⟩, ⟨same_new nG, fun b u e _ _ => same_new n b u e, fun b h => ?_, fun b h => ?_⟩⟩
  · by_cases hb : b = p
    · subst hb; rw [upd_same] at e ⊢; exact e
    · rw [upd_ne hb] at e ⊢; exact s.ex b u e
  · have hne : q.1 ≠ p := fun z => nM (List.mem_map.mpr ⟨q, hq, z⟩)
    obtain ⟨h1, h2⟩ := s.tie q hq
    refine ⟨by rw [upd_ne hne]; exact h1, h2.mono (same_new nG) fun vs e => by rw [upd_ne hne]; exact e⟩
  · by_cases ha : a = p
    · subst ha; rw [upd_same] at e; exact ht ps (Option.some.inj e)
    · rw [upd_ne ha] at e; exact s.nt a ps e
  · by_cases hb : b = p
    · subst hb; exact .inr (.inr n)
    · rcases h with h | h
      · rw [upd_ne hb] at h; exact .inl h
      · exact .inr (.inl h)
  · by_cases hb : b = p
    · subst hb; exact absurd n h
    · rw [upd_ne hb]; exact h
/-- a new list that will change -/
theorem Sta.newM (s : Sta g G H M) (n : H p = none) {ds : List D} {vs : List V} (r : Reps g.K G ds vs) : Sta g G (upd H p (.lst vs)) ((p, .lst ds) :: M) ∧ Mv G M H G ((p, .lst ds) :: M) (upd H p (.lst vs)) := by
  have nG := s.free n
  have nM := s.notin n
  refine ⟨⟨same_upd (G' := G) s.ex nG, fun q hq => ?_, ?_, fun q hq => (s.tabs q hq).mono (Same.refl _) (fun ps e => same_new n _ _ e), s.nt⟩, ⟨Same.refl _, fun b u e _ _ => same_new n b u e, fun b h => ?_, fun b h => ?_⟩⟩
  · rcases List.mem_cons.mp hq with rfl | hq
    · exact ⟨nG, vs, upd_same, r⟩
    · have hne : q.1 ≠ p := fun z => nM (List.mem_map.mpr ⟨q, hq, z⟩)
      obtain ⟨h1, h2⟩ := s.tie q hq
      exact ⟨h1, h2.mono (Same.refl _) fun ws e => by rw [upd_ne hne]; exact e⟩
  · exact List.nodup_cons.mpr ⟨nM, s.nd⟩
  · rcases h with h | h
    · exact .inl h
    · rcases List.mem_cons.mp h with rfl | h
      · exact .inr (.inr n)
      · exact .inr (.inl h)
  · by_cases hb : b = p
    · subst hb; exact absurd n h
    · rw [upd_ne hb]; exact h
theorem nodup_at : ∀ {l : List Addr} {i j : Nat} {a : Addr}, l.Nodup → l[i]? = some a → l[j]? = some a → i = j := fun hn a b => L2.nd_ix hn a b
/-- a list of the store is written -/
theorem Sta.put (s : Sta g G H M) {j : Nat} {m : MO} {ds' : List D} {vs' : List V} (hj : M[j]? = some (p, m)) (r : Reps g.K G ds' vs') : Sta g G (upd H p (.lst vs')) (M.set j (p, .lst ds')) ∧ Mv G M H G (M.set j (p, .lst ds')) (upd H p (.lst vs')) := by
  have hm : (p, m) ∈ M := List.mem_of_getElem? hj
  have nG : G p = none := (s.tie _ hm).1
  have hpM : p ∈ M.map (·.1) := List.mem_map.mpr ⟨_, hm, rfl⟩
  have em : (M.set j (p, MO.lst ds')).map (·.1) = M.map (·.1) := by
    rw [List.map_set]
    refine List.ext_getElem? fun i => ?_
    by_cases hi : j = i
    · subst hi
      have hl : j < (M.map (·.1)).length := by rw [List.length_map]; exact (List.getElem?_eq_some_iff.mp hj).1
      rw [List.getElem?_set_self hl, List.getElem?_map, hj]; rfl
    · rw [List.getElem?_set_ne hi]
  have hlst : ∃ vs, H p = some (.lst vs) := by
    obtain ⟨_, h⟩ := s.tie _ hm
    cases m with
    | lst ds => obtain ⟨vs, h, _⟩ := h; exact ⟨vs, h⟩
    | hid P => obtain ⟨ds, vs, _, h, _⟩ := h; exact ⟨vs, h⟩
  obtain ⟨vs0, h0⟩ := hlst
  refine ⟨⟨same_upd (G' := G) s.ex nG, fun q hq => ?_, by rw [em]; exact s.nd, fun q hq => ?_, s.nt⟩, ⟨Same.refl _, fun b u e _ hb => ?_, fun b h => ?_, fun b h => ?_⟩⟩
  · obtain ⟨i, hi⟩ := List.mem_iff_getElem?.mp hq
    by_cases hij : j = i
    · subst hij
      rw [List.getElem?_set_self (List.getElem?_eq_some_iff.mp hj).1] at hi
      cases hi
      exact ⟨nG, vs', upd_same, r⟩
    · rw [List.getElem?_set_ne hij] at hi
      have hqM : q ∈ M := List.mem_of_getElem? hi
      have hne : q.1 ≠ p := fun z => hij (nodup_at (i := j) (j := i) (a := p) s.nd (by rw [List.getElem?_map, hj]; rfl) (by rw [List.getElem?_map, hi]; show some q.1 = some p; rw [z]))
      obtain ⟨h1, h2⟩ := s.tie q hqM
      exact ⟨h1, h2.mono (Same.refl _) fun ws e => by rw [upd_ne hne]; exact e⟩
  · refine (s.tabs q hq).mono (Same.refl _) fun ps e => ?_
    rw [upd_ne (fun z => by rw [z, h0] at e; cases e)]
    exact e
  · rw [upd_ne (fun z => hb (by rw [z]; exact hpM))]; exact e
  · rw [em] at h; exact h.imp id .inl
  · by_cases hb : b = p
    · subst hb; rw [upd_same]; intro z; cases z
    · rw [upd_ne hb]; exact h
end
end DL
set_option Elab.async false
set_option linter.all false
set_option maxRecDepth 100000
set_option maxHeartbeats 4000000
/-! DB: the rules of expressions. -/
namespace DL
open PySem L2

section
variable {L : Lx} {ρ : Ro} {M : Store} {Q : D → Store → Prop} {E : Addr → Store → Prop} {a b c : Expr} {pos : Pos}

/-! ### names, constants -/
theorem CI.kind {X : Cx} (ci : CI L X) (x : Str) : X.env.kindOf x = L.sc.names.lookup x := by
  show X.env.scope.names.lookup x = _
  rw [ci.sc]
theorem CI.gl {X : Cx} (ci : CI L X) {x : Str} (h : L.sc.names.lookup x = some .globalImplicit) : Gl X x := by
  show X.env.kindOf x = _
  rw [ci.kind]; exact h
theorem CI.vis {X : Cx} (ci : CI L X) {x : Str} (h : Vis L.sc x) : Vis X.env.scope x := by rw [ci.sc]; exact h
theorem ev_var {i : Nat} {x : Str} {d : D} (hd : ρ[i]? = some (some d)) (hN : L.N[i]? = some x) (hv : Vis L.sc x) (q : Q d M)
    (hx : (x == ("__debug__" : Str)) = false := by decide) (hcd : (x == ("__classdict__" : Str)) = false := by decide) : Ev L ρ M (.Name x pos) Q E := fun X ci σ G H R f s k _ => by
  obtain ⟨v, hs, r⟩ := f.at_ i d hd
  exact wp_of (pe_var (X := X) (i := i) (by rw [ci.N]; exact hN) (ci.vis hv) hx hcd) ⟨v, hs, k v d G M H (.refl ..) s r q⟩
theorem ev_int {i : Int} {j : Nat} (q : Q (.int i) M) : Ev L ρ M (.Constant (.int i) j pos) Q E := fun X ci σ G H R f s k _ => wp_of pe_int (k _ _ G M H (.refl ..) s rep_int q)
theorem ev_bl {i : Bool} {j : Nat} (q : Q (.bl i) M) : Ev L ρ M (.Constant (.bool i) j pos) Q E := fun X ci σ G H R f s k _ => wp_of pe_bl (k _ _ G M H (.refl ..) s rep_bl q)
theorem ev_non {j : Nat} (q : Q .non M) : Ev L ρ M (.Constant .none j pos) Q E := fun X ci σ G H R f s k _ => wp_of pe_non (k _ _ G M H (.refl ..) s rep_non q)
theorem ev_str {i : Str} {j : Nat} (q : Q (.str i) M) : Ev L ρ M (.Constant (.str i) j pos) Q E := fun X ci σ G H R f s k _ => wp_of pe_str (k _ _ G M H (.refl ..) s rep_str q)
/-- what stands in the written part: a constant of the module -/
structure KRep (g : Gx) (x : Str) (d : D) : Prop where
  ex : ∃ u v, g.mg x = some u ∧ RelV v u ∧ ∀ G, Rep g.K G d v
theorem ev_glob {x : Str} {d : D} (h : KRep L.g x d) (hg : L.sc.names.lookup x = some .globalImplicit) (q : Q d M) (hx : (x == ("__debug__" : Str)) = false := by decide) : Ev L ρ M (.Name x pos) Q E := fun X ci σ G H R f s k _ => by
  obtain ⟨u, v, h1, h2, h3⟩ := h.ex
  exact wp_of (pe_glob (ci.gl hg) (by rw [ci.mg]; exact h1) h2 hx) (k v d G M H (.refl ..) s (h3 G) q)
theorem d_var {i : Nat} {x : Str} {d : D} (hd : ρ[i]? = some (some d)) (hN : L.N[i]? = some x) (hv : Vis L.sc x)
    (hx : (x == ("__debug__" : Str)) = false := by decide) (hcd : (x == ("__classdict__" : Str)) = false := by decide) : EvD L ρ M (.Name x pos) d := ev_var hd hN hv ⟨rfl, rfl⟩ hx hcd
theorem d_int {i : Int} {j : Nat} : EvD L ρ M (.Constant (.int i) j pos) (.int i) := ev_int ⟨rfl, rfl⟩
theorem d_bl {i : Bool} {j : Nat} : EvD L ρ M (.Constant (.bool i) j pos) (.bl i) := ev_bl ⟨rfl, rfl⟩
theorem d_non {j : Nat} : EvD L ρ M (.Constant .none j pos) .non := ev_non ⟨rfl, rfl⟩
theorem d_str {i : Str} {j : Nat} : EvD L ρ M (.Constant (.str i) j pos) (.str i) := ev_str ⟨rfl, rfl⟩
theorem d_glob {x : Str} {d : D} (h : KRep L.g x d) (hg : L.sc.names.lookup x = some .globalImplicit) (hx : (x == ("__debug__" : Str)) = false := by decide) : EvD L ρ M (.Name x pos) d := ev_glob h hg ⟨rfl, rfl⟩ hx

/-! ### two operands -/
/-- what an operation on values asks -/
def O2 (L : Lx) (r : Cx → R2) (x y : D) (M : Store) (Q : D → Store → Prop) : Prop :=
  ∀ X, CI L X → ∀ G H v u (R : VK), Sta L.g G H M → Rep L.g.K G x v → Rep L.g.K G y u → KD L.g G M H Q R → r X v u H R
theorem ev_op {op : Operator} {r : Cx → R2} (ho : ∀ X, CI L X → OpR X (binaryOp op) (r X)) (ha : Ev L ρ M a (fun x M1 => Ev L ρ M1 b (fun y M2 => O2 L r x y M2 Q) E) E) : Ev L ρ M (.BinOp a op b pos) Q E := fun X ci σ G H R f s k x =>
  wp_of (pe_op (ho X ci) pe_wp pe_wp) (ha X ci σ G H _ f s (fun v d G1 M1 H1 m1 s1 r1 q1 =>
    q1 X ci σ G1 H1 _ (f.mono m1.g) s1 (fun u e G2 M2 H2 m2 s2 r2 q2 => q2 X ci G2 H2 v u R s2 (r1.mono m2.g) r2 ((k.move s1 m1).move s2 m2)) (x.move s1 m1)) x)
theorem ev_cmp {op : CmpOp} {r : Cx → R2} (ho : ∀ X, CI L X → OpR X (compareOp op) (r X)) (hm : behindInMarks op b = false) (ha : Ev L ρ M a (fun x M1 => Ev L ρ M1 b (fun y M2 => O2 L r x y M2 Q) E) E) : Ev L ρ M (.Compare a [op] [b] pos) Q E := fun X ci σ G H R f s k x =>
  wp_of (pe_cmpR (ho X ci) pe_wp pe_wp hm) (ha X ci σ G H _ f s (fun v d G1 M1 H1 m1 s1 r1 q1 =>
    q1 X ci σ G1 H1 _ (f.mono m1.g) s1 (fun u e G2 M2 H2 m2 s2 r2 q2 => q2 X ci G2 H2 v u R s2 (r1.mono m2.g) r2 ((k.move s1 m1).move s2 m2)) (x.move s1 m1)) x)
/-- a comparison's answer is a bool -/
def O2b (L : Lx) (r : Cx → R2) (x y : D) (M : Store) (Q : Bool → Store → Prop) : Prop := O2 L r x y M fun d M' => ∃ c, d = .bl c ∧ Q c M'
theorem et_cmp {op : CmpOp} {r : Cx → R2} {Q : Bool → Store → Prop} (ho : ∀ X, CI L X → OpR X (compareOp op) (r X)) (hm : behindInMarks op b = false) (ha : Ev L ρ M a (fun x M1 => Ev L ρ M1 b (fun y M2 => O2b L r x y M2 Q) E) E) : EvT L ρ M (.Compare a [op] [b] pos) Q E := fun X ci σ G H R f s k x =>
  wpT_of (pt_cmpR (ho X ci) pe_wp pe_wp hm) (ha X ci σ G H _ f s (fun v d G1 M1 H1 m1 s1 r1 q1 =>
    q1 X ci σ G1 H1 _ (f.mono m1.g) s1 (fun u e G2 M2 H2 m2 s2 r2 q2 => q2 X ci G2 H2 v u _ s2 (r1.mono m2.g) r2 (fun w d G' M' H' m' s' r' ⟨c, ec, qc⟩ => by
      subst ec
      obtain rfl : w = .bl c := r'
      exact ⟨c, rfl, ((k.move s1 m1).move s2 m2) c G' M' H' m' s' qc⟩)) (x.move s1 m1)) x)

/-! ### the operations -/
def rAddI : Cx → R2 := fun _ => rI0 fun i j => .int (i + j)
def rSubI : Cx → R2 := fun _ => rI0 fun i j => .int (i - j)
def rMulI : Cx → R2 := fun _ => rI CMulW fun i j => .int (i * j)
def COk (j : Int) : Prop := j ≠ 0 ∧ (j.natAbs < 1073741824 ∨ (0 < j ∧ j.natAbs.log2 < 9000))
theorem op_fdivD {X : Cx} : OpR X (binaryOp .FloorDiv) (rI (fun _ j => COk j) fun i j => .int (i.fdiv j)) := opI fun i j _ _ _ _ _ hc q => by
  rcases hc.2 with h | ⟨h1, h2⟩
  · exact PyProof.Rows.floordiv_int hc.1 q (.inl (PyProof.noPylong_small h))
  · exact PyProof.Rows.floordiv_int hc.1 q (.inl (PyProof.noPylong_of_log2 h2))
def rDivI : Cx → R2 := fun _ => rI (fun _ j => COk j) fun i j => .int (i.fdiv j)
def rModI : Cx → R2 := fun _ => rI (fun _ j => j ≠ 0) fun i j => .int (i.fmod j)
def rPowI : Cx → R2 := fun _ => rI CPow fun i j => .int (i ^ j.toNat)
theorem o2_flat {r : Cx → R2} {x y z : D} (hf : ∀ G, Rep L.g.K G z (vz)) (h : ∀ X, CI L X → ∀ G H v u (R : VK), Sta L.g G H M → Rep L.g.K G x v → Rep L.g.K G y u → R vz H → r X v u H R) (q : Q z M) : O2 L r x y M Q := fun X ci G H v u R s r1 r2 k =>
  h X ci G H v u R s r1 r2 (k _ _ G M H (.refl ..) s (hf G) q)
theorem o_add {i j : Int} (q : Q (.int (i + j)) M) : O2 L rAddI (.int i) (.int j) M Q := o2_flat (fun _ => rep_int) (fun X ci G H v u R s r1 r2 k => ⟨i, j, r1, r2, k⟩) q
theorem o_sub {i j : Int} (q : Q (.int (i - j)) M) : O2 L rSubI (.int i) (.int j) M Q := o2_flat (fun _ => rep_int) (fun X ci G H v u R s r1 r2 k => ⟨i, j, r1, r2, k⟩) q
theorem o_mul {i j : Int} (h : CMulW i j) (q : Q (.int (i * j)) M) : O2 L rMulI (.int i) (.int j) M Q := o2_flat (fun _ => rep_int) (fun X ci G H v u R s r1 r2 k => ⟨i, j, r1, r2, h, k⟩) q
theorem o_div {i j : Int} (h : COk j) (q : Q (.int (i.fdiv j)) M) : O2 L rDivI (.int i) (.int j) M Q := o2_flat (fun _ => rep_int) (fun X ci G H v u R s r1 r2 k => ⟨i, j, r1, r2, h, k⟩) q
theorem o_mod {i j : Int} (h : j ≠ 0) (q : Q (.int (i.fmod j)) M) : O2 L rModI (.int i) (.int j) M Q := o2_flat (fun _ => rep_int) (fun X ci G H v u R s r1 r2 k => ⟨i, j, r1, r2, h, k⟩) q
theorem o_pow {i j : Int} (h : CPow i j) (q : Q (.int (i ^ j.toNat)) M) : O2 L rPowI (.int i) (.int j) M Q := o2_flat (fun _ => rep_int) (fun X ci G H v u R s r1 r2 k => ⟨i, j, r1, r2, h, k⟩) q
theorem d_add {i j : Int} (h1 : EvD L ρ M a (.int i)) (h2 : EvD L ρ M b (.int j)) : EvD L ρ M (.BinOp a .Add b pos) (.int (i + j)) := ev_op (r := rAddI) (fun _ _ => op_add) (h1.go (h2.go (o_add ⟨rfl, rfl⟩)))
theorem d_sub {i j : Int} (h1 : EvD L ρ M a (.int i)) (h2 : EvD L ρ M b (.int j)) : EvD L ρ M (.BinOp a .Sub b pos) (.int (i - j)) := ev_op (r := rSubI) (fun _ _ => op_sub) (h1.go (h2.go (o_sub ⟨rfl, rfl⟩)))
theorem d_mul {i j : Int} (h1 : EvD L ρ M a (.int i)) (h2 : EvD L ρ M b (.int j)) (h : CMulW i j) : EvD L ρ M (.BinOp a .Mult b pos) (.int (i * j)) := ev_op (r := rMulI) (fun _ _ => op_mulW) (h1.go (h2.go (o_mul h ⟨rfl, rfl⟩)))
theorem d_div {i j : Int} (h1 : EvD L ρ M a (.int i)) (h2 : EvD L ρ M b (.int j)) (h : COk j) : EvD L ρ M (.BinOp a .FloorDiv b pos) (.int (i.fdiv j)) := ev_op (r := rDivI) (fun _ _ => op_fdivD) (h1.go (h2.go (o_div h ⟨rfl, rfl⟩)))
theorem d_mod {i j : Int} (h1 : EvD L ρ M a (.int i)) (h2 : EvD L ρ M b (.int j)) (h : j ≠ 0) : EvD L ρ M (.BinOp a .Mod b pos) (.int (i.fmod j)) := ev_op (r := rModI) (fun _ _ => op_modN) (h1.go (h2.go (o_mod h ⟨rfl, rfl⟩)))
theorem d_pow {i j : Int} (h1 : EvD L ρ M a (.int i)) (h2 : EvD L ρ M b (.int j)) (h : CPow i j) : EvD L ρ M (.BinOp a .Pow b pos) (.int (i ^ j.toNat)) := ev_op (r := rPowI) (fun _ _ => op_pow) (h1.go (h2.go (o_pow h ⟨rfl, rfl⟩)))
/-- a bool less a bool -/
theorem op_subB {X : Cx} : OpR X (binaryOp .Sub) (fun x y H Q => ∃ i j, x = .bl i ∧ y = .bl j ∧ Q (.int ((if i then 1 else 0) - (if j then 1 else 0))) H) := by
  intro pins s σ H x y v u Q I rx ry h
  obtain ⟨i, k, rfl, rfl, q⟩ := h
  cases rx; cases ry
  exact PyProof.Rows.sub_bool ⟨.int _, H, I.tok _, ⟨_, by cases i <;> cases k <;> rfl⟩, q⟩
theorem d_subB {i j : Bool} (h1 : EvD L ρ M a (.bl i)) (h2 : EvD L ρ M b (.bl j)) : EvD L ρ M (.BinOp a .Sub b pos) (.int ((if i then 1 else 0) - (if j then 1 else 0))) :=
  ev_op (r := fun _ => fun x y H Q => ∃ i j, x = .bl i ∧ y = .bl j ∧ Q (.int ((if i then 1 else 0) - (if j then 1 else 0))) H) (fun _ _ => op_subB) (h1.go (h2.go (o2_flat (fun _ => rep_int) (fun X ci G H v u R s r1 r2 k => ⟨i, j, r1, r2, k⟩) ⟨rfl, rfl⟩)))
theorem op_negD {X : Cx} : UnR X (unaryOp .USub) (rU fun i => .int (-i)) := un_neg
theorem ev_neg (h : Ev L ρ M a (fun x M1 => ∃ i, x = .int i ∧ Q (.int (-i)) M1) E) : Ev L ρ M (.UnaryOp .USub a pos) Q E := fun X ci σ G H R f s k x =>
  wp_of (pe_un un_neg pe_wp) (h X ci σ G H _ f s (fun v d G1 M1 H1 m1 s1 r1 ⟨i, e, q⟩ => by subst e; exact ⟨i, r1, k _ _ G1 M1 H1 m1 s1 rep_int q⟩) x)
theorem d_neg {i : Int} (h : EvD L ρ M a (.int i)) : EvD L ρ M (.UnaryOp .USub a pos) (.int (-i)) := ev_neg (h.go ⟨i, rfl, rfl, rfl⟩)
/-- list + list -/
theorem o_cat {ds es : List D} (hz : ds.length + es.length ≤ 100000) (q : Q (.lst (ds ++ es)) M) : O2 L (fun _ => rCat) (.lst ds) (.lst es) M Q := fun X ci G H v u R s r1 r2 k => by
  obtain ⟨a, vs, rfl, h1, q1⟩ := r1
  obtain ⟨b, us, rfl, h2, q2⟩ := r2
  have e1 := q1.length
  have e2 := q2.length
  refine ⟨a, b, vs, us, rfl, rfl, s.ex _ _ h1, s.ex _ _ h2, Nat.le_trans (by rw [e1, e2]; exact hz) (by decide), fun p np => ?_⟩
  obtain ⟨s', m'⟩ := s.newG (o := .lst (vs ++ us)) np (fun ps z => by cases z)
  exact k _ (.lst (ds ++ es)) _ M _ m' s' ⟨p, vs ++ us, rfl, upd_same, (q1.append q2).mono m'.g⟩ q
theorem d_cat {ds es : List D} (h1 : EvD L ρ M a (.lst ds)) (h2 : EvD L ρ M b (.lst es)) (hz : ds.length + es.length ≤ 100000) : EvD L ρ M (.BinOp a .Add b pos) (.lst (ds ++ es)) := ev_op (r := fun _ => rCat) (fun _ _ => op_cat) (h1.go (h2.go (o_cat hz ⟨rfl, rfl⟩)))

/-! ### comparisons -/
def rLtI : Cx → R2 := fun _ => rI0 fun i j => .bl (decide (i < j))
def rLeI : Cx → R2 := fun _ => rI0 fun i j => .bl (decide (i ≤ j))
def rGtI : Cx → R2 := fun _ => rI0 fun i j => .bl (decide (j < i))
def rGeI : Cx → R2 := fun _ => rI0 fun i j => .bl (decide (j ≤ i))
theorem o_lt {i j : Int} (q : Q (.bl (decide (i < j))) M) : O2 L rLtI (.int i) (.int j) M Q := o2_flat (fun _ => rep_bl) (fun X ci G H v u R s r1 r2 k => ⟨i, j, r1, r2, k⟩) q
theorem o_le {i j : Int} (q : Q (.bl (decide (i ≤ j))) M) : O2 L rLeI (.int i) (.int j) M Q := o2_flat (fun _ => rep_bl) (fun X ci G H v u R s r1 r2 k => ⟨i, j, r1, r2, k⟩) q
theorem o_gt {i j : Int} (q : Q (.bl (decide (j < i))) M) : O2 L rGtI (.int i) (.int j) M Q := o2_flat (fun _ => rep_bl) (fun X ci G H v u R s r1 r2 k => ⟨i, j, r1, r2, k⟩) q
theorem o_ge {i j : Int} (q : Q (.bl (decide (j ≤ i))) M) : O2 L rGeI (.int i) (.int j) M Q := o2_flat (fun _ => rep_bl) (fun X ci G H v u R s r1 r2 k => ⟨i, j, r1, r2, k⟩) q

/-! data: no object that changes, no deeper than n -/
mutual
def D.sh : Nat → D → Bool
  | _, .non => true
  | _, .bl _ => true
  | _, .int _ => true
  | _, .str x => PyData.strOk x
  | n + 1, .tup ds => D.shs n ds
  | n + 1, .lst ds => D.shs n ds
  | n + 1, .seq ds => D.shs n ds
  | 0, .tup _ => false
  | 0, .lst _ => false
  | 0, .seq _ => false
  | _, .ref _ => false
  | _, .lam _ => false
  | _, .obj _ _ _ => false
def D.shs : Nat → List D → Bool
  | _, [] => true
  | n, d :: ds => D.sh n d && D.shs n ds
end
mutual
def D.py : D → PyData
  | .non => .none
  | .bl b => .bool b
  | .int i => .int i
  | .str x => .str x
  | .tup ds => .tuple (D.pys ds)
  | .lst ds => .list (D.pys ds)
  | .seq ds => .list (D.pys ds)
  | .ref _ => .none
  | .lam _ => .none
  | .obj _ _ _ => .none
def D.pys : List D → List PyData
  | [] => []
  | d :: ds => D.py d :: D.pys ds
end
mutual
theorem Rep.dp {K : PySem.W.Frag} {H : Hp} : ∀ {d : D} {n : Nat} {v : V}, D.sh n d = true → Rep K H d v → Dp K H v d.py
  | .non, _, _, _, h => by
    have h : _ = _ := h
    subst h; exact .non
  | .bl _, _, _, _, h => by
    have h : _ = _ := h
    subst h; exact .bl _
  | .int _, _, _, _, h => by
    have h : _ = _ := h
    subst h; exact .int _
  | .str _, _, _, _, h => by
    have h : _ = _ := h
    subst h; exact .str _
  | .ref _, n, _, hs, _ => by cases n <;> simp [D.sh] at hs
  | .lam _, n, _, hs, _ => by cases n <;> simp [D.sh] at hs
  | .obj _ _ _, n, _, hs, _ => by cases n <;> simp [D.sh] at hs
  | .tup ds, 0, _, hs, _ => by simp [D.sh] at hs
  | .lst ds, 0, _, hs, _ => by simp [D.sh] at hs
  | .seq ds, 0, _, hs, _ => by simp [D.sh] at hs
  | .tup ds, n + 1, _, hs, h => by
    obtain ⟨a, vs, rfl, h1, h2⟩ := h
    exact .tup h1 (Reps.dp (by simpa [D.sh] using hs) h2)
  | .lst ds, n + 1, _, hs, h => by
    obtain ⟨a, vs, rfl, h1, h2⟩ := h
    exact .lst (SqL.of h1) (Reps.dp (by simpa [D.sh] using hs) h2)
  | .seq ds, n + 1, _, hs, h => by
    obtain ⟨a, vs, rfl, h1, h2⟩ := h
    exact .lst h1 (Reps.dp (by simpa [D.sh] using hs) h2)
theorem Reps.dp {K : PySem.W.Frag} {H : Hp} : ∀ {ds : List D} {n : Nat} {vs : List V}, D.shs n ds = true → Reps K H ds vs → DpAll K H vs (D.pys ds)
  | [], _, _, _, h => by
    have h : _ = _ := h
    subst h; exact .nil
  | d :: ds, n, _, hs, h => by
    obtain ⟨v, ws, rfl, h1, h2⟩ := h
    have hs' : D.sh n d = true ∧ D.shs n ds = true := by simpa [D.shs] using hs
    exact .cons (Rep.dp hs'.1 h1) (Reps.dp hs'.2 h2)
end
mutual
theorem sh_can : ∀ {d : D} {n : Nat}, D.sh n d = true → d.py.canLay0 = true ∧ d.py.depth ≤ n
  | .non, n, _ => ⟨rfl, Nat.zero_le _⟩
  | .bl _, n, _ => ⟨rfl, Nat.zero_le _⟩
  | .int _, n, _ => ⟨rfl, Nat.zero_le _⟩
  | .str x, n, hs => ⟨by rw [D.py, PyData.canLay0]; cases n <;> simpa [D.sh] using hs, Nat.zero_le _⟩
  | .ref _, n, hs => by cases n <;> simp [D.sh] at hs
  | .lam _, n, hs => by cases n <;> simp [D.sh] at hs
  | .obj _ _ _, n, hs => by cases n <;> simp [D.sh] at hs
  | .tup ds, 0, hs => by simp [D.sh] at hs
  | .lst ds, 0, hs => by simp [D.sh] at hs
  | .seq ds, 0, hs => by simp [D.sh] at hs
  | .tup ds, n + 1, hs => by
    obtain ⟨h1, h2⟩ := shs_can (ds := ds) (n := n) (by simpa [D.sh] using hs)
    exact ⟨by rw [D.py, PyData.canLay0]; exact h1, by rw [D.py, PyData.depth]; omega⟩
  | .lst ds, n + 1, hs => by
    obtain ⟨h1, h2⟩ := shs_can (ds := ds) (n := n) (by simpa [D.sh] using hs)
    exact ⟨by rw [D.py, PyData.canLay0]; exact h1, by rw [D.py, PyData.depth]; omega⟩
  | .seq ds, n + 1, hs => by
    obtain ⟨h1, h2⟩ := shs_can (ds := ds) (n := n) (by simpa [D.sh] using hs)
    exact ⟨by rw [D.py, PyData.canLay0]; exact h1, by rw [D.py, PyData.depth]; omega⟩
theorem shs_can : ∀ {ds : List D} {n : Nat}, D.shs n ds = true → PyData.canLayAll0 (D.pys ds) = true ∧ PyData.depthAll (D.pys ds) ≤ n
  | [], _, _ => ⟨rfl, Nat.zero_le _⟩
  | d :: ds, n, hs => by
    have hs' : D.sh n d = true ∧ D.shs n ds = true := by simpa [D.shs] using hs
    obtain ⟨a1, a2⟩ := sh_can hs'.1
    obtain ⟨b1, b2⟩ := shs_can hs'.2
    refine ⟨by rw [D.pys, PyData.canLayAll0, a1, b1]; rfl, ?_⟩
    rw [D.pys, PyData.depthAll]
    omega
end
theorem sh_ok {d : D} {n : Nat} (hn : n ≤ 60) (h : D.sh n d = true) : SeqAt.shaped d.py = true := by
  obtain ⟨h1, h2⟩ := sh_can h
  unfold SeqAt.shaped
  rw [h1, Bool.true_and]
  exact decide_eq_true (by omega)
/-- Python's == on data -/
def D.eqv (a b : D) : Bool := PyData.eqv a.py b.py
theorem o_eq {x y : D} (hx : D.sh 40 x = true) (hy : D.sh 40 y = true) (q : Q (.bl (D.eqv x y)) M) : O2 L (fun X => rEqD X.K) x y M Q := o2_flat (fun _ => rep_bl) (fun X ci G H v u R s r1 r2 k =>
  ⟨x.py, y.py, (by rw [ci.K]; exact Rep.dp hx (r1.mono s.ex)), (by rw [ci.K]; exact Rep.dp hy (r2.mono s.ex)), sh_ok (by decide) hx, sh_ok (by decide) hy, k⟩) q
theorem o_ne {x y : D} (hx : D.sh 40 x = true) (hy : D.sh 40 y = true) (q : Q (.bl (!D.eqv x y)) M) : O2 L (fun X => rNeD X.K) x y M Q := o2_flat (fun _ => rep_bl) (fun X ci G H v u R s r1 r2 k =>
  ⟨x.py, y.py, (by rw [ci.K]; exact Rep.dp hx (r1.mono s.ex)), (by rw [ci.K]; exact Rep.dp hy (r2.mono s.ex)), sh_ok (by decide) hx, sh_ok (by decide) hy, k⟩) q
theorem CI.u64 {X : Cx} (ci : CI L X) : X.A.units + 64 < cLine := ci.room.units
def tB1 (Q : Bool → Store → Prop) : D → Store → Prop := fun d M' => ∃ c, d = .bl c ∧ Q c M'
theorem t_lt {i j : Int} (h1 : EvD L ρ M a (.int i)) (h2 : EvD L ρ M b (.int j)) : EvTD L ρ M (.Compare a [.Lt] [b] pos) (decide (i < j)) := et_cmp (r := rLtI) (fun _ _ => op_lt) (nomark _) (h1.go (h2.go (o_lt ⟨_, rfl, rfl, rfl⟩)))
theorem t_le {i j : Int} (h1 : EvD L ρ M a (.int i)) (h2 : EvD L ρ M b (.int j)) : EvTD L ρ M (.Compare a [.LtE] [b] pos) (decide (i ≤ j)) := et_cmp (r := rLeI) (fun _ _ => op_le) (nomark _) (h1.go (h2.go (o_le ⟨_, rfl, rfl, rfl⟩)))
theorem t_gt {i j : Int} (h1 : EvD L ρ M a (.int i)) (h2 : EvD L ρ M b (.int j)) : EvTD L ρ M (.Compare a [.Gt] [b] pos) (decide (j < i)) := et_cmp (r := rGtI) (fun _ _ => op_gt) (nomark _) (h1.go (h2.go (o_gt ⟨_, rfl, rfl, rfl⟩)))
theorem t_ge {i j : Int} (h1 : EvD L ρ M a (.int i)) (h2 : EvD L ρ M b (.int j)) : EvTD L ρ M (.Compare a [.GtE] [b] pos) (decide (j ≤ i)) := et_cmp (r := rGeI) (fun _ _ => op_ge) (nomark _) (h1.go (h2.go (o_ge ⟨_, rfl, rfl, rfl⟩)))
theorem t_eq {x y : D} (h1 : EvD L ρ M a x) (h2 : EvD L ρ M b y) (hx : D.sh 40 x = true) (hy : D.sh 40 y = true) : EvTD L ρ M (.Compare a [.Eq] [b] pos) (D.eqv x y) := et_cmp (r := fun X => rEqD X.K) (fun _ ci => op_eqD ci.u64) (nomark _) (h1.go (h2.go (o_eq hx hy ⟨_, rfl, rfl, rfl⟩)))
theorem t_ne {x y : D} (h1 : EvD L ρ M a x) (h2 : EvD L ρ M b y) (hx : D.sh 40 x = true) (hy : D.sh 40 y = true) : EvTD L ρ M (.Compare a [.NotEq] [b] pos) (!D.eqv x y) := et_cmp (r := fun X => rNeD X.K) (fun _ ci => op_neD ci.u64) (nomark _) (h1.go (h2.go (o_ne hx hy ⟨_, rfl, rfl, rfl⟩)))
theorem d_lt {i j : Int} (h1 : EvD L ρ M a (.int i)) (h2 : EvD L ρ M b (.int j)) : EvD L ρ M (.Compare a [.Lt] [b] pos) (.bl (decide (i < j))) := ev_cmp (r := rLtI) (fun _ _ => op_lt) (nomark _) (h1.go (h2.go (o_lt ⟨rfl, rfl⟩)))
theorem d_le {i j : Int} (h1 : EvD L ρ M a (.int i)) (h2 : EvD L ρ M b (.int j)) : EvD L ρ M (.Compare a [.LtE] [b] pos) (.bl (decide (i ≤ j))) := ev_cmp (r := rLeI) (fun _ _ => op_le) (nomark _) (h1.go (h2.go (o_le ⟨rfl, rfl⟩)))
theorem d_gt {i j : Int} (h1 : EvD L ρ M a (.int i)) (h2 : EvD L ρ M b (.int j)) : EvD L ρ M (.Compare a [.Gt] [b] pos) (.bl (decide (j < i))) := ev_cmp (r := rGtI) (fun _ _ => op_gt) (nomark _) (h1.go (h2.go (o_gt ⟨rfl, rfl⟩)))
theorem d_ge {i j : Int} (h1 : EvD L ρ M a (.int i)) (h2 : EvD L ρ M b (.int j)) : EvD L ρ M (.Compare a [.GtE] [b] pos) (.bl (decide (j ≤ i))) := ev_cmp (r := rGeI) (fun _ _ => op_ge) (nomark _) (h1.go (h2.go (o_ge ⟨rfl, rfl⟩)))
theorem d_eq {x y : D} (h1 : EvD L ρ M a x) (h2 : EvD L ρ M b y) (hx : D.sh 40 x = true) (hy : D.sh 40 y = true) : EvD L ρ M (.Compare a [.Eq] [b] pos) (.bl (D.eqv x y)) := ev_cmp (r := fun X => rEqD X.K) (fun _ ci => op_eqD ci.u64) (nomark _) (h1.go (h2.go (o_eq hx hy ⟨rfl, rfl⟩)))
theorem d_ne {x y : D} (h1 : EvD L ρ M a x) (h2 : EvD L ρ M b y) (hx : D.sh 40 x = true) (hy : D.sh 40 y = true) : EvD L ρ M (.Compare a [.NotEq] [b] pos) (.bl (!D.eqv x y)) := ev_cmp (r := fun X => rNeD X.K) (fun _ ci => op_neD ci.u64) (nomark _) (h1.go (h2.go (o_ne hx hy ⟨rfl, rfl⟩)))

/-! ### chains of two -/
theorem et_chain {op op' : CmpOp} {r r' : Cx → R2} {Q : Bool → Store → Prop} (ho : ∀ X, CI L X → OpR X (compareOp op) (r X)) (ho' : ∀ X, CI L X → OpR X (compareOp op') (r' X)) (hm : lastMarks [op, op'] [b, c] = false)
    (ha : Ev L ρ M a (fun x M1 => Ev L ρ M1 b (fun y M2 => O2b L r x y M2 (fun k M3 => if k = true then Ev L ρ M3 c (fun z M4 => O2b L r' y z M4 Q) E else Q false M3)) E) E) : EvT L ρ M (.Compare a [op, op'] [b, c] pos) Q E := fun X ci σ G H R f s k x =>
  wpT_of (pt_chain (ho X ci) (ho' X ci) pe_wp pe_wp pe_wp hm) (ha X ci σ G H _ f s (fun v d G1 M1 H1 m1 s1 r1 q1 =>
    q1 X ci σ G1 H1 _ (f.mono m1.g) s1 (fun u e G2 M2 H2 m2 s2 r2 q2 => q2 X ci G2 H2 v u _ s2 (r1.mono m2.g) r2 (fun w d3 G3 M3 H3 m3 s3 r3 ⟨kk, ek, qk⟩ => by
      subst ek
      obtain rfl : w = .bl kk := r3
      have k3 := ((k.move s1 m1).move s2 m2).move s3 m3
      have x3 := ((x.move s1 m1).move s2 m2).move s3 m3
      have f3 := ((f.mono m1.g).mono m2.g).mono m3.g
      refine ⟨kk, rfl, ?_⟩
      cases kk with
      | true =>
        rw [if_pos rfl] at qk
        rw [if_pos rfl]
        exact qk X ci σ G3 H3 _ f3 s3 (fun z ez G4 M4 H4 m4 s4 r4 q4 => q4 X ci G4 H4 u z _ s4 ((r2.mono m3.g).mono m4.g) r4 (fun w5 d5 G5 M5 H5 m5 s5 r5 ⟨k5, e5, q5⟩ => by
          subst e5
          obtain rfl : w5 = .bl k5 := r5
          exact ⟨k5, rfl, (k3.move s4 m4) k5 G5 M5 H5 m5 s5 q5⟩)) x3
      | false =>
        rw [if_neg Bool.false_ne_true] at qk
        rw [if_neg Bool.false_ne_true]
        exact ⟨false, rfl, k3 false G3 M3 H3 (.refl ..) s3 qk⟩)) (x.move s1 m1)) x)
end
end DL
set_option Elab.async false
set_option linter.all false
set_option maxRecDepth 100000
set_option maxHeartbeats 4000000
/-! DC: tests, displays, subscripts, calls, comprehensions. -/
namespace DL
open PySem L2

section
variable {L : Lx} {ρ : Ro} {M : Store} {Q : D → Store → Prop} {E : Addr → Store → Prop} {a b c : Expr} {pos : Pos} {QB : Bool → Store → Prop}

/-! ### and, or, not, if .. else -/
theorem ew_and1 (h : EvT L ρ M a QB E) : EvW L ρ M (.BoolOp .And [a] pos) QB E := fun X ci σ G H R f s k x => wpW_of (pw_and1 pt_wp) (h X ci σ G H R f s k x)
theorem ew_or1 (h : EvT L ρ M a QB E) : EvW L ρ M (.BoolOp .Or [a] pos) QB E := fun X ci σ G H R f s k x => wpW_of (pw_or1 pt_wp) (h X ci σ G H R f s k x)
theorem ew_and {rest : List Expr} (h : EvT L ρ M a (fun c M1 => if c = true then EvW L ρ M1 (.BoolOp .And (b :: rest) pos) QB E else QB false M1) E) : EvW L ρ M (.BoolOp .And (a :: b :: rest) pos) QB E := fun X ci σ G H R f s k x =>
  wpW_of (pw_and pt_wp pw_wp) (h X ci σ G H _ f s (fun c G1 M1 H1 m1 s1 q1 => by
    cases c with
    | true =>
      rw [if_pos rfl] at q1
      rw [if_pos rfl]
      exact q1 X ci σ G1 H1 R (f.mono m1.g) s1 (k.move s1 m1) (x.move s1 m1)
    | false =>
      rw [if_neg Bool.false_ne_true] at q1
      rw [if_neg Bool.false_ne_true]
      exact k false G1 M1 H1 m1 s1 q1) x)
theorem ew_or {rest : List Expr} (h : EvT L ρ M a (fun c M1 => if c = true then QB true M1 else EvW L ρ M1 (.BoolOp .Or (b :: rest) pos) QB E) E) : EvW L ρ M (.BoolOp .Or (a :: b :: rest) pos) QB E := fun X ci σ G H R f s k x =>
  wpW_of (pw_or pt_wp pw_wp) (h X ci σ G H _ f s (fun c G1 M1 H1 m1 s1 q1 => by
    cases c with
    | false =>
      rw [if_neg Bool.false_ne_true] at q1
      rw [if_neg Bool.false_ne_true]
      exact q1 X ci σ G1 H1 R (f.mono m1.g) s1 (k.move s1 m1) (x.move s1 m1)
    | true =>
      rw [if_pos rfl] at q1
      rw [if_pos rfl]
      exact k true G1 M1 H1 m1 s1 q1) x)
theorem et_not (h : EvT L ρ M a (fun c M1 => QB (!c) M1) E) : EvT L ρ M (.UnaryOp .Not a pos) QB E := fun X ci σ G H R f s k x =>
  wpT_of (pt_not pt_wp) (h X ci σ G H _ f s (fun c G1 M1 H1 m1 s1 q1 => k (!c) G1 M1 H1 m1 s1 q1) x)
/-- a value that is a bool, as a test -/
theorem et_val (he : ∀ env whole, isTrue a env whole = (do let v ← whole; standAt a.pos; holding [v] (truthy v))) (h : Ev L ρ M a (fun d M1 => ∃ c, d = .bl c ∧ QB c M1) E) : EvT L ρ M a QB E := fun X ci σ G H R f s k x =>
  wpT_of (pt_val pe_wp (he X.env)) (h X ci σ G H _ f s (fun v d G1 M1 H1 m1 s1 r1 ⟨c, ec, q1⟩ => by
    subst ec
    obtain rfl : v = .bl c := r1
    exact ⟨c, rfl, k c G1 M1 H1 m1 s1 q1⟩) x)
theorem ev_if (h : EvT L ρ M c (fun t M1 => if t = true then Ev L ρ M1 a Q E else Ev L ρ M1 b Q E) E) : Ev L ρ M (.IfExp c a b pos) Q E := fun X ci σ G H R f s k x =>
  wp_of (pe_ifExp pt_wp pe_wp pe_wp) (h X ci σ G H _ f s (fun t G1 M1 H1 m1 s1 q1 => by
    cases t with
    | true =>
      rw [if_pos rfl] at q1
      rw [if_pos rfl]
      exact q1 X ci σ G1 H1 R (f.mono m1.g) s1 (k.move s1 m1) (x.move s1 m1)
    | false =>
      rw [if_neg Bool.false_ne_true] at q1
      rw [if_neg Bool.false_ne_true]
      exact q1 X ci σ G1 H1 R (f.mono m1.g) s1 (k.move s1 m1) (x.move s1 m1)) x)
theorem w_and1 {p : Bool} (h : EvTD L ρ M a p) : EvWD L ρ M (.BoolOp .And [a] pos) p := ew_and1 h
theorem w_or1 {p : Bool} (h : EvTD L ρ M a p) : EvWD L ρ M (.BoolOp .Or [a] pos) p := ew_or1 h
theorem w_and {rest : List Expr} {p q : Bool} (h : EvTD L ρ M a p) (h2 : p = true → EvWD L ρ M (.BoolOp .And (b :: rest) pos) q) : EvWD L ρ M (.BoolOp .And (a :: b :: rest) pos) (p && q) := ew_and (h.go (by
  cases p with
  | true => rw [if_pos rfl, Bool.true_and]; exact h2 rfl
  | false => rw [if_neg Bool.false_ne_true, Bool.false_and]; exact ⟨rfl, rfl⟩))
theorem w_or {rest : List Expr} {p q : Bool} (h : EvTD L ρ M a p) (h2 : p = false → EvWD L ρ M (.BoolOp .Or (b :: rest) pos) q) : EvWD L ρ M (.BoolOp .Or (a :: b :: rest) pos) (p || q) := ew_or (h.go (by
  cases p with
  | false => rw [if_neg Bool.false_ne_true, Bool.false_or]; exact h2 rfl
  | true => rw [if_pos rfl, Bool.true_or]; exact ⟨rfl, rfl⟩))
theorem t_w {p : Bool} (h : EvWD L ρ M a p) : EvTD L ρ M a p := EvW.t h
theorem t_not {p : Bool} (h : EvTD L ρ M a p) : EvTD L ρ M (.UnaryOp .Not a pos) (!p) := et_not (h.go ⟨rfl, rfl⟩)
theorem t_val {p : Bool} (h : EvD L ρ M a (.bl p)) (he : ∀ env whole, isTrue a env whole = (do let v ← whole; standAt a.pos; holding [v] (truthy v)) := by intros; rfl) : EvTD L ρ M a p := et_val he (h.go ⟨p, rfl, rfl, rfl⟩)
theorem d_if {p : Bool} {v : D} (h : EvTD L ρ M c p) (h1 : p = true → EvD L ρ M a v) (h2 : p = false → EvD L ρ M b v) : EvD L ρ M (.IfExp c a b pos) v := ev_if (h.go (by
  cases p with
  | true => rw [if_pos rfl]; exact h1 rfl
  | false => rw [if_neg Bool.false_ne_true]; exact h2 rfl))
theorem d_ite {p : Bool} {v w : D} (h : EvTD L ρ M c p) (h1 : p = true → EvD L ρ M a v) (h2 : p = false → EvD L ρ M b w) : EvD L ρ M (.IfExp c a b pos) (if p = true then v else w) := ev_if (h.go (by
  cases p with
  | true => rw [if_pos rfl, if_pos rfl]; exact h1 rfl
  | false => rw [if_neg Bool.false_ne_true, if_neg Bool.false_ne_true]; exact h2 rfl))
/-- as values -/
theorem ev_one {op : BoolOp} (h : Ev L ρ M a Q E) : Ev L ρ M (.BoolOp op [a] pos) Q E := fun X ci σ G H R f s k x => wp_of (pe_one pe_wp) (h X ci σ G H R f s k x)
theorem ev_and {rest : List Expr} (h : Ev L ρ M a (fun d M1 => ∃ c, d = .bl c ∧ if c = true then Ev L ρ M1 (.BoolOp .And (b :: rest) pos) Q E else Q (.bl false) M1) E) : Ev L ρ M (.BoolOp .And (a :: b :: rest) pos) Q E := fun X ci σ G H R f s k x =>
  wp_of (pe_and pe_wp pe_wp) (h X ci σ G H _ f s (fun v d G1 M1 H1 m1 s1 r1 ⟨c, ec, q1⟩ => by
    subst ec
    obtain rfl : v = .bl c := r1
    refine ⟨c, rfl, ?_⟩
    cases c with
    | true =>
      rw [if_pos rfl] at q1
      rw [if_pos rfl]
      exact q1 X ci σ G1 H1 R (f.mono m1.g) s1 (k.move s1 m1) (x.move s1 m1)
    | false =>
      rw [if_neg Bool.false_ne_true] at q1
      rw [if_neg Bool.false_ne_true]
      exact k _ _ G1 M1 H1 m1 s1 rep_bl q1) x)
theorem ev_or {rest : List Expr} (h : Ev L ρ M a (fun d M1 => ∃ c, d = .bl c ∧ if c = true then Q (.bl true) M1 else Ev L ρ M1 (.BoolOp .Or (b :: rest) pos) Q E) E) : Ev L ρ M (.BoolOp .Or (a :: b :: rest) pos) Q E := fun X ci σ G H R f s k x =>
  wp_of (pe_or pe_wp pe_wp) (h X ci σ G H _ f s (fun v d G1 M1 H1 m1 s1 r1 ⟨c, ec, q1⟩ => by
    subst ec
    obtain rfl : v = .bl c := r1
    refine ⟨c, rfl, ?_⟩
    cases c with
    | false =>
      rw [if_neg Bool.false_ne_true] at q1
      rw [if_neg Bool.false_ne_true]
      exact q1 X ci σ G1 H1 R (f.mono m1.g) s1 (k.move s1 m1) (x.move s1 m1)
    | true =>
      rw [if_pos rfl] at q1
      rw [if_pos rfl]
      exact k _ _ G1 M1 H1 m1 s1 rep_bl q1) x)
theorem d_one {op : BoolOp} {v : D} (h : EvD L ρ M a v) : EvD L ρ M (.BoolOp op [a] pos) v := ev_one h
theorem d_and {rest : List Expr} {p q : Bool} (h : EvD L ρ M a (.bl p)) (h2 : p = true → EvD L ρ M (.BoolOp .And (b :: rest) pos) (.bl q)) : EvD L ρ M (.BoolOp .And (a :: b :: rest) pos) (.bl (p && q)) := ev_and (h.go ⟨p, rfl, by
  cases p with
  | true => rw [if_pos rfl, Bool.true_and]; exact h2 rfl
  | false => rw [if_neg Bool.false_ne_true, Bool.false_and]; exact ⟨rfl, rfl⟩⟩)
theorem d_or {rest : List Expr} {p q : Bool} (h : EvD L ρ M a (.bl p)) (h2 : p = false → EvD L ρ M (.BoolOp .Or (b :: rest) pos) (.bl q)) : EvD L ρ M (.BoolOp .Or (a :: b :: rest) pos) (.bl (p || q)) := ev_or (h.go ⟨p, rfl, by
  cases p with
  | false => rw [if_neg Bool.false_ne_true, Bool.false_or]; exact h2 rfl
  | true => rw [if_pos rfl, Bool.true_or]; exact ⟨rfl, rfl⟩⟩)
theorem ev_not (h : Ev L ρ M a (fun d M1 => ∃ c, d = .bl c ∧ Q (.bl (!c)) M1) E) : Ev L ρ M (.UnaryOp .Not a pos) Q E := fun X ci σ G H R f s k x =>
  wp_of (pe_not pe_wp) (h X ci σ G H _ f s (fun v d G1 M1 H1 m1 s1 r1 ⟨c, ec, q1⟩ => by
    subst ec
    obtain rfl : v = .bl c := r1
    exact ⟨c, rfl, k _ _ G1 M1 H1 m1 s1 rep_bl q1⟩) x)
theorem d_not {p : Bool} (h : EvD L ρ M a (.bl p)) : EvD L ρ M (.UnaryOp .Not a pos) (.bl (!p)) := ev_not (h.go ⟨p, rfl, rfl, rfl⟩)

/-! ### arguments, displays -/
theorem ea_nil {Q : List D → Store → Prop} (q : Q [] M) : EvA L ρ M [] Q E := fun X ci σ G H R f s k x => wpA_of pa_nil (k _ _ G M H (.refl ..) s Reps.nil q)
theorem ea_cons {es : List Expr} {Q : List D → Store → Prop} (hs : ∀ env, starEach (a :: es) env = (false, eval a env) :: starEach es env) (h : Ev L ρ M a (fun d M1 => EvA L ρ M1 es (fun ds M2 => Q (d :: ds) M2) E) E) : EvA L ρ M (a :: es) Q E := fun X ci σ G H R f s k x =>
  wpA_of (pa_cons pe_wp pa_wp (hs X.env)) (h X ci σ G H _ f s (fun v d G1 M1 H1 m1 s1 r1 q1 => q1 X ci σ G1 H1 _ (f.mono m1.g) s1 (fun vs ds G2 M2 H2 m2 s2 r2 q2 =>
    k _ _ G2 M2 H2 (m1.trans s1 m2) s2 (.cons (r1.mono m2.g) r2) q2) (x.move s1 m1)) x)
theorem a_nil : EvAD L ρ M [] [] := ea_nil ⟨rfl, rfl⟩
theorem a_cons' {es : List Expr} {v : D} {vs : List D} (h : EvD L ρ M a v) (h2 : EvAD L ρ M es vs) (hs : ∀ env, starEach (a :: es) env = (false, eval a env) :: starEach es env) : EvAD L ρ M (a :: es) (v :: vs) := ea_cons hs (h.go (h2.go ⟨rfl, rfl⟩))
theorem a_cons {es : List Expr} {v : D} {vs : List D} (h : EvD L ρ M a v) (h2 : EvAD L ρ M es vs) (hs : ∀ (es' : List Expr) (env : PySem.Env), starEach (a :: es') env = (false, eval a env) :: starEach es' env := by intro _ _; rfl) : EvAD L ρ M (a :: es) (v :: vs) := a_cons' h h2 (hs es)
theorem sz_of {n : Nat} (h : n ≤ 100000) : n ≤ sizeLine := Nat.le_trans h (by decide)
theorem ev_tup {es : List Expr} {x1 : Nat} (h : EvA L ρ M es (fun ds M1 => ds.length ≤ 100000 ∧ Q (.tup ds) M1) E) : Ev L ρ M (.Tuple es x1 pos) Q E := fun X ci σ G H R f s k x =>
  wp_of (pe_tup pa_wp) (h X ci σ G H _ f s (fun vs ds G1 M1 H1 m1 s1 r1 ⟨hz, q1⟩ => ⟨by rw [r1.length]; exact sz_of hz, fun p np => by
    obtain ⟨s2, m2⟩ := s1.newG (o := .tup vs) np (fun ps z => by cases z)
    exact k _ (.tup ds) _ M1 _ (m1.trans s1 m2) s2 ⟨p, vs, rfl, SqT.of upd_same, r1.mono m2.g⟩ q1⟩) x)
theorem ev_lst {es : List Expr} (h : EvA L ρ M es (fun ds M1 => ds.length ≤ 100000 ∧ Q (.lst ds) M1) E) : Ev L ρ M (.List es pos) Q E := fun X ci σ G H R f s k x =>
  wp_of (pe_lst pa_wp) (h X ci σ G H _ f s (fun vs ds G1 M1 H1 m1 s1 r1 ⟨hz, q1⟩ => ⟨by rw [r1.length]; exact sz_of hz, fun p np => by
    obtain ⟨s2, m2⟩ := s1.newG (o := .lst vs) np (fun ps z => by cases z)
    exact k _ (.lst ds) _ M1 _ (m1.trans s1 m2) s2 ⟨p, vs, rfl, upd_same, r1.mono m2.g⟩ q1⟩) x)
/-- a list that will change -/
theorem ev_mut {es : List Expr} (h : EvA L ρ M es (fun ds M1 => ds.length ≤ 100000 ∧ ∀ p, Q (.ref p) ((p, .lst ds) :: M1)) E) : Ev L ρ M (.List es pos) Q E := fun X ci σ G H R f s k x =>
  wp_of (pe_lst pa_wp) (h X ci σ G H _ f s (fun vs ds G1 M1 H1 m1 s1 r1 ⟨hz, q1⟩ => ⟨by rw [r1.length]; exact sz_of hz, fun p np => by
    obtain ⟨s2, m2⟩ := s1.newM np r1
    exact k _ _ _ _ _ (m1.trans s1 m2) s2 rep_ref (q1 p)⟩) x)
theorem d_tup {es : List Expr} {x1 : Nat} {vs : List D} (h : EvAD L ρ M es vs) (hz : vs.length ≤ 100000 := by decide) : EvD L ρ M (.Tuple es x1 pos) (.tup vs) := ev_tup (h.go ⟨hz, rfl, rfl⟩)
theorem d_lst {es : List Expr} {vs : List D} (h : EvAD L ρ M es vs) (hz : vs.length ≤ 100000 := by decide) : EvD L ρ M (.List es pos) (.lst vs) := ev_lst (h.go ⟨hz, rfl, rfl⟩)

/-! ### subscripts -/
theorem Reps.atI {K : PySem.W.Frag} {H : Hp} {ds : List D} {vs : List V} {i : Int} {d : D} (h : Reps K H ds vs) (e : L2.atI ds i = some d) : ∃ v, L2.atI vs i = some v ∧ Rep K H d v := by
  unfold L2.atI at e ⊢
  rw [h.length]
  cases q : ixN ds.length i with
  | none => rw [q] at e; cases e
  | some j =>
    rw [q] at e
    obtain ⟨v, h1, h2⟩ := h.get (i := j) (d := d) e
    exact ⟨v, h1, h2⟩
theorem ev_ix {r : Cx → R2} (ho : ∀ X, CI L X → IxR X (r X)) (hp : PlainIx b) (ha : Ev L ρ M a (fun x M1 => Ev L ρ M1 b (fun y M2 => O2 L r x y M2 Q) E) E) : Ev L ρ M (.Subscript a b pos) Q E := fun X ci σ G H R f s k x =>
  wp_of (pe_ix (ho X ci) pe_wp pe_wp hp) (ha X ci σ G H _ f s (fun v d G1 M1 H1 m1 s1 r1 q1 =>
    q1 X ci σ G1 H1 _ (f.mono m1.g) s1 (fun u e G2 M2 H2 m2 s2 r2 q2 => q2 X ci G2 H2 v u R s2 (r1.mono m2.g) r2 ((k.move s1 m1).move s2 m2)) (x.move s1 m1)) x)
theorem o_ix {x : D} {ds : List D} {i : Int} {d : D} (hx : x = .tup ds ∨ x = .lst ds ∨ x = .seq ds) (e : L2.atI ds i = some d) (q : Q d M) : O2 L (fun X => rIx X.K) x (.int i) M Q := fun X ci G H v u R s r1 r2 k => by
  have hu : u = .int i := r2
  rcases hx with hx | hx | hx
  · subst hx
    obtain ⟨p, vs, rfl, h1, h2⟩ := r1
    obtain ⟨w, hw, rw'⟩ := h2.atI e
    exact .inr (.inl ⟨p, vs, i, w, rfl, hu, by rw [ci.K]; exact ex_t s.ex h1, hw, k w d G M H (.refl ..) s rw' q⟩)
  · subst hx
    obtain ⟨p, vs, rfl, h1, h2⟩ := r1
    obtain ⟨w, hw, rw'⟩ := h2.atI e
    exact .inl ⟨p, vs, i, w, rfl, hu, by rw [ci.K]; exact SqL.of (s.ex _ _ h1), hw, k w d G M H (.refl ..) s rw' q⟩
  · subst hx
    obtain ⟨p, vs, rfl, h1, h2⟩ := r1
    obtain ⟨w, hw, rw'⟩ := h2.atI e
    exact .inl ⟨p, vs, i, w, rfl, hu, by rw [ci.K]; exact ex_l s.ex h1, hw, k w d G M H (.refl ..) s rw' q⟩
theorem d_ixT {ds : List D} {i : Int} {d : D} (h1 : EvD L ρ M a (.tup ds)) (h2 : EvD L ρ M b (.int i)) (e : L2.atI ds i = some d) (hp : PlainIx b := by intros _ _; rfl) : EvD L ρ M (.Subscript a b pos) d := ev_ix (r := fun X => rIx X.K) (fun _ _ => ix_seq) hp (h1.go (h2.go (o_ix (.inl rfl) e ⟨rfl, rfl⟩)))
theorem d_ixL {ds : List D} {i : Int} {d : D} (h1 : EvD L ρ M a (.lst ds)) (h2 : EvD L ρ M b (.int i)) (e : L2.atI ds i = some d) (hp : PlainIx b := by intros _ _; rfl) : EvD L ρ M (.Subscript a b pos) d := ev_ix (r := fun X => rIx X.K) (fun _ _ => ix_seq) hp (h1.go (h2.go (o_ix (.inr (.inl rfl)) e ⟨rfl, rfl⟩)))
/-- an item of a list of the store -/
theorem o_ixM {p : Addr} {j : Nat} {ds : List D} {i : Int} {d : D} (hm : M[j]? = some (p, .lst ds)) (e : L2.atI ds i = some d) (q : Q d M) : O2 L (fun X => rIx X.K) (.ref p) (.int i) M Q := fun X ci G H v u R s r1 r2 k => by
  have hu : u = .int i := r2
  have hv : v = .ref p := r1
  obtain ⟨_, vs, h1, h2⟩ := s.tie _ (List.mem_of_getElem? hm)
  obtain ⟨w, hw, rw'⟩ := h2.atI e
  exact .inl ⟨p, vs, i, w, hv, hu, by rw [ci.K]; exact SqL.of h1, hw, k w d G M H (.refl ..) s rw' q⟩
theorem d_ixM {p : Addr} {j : Nat} {ds : List D} {i : Int} {d : D} (h1 : EvD L ρ M a (.ref p)) (h2 : EvD L ρ M b (.int i)) (hm : M[j]? = some (p, .lst ds)) (e : L2.atI ds i = some d) (hp : PlainIx b := by intros _ _; rfl) : EvD L ρ M (.Subscript a b pos) d := ev_ix (r := fun X => rIx X.K) (fun _ _ => ix_seq) hp (h1.go (h2.go (o_ixM hm e ⟨rfl, rfl⟩)))
/-- slices -/
def EvO (L : Lx) (ρ : Ro) (M : Store) (e : Option Expr) (o : Option Int) : Prop := match e, o with
  | none, none => True
  | some e, some i => EvD L ρ M e (.int i)
  | _, _ => False
def cutD (ds : List D) (lo hi : Option Int) : List D := (ds.drop (HT.sIx ds.length 0 lo)).take (HT.sIx ds.length ds.length hi - HT.sIx ds.length 0 lo)
theorem Reps.cut {K : PySem.W.Frag} {H : Hp} {ds : List D} {vs : List V} (h : Reps K H ds vs) (lo hi : Option Int) : Reps K H (cutD ds lo hi) (cutV vs lo hi) := by
  unfold cutD cutV
  rw [h.length]
  exact (h.drop _).take _
def WpO (X : Cx) (e : Option Expr) : TO := match e with
  | none => tNoPart
  | some e => tPart (Wp X e)
theorem po_wp {X : Cx} {e : Option Expr} : PO X e (WpO X e) := by
  cases e with
  | none => exact po_none
  | some e => exact po_some pe_wp
theorem wpO_of {e : Option Expr} {o : Option Int} (h : EvO L ρ M e o) {X : Cx} (ci : CI L X) {σ : L2.St} {G H : Hp} {R : Option Int → Hp → Prop} (f : Frm L.g.K G σ ρ) (s : Sta L.g G H M) (k : ∀ G' H', Mv G M H G' M H' → Sta L.g G' H' M → R o H') : WpO X e σ H R := by
  cases e with
  | none =>
    cases o with
    | none => exact k G H (.refl ..) s
    | some i => exact h.elim
  | some e =>
    cases o with
    | none => exact h.elim
    | some i =>
      refine h X ci σ G H _ f s (fun v d G1 M1 H1 m1 s1 r1 ⟨e1, e2⟩ => ?_) KX.none
      subst e1; subst e2
      exact ⟨i, r1, k G1 H1 m1 s1⟩
theorem ev_cutL {lo hi : Option Expr} {l u : Option Int} {p2 : Pos} (ha : Ev L ρ M a (fun d M1 => ∃ ds, (d = .lst ds ∨ d = .seq ds) ∧ EvO L ρ M1 lo l ∧ EvO L ρ M1 hi u ∧ Q (.lst (cutD ds l u)) M1) E) : Ev L ρ M (.Subscript a (.Slice lo hi none p2) pos) Q E := fun X ci σ G H R f s k x =>
  wp_of (pe_slice (sl_list (X := X)) pe_wp po_wp po_wp) (ha X ci σ G H _ f s (fun v d G1 M1 H1 m1 s1 r1 ⟨ds, hd, h1, h2, q⟩ => wpO_of h1 ci (f.mono m1.g) s1 fun G2 H2 m2 s2 => wpO_of h2 ci ((f.mono m1.g).mono m2.g) s2 fun G3 H3 m3 s3 => by
    have r3 := (r1.mono m2.g).mono m3.g
    obtain ⟨p, vs, rfl, hs, hr⟩ : ∃ p vs, v = .ref p ∧ SqL L.g.K G3 p vs ∧ Reps L.g.K G3 ds vs := by
      rcases hd with hd | hd
      · subst hd; obtain ⟨p, vs, e, hh, hr⟩ := r3; exact ⟨p, vs, e, SqL.of hh, hr⟩
      · subst hd; exact r3
    refine ⟨p, vs, rfl, by rw [ci.K]; exact ex_l s3.ex hs, fun q' nq => ?_⟩
    obtain ⟨s4, m4⟩ := s3.newG (o := .lst (cutV vs l u)) nq (fun ps z => by cases z)
    exact k _ (.lst (cutD ds l u)) _ M1 _ (((m1.trans s1 m2).trans s2 m3).trans s3 m4) s4 ⟨q', _, rfl, upd_same, (hr.cut l u).mono m4.g⟩ q) x)
theorem d_cutL {lo hi : Option Expr} {l u : Option Int} {p2 : Pos} {ds : List D} (ha : EvD L ρ M a (.lst ds)) (h1 : EvO L ρ M lo l) (h2 : EvO L ρ M hi u) : EvD L ρ M (.Subscript a (.Slice lo hi none p2) pos) (.lst (cutD ds l u)) := ev_cutL (ha.go ⟨ds, .inl rfl, h1, h2, rfl, rfl⟩)
theorem d_cutS {lo hi : Option Expr} {l u : Option Int} {p2 : Pos} {ds : List D} (ha : EvD L ρ M a (.seq ds)) (h1 : EvO L ρ M lo l) (h2 : EvO L ρ M hi u) : EvD L ρ M (.Subscript a (.Slice lo hi none p2) pos) (.lst (cutD ds l u)) := ev_cutL (ha.go ⟨ds, .inr rfl, h1, h2, rfl, rfl⟩)
end

/-! ### calls of the text's own defs -/
abbrev SpD := List D → Store → (D → Store → Prop) → (Addr → Store → Prop) → Prop
def spOf (g : Gx) (sp : SpD) : Sp := fun vs H Q E => ∃ G M ds Qd Ed, Sta g G H M ∧ Reps g.K G ds vs ∧ sp ds M Qd Ed ∧ KD g G M H Qd Q ∧ (∀ C G' M' H', Mv G M H G' M' H' → Sta g G' H' M' → Ed C M' → E (.ref C) none H')
/-- the module's name x holds a def that keeps sp -/
structure Fn (g : Gx) (x : Str) (k : Nat) (sp : SpD) : Prop where
  ex : ∃ f fd ps, g.mg x = some (.ref f) ∧ PySem.W.keepIn g.K (.ref f) = true ∧ Binds g.K fd ps [] ∧ FnOk g.P g.w g.K g.mg g.base (L2.CX g.P g.w) k f fd ps (spOf g sp)
section
variable {L : Lx} {ρ : Ro} {M : Store} {Q : D → Store → Prop} {E : Addr → Store → Prop} {a b c : Expr} {pos : Pos}
theorem ev_call {x : Str} {k : Nat} {sp : SpD} {es : List Expr} {p : Pos} (F : Fn L.g x k sp) (hk : k ≤ L.n) (hg : L.sc.names.lookup x = some .globalImplicit)
    (hs : ∀ env, starEach (a :: es) env = (false, eval a env) :: starEach es env) (hpl : ∀ env, (backTo pos (starEach es env)).any (·.1) = false) (h : EvA L ρ M (a :: es) (fun ds M1 => sp ds M1 Q E) E)
    (hdb : (x == ("__debug__" : Str)) = false := by decide) : Ev L ρ M (.Call (.Name x p) (a :: es) [] pos) Q E := fun X ci σ G H R f s kk kx => by
  obtain ⟨ff, fd, ps, hm, hkp, hb, F⟩ := F.ex
  have F' : FnOk X.prog X.w X.K X.mg X.base (L2.CX X.prog X.w) k ff fd ps (spOf L.g sp) := by rw [ci.prog, ci.w, ci.K, ci.mg, ci.base]; exact F
  refine wp_of (pe_callS F' (ci.room.mono hk) (ci.gl hg) (by rw [ci.mg]; exact hm) (by rw [ci.K]; exact hkp) (by rw [ci.K]; exact hb) (fun σ => passAt (takesT X) σ) (pa_wp (es := a :: es)) hdb (hs X.env) (hpl X.env)) ?_
  refine h X ci σ G H _ f s (fun vs ds G1 M1 H1 m1 s1 r1 q1 => ?_) kx
  exact ⟨G1, M1, ds, Q, E, s1, r1, q1, kk.move s1 m1, fun C G' M' H' m' s' e => ⟨C, rfl, rfl, kx C G' M' H' (m1.trans s1 m') s' e⟩⟩
theorem d_call {x : Str} {k : Nat} {sp : SpD} {es : List Expr} {p : Pos} {ds : List D} {v : D} (F : Fn L.g x k sp) (hk : k ≤ L.n) (hg : L.sc.names.lookup x = some .globalImplicit) (h : EvAD L ρ M (a :: es) ds) (hq : sp ds M (Is v M) NoE)
    (hs : ∀ env, starEach (a :: es) env = (false, eval a env) :: starEach es env := by intro _; rfl) (hpl : ∀ env, (backTo pos (starEach es env)).any (·.1) = false := by intro _; rfl)
    (hdb : (x == ("__debug__" : Str)) = false := by decide) : EvD L ρ M (.Call (.Name x p) (a :: es) [] pos) v := ev_call F hk hg hs hpl (h.go hq) hdb

/-! ### calls of built-ins -/
def OC (L : Lx) (r : Cx → List V → Hp → VK → Prop) (ds : List D) (M : Store) (Q : D → Store → Prop) : Prop :=
  ∀ X, CI L X → ∀ G H vs (R : VK), Sta L.g G H M → Reps L.g.K G ds vs → KD L.g G M H Q R → r X vs H R
theorem ev_callB {r : Cx → List V → Hp → VK → Prop} {id : String} {x : Str} {es : List Expr} {p : Pos} (hc : ∀ X, CI L X → CallR X (.builtin id) (r X)) (hg : L.sc.names.lookup x = some .globalImplicit) (hm : L.g.mg x = none) (hv : bootBuiltins x = some (.builtin id)) (hn : x ≠ "__name__") (hdb : (x == ("__debug__" : Str)) = false)
    (hs : ∀ env, starEach (a :: es) env = (false, eval a env) :: starEach es env) (hpl : ∀ env, (backTo pos (starEach es env)).any (·.1) = false) (h : EvA L ρ M (a :: es) (fun ds M1 => OC L r ds M1 Q) E) : Ev L ρ M (.Call (.Name x p) (a :: es) [] pos) Q E := fun X ci σ G H R f s k kx =>
  wp_of (pe_callB (hc X ci) (ci.gl hg) (by rw [ci.mg]; exact hm) hv (pa_wp (es := a :: es)) hn hdb (hs X.env) (hpl X.env)) (h X ci σ G H _ f s (fun vs ds G1 M1 H1 m1 s1 r1 q1 => q1 X ci G1 H1 vs R s1 r1 (k.move s1 m1)) kx)
theorem ev_callTy {r : Cx → List V → Hp → VK → Prop} {T : String} {x : Str} {es : List Expr} {p : Pos} (hc : ∀ X, CI L X → CallR X (.type T) (r X)) (hg : L.sc.names.lookup x = some .globalImplicit) (hm : L.g.mg x = none) (hv : bootBuiltins x = some (.type T)) (hn : x ≠ "__name__") (hdb : (x == ("__debug__" : Str)) = false)
    (hs : ∀ env, starEach (a :: es) env = (false, eval a env) :: starEach es env) (hpl : ∀ env, (backTo pos (starEach es env)).any (·.1) = false) (h : EvA L ρ M (a :: es) (fun ds M1 => OC L r ds M1 Q) E) : Ev L ρ M (.Call (.Name x p) (a :: es) [] pos) Q E := fun X ci σ G H R f s k kx =>
  wp_of (pe_callTy (hc X ci) (ci.gl hg) (by rw [ci.mg]; exact hm) hv (pa_wp (es := a :: es)) hn hdb (hs X.env) (hpl X.env)) (h X ci σ G H _ f s (fun vs ds G1 M1 H1 m1 s1 r1 q1 => q1 X ci G1 H1 vs R s1 r1 (k.move s1 m1)) kx)
end
end DL
set_option Elab.async false
set_option linter.all false
set_option maxRecDepth 100000
set_option maxHeartbeats 4000000
/-! DD: built-ins, what is walked, comprehensions. -/
namespace DL
open PySem L2

abbrev Glo (L : Lx) (x : Str) : Prop := L.sc.names.lookup x = some NameKind.globalImplicit
/-- built-in names that the text does not store -/
structure Bu (g : Gx) : Prop where
  len : g.mg "len" = none
  abs : g.mg "abs" = none
  int : g.mg "int" = none
  sum : g.mg "sum" = none
  tuple : g.mg "tuple" = none
  list : g.mg "list" = none
  range : g.mg "range" = none
  enumerate : g.mg "enumerate" = none
  zip : g.mg "zip" = none
  min : g.mg "min" = none
  max : g.mg "max" = none
  sorted : g.mg "sorted" = none
  any : g.mg "any" = none
  all : g.mg "all" = none
  dict : g.mg "dict" = none

section
variable {L : Lx} {ρ : Ro} {M : Store} {Q : D → Store → Prop} {E : Addr → Store → Prop} {a b c : Expr} {pos p : Pos}
theorem oc_flat {r : Cx → List V → Hp → VK → Prop} {ds : List D} {z : D} {vz : V} (hf : ∀ G, Rep L.g.K G z vz) (h : ∀ X, CI L X → ∀ G H vs (R : VK), Sta L.g G H M → Reps L.g.K G ds vs → R vz H → r X vs H R) (q : Q z M) : OC L r ds M Q := fun X ci G H vs R s r1 k =>
  h X ci G H vs R s r1 (k _ _ G M H (.refl ..) s (hf G) q)
theorem one_of {K : PySem.W.Frag} {G : Hp} {d : D} {v : V} {vs : List V} (hd : ∀ u, Rep K G d u → u = v) (h : Reps K G [d] vs) : vs = [v] := by
  obtain ⟨u, rfl, r⟩ := h.of_one
  rw [hd u r]
theorem d_abs {i : Int} (B : Bu L.g) (hg : Glo L "abs") (h : EvD L ρ M a (.int i)) (hs : ∀ env, starEach [a] env = (false, eval a env) :: starEach [] env := by intro _; rfl) :
    EvD L ρ M (.Call (.Name "abs" p) [a] [] pos) (.int (if i < 0 then -i else i)) :=
  ev_callB (r := fun _ xs H Q => ∃ i, xs = [.int i] ∧ Q (.int (if i < 0 then -i else i)) H) (fun _ _ => call_abs) hg B.abs (by decide +kernel) (by decide) (by decide) hs (fun _ => rfl)
    (ea_cons hs (h.go (ea_nil (oc_flat (fun _ => rep_int) (fun X ci G H vs R s r k => ⟨i, one_of (fun u e => by exact e) r, k⟩) ⟨rfl, rfl⟩))))
theorem d_intI {i : Int} (B : Bu L.g) (hg : Glo L "int") (h : EvD L ρ M a (.int i)) (hs : ∀ env, starEach [a] env = (false, eval a env) :: starEach [] env := by intro _; rfl) :
    EvD L ρ M (.Call (.Name "int" p) [a] [] pos) (.int i) :=
  ev_callTy (r := fun _ xs H Q => (∃ i, xs = [.int i] ∧ Q (.int i) H) ∨ ∃ k, xs = [.bl k] ∧ Q (.int (if k then 1 else 0)) H) (fun _ _ => call_int1) hg B.int (by decide +kernel) (by decide) (by decide) hs (fun _ => rfl)
    (ea_cons hs (h.go (ea_nil (oc_flat (fun _ => rep_int) (fun X ci G H vs R s r k => .inl ⟨i, one_of (fun u e => by exact e) r, k⟩) ⟨rfl, rfl⟩))))
theorem d_intB {i : Bool} (B : Bu L.g) (hg : Glo L "int") (h : EvD L ρ M a (.bl i)) (hs : ∀ env, starEach [a] env = (false, eval a env) :: starEach [] env := by intro _; rfl) :
    EvD L ρ M (.Call (.Name "int" p) [a] [] pos) (.int (if i then 1 else 0)) :=
  ev_callTy (r := fun _ xs H Q => (∃ i, xs = [.int i] ∧ Q (.int i) H) ∨ ∃ k, xs = [.bl k] ∧ Q (.int (if k then 1 else 0)) H) (fun _ _ => call_int1) hg B.int (by decide +kernel) (by decide) (by decide) hs (fun _ => rfl)
    (ea_cons hs (h.go (ea_nil (oc_flat (fun _ => rep_int) (fun X ci G H vs R s r k => .inr ⟨i, one_of (fun u e => by exact e) r, k⟩) ⟨rfl, rfl⟩))))
/-- the sequence that a datum is -/
def SeqOf (d : D) (ds : List D) : Prop := d = .tup ds ∨ d = .lst ds ∨ d = .seq ds
theorem SeqOf.rd {g : Gx} {G H : Hp} {M : Store} (s : Sta g G H M) {d : D} {ds : List D} {v : V} (h : SeqOf d ds) (r : Rep g.K G d v) : ∃ q vs, v = .ref q ∧ (SqL g.K H q vs ∨ SqT g.K H q vs) ∧ Reps g.K G ds vs := by
  rcases h with h | h | h
  · subst h; obtain ⟨q, vs, e, h1, h2⟩ := r; exact ⟨q, vs, e, .inr (ex_t s.ex h1), h2⟩
  · subst h; obtain ⟨q, vs, e, h1, h2⟩ := r; exact ⟨q, vs, e, .inl (SqL.of (s.ex _ _ h1)), h2⟩
  · subst h; obtain ⟨q, vs, e, h1, h2⟩ := r; exact ⟨q, vs, e, .inl (ex_l s.ex h1), h2⟩
def rLen : Cx → List V → Hp → VK → Prop := fun X xs H Q => ∃ p ys, xs = [.ref p] ∧ (SqL X.K H p ys ∨ SqT X.K H p ys) ∧ Q (.int ys.length) H
theorem oc_len {d : D} {ds : List D} (hd : SeqOf d ds) (q : Q (.int (ds.length : Int)) M) : OC L rLen [d] M Q := fun X ci G H vs R s r k => by
  obtain ⟨u, rfl, r1⟩ := r.of_one
  obtain ⟨q', us, rfl, h1, h2⟩ := hd.rd s r1
  exact ⟨q', us, rfl, by rw [ci.K]; exact h1, by rw [h2.length]; exact k _ _ G M H (.refl ..) s rep_int q⟩
theorem oc_lenM {q' : Addr} {j : Nat} {ds : List D} (hm : M[j]? = some (q', .lst ds)) (q : Q (.int (ds.length : Int)) M) : OC L rLen [.ref q'] M Q := fun X ci G H vs R s r k => by
  obtain ⟨u, rfl, r1⟩ := r.of_one
  have r1 : u = .ref q' := r1
  subst r1
  obtain ⟨_, us, h1, h2⟩ := s.tie _ (List.mem_of_getElem? hm)
  exact ⟨q', us, rfl, .inl (by rw [ci.K]; exact SqL.of h1), by rw [h2.length]; exact k _ _ G M H (.refl ..) s rep_int q⟩
theorem ev_len (B : Bu L.g) (hg : Glo L "len") (hs : ∀ env, starEach [a] env = (false, eval a env) :: starEach [] env) (h : Ev L ρ M a (fun d M1 => OC L rLen [d] M1 Q) E) : Ev L ρ M (.Call (.Name "len" p) [a] [] pos) Q E :=
  ev_callB (r := rLen) (fun _ _ => call_len_seq) hg B.len PySem.boot_len (by decide) (by decide) hs (fun _ => rfl) (ea_cons hs (h.mono (fun d M1 q => ea_nil q) fun _ _ z => z))
theorem d_len {d : D} {ds : List D} (B : Bu L.g) (hg : Glo L "len") (h : EvD L ρ M a d) (hd : SeqOf d ds) (hs : ∀ env, starEach [a] env = (false, eval a env) :: starEach [] env := by intro _; rfl) :
    EvD L ρ M (.Call (.Name "len" p) [a] [] pos) (.int (ds.length : Int)) := ev_len B hg hs (h.go (oc_len hd ⟨rfl, rfl⟩))
theorem d_lenM {q' : Addr} {j : Nat} {ds : List D} (B : Bu L.g) (hg : Glo L "len") (h : EvD L ρ M a (.ref q')) (hm : M[j]? = some (q', .lst ds)) (hs : ∀ env, starEach [a] env = (false, eval a env) :: starEach [] env := by intro _; rfl) :
    EvD L ρ M (.Call (.Name "len" p) [a] [] pos) (.int (ds.length : Int)) := ev_len B hg hs (h.go (oc_lenM hm ⟨rfl, rfl⟩))
theorem Reps.ints {K : PySem.W.Frag} {G : Hp} : ∀ {ns : List Int} {vs : List V}, Reps K G (ns.map D.int) vs → vs = ns.map V.int
  | [], _, h => h
  | n :: ns, _, h => by
    obtain ⟨v, ws, rfl, h1, h2⟩ := h
    have h1 : v = .int n := h1
    rw [h1, Reps.ints h2]; rfl
theorem oc_sum {ns : List Int} (q : Q (.int ns.sum) M) : OC L (fun X => rSum X.K) [.lst (ns.map D.int)] M Q := fun X ci G H vs R s r k => by
  obtain ⟨u, rfl, q', us, rfl, h1, h2⟩ := r.of_one
  exact ⟨q', ns, rfl, by rw [ci.K, ← h2.ints]; exact SqL.of (s.ex _ _ h1), k _ _ G M H (.refl ..) s rep_int q⟩
theorem ev_sum (B : Bu L.g) (hg : Glo L "sum") (hs : ∀ env, starEach [a] env = (false, eval a env) :: starEach [] env) (h : Ev L ρ M a (fun d M1 => ∃ ns : List Int, d = .lst (ns.map D.int) ∧ Q (.int ns.sum) M1) E) : Ev L ρ M (.Call (.Name "sum" p) [a] [] pos) Q E :=
  ev_callB (r := fun X => rSum X.K) (fun _ ci => cr_sum ci.calm) hg B.sum (by decide +kernel) (by decide) (by decide) hs (fun _ => rfl) (ea_cons hs (h.mono (fun d M1 ⟨ns, e, q⟩ => ea_nil (by subst e; exact oc_sum q)) fun _ _ z => z))
theorem d_sum {d : D} {ns : List Int} (B : Bu L.g) (hg : Glo L "sum") (h : EvD L ρ M a d) (hd : d = .lst (ns.map D.int)) (hs : ∀ env, starEach [a] env = (false, eval a env) :: starEach [] env := by intro _; rfl) :
    EvD L ρ M (.Call (.Name "sum" p) [a] [] pos) (.int ns.sum) := ev_sum B hg hs (h.go ⟨ns, hd, rfl, rfl⟩)
def rTup : Cx → List V → Hp → VK → Prop := fun X xs H Q => ∃ p ys, xs = [.ref p] ∧ ((SqL X.K H p ys ∧ ∀ l, H l = none → Q (.ref l) (upd H l (.tup ys))) ∨ (SqT X.K H p ys ∧ Q (.ref p) H))
theorem oc_tuple {d : D} {ds : List D} (hd : SeqOf d ds) (q : Q (.tup ds) M) : OC L rTup [d] M Q := fun X ci G H vs R s r k => by
  obtain ⟨u, rfl, r1⟩ := r.of_one
  rcases hd with hd | hd | hd
  · subst hd
    obtain ⟨q', us, rfl, h1, h2⟩ := r1
    exact ⟨q', us, rfl, .inr ⟨by rw [ci.K]; exact ex_t s.ex h1, k _ (.tup ds) G M H (.refl ..) s ⟨q', us, rfl, h1, h2⟩ q⟩⟩
  · subst hd
    obtain ⟨q', us, rfl, h1, h2⟩ := r1
    refine ⟨q', us, rfl, .inl ⟨by rw [ci.K]; exact SqL.of (s.ex _ _ h1), fun l nl => ?_⟩⟩
    obtain ⟨s', m'⟩ := s.newG (o := .tup us) nl (fun ps z => by cases z)
    exact k _ (.tup ds) _ M _ m' s' ⟨l, us, rfl, SqT.of upd_same, h2.mono m'.g⟩ q
  · subst hd
    obtain ⟨q', us, rfl, h1, h2⟩ := r1
    refine ⟨q', us, rfl, .inl ⟨by rw [ci.K]; exact ex_l s.ex h1, fun l nl => ?_⟩⟩
    obtain ⟨s', m'⟩ := s.newG (o := .tup us) nl (fun ps z => by cases z)
    exact k _ (.tup ds) _ M _ m' s' ⟨l, us, rfl, SqT.of upd_same, h2.mono m'.g⟩ q
theorem oc_tupleM {q' : Addr} {j : Nat} {ds : List D} (hm : M[j]? = some (q', .lst ds)) (q : Q (.tup ds) M) : OC L rTup [.ref q'] M Q := fun X ci G H vs R s r k => by
  obtain ⟨u, rfl, r1⟩ := r.of_one
  have r1 : u = .ref q' := r1
  subst r1
  obtain ⟨_, us, h1, h2⟩ := s.tie _ (List.mem_of_getElem? hm)
  refine ⟨q', us, rfl, .inl ⟨by rw [ci.K]; exact SqL.of h1, fun l nl => ?_⟩⟩
  obtain ⟨s', m'⟩ := s.newG (o := .tup us) nl (fun ps z => by cases z)
  exact k _ (.tup ds) _ M _ m' s' ⟨l, us, rfl, SqT.of upd_same, h2.mono m'.g⟩ q
theorem ev_tuple (B : Bu L.g) (hg : Glo L "tuple") (hs : ∀ env, starEach [a] env = (false, eval a env) :: starEach [] env) (h : Ev L ρ M a (fun d M1 => OC L rTup [d] M1 Q) E) : Ev L ρ M (.Call (.Name "tuple" p) [a] [] pos) Q E :=
  ev_callTy (r := rTup) (fun _ _ => call_tuple_of) hg B.tuple (by decide +kernel) (by decide) (by decide) hs (fun _ => rfl) (ea_cons hs (h.mono (fun d M1 q => ea_nil q) fun _ _ z => z))
theorem d_tuple {d : D} {ds : List D} (B : Bu L.g) (hg : Glo L "tuple") (h : EvD L ρ M a d) (hd : SeqOf d ds) (hs : ∀ env, starEach [a] env = (false, eval a env) :: starEach [] env := by intro _; rfl) :
    EvD L ρ M (.Call (.Name "tuple" p) [a] [] pos) (.tup ds) := ev_tuple B hg hs (h.go (oc_tuple hd ⟨rfl, rfl⟩))
theorem d_tupleM {q' : Addr} {j : Nat} {ds : List D} (B : Bu L.g) (hg : Glo L "tuple") (h : EvD L ρ M a (.ref q')) (hm : M[j]? = some (q', .lst ds)) (hs : ∀ env, starEach [a] env = (false, eval a env) :: starEach [] env := by intro _; rfl) :
    EvD L ρ M (.Call (.Name "tuple" p) [a] [] pos) (.tup ds) := ev_tuple B hg hs (h.go (oc_tupleM hm ⟨rfl, rfl⟩))
def rList : Cx → List V → Hp → VK → Prop := fun X xs H Q => ∃ p ys, xs = [.ref p] ∧ (SqL X.K H p ys ∨ SqT X.K H p ys) ∧ ∀ l, H l = none → Q (.ref l) (upd H l (.lst ys))
theorem oc_list {d : D} {ds : List D} (hd : SeqOf d ds) (q : Q (.lst ds) M) : OC L rList [d] M Q := fun X ci G H vs R s r k => by
  obtain ⟨u, rfl, r1⟩ := r.of_one
  obtain ⟨q', us, rfl, h1, h2⟩ := hd.rd s r1
  refine ⟨q', us, rfl, by rw [ci.K]; exact h1, fun l nl => ?_⟩
  obtain ⟨s', m'⟩ := s.newG (o := .lst us) nl (fun ps z => by cases z)
  exact k _ (.lst ds) _ M _ m' s' ⟨l, us, rfl, upd_same, h2.mono m'.g⟩ q
theorem ev_list (B : Bu L.g) (hg : Glo L "list") (hs : ∀ env, starEach [a] env = (false, eval a env) :: starEach [] env) (h : Ev L ρ M a (fun d M1 => OC L rList [d] M1 Q) E) : Ev L ρ M (.Call (.Name "list" p) [a] [] pos) Q E :=
  ev_callTy (r := rList) (fun _ _ => call_list_of) hg B.list (by decide +kernel) (by decide) (by decide) hs (fun _ => rfl) (ea_cons hs (h.mono (fun d M1 q => ea_nil q) fun _ _ z => z))
theorem d_list {d : D} {ds : List D} (B : Bu L.g) (hg : Glo L "list") (h : EvD L ρ M a d) (hd : SeqOf d ds) (hs : ∀ env, starEach [a] env = (false, eval a env) :: starEach [] env := by intro _; rfl) :
    EvD L ρ M (.Call (.Name "list" p) [a] [] pos) (.lst ds) := ev_list B hg hs (h.go (oc_list hd ⟨rfl, rfl⟩))
end

/-! ### targets -/
inductive Pat where
  | nm (j : Nat)
  | tp (js : List Nat)
def Pat.js : Pat → List Nat
  | .nm j => [j]
  | .tp js => js
def setAll (ρ : Ro) : List Nat → List D → Ro
  | j :: js, d :: ds => setAll (ρ.set j (some d)) js ds
  | _, _ => ρ
def Pat.asg (p : Pat) (ρ : Ro) (d : D) (ρ' : Ro) : Prop := match p with
  | .nm j => ρ' = ρ.set j (some d)
  | .tp js => ∃ ds, (d = .tup ds) ∧ ds.length = js.length ∧ ρ' = setAll ρ js ds
structure NameOk (L : Lx) (e : Expr) (j : Nat) : Prop where
  ex : ∃ x p, e = .Name x p ∧ L.N[j]? = some x ∧ Loc L.sc x ∧ (L.fn x = true ∨ L.sc.names.lookup x = some .local)
theorem name_ok {L : Lx} {x : Str} {p : Pos} {j : Nat} (h1 : L.N[j]? = some x := by rfl) (h2 : Loc L.sc x := by first | exact Or.inl rfl | exact Or.inr rfl) (h3 : L.fn x = true ∨ L.sc.names.lookup x = some .local := by first | exact Or.inl rfl | exact Or.inr rfl) : NameOk L (.Name x p) j := ⟨x, p, rfl, h1, h2, h3⟩
def NamesOk (L : Lx) : List Expr → List Nat → Prop
  | [], [] => True
  | e :: es, j :: js => NameOk L e j ∧ NamesOk L es js
  | _, _ => False
def PatOk (L : Lx) (tg : Expr) : Pat → Prop
  | .nm j => NameOk L tg j
  | .tp js => ∃ es k p, tg = .Tuple es k p ∧ NamesOk L es js
def gNames : List Nat → TGs
  | [] => gNil
  | j :: js => gCons (gName j) (gNames js)
def gP (K : PySem.W.Frag) : Pat → TG
  | .nm j => gName j
  | .tp js => gTup K js.length (gNames js)
theorem NameOk.pg {L : Lx} {e : Expr} {j : Nat} (h : NameOk L e j) {X : Cx} (ci : CI L X) : PG X e (gName j) := by
  obtain ⟨x, p, rfl, h1, h2, h3⟩ := h.ex
  exact pg_name (X := X) (by rw [ci.N]; exact ci.nd) (by rw [ci.N]; exact h1) (by rw [ci.sc]; exact h2) (by rw [ci.fn, ci.sc]; exact h3)
theorem NamesOk.each {L : Lx} : ∀ {es : List Expr} {js : List Nat}, NamesOk L es js → ∀ env, (assignEach es env).length = js.length ∧ (assignEach es env).findIdx? (·.1) = none
  | [], [], _, env => ⟨rfl, rfl⟩
  | e :: es, j :: js, h, env => by
    obtain ⟨h1, h2⟩ := h
    obtain ⟨x, p, rfl, _⟩ := h1.ex
    obtain ⟨a, b⟩ := NamesOk.each h2 env
    refine ⟨by show (assignEach es env).length + 1 = js.length + 1; rw [a], ?_⟩
    show ((false, assign (.Name x p) env) :: assignEach es env).findIdx? (·.1) = none
    rw [List.findIdx?_cons, b]; rfl
  | [], _ :: _, h, _ => h.elim
  | _ :: _, [], h, _ => h.elim
theorem NamesOk.pgs {L : Lx} : ∀ {es : List Expr} {js : List Nat}, NamesOk L es js → ∀ {X : Cx}, CI L X → PGs X es (gNames js)
  | [], [], _, X, ci => pgs_nil
  | e :: es, j :: js, h, X, ci => pgs_cons (h.1.pg ci) (NamesOk.pgs h.2 ci) (by obtain ⟨x, p, rfl, _⟩ := h.1.ex; rfl)
  | [], _ :: _, h, _, _ => h.elim
  | _ :: _, [], h, _, _ => h.elim
theorem PatOk.pg {L : Lx} {tg : Expr} {pt : Pat} (h : PatOk L tg pt) {X : Cx} (ci : CI L X) : PG X tg (gP L.g.K pt) := by
  cases pt with
  | nm j => exact NameOk.pg h ci
  | tp js =>
    obtain ⟨es, k, p, rfl, h⟩ := h
    obtain ⟨a, b⟩ := h.each X.env
    have := pg_tup (X := X) (k := k) (pos := p) ci.calm (h.pgs ci) (n := js.length) a b
    rw [ci.K] at this
    exact this

/-! ### the block's own names forgotten -/
def wipeR (ρ : Ro) : List Nat → Ro
  | [] => ρ
  | v :: vs => (wipeR ρ vs).set v none
theorem Frm.wipe {K : PySem.W.Frag} {G : Hp} {σ : L2.St} {ρ : Ro} (h : Frm K G σ ρ) : ∀ vs : List Nat, Frm K G (L2.wipe σ vs) (wipeR ρ vs)
  | [] => h
  | v :: vs => (Frm.wipe h vs).unset
theorem wipe_in {σ : L2.St} {i : Nat} : ∀ {vs : List Nat}, i ∈ vs → (L2.wipe σ vs)[i]? = if i < σ.length then some none else none
  | v :: vs, h => by
    show ((L2.wipe σ vs).set v none)[i]? = _
    by_cases hv : v = i
    · subst hv
      by_cases hl : v < σ.length
      · rw [List.getElem?_set_self (by rw [wipe_length]; exact hl), if_pos hl]
      · rw [if_neg hl]; exact List.getElem?_eq_none (by rw [List.length_set, wipe_length]; omega)
    · rw [List.getElem?_set_ne hv]
      exact wipe_in (by rcases List.mem_cons.mp h with e | e; exact absurd e.symm hv; exact e)
theorem wipe_eq {σ τ : L2.St} {vs : List Nat} (hl : σ.length = τ.length) (h : ∀ i, i ∉ vs → σ[i]? = τ[i]?) : L2.wipe σ vs = L2.wipe τ vs := by
  refine List.ext_getElem? fun i => ?_
  by_cases hi : i ∈ vs
  · rw [wipe_in hi, wipe_in hi, hl]
  · rw [wipe_out hi, wipe_out hi]; exact h i hi
theorem wipe_set {σ τ : L2.St} {vs : List Nat} {j : Nat} {x : Option V} (hj : j ∈ vs) (h : L2.wipe σ vs = L2.wipe τ vs) : L2.wipe (σ.set j x) vs = L2.wipe τ vs := by
  rw [← h]
  exact wipe_eq (by simp) fun i hi => List.getElem?_set_ne (fun e => hi (by rw [← e]; exact hj))
theorem wipe_wipe (σ : L2.St) (vs : List Nat) : L2.wipe (L2.wipe σ vs) vs = L2.wipe σ vs := wipe_eq (wipe_length σ vs) fun i hi => wipe_out hi
/-- a target's reading -/
theorem setAll_read {K : PySem.W.Frag} {G H : Hp} {vs0 : List Nat} {τ : L2.St} : ∀ {js : List Nat} {ds : List D} {vs : List V} {σ : L2.St} {ρ : Ro} {R : L2.St → Hp → Prop}, (∀ j ∈ js, j ∈ vs0) → ds.length = js.length → Reps K G ds vs → Frm K G σ ρ → L2.wipe σ vs0 = L2.wipe τ vs0 →
    (∀ σ', Frm K G σ' (setAll ρ js ds) → L2.wipe σ' vs0 = L2.wipe τ vs0 → R σ' H) → gNames js vs σ H R
  | [], [], _, σ, ρ, R, _, _, hr, f, hw, k => by
    have hr : _ = [] := hr
    exact ⟨hr, k σ f hw⟩
  | j :: js, d :: ds, _, σ, ρ, R, hj, hl, hr, f, hw, k => by
    obtain ⟨v, ws, rfl, h1, h2⟩ := hr
    refine ⟨v, ws, rfl, ?_⟩
    show gNames js ws (σ.set j (some v)) H R
    exact setAll_read (ρ := ρ.set j (some d)) (fun i hi => hj i (List.mem_cons_of_mem _ hi)) (by simpa using hl) h2 (f.set h1) (wipe_set (hj j List.mem_cons_self) hw) k
  | [], _ :: _, _, _, _, _, _, hl, _, _, _, _ => by simp at hl
  | _ :: _, [], _, _, _, _, _, hl, _, _, _, _ => by simp at hl
theorem pat_read {K : PySem.W.Frag} {G H : Hp} {vs0 : List Nat} {τ σ : L2.St} {ρ ρ' : Ro} {pt : Pat} {d : D} {v : V} {R : L2.St → Hp → Prop} (ha : pt.asg ρ d ρ') (hj : ∀ j ∈ pt.js, j ∈ vs0) (r : Rep K G d v) (e : Same G H) (f : Frm K G σ ρ) (hw : L2.wipe σ vs0 = L2.wipe τ vs0)
    (k : ∀ σ', Frm K G σ' ρ' → L2.wipe σ' vs0 = L2.wipe τ vs0 → R σ' H) : gP K pt v σ H R := by
  cases pt with
  | nm j =>
    have ha : ρ' = _ := ha
    subst ha
    exact k _ (f.set r) (wipe_set (hj j List.mem_cons_self) hw)
  | tp js =>
    obtain ⟨ds, rfl, hl, rfl⟩ := ha
    obtain ⟨a, vs, rfl, h1, h2⟩ := r
    exact ⟨a, vs, rfl, ex_t e h1, by rw [h2.length, hl], setAll_read hj hl h2 f hw k⟩

/-! ### what is walked -/
structure Serves (g : Gx) (G1 : Hp) (J : It) (n : Nat) (f : Nat → D) : Prop where
  go : ∀ i, i < n → ∀ G' H' M, Same G1 G' → Sta g G' H' M → J.go i H' ∧ ∀ x H'', J.yld i H' x H'' → ∃ G'', Sta g G'' H'' M ∧ Mv G' M H' G'' M H'' ∧ Rep g.K G'' (f i) x
  stop : ∀ G' H' M, Same G1 G' → Sta g G' H' M → J.stop n H'
def WpI (X : Cx) (tg iter : Expr) : TI := fun σ H R => ∀ pins s, Inv X pins σ H s → wpAny (model X.prog X.w) X.A (eval iter X.env) (fun v s1 => wpAny (model X.prog X.w) X.A (pyIter v) (PIE X pins σ tg R) X.xe s1) X.xe s
theorem pi_wp {X : Cx} {tg iter : Expr} : PI X tg iter (WpI X tg iter) := ⟨fun pins s _ _ _ I h => h pins s I⟩
theorem wpI_of {X : Cx} {tg iter : Expr} {wi : TI} {σ : L2.St} {H : Hp} {R : It → Hp → Prop} (h : PI X tg iter wi) (q : wi σ H R) : WpI X tg iter σ H R := fun pins s I => h.run pins s σ H R I q
def Src (L : Lx) (ρ : Ro) (M : Store) (tg iter : Expr) (Q : Nat → (Nat → D) → Store → Prop) (E : Addr → Store → Prop) : Prop :=
  ∀ X, CI L X → ∀ σ G H (R : It → Hp → Prop), Frm L.g.K G σ ρ → Sta L.g G H M → (∀ J n f G1 M1 H1, Mv G M H G1 M1 H1 → Sta L.g G1 H1 M1 → Serves L.g G1 J n f → Q n f M1 → R J H1) → KX L.g X σ G M H E → WpI X tg iter σ H R
abbrev SrcD (L : Lx) (ρ : Ro) (M : Store) (tg iter : Expr) (n : Nat) (f : Nat → D) : Prop := Src L ρ M tg iter (fun n' f' M' => n' = n ∧ f' = f ∧ M' = M) NoE
theorem Src.mono {L : Lx} {ρ : Ro} {M : Store} {tg iter : Expr} {Q Q' : Nat → (Nat → D) → Store → Prop} {E E' : Addr → Store → Prop} (h : Src L ρ M tg iter Q E) (hq : ∀ n f M', Q n f M' → Q' n f M') (he : ∀ C M', E C M' → E' C M') : Src L ρ M tg iter Q' E' := fun X ci σ G H R f s k x =>
  h X ci σ G H R f s (fun J n ff G1 M1 H1 m1 s1 sv q => k J n ff G1 M1 H1 m1 s1 sv (hq _ _ _ q)) (fun C G' M' H' m s' q => x C G' M' H' m s' (he _ _ q))
theorem SrcD.go {L : Lx} {ρ : Ro} {M : Store} {tg iter : Expr} {n : Nat} {f : Nat → D} {Q : Nat → (Nat → D) → Store → Prop} {E : Addr → Store → Prop} (h : SrcD L ρ M tg iter n f) (q : Q n f M) : Src L ρ M tg iter Q E :=
  Src.mono h (fun n' f' M' ⟨a, b, c⟩ => by rw [a, b, c]; exact q) fun _ _ z => z.elim
section
variable {L : Lx} {ρ : Ro} {M : Store} {E : Addr → Store → Prop} {tg a b c : Expr} {pos p : Pos} {Q : Nat → (Nat → D) → Store → Prop}
theorem getD_of {ds : List D} {i : Nat} {d : D} (h : ds[i]? = some d) : ds.getD i .non = d := by rw [List.getD_eq_getElem?_getD, h]; rfl
theorem serves_list {g : Gx} {G1 : Hp} {q : Addr} {vs : List V} {ds : List D} (h1 : SqL g.K G1 q vs) (h2 : Reps g.K G1 ds vs) : Serves g G1 (Itl g.K q) ds.length (fun i => ds.getD i .non) where
  go := fun i hi G' H' M e s => by
    obtain ⟨d, hd⟩ : ∃ d, ds[i]? = some d := ⟨_, List.getElem?_eq_getElem hi⟩
    obtain ⟨v, hv, r⟩ := h2.get hd
    have h1' := ex_l s.ex (ex_l e h1)
    refine ⟨⟨vs, v, h1', hv⟩, fun x H'' ⟨e1, e2⟩ => ?_⟩
    subst e1
    refine ⟨G', s, .refl .., ?_⟩
    have ex : vs[i]? = some x := e2 vs h1'
    rw [hv] at ex
    cases ex
    rw [getD_of hd]
    exact r.mono e
  stop := fun G' H' M e s => ⟨vs, ex_l s.ex (ex_l e h1), by rw [h2.length]; exact Nat.le_refl _⟩
theorem serves_tup {g : Gx} {G1 : Hp} {q : Addr} {vs : List V} {ds : List D} (h1 : SqT g.K G1 q vs) (h2 : Reps g.K G1 ds vs) : Serves g G1 (Itt g.K q) ds.length (fun i => ds.getD i .non) where
  go := fun i hi G' H' M e s => by
    obtain ⟨d, hd⟩ : ∃ d, ds[i]? = some d := ⟨_, List.getElem?_eq_getElem hi⟩
    obtain ⟨v, hv, r⟩ := h2.get hd
    have h1' := ex_t s.ex (ex_t e h1)
    refine ⟨⟨vs, v, h1', hv⟩, fun x H'' ⟨e1, e2⟩ => ?_⟩
    subst e1
    refine ⟨G', s, .refl .., ?_⟩
    have ex : vs[i]? = some x := e2 vs h1'
    rw [hv] at ex
    cases ex
    rw [getD_of hd]
    exact r.mono e
  stop := fun G' H' M e s => ⟨vs, ex_t s.ex (ex_t e h1), by rw [h2.length]; exact Nat.le_refl _⟩
theorem serves_range {g : Gx} {G1 : Hp} (lo : Int) (n : Nat) : Serves g G1 (Itr lo n) n (fun i => .int (lo + (i : Int))) where
  go := fun i hi G' H' M e s => ⟨hi, fun x H'' ⟨e1, e2⟩ => by subst e1; subst e2; exact ⟨G', s, .refl .., rep_int⟩⟩
  stop := fun G' H' M e s => Nat.le_refl _
theorem serves_enum {g : Gx} {G1 : Hp} {q : Addr} {vs : List V} {ds : List D} (h1 : SqL g.K G1 q vs) (h2 : Reps g.K G1 ds vs) : Serves g G1 (Ite g.K q) ds.length (fun i => .tup [.int (i : Int), ds.getD i .non]) where
  go := fun i hi G' H' M e s => by
    obtain ⟨d, hd⟩ : ∃ d, ds[i]? = some d := ⟨_, List.getElem?_eq_getElem hi⟩
    obtain ⟨v, hv, r⟩ := h2.get hd
    have h1' := ex_l s.ex (ex_l e h1)
    refine ⟨⟨vs, v, h1', hv⟩, fun w H'' ⟨T, x, ew, nT, eH, e2⟩ => ?_⟩
    subst ew; subst eH
    have ex : vs[i]? = some x := e2 vs h1'
    rw [hv] at ex
    cases ex
    obtain ⟨s', m'⟩ := s.newG (o := .tup [.int (i : Nat), v]) nT (fun ps z => by cases z)
    exact ⟨_, s', m', T, _, rfl, SqT.of upd_same, .cons rep_int (.one (by rw [getD_of hd]; exact (r.mono e).mono m'.g))⟩
  stop := fun G' H' M e s => ⟨vs, ex_l s.ex (ex_l e h1), by rw [h2.length]; exact Nat.le_refl _⟩
theorem src_list (h : Ev L ρ M a (fun d M1 => ∃ ds, (d = .lst ds ∨ d = .seq ds) ∧ Q ds.length (fun i => ds.getD i .non) M1) E) : Src L ρ M tg a Q E := fun X ci σ G H R f s k x =>
  wpI_of (pi_list pe_wp) (h X ci σ G H _ f s (fun v d G1 M1 H1 m1 s1 r1 ⟨ds, hd, q⟩ => by
    obtain ⟨p, vs, rfl, hs, hr⟩ : ∃ p vs, v = .ref p ∧ SqL L.g.K G1 p vs ∧ Reps L.g.K G1 ds vs := by
      rcases hd with hd | hd
      · subst hd; obtain ⟨p, vs, e, hh, hr⟩ := r1; exact ⟨p, vs, e, SqL.of hh, hr⟩
      · subst hd; exact r1
    refine ⟨p, rfl, ⟨vs, by rw [ci.K]; exact ex_l s1.ex hs⟩, ?_⟩
    rw [ci.K]
    exact k _ _ _ G1 M1 H1 m1 s1 (serves_list hs hr) q) x)
theorem src_tup (h : Ev L ρ M a (fun d M1 => ∃ ds, d = .tup ds ∧ Q ds.length (fun i => ds.getD i .non) M1) E) : Src L ρ M tg a Q E := fun X ci σ G H R f s k x =>
  wpI_of (pi_tup pe_wp) (h X ci σ G H _ f s (fun v d G1 M1 H1 m1 s1 r1 ⟨ds, hd, q⟩ => by
    subst hd
    obtain ⟨p, vs, rfl, hs, hr⟩ := r1
    refine ⟨p, rfl, ⟨vs, by rw [ci.K]; exact ex_t s1.ex hs⟩, ?_⟩
    rw [ci.K]
    exact k _ _ _ G1 M1 H1 m1 s1 (serves_tup hs hr) q) x)
theorem src_range1 (B : Bu L.g) (hg : Glo L "range") (hs : ∀ env, starEach [a] env = (false, eval a env) :: starEach [] env) (h : Ev L ρ M a (fun d M1 => ∃ n : Int, d = .int n ∧ -(2 ^ 62) ≤ n ∧ n < 2 ^ 62 ∧ Q n.toNat (fun i => .int (i : Int)) M1) E) : Src L ρ M tg (.Call (.Name "range" p) [a] [] pos) Q E := fun X ci σ G H R f s k x =>
  wpI_of (pi_range1 (X := X) (ci.gl hg) (by rw [ci.mg]; exact B.range) pa_wp (hs X.env)) (ea_cons (Q := fun ds M1 => ∃ n : Int, ds = [.int n] ∧ -(2 ^ 62) ≤ n ∧ n < 2 ^ 62 ∧ Q n.toNat (fun i => .int (i : Int)) M1) hs (h.mono (fun d M1 ⟨n, e, h1, h2, q⟩ => ea_nil (E := E) ⟨n, by rw [e], h1, h2, q⟩) fun _ _ z => z) X ci σ G H _ f s (fun vs ds G1 M1 H1 m1 s1 r1 ⟨n, e, h1, h2, q⟩ => by
    subst e
    obtain ⟨u, rfl, r2⟩ := r1.of_one
    have r2 : u = .int n := r2
    subst r2
    refine ⟨n, rfl, h1, h2, k _ _ _ G1 M1 H1 m1 s1 (serves_range 0 n.toNat) ?_⟩
    have ef : (fun i : Nat => D.int (0 + (i : Int))) = fun i : Nat => D.int (i : Int) := by funext i; rw [Int.zero_add]
    rw [ef]; exact q) x)
theorem src_range2 (B : Bu L.g) (hg : Glo L "range") (hs : ∀ env, starEach [a, b] env = (false, eval a env) :: starEach [b] env) (hs2 : ∀ env, starEach [b] env = (false, eval b env) :: starEach [] env)
    (h : Ev L ρ M a (fun d M1 => Ev L ρ M1 b (fun e M2 => ∃ i j : Int, d = .int i ∧ e = .int j ∧ (-(2 ^ 62) ≤ i ∧ i < 2 ^ 62 ∧ -(2 ^ 62) ≤ j ∧ j < 2 ^ 62) ∧ Q (j - i).toNat (fun t => .int (i + (t : Int))) M2) E) E) : Src L ρ M tg (.Call (.Name "range" p) [a, b] [] pos) Q E := fun X ci σ G H R f s k x =>
  wpI_of (pi_range2 (X := X) (ci.gl hg) (by rw [ci.mg]; exact B.range) pa_wp (by rw [hs, hs2]; rfl) (by rw [hs2]; rfl)) (ea_cons (Q := fun ds M1 => ∃ i j : Int, ds = [.int i, .int j] ∧ (-(2 ^ 62) ≤ i ∧ i < 2 ^ 62 ∧ -(2 ^ 62) ≤ j ∧ j < 2 ^ 62) ∧ Q (j - i).toNat (fun t => .int (i + (t : Int))) M1) hs (h.mono (fun d M1 h => ea_cons (E := E) hs2 (h.mono (fun e M2 ⟨i, j, e1, e2, h1, q⟩ => ea_nil (E := E) ⟨i, j, by rw [e1, e2], h1, q⟩) fun _ _ z => z)) fun _ _ z => z) X ci σ G H _ f s (fun vs ds G1 M1 H1 m1 s1 r1 ⟨i, j, e, h1, q⟩ => by
    subst e
    obtain ⟨u, u2, rfl, r3, r2⟩ := r1.of_two
    have r3 : u = .int i := r3
    have r2 : u2 = .int j := r2
    subst r3; subst r2
    exact ⟨i, j, rfl, h1, k _ _ _ G1 M1 H1 m1 s1 (serves_range i (j - i).toNat) q⟩) x)
theorem src_enum {elts : List Expr} {kk : Nat} {tpos : Pos} (B : Bu L.g) (hg : Glo L "enumerate") (hs : ∀ env, starEach [a] env = (false, eval a env) :: starEach [] env) (h : Ev L ρ M a (fun d M1 => ∃ ds, (d = .lst ds ∨ d = .seq ds) ∧ Q ds.length (fun i => .tup [.int (i : Int), ds.getD i .non]) M1) E) : Src L ρ M (.Tuple elts kk tpos) (.Call (.Name "enumerate" p) [a] [] pos) Q E := fun X ci σ G H R f s k x =>
  wpI_of (pi_enum (X := X) (ci.gl hg) (by rw [ci.mg]; exact B.enumerate) pa_wp (hs X.env)) (ea_cons (Q := fun es M1 => ∃ d ds, es = [d] ∧ (d = .lst ds ∨ d = .seq ds) ∧ Q ds.length (fun i => .tup [.int (i : Int), ds.getD i .non]) M1) hs (h.mono (fun d M1 ⟨ds, hd, q⟩ => ea_nil (E := E) ⟨d, ds, rfl, hd, q⟩) fun _ _ z => z) X ci σ G H _ f s (fun vs es G1 M1 H1 m1 s1 r1 ⟨d, ds, e, hd, q⟩ => by
    subst e
    obtain ⟨u, rfl, r2⟩ := r1.of_one
    obtain ⟨p, vs, rfl, hs, hr⟩ : ∃ p vs, u = .ref p ∧ SqL L.g.K G1 p vs ∧ Reps L.g.K G1 ds vs := by
      rcases hd with hd | hd
      · subst hd; obtain ⟨p, vs, e, hh, hr⟩ := r2; exact ⟨p, vs, e, SqL.of hh, hr⟩
      · subst hd; exact r2
    refine ⟨p, vs, rfl, by rw [ci.K]; exact ex_l s1.ex hs, ?_⟩
    rw [ci.K]
    exact k _ _ _ G1 M1 H1 m1 s1 (serves_enum hs hr) q) x)
theorem s_list {ds : List D} (h : EvD L ρ M a (.lst ds)) : SrcD L ρ M tg a ds.length (fun i => ds.getD i .non) := src_list (h.go ⟨ds, .inl rfl, rfl, rfl, rfl⟩)
theorem s_tup {ds : List D} (h : EvD L ρ M a (.tup ds)) : SrcD L ρ M tg a ds.length (fun i => ds.getD i .non) := src_tup (h.go ⟨ds, rfl, rfl, rfl, rfl⟩)
theorem s_range1 {n : Int} (B : Bu L.g) (hg : Glo L "range") (h : EvD L ρ M a (.int n)) (hn : -(2 ^ 62) ≤ n ∧ n < 2 ^ 62) (hs : ∀ env, starEach [a] env = (false, eval a env) :: starEach [] env := by intro _; rfl) : SrcD L ρ M tg (.Call (.Name "range" p) [a] [] pos) n.toNat (fun i => .int (i : Int)) := src_range1 B hg hs (h.go ⟨n, rfl, hn.1, hn.2, rfl, rfl, rfl⟩)
theorem s_range2 {i j : Int} (B : Bu L.g) (hg : Glo L "range") (h : EvD L ρ M a (.int i)) (h2 : EvD L ρ M b (.int j)) (hn : -(2 ^ 62) ≤ i ∧ i < 2 ^ 62 ∧ -(2 ^ 62) ≤ j ∧ j < 2 ^ 62) (hs : ∀ env, starEach [a, b] env = (false, eval a env) :: starEach [b] env := by intro _; rfl) (hs2 : ∀ env, starEach [b] env = (false, eval b env) :: starEach [] env := by intro _; rfl) :
    SrcD L ρ M tg (.Call (.Name "range" p) [a, b] [] pos) (j - i).toNat (fun t => .int (i + (t : Int))) := src_range2 B hg hs hs2 (h.go (h2.go ⟨i, j, rfl, rfl, hn, rfl, rfl, rfl⟩))
theorem s_enum {elts : List Expr} {kk : Nat} {tpos : Pos} {ds : List D} (B : Bu L.g) (hg : Glo L "enumerate") (h : EvD L ρ M a (.lst ds)) (hs : ∀ env, starEach [a] env = (false, eval a env) :: starEach [] env := by intro _; rfl) : SrcD L ρ M (.Tuple elts kk tpos) (.Call (.Name "enumerate" p) [a] [] pos) ds.length (fun i => .tup [.int (i : Int), ds.getD i .non]) := src_enum B hg hs (h.go ⟨ds, .inl rfl, rfl, rfl, rfl⟩)
end
end DL
set_option Elab.async false
set_option linter.all false
set_option maxRecDepth 100000
set_option maxHeartbeats 4000000
/-! DE: comprehensions. -/
namespace DL
open PySem L2
section
variable {g : Gx} {G G' H H' : Hp} {M M' : Store} {p : Addr} {m : MO} {ds : List D}
theorem Sta.drop (s : Sta g G H ((p, m) :: M)) : Sta g G H M := ⟨s.ex, fun q hq => s.tie q (List.mem_cons_of_mem _ hq), (List.nodup_cons.mp s.nd).2, s.tabs, s.nt⟩
theorem Sta.hd (s : Sta g G H ((p, .lst ds) :: M)) : ∃ vs, H p = some (.lst vs) ∧ Reps g.K G ds vs := (s.tie _ List.mem_cons_self).2
/-- what the code did not see stands -/
theorem Sta.frame (s : Sta g G H ((p, .lst ds) :: M)) (mv : Mv G M H G' M H') (s' : Sta g G' H' M) : Sta g G' H' ((p, .lst ds) :: M) := by
  obtain ⟨vs, h1, h2⟩ := s.hd
  have nG : G p = none := (s.tie _ List.mem_cons_self).1
  have nM : p ∉ M.map (·.1) := (List.nodup_cons.mp s.nd).1
  have k : H' p = some (.lst vs) := mv.keep p _ h1 (fun ps z => by cases z) nM
  have nG' : G' p = none := by
    cases q : G' p with
    | none => rfl
    | some u =>
      rcases mv.new p (.inl (by rw [q]; intro z; cases z)) with z | z | z
      · exact absurd nG z
      · exact absurd z nM
      · rw [h1] at z; cases z
  refine ⟨s'.ex, fun q hq => ?_, s.nd, s'.tabs, s'.nt⟩
  rcases List.mem_cons.mp hq with rfl | hq
  · exact ⟨nG', vs, k, h2.mono mv.g⟩
  · exact s'.tie q hq
theorem Mv.framed (s : Sta g G H ((p, .lst ds) :: M)) (mv : Mv G M H G' M H') : Mv G ((p, .lst ds) :: M) H G' ((p, .lst ds) :: M) H' :=
  ⟨mv.g, fun b o e n hb => mv.keep b o e n fun z => hb (List.mem_cons_of_mem _ z), fun b h => by
    rcases h with h | h
    · rcases mv.new b (.inl h) with z | z | z
      · exact .inl z
      · exact .inr (.inl (List.mem_cons_of_mem _ z))
      · exact .inr (.inr z)
    · exact .inr (.inl h), mv.dom⟩
theorem Mv.drop (mv : Mv G M H G' ((p, m) :: M') H') : Mv G M H G' M' H' := ⟨mv.g, mv.keep, fun b h => mv.new b (h.imp id (List.mem_cons_of_mem _)), mv.dom⟩
/-- a list of the store that changes no more -/
theorem Sta.freeze (s : Sta g G H ((p, .lst ds) :: M)) : ∃ G', Sta g G' H M ∧ Same G G' ∧ Rep g.K G' (.lst ds) (.ref p) ∧ ∀ b, G' b ≠ none → G b ≠ none ∨ b = p := by
  obtain ⟨vs, h1, h2⟩ := s.hd
  have nG : G p = none := (s.tie _ List.mem_cons_self).1
  have nM : p ∉ M.map (·.1) := (List.nodup_cons.mp s.nd).1
  refine ⟨upd G p (.lst vs), ⟨fun b u e => ?_, fun q hq => ?_, (List.nodup_cons.mp s.nd).2, fun q hq => (s.tabs q hq).mono (same_new nG) (fun _ e => e), fun a ps e => ?_⟩, same_new nG, ⟨p, vs, rfl, upd_same, h2.mono (same_new nG)⟩, fun b h => ?_⟩
  · by_cases hb : b = p
    · subst hb; rw [upd_same] at e; cases e; exact h1
    · rw [upd_ne hb] at e; exact s.ex b u e
  · have hne : q.1 ≠ p := fun z => nM (List.mem_map.mpr ⟨q, hq, z⟩)
    obtain ⟨a1, a2⟩ := s.tie q (List.mem_cons_of_mem _ hq)
    exact ⟨by rw [upd_ne hne]; exact a1, a2.mono (same_new nG) fun _ e => e⟩
  · by_cases ha : a = p
    · subst ha; rw [upd_same] at e; cases e
    · rw [upd_ne ha] at e; exact s.nt a ps e
  · by_cases hb : b = p
    · exact .inr hb
    · rw [upd_ne hb] at h; exact .inl h
theorem Mv.freeze {G2 : Hp} (mv : Mv G M H G' ((p, m) :: M') H') (e : Same G' G2) (hn : ∀ b, G2 b ≠ none → G' b ≠ none ∨ b = p) : Mv G M H G2 M' H' :=
  ⟨mv.g.trans e, mv.keep, fun b h => by
    rcases h with h | h
    · rcases hn b h with z | z
      · exact mv.new b (.inl z)
      · exact mv.new b (.inr (by rw [z]; exact List.mem_cons_self))
    · exact mv.new b (.inr (List.mem_cons_of_mem _ h)), mv.dom⟩
end
/-- item by item -/
def PWs (P : Nat → D → Prop) : List Nat → List D → Prop
  | [], [] => True
  | i :: is, y :: ys => P i y ∧ PWs P is ys
  | _, _ => False
theorem PWs.snoc {P : Nat → D → Prop} {i : Nat} {y : D} (h : P i y) : ∀ {is : List Nat} {ys : List D}, PWs P is ys → PWs P (is ++ [i]) (ys ++ [y])
  | [], [], _ => ⟨h, True.intro⟩
  | j :: is, z :: ys, q => ⟨q.1, PWs.snoc h q.2⟩
  | [], _ :: _, q => q.elim
  | _ :: _, [], q => q.elim
theorem PWs.length {P : Nat → D → Prop} : ∀ {is : List Nat} {ys : List D}, PWs P is ys → ys.length = is.length
  | [], [], _ => rfl
  | j :: is, z :: ys, q => by simp [PWs.length q.2]
  | [], _ :: _, q => q.elim
  | _ :: _, [], q => q.elim
theorem PWs.eq {e : Nat → D} : ∀ {is : List Nat} {ys : List D}, PWs (fun i y => y = e i) is ys → ys = is.map e
  | [], [], _ => rfl
  | j :: is, z :: ys, q => by rw [q.1, PWs.eq q.2]; rfl
  | [], _ :: _, q => q.elim
  | _ :: _, [], q => q.elim
theorem PWs.at {P : Nat → D → Prop} : ∀ {is : List Nat} {ys : List D}, PWs P is ys → ∀ (k : Nat) (y : D), ys[k]? = some y → ∃ i, is[k]? = some i ∧ P i y
  | j :: is, z :: ys, q, 0, y, e => ⟨j, rfl, by simp at e; rw [← e]; exact q.1⟩
  | j :: is, z :: ys, q, k + 1, y, e => by
    obtain ⟨i, h1, h2⟩ := PWs.at q.2 k y (by simpa using e)
    exact ⟨i, by simpa using h1, h2⟩
  | [], [], _, _, _, e => by simp at e
  | [], _ :: _, q, _, _, _ => q.elim
  | _ :: _, [], q, _, _, _ => q.elim
def sel (n : Nat) (t : Nat → Bool) : List Nat := (List.range n).filter t
theorem sel_yes {n : Nat} {t : Nat → Bool} (h : t n = true) : sel (n + 1) t = sel n t ++ [n] := by unfold sel; rw [List.range_succ, List.filter_append]; simp [h]
theorem sel_no {n : Nat} {t : Nat → Bool} (h : t n = false) : sel (n + 1) t = sel n t := by unfold sel; rw [List.range_succ, List.filter_append]; simp [h]
theorem sel_len (n : Nat) (t : Nat → Bool) : (sel n t).length ≤ n := by unfold sel; exact Nat.le_trans (List.length_filter_le _ _) (by simp)
theorem sel_all (n : Nat) : sel n (fun _ => true) = List.range n := by unfold sel; simp

def Lx.blk (L : Lx) (scope : Scope) : Lx := ⟨L.g, L.N, relS scope L.sc, L.n, fun x => scope.names.lookup x == some .cell, L.cd, false⟩
theorem CI.blk {L : Lx} {X : Cx} (ci : CI L X) (scope : Scope) (s : Shared) (H : Hp) (C : Addr) (cl : List (Str × Addr)) (fp : List Addr) : CI (L.blk scope) (X.blk s H scope (compEnvC scope cl C X.env) fp) where
  prog := ci.prog
  w := ci.w
  K := ci.K
  mg := ci.mg
  base := ci.base
  N := ci.N
  sc := by
    show relS scope X.env.scope = relS scope L.sc
    rw [ci.sc]
  nd := ci.nd
  calm := ci.calm
  room := ci.room
  own := PassesOwn.never
  fn := rfl
  code := ci.code
  top := fun z => by cases z
def tts (X : Cx) (ifs : List Expr) : TT := match ifs with
  | [] => tYes
  | [c] => WpT X c
  | _ => fun _ _ _ => False
theorem pts_wp {X : Cx} {ifs : List Expr} : PTs X ifs (tts X ifs) := match ifs with
  | [] => pts_nil
  | [c] => pts_one pt_wp
  | _ :: _ :: _ => ⟨fun _ _ _ _ _ _ h => h.elim⟩
def EvIfs (L : Lx) (ρ : Ro) (M : Store) (ifs : List Expr) (b : Bool) : Prop := match ifs with
  | [] => b = true
  | [c] => EvTD L ρ M c b
  | _ => False
theorem tts_of {L : Lx} {ρ : Ro} {M : Store} {ifs : List Expr} {b : Bool} (h : EvIfs L ρ M ifs b) {X : Cx} (ci : CI L X) {σ : L2.St} {G H : Hp} {R : Bool → Hp → Prop} (f : Frm L.g.K G σ ρ) (s : Sta L.g G H M) (k : ∀ G' H', Mv G M H G' M H' → Sta L.g G' H' M → R b H') : tts X ifs σ H R := by
  match ifs, h with
  | [], h => have h : b = true := h; subst h; exact k G H (.refl ..) s
  | [c], h => exact h X ci σ G H R f s (fun b' G' M' H' m' s' ⟨e1, e2⟩ => by subst e1; subst e2; exact k G' H' m' s') KX.none
  | _ :: _ :: _, h => exact h.elim
/-- one turn of a comprehension -/
def LcTurn (L : Lx) (ρ : Ro) (M : Store) (pt : Pat) (own : List (Str × Nat)) (elt : Expr) (ifs : List Expr) (f : Nat → D) (t : Nat → Bool) (P : Nat → D → Prop) (i : Nat) : Prop :=
  ∃ ρ', pt.asg (wipeR ρ (own.map (·.2))) (f i) ρ' ∧ EvIfs L ρ' M ifs (t i) ∧ (t i = true → Ev L ρ' M elt (fun y M' => M' = M ∧ P i y) NoE)
section
variable {L : Lx} {ρ : Ro} {M : Store} {Q : D → Store → Prop} {E : Addr → Store → Prop} {elt tg iter : Expr} {ifs : List Expr} {scope : Scope} {own : List (Str × Nat)} {pt : Pat} {pos : Pos}
/-- a comprehension's source and turns; then what follows with the list made -/
def LcQ (L : Lx) (ρ : Ro) (pt : Pat) (scope : Scope) (own : List (Str × Nat)) (elt : Expr) (ifs : List Expr) (Q : D → Store → Prop) (n : Nat) (f : Nat → D) (M1 : Store) : Prop :=
  n ≤ 50000 ∧ ∃ t P, (∀ i, i < n → LcTurn (L.blk scope) ρ M1 pt own elt ifs f t P i) ∧ ∀ out, PWs P (sel n t) out → Q (.lst out) M1
theorem lc_read (hj : ∀ j ∈ pt.js, j ∈ own.map (·.2)) (hsrc : Src L ρ M tg iter (LcQ L ρ pt scope own elt ifs Q) E) {X : Cx} (ci : CI L X) {σ : L2.St} {G H : Hp} {R : VK} (fr : Frm L.g.K G σ ρ) (s : Sta L.g G H M) (k : KD L.g G M H Q R) (x : KX L.g X σ G M H E) :
    tLc (WpI X tg iter) (gP L.g.K pt) (fun σ H Q => ∀ s H0 C cl fp, tts (X.blk s H0 scope (compEnvC scope cl C X.env) fp) ifs σ H Q) (fun σ H Q => ∀ s H0 C cl fp, Wp (X.blk s H0 scope (compEnvC scope cl C X.env) fp) elt σ H Q) (own.map (·.2)) σ H R := by
  refine hsrc X ci σ G H _ fr s (fun J n f G1 M1 H1 m1 s1 sv ⟨hn, t, P, turn, fin⟩ => ?_) x
  intro Dl hD
  obtain ⟨s1', m1'⟩ := s1.newM hD (Reps.nil (K := L.g.K) (H := G1))
  refine ⟨fun i m H' => m = n - i ∧ i ≤ n ∧ ∃ G' out, Sta L.g G' H' ((Dl, .lst out) :: M1) ∧ Mv G1 M1 H1 G' ((Dl, .lst out) :: M1) H' ∧ PWs P (sel i t) out, ⟨n, by simp, Nat.zero_le _, G1, [], s1', m1', True.intro⟩, ?_⟩
  rintro i m H' ⟨rfl, hi, G', out, s', m', pw⟩
  by_cases hlt : i < n
  · obtain ⟨go, yl⟩ := sv.go i hlt G' H' _ m'.g s'
    refine .inr ⟨go, fun H2 => ∃ G2 out2, Sta L.g G2 H2 ((Dl, .lst out2) :: M1) ∧ Mv G1 M1 H1 G2 ((Dl, .lst out2) :: M1) H2 ∧ PWs P (sel (i + 1) t) out2, fun H2 q => ⟨n - (i + 1), by omega, rfl, hlt, q⟩, fun w H2 hy => ?_⟩
    obtain ⟨G2, s2, m2, r2⟩ := yl w H2 hy
    have m12 := m'.trans s' m2
    obtain ⟨ρ', ha, hifs, helt⟩ := turn i hlt
    have f1 : Frm L.g.K G2 (L2.wipe σ (own.map (·.2))) (wipeR ρ (own.map (·.2))) := ((fr.mono m1.g).mono m12.g).wipe _
    refine pat_read (τ := σ) ha hj r2 s2.ex f1 (wipe_wipe _ _) fun σ2 f2 hw => ⟨hw, ?_⟩
    intro ss H0 C cl fp
    have cib := ci.blk scope ss H0 C cl fp
    refine tts_of hifs cib f2 s2.drop fun G3 H3 m3 s3 => ?_
    have s3' := s2.frame m3 s3
    have m3' := Mv.framed s2 m3
    have m13 := m12.trans s2 m3'
    cases ht : t i with
    | false =>
      rw [if_neg Bool.false_ne_true]
      exact ⟨G3, out, s3', m13, by rw [sel_no ht]; exact pw⟩
    | true =>
      rw [if_pos rfl]
      intro ss4 H04 C4 cl4 fp4
      refine helt ht _ (ci.blk scope ss4 H04 C4 cl4 fp4) σ2 G3 H3 _ (f2.mono m3.g) s3 (fun y d G4 M4 H4 m4 s4 r4 ⟨eM, pd⟩ => ?_) KX.none
      subst eM
      have s4' := s3'.frame m4 s4
      have m4' := Mv.framed s3' m4
      have m14 := m13.trans s3' m4'
      obtain ⟨acc, h1, h2⟩ := s4'.hd
      have hz : out.length ≤ n := by rw [pw.length]; exact Nat.le_trans (sel_len i t) hi
      obtain ⟨s5, m5⟩ := s4'.put (j := 0) rfl (h2.append (.one r4))
      refine ⟨acc, h1, ?_, G4, out ++ [d], s5, m14.trans s4' m5, ?_⟩
      · rw [h2.length]; exact Nat.lt_of_le_of_lt (Nat.le_trans hz hn) (by decide)
      · rw [sel_yes ht]; exact pw.snoc pd
  · have e : i = n := by omega
    subst e
    refine .inl ⟨sv.stop G' H' _ m'.g s', ?_⟩
    obtain ⟨G2, s2, e2, r2, n2⟩ := s'.freeze
    exact k _ _ G2 M1 H' (m1.trans s1 (m'.freeze e2 n2)) s2 r2 (fin out pw)
theorem ev_lc (own : List (Str × Nat)) (pt : Pat) (hp : PatOk (L.blk scope) tg pt) (hb : blkC L.N L.sc scope own = true) (hj : ∀ j ∈ pt.js, j ∈ own.map (·.2)) (hs : ∀ env x, foldedSetIterable iter env x = pure x) (hsrc : Src L ρ M tg iter (LcQ L ρ pt scope own elt ifs Q) E) : Ev L ρ M (.ListComp elt [⟨tg, iter, ifs, 0⟩] scope pos) Q E := fun X ci σ G H R f s k x => by
  refine wp_of (pe_lc (X := X) (own := own) (wi := WpI X tg iter) (g := gP L.g.K pt) (tt := fun σ H Q => ∀ s H0 C cl fp, tts (X.blk s H0 scope (compEnvC scope cl C X.env) fp) ifs σ H Q) (te := fun σ H Q => ∀ s H0 C cl fp, Wp (X.blk s H0 scope (compEnvC scope cl C X.env) fp) elt σ H Q)
    ci.calm (by rw [ci.N]; exact ci.nd) pi_wp (by rw [ci.N, ci.sc]; exact blkOk_by hb) (fun s H C cl fp => hp.pg (ci.blk scope s H C cl fp)) (fun s H C cl fp => ⟨fun pins s' σ' H' Q' I h => (pts_wp (X := X.blk s H scope (compEnvC scope cl C X.env) fp) (ifs := ifs)).run pins s' σ' H' Q' I (h s H C cl fp)⟩) (fun s H C cl fp => ⟨fun pins s' σ' H' Q' I h => h s H C cl fp pins s' I⟩) (hs X.env)) ?_
  exact lc_read hj hsrc ci f s k x
/-- the turn's value told -/
theorem d_lc {n : Nat} {f : Nat → D} (own : List (Str × Nat)) (pt : Pat) (t : Nat → Bool) (e : Nat → D) (hp : PatOk (L.blk scope) tg pt) (hb : blkC L.N L.sc scope own = true) (hj : ∀ j ∈ pt.js, j ∈ own.map (·.2)) (hsrc : SrcD L ρ M tg iter n f) (hn : n ≤ 50000)
    (turn : ∀ i, i < n → ∃ ρ', pt.asg (wipeR ρ (own.map (·.2))) (f i) ρ' ∧ EvIfs (L.blk scope) ρ' M ifs (t i) ∧ (t i = true → EvD (L.blk scope) ρ' M elt (e i))) (hs : ∀ env x, foldedSetIterable iter env x = pure x := by intros; rfl) :
    EvD L ρ M (.ListComp elt [⟨tg, iter, ifs, 0⟩] scope pos) (.lst ((sel n t).map e)) :=
  ev_lc own pt hp hb hj hs (hsrc.go ⟨hn, t, fun i y => y = e i, fun i hi => by
    obtain ⟨ρ', h1, h2, h3⟩ := turn i hi
    exact ⟨ρ', h1, h2, fun ht => (h3 ht).mono (fun d M' ⟨a, b⟩ => ⟨b, a⟩) fun _ _ z => z⟩, fun out q => ⟨by rw [q.eq], rfl⟩⟩)
/-- no test -/
theorem d_map {n : Nat} {f : Nat → D} (own : List (Str × Nat)) (pt : Pat) (e : Nat → D) (hp : PatOk (L.blk scope) tg pt) (hb : blkC L.N L.sc scope own = true) (hj : ∀ j ∈ pt.js, j ∈ own.map (·.2)) (hsrc : SrcD L ρ M tg iter n f) (hn : n ≤ 50000)
    (turn : ∀ i, i < n → ∃ ρ', pt.asg (wipeR ρ (own.map (·.2))) (f i) ρ' ∧ EvD (L.blk scope) ρ' M elt (e i)) (hs : ∀ env x, foldedSetIterable iter env x = pure x := by intros; rfl) :
    EvD L ρ M (.ListComp elt [⟨tg, iter, [], 0⟩] scope pos) (.lst ((List.range n).map e)) := by
  have h := d_lc (ifs := []) (pos := pos) own pt (fun _ => true) e hp hb hj hsrc hn (fun i hi => by
    obtain ⟨ρ', h1, h2⟩ := turn i hi
    exact ⟨ρ', h1, (rfl : true = true), fun _ => h2⟩) hs
  rw [sel_all] at h
  exact h
end
end DL
set_option Elab.async false
set_option linter.all false
set_option maxRecDepth 100000
set_option maxHeartbeats 4000000
/-! DF: statements, defs. -/
namespace DL
open PySem L2
section
variable {L : Lx} {ρ : Ro} {M : Store} {P P' : Post} {st : Stmt} {ss rest : List Stmt} {e a b c tg : Expr} {pos p : Pos} {i j : Nat} {x : Str}
theorem KS.to {g : Gx} {X : Cx} {G H : Hp} {M : Store} {P P' : Post} {Dn Dn' : Ends} (k : KS g X G M H P Dn) (h1 : ∀ σ' ρ' G' M' H', Frm g.K G' σ' ρ' → Mv G M H G' M' H' → Sta g G' H' M' → P'.nx ρ' M' → Dn'.nx σ' H') (hr : P'.rt = P.rt) (he : P'.ex = P.ex) (hb : P'.bk = P.bk) (hc : P'.ct = P.ct)
    (dr : Dn'.rt = Dn.rt) (db : Dn'.bk = Dn.bk) (dc : Dn'.ct = Dn.ct) : KS g X G M H P' Dn' := by
  refine ⟨h1, by rw [hr, dr]; exact k.rt, by rw [hb, db]; exact k.bk, by rw [hc, dc]; exact k.ct, by rw [he]; exact k.ex⟩
theorem run_nil (q : P.nx ρ M) : Run L ρ M [] P := fun X ci σ G H Dn f s k => wpSs_of pss_nil (k.nx σ ρ G M H f (.refl ..) s q)
theorem run_cons (h : Stm L ρ M st { P with nx := fun ρ' M' => Run L ρ' M' rest P }) : Run L ρ M (st :: rest) P := fun X ci σ G H Dn f s k =>
  wpSs_of (pss_cons ps_wp pss_wp) (h X ci σ G H _ f s (k.to (fun σ' ρ' G' M' H' f' m' s' q => q X ci σ' G' H' Dn f' s' (k.move s' m')) rfl rfl rfl rfl rfl rfl rfl))
theorem run_one (h : Stm L ρ M st P) : Run L ρ M [st] P := fun X ci σ G H Dn f s k => wpSs_of (pss_one ps_wp) (h X ci σ G H Dn f s k)
theorem Stm.mono (h : Stm L ρ M st P) (h1 : ∀ a b, P.nx a b → P'.nx a b) (h2 : ∀ a b, P.rt a b → P'.rt a b) (h3 : ∀ a b, P.bk a b → P'.bk a b) (h4 : ∀ a b, P.ct a b → P'.ct a b) (h5 : ∀ a b, P.ex a b → P'.ex a b) : Stm L ρ M st P' := fun X ci σ G H Dn f s k =>
  h X ci σ G H Dn f s ⟨fun σ' ρ' G' M' H' f' m' s' q => k.nx σ' ρ' G' M' H' f' m' s' (h1 _ _ q), fun v d G' M' H' m' s' r q => k.rt v d G' M' H' m' s' r (h2 _ _ q), fun σ' ρ' G' M' H' f' m' s' q => k.bk σ' ρ' G' M' H' f' m' s' (h3 _ _ q), fun σ' ρ' G' M' H' f' m' s' q => k.ct σ' ρ' G' M' H' f' m' s' (h4 _ _ q), fun σ' C G' M' H' m' s' q => k.ex σ' C G' M' H' m' s' (h5 _ _ q)⟩
theorem Run.mono (h : Run L ρ M ss P) (h1 : ∀ a b, P.nx a b → P'.nx a b) (h2 : ∀ a b, P.rt a b → P'.rt a b) (h3 : ∀ a b, P.bk a b → P'.bk a b) (h4 : ∀ a b, P.ct a b → P'.ct a b) (h5 : ∀ a b, P.ex a b → P'.ex a b) : Run L ρ M ss P' := fun X ci σ G H Dn f s k =>
  h X ci σ G H Dn f s ⟨fun σ' ρ' G' M' H' f' m' s' q => k.nx σ' ρ' G' M' H' f' m' s' (h1 _ _ q), fun v d G' M' H' m' s' r q => k.rt v d G' M' H' m' s' r (h2 _ _ q), fun σ' ρ' G' M' H' f' m' s' q => k.bk σ' ρ' G' M' H' f' m' s' (h3 _ _ q), fun σ' ρ' G' M' H' f' m' s' q => k.ct σ' ρ' G' M' H' f' m' s' (h4 _ _ q), fun σ' C G' M' H' m' s' q => k.ex σ' C G' M' H' m' s' (h5 _ _ q)⟩

/-! ### stores -/
theorem stm_set {px : Pos} (hn : NameOk L (.Name x px) i) (hs : ∀ env, swapsWith e (some (.Name x px)) pos.line env = pure false) (h : Ev L ρ M e (fun d M' => P.nx (ρ.set i (some d)) M') P.ex) : Stm L ρ M (.Assign [.Name x px] e pos) P := fun X ci σ G H Dn f s k => by
  obtain ⟨y, p, ey, h1, h2, h3⟩ := hn.ex
  cases ey
  refine wpS_of (ps_set (X := X) (i := i) (by rw [ci.N]; exact ci.nd) (by rw [ci.N]; exact h1) (by rw [ci.sc]; exact h2) pe_wp (hs X.env) (by rw [ci.fn, ci.sc]; exact h3)) ?_
  exact h X ci σ G H _ f s (fun v d G' M' H' m' s' r q => k.nx _ _ G' M' H' ((f.mono m'.g).set r) m' s' q) (k.ex σ)
theorem t_set {px : Pos} {d : D} (h : EvD L ρ M e d) (q : P.nx (ρ.set i (some d)) M) (hn : NameOk L (.Name x px) i := by exact name_ok) (hs : ∀ env, swapsWith e (some (.Name x px)) pos.line env = pure false := by intro _; rfl) : Stm L ρ M (.Assign [.Name x px] e pos) P := stm_set hn hs (h.go q)
/-- name = [..] -/
theorem stm_lc {px lpos : Pos} {elt ltg iter : Expr} {ifs : List Expr} {scope : Scope} (own : List (Str × Nat)) (pt : Pat) (hN : L.N[i]? = some x) (hl : L.sc.names.lookup x = some .local) (hp : PatOk (L.blk scope) ltg pt) (hb : blkC L.N L.sc scope own = true) (hj : ∀ j ∈ pt.js, j ∈ own.map (·.2)) (hs : ∀ env x, foldedSetIterable iter env x = pure x)
    (hk : L.sc.kind = .function) (hln : (px.line == lpos.line) = true) (hno : (scope.names.any fun (n, k) => n == x && (k == .local || k == .cell)) = false)
    (hsrc : Src L ρ M ltg iter (LcQ L ρ pt scope own elt ifs (fun d M' => P.nx (ρ.set i (some d)) M')) P.ex) : Stm L ρ M (.Assign [.Name x px] (.ListComp elt [⟨ltg, iter, ifs, 0⟩] scope lpos) pos) P := fun X ci σ G H Dn f s k => by
  refine wpS_of (ps_setLc (X := X) (i := i) (own := own) (wi := WpI X ltg iter) (g := gP L.g.K pt) (tt := fun σ H Q => ∀ s H0 C cl fp, tts (X.blk s H0 scope (compEnvC scope cl C X.env) fp) ifs σ H Q) (te := fun σ H Q => ∀ s H0 C cl fp, Wp (X.blk s H0 scope (compEnvC scope cl C X.env) fp) elt σ H Q)
    ci.calm (by rw [ci.N]; exact ci.nd) (by rw [ci.N]; exact hN) (by rw [ci.sc]; exact hl) (sw_true (by rw [ci.sc]; exact hk) (by rw [ci.sc]; exact hl) hln hno) pi_wp (by rw [ci.N, ci.sc]; exact blkOk_by hb) (fun s H C cl fp => hp.pg (ci.blk scope s H C cl fp))
    (fun s H C cl fp => ⟨fun pins s' σ' H' Q' I h => (pts_wp (X := X.blk s H scope (compEnvC scope cl C X.env) fp) (ifs := ifs)).run pins s' σ' H' Q' I (h s H C cl fp)⟩) (fun s H C cl fp => ⟨fun pins s' σ' H' Q' I h => h s H C cl fp pins s' I⟩) (hs X.env)) ?_
  exact lc_read (R := fun v H1 => gName i v σ H1 Dn.nx) hj hsrc ci f s (fun v d G' M' H' m' s' r q => k.nx _ _ G' M' H' ((f.mono m'.g).set r) m' s' q) (k.ex σ)
theorem t_lc {px lpos : Pos} {elt ltg iter : Expr} {ifs : List Expr} {scope : Scope} {n : Nat} {ff : Nat → D} (own : List (Str × Nat)) (pt : Pat) (t : Nat → Bool) (el : Nat → D) (hN : L.N[i]? = some x) (hl : L.sc.names.lookup x = some .local) (hp : PatOk (L.blk scope) ltg pt) (hb : blkC L.N L.sc scope own = true) (hj : ∀ j ∈ pt.js, j ∈ own.map (·.2))
    (hk : L.sc.kind = .function) (hln : (px.line == lpos.line) = true) (hno : (scope.names.any fun (n, k) => n == x && (k == .local || k == .cell)) = false) (hsrc : SrcD L ρ M ltg iter n ff) (hn : n ≤ 50000)
    (turn : ∀ i, i < n → ∃ ρ', pt.asg (wipeR ρ (own.map (·.2))) (ff i) ρ' ∧ EvIfs (L.blk scope) ρ' M ifs (t i) ∧ (t i = true → EvD (L.blk scope) ρ' M elt (el i))) (q : P.nx (ρ.set i (some (.lst ((sel n t).map el)))) M) (hs : ∀ env x, foldedSetIterable iter env x = pure x := by intros; rfl) :
    Stm L ρ M (.Assign [.Name x px] (.ListComp elt [⟨ltg, iter, ifs, 0⟩] scope lpos) pos) P :=
  stm_lc own pt hN hl hp hb hj hs hk hln hno (hsrc.go ⟨hn, t, fun i y => y = el i, fun i hi => by
    obtain ⟨ρ', h1, h2, h3⟩ := turn i hi
    exact ⟨ρ', h1, h2, fun ht => (h3 ht).mono (fun d M' ⟨a, b⟩ => ⟨b, a⟩) fun _ _ z => z⟩, fun out pw => by rw [pw.eq]; exact q⟩)
/-- a target of several names, a tuple's value -/
theorem stm_un {pt : Pat} (hp : PatOk L tg pt) (hs : ∀ env, swapsWithSole [tg] e pos.line env = pure false) (hw : ∀ env : PySem.Env, env.scope = L.sc → swappedStores [tg] e env = pure none) (h1 : ∀ env, (assignEach [tg] env).map (·.2) = [assign tg env])
    (h : Ev L ρ M e (fun d M' => ∃ ρ', pt.asg ρ d ρ' ∧ P.nx ρ' M') P.ex) : Stm L ρ M (.Assign [tg] e pos) P := fun X ci σ G H Dn f s k => by
  refine wpS_of (ps_asg (X := X) pe_wp (hp.pg ci) (hs X.env) (hw X.env ci.sc) (h1 X.env)) ?_
  refine h X ci σ G H _ f s (fun v d G' M' H' m' s' r ⟨ρ', ha, q⟩ => ?_) (k.ex σ)
  exact pat_read (vs0 := pt.js) (τ := σ) ha (fun _ z => z) r s'.ex (f.mono m'.g) rfl fun σ' f' _ => k.nx σ' ρ' G' M' H' f' m' s' q
theorem t_un {pt : Pat} {d : D} {ρ' : Ro} (h : EvD L ρ M e d) (ha : pt.asg ρ d ρ') (q : P.nx ρ' M) (hp : PatOk L tg pt) (hw : ∀ env : PySem.Env, env.scope = L.sc → swappedStores [tg] e env = pure none) (hs : ∀ env, swapsWithSole [tg] e pos.line env = pure false := by intro _; rfl) (h1 : ∀ env, (assignEach [tg] env).map (·.2) = [assign tg env] := by intro _; rfl) : Stm L ρ M (.Assign [tg] e pos) P :=
  stm_un hp hs hw h1 (h.go ⟨ρ', ha, q⟩)
/-- a, b = a list of two .. -/
theorem stm_unL {es : List Expr} {kt : Nat} {pt2 : Pos} {js : List Nat} (hp : NamesOk L es js) (hs : ∀ env, swapsWithSole [.Tuple es kt pt2] e pos.line env = pure false) (hw : ∀ env : PySem.Env, env.scope = L.sc → swappedStores [.Tuple es kt pt2] e env = pure none)
    (h : Ev L ρ M e (fun d M' => ∃ ds, d = .lst ds ∧ ds.length = js.length ∧ P.nx (setAll ρ js ds) M') P.ex) : Stm L ρ M (.Assign [.Tuple es kt pt2] e pos) P := fun X ci σ G H Dn f s k => by
  obtain ⟨e1, e2⟩ := hp.each X.env
  refine wpS_of (ps_asg (X := X) pe_wp (pg_lst (k := kt) (pos := pt2) ci.calm (hp.pgs ci) e1 e2) (hs X.env) (hw X.env ci.sc) (by rfl)) ?_
  refine h X ci σ G H _ f s (fun v d G' M' H' m' s' r ⟨ds, hd, hl, q⟩ => ?_) (k.ex σ)
  subst hd
  obtain ⟨a, vs, rfl, h1, h2⟩ := r
  exact ⟨a, vs, rfl, by rw [ci.K]; exact SqL.of (s'.ex _ _ h1), by rw [h2.length, hl], setAll_read (vs0 := js) (τ := σ) (fun _ z => z) hl h2 (f.mono m'.g) rfl fun σ' f' _ => k.nx σ' _ G' M' H' f' m' s' q⟩
/-- a, b = x, y, local names: stored from the right -/
theorem stm_par {y : Str} {px py pt : Pos} {kt k2 : Nat} {pt2 : Pos} (hi : L.N[i]? = some x) (hj : L.N[j]? = some y) (hij : i ≠ j) (hx : L.sc.names.lookup x = some .local) (hy : L.sc.names.lookup y = some .local)
    (hw : ∀ env : PySem.Env, env.scope = L.sc → swappedStores [.Tuple [.Name x px, .Name y py] kt pt] (.Tuple [a, b] k2 pt2) env = pure (some [x, y]))
    (h : EvA L ρ M [a, b] (fun ds M' => ∃ d d', ds = [d, d'] ∧ P.nx ((ρ.set i (some d)).set j (some d')) M') P.ex) : Stm L ρ M (.Assign [.Tuple [.Name x px, .Name y py] kt pt] (.Tuple [a, b] k2 pt2) pos) P := fun X ci σ G H Dn f s k => by
  refine wpS_of (ps_par (X := X) ci.calm (by rw [ci.N]; exact ci.nd) (by rw [ci.N]; exact hi) (by rw [ci.N]; exact hj) hij (by rw [ci.sc]; exact hx) (by rw [ci.sc]; exact hy) pa_wp (hw X.env ci.sc) (by rfl)) ?_
  refine h X ci σ G H _ f s (fun vs ds G' M' H' m' s' r ⟨d, d', e, q⟩ => ?_) (k.ex σ)
  subst e
  obtain ⟨v, u, rfl, r1, r2⟩ := r.of_two
  exact ⟨v, u, rfl, k.nx _ _ G' M' H' (((f.mono m'.g).set r1).set r2) m' s' q⟩
theorem t_par {y : Str} {px py pt : Pos} {kt k2 : Nat} {pt2 : Pos} {d d' : D} (h1 : EvD L ρ M a d) (h2 : EvD L ρ M b d') (q : P.nx ((ρ.set i (some d)).set j (some d')) M) (hw : ∀ env : PySem.Env, env.scope = L.sc → swappedStores [.Tuple [.Name x px, .Name y py] kt pt] (.Tuple [a, b] k2 pt2) env = pure (some [x, y]))
    (hi : L.N[i]? = some x := by rfl) (hj : L.N[j]? = some y := by rfl) (hij : i ≠ j := by decide) (hx : L.sc.names.lookup x = some .local := by rfl) (hy : L.sc.names.lookup y = some .local := by rfl)
    (hs : ∀ env, starEach [a, b] env = (false, eval a env) :: starEach [b] env := by intro _; rfl) (hs2 : ∀ env, starEach [b] env = (false, eval b env) :: starEach [] env := by intro _; rfl) : Stm L ρ M (.Assign [.Tuple [.Name x px, .Name y py] kt pt] (.Tuple [a, b] k2 pt2) pos) P :=
  stm_par hi hj hij hx hy hw (ea_cons hs (h1.go (ea_cons hs2 (h2.go (ea_nil ⟨d, d', rfl, q⟩)))))
theorem stm_par3 {y z : Str} {l : Nat} {px py pz pt : Pos} {kt k2 : Nat} {pt2 : Pos} (hi : L.N[i]? = some x) (hj : L.N[j]? = some y) (hl : L.N[l]? = some z) (hij : i ≠ j) (hil : i ≠ l) (hjl : j ≠ l) (hx : L.sc.names.lookup x = some .local) (hy : L.sc.names.lookup y = some .local) (hz : L.sc.names.lookup z = some .local)
    (hw : ∀ env : PySem.Env, env.scope = L.sc → swappedStores [.Tuple [.Name x px, .Name y py, .Name z pz] kt pt] (.Tuple [a, b, c] k2 pt2) env = pure (some [x, y, z]))
    (h : EvA L ρ M [a, b, c] (fun ds M' => ∃ d d' d'', ds = [d, d', d''] ∧ P.nx (((ρ.set i (some d)).set j (some d')).set l (some d'')) M') P.ex) : Stm L ρ M (.Assign [.Tuple [.Name x px, .Name y py, .Name z pz] kt pt] (.Tuple [a, b, c] k2 pt2) pos) P := fun X ci σ G H Dn f s k => by
  refine wpS_of (ps_par3 (X := X) ci.calm (by rw [ci.N]; exact ci.nd) (by rw [ci.N]; exact hi) (by rw [ci.N]; exact hj) (by rw [ci.N]; exact hl) hij hil hjl (by rw [ci.sc]; exact hx) (by rw [ci.sc]; exact hy) (by rw [ci.sc]; exact hz) pa_wp (hw X.env ci.sc) (by rfl)) ?_
  refine h X ci σ G H _ f s (fun vs ds G' M' H' m' s' r ⟨d, d', d'', e, q⟩ => ?_) (k.ex σ)
  subst e
  obtain ⟨v, ws, rfl, r1, r2⟩ := r
  obtain ⟨u, w, rfl, r2, r3⟩ := r2.of_two
  exact ⟨v, u, w, rfl, k.nx _ _ G' M' H' ((((f.mono m'.g).set r1).set r2).set r3) m' s' q⟩
/-- o[i] = v, o a list of the store -/
theorem stm_put {ptx : Pos} (hs : ∀ env, swapsWithSole [.Subscript a b ptx] e pos.line env = pure false) (hw : ∀ env, swappedStores [.Subscript a b ptx] e env = pure none) (h1 : ∀ env, (assignEach [.Subscript a b ptx] env).map (·.2) = [assign (.Subscript a b ptx) env])
    (ha : ∀ env v, assign (.Subscript a b ptx) env v = (do
      let ov ← holding [v] (eval a env)
      let iv ← holding [v, ov] (eval b env)
      standAt ptx
      holding [v, ov, iv] (setItem ov iv v)
      release [v, ov, iv] []))
    (h : Ev L ρ M e (fun d M1 => Ev L ρ M1 a (fun o M2 => Ev L ρ M2 b (fun i M3 => ∃ (p : Addr) (k : Int) (j : Nat) (ds : List D) (n : Nat), o = .ref p ∧ i = .int k ∧ M3[j]? = some (p, .lst ds) ∧ ixN ds.length k = some n ∧ P.nx ρ (M3.set j (p, .lst (ds.set n d)))) P.ex) P.ex) P.ex) : Stm L ρ M (.Assign [.Subscript a b ptx] e pos) P := fun X ci σ G H Dn f s k => by
  refine wpS_of (ps_asg (X := X) pe_wp (pg_sub (X := X) pe_wp pe_wp set_list (ha X.env)) (hs X.env) (hw X.env) (h1 X.env)) ?_
  refine h X ci σ G H _ f s (fun v d G1 M1 H1 m1 s1 r1 q1 => ?_) (k.ex σ)
  refine q1 X ci σ G1 H1 _ (f.mono m1.g) s1 (fun o dO G2 M2 H2 m2 s2 r2 q2 => ?_) ((k.ex σ).move s1 m1)
  refine q2 X ci σ G2 H2 _ ((f.mono m1.g).mono m2.g) s2 (fun ix dI G3 M3 H3 m3 s3 r3 ⟨p, kk, jj, ds, n, eo, ei, hm, hn, q⟩ => ?_) (((k.ex σ).move s1 m1).move s2 m2)
  subst eo; subst ei
  have r2 : o = .ref p := r2
  have r3 : ix = .int kk := r3
  subst r2; subst r3
  obtain ⟨_, vs, h1, h2⟩ := s3.tie _ (List.mem_of_getElem? hm)
  obtain ⟨s4, m4⟩ := s3.put hm (h2.set ((r1.mono m2.g).mono m3.g) n)
  have m14 := ((m1.trans s1 m2).trans s2 m3).trans s3 m4
  exact ⟨p, vs, kk, n, rfl, rfl, h1, by rw [h2.length]; exact hn, k.nx σ ρ _ _ _ (f.mono m14.g) m14 s4 q⟩

/-! ### expressions dropped; append -/
theorem stm_expr (hs : ∀ env, swapsWith e none pos.line env = pure false) (h : Ev L ρ M e (fun _ M' => P.nx ρ M') P.ex) : Stm L ρ M (.Expr e pos) P := fun X ci σ G H Dn f s k =>
  wpS_of (ps_expr (X := X) pe_wp (hs X.env)) (h X ci σ G H _ f s (fun v d G' M' H' m' s' r q => k.nx σ ρ G' M' H' (f.mono m'.g) m' s' q) (k.ex σ))
theorem ev_app {apos : Pos} {Q : D → Store → Prop} {E : Addr → Store → Prop} (hbase : ∀ env, attributeBase a "append" env (eval a env) = eval a env)
    (hfew : ∀ env, ((backTo pos (starEach [b] env)).all (fun x => !x.1) && (backToKw pos (keywordEach [] env)).all (fun x => x.1.isSome) && decide ([b].length + ([] : List Keyword).length + (if ([] : List Keyword).isEmpty then 0 else 1) < 30)) = true)
    (hline : (apos.endLine == pos.line) = true) (hs : ∀ env, starEach [b] env = (false, eval b env) :: starEach [] env)
    (h : Ev L ρ M a (fun o M1 => ∃ (p : Addr) (j0 : Nat) (ds0 : List D), o = .ref p ∧ M1[j0]? = some (p, MO.lst ds0) ∧ Ev L ρ M1 b (fun d M2 => ∃ (j : Nat) (ds : List D), M2[j]? = some (p, .lst ds) ∧ ds.length < 100000 ∧ Q .non (M2.set j (p, .lst (ds ++ [d])))) E) E) :
    Ev L ρ M (.Call (.Attribute a "append" apos) [b] [] pos) Q E := fun X ci σ G H R f s k x => by
  refine wp_of (pe_bm (X := X) PySem.F.plainAttrs_list PySem.F.slot_list_append PySem.F.type_list_append mt_append pe_wp (pa_wp (es := [b])) (hbase X.env) (hfew X.env) hline (hs X.env) (by rfl)) ?_
  refine h X ci σ G H _ f s (fun o dO G1 M1 H1 m1 s1 r1 ⟨p, j0, ds0, eo, hm0, q1⟩ => ?_) x
  subst eo
  have r1 : o = .ref p := r1
  subst r1
  obtain ⟨_, vs0, h10, h20⟩ := s1.tie _ (List.mem_of_getElem? hm0)
  refine ⟨.inl ⟨rfl, vs0, by rw [ci.K]; exact SqL.of h10⟩, ?_⟩
  refine ea_cons (L := L) (Q := fun es M2 => ∃ d, es = [d] ∧ ∃ (j : Nat) (ds : List D), M2[j]? = some (p, .lst ds) ∧ ds.length < 100000 ∧ Q .non (M2.set j (p, .lst (ds ++ [d])))) hs (q1.mono (fun d M2 q => ea_nil (E := E) ⟨d, rfl, q⟩) fun _ _ z => z) X ci σ G1 H1 _ (f.mono m1.g) s1 (fun vs es G2 M2 H2 m2 s2 r2 ⟨d, e1, j, ds, hm, hz, q⟩ => ?_) (x.move s1 m1)
  subst e1
  obtain ⟨u, rfl, r3⟩ := r2.of_one
  obtain ⟨_, vs, h1, h2⟩ := s2.tie _ (List.mem_of_getElem? hm)
  obtain ⟨s3, m3⟩ := s2.put hm (h2.append (.one r3))
  exact ⟨p, vs, u, rfl, rfl, h1, by rw [h2.length]; exact Nat.lt_of_lt_of_le hz (by decide), k _ _ G2 _ _ ((m1.trans s1 m2).trans s2 m3) s3 rep_non q⟩
theorem t_app {apos xp : Pos} {p' : Addr} {ds : List D} {d : D} (ho : EvD L ρ M a (.ref p')) (hm : M[j]? = some (p', .lst ds)) (hd : EvD L ρ M b d) (hz : ds.length < 100000) (q : P.nx ρ (M.set j (p', .lst (ds ++ [d])))) (hline : (apos.endLine == xp.line) = true := by rfl)
    (hbase : ∀ env, attributeBase a "append" env (eval a env) = eval a env := by intro _; rfl) (hs : ∀ env, starEach [b] env = (false, eval b env) :: starEach [] env := by intro _; rfl)
    (hfew : ∀ env, ((backTo xp (starEach [b] env)).all (fun x => !x.1) && (backToKw xp (keywordEach [] env)).all (fun x => x.1.isSome) && decide ([b].length + ([] : List Keyword).length + (if ([] : List Keyword).isEmpty then 0 else 1) < 30)) = true := by intro _; rfl) :
    Stm L ρ M (.Expr (.Call (.Attribute a "append" apos) [b] [] xp) pos) P :=
  stm_expr (fun _ => rfl) (ev_app hbase hfew hline hs (ho.go ⟨p', j, ds, rfl, hm, hd.go ⟨j, ds, hm, hz, q⟩⟩))

/-! ### if, while, for, return, raise -/
theorem stm_if {aa bb : List Stmt} (h : EvT L ρ M c (fun t M1 => if t = true then Run L ρ M1 aa P else Run L ρ M1 bb P) P.ex) : Stm L ρ M (.If c aa bb pos) P := fun X ci σ G H Dn f s k =>
  wpS_of (ps_if (X := X) pt_wp pss_wp pss_wp) (h X ci σ G H _ f s (fun t G1 M1 H1 m1 s1 q => by
    cases t with
    | true =>
      rw [if_pos rfl] at q
      rw [if_pos rfl]
      exact q X ci σ G1 H1 Dn (f.mono m1.g) s1 (k.move s1 m1)
    | false =>
      rw [if_neg Bool.false_ne_true] at q
      rw [if_neg Bool.false_ne_true]
      exact q X ci σ G1 H1 Dn (f.mono m1.g) s1 (k.move s1 m1)) (k.ex σ))
theorem s_if {aa bb : List Stmt} {t : Bool} (h : EvTD L ρ M c t) (h1 : t = true → Run L ρ M aa P) (h2 : t = false → Run L ρ M bb P) : Stm L ρ M (.If c aa bb pos) P := stm_if (h.go (by
  cases t with
  | true => rw [if_pos rfl]; exact h1 rfl
  | false => rw [if_neg Bool.false_ne_true]; exact h2 rfl))
/-- an if that is not gone into -/
theorem s_skip {aa : List Stmt} (h : EvTD L ρ M c false) (q : P.nx ρ M) : Stm L ρ M (.If c aa [] pos) P := s_if h (fun z => by cases z) fun _ => run_nil q
theorem stm_ret (h : Ev L ρ M e P.rt P.ex) : Stm L ρ M (.Return (some e) pos) P := fun X ci σ G H Dn f s k => wpS_of (ps_ret (X := X) pe_wp) (h X ci σ G H _ f s k.rt (k.ex σ))
theorem s_ret {d : D} (h : EvD L ρ M e d) (q : P.rt d M) : Stm L ρ M (.Return (some e) pos) P := stm_ret (h.go q)
theorem stm_retN (q : P.rt .non M) : Stm L ρ M (.Return none pos) P := fun X ci σ G H Dn f s k => wpS_of (ps_retN (X := X)) (k.rt _ _ G M H (.refl ..) s rep_non q)
theorem stm_while {body : List Stmt} (I : Nat → Ro → Store → Prop) (m0 : Nat) (h0 : I m0 ρ M) (hs : ∀ m ρ' M', I m ρ' M' → EvT L ρ' M' c (fun t M1 => if t = true then Run L ρ' M1 body { P with nx := fun ρ2 M2 => ∃ m', m' < m ∧ I m' ρ2 M2, ct := fun ρ2 M2 => ∃ m', m' < m ∧ I m' ρ2 M2, bk := P.nx } else P.nx ρ' M1) P.ex) : Stm L ρ M (.While c body [] pos) P := fun X ci σ G H Dn f s k => by
  refine wpS_of (ps_while (X := X) ci.own pt_wp pss_wp) ?_
  refine ⟨fun m σ' H' => ∃ G' ρ' M', Frm L.g.K G' σ' ρ' ∧ Mv G M H G' M' H' ∧ Sta L.g G' H' M' ∧ I m ρ' M', ⟨m0, G, ρ, M, f, .refl .., s, h0⟩, ?_⟩
  rintro m σ1 H1 ⟨G1, ρ1, M1, f1, m1, s1, i1⟩
  refine hs m ρ1 M1 i1 X ci σ1 G1 H1 _ f1 s1 (fun t G2 M2 H2 m2 s2 q => ?_) ((k.ex σ1).move s1 m1)
  have m12 := m1.trans s1 m2
  cases t with
  | true =>
    rw [if_pos rfl] at q
    rw [if_pos rfl]
    refine ⟨fun σ' H' => ∃ m', m' < m ∧ ∃ G' ρ' M', Frm L.g.K G' σ' ρ' ∧ Mv G M H G' M' H' ∧ Sta L.g G' H' M' ∧ I m' ρ' M', fun _ _ z => z, ?_⟩
    have k2 := k.move s2 m12
    refine q X ci σ1 G2 H2 _ (f1.mono m2.g) s2 ⟨?_, k2.rt, ?_, ?_, k2.ex⟩
    · rintro σ' ρ' G' M' H' f' m' s' ⟨mm, hm, ii⟩
      exact ⟨mm, hm, G', ρ', M', f', m12.trans s2 m', s', ii⟩
    · exact fun σ' ρ' G' M' H' f' m' s' q' => k2.nx σ' ρ' G' M' H' f' m' s' q'
    · rintro σ' ρ' G' M' H' f' m' s' ⟨mm, hm, ii⟩
      exact ⟨mm, hm, G', ρ', M', f', m12.trans s2 m', s', ii⟩
  | false =>
    rw [if_neg Bool.false_ne_true] at q
    rw [if_neg Bool.false_ne_true]
    exact k.nx σ1 ρ1 G2 M2 H2 (f1.mono m2.g) m12 s2 q
theorem stm_for {body : List Stmt} {iter : Expr} {pt : Pat} (hp : PatOk L tg pt) (hf : ∀ env x, foldedSetIterable iter env x = pure x)
    (h : Src L ρ M tg iter (fun n f M1 => ∃ I : Nat → Ro → Store → Prop, I 0 ρ M1 ∧ (∀ i, i < n → ∀ ρ' M', I i ρ' M' → ∃ ρ2, pt.asg ρ' (f i) ρ2 ∧ Run L ρ2 M' body { P with nx := I (i + 1), ct := I (i + 1), bk := P.nx }) ∧ ∀ ρ' M', I n ρ' M' → P.nx ρ' M') P.ex) : Stm L ρ M (.For tg iter body [] pos) P := fun X ci σ G H Dn f s k => by
  refine wpS_of (ps_for (X := X) ci.own ci.calm pi_wp (hp.pg ci) pss_wp (hf X.env)) ?_
  refine h X ci σ G H _ f s (fun J n ff G1 M1 H1 m1 s1 sv ⟨I, i0, turn, fin⟩ => ?_) (k.ex σ)
  refine ⟨fun i m σ' H' => m = n - i ∧ i ≤ n ∧ ∃ G' ρ' M', Frm L.g.K G' σ' ρ' ∧ Mv G1 M1 H1 G' M' H' ∧ Sta L.g G' H' M' ∧ I i ρ' M', ⟨n, by simp, Nat.zero_le _, G1, ρ, M1, f.mono m1.g, .refl .., s1, i0⟩, ?_⟩
  rintro i m σ2 H2 ⟨rfl, hi, G2, ρ2, M2, f2, m2, s2, ii⟩
  have m12 := m1.trans s1 m2
  by_cases hlt : i < n
  · obtain ⟨go, yl⟩ := sv.go i hlt G2 H2 M2 m2.g s2
    refine .inr ⟨go, fun σ' H' => ∃ G' ρ' M', Frm L.g.K G' σ' ρ' ∧ Mv G1 M1 H1 G' M' H' ∧ Sta L.g G' H' M' ∧ I (i + 1) ρ' M', fun σ' H' q => ⟨n - (i + 1), by omega, rfl, hlt, q⟩, fun w H3 hy => ?_⟩
    obtain ⟨G3, s3, m3, r3⟩ := yl w H3 hy
    have m13 := m12.trans s2 m3
    have m23 := m2.trans s2 m3
    obtain ⟨ρ3, ha, body⟩ := turn i hlt ρ2 M2 ii
    refine pat_read (vs0 := pt.js) (τ := σ2) ha (fun _ z => z) r3 s3.ex (f2.mono m3.g) rfl fun σ3 f3 _ => ?_
    have k3 := k.move s3 m13
    refine body X ci σ3 G3 H3 _ f3 s3 ⟨?_, k3.rt, ?_, ?_, k3.ex⟩
    · exact fun σ' ρ' G' M' H' f' m' s' q => ⟨G', ρ', M', f', m23.trans s3 m', s', q⟩
    · exact fun σ' ρ' G' M' H' f' m' s' q' => k3.nx σ' ρ' G' M' H' f' m' s' q'
    · exact fun σ' ρ' G' M' H' f' m' s' q => ⟨G', ρ', M', f', m23.trans s3 m', s', q⟩
  · have e : i = n := by omega
    subst e
    exact .inl ⟨sv.stop G2 H2 M2 m2.g s2, k.nx σ2 ρ2 G2 M2 H2 f2 m12 s2 (fin ρ2 M2 ii)⟩
/-- an own class of error: what the written part tells of it -/
structure ExcC (g : Gx) (x : Str) (C : Addr) : Prop where
  m : g.mg x = some (.ref C)
  kp : PySem.W.keepIn g.K (.ref C) = true
  ex : PySem.W.excIn g.K C [.type "ValueError", .type "Exception", .type "BaseException", .type "object"] "ValueError.__new__" = true
  sub : PySem.W.subIn g.K (.ref C) (.type "BaseException") = some true
  ty : PySem.W.typeIn g.K (.ref C) = some (.type "type")
theorem stm_raise {C : Addr} {m : Str} {jj : Nat} {p2 p3 : Pos} (K : ExcC L.g x C) (hg : Glo L x) (q : P.ex C M) (hdb : (x == ("__debug__" : Str)) = false := by decide) : Stm L ρ M (.Raise (some (.Call (.Name x p) [.Constant (.str m) jj p2] [] p3)) none pos) P := fun X ci σ G H Dn f s k =>
  wpS_of (ps_raise (X := X) ci.calm (takesT X) (pmk_own (X := X) PySem.F.excBase_ValueError (by rw [ci.K]; exact K.ex) (by rw [ci.mg]; exact K.m) (by rw [ci.K]; exact K.kp) (raises_own (by rw [ci.K]; exact K.sub) (by rw [ci.K]; exact K.ty)) (ci.gl hg) hdb)) ⟨C, rfl, rfl, k.ex σ C G M H (.refl ..) s q⟩
theorem stm_pass (q : P.nx ρ M) : Stm L ρ M (.Pass pos) P := fun X ci σ G H Dn f s k => wpS_of ps_pass (k.nx σ ρ G M H f (.refl ..) s q)
theorem stm_break (q : P.bk ρ M) : Stm L ρ M (.Break pos) P := fun X ci σ G H Dn f s k => wpS_of ps_break (k.bk σ ρ G M H f (.refl ..) s q)
/-- another view of the store: hidden, told, dropped -/
structure Vw (g : Gx) (M M' : Store) : Prop where
  sta : ∀ G H, Sta g G H M → Sta g G H M'
  sub : ∀ b, b ∈ M'.map (·.1) → b ∈ M.map (·.1)
theorem Vw.mv {g : Gx} {M0 M M' : Store} {G G' H H' : Hp} (v : Vw g M M') (m : Mv G M0 H G' M H') : Mv G M0 H G' M' H' := ⟨m.g, m.keep, fun b h => m.new b (h.imp id (v.sub b)), m.dom⟩
theorem ev_view {Q : D → Store → Prop} {E : Addr → Store → Prop} (h : Ev L ρ M e (fun d M' => ∃ M'', Vw L.g M' M'' ∧ Q d M'') E) : Ev L ρ M e Q E := fun X ci σ G H R f s k x =>
  h X ci σ G H R f s (fun v d G' M' H' m' s' r ⟨M'', w, q⟩ => k v d G' M'' H' (w.mv m') (w.sta _ _ s') r q) x
/-- a list of the store that is handed back -/
theorem ev_freeze {Q : D → Store → Prop} {E : Addr → Store → Prop} (h : Ev L ρ M e (fun d M' => ∃ p ds M0, d = .ref p ∧ M' = (p, .lst ds) :: M0 ∧ Q (.lst ds) M0) E) : Ev L ρ M e Q E := fun X ci σ G H R f s k x =>
  h X ci σ G H R f s (fun v d G' M' H' m' s' r ⟨p, ds, M0, e1, e2, q⟩ => by
    subst e1; subst e2
    have r : v = .ref p := r
    subst r
    obtain ⟨G2, s2, ee, r2, n2⟩ := s'.freeze
    exact k _ _ G2 M0 H' (m'.freeze ee n2) s2 r2 q) x
theorem vw_drop {g : Gx} {pm : Addr × MO} : Vw g (pm :: M) M := ⟨fun G H s => s.drop, fun b h => List.mem_cons_of_mem _ h⟩
end

/-! ### a def -/
section
variable {g : Gx}
theorem ci_def {N ps : List Str} {qual : Str} {sc : Scope} {f : Addr} {cd : Value} {A : Around} {outer : List PySem.Env} {s : Shared} {H : Hp} {E : XK} {k : Nat} {tb : Option (Addr × Option Str)} (S : FnScope N ps sc) (hc : CdOk g cd (qual ++ ".<locals>.") tb) (hr : Room k (A.deeper (PyProof.Rows.envOfC qual sc s.heap.objs.size f cd))) :
    CI ⟨g, N, sc, k, fun _ => true, tb, true⟩ (cxOf (L2.CX g.P g.w) g.P g.w g.K g.mg g.base N qual sc f cd A outer s H E) where
  prog := rfl
  w := rfl
  K := rfl
  mg := rfl
  base := rfl
  N := rfl
  sc := rfl
  nd := S.nd
  calm := rfl
  room := hr
  own := passes_of rfl
  fn := rfl
  code := hc
  top := fun _ => ⟨rfl, rfl⟩
theorem start_frm {K : PySem.W.Frag} {G : Hp} {N : List Str} {ds : List D} {vs : List V} (r : Reps K G ds vs) : Frm K G (L2.start N vs) (ds.map some ++ List.replicate (N.length - ds.length) none) := by
  refine ⟨by unfold L2.start; simp [r.length], fun i d hd => ?_⟩
  unfold L2.start
  by_cases hi : i < ds.length
  · rw [List.getElem?_append_left (by simpa using hi)] at hd
    rw [List.getElem?_map] at hd
    cases q : ds[i]? with
    | none => rw [q] at hd; cases hd
    | some e =>
      rw [q] at hd
      cases hd
      obtain ⟨v, h1, h2⟩ := r.get q
      refine ⟨v, ?_, h2⟩
      rw [List.getElem?_append_left (by simp [r.length]; exact hi), List.getElem?_map, h1]; rfl
  · rw [List.getElem?_append_right (by simpa using Nat.le_of_not_lt hi)] at hd
    rw [List.getElem?_replicate] at hd
    split at hd <;> cases hd
/-- THE RULE of a def -/
theorem fn_mk {x qual : Str} {st : Stmt} {f : Addr} {fd : FuncData} {N ps : List Str} {k : Nat} {sp : SpD} {tb : Option (Addr × Option Str)} (hc : CdOk g fd.code (qual ++ ".<locals>.") tb) (F : Fun g.K x qual st f fd) (S : FnScope N ps (defScope st)) (hm : g.mg x = some (.ref f)) (hb : Binds g.K fd ps []) (len : ∀ ds M Q E, sp ds M Q E → ds.length = ps.length)
    (body : ∀ ds M Q E, sp ds M Q E → Run ⟨g, N, defScope st, k, fun _ => true, tb, true⟩ (ds.map some ++ List.replicate (N.length - ds.length) none) M (defBody st) { nx := fun _ M' => Q .non M', rt := Q, ex := E }) : Fn g x (k + 1) sp := by
  refine ⟨f, fd, ps, hm, F.kp, hb, ?_⟩
  obtain ⟨oc, od, kV, doc, pm, an, cdv, ct, osl, rfl, lk, hcd⟩ := F.ex
  refine fn_of lk hcd S (fun vs H Q E h => ?_) fun A outer s H vs Q E hr h => ?_
  · obtain ⟨G, M, ds, Qd, Ed, _, r, h, _⟩ := h
    rw [r.length]
    exact len ds M Qd Ed h
  · obtain ⟨G, M, ds, Qd, Ed, st', r, h, kd, kx⟩ := h
    refine ⟨_, pss_wp, ?_⟩
    refine body ds M Qd Ed h _ (ci_def S hc hr) _ G H _ (start_frm r) st' ⟨fun σ' ρ' G' M' H' _ m' s' q => kd _ _ G' M' H' m' s' rep_non q, kd, fun _ _ _ _ _ _ _ _ z => z.elim, fun _ _ _ _ _ _ _ _ z => z.elim, fun σ' C G' M' H' m' s' q => ?_⟩
    exact Thr.of (takes_of rfl rfl rfl rfl) (kx C G' M' H' m' s' q)
end
end DL
set_option Elab.async false
set_option linter.all false
set_option maxRecDepth 100000
set_option maxHeartbeats 4000000
/-! DG: short words; sizes of ints; comprehensions turn by turn and over mapped lists; contracts by a relation. -/
namespace DL
open PySem L2
section
variable {L : Lx} {ρ : Ro} {M : Store} {Q : D → Store → Prop} {E : Addr → Store → Prop} {a b c e elt tg iter : Expr} {ifs : List Expr} {pos : Pos} {scope : Scope}
def visB (sc : Scope) (x : Str) : Bool := match sc.names.lookup x with
  | some .local => true
  | some .cell => true
  | some .free => true
  | _ => false
theorem vis_of {sc : Scope} {x : Str} (h : visB sc x = true) : Vis sc x := by
  unfold visB at h
  unfold Vis
  split at h <;> simp_all
/-- the name in slot i -/
theorem dv (i : Nat) {x : Str} {d : D} (hd : ρ[i]? = some (some d)) (hN : L.N[i]? = some x) (hv : visB L.sc x = true) (hx : (x == ("__debug__" : Str)) = false := by decide) (hcd : (x == ("__classdict__" : Str)) = false := by decide) : EvD L ρ M (.Name x pos) d := d_var hd hN (vis_of hv) hx hcd
theorem hz_of {n : Nat} (h : Nat.ble n 100000 = true) : n ≤ 100000 := Nat.le_of_ble_eq_true h
theorem dt {es : List Expr} {x1 : Nat} {vs : List D} (h : EvAD L ρ M es vs) (hz : Nat.ble vs.length 100000 = true) : EvD L ρ M (.Tuple es x1 pos) (.tup vs) := d_tup h (hz_of hz)
theorem dl {es : List Expr} {vs : List D} (h : EvAD L ρ M es vs) (hz : Nat.ble vs.length 100000 = true) : EvD L ρ M (.List es pos) (.lst vs) := d_lst h (hz_of hz)
theorem EvD.is {v w : D} (h : EvD L ρ M e v) (q : v = w) : EvD L ρ M e w := q ▸ h
theorem EvTD.is {p q : Bool} (h : EvTD L ρ M e p) (r : p = q) : EvTD L ρ M e q := r ▸ h
/-- == of two ints -/
theorem eqv_int (i j : Int) : D.eqv (.int i) (.int j) = decide (i = j) := by
  show PyData.eqv (.int i) (.int j) = _
  rw [PyData.eqv, Bool.beq_eq_decide_eq]
theorem t_eqI {i j : Int} (h1 : EvD L ρ M a (.int i)) (h2 : EvD L ρ M b (.int j)) : EvTD L ρ M (.Compare a [.Eq] [b] pos) (decide (i = j)) := EvTD.is (t_eq h1 h2 rfl rfl) (eqv_int i j)
theorem t_neI {i j : Int} (h1 : EvD L ρ M a (.int i)) (h2 : EvD L ρ M b (.int j)) : EvTD L ρ M (.Compare a [.NotEq] [b] pos) (!decide (i = j)) := EvTD.is (t_ne h1 h2 rfl rfl) (by rw [eqv_int])
theorem d_eqI {i j : Int} (h1 : EvD L ρ M a (.int i)) (h2 : EvD L ρ M b (.int j)) : EvD L ρ M (.Compare a [.Eq] [b] pos) (.bl (decide (i = j))) := EvD.is (d_eq h1 h2 rfl rfl) (by rw [eqv_int])
/-- a op b op c of ints -/
theorem t_ch {op op' : CmpOp} {r r' : Cx → R2} {i j k : Int} {p q : Bool} (ho : ∀ X, CI L X → OpR X (compareOp op) (r X)) (ho' : ∀ X, CI L X → OpR X (compareOp op') (r' X)) (h1 : EvD L ρ M a (.int i)) (h2 : EvD L ρ M b (.int j)) (h3 : EvD L ρ M c (.int k))
    (o1 : ∀ {Q : D → Store → Prop}, Q (.bl p) M → O2 L r (.int i) (.int j) M Q) (o2 : ∀ {Q : D → Store → Prop}, Q (.bl q) M → O2 L r' (.int j) (.int k) M Q) (hm : lastMarks [op, op'] [b, c] = false) : EvTD L ρ M (.Compare a [op, op'] [b, c] pos) (p && q) :=
  et_chain ho ho' hm (h1.go (h2.go (o1 ⟨p, rfl, by
    cases p with
    | true => rw [if_pos rfl, Bool.true_and]; exact h3.go (o2 ⟨q, rfl, rfl, rfl⟩)
    | false => rw [if_neg Bool.false_ne_true, Bool.false_and]; exact ⟨rfl, rfl⟩⟩)))
theorem t_leLt {i j k : Int} (h1 : EvD L ρ M a (.int i)) (h2 : EvD L ρ M b (.int j)) (h3 : EvD L ρ M c (.int k)) (hm : lastMarks [.LtE, .Lt] [b, c] = false := by with_unfolding_all rfl) : EvTD L ρ M (.Compare a [.LtE, .Lt] [b, c] pos) (decide (i ≤ j) && decide (j < k)) :=
  t_ch (r := rLeI) (r' := rLtI) (fun _ _ => op_le) (fun _ _ => op_lt) h1 h2 h3 (fun q => o_le q) (fun q => o_lt q) hm
theorem t_leLe {i j k : Int} (h1 : EvD L ρ M a (.int i)) (h2 : EvD L ρ M b (.int j)) (h3 : EvD L ρ M c (.int k)) (hm : lastMarks [.LtE, .LtE] [b, c] = false := by with_unfolding_all rfl) : EvTD L ρ M (.Compare a [.LtE, .LtE] [b, c] pos) (decide (i ≤ j) && decide (j ≤ k)) :=
  t_ch (r := rLeI) (r' := rLeI) (fun _ _ => op_le) (fun _ _ => op_le) h1 h2 h3 (fun q => o_le q) (fun q => o_le q) hm
theorem t_ltLt {i j k : Int} (h1 : EvD L ρ M a (.int i)) (h2 : EvD L ρ M b (.int j)) (h3 : EvD L ρ M c (.int k)) (hm : lastMarks [.Lt, .Lt] [b, c] = false := by with_unfolding_all rfl) : EvTD L ρ M (.Compare a [.Lt, .Lt] [b, c] pos) (decide (i < j) && decide (j < k)) :=
  t_ch (r := rLtI) (r' := rLtI) (fun _ _ => op_lt) (fun _ _ => op_lt) h1 h2 h3 (fun q => o_lt q) (fun q => o_lt q) hm

theorem stm_whileD {P : Post} {body : List Stmt} (I : Nat → Ro → Store → Prop) (m0 : Nat) (h0 : I m0 ρ M) (hs : ∀ m ρ' M', I m ρ' M' → ∃ t, EvTD L ρ' M' c t ∧ (t = true → Run L ρ' M' body { P with nx := fun ρ2 M2 => ∃ m', m' < m ∧ I m' ρ2 M2, ct := fun ρ2 M2 => ∃ m', m' < m ∧ I m' ρ2 M2, bk := P.nx }) ∧ (t = false → P.nx ρ' M')) : Stm L ρ M (.While c body [] pos) P :=
  stm_while I m0 h0 fun m ρ' M' i => by
    obtain ⟨t, h1, h2, h3⟩ := hs m ρ' M' i
    refine h1.go ?_
    cases t with
    | true => rw [if_pos rfl]; exact h2 rfl
    | false => rw [if_neg Bool.false_ne_true]; exact h3 rfl
/-! ### turn by turn -/
def Turns (L : Lx) (ρ : Ro) (M : Store) (pt : Pat) (own : List (Str × Nat)) (elt : Expr) (f : Nat → D) : Nat → List D → Prop
  | _, [] => True
  | i, d :: ds => (∃ ρ', pt.asg (wipeR ρ (own.map (·.2))) (f i) ρ' ∧ EvD L ρ' M elt d) ∧ Turns L ρ M pt own elt f (i + 1) ds
theorem Turns.at {L : Lx} {pt : Pat} {own : List (Str × Nat)} {f : Nat → D} : ∀ {ds : List D} {i : Nat}, Turns L ρ M pt own elt f i ds → ∀ k, k < ds.length → ∃ ρ', pt.asg (wipeR ρ (own.map (·.2))) (f (i + k)) ρ' ∧ EvD L ρ' M elt (ds.getD k .non)
  | d :: ds, i, h, 0, _ => h.1
  | d :: ds, i, h, k + 1, hk => by
    have := Turns.at h.2 k (by simpa using hk)
    rw [show i + (k + 1) = i + 1 + k by omega]
    simpa using this
theorem map_getD (ds : List D) : (List.range ds.length).map (fun i => ds.getD i .non) = ds := by
  refine List.ext_getElem? fun i => ?_
  rw [List.getElem?_map]
  by_cases hi : i < ds.length
  · rw [List.getElem?_range hi, List.getElem?_eq_getElem hi]
    simp [List.getD_eq_getElem?_getD, hi]
  · rw [List.getElem?_eq_none (by simpa using Nat.le_of_not_lt hi), List.getElem?_eq_none (by simpa using Nat.le_of_not_lt hi)]; rfl
theorem d_unr {n : Nat} {f : Nat → D} (own : List (Str × Nat)) (pt : Pat) {ds : List D} (hp : PatOk (L.blk scope) tg pt) (hb : blkC L.N L.sc scope own = true) (hj : ∀ j ∈ pt.js, j ∈ own.map (·.2)) (hsrc : SrcD L ρ M tg iter n f) (hl : ds.length = n) (hn : Nat.ble n 50000 = true)
    (turns : Turns (L.blk scope) ρ M pt own elt f 0 ds) (hs : ∀ env x, foldedSetIterable iter env x = pure x := by intros; rfl) : EvD L ρ M (.ListComp elt [⟨tg, iter, [], 0⟩] scope pos) (.lst ds) := by
  subst hl
  have h := d_map (pos := pos) own pt (fun i => ds.getD i .non) hp hb hj hsrc (Nat.le_of_ble_eq_true hn) (fun i hi => by
    have := Turns.at turns i hi
    rw [Nat.zero_add] at this
    exact this) hs
  rw [map_getD] at h
  exact h
/-! ### over a mapped list -/
theorem Serves.congr {g : Gx} {G1 : Hp} {J : It} {n : Nat} {f f' : Nat → D} (h : Serves g G1 J n f) (e : ∀ i, i < n → f i = f' i) : Serves g G1 J n f' := ⟨fun i hi G' H' M s1 s2 => by rw [← e i hi]; exact h.go i hi G' H' M s1 s2, h.stop⟩
theorem Src.congr {n : Nat} {f f' : Nat → D} (h : SrcD L ρ M tg iter n f) (e : ∀ i, i < n → f i = f' i) : SrcD L ρ M tg iter n f' := fun X ci σ G H R fr s k x =>
  h X ci σ G H R fr s (fun J n' g' G1 M1 H1 m1 s1 sv ⟨e1, e2, e3⟩ => by
    subst e1; subst e2
    exact k J n' f' G1 M1 H1 m1 s1 (sv.congr e) ⟨rfl, rfl, e3⟩) x
theorem getD_map {α : Type} [Inhabited α] (xs : List α) (φ : α → D) (i : Nat) (hi : i < xs.length) : (xs.map φ).getD i .non = φ (xs.getD i default) := by
  simp [List.getD_eq_getElem?_getD, hi]
theorem mem_getD {α : Type} [Inhabited α] (xs : List α) (i : Nat) (hi : i < xs.length) : xs.getD i default ∈ xs := by
  simp [List.getD_eq_getElem?_getD, hi]
theorem map_range_getD {α β : Type} [Inhabited α] (xs : List α) (ψ : α → β) : (List.range xs.length).map (fun i => ψ (xs.getD i default)) = xs.map ψ := by
  refine List.ext_getElem? fun i => ?_
  rw [List.getElem?_map, List.getElem?_map]
  by_cases hi : i < xs.length
  · rw [List.getElem?_range hi, List.getElem?_eq_getElem hi]
    simp [List.getD_eq_getElem?_getD, hi]
  · rw [List.getElem?_eq_none (by simpa using Nat.le_of_not_lt hi), List.getElem?_eq_none (by simpa using Nat.le_of_not_lt hi)]; rfl
theorem s_listM {α : Type} [Inhabited α] {xs : List α} {φ : α → D} (h : EvD L ρ M iter (.lst (xs.map φ))) : SrcD L ρ M tg iter xs.length (fun i => φ (xs.getD i default)) := by
  have q := s_list (tg := tg) h
  rw [List.length_map] at q
  exact Src.congr q fun i hi => getD_map xs φ i hi
theorem s_tupM {α : Type} [Inhabited α] {xs : List α} {φ : α → D} (h : EvD L ρ M iter (.tup (xs.map φ))) : SrcD L ρ M tg iter xs.length (fun i => φ (xs.getD i default)) := by
  have q := s_tup (tg := tg) h
  rw [List.length_map] at q
  exact Src.congr q fun i hi => getD_map xs φ i hi
/-- [elt for x in xs], the source xs mapped -/
theorem d_mapX {α : Type} [Inhabited α] {xs : List α} {φ : α → D} (own : List (Str × Nat)) (pt : Pat) (ψ : α → D) (hp : PatOk (L.blk scope) tg pt) (hb : blkC L.N L.sc scope own = true) (hj : ∀ j ∈ pt.js, j ∈ own.map (·.2)) (hsrc : SrcD L ρ M tg iter xs.length (fun i => φ (xs.getD i default))) (hn : xs.length ≤ 50000)
    (turn : ∀ x ∈ xs, ∃ ρ', pt.asg (wipeR ρ (own.map (·.2))) (φ x) ρ' ∧ EvD (L.blk scope) ρ' M elt (ψ x)) (hs : ∀ env x, foldedSetIterable iter env x = pure x := by intros; rfl) :
    EvD L ρ M (.ListComp elt [⟨tg, iter, [], 0⟩] scope pos) (.lst (xs.map ψ)) := by
  have h := d_map (pos := pos) own pt (fun i => ψ (xs.getD i default)) hp hb hj hsrc hn (fun i hi => turn _ (mem_getD xs i hi)) hs
  rw [map_range_getD] at h
  exact h
theorem filter_range {α β : Type} [Inhabited α] (xs : List α) (t : α → Bool) (ψ : α → β) : (sel xs.length (fun i => t (xs.getD i default))).map (fun i => ψ (xs.getD i default)) = (xs.filter t).map ψ := by
  have e : xs.filter t = ((List.range xs.length).map (fun i => xs.getD i default)).filter t := by rw [map_range_getD (ψ := fun x => x)]; simp
  rw [e, List.filter_map, List.map_map]
  rfl
/-- [elt for x in xs if t] -/
theorem d_filtX {α : Type} [Inhabited α] {xs : List α} {φ : α → D} (own : List (Str × Nat)) (pt : Pat) (t : α → Bool) (ψ : α → D) (hp : PatOk (L.blk scope) tg pt) (hb : blkC L.N L.sc scope own = true) (hj : ∀ j ∈ pt.js, j ∈ own.map (·.2)) (hsrc : SrcD L ρ M tg iter xs.length (fun i => φ (xs.getD i default))) (hn : xs.length ≤ 50000)
    (turn : ∀ x ∈ xs, ∃ ρ', pt.asg (wipeR ρ (own.map (·.2))) (φ x) ρ' ∧ EvTD (L.blk scope) ρ' M c (t x) ∧ (t x = true → EvD (L.blk scope) ρ' M elt (ψ x))) (hs : ∀ env x, foldedSetIterable iter env x = pure x := by intros; rfl) :
    EvD L ρ M (.ListComp elt [⟨tg, iter, [c], 0⟩] scope pos) (.lst ((xs.filter t).map ψ)) := by
  have h := d_lc (ifs := [c]) (pos := pos) own pt (fun i => t (xs.getD i default)) (fun i => ψ (xs.getD i default)) hp hb hj hsrc hn (fun i hi => turn _ (mem_getD xs i hi)) hs
  rw [filter_range] at h
  exact h

/-! ### a contract by a relation -/
/-- the greatest common divisor -/
def gc (a b : Int) : Int := (Int.gcd a b : Nat)
/-- it hands back v of R, changing nothing -/
def PureSp (R : List D → D → Prop) : SpD := fun ds M Q _ => ∃ v, R ds v ∧ Q v M
/-- it hands back v of R, or raises an error of the class at C -/
def PartSp (R : List D → D → Prop) (B : List D → Prop) (C : Addr) : SpD := fun ds M Q E => (∃ v, R ds v ∧ Q v M) ∨ (B ds ∧ E C M)
theorem d_callP {x : Str} {k : Nat} {R : List D → D → Prop} {es : List Expr} {p : Pos} {ds : List D} {v : D} (F : Fn L.g x k (PureSp R)) (hk : Nat.ble k L.n = true) (hg : L.sc.names.lookup x = some .globalImplicit) (h : EvAD L ρ M (a :: es) ds) (hq : R ds v)
    (hs : ∀ env, starEach (a :: es) env = (false, eval a env) :: starEach es env := by intro _; rfl) (hpl : ∀ env, (backTo pos (starEach es env)).any (·.1) = false := by intro _; rfl)
    (hdb : (x == ("__debug__" : Str)) = false := by decide) : EvD L ρ M (.Call (.Name x p) (a :: es) [] pos) v := d_call F (Nat.le_of_ble_eq_true hk) hg h ⟨v, hq, rfl, rfl⟩ hs hpl hdb
theorem d_callQ {x : Str} {k : Nat} {R : List D → D → Prop} {B : List D → Prop} {C : Addr} {es : List Expr} {p : Pos} {ds : List D} {v : D} (F : Fn L.g x k (PartSp R B C)) (hk : Nat.ble k L.n = true) (hg : L.sc.names.lookup x = some .globalImplicit) (h : EvAD L ρ M (a :: es) ds) (hq : R ds v)
    (hs : ∀ env, starEach (a :: es) env = (false, eval a env) :: starEach es env := by intro _; rfl) (hpl : ∀ env, (backTo pos (starEach es env)).any (·.1) = false := by intro _; rfl)
    (hdb : (x == ("__debug__" : Str)) = false := by decide) : EvD L ρ M (.Call (.Name x p) (a :: es) [] pos) v := d_call F (Nat.le_of_ble_eq_true hk) hg h (.inl ⟨v, hq, rfl, rfl⟩) hs hpl hdb
/-- the call raises -/
theorem x_callQ {x : Str} {k : Nat} {R : List D → D → Prop} {B : List D → Prop} {C : Addr} {es : List Expr} {p : Pos} {ds : List D} (F : Fn L.g x k (PartSp R B C)) (hk : Nat.ble k L.n = true) (hg : L.sc.names.lookup x = some .globalImplicit) (h : EvAD L ρ M (a :: es) ds) (hq : B ds) (q : E C M)
    (hs : ∀ env, starEach (a :: es) env = (false, eval a env) :: starEach es env := by intro _; rfl) (hpl : ∀ env, (backTo pos (starEach es env)).any (·.1) = false := by intro _; rfl)
    (hdb : (x == ("__debug__" : Str)) = false := by decide) : Ev L ρ M (.Call (.Name x p) (a :: es) [] pos) Q E := ev_call F (Nat.le_of_ble_eq_true hk) hg hs hpl (h.go (.inr ⟨hq, q⟩)) hdb
end
/-- a def of the module; its code's table, where one is told -/
structure Df (g : Gx) (x : Str) (st : Stmt) (ps : List Str) (tb : Option (Addr × Option Str) := none) : Prop where
  ex : ∃ f fd, Fun g.K x x st f fd ∧ g.mg x = some (.ref f) ∧ Binds g.K fd ps [] ∧ CdOk g fd.code (x ++ ".<locals>.") tb
section
variable {g : Gx} {x : Str} {st : Stmt} {N ps : List Str} {k : Nat} {R : List D → D → Prop} {B : List D → Prop} {C : Addr} {tb : Option (Addr × Option Str)}
theorem df_mk {sp : SpD} (F : Df g x st ps tb) (S : FnScope N ps (defScope st)) (len : ∀ ds M Q E, sp ds M Q E → ds.length = ps.length)
    (body : ∀ ds M Q E, sp ds M Q E → Run ⟨g, N, defScope st, k, fun _ => true, tb, true⟩ (ds.map some ++ List.replicate (N.length - ds.length) none) M (defBody st) { nx := fun _ M' => Q .non M', rt := Q, ex := E }) : Fn g x (k + 1) sp :=
  let ⟨_, _, F, hm, hb, hc⟩ := F.ex
  fn_mk hc F S hm hb len body
theorem df_pure (F : Df g x st ps tb) (S : FnScope N ps (defScope st)) (len : ∀ ds v, R ds v → ds.length = ps.length)
    (body : ∀ ds v, R ds v → ∀ M Q E, Q v M → Run ⟨g, N, defScope st, k, fun _ => true, tb, true⟩ (ds.map some ++ List.replicate (N.length - ds.length) none) M (defBody st) { nx := fun _ M' => Q .non M', rt := Q, ex := E }) : Fn g x (k + 1) (PureSp R) :=
  df_mk F S (fun ds M Q E ⟨v, h, _⟩ => len ds v h) fun ds M Q E ⟨v, h, q⟩ => body ds v h M Q E q
theorem df_part (F : Df g x st ps tb) (S : FnScope N ps (defScope st)) (len : ∀ ds v, R ds v → ds.length = ps.length) (lenB : ∀ ds, B ds → ds.length = ps.length)
    (body : ∀ ds v, R ds v → ∀ M Q E, Q v M → Run ⟨g, N, defScope st, k, fun _ => true, tb, true⟩ (ds.map some ++ List.replicate (N.length - ds.length) none) M (defBody st) { nx := fun _ M' => Q .non M', rt := Q, ex := E })
    (bad : ∀ ds, B ds → ∀ M Q E, E C M → Run ⟨g, N, defScope st, k, fun _ => true, tb, true⟩ (ds.map some ++ List.replicate (N.length - ds.length) none) M (defBody st) { nx := fun _ M' => Q .non M', rt := Q, ex := E }) : Fn g x (k + 1) (PartSp R B C) :=
  df_mk F S (fun ds M Q E h => by rcases h with ⟨v, h, _⟩ | ⟨h, _⟩; exact len ds v h; exact lenB ds h) fun ds M Q E h => by
    rcases h with ⟨v, h, q⟩ | ⟨h, q⟩
    · exact body ds v h M Q E q
    · exact bad ds h M Q E q
end

def nmB (L : Lx) (x : Str) : Bool := match L.sc.names.lookup x with
  | some .local => true
  | some .cell => L.fn x
  | _ => false
theorem nk {L : Lx} {x : Str} {p : Pos} {j : Nat} (h1 : L.N[j]? = some x) (h2 : nmB L x = true) : NameOk L (.Name x p) j := by
  refine ⟨x, p, rfl, h1, ?_⟩
  unfold nmB at h2
  unfold L2.Loc
  split at h2 <;> simp_all
/-! ### sizes of ints -/
def Bd (n : Nat) (i : Int) : Prop := i.natAbs < 2 ^ n
theorem bd_mono {m n : Nat} {i : Int} (h : Bd m i) (hl : m ≤ n) : Bd n i := Nat.lt_of_lt_of_le h (Nat.pow_le_pow_right (by decide) hl)
theorem bd_to {m n : Nat} {i : Int} (h : Bd m i) (hl : Nat.ble m n = true) : Bd n i := bd_mono h (Nat.le_of_ble_eq_true hl)
theorem bd_add {m n : Nat} {i j : Int} (h1 : Bd m i) (h2 : Bd n j) : Bd (max m n + 1) (i + j) := by
  have a := bd_mono h1 (Nat.le_max_left m n)
  have b := bd_mono h2 (Nat.le_max_right m n)
  unfold Bd at *
  rw [Nat.pow_succ]; omega
theorem bd_sub {m n : Nat} {i j : Int} (h1 : Bd m i) (h2 : Bd n j) : Bd (max m n + 1) (i - j) := by
  have a := bd_mono h1 (Nat.le_max_left m n)
  have b := bd_mono h2 (Nat.le_max_right m n)
  unfold Bd at *
  rw [Nat.pow_succ]; omega
theorem bd_mul {m n : Nat} {i j : Int} (h1 : Bd m i) (h2 : Bd n j) : Bd (m + n) (i * j) := wide_lt h1 h2
theorem bd_neg {m : Nat} {i : Int} (h : Bd m i) : Bd m (-i) := by unfold Bd at *; omega
theorem bd_abs {m : Nat} {i : Int} (h : Bd m i) : Bd m (if i < 0 then -i else i) := by split; exact bd_neg h; exact h
theorem bd_lit {n : Nat} (i : Int) (h : Nat.ble (i.natAbs + 1) (2 ^ n) = true) : Bd n i := Nat.le_of_ble_eq_true h
theorem bd_le {m : Nat} {i j : Int} (h0 : 0 ≤ i) (h : i ≤ j) (hj : Bd m j) : Bd m i := by unfold Bd at *; omega
theorem bd_of {m : Nat} {i : Int} {B : Int} (h0 : -B ≤ i) (h : i ≤ B) (hj : Bd m B) : Bd m i := by unfold Bd at *; omega
theorem mulw {m n : Nat} {i j : Int} (h1 : Bd m i) (h2 : Bd n j) (h : Nat.ble (m + n) 900000 = true) : CMulW i j := by
  have hl := Nat.le_of_ble_eq_true h
  exact wide_mul (a := m + 1) (b := n + 1) (bd_mono h1 (by omega)) (bd_mono h2 (by omega)) (by omega) (by omega) (by omega)
theorem cok_small {j : Int} (h0 : j ≠ 0) (h : -1000000 ≤ j) (h2 : j ≤ 1000000) : COk j := ⟨h0, .inl (by omega)⟩
theorem cok_pos {n : Nat} {j : Int} (h0 : 0 < j) (h : Bd n j) (hn : Nat.ble n 8000 = true) : COk j := ⟨by omega, .inr ⟨h0, (by
  have hl := Nat.le_of_ble_eq_true hn
  exact (wide_div (i := 0) (b := n + 1) h0 (bd_mono h (by omega)) (by omega) (by omega)).2)⟩⟩
end DL
set_option Elab.async false
set_option linter.all false
set_option maxRecDepth 100000
set_option maxHeartbeats 4000000
/-! DH: generator expressions, their elements in a context of their own. -/
namespace DL
open PySem PySem.Spec PyProof.Rows L2 GenW
/-- the context of a generator expression's block -/
abbrev gxOf (X : Cx) (Ng : List Str) (A : Around) (s : Shared) (H : Hp) (ce : PySem.Env) (fp : List Addr) (pn : List (Addr × Obj)) : Cx :=
  { X with A := A.deeper ce, N := Ng, s_0 := s, H_0 := H, env := ce, outer := X.stack, stack := ce :: X.stack, ex := fp, fn := fun x => ce.scope.names.lookup x == some .cell, calm := true, pn := pn, xe := fun _ _ => False }
theorem over_genLoop {A : Around} {elt tg iter : Expr} {ifs : List Expr} {scope : Scope} {pos : Pos} {it acc : Value} {ce : PySem.Env} :
    A.over (.compLoop (.GeneratorExp elt [⟨tg, iter, ifs, 0⟩] scope pos) 0 it acc ce) [] = A.deeper ce := by
  first
    | rfl
    | (obtain ⟨hd, d, fr, gs, u⟩ := A; simp [Around.over, Around.deeper, marksOver, frameCount, unitsOf, envsOf, guardsOf, pushEnvs, pushGuards, Code.envs, Code.env?, Code.isFrame, Code.guards, Code.isGuard, Code.weight, Code.frames, Code.isCreation, Code.isCaller, Code.cUnits])
theorem over_genStart {A : Around} {elt tg iter : Expr} {ifs : List Expr} {scope : Scope} {pos : Pos} {it acc : Value} {ce : PySem.Env} :
    A.over (.compStart (.GeneratorExp elt [⟨tg, iter, ifs, 0⟩] scope pos) 0 it acc ce) [] = A.deeper ce := by
  first
    | rfl
    | (obtain ⟨hd, d, fr, gs, u⟩ := A; simp [Around.over, Around.deeper, marksOver, frameCount, unitsOf, envsOf, guardsOf, pushEnvs, pushGuards, Code.envs, Code.env?, Code.isFrame, Code.guards, Code.isGuard, Code.weight, Code.frames, Code.isCreation, Code.isCaller, Code.cUnits])
section
variable {X : Cx} {A : Around} {elt tg iter : Expr} {ifs : List Expr} {scope : Scope} {pos : Pos} {it S : Addr} {fp : List Addr} {tn : Nat → Heap → Prop} {J : It} {g : TG} {tt : TT} {te : TE} {vs : List Nat} {σ0 : L2.St}
/-- the turns of a generator expression in its own context X -/
theorem seg_gturns (hA : X.A = A.deeper X.env) (hc : X.calm = true) (hxe : X.xe = fun _ _ => False) (hex : X.ex = fp) (hco : X.env.scope.isCoroutine = false) (hpn : ∀ p ∈ X.pn, p.1 ≠ S) (hpf : ∀ p ∈ X.pn, p.1 ∉ fp) (hSf : S ∉ fp) (hAp : Apart X S)
    (T : Turn X.prog X.w X.K tg J fp it tn) (hg : PG X tg g) (ht : PTs X ifs tt) (he : PE X elt te) (Fin : List V → Hp → Prop) (W : Nat → Nat → List V → Hp → Prop)
    (turn : ∀ i m ys H, W i m ys H → (J.stop i H ∧ Fin ys H) ∨ (J.go i H ∧ ∃ Nx : List V → Hp → Prop, (∀ ys' H', Nx ys' H' → ∃ m', m' < m ∧ W (i + 1) m' ys' H') ∧ ∀ x H', J.yld i H x H' → g x σ0 H' fun σ2 H2 => wipe σ2 vs = σ0 ∧ tt σ2 H2 fun b H3 =>
      if b = true then te σ2 H3 fun y H4 => ys.length < sizeLine ∧ Nx (ys ++ [y]) H4 else Nx ys H3)) :
    ∀ (m i n : Nat) (ys : List V) (s₀ s : Shared) (H : Hp), W i m ys H → n + ys.length = sizeLine → GI X S [] ys σ0 H s → tn i s.heap → (∀ b ∈ fp, H b = none) →
      Seg (model X.prog X.w) A (fun n _ r s1 => r = .ok .next ∧ ∃ ys H', n + ys.length = sizeLine ∧ GI X S [] ys σ0 H' s1 ∧ Fin ys H') (GY X S) n s₀
        (.compLoop (.GeneratorExp elt [⟨tg, iter, ifs, 0⟩] scope pos) 0 (.ref it) .none X.env) ((model X.prog X.w).den (.compLoop (.GeneratorExp elt [⟨tg, iter, ifs, 0⟩] scope pos) 0 (.ref it) .none X.env)) [] s := by
  have thx : ∀ {α : Type} {t : Sem α} {Q Q' : α → Shared → Prop} {E : Value → Shared → Prop} {s : Shared}, wpAny (model X.prog X.w) X.A t Q X.xe s → (∀ a s, Q a s → Q' a s) → wpAny (model X.prog X.w) X.A t Q' E s := fun h hQ =>
    wpAny_mono h hQ fun _ _ z => by rw [hxe] at z; exact z.elim
  intro m
  induction m using Nat.strongRecOn with
  | _ m ih =>
  intro i n ys s₀ s H w hn hI st nfp
  have hAo : A.over (.compLoop (.GeneratorExp elt [⟨tg, iter, ifs, 0⟩] scope pos) 0 (.ref it) .none X.env) [] = X.A := by rw [hA]; exact over_genLoop
  show Seg _ A _ _ _ s₀ _ ((compTurn (.GeneratorExp elt [⟨tg, iter, ifs, 0⟩] scope pos) 0 (.ref it) .none X.env).onRaise (leaving X.env)) [] s
  rw [compTurn_gen, Sem.onRaise_eq_wrap]
  refine seg_bind_wrap (wpAny_standAt ?_)
  obtain ⟨acc, c, rv, I⟩ := hI
  have stat : ∀ {σ' : L2.St} {H' : Hp} {s' : Shared}, Inv X [(S, lstObj acc c)] σ' H' s' → (∀ b ∈ fp, H' b = none) → ∀ b ∈ fp, FpOk X [(S, lstObj acc c)] H' b := fun {σ' H' s'} I' hn b hb => by
    have hb' : b ∈ X.ex := by rw [hex]; exact hb
    refine ⟨hn b hb, (I'.ok.exf b hb').1, I'.ok.exfs b hb', .inl hb', fun x c e => (I'.ok.exf b hb').2 x c e, fun p hp => ?_⟩
    rcases List.mem_append.mp hp with hp | hp
    · intro z; exact hpf p hp (by rw [z]; exact hb)
    · rw [List.mem_singleton.mp hp]
      intro z; exact hSf (by rw [show S = b from z]; exact hb)
  rcases turn i m ys H w with ⟨stop, fin⟩ | ⟨go, Nx, hNx, step⟩
  · refine seg_bind_wrap ?_
    rw [hAo]
    have td := T.done X rfl rfl rfl hc i [(S, lstObj acc c)] s _ H (fun _ _ => False) I (stat I nfp) st stop
    refine thnF td fun r s1 ⟨hr, I1⟩ => ?_
    subst hr
    exact seg_end (.ok .next) ⟨rfl, ys, H, hn, ⟨acc, c, rv, I1⟩, fin⟩
  · refine seg_bind_wrap ?_
    rw [hAo]
    have ti := T.item X rfl rfl rfl hc i [(S, lstObj acc c)] s _ H (fun _ _ => False) I (stat I nfp) st go
    refine thnF ti fun r s1 ⟨u, hr, h6⟩ => ?_
    subst hr
    refine seg_bind_wrap ?_
    rw [hAo]
    refine thnF h6 fun _ s7 ⟨x, H7, I7, r7, y7, st7, n7⟩ => ?_
    have I7' := I7.pinned (stat I7 n7) (T.obj _ _ st7)
    have hipS : ∀ p ∈ pinsAt fp s7.heap, p.1 ≠ S := fun p hp z => hSf (by rw [← z]; exact (of_pinsAt hp).1)
    refine seg_bind_wrap ?_
    rw [hAo]
    refine thx (hg.run _ s7 _ H7 x u _ I7' r7 (step x H7 y7)) fun _ s8 ⟨σ8, H8, I8, hw8, q8⟩ => ?_
    refine seg_bind_wrap ?_
    rw [hAo]
    refine thx (ht.run _ s8 σ8 H8 _ I8 q8) fun b s9 ⟨H9, I9, q9⟩ => ?_
    -- the turn's end
    have again_ : ∀ {s' : Shared} {H' : Hp} {ys' : List V} {n' : Nat} {s0' : Shared}, GI X S (pinsAt fp s7.heap) ys' σ8 H' s' → n' + ys'.length = sizeLine → Nx ys' H' →
        Seg (model X.prog X.w) A (fun n _ r s1 => r = .ok .next ∧ ∃ ys H', n + ys.length = sizeLine ∧ GI X S [] ys σ0 H' s1 ∧ Fin ys H') (GY X S) n' s0'
          (.compLoop (.GeneratorExp elt [⟨tg, iter, ifs, 0⟩] scope pos) 0 (.ref it) .none X.env) ((model X.prog X.w).den (.compLoop (.GeneratorExp elt [⟨tg, iter, ifs, 0⟩] scope pos) 0 (.ref it) .none X.env)) [] s' := by
      intro s' H' ys' n' s0' hI' hn' nx
      obtain ⟨acc', c', rv', I'⟩ := hI'
      obtain ⟨m', hm, w'⟩ := hNx ys' H' nx
      have pin' : ∀ b ∈ fp, ∀ o, s7.heap.get? b = some o → s'.heap.get? b = some o ∧ H' b = none := fun b hb o e =>
        let z := I'.pin (b, o) (List.mem_append_right _ (List.mem_cons_of_mem _ (mem_pinsAt hb e)))
        ⟨z.1, z.2.1⟩
      have I0 : Inv X [(S, lstObj acc' c')] σ8 H' s' := I'.pins_of fun p hp => I'.pin p (List.mem_append_right _ (by rw [List.mem_singleton.mp hp]; exact List.mem_cons_self))
      have hl : σ0.length = σ8.length := by rw [← hw8, wipe_length]
      refine ih m' hm (i + 1) n' ys' s0' s' H' w' hn' ⟨acc', c', rv', I0.weak hl (fun j v e => ?_)⟩ (T.keep _ _ _ st7 fun b hb o e => (pin' b hb o e).1) fun b hb => ?_
      · rw [← hw8] at e
        exact (wipe_some e).1
      · obtain ⟨o, e, _⟩ := T.obj _ _ st7 b hb
        exact (pin' b hb o e).2
    cases b with
    | false =>
      simp only [Bool.false_eq_true, if_false] at q9 ⊢
      exact seg_again rfl (again_ ⟨acc, c, rv, I9⟩ hn q9)
    | true =>
      simp only [if_true] at q9 ⊢
      have hy : ∀ v, yieldOut X.env v = yieldValue v := fun v => by simp only [yieldOut, hco, Bool.false_eq_true, if_false]
      simp only [hy]
      rw [Sem.bind_eq_wrap', Sem.bind_eq_wrap', Sem.wrap_wrap, Sem.wrap_wrap]
      refine seg_wrap ?_
      rw [hAo]
      refine thx (he.run _ s9 σ8 H9 _ I9 q9) fun z s10 ⟨yv, H10, I10, r10, hlt, nx⟩ => ?_
      obtain ⟨n, rfl⟩ : ∃ k, n = k + 1 := ⟨n - 1, by omega⟩
      refine seg_at (seg_yield rfl rfl rfl ?_)
      have G10 : GI X S (pinsAt fp s7.heap) ys σ8 H10 s10 := ⟨acc, c, rv, I10⟩
      refine ⟨ys, yv, _, σ8, H10, hn, r10, G10, fun s' z => ?_⟩
      refine seg_again rfl (again_ (G10.woken hpn hipS hAp r10 z) ?_ nx)
      rw [List.length_append, List.length_singleton]; omega
end
end DL
set_option Elab.async false
set_option linter.all false
set_option maxRecDepth 100000
set_option maxHeartbeats 4000000
/-! DI: a generator expression is made; tuple of it. -/
namespace DL
open PySem PySem.Spec PyProof.Rows L2 GenW
/-- a generator expression's names: Ng; where each free one comes from -/
structure GScp (N : List Str) (sc scope : Scope) (Ng : List Str) (src : List (Option Nat)) : Prop where
  kind : scope.kind = .function
  co : scope.isCoroutine = false
  cell : ∀ y ∈ scope.names, y.2 ≠ .cell
  dot : scope.names.lookup (".0" : Str) = some NameKind.local
  free : ∀ y ∈ scope.names, y.2 = .free → sc.names.lookup y.1 = some .cell ∨ sc.names.lookup y.1 = some .free
  nd : Ng.Nodup
  len : src.length = Ng.length
  at_ : ∀ (j i : Nat), src[j]? = some (some i) → ∃ y, Ng[j]? = some y ∧ N[i]? = some y ∧ scope.names.lookup y = some .free
def gscp (N : List Str) (sc scope : Scope) (Ng : List Str) (src : List (Option Nat)) : Bool :=
  decide (scope.kind = .function) && !scope.isCoroutine && scope.names.all (fun y => !decide (y.2 = .cell)) && decide (scope.names.lookup (".0" : Str) = some NameKind.local) &&
  scope.names.all (fun y => !decide (y.2 = .free) || decide (sc.names.lookup y.1 = some .cell) || decide (sc.names.lookup y.1 = some .free)) && decide Ng.Nodup && decide (src.length = Ng.length) &&
  (List.range src.length).all fun j => match src[j]? with
    | some (some i) => (match Ng[j]? with | some y => decide (N[i]? = some y) && decide (scope.names.lookup y = some .free) | none => false)
    | _ => true
theorem gscp_ok {N : List Str} {sc scope : Scope} {Ng : List Str} {src : List (Option Nat)} (h : gscp N sc scope Ng src = true) : GScp N sc scope Ng src := by
  unfold gscp at h
  simp only [Bool.and_eq_true, decide_eq_true_eq, Bool.not_eq_true', List.all_eq_true, Bool.or_eq_true, decide_eq_false_iff_not] at h
  obtain ⟨⟨⟨⟨⟨⟨⟨h1, h2⟩, h3⟩, h4⟩, h5⟩, h6⟩, h7⟩, h8⟩ := h
  refine ⟨h1, h2, fun y hy => h3 y hy, h4, fun y hy e => ?_, h6, h7, fun j i e => ?_⟩
  · rcases h5 y hy with (z | z) | z
    · exact absurd e z
    · exact .inl z
    · exact .inr z
  · have hj : j ∈ List.range src.length := List.mem_range.mpr (List.getElem?_eq_some_iff.mp e).1
    have q := h8 j hj
    rw [e] at q
    simp only at q
    cases hy : Ng[j]? with
    | none => rw [hy] at q; cases q
    | some y =>
      rw [hy] at q
      simp only [Bool.and_eq_true, decide_eq_true_eq] at q
      exact ⟨y, rfl, q.1, q.2⟩
def sigG (src : List (Option Nat)) (σ : L2.St) : L2.St := src.map fun o => match o with
  | none => none
  | some i => (σ[i]?).join
theorem sigG_some {src : List (Option Nat)} {σ : L2.St} {j : Nat} {v : V} (h : (sigG src σ)[j]? = some (some v)) : ∃ i, src[j]? = some (some i) ∧ σ[i]? = some (some v) := by
  unfold sigG at h
  rw [List.getElem?_map] at h
  cases q : src[j]? with
  | none => rw [q] at h; cases h
  | some o =>
    rw [q] at h
    cases o with
    | none => cases h
    | some i =>
      refine ⟨i, rfl, ?_⟩
      have h : (σ[i]?).join = some v := Option.some.inj h
      cases e : σ[i]? with
      | none => rw [e] at h; cases h
      | some u => rw [e] at h; exact congrArg some h
section
variable {X : Cx} {pins : List (Addr × Obj)} {σ : L2.St} {H : Hp} {sc s2 : Shared} {scope : Scope} {Ng : List Str} {src : List (Option Nat)} {fp : List Addr} {pn pins' : List (Addr × Obj)} {A : Around} {code : Value} {k : Nat}
/-- the generator's frame, ahead of its first turn -/
theorem inv_gstart (I : Inv X pins σ H sc) (S : GScp X.N X.env.scope scope Ng src) (hfp : ∀ b ∈ fp, FpOk X pins H b ∧ b < sc.heap.objs.size) (hr : Room (k + 1) A) (hfr : A.frames = some X.stack)
    (kp : ∀ b o, sc.heap.get? b = some o → s2.heap.get? b = some o) (os : s2.os = sc.os) (hb : AllBare s2.gens) {m0 : Str → Option Value} (hn : s2.heap.Ns sc.heap.objs.size m0)
    (hp : ∀ p ∈ pn ++ pins', s2.heap.get? p.1 = some p.2 ∧ H p.1 = none ∧ p.1 ≠ sc.heap.objs.size ∧ p.1 ∉ frs X.stack ∧ ∀ v, p.2.data ≠ .cell v) :
    Inv (gxOf X Ng A sc H (genEnv scope (cloFrom X.env.cells scope.names []) sc.heap.objs.size code builtinsNs X.env) fp pn) pins' (sigG src σ) H s2 := by
  have hfree : ∀ y ∈ scope.names, y.2 = .free → ∃ c, X.env.cells.lookup y.1 = some c := fun y hy e => by
    rcases S.free y hy e with k | k
    · exact I.ok.has _ (.inl k)
    · exact I.ok.has _ (.inr k)
  have cm : ∀ {y c}, (cloFrom X.env.cells scope.names []).lookup y = some c → X.env.cells.lookup y = some c ∧ c < sc.heap.objs.size := fun {y c} hm => by
    rcases cloFrom_mem (PySem.mem_of_lookup hm) with hm | ⟨h1, rfl⟩
    · cases hm
    · obtain ⟨c, hc⟩ := hfree _ h1 rfl
      have e : (X.env.cells.lookup y).getD 0 = c := by rw [show X.env.cells.lookup y = some c from hc]; rfl
      rw [e]
      obtain ⟨w, z⟩ := I.cell _ _ hc
      exact ⟨hc, z.lt⟩
  have look : ∀ {y}, scope.names.lookup y = some .free → ∃ c, (cloFrom X.env.cells scope.names []).lookup y = some c := fun {y} hl =>
    mem_lookup (cloFrom_has (cells := X.env.cells) (acc := []) (PySem.mem_of_lookup hl))
  refine ⟨⟨I.ok.mod, S.kind, I.ok.glob, rfl, Nat.le_refl _, fun y z c e1 e2 => I.ok.inj y z c (cm e1).1 (cm e2).1, fun y hy => ?_, fun y c z e => ?_, fun _ => (hr.deeper _).hd, Around.frames_deeper hfr, .inr ⟨rfl, rfl⟩, fun b hb' => ⟨?_, fun y c e z => ?_⟩, I.bs, Nat.le_trans I.ok.bsz I.sz, fun b o e hb' => ?_, fun b hb' z => ?_, I.stack, I.stkFree⟩,
    os, hb, Un.kept kp, ⟨m0, hn, fun i y av e1 e2 e3 => ?_⟩, fun y c e => ?_, I.hok.fresh (Nat.le_refl _), fun y c e => I.freeC y c (cm e).1, hp, I.hok.kept kp, by unfold sigG; rw [List.length_map]; exact S.len⟩
  · rcases hy with hy | hy
    · exact absurd rfl (S.cell _ (PySem.mem_of_lookup (show scope.names.lookup y = some .cell from hy)))
    · exact look hy
  · have z : (scope.names.lookup y == some NameKind.cell) = true := z
    have z : scope.names.lookup y = some .cell := by simpa using z
    exact absurd rfl (S.cell _ (PySem.mem_of_lookup z))
  · exact Nat.ne_of_lt (hfp b hb').2
  · exact (hfp b hb').1.2.2.2.2.1 y c (cm e).1 z
  · rcases (hfp b hb').1.2.2.2.1 with z | z
    · exact I.ok.noex b o e z
    · exact absurd (Nat.lt_of_lt_of_le (Heap.lt_size e) (Nat.le_trans I.ok.bsz z)) (Nat.lt_irrefl _)
  · rcases List.mem_cons.mp (I.stkSub b z) with z | z
    · exact (hfp b hb').1.2.1 z
    · exact (hfp b hb').1.2.2.1 z
  · obtain ⟨i', h1, h2⟩ := sigG_some e2
    obtain ⟨y', n1, n2, n3⟩ := S.at_ i i' h1
    have ey : y' = y := by rw [show Ng[i]? = some y from e1] at n1; exact (Option.some.inj n1).symm
    subst ey
    obtain ⟨m, hm, hl⟩ := I.loc
    have fr := S.free _ (PySem.mem_of_lookup n3) rfl
    obtain ⟨w, r, q⟩ := hl i' y' av n2 h2 (fr.elim (fun k => .inr (.inl k)) fun k => .inr (.inr k))
    obtain ⟨c, hc⟩ := look n3
    refine ⟨w, r, .inr ⟨.inr n3, c, hc, ?_⟩⟩
    rcases q with ⟨k, _⟩ | ⟨_, c', e', z⟩
    · have k : X.env.scope.names.lookup y' = some .local := k
      rcases fr with k' | k' <;> rw [show X.env.scope.names.lookup y' = _ from k'] at k <;> cases k
    · rw [(cm hc).1] at e'; cases e'
      exact z.keeps kp
  · obtain ⟨w, z⟩ := I.cell y c (cm e).1
    exact ⟨w, z.keeps kp⟩
end
/-- a generator expression's reading -/
def tGx (P : Addr) (wi : TI) (g : TG) (tt : TT) (te : TE) (src : List (Option Nat)) (vs : List Nat) : TGen := fun σ H cont => wi σ H fun J H1 => GxR.TabG H1 P ∧ ∀ H2, GxR.Tabbed P H1 H2 → ∃ W : Nat → Nat → List V → Hp → Prop, (∃ m, W 0 m [] H2) ∧
  ∀ i m ys H, W i m ys H → (J.stop i H ∧ cont ys H) ∨ (J.go i H ∧ ∃ Nx : List V → Hp → Prop, (∀ ys' H', Nx ys' H' → ∃ m', m' < m ∧ W (i + 1) m' ys' H') ∧ ∀ x H', J.yld i H x H' → g x (wipe (sigG src σ) vs) H' fun σ2 H2 => wipe σ2 vs = wipe (sigG src σ) vs ∧ tt σ2 H2 fun b H3 =>
      if b = true then te σ2 H3 fun y H4 => ys.length < sizeLine ∧ Nx (ys ++ [y]) H4 else Nx ys H3)
section
variable {X : Cx} {elt tg iter : Expr} {ifs : List Expr} {scope : Scope} {Ng : List Str} {src : List (Option Nat)} {vs : List Nat} {pos : Pos} {c P : Addr} {k : Nat} {wi : TI} {g : TG} {tt : TT} {te : TE}
theorem pgen_gexp {E : XK} (hr : Room 0 X.A) (TB : GxR.TabB X.base X.mg c P) (hcode : X.env.code = .ref c) (S : GScp X.N X.env.scope scope Ng src) (hi : PI X tg iter wi)
    (hg : ∀ A s H cl C code fp pn, Room k (A.deeper (genEnv scope cl C code builtinsNs X.env)) → PG (gxOf X Ng A s H (genEnv scope cl C code builtinsNs X.env) fp pn) tg g) (ht : ∀ A s H cl C code fp pn, Room k (A.deeper (genEnv scope cl C code builtinsNs X.env)) → PTs (gxOf X Ng A s H (genEnv scope cl C code builtinsNs X.env) fp pn) ifs tt)
    (he : ∀ A s H cl C code fp pn, Room k (A.deeper (genEnv scope cl C code builtinsNs X.env)) → PE (gxOf X Ng A s H (genEnv scope cl C code builtinsNs X.env) fp pn) elt te) (hs : ∀ x, genFold iter X.env x = pure x) :
    PGen X (k + 1) (.GeneratorExp elt [⟨tg, iter, ifs, 0⟩] scope pos) (tGx P wi g tt te src vs) E := by
  refine ⟨fun pins s σ H cont I h => ?_⟩
  have hfree : ∀ y ∈ scope.names, y.2 = .free → ∃ c, X.env.cells.lookup y.1 = some c := fun y hy e => by
    rcases S.free y hy e with k | k
    · exact I.ok.has _ (.inl k)
    · exact I.ok.has _ (.inr k)
  refine wpAny_GeneratorExp_make S.co (closure_ok hfree) S.cell S.dot S.kind (by have := hr.dp; omega) (thn (hi.run pins s σ H _ I h) fun xv s1 hx => thn hx fun itv s2 h2 => ?_) hs
  obtain ⟨it, fp, tn, J, H1, rfl, I1, T, st, hf, ⟨ps, hP, htr⟩, hT⟩ := h2
  refine ⟨I1.nolimit, ?_⟩
  have hPs : s2.heap.get? P = some { cls := .none, data := .fields ps } := I1.hok P _ hP
  have hcd : PySem.W.CodeHd s2.heap c P := TB.code.keeps fun b u e => I1.bk b u e
  have hPfp : P ∉ fp := fun z => by rw [(hf P z).1] at hP; cases hP
  have fin : ∀ (code : Value) (s3 : Shared) (H2 : Hp), Inv X pins σ H2 s3 → GxR.Tabbed P H1 H2 → (∀ b, b ≠ P → ∀ o, s2.heap.get? b = some o → s3.heap.get? b = some o) →
      wpAny (model X.prog X.w) X.A (builtinsFor X.env.globals X.env.builtins) (fun bi s₄ => ∀ h', h'.Ns s₄.heap.objs.size (fun y => if y = ".0" then some (.ref it) else none) → Heap.SameBut s₄.heap.objs.size (s₄.heap.push { cls := .type "frame", data := .dict #[] }) h' →
        ∃ H1 sc ex, Inv X pins σ H1 sc ∧ ExOk X pins ex ∧ GMade X.prog X.w (k + 1) X.stack H1 sc ex cont E (.ref h'.objs.size) { s₄ with
            gens := s₄.gens.push (.fresh (.compStart (.GeneratorExp elt [⟨tg, iter, ifs, 0⟩] scope pos) 0 (.ref it) .none (genEnv scope (cloFrom X.env.cells scope.names []) s₄.heap.objs.size code bi X.env))),
            toks := s₄.toks + 1 + 1 + 1,
            heap := h'.push { cls := .type "generator", data := .fields #[.int s₄.gens.size 0, .str "<genexpr>" (s₄.toks + 1), .str (X.env.qual ++ "<genexpr>") (s₄.toks + 1 + 1)] } }) X.xe s3 := by
    intro code s3 H2 I3 tb kp3
    obtain ⟨bm, ob, e1, e2, e3, e4, e5, e6, e7, e8⟩ := TB.bm
    refine wpAny_builtinsFor (m := X.mg) (by rw [I3.ok.glob]; exact I3.mod.glob.keeps I3.bk) e1 e2 (I3.bk _ _ e5) e6 e7 e8 ?_
    intro h' hns hsb
    have sz' : h'.objs.size = s3.heap.objs.size + 1 := by rw [hsb.1, Heap.size_push]
    have kp' : ∀ b o, s3.heap.get? b = some o → h'.get? b = some o := fun b o e => hsb.extBut b o (Nat.ne_of_lt (Heap.lt_size e)) (Heap.get?_push_of_some _ e)
    have st3 : tn 0 s3.heap := T.keep _ _ _ st fun b hb o e => kp3 b (fun z => hPfp (z ▸ hb)) o e
    have nfp : ∀ b ∈ fp, H2 b = none := fun b hb => by
      rw [tb.2 b (fun z => hPfp (z ▸ hb))]; exact (hf b hb).1
    have hf3 : ∀ b ∈ fp, FpOk X pins H2 b ∧ b < s3.heap.objs.size := fun b hb => by
      obtain ⟨o, e, _⟩ := T.obj _ _ st3 b hb
      exact ⟨⟨nfp b hb, (hf b hb).2⟩, Heap.lt_size e⟩
    generalize hgo : ({ cls := .type "generator", data := .fields #[.int s3.gens.size 0, .str "<genexpr>" (s3.toks + 1), .str (X.env.qual ++ "<genexpr>") (s3.toks + 1 + 1)] } : Obj) = go
    have gpush : ∀ h : Heap, (h.push go).get? h.objs.size = some go := fun h => Heap.get?_push_size _ (by rw [← hgo]; rfl)
    have isg : ∀ h : Heap, h.get? h'.objs.size = some go → h.IsGen h'.objs.size s3.gens.size := fun h e => by
      refine ⟨go, .str "<genexpr>" (s3.toks + 1), .str (X.env.qual ++ "<genexpr>") (s3.toks + 1 + 1), e, ?_, ?_, ?_⟩ <;> rw [← hgo]
    have god : ∀ v, go.data ≠ .cell v := fun v z => by rw [← hgo] at z; cases z
    have kpp : ∀ b o, s3.heap.get? b = some o → (h'.push go).get? b = some o := fun b o e => Heap.get?_push_of_some _ (kp' b o e)
    refine ⟨H2, s3, fp, I3, fun b hb => ?_, ⟨h'.objs.size, s3.gens.size, _, rfl, by rw [sz']; omega, ?_, isg _ (gpush _), Array.getElem?_push_size .., rfl, I3.bare.push rfl, I3.nolimit.keeps kpp, kpp, ?_⟩⟩
    · obtain ⟨f, _⟩ := hf3 b hb
      exact ⟨f.2.2.2.1, f.2.1, f.2.2.2.2.1, f.2.2.2.2.2⟩
    · show _ < (h'.push go).objs.size
      rw [Heap.size_push]; exact Nat.lt_succ_self _
    intro A Sx s4 hrA hfrA hSx hk4 hSo os4 b4
    obtain ⟨W, ⟨m0, w0⟩, turn⟩ := hT H2 tb
    obtain ⟨cS, heS⟩ := hSo
    have hSx : h'.objs.size < Sx := by
      have z : (h'.push go).objs.size ≤ Sx := hSx
      rw [Heap.size_push] at z; exact z
    have kp4 : ∀ b o, s3.heap.get? b = some o → s4.heap.get? b = some o := fun b o e => hk4 b o (kpp b o e)
    have hns4 : s4.heap.Ns s3.heap.objs.size (fun y => if y = ".0" then some (.ref it) else none) := hns.keeps fun b o e => hk4 b o (Heap.get?_push_of_some _ e)
    have young : ∀ b, s3.heap.objs.size < b → H2 b = none ∧ b ≠ s3.heap.objs.size ∧ b ∉ frs X.stack := fun b hb => ⟨I3.hok.fresh (Nat.le_of_lt hb), Nat.ne_of_gt hb, fun z => by
      rcases List.mem_cons.mp (I3.stkSub b z) with z | z
      · exact absurd (Nat.lt_trans hb (by rw [z]; exact I3.lt)) (Nat.lt_irrefl _)
      · exact I3.nofs (Nat.le_of_lt hb) z⟩
    have sS : s3.heap.objs.size < Sx := Nat.lt_trans (by rw [sz']; exact Nat.lt_succ_self _) hSx
    have ya := young h'.objs.size (by rw [sz']; exact Nat.lt_succ_self _)
    have yS := young Sx sS
    have hSn : Sx ∉ fp := fun z => absurd (Nat.lt_trans (hf3 _ z).2 sS) (Nat.lt_irrefl _)
    have I4 : Inv (gxOf X Ng A s3 H2 (genEnv scope (cloFrom X.env.cells scope.names []) s3.heap.objs.size code builtinsNs X.env) fp [(h'.objs.size, go)]) [(Sx, lstObj #[] cS)] (sigG src σ) H2 s4 :=
      inv_gstart I3 S hf3 hrA hfrA kp4 os4 b4 hns4 fun p hp => by
        rcases List.mem_append.mp hp with z | z
        · rw [List.mem_singleton.mp z]
          exact ⟨hk4 _ _ (gpush _), ya.1, ya.2.1, ya.2.2, god⟩
        · rw [List.mem_singleton.mp z]
          exact ⟨heS, yS.1, yS.2.1, yS.2.2, fun v q => by cases q⟩
    have I5 := I4.weak (σ' := wipe (sigG src σ) vs) (wipe_length _ _) fun i v e => (wipe_some e).1
    have hAp : Apart (gxOf X Ng A s3 H2 (genEnv scope (cloFrom X.env.cells scope.names []) s3.heap.objs.size code builtinsNs X.env) fp [(h'.objs.size, go)]) Sx := by
      refine ⟨Nat.le_of_lt sS, yS.2.1, fun y c e z => ?_⟩
      obtain ⟨w, q⟩ := I4.cell y c e
      have hc : c < s3.heap.objs.size := by
        have e : (cloFrom X.env.cells scope.names []).lookup y = some c := e
        rcases cloFrom_mem (PySem.mem_of_lookup e) with hm | ⟨h1, rfl⟩
        · cases hm
        · obtain ⟨c, hc⟩ := hfree _ h1 rfl
          rw [show X.env.cells.lookup y = some c from hc]
          obtain ⟨w, z⟩ := I3.cell _ _ hc
          exact z.lt
      exact absurd (Nat.lt_trans (by rw [← z]; exact hc) sS) (Nat.lt_irrefl _)
    have hr1 : Room k (A.deeper (genEnv scope (cloFrom X.env.cells scope.names []) s3.heap.objs.size code builtinsNs X.env)) := hrA.deeper _
    have st4 : tn 0 s4.heap := T.keep _ _ _ st3 fun b _ o e => kp4 b o e
    have hpnS : ∀ p ∈ [(h'.objs.size, go)], p.1 ≠ Sx := fun p hp => by rw [List.mem_singleton.mp hp]; exact Nat.ne_of_lt hSx
    have hpnf : ∀ p ∈ [(h'.objs.size, go)], p.1 ∉ fp := fun p hp z => by
      rw [List.mem_singleton.mp hp] at z
      have q : h'.objs.size < s3.heap.objs.size := (hf3 _ z).2
      rw [sz'] at q
      exact absurd (Nat.lt_of_succ_lt q) (Nat.lt_irrefl _)
    have loop := seg_gturns (X := gxOf X Ng A s3 H2 (genEnv scope (cloFrom X.env.cells scope.names []) s3.heap.objs.size code builtinsNs X.env) fp [(h'.objs.size, go)]) (A := A) (elt := elt) (tg := tg) (iter := iter) (ifs := ifs) (scope := scope) (pos := pos) (S := Sx) (vs := vs) rfl rfl rfl rfl S.co
      hpnS hpnf hSn hAp T (hg A s3 H2 _ _ code fp _ hr1) (ht A s3 H2 _ _ code fp _ hr1) (he A s3 H2 _ _ code fp _ hr1) cont W turn m0 0 sizeLine [] s4 s4 H2 w0 (Nat.add_zero _) ⟨#[], cS, .nil, I5⟩ st4 nfp
    have pinned : ∀ {ip : List (Addr × Obj)} {ys : List V} {s' : Shared} {σ' : L2.St} {H' : Hp}, GI (gxOf X Ng A s3 H2 (genEnv scope (cloFrom X.env.cells scope.names []) s3.heap.objs.size code builtinsNs X.env) fp [(h'.objs.size, go)]) Sx ip ys σ' H' s' → s'.heap.IsGen h'.objs.size s3.gens.size := fun {ip ys s' σ' H'} hI => by
      obtain ⟨acc, cc, _, J⟩ := hI
      exact isg _ (J.pin (h'.objs.size, go) (List.mem_append_left _ (List.mem_singleton.mpr rfl))).1
    refine seg_imp (R := fun n _ r s1 => r = .ok .next ∧ ∃ ys H', n + ys.length = sizeLine ∧ GI (gxOf X Ng A s3 H2 (genEnv scope (cloFrom X.env.cells scope.names []) s3.heap.objs.size code builtinsNs X.env) fp [(h'.objs.size, go)]) Sx [] ys (wipe (sigG src σ) vs) H' s1 ∧ cont ys H')
      (Y := GY (gxOf X Ng A s3 H2 (genEnv scope (cloFrom X.env.cells scope.names []) s3.heap.objs.size code builtinsNs X.env) fp [(h'.objs.size, go)]) Sx) (fun n s₀ r s1' hR => ?_) (fun n s₀ v s1' kap kap' hkk hY => ?_) sizeLine ?_
    · obtain ⟨rfl, ys, H', hn, hI, hQ⟩ := hR
      obtain ⟨a1, _, _, acc, cc, ra, ea⟩ := hI.at
      obtain ⟨_, _, _, J⟩ := hI
      exact .inl ⟨.inr rfl, H', ys, acc, cc, J.os, J.bare, J.base, J.hok, a1, ea, ra, by omega, hQ⟩
    · obtain ⟨ys, xx, ip, σ', H', hn, h2, hI, h3⟩ := hY
      obtain ⟨_, _, _, acc, cc, ra, ea⟩ := hI.at
      have hg := pinned hI
      obtain ⟨_, _, _, J⟩ := hI
      have hsz : acc.size = ys.length := by
        have e1 := ra.length
        have e2 : acc.toList.length = acc.size := by simp
        omega
      exact ⟨J.os, J.bare, J.nolimit, hg, ⟨acc, cc, ea, by rw [hsz]; exact hn⟩, fun s' z => hkk _ _ (h3 s' z)⟩
    · show Seg _ A _ _ sizeLine s4 _ ((compStart (.GeneratorExp elt [⟨tg, iter, ifs, 0⟩] scope pos) 0 (.ref it) .none (genEnv scope (cloFrom X.env.cells scope.names []) s3.heap.objs.size code builtinsNs X.env)).onRaise (leaving (genEnv scope (cloFrom X.env.cells scope.names []) s3.heap.objs.size code builtinsNs X.env))) [] s4
      unfold compStart
      rw [Sem.onRaise_eq_wrap]
      show Seg _ A _ _ sizeLine s4 _ ((ask >>= _).wrap _ _ _ _) [] s4
      refine seg_bind_wrap (wpAny_askSetting ?_)
      split
      · exact seg_again rfl loop
      · first
          | exact seg_bind_wrap (wpAny_rule (seg_bind_wrap (wpAny_standAt (seg_bind_wrap (T.self _ 0 s4 _ _ st4 (seg_again rfl loop))))))
          | (refine seg_bind_wrap (wpAny_rule ?_); show Seg _ A _ _ sizeLine s4 _ ((standAt iter.pos >>= _).wrap _ _ _ _) [] s4; exact seg_bind_wrap (wpAny_standAt (seg_bind_wrap (T.self _ 0 s4 _ _ st4 (seg_again rfl loop)))))
  cases hfd : codeAmong pos ps.toList with
  | none =>
    refine wpAny_genexprCodeX hcode (hcd.code hPs htr) (hcd.tab hPs) hfd fun c' h3 tk hx hge hlt hco' _ htab' _ => ?_
    obtain ⟨o1, vs1, f1, tf, fl, tg1, inF, tx, t1, op, _, _, _, _, _, _, _, _, _, htr', _⟩ := hco'
    refine fin _ _ (upd H1 P (.tbl (ps ++ #[rawInt pos.line, rawInt pos.col, .ref c']))) ?_ ⟨⟨_, upd_same, htr'⟩, fun b hb => upd_ne hb⟩ fun b hb o e => hx b o hb e
    exact GxR.inv_tab (g' := s2.gens) (d' := s2.drawn) (t' := tk) I1 hP (fun b o hb e => hx b o hb e) htab'.2 I1.bare
  | some cv =>
    refine wpAny_genexprCode_hit hcode (hcd.code hPs htr) hfd ?_
    exact fin cv s2 H1 I1 ⟨⟨ps, hP, htr⟩, fun b _ => rfl⟩ fun b _ o e => e
end
end DL
set_option Elab.async false
set_option linter.all false
set_option maxRecDepth 100000
set_option maxHeartbeats 4000000
/-! DJ: tuple of a generator expression. -/
namespace DL
open PySem PySem.Spec PyProof.Rows L2 GenW
section
variable {P : Program} {w : World} {outer : List PySem.Env} {H : Hp} {sc s : Shared} {ex : List Addr} {Q : List V → Hp → Prop} {A : Around} {k : Nat} {u : Value}
/-- no exception leaves the generator -/
abbrev NX : XK := fun _ _ _ => False
theorem collect_gm {Q' : List Value → Shared → Prop} {E : Value → Shared → Prop} (hr : Room (k + 3) A) (hfr : A.frames = some outer) (h : GMade P w k outer H sc ex Q NX u s)
    (hQ : ∀ (s' : Shared) (acc : List Value) (H' : Hp) (ys : List V), Vals ys acc → ys.length ≤ sizeLine → s'.os = sc.os → AllBare s'.gens → Un (frs outer) ex H H' sc.heap s'.heap → HOk P w H' s'.heap → Q ys H' → Q' acc s') : wpAny (model P w) A (collect u) Q' E s := by
  obtain ⟨a, g, c, rfl, ha1, ha2, hg, hgs, hos, hb, hl, hkp, wake⟩ := h
  have hSa : s.heap.objs.size ≠ a := Nat.ne_of_gt ha2
  have hcl : cStatics < s.heap.objs.size := let ⟨_, hn, _⟩ := hl; hn.lt
  have hSc : s.heap.objs.size ≠ cStatics := Nat.ne_of_gt hcl
  unfold collect
  refine wpAny_bind (wpAny_runValue (codeAny_builtin F.entry_proto_collect ?_))
  rw [Around.under_plainId F.plain_proto_collect _]
  show wpAny _ A.in1 (newList [] >>= fun l => again (.builtin "list.__iadd__" ⟨[l, .ref a], []⟩)) _ _ s
  refine wpAny_bind (wpAny_newObj_type ?_ (by show 0 ≤ sizeLine; decide))
  refine wpAny_pure ⟨plainId_quiet F.plain_list_iadd _, codeAny_builtin F.entry_list_iadd ?_⟩
  rw [Around.under_plainId F.plain_list_iadd _]
  generalize hs1 : ({ s with heap := s.heap.push { cls := .type "list", data := .seq ([] : List Value).toArray } } : Shared) = s1
  have h1 : s1.heap = s.heap.push { cls := .type "list", data := .seq ([] : List Value).toArray } := by rw [← hs1]
  have os1 : s1.os = s.os := by rw [← hs1]
  have gn1 : s1.gens = s.gens := by rw [← hs1]
  have k1 : ∀ b o, s.heap.get? b = some o → s1.heap.get? b = some o := fun b o e => by rw [h1]; exact Heap.get?_push_of_some _ e
  have hS1 : s1.heap.get? s.heap.objs.size = some { cls := .type "list", data := .seq ([] : List Value).toArray } := by rw [h1]; exact Heap.get?_push_size _ rfl
  have gty : ∀ {h : Heap}, (∀ b o, s.heap.get? b = some o → h.get? b = some o) → h.IsGen a g := fun {h} q => hg.keeps q
  show wpAny _ A.in1 (Builtin.List.listExtendWith (.ref s.heap.objs.size) (.ref a) (.ref s.heap.objs.size)) _ _ s1
  unfold Builtin.List.listExtendWith
  refine wpAny_bind (wpAny_typeOf (gty k1).typeIs ?_)
  have q1 : Builtin.List.listSameRef (.ref s.heap.objs.size) (.ref a) = false := by simp [Builtin.List.listSameRef, hSa]
  have q2 : (Value.type "generator" == Value.type "list") = false := by decide
  have q3 : (Value.type "generator" == Value.type "tuple") = false := by decide
  simp only [q1, q2, q3, Bool.or_false, Bool.false_eq_true, if_false]
  refine wpAny_bind (wpAny_pyIter_gen (gty k1) ?_)
  refine wpAny_bind (wpAny_holding ?_)
  unfold Builtin.List.listLengthHint
  refine wpAny_bind (wpAny_specialOf (gty k1).typeIs F.gen_no_len ?_)
  show wpAny _ A.in1 (specialOf (Value.ref a) (Str.ofString "__length_hint__") >>= _) _ _ _
  refine wpAny_bind (wpAny_specialOf (gty k1).typeIs F.gen_no_hint ?_)
  refine wpAny_pure ?_
  show wpAny _ A.in1 (rule "list.extend.makes-room" >>= fun _ => Builtin.List.listTouch (.ref s.heap.objs.size) >>= fun _ =>
    again (.builtin "list.extend.loop" ⟨[.ref s.heap.objs.size, .ref a, .ref s.heap.objs.size], []⟩)) _ _ _
  refine wpAny_bind (wpAny_rule ?_)
  refine wpAny_bind ?_
  show wpAny _ A.in1 (updateSeq s.heap.objs.size (·.push .none) >>= fun _ => updateSeq s.heap.objs.size (·.pop)) _ _ _
  refine wpAny_bind (wpAny_updateSeq hS1 rfl ?_)
  have hS2 := Heap.get?_update_self (Obj.mapSeq (·.push Value.none)) hS1 rfl
  refine wpAny_updateSeq (hz := by seq_fits) hS2 rfl ?_
  have hS3 := Heap.get?_update_self (Obj.mapSeq (·.pop)) hS2 rfl
  have up : ∀ (h : Heap) (f : Obj → Obj), (∀ b o, s.heap.get? b = some o → h.get? b = some o) → ∀ b o, s.heap.get? b = some o → (h.update s.heap.objs.size f).get? b = some o := fun h f q b o e =>
    (Heap.get?_update_other _ _ (Ne.symm (Nat.ne_of_lt (Heap.lt_size e)))).trans (q b o e)
  have k3 := up _ (Obj.mapSeq (·.pop)) (up _ (Obj.mapSeq (·.push Value.none)) k1)
  refine wpAny_pure ⟨plainId_quiet F.plain_extend_loop _, ?_⟩
  refine drain (P := P) (w := w) (outer := outer) (H := H) (sc := sc) (ex := ex) (Q := Q) (EX := NX) (A := A) (g := g) hr.hd (by have := hr.dp; omega) hSa hSc
    (fun s' acc c H' ys r1 r2 r3 r4 r5 r6 r7 r8 r9 => ?_) (fun e s' hc => ?_) sizeLine _ (gty k3) (hl.keeps k3) ⟨.fresh c, by show s1.gens[g]? = _; rw [gn1]; exact hgs, rfl, ?_⟩
  · show wpAny _ A (load s.heap.objs.size >>= _) _ _ s'
    refine wpAny_bind (wpAny_load r1 ?_)
    exact wpAny_pure (hQ s' acc.toList H' ys r2 r3 r4 r5 r6 r7 r9)
  · obtain ⟨_, _, _, _, _, _, _, _, _, _, _, _, z⟩ := hc
    exact z.elim
  · refine wake _ _ _ ⟨hr.hd, ?_, ?_⟩ hfr (Nat.le_refl _) k3 ⟨_, hS3⟩ (os1.trans hos) (allBare_setGen (s := { s1 with heap := _ }) (by show AllBare s1.gens; rw [gn1]; exact hb) rfl)
    · have := hr.dp
      show A.depth + 3 * k + 5 < _
      omega
    · have := hr.un
      show A.units + 1 + 1 + 16 * k + 200 < _
      omega
/-- tuple(g) -/
theorem call_tuple_gm {Q' : Value → Shared → Prop} {E : Value → Shared → Prop} (hr : Room (k + 4) A) (hfr : A.frames = some outer) (h : GMade P w k outer H sc ex Q NX u s)
    (hQ : ∀ (s' : Shared) (acc : List Value) (H' : Hp) (ys : List V), Vals ys acc → ys.length ≤ sizeLine → s'.os = sc.os → AllBare s'.gens → Un (frs outer) ex H H' sc.heap s'.heap → HOk P w H' s'.heap → Q ys H' → Q' (.ref s'.heap.objs.size) { s' with heap := s'.heap.push { cls := .type "tuple", data := .seq acc.toArray } }) :
    wpAny (model P w) A (call (.type "tuple") [u]) Q' E s := by
  have hu : ∃ a g, u = .ref a ∧ s.heap.IsGen a g := by
    obtain ⟨a, g, c, rfl, _, _, hg, _⟩ := h
    exact ⟨a, g, rfl, hg⟩
  obtain ⟨a, g, rfl, hg⟩ := hu
  have hTI : s.TypeIs (.ref a) "generator" := hg.typeIs
  refine callType_codes (Q₁ := fun obj s₁ => s₁.TypeIs obj "tuple" ∧ Q' obj s₁) F.called_tuple (F.typeCall_tuple_1 _) F.entry_object_init ?_ fun obj s₁ h₁ => ?_
  · refine codeAny_of_tree ?_
    show wpAny _ A.in1.in1 (do checkBuiltinCall "tuple.__new__" ⟨[.type "tuple", .ref a], []⟩; again (.builtin "tuple.__new__" ⟨[.type "tuple", .ref a], []⟩)) _ _ s
    refine wpAny_bind (wpAny_of_eq (F.newCall_tuple_1 _) (wpAny_pure ⟨plainId_quiet F.plain_tuple_new _, codeAny_builtin F.entry_tuple_new ?_⟩))
    rw [Around.under_plainId F.plain_tuple_new _]
    have hsub := sub_tuple_self
    have hinit := init_tuple_lookup
    have hmh := madeHere_tuple
    have hr1 : Room (k + 3) A.in1.in1 := ⟨hr.hd, by have := hr.dp; show A.depth + 3 * (k + 3) + 5 < _; omega, by have := hr.un; show A.units + 1 + 1 + 16 * (k + 3) + 200 < _; omega⟩
    wp_walk using wpAny_typeOf hTI, collect_gm (A := A.in1.in1) hr1 hfr h
    intro s' acc H' ys r2 r3 r4 r5 r6 r7 r9
    show wpAny _ _ (Builtin.Tuple.tupleExact acc.toArray >>= fun v => ret v) _ _ _
    unfold Builtin.Tuple.tupleExact
    have hl : acc.length = ys.length := r2.length.symm
    refine wpAny_bind (wpAny_newObj_type ?_ (by show acc.toArray.size ≤ sizeLine; rw [List.size_toArray, hl]; exact r3))
    exact wpAny_pure ⟨⟨_, Heap.get?_push_size _ rfl, rfl⟩, hQ s' acc H' ys r2 r3 r4 r5 r6 r7 r9⟩
  · exact ⟨h₁.1, F.args_object_init_2 obj _, object_init_meets F.called_tuple.init.lookup F.called_tuple.made (by decide) P w A.in1 _ s₁ ⟨h₁.1, rfl, h₁.2⟩⟩
end
/-- tuple(g), read -/
def tTupG (tg : TGen) : TE := fun σ H Q => tg σ H fun out H2 => ∀ q, H2 q = none → Q (.ref q) (upd H2 q (.tup out))
section
variable {X : Cx} {k : Nat} {e : Expr} {tg : TGen} {nm : Str} {p pos : Pos}
theorem pe_tupG (h : PGen X k e tg NX) (hr : Room (k + 4) X.A) (hg : Gl X nm) (hmg : X.mg nm = none) (hv : bootBuiltins nm = some (.type "tuple")) (hnm : nm ≠ "__name__" := by decide) (hdb : (nm == ("__debug__" : Str)) = false := by decide)
    (he : starEach [e] X.env = (false, eval e X.env) :: starEach [] X.env := by rfl) : PE X (.Call (.Name nm p) [e] [] pos) (tTupG tg) := by
  refine ⟨fun pins s σ H Q I hq => ?_⟩
  refine wpAny_Call_Name_kw (ld_blt I hg hmg hv ?_ hnm hdb)
  refine PyProof.Rows.callWith_type1 ?_ he rfl
  rw [he]
  show wpAny _ _ (spliced ((false, eval e X.env) :: backTo pos (starEach [] X.env))) _ _ s
  refine Calls.spliced_cons (thn (h.run pins s σ H _ I hq) fun u s1 ⟨H1, sc, ex, I1, hex, hG⟩ => ?_)
  refine Calls.spliced_nil ?_
  refine call_tuple_gm hr I1.ok.frames hG fun s' acc H' ys r2 r3 r4 r5 r6 r7 r9 => ?_
  have I2 : Inv X pins σ H' s' := I1.call' (ch := ex) r4 r6 r7 r5 hex
  refine ⟨.ref s'.heap.objs.size, upd H' s'.heap.objs.size (.tup ys), ?_, rfl, r9 _ (I2.hok.fresh (Nat.le_refl _))⟩
  refine I2.laid (t' := s'.toks) (fun b u q => Heap.get?_push_of_some _ q) (Nat.le_refl _) ⟨r3, acc, r2, ?_⟩
  exact ⟨_, Heap.get?_push_size _ (by rfl), rfl, _, rfl⟩
end
end DL
set_option Elab.async false
set_option linter.all false
set_option maxRecDepth 100000
set_option maxHeartbeats 4000000
/-! DK: generator expressions over data. -/
namespace DL
open PySem L2
/-- a generator's items, all of them; behind it the store -/
def EvG (L : Lx) (ρ : Ro) (M : Store) (k : Nat) (e : Expr) (Q : List D → Store → Prop) : Prop :=
  ∀ X, CI L X → ∃ tg, PGen X k e tg NX ∧ ∀ σ G H (R : List V → Hp → Prop), Frm L.g.K G σ ρ → Sta L.g G H M → KA L.g G M H Q R → tg σ H R
abbrev EvGD (L : Lx) (ρ : Ro) (M : Store) (k : Nat) (e : Expr) (vs : List D) : Prop := EvG L ρ M k e fun ds M' => ds = vs ∧ M' = M
def roG (src : List (Option Nat)) (ρ : Ro) : Ro := src.map fun o => match o with
  | none => none
  | some i => (ρ[i]?).join
theorem Frm.gen {K : PySem.W.Frag} {G : Hp} {σ : L2.St} {ρ : Ro} (h : Frm K G σ ρ) (src : List (Option Nat)) : Frm K G (sigG src σ) (roG src ρ) := by
  refine ⟨by unfold sigG roG; simp, fun j d hd => ?_⟩
  unfold roG at hd
  unfold sigG
  rw [List.getElem?_map] at hd ⊢
  cases q : src[j]? with
  | none => rw [q] at hd; cases hd
  | some o =>
    rw [q] at hd
    cases o with
    | none => cases hd
    | some i =>
      have hd : (ρ[i]?).join = some d := Option.some.inj hd
      have e : ρ[i]? = some (some d) := by
        cases e : ρ[i]? with
        | none => rw [e] at hd; cases hd
        | some u => rw [e] at hd; exact congrArg some hd
      obtain ⟨v, h1, h2⟩ := h.at_ i d e
      exact ⟨v, by show some ((σ[i]?).join) = _; rw [h1]; rfl, h2⟩
/-- a table has grown -/
theorem Sta.tabbed {g : Gx} {G H H' : Hp} {M : Store} {P : Addr} (s : Sta g G H M) (hP : (P, none) ∈ g.T) (hu : ∀ q ∈ g.T, q.1 = P → q.2 = none) (t : GxR.Tabbed P H H') : Sta g G H' M ∧ Mv G M H G M H' := by
  obtain ⟨⟨ps', hp', ht'⟩, keep⟩ := t
  obtain ⟨ps, hp, ht, _⟩ := s.tabs _ hP
  have ne : ∀ b o, H b = some o → (∀ ps, o ≠ .tbl ps) → b ≠ P := fun b o e n z => by
    rw [z] at e
    rw [show H P = some (.tbl ps) from hp] at e
    exact n ps (Option.some.inj e).symm
  have kp : ∀ b o, H b = some o → (∀ ps, o ≠ .tbl ps) → H' b = some o := fun b o e n => by rw [keep b (ne b o e n)]; exact e
  have ml : ∀ a (m : MO), MOk g.K G H a m → MOk g.K G H' a m := fun a m h => h.mono (Same.refl _) fun vs e => kp a _ e fun ps z => by cases z
  refine ⟨⟨fun b u e => kp b u (s.ex b u e) fun ps z => s.nt b ps (by rw [e, z]), fun q hq => ⟨(s.tie q hq).1, ml _ _ (s.tie q hq).2⟩, s.nd, fun q hq => ?_, s.nt⟩, ⟨Same.refl _, fun b o e n _ => kp b o e n, fun b h => h.imp id .inl, fun b h => ?_⟩⟩
  · by_cases hq1 : q.1 = P
    · exact ⟨ps', by rw [hq1]; exact hp', ht', fun x hx => by rw [hu q hq hq1] at hx; cases hx⟩
    · exact (s.tabs q hq).mono (Same.refl _) fun ps e => by rw [keep _ hq1]; exact e
  · by_cases hb : b = P
    · rw [hb, hp']; intro z; cases z
    · rw [keep b hb]; exact h
/-- the generator's own code -/
def Lx.gen (L : Lx) (scope : Scope) (Ng : List Str) (k : Nat) : Lx := ⟨L.g, Ng, scope, k, fun x => scope.names.lookup x == some .cell, none, false⟩
section
variable {L : Lx} {ρ : Ro} {M : Store} {elt tg iter : Expr} {ifs : List Expr} {scope : Scope} {own : List (Str × Nat)} {pt : Pat} {pos : Pos} {Ng : List Str} {src : List (Option Nat)} {k : Nat} {P : Addr}
theorem ci_gen {X : Cx} (ci : CI L X) (S : GScp X.N X.env.scope scope Ng src) {A : Around} {s : Shared} {H : Hp} {cl : List (Str × Addr)} {C : Addr} {code : Value} {fp : List Addr} {pn : List (Addr × Obj)} (hr : Room k (A.deeper (genEnv scope cl C code builtinsNs X.env))) :
    CI (L.gen scope Ng k) (gxOf X Ng A s H (genEnv scope cl C code builtinsNs X.env) fp pn) where
  prog := ci.prog
  w := ci.w
  K := ci.K
  mg := ci.mg
  base := ci.base
  N := rfl
  sc := rfl
  nd := S.nd
  calm := rfl
  room := hr
  own := PassesOwn.never
  fn := rfl
  code := CdOk.none
  top := fun z => by cases z
def GxQ (L : Lx) (ρ : Ro) (pt : Pat) (scope : Scope) (Ng : List Str) (src : List (Option Nat)) (k : Nat) (own : List (Str × Nat)) (elt : Expr) (ifs : List Expr) (Q : List D → Store → Prop) (n : Nat) (f : Nat → D) (M1 : Store) : Prop :=
  n ≤ 50000 ∧ ∃ t Pd, (∀ i, i < n → LcTurn (L.gen scope Ng k) (roG src ρ) M1 pt own elt ifs f t Pd i) ∧ ∀ out, PWs Pd (sel n t) out → Q out M1
theorem ev_gexp {Q : List D → Store → Prop} (own : List (Str × Nat)) (pt : Pat) (Ng : List Str) (src : List (Option Nat)) (hcd : L.cd = some (P, none)) (hS : gscp L.N L.sc scope Ng src = true) (hp : PatOk (L.gen scope Ng k) tg pt) (hj : ∀ j ∈ pt.js, j ∈ own.map (·.2))
    (hs : ∀ env x, genFold iter env x = pure x) (hsrc : Src L ρ M tg iter (GxQ L ρ pt scope Ng src k own elt ifs Q) NoE) : EvG L ρ M (k + 1) (.GeneratorExp elt [⟨tg, iter, ifs, 0⟩] scope pos) Q := by
  intro X ci
  obtain ⟨⟨c, hcode, TB⟩, hPT, hu, _⟩ := ci.code P none hcd
  have S : GScp X.N X.env.scope scope Ng src := by rw [ci.N, ci.sc]; exact gscp_ok hS
  refine ⟨tGx P (WpI X tg iter) (gP L.g.K pt) (fun σ H Q => ∀ A s H0 cl C code fp pn, Room k (A.deeper (genEnv scope cl C code builtinsNs X.env)) → tts (gxOf X Ng A s H0 (genEnv scope cl C code builtinsNs X.env) fp pn) ifs σ H Q)
    (fun σ H Q => ∀ A s H0 cl C code fp pn, Room k (A.deeper (genEnv scope cl C code builtinsNs X.env)) → Wp (gxOf X Ng A s H0 (genEnv scope cl C code builtinsNs X.env) fp pn) elt σ H Q) src (own.map (·.2)), ?_, ?_⟩
  · refine pgen_gexp (k := k) (c := c) ⟨ci.room.hd, ?_, ?_⟩ (by rw [ci.base, ci.mg]; exact TB) hcode S pi_wp (fun A s H cl C code fp pn hr => hp.pg (ci_gen ci S hr)) (fun A s H cl C code fp pn hr => ⟨fun pins s' σ' H' Q' I h => (pts_wp (ifs := ifs)).run pins s' σ' H' Q' I (h A s H cl C code fp pn hr)⟩)
      (fun A s H cl C code fp pn hr => ⟨fun pins s' σ' H' Q' I h => h A s H cl C code fp pn hr pins s' I⟩) (hs X.env)
    · have := ci.room.dp; omega
    · have := ci.room.un; omega
  · intro σ G H R fr s kk
    refine hsrc X ci σ G H _ fr s (fun J n f G1 M1 H1 m1 s1 sv ⟨hn, t, Pd, turn, fin⟩ => ?_) KX.none
    refine ⟨(let ⟨ps, h1, h2, _⟩ := s1.tabs _ hPT; ⟨ps, h1, h2⟩), fun H2 tb => ?_⟩
    obtain ⟨s2, m2⟩ := s1.tabbed hPT hu tb
    refine ⟨fun i m ys H' => m = n - i ∧ i ≤ n ∧ ∃ G' out, Sta L.g G' H' M1 ∧ Mv G1 M1 H2 G' M1 H' ∧ PWs Pd (sel i t) out ∧ Reps L.g.K G' out ys, ⟨n, by simp, Nat.zero_le _, G1, [], s2, .refl .., True.intro, rfl⟩, ?_⟩
    rintro i m ys H' ⟨rfl, hi, G', out, s', m', pw, ry⟩
    by_cases hlt : i < n
    · obtain ⟨go, yl⟩ := sv.go i hlt G' H' _ m'.g s'
      refine .inr ⟨go, fun ys' H2' => ∃ G2 out2, Sta L.g G2 H2' M1 ∧ Mv G1 M1 H2 G2 M1 H2' ∧ PWs Pd (sel (i + 1) t) out2 ∧ Reps L.g.K G2 out2 ys', fun ys' H2' q => ⟨n - (i + 1), by omega, rfl, hlt, q⟩, fun w H3 hy => ?_⟩
      obtain ⟨G2, s3, m3, r2⟩ := yl w H3 hy
      have m12 := m'.trans s' m3
      obtain ⟨ρ', ha, hifs, helt⟩ := turn i hlt
      have f1 : Frm L.g.K G2 (L2.wipe (sigG src σ) (own.map (·.2))) (wipeR (roG src ρ) (own.map (·.2))) := (((fr.mono m1.g).mono m12.g).gen src).wipe _
      refine pat_read (τ := sigG src σ) ha hj r2 s3.ex f1 (wipe_wipe _ _) fun σ2 f2 hw => ⟨hw, ?_⟩
      intro A ss H0 cl C code fp pn hr
      refine tts_of hifs (ci_gen ci S hr) f2 s3 fun G3 H4 m4 s4 => ?_
      have m13 := m12.trans s3 m4
      cases ht : t i with
      | false =>
        rw [if_neg Bool.false_ne_true]
        exact ⟨G3, out, s4, m13, by rw [sel_no ht]; exact pw, (ry.mono m3.g).mono m4.g⟩
      | true =>
        rw [if_pos rfl]
        intro A ss H0 cl C code fp pn hr
        refine helt ht _ (ci_gen ci S hr) σ2 G3 H4 _ (f2.mono m4.g) s4 (fun y d G4 M4 H5 m5 s5 r5 ⟨eM, pd⟩ => ?_) KX.none
        subst eM
        have hz : ys.length ≤ n := by rw [ry.length, pw.length]; exact Nat.le_trans (sel_len i t) hi
        refine ⟨Nat.lt_of_le_of_lt (Nat.le_trans hz hn) (by decide), G4, out ++ [d], s5, m13.trans s4 m5, by rw [sel_yes ht]; exact pw.snoc pd, (((ry.mono m3.g).mono m4.g).mono m5.g).append (.one r5)⟩
    · have e : i = n := by omega
      subst e
      exact .inl ⟨sv.stop G' H' _ m'.g s', kk _ _ G' M1 H' (m1.trans s1 (m2.trans s2 m')) s' ry (fin out pw)⟩
theorem d_gexp {n : Nat} {f : Nat → D} (own : List (Str × Nat)) (pt : Pat) (Ng : List Str) (src : List (Option Nat)) (t : Nat → Bool) (e : Nat → D) (hcd : L.cd = some (P, none)) (hS : gscp L.N L.sc scope Ng src = true) (hp : PatOk (L.gen scope Ng k) tg pt) (hj : ∀ j ∈ pt.js, j ∈ own.map (·.2)) (hsrc : SrcD L ρ M tg iter n f) (hn : n ≤ 50000)
    (turn : ∀ i, i < n → ∃ ρ', pt.asg (wipeR (roG src ρ) (own.map (·.2))) (f i) ρ' ∧ EvIfs (L.gen scope Ng k) ρ' M ifs (t i) ∧ (t i = true → EvD (L.gen scope Ng k) ρ' M elt (e i))) (hs : ∀ env x, genFold iter env x = pure x := by intros; rfl) :
    EvGD L ρ M (k + 1) (.GeneratorExp elt [⟨tg, iter, ifs, 0⟩] scope pos) ((sel n t).map e) :=
  ev_gexp own pt Ng src hcd hS hp hj hs (hsrc.go ⟨hn, t, fun i y => y = e i, fun i hi => by
    obtain ⟨ρ', h1, h2, h3⟩ := turn i hi
    exact ⟨ρ', h1, h2, fun ht => (h3 ht).mono (fun d M' ⟨a, b⟩ => ⟨b, a⟩) fun _ _ z => z⟩, fun out q => ⟨q.eq, rfl⟩⟩)
/-- no test -/
theorem d_gmap {n : Nat} {f : Nat → D} (own : List (Str × Nat)) (pt : Pat) (Ng : List Str) (src : List (Option Nat)) (e : Nat → D) (hcd : L.cd = some (P, none)) (hS : gscp L.N L.sc scope Ng src = true) (hp : PatOk (L.gen scope Ng k) tg pt) (hj : ∀ j ∈ pt.js, j ∈ own.map (·.2)) (hsrc : SrcD L ρ M tg iter n f) (hn : n ≤ 50000)
    (turn : ∀ i, i < n → ∃ ρ', pt.asg (wipeR (roG src ρ) (own.map (·.2))) (f i) ρ' ∧ EvD (L.gen scope Ng k) ρ' M elt (e i)) (hs : ∀ env x, genFold iter env x = pure x := by intros; rfl) :
    EvGD L ρ M (k + 1) (.GeneratorExp elt [⟨tg, iter, [], 0⟩] scope pos) ((List.range n).map e) := by
  have h := d_gexp (ifs := []) (pos := pos) own pt Ng src (fun _ => true) e hcd hS hp hj hsrc hn (fun i hi => by
    obtain ⟨ρ', h1, h2⟩ := turn i hi
    exact ⟨ρ', h1, (rfl : true = true), fun _ => h2⟩) hs
  rw [sel_all] at h
  exact h
theorem d_gunr {n : Nat} {f : Nat → D} (own : List (Str × Nat)) (pt : Pat) (Ng : List Str) (src : List (Option Nat)) {ds : List D} (hcd : L.cd = some (P, none)) (hS : gscp L.N L.sc scope Ng src = true) (hp : PatOk (L.gen scope Ng k) tg pt) (hj : ∀ j ∈ pt.js, j ∈ own.map (·.2)) (hsrc : SrcD L ρ M tg iter n f) (hl : Nat.beq ds.length n = true) (hn : Nat.ble n 50000 = true)
    (turns : Turns (L.gen scope Ng k) (roG src ρ) M pt own elt f 0 ds) (hs : ∀ env x, genFold iter env x = pure x := by intros; rfl) : EvGD L ρ M (k + 1) (.GeneratorExp elt [⟨tg, iter, [], 0⟩] scope pos) ds := by
  have hl := Nat.eq_of_beq_eq_true hl
  subst hl
  have h := d_gmap (pos := pos) own pt Ng src (fun i => ds.getD i .non) hcd hS hp hj hsrc (Nat.le_of_ble_eq_true hn) (fun i hi => by
    have := Turns.at turns i hi
    rw [Nat.zero_add] at this
    exact this) hs
  rw [map_getD] at h
  exact h
theorem ev_tupG {Q : D → Store → Prop} {E : Addr → Store → Prop} {e : Expr} {p : Pos} (B : Bu L.g) (hg : Glo L "tuple") (hr : k + 4 ≤ L.n) (h : EvG L ρ M k e fun ds M' => Q (.tup ds) M')
    (hs : ∀ env, starEach [e] env = (false, eval e env) :: starEach [] env := by intro _; rfl) : Ev L ρ M (.Call (.Name "tuple" p) [e] [] pos) Q E := fun X ci σ G H R f s kk x => by
  obtain ⟨tg, pg, rd⟩ := h X ci
  refine wp_of (pe_tupG pg (ci.room.mono hr) (ci.gl hg) (by rw [ci.mg]; exact B.tuple) (by rfl) (he := hs X.env)) ?_
  refine rd σ G H _ f s fun vs ds G' M' H' m' s' r q => ?_
  intro a na
  obtain ⟨s2, m2⟩ := s'.newG (o := .tup vs) na (fun ps z => by cases z)
  exact kk (.ref a) (.tup ds) _ _ _ (m'.trans s' m2) s2 ⟨a, vs, rfl, SqT.of upd_same, r.mono m2.g⟩ q
theorem d_tupG {vs : List D} {e : Expr} {p : Pos} (B : Bu L.g) (hg : Glo L "tuple") (hr : Nat.ble (k + 4) L.n = true) (h : EvGD L ρ M k e vs)
    (hs : ∀ env, starEach [e] env = (false, eval e env) :: starEach [] env := by intro _; rfl) : EvD L ρ M (.Call (.Name "tuple" p) [e] [] pos) (.tup vs) :=
  ev_tupG B hg (Nat.le_of_ble_eq_true hr) (fun X ci => let ⟨tg, pg, rd⟩ := h X ci; ⟨tg, pg, fun σ G H R f s kk => rd σ G H R f s fun vs ds G' M' H' m s' r ⟨e1, e2⟩ => kk vs ds G' M' H' m s' r ⟨by rw [e1], e2⟩⟩) hs
end
end DL
set_option Elab.async false
set_option linter.all false
set_option maxRecDepth 100000
set_option maxHeartbeats 4000000
/-! DM: hidden lists opened and closed; comprehensions whose elements change the store; products of any size by a small number. -/
namespace DL
open PySem L2 PyProof.Rows
theorem set_at {α : Type} {M : List α} {j : Nat} {x y : α} (h : M[j]? = some x) : (M.set j y)[j]? = some y := List.getElem?_set_self (List.getElem?_eq_some_iff.mp h).1
theorem set_id {α : Type} : ∀ {M : List α} {j : Nat} {x : α}, M[j]? = some x → M.set j x = M
  | a :: M, 0, x, h => by simp at h; simp [h]
  | a :: M, j + 1, x, h => by simp at h; simp [set_id h]
theorem map_set1 {M : Store} {j : Nat} {p : Addr} {m m' : MO} (h : M[j]? = some (p, m)) : (M.set j (p, m')).map (·.1) = M.map (·.1) := by
  rw [List.map_set]
  exact set_id (by rw [List.getElem?_map, h]; rfl)
/-- one entry told otherwise -/
theorem Sta.retell {g : Gx} {G H : Hp} {M : Store} {j : Nat} {p : Addr} {m m' : MO} (s : Sta g G H M) (hj : M[j]? = some (p, m)) (h : MOk g.K G H p m') : Sta g G H (M.set j (p, m')) := by
  refine ⟨s.ex, fun q hq => ?_, by rw [map_set1 hj]; exact s.nd, s.tabs, s.nt⟩
  obtain ⟨i, hi⟩ := List.mem_iff_getElem?.mp hq
  by_cases hij : j = i
  · subst hij
    rw [set_at hj] at hi
    cases hi
    exact ⟨(s.tie _ (List.mem_of_getElem? hj)).1, h⟩
  · rw [List.getElem?_set_ne hij] at hi
    exact s.tie q (List.mem_of_getElem? hi)
theorem Mv.retell {G H : Hp} {M : Store} {j : Nat} {p : Addr} {m m' : MO} (hj : M[j]? = some (p, m)) : Mv G M H G (M.set j (p, m')) H :=
  ⟨Same.refl _, fun _ _ h _ _ => h, fun b h => by rw [map_set1 hj] at h; exact h.imp id .inl, fun _ h => h⟩
theorem vw_hide {g : Gx} {M : Store} {j : Nat} {p : Addr} {ds : List D} {Pd : List D → Prop} (hj : M[j]? = some (p, .lst ds)) (h : Pd ds) : Vw g M (M.set j (p, .hid Pd)) :=
  ⟨fun G H s => s.retell hj (by
    obtain ⟨vs, h1, h2⟩ := (s.tie _ (List.mem_of_getElem? hj)).2
    exact ⟨ds, vs, h, h1, h2⟩), fun b hb => by rw [map_set1 hj] at hb; exact hb⟩
section
variable {L : Lx} {ρ : Ro} {M : Store} {P : Post} {ss : List Stmt} {e a b : Expr} {pos : Pos} {Q : D → Store → Prop} {E : Addr → Store → Prop}
theorem Sta.opened {g : Gx} {G H : Hp} {j : Nat} {p : Addr} {Pd : List D → Prop} (s : Sta g G H M) (hj : M[j]? = some (p, .hid Pd)) : ∃ ds, Pd ds ∧ Sta g G H (M.set j (p, .lst ds)) := by
  obtain ⟨ds, vs, h0, h1, h2⟩ := (s.tie _ (List.mem_of_getElem? hj)).2
  exact ⟨ds, h0, s.retell hj ⟨vs, h1, h2⟩⟩
theorem run_open {j : Nat} {p : Addr} {Pd : List D → Prop} (hj : M[j]? = some (p, .hid Pd)) (h : ∀ ds, Pd ds → Run L ρ (M.set j (p, .lst ds)) ss P) : Run L ρ M ss P := fun X ci σ G H Dn f s k => by
  obtain ⟨ds, h0, s1⟩ := s.opened hj
  exact h ds h0 X ci σ G H Dn f s1 (k.move s1 (.retell hj))
theorem ev_open {j : Nat} {p : Addr} {Pd : List D → Prop} (hj : M[j]? = some (p, .hid Pd)) (h : ∀ ds, Pd ds → Ev L ρ (M.set j (p, .lst ds)) e Q E) : Ev L ρ M e Q E := fun X ci σ G H R f s k x => by
  obtain ⟨ds, h0, s1⟩ := s.opened hj
  exact h ds h0 X ci σ G H R f s1 (k.move s1 (.retell hj)) (x.move s1 (.retell hj))
/-- a product, one factor small -/
theorem op_mulY {X : Cx} : OpR X (binaryOp .Mult) (rI IntMulOk fun i j => .int (i * j)) := opI fun _ _ _ _ _ _ _ hc q => mul_int q hc
theorem d_mulY {i j : Int} (h1 : EvD L ρ M a (.int i)) (h2 : EvD L ρ M b (.int j)) (h : IntMulOk i j) : EvD L ρ M (.BinOp a .Mult b pos) (.int (i * j)) := ev_op (r := fun _ => rI IntMulOk fun i j => .int (i * j)) (fun _ _ => op_mulY) (h1.go (h2.go (o2_flat (vz := .int (i * j)) (fun _ => rep_int) (fun X ci G H v u R s r1 r2 k => ⟨i, j, r1, r2, h, k⟩) ⟨rfl, rfl⟩)))
end
section
variable {L : Lx} {ρ : Ro} {M : Store} {P : Post} {e a b : Expr} {pos : Pos}
theorem ret_view {d : D} {M'' : Store} (h : EvD L ρ M e d) (w : Vw L.g M M'') (q : P.rt d M'') : Stm L ρ M (.Return (some e) pos) P := stm_ret (ev_view (h.go ⟨M'', w, q⟩))
theorem t_put {ptx : Pos} {p : Addr} {k : Int} {j : Nat} {ds : List D} {n : Nat} {d : D} (he : EvD L ρ M e d) (ho : EvD L ρ M a (.ref p)) (hi : EvD L ρ M b (.int k)) (hm : M[j]? = some (p, .lst ds)) (hn : ixN ds.length k = some n) (q : P.nx ρ (M.set j (p, .lst (ds.set n d))))
    (hs : ∀ env, swapsWithSole [.Subscript a b ptx] e pos.line env = pure false := by intro _; rfl) (hw : ∀ env, swappedStores [.Subscript a b ptx] e env = pure none := by intro _; rfl) (h1 : ∀ env, (assignEach [.Subscript a b ptx] env).map (·.2) = [assign (.Subscript a b ptx) env] := by intro _; rfl)
    (ha : ∀ env v, assign (.Subscript a b ptx) env v = (do
      let ov ← holding [v] (eval a env)
      let iv ← holding [v, ov] (eval b env)
      standAt ptx
      holding [v, ov, iv] (setItem ov iv v)
      release [v, ov, iv] []) := by intro _ _; rfl) : Stm L ρ M (.Assign [.Subscript a b ptx] e pos) P :=
  stm_put hs hw h1 ha (he.go (ho.go (hi.go ⟨p, k, j, ds, n, rfl, rfl, hm, hn, q⟩)))
end
/-! ### comprehensions whose elements change the store -/
section
variable {g : Gx} {G G' H H' : Hp} {M M' : Store} {p : Addr} {ds : List D}
theorem Sta.frameM (s : Sta g G H ((p, .lst ds) :: M)) (mv : Mv G M H G' M' H') (s' : Sta g G' H' M') : Sta g G' H' ((p, .lst ds) :: M') := by
  obtain ⟨vs, h1, h2⟩ := s.hd
  have nG : G p = none := (s.tie _ List.mem_cons_self).1
  have nM : p ∉ M.map (·.1) := (List.nodup_cons.mp s.nd).1
  have k : H' p = some (.lst vs) := mv.keep p _ h1 (fun ps z => by cases z) nM
  have no : ¬ (G' p ≠ none ∨ p ∈ M'.map (·.1)) := fun q => by
    rcases mv.new p q with z | z | z
    · exact z nG
    · exact nM z
    · rw [h1] at z; cases z
  have nG' : G' p = none := Classical.byContradiction fun z => no (.inl z)
  have nM' : p ∉ M'.map (·.1) := fun z => no (.inr z)
  refine ⟨s'.ex, fun q hq => ?_, List.nodup_cons.mpr ⟨nM', s'.nd⟩, s'.tabs, s'.nt⟩
  rcases List.mem_cons.mp hq with rfl | hq
  · exact ⟨nG', vs, k, h2.mono mv.g⟩
  · exact s'.tie q hq
theorem Mv.framedM (mv : Mv G M H G' M' H') : Mv G ((p, .lst ds) :: M) H G' ((p, .lst ds) :: M') H' :=
  ⟨mv.g, fun b o e n hb => mv.keep b o e n fun z => hb (List.mem_cons_of_mem _ z), fun b h => by
    rcases h with h | h
    · rcases mv.new b (.inl h) with z | z | z
      · exact .inl z
      · exact .inr (.inl (List.mem_cons_of_mem _ z))
      · exact .inr (.inr z)
    · rcases List.mem_cons.mp h with h | h
      · exact .inr (.inl (by rw [h]; exact List.mem_cons_self))
      · rcases mv.new b (.inr h) with z | z | z
        · exact .inl z
        · exact .inr (.inl (List.mem_cons_of_mem _ z))
        · exact .inr (.inr z), mv.dom⟩
end
section
variable {L : Lx} {ρ : Ro} {M : Store} {Q : D → Store → Prop} {E : Addr → Store → Prop} {elt tg iter : Expr} {ifs : List Expr} {scope : Scope} {own : List (Str × Nat)} {pt : Pat} {pos : Pos}
def LcM (L : Lx) (ρ : Ro) (pt : Pat) (scope : Scope) (own : List (Str × Nat)) (elt : Expr) (ifs : List Expr) (Q : D → Store → Prop) (n : Nat) (f : Nat → D) (M1 : Store) : Prop :=
  n ≤ 50000 ∧ ∃ I : Nat → List D → Store → Prop, I 0 [] M1 ∧ (∀ i, i < n → ∀ out M', I i out M' → ∃ ρ' t, pt.asg (wipeR ρ (own.map (·.2))) (f i) ρ' ∧ EvIfs (L.blk scope) ρ' M' ifs t ∧
    (t = true → out.length < 100000 ∧ Ev (L.blk scope) ρ' M' elt (fun y M'' => I (i + 1) (out ++ [y]) M'') NoE) ∧ (t = false → I (i + 1) out M')) ∧ ∀ out M', I n out M' → Q (.lst out) M'
theorem lcM_read (hj : ∀ j ∈ pt.js, j ∈ own.map (·.2)) (hsrc : Src L ρ M tg iter (LcM L ρ pt scope own elt ifs Q) E) {X : Cx} (ci : CI L X) {σ : L2.St} {G H : Hp} {R : VK} (fr : Frm L.g.K G σ ρ) (s : Sta L.g G H M) (k : KD L.g G M H Q R) (x : KX L.g X σ G M H E) :
    tLc (WpI X tg iter) (gP L.g.K pt) (fun σ H Q => ∀ s H0 C cl fp, tts (X.blk s H0 scope (compEnvC scope cl C X.env) fp) ifs σ H Q) (fun σ H Q => ∀ s H0 C cl fp, Wp (X.blk s H0 scope (compEnvC scope cl C X.env) fp) elt σ H Q) (own.map (·.2)) σ H R := by
  refine hsrc X ci σ G H _ fr s (fun J n f G1 M1 H1 m1 s1 sv ⟨hn, I, i0, turn, fin⟩ => ?_) x
  intro Dl hD
  obtain ⟨s1', m1'⟩ := s1.newM hD (Reps.nil (K := L.g.K) (H := G1))
  refine ⟨fun i m H' => m = n - i ∧ i ≤ n ∧ ∃ G' out M', Sta L.g G' H' ((Dl, .lst out) :: M') ∧ Mv G1 M1 H1 G' ((Dl, .lst out) :: M') H' ∧ I i out M', ⟨n, by simp, Nat.zero_le _, G1, [], M1, s1', m1', i0⟩, ?_⟩
  rintro i m H' ⟨rfl, hi, G', out, M', s', m', ii⟩
  by_cases hlt : i < n
  · obtain ⟨go, yl⟩ := sv.go i hlt G' H' _ m'.g s'
    refine .inr ⟨go, fun H2 => ∃ G2 out2 M2, Sta L.g G2 H2 ((Dl, .lst out2) :: M2) ∧ Mv G1 M1 H1 G2 ((Dl, .lst out2) :: M2) H2 ∧ I (i + 1) out2 M2, fun H2 q => ⟨n - (i + 1), by omega, rfl, hlt, q⟩, fun w H2 hy => ?_⟩
    obtain ⟨G2, s2, m2, r2⟩ := yl w H2 hy
    have m12 := m'.trans s' m2
    obtain ⟨ρ', t, ha, hifs, helt, hno⟩ := turn i hlt out M' ii
    have f1 : Frm L.g.K G2 (L2.wipe σ (own.map (·.2))) (wipeR ρ (own.map (·.2))) := ((fr.mono m1.g).mono m12.g).wipe _
    refine pat_read (τ := σ) ha hj r2 s2.ex f1 (wipe_wipe _ _) fun σ2 f2 hw => ⟨hw, ?_⟩
    intro ss H0 C cl fp
    have cib := ci.blk scope ss H0 C cl fp
    refine tts_of hifs cib f2 s2.drop fun G3 H3 m3 s3 => ?_
    have s3' := s2.frame m3 s3
    have m3' := Mv.framed s2 m3
    have m13 := m12.trans s2 m3'
    cases ht : t with
    | false =>
      rw [if_neg Bool.false_ne_true]
      exact ⟨G3, out, M', s3', m13, hno ht⟩
    | true =>
      rw [if_pos rfl]
      intro ss4 H04 C4 cl4 fp4
      obtain ⟨hz, helt⟩ := helt ht
      refine helt _ (ci.blk scope ss4 H04 C4 cl4 fp4) σ2 G3 H3 _ (f2.mono m3.g) s3 (fun y d G4 M4 H4 m4 s4 r4 pd => ?_) KX.none
      have s4' := s3'.frameM m4 s4
      have m4' : Mv G3 ((Dl, .lst out) :: M') H3 G4 ((Dl, .lst out) :: M4) H4 := m4.framedM
      have m14 := m13.trans s3' m4'
      obtain ⟨acc, h1, h2⟩ := s4'.hd
      obtain ⟨s5, m5⟩ := s4'.put (j := 0) rfl (h2.append (.one r4))
      refine ⟨acc, h1, ?_, G4, out ++ [d], M4, s5, m14.trans s4' m5, pd⟩
      rw [h2.length]; exact Nat.lt_of_lt_of_le hz (by decide)
  · have e : i = n := by omega
    subst e
    refine .inl ⟨sv.stop G' H' _ m'.g s', ?_⟩
    obtain ⟨G2, s2, e2, r2, n2⟩ := s'.freeze
    exact k _ _ G2 M' H' (m1.trans s1 (m'.freeze e2 n2)) s2 r2 (fin out M' ii)
theorem ev_lcM (own : List (Str × Nat)) (pt : Pat) (hp : PatOk (L.blk scope) tg pt) (hb : blkC L.N L.sc scope own = true) (hj : ∀ j ∈ pt.js, j ∈ own.map (·.2)) (hsrc : Src L ρ M tg iter (LcM L ρ pt scope own elt ifs Q) E) (hs : ∀ env x, foldedSetIterable iter env x = pure x := by intros; rfl) : Ev L ρ M (.ListComp elt [⟨tg, iter, ifs, 0⟩] scope pos) Q E := fun X ci σ G H R f s k x => by
  refine wp_of (pe_lc (X := X) (own := own) (wi := WpI X tg iter) (g := gP L.g.K pt) (tt := fun σ H Q => ∀ s H0 C cl fp, tts (X.blk s H0 scope (compEnvC scope cl C X.env) fp) ifs σ H Q) (te := fun σ H Q => ∀ s H0 C cl fp, Wp (X.blk s H0 scope (compEnvC scope cl C X.env) fp) elt σ H Q)
    ci.calm (by rw [ci.N]; exact ci.nd) pi_wp (by rw [ci.N, ci.sc]; exact blkOk_by hb) (fun s H C cl fp => hp.pg (ci.blk scope s H C cl fp)) (fun s H C cl fp => ⟨fun pins s' σ' H' Q' I h => (pts_wp (X := X.blk s H scope (compEnvC scope cl C X.env) fp) (ifs := ifs)).run pins s' σ' H' Q' I (h s H C cl fp)⟩) (fun s H C cl fp => ⟨fun pins s' σ' H' Q' I h => h s H C cl fp pins s' I⟩) (hs X.env)) ?_
  exact lcM_read hj hsrc ci f s k x
end
end DL
set_option Elab.async false
set_option linter.all false
set_option maxRecDepth 100000
set_option maxHeartbeats 4000000
/-! DN: lambdas that capture nothing; try with one except. -/
namespace DL
open PySem PySem.Spec PyProof.Rows L2
/-- no name but globals -/
structure LmS (scope : Scope) : Prop where
  kind : scope.kind = .function
  co : scope.isCoroutine = false
  gen : scope.isGenerator = false
  own : ∀ y ∈ scope.names, y.2 ≠ .local ∧ y.2 ≠ .cell ∧ y.2 ≠ .free
def lmB (scope : Scope) : Bool := decide (scope.kind = .function) && !scope.isCoroutine && !scope.isGenerator && scope.names.all fun y => !decide (y.2 = .local) && !decide (y.2 = .cell) && !decide (y.2 = .free)
theorem lmS_by {scope : Scope} (h : lmB scope = true) : LmS scope := by
  unfold lmB at h
  simp only [Bool.and_eq_true, Bool.not_eq_true', decide_eq_true_eq, decide_eq_false_iff_not, List.all_eq_true] at h
  obtain ⟨⟨⟨h1, h2⟩, h3⟩, h4⟩ := h
  exact ⟨h1, h2, h3, fun y hy => ⟨(h4 y hy).1.1, (h4 y hy).1.2, (h4 y hy).2⟩⟩
abbrev lmEnv (l : Lm) (Lc f c : Addr) : PySem.Env := PySem.W.envX l.q l.scope Lc f (.ref c) []
def lmCx (X : Cx) (A : Around) (outer : List PySem.Env) (s : Shared) (H : Hp) (E : XK) (l : Lm) (f c : Addr) : Cx where
  prog := X.prog
  w := X.w
  K := X.K
  mg := X.mg
  base := X.base
  A := A.deeper (lmEnv l s.heap.objs.size f c)
  N := []
  s_0 := s
  H_0 := H
  env := lmEnv l s.heap.objs.size f c
  outer := outer
  stack := lmEnv l s.heap.objs.size f c :: outer
  ex := []
  fn := fun _ => false
  calm := true
  pn := []
  xe := fun e s' => wpAny (model X.prog X.w) (A.deeper (lmEnv l s.heap.objs.size f c)) (leaving (lmEnv l s.heap.objs.size f c) e) (fun _ s'' => L2.CX X.prog X.w outer H s E e s'') (fun e' s'' => L2.CX X.prog X.w outer H s E e' s'') s'
section
variable {X : Cx} {pins : List (Addr × Obj)} {σ : L2.St} {H : Hp} {s s1 : Shared} {l : Lm}
theorem lm_start {A : Around} {outer : List PySem.Env} {E : XK} {f c : Addr} {h₁ : Heap} {tk : Nat} {m0 : Str → Option Value} (S : LmS l.scope) (e0 : Env0 X.prog X.w X.K X.mg X.base A outer s1 H) (hd : A.handled = none) (hns : h₁.Ns s1.heap.objs.size m0) (kp : ∀ b o, s1.heap.get? b = some o → h₁.get? b = some o) :
    Inv (lmCx X A outer s1 H E l f c) [] [] H { s1 with heap := h₁, toks := tk } := by
  have noA : ∀ b : Addr, b ∉ (lmCx X A outer s1 H E l f c).ex := fun b z => absurd (show b ∈ ([] : List Addr) from z) (by simp)
  have noC : ∀ (y : Str) (c' : Addr), (lmCx X A outer s1 H E l f c).env.cells.lookup y ≠ some c' := fun y c' e => by
    have e : ([] : List (Str × Addr)).lookup y = some c' := e
    cases e
  refine ⟨⟨e0.mod, S.kind, rfl, rfl, Nat.le_refl _, fun y z c e1 _ => absurd e1 (noC _ _), fun y hy => ?_, fun y c _ e => absurd e (noC _ _), fun _ => hd, Around.frames_deeper e0.frames, .inr ⟨rfl, rfl⟩, fun b z => absurd z (noA b), e0.bs, e0.bsz, fun b _ _ => noA b, fun b z => absurd z (noA b), e0.funs, e0.frf⟩,
    rfl, e0.bare, Un.kept kp, ⟨_, hns, fun i y v e1 _ _ => by
      have e1 : ([] : List Str)[i]? = some y := e1
      simp at e1⟩, fun y c e => absurd e (noC _ _), e0.hok.fresh (Nat.le_refl _), fun y c e => absurd e (noC _ _), fun q hq => absurd (show q ∈ ([] : List (Addr × Obj)) ++ [] from hq) (by simp), e0.hok.kept kp, rfl⟩
  have hy : l.scope.names.lookup y = some .cell ∨ l.scope.names.lookup y = some .free := hy
  rcases hy with hy | hy
  · exact absurd rfl (S.own _ (PySem.mem_of_lookup hy)).2.1
  · exact absurd rfl (S.own _ (PySem.mem_of_lookup hy)).2.2
end
/-- a lambda's own code -/
abbrev Lx.lam (L : Lx) (scope : Scope) (k : Nat) : Lx := ⟨L.g, [], scope, k, fun _ => false, none, true⟩
section
variable {L : Lx} {ρ : Ro} {M : Store} {Q : D → Store → Prop} {E : Addr → Store → Prop} {l : Lm} {x : Str} {p1 p2 pos : Pos} {k : Nat}
theorem ci_lam {X : Cx} (ci : CI L X) {A : Around} {outer : List PySem.Env} {s : Shared} {H : Hp} {EX : XK} {f c : Addr} (hr : Room k (A.deeper (lmEnv l s.heap.objs.size f c))) : CI (L.lam l.scope k) (lmCx X A outer s H EX l f c) where
  prog := ci.prog
  w := ci.w
  K := ci.K
  mg := ci.mg
  base := ci.base
  N := rfl
  sc := rfl
  nd := List.nodup_nil
  calm := rfl
  room := hr
  own := passes_of rfl
  fn := rfl
  code := CdOk.none
  top := fun _ => ⟨rfl, rfl⟩
/-- x(), x a lambda -/
theorem ev_lamcall (hv : EvD L ρ M (.Name x p1) (.lam l)) (hS : lmB l.scope = true) (hbind : ∀ (pm cv ctv : Value), bindArgs (PySem.W.kla_fn "<lambda>" l.q l.params l.body l.scope [] pm cv ctv) ⟨[], []⟩ = pure []) (hk : k + 1 ≤ L.n)
    (hb : Ev (L.lam l.scope k) [] M l.body Q E) : Ev L ρ M (.Call (.Name x p1) [] [] p2) Q E := fun X ci σ G H R fr st kk kx pins s I => by
  have S := lmS_by hS
  have hr : Room (k + 1) X.A := ci.room.mono hk
  refine wpAny_Call_Name_kw (thn (hv X ci σ G H (fun v H1 => ∃ G1, v = v ∧ Mv G M H G1 M H1 ∧ Sta L.g G1 H1 M ∧ Rep L.g.K G1 (.lam l) v) fr st (fun v d G1 M1 H1 m1 s1 r1 ⟨e1, e2⟩ => by subst e1; subst e2; exact ⟨G1, rfl, m1, s1, r1⟩) KX.none pins s I) fun u s1 ⟨v, H1, I1, r1, G1, _, m1, st1, rp⟩ => ?_)
  obtain ⟨f, c, pm, ctv, rfl, hf, hc⟩ := rp
  obtain rfl : u = Value.ref f := r1
  have of1 : s1.heap.get? f = some (lamObj l pm c ctv) := (I1.hok f _ (st1.ex _ _ hf)).1
  obtain ⟨⟨oc, vs, t, hoc, hdc, hvc⟩, _, _⟩ := I1.hok c _ (st1.ex _ _ hc)
  refine PySem.W.callWith_F0 ⟨_, _, _, _, of1⟩ ?_
  have rc : codeAny (model X.prog X.w) X.A (.call (.ref f) ⟨[], []⟩) (CR (L2.CX X.prog X.w) X.stack X.prog X.w H1 s1 R (fun cls d H' => ∃ C G' M', cls = .ref C ∧ d = none ∧ Mv G1 M H1 G' M' H' ∧ Sta L.g G' H' M' ∧ E C M')) s1 := by
    refine PySem.W.kla_callFunE hr.depth of1 rfl S.co S.gen rfl ⟨c, oc, vs, t, rfl, hoc, hdc, hvc⟩ ?_
    rw [hbind]
    refine wpAny_pure (wpAny_newFunctionEnv (fun y hy => (S.own y hy).2.1) (fun y hy => absurd hy (by simp)) (fun h₁ hns hsb => ⟨I1.nolimit.fresh _ hsb, ?_⟩) S.kind)
    show codeAny _ _ (.expr l.body (lmEnv l s1.heap.objs.size f c)) _ _
    have kp : ∀ b o, s1.heap.get? b = some o → h₁.get? b = some o := fun b o e => hsb.extBut b o (Nat.ne_of_lt (Heap.lt_size e)) (Heap.get?_push_of_some _ e)
    have J := lm_start (X := X) (l := l) (f := f) (c := c) (tk := s1.toks + ([] : List (Str × Value)).length) (E := fun cls d H' => ∃ C G' M', cls = .ref C ∧ d = none ∧ Mv G1 M H1 G' M' H' ∧ Sta L.g G' H' M' ∧ E C M') S I1.env0 hr.hd hns kp
    refine PySem.W.kla_codeExpr (wpAny_mono (hb (lmCx X X.A X.stack s1 H1 _ l f c) (ci_lam ci (hr.deeper _)) [] G1 H1 R ⟨rfl, fun i d hd => by simp at hd⟩ st1 (kk.move st1 m1) (fun C G' M' H' m' s' e => ?_) [] _ J) (fun v s' hq => ?_) fun e s' hq => hq)
    · exact Thr.of (takes_of rfl rfl rfl rfl) ⟨C, G', M', rfl, rfl, m', s', e⟩
    · obtain ⟨w', H', J', rv, q⟩ := hq
      exact ⟨w', H', J'.os, J'.bare, J'.base, J'.hok, rv, q⟩
  refine wpAny_call (codeAny_mono rc fun r s' hq => ?_)
  cases r with
  | error e => exact takesT X e s' (XE.of_call (W := WT X) I1 (fun cls d H' ⟨C, G', M', e1, e2, m', s', q⟩ => ⟨C, e1, e2, kx C G' M' H' (m1.trans st1 m') s' q⟩) hq)
  | ok fl =>
    cases fl with
    | ret u => exact I1.after hq
    | next => exact False.elim hq
    | brk => exact False.elim hq
    | cont => exact False.elim hq
end
/-! ### a lambda is made -/
/-- a new code object stands in a table -/
theorem Sta.newCode {g : Gx} {G H : Hp} {M : Store} {P c : Addr} {q : Str} {ps ps' : Array Value} (s : Sta g G H M) (hP : (P, some q) ∈ g.T) (hu : ∀ p ∈ g.T, p.1 = P → p.2 = some q) (hp : H P = some (.tbl ps)) (n : H c = none) (ht : TriplesOk ps'.toList)
    (hc : ∀ (pos : Pos) (cv : Value), codeAmong pos ps'.toList = some cv → (codeAmong pos ps.toList = some cv) ∨ cv = .ref c) :
    Sta g (upd G c (LamX.CodeO c q)) (upd (upd H P (.tbl ps')) c (LamX.CodeO c q)) M ∧ Mv G M H (upd G c (LamX.CodeO c q)) M (upd (upd H P (.tbl ps')) c (LamX.CodeO c q)) := by
  have nPc : P ≠ c := ne_of_none hp n
  have nG := s.free n
  have nM := s.notin n
  have ne : ∀ b o, H b = some o → (∀ ps, o ≠ .tbl ps) → b ≠ P := fun b o e n z => by
    rw [z, hp] at e
    exact n ps (Option.some.inj e).symm
  have kp : ∀ b o, H b = some o → (∀ ps, o ≠ .tbl ps) → upd (upd H P (.tbl ps')) c (LamX.CodeO c q) b = some o := fun b o e z => by
    rw [upd_ne (ne_of_none e n), upd_ne (ne b o e z)]; exact e
  refine ⟨⟨fun b u e => ?_, fun r hr => ?_, s.nd, fun r hr => ?_, fun a qs e => ?_⟩, ⟨same_new nG, fun b o e z _ => kp b o e z, fun b h => ?_, fun b h => ?_⟩⟩
  · by_cases hb : b = c
    · subst hb; rw [upd_same] at e ⊢; exact e
    · rw [upd_ne hb] at e
      exact kp b u (s.ex b u e) fun qs z => s.nt b qs (by rw [e, z])
  · have hne : r.1 ≠ c := fun z => nM (List.mem_map.mpr ⟨r, hr, z⟩)
    obtain ⟨a1, a2⟩ := s.tie r hr
    exact ⟨by rw [upd_ne hne]; exact a1, a2.mono (same_new nG) fun vs e => kp _ _ e fun qs z => by cases z⟩
  · by_cases hr1 : r.1 = P
    · refine ⟨ps', by rw [hr1, upd_ne nPc, upd_same], ht, fun x hx pos cv hcv => ?_⟩
      have e2 := hu r hr hr1
      rw [e2] at hx
      cases hx
      rcases hc pos cv hcv with z | z
      · obtain ⟨ps0, h1, _, h3⟩ := s.tabs _ hP
        have e3 : ps0 = ps := by
          have h1 : H P = some (.tbl ps0) := h1
          rw [hp] at h1
          cases h1; rfl
        subst e3
        obtain ⟨c0, a1, a2⟩ := h3 _ rfl pos cv z
        exact ⟨c0, a1, same_new nG _ _ a2⟩
      · exact ⟨c, z, upd_same⟩
    · refine (s.tabs r hr).mono (same_new nG) fun qs e => ?_
      rw [upd_ne (ne_of_none e n), upd_ne hr1]; exact e
  · by_cases ha : a = c
    · subst ha; rw [upd_same] at e; exact LamX.codeO_ne qs (Option.some.inj e)
    · rw [upd_ne ha] at e; exact s.nt a qs e
  · by_cases hb : b = c
    · subst hb; exact .inr (.inr n)
    · rcases h with h | h
      · rw [upd_ne hb] at h; exact .inl h
      · exact .inr (.inl h)
  · by_cases hb : b = c
    · rw [hb, upd_same]; intro z; cases z
    · rw [upd_ne hb]
      by_cases hb2 : b = P
      · rw [hb2, upd_same]; intro z; cases z
      · rw [upd_ne hb2]; exact h
section
variable {L : Lx} {ρ : Ro} {M : Store} {params : Arguments} {body : Expr} {scope : Scope} {pos : Pos} {P : Addr} {q : Str}
theorem d_lam (hcd : L.cd = some (P, some q)) (hS : lmB scope = true) (hdef : ∀ env, defaultsOf params env = ([], []) := by intro _; rfl) : EvD L ρ M (.Lambda params body scope pos) (.lam ⟨q, params, body, scope⟩) := fun X ci σ G H R fr st kk kx pins s I => by
  have S := lmS_by hS
  obtain ⟨⟨c, hcode, TB⟩, hPT, hu, hq⟩ := ci.code P (some q) hcd
  have hq := hq q rfl
  subst hq
  have TB : GxR.TabB X.base X.mg c P := by rw [ci.base, ci.mg]; exact TB
  obtain ⟨ps, hP, ht, ha⟩ := st.tabs _ hPT
  have hP : H P = some (.tbl ps) := hP
  have nofree : ∀ y ∈ scope.names, y.2 = .free → ∃ c, X.env.cells.lookup y.1 = some c := fun y hy e => absurd e (S.own y hy).2.2
  have nocl : cloFrom X.env.cells scope.names [] = [] := by
    cases hh : cloFrom X.env.cells scope.names [] with
    | nil => rfl
    | cons p r =>
      obtain ⟨n, cc⟩ := p
      rcases cloFrom_mem (cells := X.env.cells) (names := scope.names) (acc := []) (n := n) (c := cc) (by rw [hh]; exact List.mem_cons_self) with z | z
      · cases z
      · exact absurd rfl (S.own _ z.1).2.2
  refine PySem.W.kla_eval (hdef X.env) ?_
  have bP : s.heap.BuiltinsAt X.mg P := TB.bm.keeps I.bk
  have hP' : s.heap.get? P = some { cls := .none, data := .fields ps } := I.hok P _ hP
  -- the function's object, laid
  have fin : ∀ (c' : Addr) (pm ctv : Value) (G1 H1 : Hp) (h' : Heap) (tk : Tok), Mv G M H G1 M H1 → Sta L.g G1 H1 M → G1 c' = some (LamX.CodeO c' (X.env.qual ++ "<lambda>")) → Inv X pins σ H1 { s with heap := h', toks := tk } →
      EP X pins σ R (.ref h'.objs.size) { s with heap := h'.push (lamObj ⟨X.env.qual ++ "<lambda>", params, body, scope⟩ pm c' ctv), toks := tk } := by
    intro c' pm ctv G1 H1 h' tk m1 s1 hc1 I1
    have nf : H1 h'.objs.size = none := I1.hok.fresh (Nat.le_refl _)
    obtain ⟨s2, m2⟩ := s1.newG (o := ThatO h'.objs.size (lamObj ⟨X.env.qual ++ "<lambda>", params, body, scope⟩ pm c' ctv)) nf (fun qs z => by unfold ThatO at z; cases z)
    refine ⟨.ref h'.objs.size, _, I1.laid (t' := tk) (fun b u e => Heap.get?_push_of_some _ e) (Nat.le_refl _) ?_, rfl, kk _ (.lam ⟨X.env.qual ++ "<lambda>", params, body, scope⟩) _ _ _ (m1.trans s1 m2) s2 ⟨_, c', pm, ctv, rfl, upd_same, m2.g _ _ hc1⟩ ⟨rfl, rfl⟩⟩
    exact ⟨Heap.get?_push_size _ rfl, ⟨_, Heap.get?_push_size _ rfl⟩, fun h1 h2 a k => k _ a⟩
  cases hc : codeAmong pos ps.toList with
  | none =>
    refine PySem.W.kla_makeFunction (mg := X.mg) (c := c) (P := P) (ps := ps) (closure_ok nofree) I.ok.glob (I.mod.glob.keeps I.bk) hcode (TB.code.keeps I.bk) hP' ht hc TB.gP bP fun c' ctv h' tk hx hge hlt hrec htb => ?_
    obtain ⟨c2, oc, vs, t, e2, hoc, hd, hv⟩ := hrec
    cases e2
    rw [nocl]
    have nC : H c' = none := I.hok.fresh hge
    have I1 := LamX.inv_table (t' := tk) (more := #[rawInt pos.line, rawInt pos.col, .ref c']) (h' := h') I hP hx htb hge ⟨oc, vs, t, hoc, hd, hv⟩
    have eL : (ps ++ #[rawInt pos.line, rawInt pos.col, .ref c']).toList = ps.toList ++ [rawInt pos.line, rawInt pos.col, .ref c'] := by simp
    obtain ⟨s1, m1⟩ := st.newCode hPT hu hP nC (ps' := ps ++ #[rawInt pos.line, rawInt pos.col, .ref c']) (by rw [eL]; exact PySem.TriplesOk_snoc _ _ _ _ ht) (fun p' cv hcv => by rw [eL] at hcv; exact LamX.among_app _ ht hcv)
    exact fin c' _ ctv _ _ h' tk m1 s1 upd_same I1
  | some cv =>
    obtain ⟨c', e, hco⟩ := ha _ rfl pos cv hc
    subst e
    refine PySem.W.kla_makeFunctionHit (mg := X.mg) (c := c) (P := P) (ps := ps) (closure_ok nofree) I.ok.glob (I.mod.glob.keeps I.bk) hcode (TB.code.keeps I.bk) hP' ht hc bP fun ctv h' tk hx hsz => ?_
    rw [nocl]
    exact fin c' _ ctv G H h' tk (.refl ..) st hco (I.kept hx)
end
/-! ### try, one except that hands back a text -/
section
variable {L : Lx} {ρ : Ro} {M : Store} {P : Post} {x ret : Str} {CS : Addr} {body : List Stmt} {np pos pos' p5 p6 : Pos} {j : Nat}
theorem stm_tryR (ht : L.top = true) (hg : Glo L x) (hm : L.g.mg x = some (.ref CS)) (h : Run L ρ M body { P with ex := fun C M' => ∃ b, PySem.W.exmOne L.g.K (.ref C) (.ref CS) = some b ∧ (b = true → P.rt (.str ret) M') ∧ (b = false → P.ex C M') }) (hdb : (x == ("__debug__" : Str)) = false := by decide) :
    Stm L ρ M (.Try body [.ExceptHandler (some (.Name x np)) none [.Return (some (.Constant (.str ret) j p5)) p6] pos'] [] [] pos) P := fun X ci σ G H Dn f s k => by
  obtain ⟨hs, hf⟩ := ci.top ht
  refine wpS_of (ps_try_only (X := X) (c := .ref CS) (Wout := WT X) (tb := fun W D σ H => ∀ pn xe, Takes (X.tr pn xe) W → PassesOwn (model X.prog X.w) X.A X.env xe → WpSs (X.tr pn xe) body D σ H) hs hf ⟨ci.gl hg, hdb, .inl (by rw [ci.mg]; exact hm)⟩ (takesT X)
    (fun W pn xe tk po => ⟨fun pins s' σ' H' D I h => h pn xe tk po pins s' I⟩) (fun a oe cls d pn _ _ => pss_one (ps_ret pe_str))) ?_
  intro pn xe tk po
  have ci' : CI L (X.tr pn xe) := ⟨ci.prog, ci.w, ci.K, ci.mg, ci.base, ci.N, ci.sc, ci.nd, ci.calm, ci.room, po, ci.fn, ci.code, ci.top⟩
  refine h (X.tr pn xe) ci' σ G H Dn f s ⟨k.nx, k.rt, k.bk, k.ct, fun σ' C G' M' H' m' s' ⟨b, hb, h1, h2⟩ => ?_⟩
  refine Thr.of tk ⟨b, by rw [ci.K]; exact hb, fun hb' a _ => ?_, fun hb' => ⟨C, rfl, rfl, k.ex σ' C G' M' H' m' s' (h2 hb')⟩⟩
  exact k.rt (.str ret) (.str ret) G' M' H' m' s' rep_str (h1 hb')
end
/-! ### a comprehension that lets nothing pass -/
section
variable {L : Lx} {ρ : Ro} {M : Store} {elt tg iter c : Expr} {scope : Scope} {pos : Pos}
def TurnsN (L : Lx) (ρ : Ro) (M : Store) (pt : Pat) (own : List (Str × Nat)) (c : Expr) (f : Nat → D) : Nat → Nat → Prop
  | _, 0 => True
  | i, k + 1 => (∃ ρ', pt.asg (wipeR ρ (own.map (·.2))) (f i) ρ' ∧ EvTD L ρ' M c false) ∧ TurnsN L ρ M pt own c f (i + 1) k
theorem TurnsN.at {L : Lx} {pt : Pat} {own : List (Str × Nat)} {f : Nat → D} : ∀ {n : Nat} {i : Nat}, TurnsN L ρ M pt own c f i n → ∀ k, k < n → ∃ ρ', pt.asg (wipeR ρ (own.map (·.2))) (f (i + k)) ρ' ∧ EvTD L ρ' M c false
  | n + 1, i, h, 0, _ => h.1
  | n + 1, i, h, k + 1, hk => by
    have := TurnsN.at h.2 k (by omega)
    rw [show i + (k + 1) = i + 1 + k by omega]
    exact this
theorem d_noneF {n : Nat} {f : Nat → D} (own : List (Str × Nat)) (pt : Pat) (hp : PatOk (L.blk scope) tg pt) (hb : blkC L.N L.sc scope own = true) (hj : ∀ j ∈ pt.js, j ∈ own.map (·.2)) (hsrc : SrcD L ρ M tg iter n f) (hn : n ≤ 50000)
    (turn : ∀ i, i < n → ∃ ρ', pt.asg (wipeR ρ (own.map (·.2))) (f i) ρ' ∧ EvTD (L.blk scope) ρ' M c false) (hs : ∀ env x, foldedSetIterable iter env x = pure x := by intros; rfl) : EvD L ρ M (.ListComp elt [⟨tg, iter, [c], 0⟩] scope pos) (.lst []) := by
  have h := d_lc (ifs := [c]) (pos := pos) (elt := elt) own pt (fun _ => false) (fun _ => .non) hp hb hj hsrc hn (fun i hi => by
    obtain ⟨ρ', h1, h2⟩ := turn i hi
    exact ⟨ρ', h1, h2, fun z => by cases z⟩) hs
  have e : sel n (fun _ => false) = [] := by unfold sel; simp
  rw [e] at h
  exact h
theorem d_none {n : Nat} {f : Nat → D} (own : List (Str × Nat)) (pt : Pat) (hp : PatOk (L.blk scope) tg pt) (hb : blkC L.N L.sc scope own = true) (hj : ∀ j ∈ pt.js, j ∈ own.map (·.2)) (hsrc : SrcD L ρ M tg iter n f) (hn : Nat.ble n 50000 = true)
    (turns : TurnsN (L.blk scope) ρ M pt own c f 0 n) (hs : ∀ env x, foldedSetIterable iter env x = pure x := by intros; rfl) : EvD L ρ M (.ListComp elt [⟨tg, iter, [c], 0⟩] scope pos) (.lst []) :=
  d_noneF own pt hp hb hj hsrc (Nat.le_of_ble_eq_true hn) (fun i hi => by
    have := TurnsN.at turns i hi
    rw [Nat.zero_add] at this
    exact this) hs
end
end DL
set_option Elab.async false
set_option linter.all false
set_option maxRecDepth 100000
set_option maxHeartbeats 4000000
/-! LA: the law's own drawing: dice, rolls, rounds. -/
namespace LA
open PySem L2 DL

local macro_rules | `(tactic| walk_at "nz") => `(tactic| first | decide | omega)
local macro_rules | `(tactic| walk_at "dv") => `(tactic| first | exact cok_small (by decide) (by decide) (by decide) | exact ⟨by omega, .inl (by omega)⟩)
local macro_rules | `(tactic| walk_at "pw") => `(tactic| exact ⟨by decide, by decide, by decide⟩)
def top (i : Nat) : Stmt := PySem.Challenge.pw_raystack_k01_steps_in_space_and_shares.main.body.getD i (.Pass ⟨0, 0, 0, 0⟩)
def DiceOk (ds : List D) : Prop := ∃ c n m : Int, ds = [.int c, .int n, .int m]
variable {g : Gx}
def SpDice : SpD := fun ds M Q _ => ∃ c, ds = [.int c] ∧ ∀ p, Q (.ref p) ((p, .hid DiceOk) :: M)
abbrev s_law_dice : Stmt := top 29
theorem sc_law_dice : FnScope ["cell"] ["cell"] (defScope s_law_dice) := ⟨rfl, rfl, rfl, by decide +kernel, rfl, by decide +kernel, by decide +kernel⟩
theorem fn_dice (hD : Df g "_law_dice" s_law_dice ["cell"]) (B : Bu g) : Fn g "_law_dice" 1 SpDice := by
  refine df_mk hD sc_law_dice (fun ds M Q E ⟨c, h, _⟩ => by subst h; rfl) ?_
  rintro _ M Q E ⟨c, rfl, q⟩
  refine run_cons (s_if (t_ltLt (d_sub d_int d_int) (dv 0 rfl rfl rfl) d_int) (fun _ => ?_) (fun _ => run_nil ?_))
  · exact run_one (stm_ret (ev_view (ev_mut (EvAD.go (a_cons (d_abs B rfl (dv 0 rfl rfl rfl)) (a_cons d_int (a_cons d_int a_nil))) ⟨Nat.le_of_ble_eq_true rfl, fun p => ⟨_, vw_hide (j := 0) rfl ⟨_, _, _, rfl⟩, q p⟩⟩))))
  · exact run_one (stm_ret (ev_view (ev_mut (EvAD.go (a_cons (dv 0 rfl rfl rfl) (a_cons (d_add d_int (d_mod (d_intI B rfl (dv 0 rfl rfl rfl)) d_int (by walk_at "nz"))) (a_cons (d_intB B rfl (d_ge (dv 0 rfl rfl rfl) (d_pow d_int d_int (by walk_at "pw")))) a_nil))) ⟨Nat.le_of_ble_eq_true rfl, fun p => ⟨_, vw_hide (j := 0) rfl ⟨_, _, _, rfl⟩, q p⟩⟩))))
def SpRoll : SpD := fun ds M Q _ => ∃ (p : Addr) (many : Int) (j : Nat), ds = [.ref p, .int many] ∧ M[j]? = some (p, .hid DiceOk) ∧ 0 < many ∧ many ≤ 100000000 ∧ ∀ r : Int, 0 ≤ r → r < many → Q (.int r) M
abbrev s_law_roll : Stmt := top 30
theorem sc_law_roll : FnScope ["dice", "many", "found"] ["dice", "many"] (defScope s_law_roll) := ⟨rfl, rfl, rfl, by decide +kernel, rfl, by decide +kernel, by decide +kernel⟩
theorem fn_roll (hD : Df g "_law_roll" s_law_roll ["dice", "many"]) (B : Bu g) : Fn g "_law_roll" 1 SpRoll := by
  refine df_mk hD sc_law_roll (fun ds M Q E ⟨p, c, j, h, _⟩ => by subst h; rfl) ?_
  rintro _ M Q E ⟨p, many, j, rfl, hj, h1, h2, q⟩
  refine run_open hj ?_
  rintro _ ⟨c, n, m, rfl⟩
  have hM : (M.set j (p, .lst [.int c, .int n, .int m]))[j]? = some (p, .lst [.int c, .int n, .int m]) := set_at hj
  have res : ∀ x : Int, 0 ≤ x.fmod many ∧ x.fmod many < many := fun x => ⟨Int.fmod_nonneg_of_pos x h1, Int.fmod_lt_of_pos x h1⟩
  refine run_cons (s_if (t_w (w_or (t_eqI (d_ixM (dv 0 rfl rfl rfl) d_int hM rfl) d_int) (fun _ => (w_or1 (t_w (w_and (t_eqI (d_ixM (dv 0 rfl rfl rfl) d_int hM rfl) d_int) (fun _ => (w_and1 (t_gt (d_ixM (dv 0 rfl rfl rfl) d_int hM rfl) d_int))))))))) (fun _ => ?_) (fun _ => run_nil ?_))
  · refine run_cons (t_set (i := 2) (d_mod (d_intI B rfl (d_ixM (dv 0 rfl rfl rfl) d_int hM rfl)) (dv 1 rfl rfl rfl) (by walk_at "nz")) ?_ (nk rfl rfl))
    refine run_cons (t_put (d_div (d_ixM (dv 0 rfl rfl rfl) d_int hM rfl) (dv 1 rfl rfl rfl) (by walk_at "dv")) (dv 0 rfl rfl rfl) d_int hM rfl ?_)
    refine run_one (ret_view (dv 2 rfl rfl rfl) (vw_hide (Pd := DiceOk) (set_at hM) ⟨_, _, _, rfl⟩) ?_)
    rw [List.set_set, List.set_set, set_id hj]
    exact q _ (res c).1 (res c).2
  · refine run_cons (t_put d_int (dv 0 rfl rfl rfl) d_int hM rfl ?_)
    have hM := set_at (y := (p, MO.lst ([.int c, .int n, .int 0]))) hM
    refine run_cons (s_skip (EvTD.is (t_gt (dv 1 rfl rfl rfl) d_int) (decide_eq_false (by omega))) ?_)
    refine run_cons (t_put (d_mod (d_intI B rfl (d_add (d_add (d_mulY (d_ixM (dv 0 rfl rfl rfl) d_int hM rfl) d_int (.of_right (by decide +kernel))) (d_mulY (d_ixM (dv 0 rfl rfl rfl) d_int hM rfl) d_int (.of_right (by decide +kernel)))) d_int)) d_int (by walk_at "nz")) (dv 0 rfl rfl rfl) d_int hM rfl ?_)
    have hM := set_at (y := (p, MO.lst ([.int ((c * 48271 + n * 69621 + 11).fmod 2147483647), .int n, .int 0]))) hM
    refine run_cons (t_put (d_add (d_ixM (dv 0 rfl rfl rfl) d_int hM rfl) d_int) (dv 0 rfl rfl rfl) d_int hM rfl ?_)
    have hM := set_at (y := (p, MO.lst ([.int ((c * 48271 + n * 69621 + 11).fmod 2147483647), .int (n + 1), .int 0]))) hM
    refine run_one (ret_view (d_mod (d_intI B rfl (d_div (d_ixM (dv 0 rfl rfl rfl) d_int hM rfl) d_int (by walk_at "dv"))) (dv 1 rfl rfl rfl) (by walk_at "nz")) (vw_hide (Pd := DiceOk) hM ⟨_, _, _, rfl⟩) ?_)
    rw [List.set_set, List.set_set, List.set_set, List.set_set, set_id hj]
    exact q _ (res _).1 (res _).2
/-- a roll -/
theorem ev_roll {L : Lx} {ρ : Ro} {M : Store} {Q : D → Store → Prop} {E : Addr → Store → Prop} {a b : Expr} {p1 p2 : Pos} {p : Addr} {many : Int} {j k : Nat} (F : Fn L.g "_law_roll" k SpRoll) (hk : Nat.ble k L.n = true) (hg : L.sc.names.lookup ("_law_roll" : Str) = some .globalImplicit) (hd : EvD L ρ M a (.ref p)) (hm : EvD L ρ M b (.int many)) (hj : M[j]? = some (p, .hid DiceOk)) (h1 : 0 < many) (h2 : many ≤ 100000000)
    (q : ∀ r : Int, 0 ≤ r → r < many → Q (.int r) M) (hs : ∀ env, starEach [a, b] env = (false, eval a env) :: starEach [b] env := by intro _; rfl) (hs2 : ∀ env, starEach [b] env = (false, eval b env) :: starEach [] env := by intro _; rfl) (hpl : ∀ env, (backTo p2 (starEach [b] env)).any (·.1) = false := by intro _; rfl) :
    Ev L ρ M (.Call (.Name "_law_roll" p1) [a, b] [] p2) Q E :=
  ev_call F (Nat.le_of_ble_eq_true hk) hg hs hpl (EvAD.go (a_cons' hd (a_cons' hm a_nil hs2) hs) ⟨p, many, j, rfl, hj, h1, h2, q⟩) (by decide)
theorem cut1 (ds : List D) : cutD ds none (some 1) = ds.take 1 := by
  cases ds with
  | nil => rfl
  | cons d ds => 
    unfold cutD HT.sIx
    simp
def SpRounds : SpD := fun ds M Q _ => ∃ ns : List Int, ds = [.seq (ns.map D.int), .int 1] ∧ ∀ p, Q (.lst [.ref p]) ((p, .hid DiceOk) :: M)
abbrev s_law_rounds : Stmt := top 31
theorem sc_law_rounds : FnScope ["script", "most", "cells", "cell"] ["script", "most"] (defScope s_law_rounds) := ⟨rfl, rfl, rfl, by decide +kernel, rfl, by decide +kernel, by decide +kernel⟩
theorem fn_rounds (hD : Df g "_law_rounds" s_law_rounds ["script", "most"]) (F : Fn g "_law_dice" 1 SpDice) : Fn g "_law_rounds" 2 SpRounds := by
  refine df_mk hD sc_law_rounds (fun ds M Q E ⟨ns, h, _⟩ => by subst h; rfl) ?_
  rintro _ M Q E ⟨ns, rfl, q⟩
  have cells : ∃ es, cutD (ns.map D.int) none (some 1) = es ∧ (es = [] ∨ ∃ x, es = [.int x]) := by
    refine ⟨_, rfl, ?_⟩
    rw [cut1]
    cases ns with
    | nil => exact .inl rfl
    | cons x ns => exact .inr ⟨x, rfl⟩
  obtain ⟨es, he, hes⟩ := cells
  refine run_cons (t_set (i := 2) (d := .lst es) (EvD.is (d_cutS (l := none) (u := some 1) (dv 0 rfl rfl rfl) (show EvO _ _ _ none none from True.intro) (show EvD _ _ _ _ _ from (dv 1 rfl rfl rfl))) (by rw [he])) ?_ (nk rfl rfl))
  have tail : ∀ x : Int, Run ⟨g, ["script", "most", "cells", "cell"], defScope s_law_rounds, 1, fun _ => true, none, true⟩ [some (.seq (ns.map D.int)), some (.int 1), some (.lst [.int x]), none] M ((defBody s_law_rounds).drop 2) { nx := fun _ M' => Q .non M', rt := Q, ex := E } := fun x => by
    refine run_one (stm_ret (ev_lcM [("cell", 3)] (.nm 3) (nk rfl rfl) rfl (by decide) ((s_list (dv 2 rfl rfl rfl)).go ⟨Nat.le_of_ble_eq_true rfl, fun i out M' => (i = 0 ∧ out = [] ∧ M' = M) ∨ (i = 1 ∧ ∃ p, out = [.ref p] ∧ M' = (p, .hid DiceOk) :: M), .inl ⟨rfl, rfl, rfl⟩, ?_, ?_⟩)))
    · rintro i hi out M' (⟨rfl, rfl, rfl⟩ | ⟨rfl, _⟩)
      · exact ⟨_, true, rfl, (rfl : true = true), fun _ => ⟨by decide, ev_call F (Nat.le_of_ble_eq_true rfl) rfl (by intro _; rfl) (by intro _; rfl) (EvAD.go (a_cons (dv 3 rfl rfl rfl) a_nil) ⟨x, rfl, fun p => .inr ⟨rfl, p, rfl, rfl⟩⟩)⟩, fun z => by cases z⟩
      · exact absurd (show 1 < 1 from hi) (by decide)
    · rintro out M' (⟨z, _⟩ | ⟨_, p, rfl, rfl⟩)
      · exact absurd (show 1 = 0 from z) (by decide)
      · exact q p
  rcases hes with rfl | ⟨x, rfl⟩
  · exact run_cons (s_if (t_eq (dv 2 rfl rfl rfl) (dl (a_nil) rfl) rfl rfl) (fun _ => run_one (t_set (i := 2) (dl (a_cons d_int a_nil) rfl) (tail 0) (nk rfl rfl))) (fun z => by cases z))
  · exact run_cons (s_if (t_eq (dv 2 rfl rfl rfl) (dl (a_nil) rfl) rfl rfl) (fun z => by cases z) (fun _ => run_nil (tail x)))
/-! ### gcd by levels -/
inductive Steps : Nat → Int → Int → Prop
  | z {n : Nat} {a : Int} : Steps n a 0
  | s {n : Nat} {a b : Int} (h : b ≠ 0) (h2 : Steps n b (a.fmod b)) : Steps (n + 1) a b
theorem gc_zero (a : Int) : gc a 0 = if a < 0 then -a else a := by
  unfold gc
  rw [Int.gcd_zero_right]
  split <;> omega
theorem gc_step (a b : Int) : gc a b = gc b (a.fmod b) := by
  unfold gc
  congr 1
  have e : a.fmod b = a - b * a.fdiv b := Int.fmod_def a b
  refine Nat.dvd_antisymm ?_ ?_
  · refine Int.dvd_gcd (Int.gcd_dvd_right ..) ?_
    rw [e]
    exact Int.dvd_sub (Int.gcd_dvd_left ..) (Int.dvd_mul_of_dvd_left (Int.gcd_dvd_right ..))
  · refine Int.dvd_gcd ?_ (Int.gcd_dvd_left ..)
    have e2 : a = a.fmod b + b * a.fdiv b := by omega
    rw [e2]
    have := Int.dvd_add (Int.gcd_dvd_right b (a.fmod b)) (Int.dvd_mul_of_dvd_left (c := a.fdiv b) (Int.gcd_dvd_left b (a.fmod b)))
    rw [← e2]
    rw [← e2] at this
    exact this
theorem steps_of : ∀ {m : Nat} {a b : Int}, 0 ≤ b → b < 2 ^ m → Steps (2 * m) a b
  | 0, a, b, h0, h => by
    have : b = 0 := by
      have : (2 : Int) ^ 0 = 1 := rfl
      omega
    subst this; exact .z
  | m + 1, a, b, h0, h => by
    by_cases hb : b = 0
    · subst hb; exact .z
    have r0 := Int.fmod_nonneg_of_pos a (show 0 < b by omega)
    have r1 := Int.fmod_lt_of_pos a (show 0 < b by omega)
    show Steps (2 * m + 1 + 1) a b
    refine .s hb ?_
    by_cases hr : a.fmod b = 0
    · rw [hr]; exact .z
    refine .s hr ?_
    have s0 := Int.fmod_nonneg_of_pos b (show 0 < a.fmod b by omega)
    have s1 := Int.fmod_lt_of_pos b (show 0 < a.fmod b by omega)
    refine steps_of s0 ?_
    have e : b.fmod (a.fmod b) = b - a.fmod b * b.fdiv (a.fmod b) := Int.fmod_def _ _
    have q1 : 1 ≤ b.fdiv (a.fmod b) := by
      rw [Int.fdiv_eq_ediv_of_nonneg _ (by omega)]
      rw [Int.le_ediv_iff_mul_le (by omega)]
      omega
    have q2 : a.fmod b * 1 ≤ a.fmod b * b.fdiv (a.fmod b) := Int.mul_le_mul_of_nonneg_left q1 (by omega)
    have e2 : (2 : Int) ^ (m + 1) = 2 ^ m * 2 := Int.pow_succ _ _
    omega
inductive RGcd (n : Nat) : List D → D → Prop
  | mk {a b : Int} (h : Steps n a b) : RGcd n [.int a, .int b] (.int (gc a b))
structure FG (g : Gx) (n : Nat) : Prop where
  gcd : Fn g "_law_gcd" (n + 1) (PureSp (RGcd n))
local macro_rules | `(tactic| walk_at "gc") => `(tactic| assumption)
abbrev s_law_gcd : Stmt := top 33
theorem sc_law_gcd : FnScope ["one", "other"] ["one", "other"] (defScope s_law_gcd) := ⟨rfl, rfl, rfl, by decide +kernel, rfl, by decide +kernel, by decide +kernel⟩
theorem fn_gcd (hD : Df g "_law_gcd" s_law_gcd ["one", "other"]) (B : Bu g) : ∀ n, Fn g "_law_gcd" (n + 1) (PureSp (RGcd n))
  | 0 => by
    refine df_pure hD sc_law_gcd (fun ds v h => by cases h; rfl) ?_
    rintro _ _ ⟨h⟩ M Q E q
    cases h
    rw [gc_zero] at q
    exact run_one (s_ret (d_if (t_eqI (dv 1 rfl rfl rfl) d_int) (fun _ => (d_abs B rfl (dv 0 rfl rfl rfl))) (fun z => by cases z)) q)
  | n + 1 => by
    refine df_pure hD sc_law_gcd (fun ds v h => by cases h; rfl) ?_
    rintro _ _ ⟨h⟩ M Q E q
    cases h with
    | z =>
      rw [gc_zero] at q
      exact run_one (s_ret (d_if (t_eqI (dv 1 rfl rfl rfl) d_int) (fun _ => (d_abs B rfl (dv 0 rfl rfl rfl))) (fun z => by cases z)) q)
    | s hb h2 =>
      have F : FG g n := ⟨fn_gcd hD B n⟩
      rw [gc_step] at q
      exact run_one (s_ret (d_if (EvTD.is (t_eqI (dv 1 rfl rfl rfl) d_int) (decide_eq_false hb)) (fun z => by cases z) (fun _ => d_callP F.gcd (Nat.ble_eq_true_of_le (Nat.le_refl _)) rfl (a_cons (dv 1 rfl rfl rfl) (a_cons (d_mod (dv 0 rfl rfl rfl) (dv 1 rfl rfl rfl) (by walk_at "nz")) a_nil)) (.mk h2))) q)
def sn (a u : Int) : Int := a.fdiv (gc a u)
def sd (a u : Int) : Int := u.fdiv (gc a u)
abbrev sh (a u : Int) : D := .tup [.int (sn a u), .int (sd a u)]
theorem gc_nn (a b : Int) : 0 ≤ gc a b := by unfold gc; omega
theorem gc_pos {a b : Int} (h : b ≠ 0) : 0 < gc a b := by
  unfold gc
  have : 0 < Int.gcd a b := Int.gcd_pos_of_ne_zero_right a h
  omega
theorem gc_dvd_r (a b : Int) : gc a b ∣ b := Int.gcd_dvd_right ..
theorem gc_dvd_l (a b : Int) : gc a b ∣ a := Int.gcd_dvd_left ..
theorem gc_le {a b : Int} (h : 0 < b) : gc a b ≤ b := Int.le_of_dvd h (gc_dvd_r a b)
theorem small_bits {i : Int} (h0 : -1073741824 ≤ i) (h : i ≤ 1073741824) : Builtin.Int.intBits i ≤ 64 := PyProof.Rows.intBits_le (k := 64) (by omega)
/-! ### shares -/
/-- 0 < u < 2 ^ 30 -/
def Und (u : Int) : Prop := 0 < u ∧ u < 2 ^ 30
structure FL (g : Gx) : Prop extends FG g 60 where
local macro_rules | `(tactic| walk_at "gc") => `(tactic| exact steps_of (m := 30) (by omega) (by assumption))
inductive RShare : List D → D → Prop
  | mk {a u : Int} (h : Und u) : RShare [.int a, .int u] (sh a u)
abbrev s_law_plain_share : Stmt := top 34
theorem sc_law_plain_share : FnScope ["one", "under", "by"] ["one", "under"] (defScope s_law_plain_share) := ⟨rfl, rfl, rfl, by decide +kernel, rfl, by decide +kernel, by decide +kernel⟩
theorem fn_share (hD : Df g "_law_plain_share" s_law_plain_share ["one", "under"]) (F : FG g 60) : Fn g "_law_plain_share" 62 (PureSp RShare) := by
  refine df_pure hD sc_law_plain_share (fun ds v h => by cases h; rfl) ?_
  rintro _ _ ⟨h0, h⟩ M Q E q
  rename_i a u
  have hg := gc_pos (a := a) (show u ≠ 0 by omega)
  have hg2 := gc_le (a := a) h0
  have hp : (2 : Int) ^ 30 = 1073741824 := by decide
  have ck : COk (gc a u) := ⟨by omega, .inl (by omega)⟩
  refine run_cons (t_set (i := 2) (d := .int (gc a u)) (EvD.is (d_mulY (d_callP F.gcd rfl rfl (a_cons (dv 0 rfl rfl rfl) (a_cons (dv 1 rfl rfl rfl) a_nil)) (.mk (by walk_at "gc"))) (d_if (v := .int 1) (t_gt (dv 1 rfl rfl rfl) d_int) (fun _ => d_int) (fun z => absurd h0 (of_decide_eq_false z))) (.of_right (by decide +kernel))) (by rw [Int.mul_one])) ?_ (nk rfl rfl))
  exact run_one (s_ret (dt (a_cons (d_div (dv 0 rfl rfl rfl) (dv 2 rfl rfl rfl) ck) (a_cons (d_div (dv 1 rfl rfl rfl) (dv 2 rfl rfl rfl) ck) a_nil)) rfl) q)
structure FS (g : Gx) : Prop extends FG g 60 where
  share : Fn g "_law_plain_share" 62 (PureSp RShare)
inductive RAdd : List D → D → Prop
  | mk {a b c d : Int} (hb : 0 < b) (hd : 0 < d) (h : b * d < 2 ^ 30) : RAdd [.tup [.int a, .int b], .tup [.int c, .int d]] (sh (a * d + c * b) (b * d))
theorem fact_le {b d : Int} (hb : 0 < b) (hd : 0 < d) (h : b * d < 2 ^ 30) : b < 2 ^ 30 ∧ d < 2 ^ 30 := by
  have h1 : b * 1 ≤ b * d := Int.mul_le_mul_of_nonneg_left (by omega) (by omega)
  have h2 : 1 * d ≤ b * d := Int.mul_le_mul_of_nonneg_right (by omega) (by omega)
  omega
theorem mul_small {a b : Int} (h0 : 0 < b) (h : b < 2 ^ 30) : IntMulOk a b := by
  have e : (2 : Int) ^ 30 = 1073741824 := by decide
  exact .of_right (small_bits (by omega) (by omega))
abbrev s_law_add : Stmt := top 35
theorem sc_law_add : FnScope ["one", "other"] ["one", "other"] (defScope s_law_add) := ⟨rfl, rfl, rfl, by decide +kernel, rfl, by decide +kernel, by decide +kernel⟩
theorem fn_add (hD : Df g "_law_add" s_law_add ["one", "other"]) (F : FS g) : Fn g "_law_add" 63 (PureSp RAdd) := by
  refine df_pure hD sc_law_add (fun ds v h => by cases h; rfl) ?_
  rintro _ _ ⟨hb, hd, h⟩ M Q E q
  obtain ⟨b1, d1⟩ := fact_le hb hd h
  exact run_one (s_ret (d_callP F.share rfl rfl (a_cons (d_add (d_mulY (d_ixT (dv 0 rfl rfl rfl) d_int rfl) (d_ixT (dv 1 rfl rfl rfl) d_int rfl) (mul_small hd d1)) (d_mulY (d_ixT (dv 1 rfl rfl rfl) d_int rfl) (d_ixT (dv 0 rfl rfl rfl) d_int rfl) (mul_small hb b1))) (a_cons (d_mulY (d_ixT (dv 0 rfl rfl rfl) d_int rfl) (d_ixT (dv 1 rfl rfl rfl) d_int rfl) (mul_small hd d1)) a_nil)) (.mk ⟨Int.mul_pos hb hd, h⟩)) q)
inductive RMul : List D → D → Prop
  | mk {a b c d : Int} (ha : Bd 400 a) (hc : Bd 400 c) (hb : 0 < b) (hd : 0 < d) (h : b * d < 2 ^ 30) : RMul [.tup [.int a, .int b], .tup [.int c, .int d]] (sh (a * c) (b * d))
abbrev s_law_mul : Stmt := top 36
theorem sc_law_mul : FnScope ["one", "other"] ["one", "other"] (defScope s_law_mul) := ⟨rfl, rfl, rfl, by decide +kernel, rfl, by decide +kernel, by decide +kernel⟩
theorem fn_mul (hD : Df g "_law_mul" s_law_mul ["one", "other"]) (F : FS g) : Fn g "_law_mul" 63 (PureSp RMul) := by
  refine df_pure hD sc_law_mul (fun ds v h => by cases h; rfl) ?_
  rintro _ _ ⟨ha, hc, hb, hd, h⟩ M Q E q
  obtain ⟨b1, d1⟩ := fact_le hb hd h
  exact run_one (s_ret (d_callP F.share rfl rfl (a_cons (d_mul (d_ixT (dv 0 rfl rfl rfl) d_int rfl) (d_ixT (dv 1 rfl rfl rfl) d_int rfl) (mulw ha hc rfl)) (a_cons (d_mulY (d_ixT (dv 0 rfl rfl rfl) d_int rfl) (d_ixT (dv 1 rfl rfl rfl) d_int rfl) (mul_small hd d1)) a_nil)) (.mk ⟨Int.mul_pos hb hd, h⟩)) q)
local macro_rules | `(tactic| walk_at "bd") => `(tactic| first
  | assumption
  | exact bd_lit (n := 10) _ rfl
  | exact bd_add (by walk_at "bd") (by walk_at "bd")
  | exact bd_sub (by walk_at "bd") (by walk_at "bd")
  | exact bd_mul (by walk_at "bd") (by walk_at "bd")
  | exact bd_neg (by walk_at "bd"))
local macro_rules | `(tactic| walk_at "mw") => `(tactic| exact mulw (by walk_at "bd") (by walk_at "bd") (by rfl))
local macro_rules | `(tactic| walk_at "bt") => `(tactic| exact bd_to (by walk_at "bd") (by rfl))
local macro_rules | `(tactic| walk_at "w3") => `(tactic| exact ⟨by walk_at "bt", by walk_at "bt", by walk_at "bt"⟩)
local macro_rules | `(tactic| walk_at "pos") => `(tactic| first | assumption | decide | omega)

inductive RLess : List D → D → Prop
  | mk {a b c d : Int} (h1 : Bd 1000 a) (h2 : Bd 1000 b) (h3 : Bd 1000 c) (h4 : Bd 1000 d) : RLess [.tup [.int a, .int b], .tup [.int c, .int d]] (.bl (decide (a * d < c * b)))
abbrev s_law_less : Stmt := top 37
theorem sc_law_less : FnScope ["one", "other"] ["one", "other"] (defScope s_law_less) := ⟨rfl, rfl, rfl, by decide +kernel, rfl, by decide +kernel, by decide +kernel⟩
theorem fn_less (hD : Df g "_law_less" s_law_less ["one", "other"]) : Fn g "_law_less" 1 (PureSp RLess) := by
  refine df_pure hD sc_law_less (fun ds v h => by cases h; rfl) ?_
  rintro _ _ ⟨h1, h2, h3, h4⟩ M Q E q
  exact run_one (s_ret (d_lt (d_mul (d_ixT (dv 0 rfl rfl rfl) d_int rfl) (d_ixT (dv 1 rfl rfl rfl) d_int rfl) (by walk_at "mw")) (d_mul (d_ixT (dv 1 rfl rfl rfl) d_int rfl) (d_ixT (dv 0 rfl rfl rfl) d_int rfl) (by walk_at "mw"))) q)
abbrev w3 (a b c : Int) : D := .tup [.int a, .int b, .int c]
inductive RDot : List D → D → Prop
  | mk {a b c d e f : Int} (h : Bd 1000 a ∧ Bd 1000 b ∧ Bd 1000 c) (h' : Bd 1000 d ∧ Bd 1000 e ∧ Bd 1000 f) : RDot [w3 a b c, w3 d e f] (.int (a * d + b * e + c * f))
abbrev s_law_dot : Stmt := top 38
theorem sc_law_dot : FnScope ["one", "other", "k"] ["one", "other"] (defScope s_law_dot) := ⟨rfl, rfl, rfl, by decide +kernel, rfl, by decide +kernel, by decide +kernel⟩
theorem fn_dot (hD : Df g "_law_dot" s_law_dot ["one", "other"]) (B : Bu g) : Fn g "_law_dot" 1 (PureSp RDot) := by
  refine df_pure hD sc_law_dot (fun ds v h => by cases h; rfl) ?_
  rintro _ _ ⟨⟨h1, h2, h3⟩, ⟨h4, h5, h6⟩⟩ M Q E q
  rename_i a b c d e f
  refine run_one (s_ret (EvD.is (d_sum (ns := [a * d, b * e, c * f]) B rfl (d_unr [("k", 2)] (.nm 2) (ds := [_, _, _]) (nk rfl rfl) rfl (by decide) (s_range1 B rfl d_int ⟨by decide, by decide⟩) rfl rfl ⟨⟨_, rfl, (d_mul (d_ixT (dv 0 rfl rfl rfl) (dv 2 rfl rfl rfl) rfl) (d_ixT (dv 1 rfl rfl rfl) (dv 2 rfl rfl rfl) rfl) (by walk_at "mw"))⟩, ⟨_, rfl, (d_mul (d_ixT (dv 0 rfl rfl rfl) (dv 2 rfl rfl rfl) rfl) (d_ixT (dv 1 rfl rfl rfl) (dv 2 rfl rfl rfl) rfl) (by walk_at "mw"))⟩, ⟨_, rfl, (d_mul (d_ixT (dv 0 rfl rfl rfl) (dv 2 rfl rfl rfl) rfl) (d_ixT (dv 1 rfl rfl rfl) (dv 2 rfl rfl rfl) rfl) (by walk_at "mw"))⟩, trivial⟩) rfl) ?_) q)
  simp only [List.sum_cons, List.sum_nil]
  congr 1; omega
inductive RCross : List D → D → Prop
  | mk {a b c d e f : Int} (h : Bd 1000 a ∧ Bd 1000 b ∧ Bd 1000 c) (h' : Bd 1000 d ∧ Bd 1000 e ∧ Bd 1000 f) : RCross [w3 a b c, w3 d e f] (w3 (b * f - c * e) (c * d - a * f) (a * e - b * d))
abbrev s_law_cross : Stmt := top 39
theorem sc_law_cross : FnScope ["one", "other", "k"] ["one", "other"] (defScope s_law_cross) := ⟨rfl, rfl, rfl, by decide +kernel, rfl, by decide +kernel, by decide +kernel⟩
theorem fn_cross (hD : Df g "_law_cross" s_law_cross ["one", "other"]) (B : Bu g) : Fn g "_law_cross" 1 (PureSp RCross) := by
  refine df_pure hD sc_law_cross (fun ds v h => by cases h; rfl) ?_
  rintro _ _ ⟨⟨h1, h2, h3⟩, ⟨h4, h5, h6⟩⟩ M Q E q
  exact run_one (s_ret (d_tuple B rfl (d_unr [("k", 2)] (.nm 2) (ds := [_, _, _]) (nk rfl rfl) rfl (by decide) (s_range1 B rfl d_int ⟨by decide, by decide⟩) rfl rfl ⟨⟨_, rfl, (d_sub (d_mul (d_ixT (dv 0 rfl rfl rfl) (d_sub (dv 2 rfl rfl rfl) d_int) rfl) (d_ixT (dv 1 rfl rfl rfl) (d_sub (dv 2 rfl rfl rfl) d_int) rfl) (by walk_at "mw")) (d_mul (d_ixT (dv 0 rfl rfl rfl) (d_sub (dv 2 rfl rfl rfl) d_int) rfl) (d_ixT (dv 1 rfl rfl rfl) (d_sub (dv 2 rfl rfl rfl) d_int) rfl) (by walk_at "mw")))⟩, ⟨_, rfl, (d_sub (d_mul (d_ixT (dv 0 rfl rfl rfl) (d_sub (dv 2 rfl rfl rfl) d_int) rfl) (d_ixT (dv 1 rfl rfl rfl) (d_sub (dv 2 rfl rfl rfl) d_int) rfl) (by walk_at "mw")) (d_mul (d_ixT (dv 0 rfl rfl rfl) (d_sub (dv 2 rfl rfl rfl) d_int) rfl) (d_ixT (dv 1 rfl rfl rfl) (d_sub (dv 2 rfl rfl rfl) d_int) rfl) (by walk_at "mw")))⟩, ⟨_, rfl, (d_sub (d_mul (d_ixT (dv 0 rfl rfl rfl) (d_sub (dv 2 rfl rfl rfl) d_int) rfl) (d_ixT (dv 1 rfl rfl rfl) (d_sub (dv 2 rfl rfl rfl) d_int) rfl) (by walk_at "mw")) (d_mul (d_ixT (dv 0 rfl rfl rfl) (d_sub (dv 2 rfl rfl rfl) d_int) rfl) (d_ixT (dv 1 rfl rfl rfl) (d_sub (dv 2 rfl rfl rfl) d_int) rfl) (by walk_at "mw")))⟩, trivial⟩) (.inr (.inl rfl))) q)
inductive RFrom : List D → D → Prop
  | mk {a b c d e f : Int} : RFrom [w3 a b c, w3 d e f] (w3 (a - d) (b - e) (c - f))
abbrev s_law_from : Stmt := top 40
theorem sc_law_from : FnScope ["one", "other", "k"] ["one", "other"] (defScope s_law_from) := ⟨rfl, rfl, rfl, by decide +kernel, rfl, by decide +kernel, by decide +kernel⟩
theorem fn_from (hD : Df g "_law_from" s_law_from ["one", "other"]) (B : Bu g) : Fn g "_law_from" 1 (PureSp RFrom) := by
  refine df_pure hD sc_law_from (fun ds v h => by cases h; rfl) ?_
  rintro _ _ ⟨⟩ M Q E q
  exact run_one (s_ret (d_tuple B rfl (d_unr [("k", 2)] (.nm 2) (ds := [_, _, _]) (nk rfl rfl) rfl (by decide) (s_range1 B rfl d_int ⟨by decide, by decide⟩) rfl rfl ⟨⟨_, rfl, (d_sub (d_ixT (dv 0 rfl rfl rfl) (dv 2 rfl rfl rfl) rfl) (d_ixT (dv 1 rfl rfl rfl) (dv 2 rfl rfl rfl) rfl))⟩, ⟨_, rfl, (d_sub (d_ixT (dv 0 rfl rfl rfl) (dv 2 rfl rfl rfl) rfl) (d_ixT (dv 1 rfl rfl rfl) (dv 2 rfl rfl rfl) rfl))⟩, ⟨_, rfl, (d_sub (d_ixT (dv 0 rfl rfl rfl) (dv 2 rfl rfl rfl) rfl) (d_ixT (dv 1 rfl rfl rfl) (dv 2 rfl rfl rfl) rfl))⟩, trivial⟩) (.inr (.inl rfl))) q)
def SpWay : SpD := fun ds M Q _ => ∃ (p : Addr) (size : Int) (j : Nat), ds = [.ref p, .int size] ∧ M[j]? = some (p, .hid DiceOk) ∧ 0 ≤ size ∧ size ≤ 10000000 ∧ ∀ a b c : Int, (-size ≤ a ∧ a ≤ size) → (-size ≤ b ∧ b ≤ size) → (-size ≤ c ∧ c ≤ size) → Q (w3 a b c) M
abbrev s_law_way : Stmt := top 41
theorem sc_law_way : FnScope ["dice", "size", "k"] ["dice", "size"] (defScope s_law_way) := ⟨rfl, rfl, rfl, by decide +kernel, rfl, by decide +kernel, by decide +kernel⟩
theorem fn_way (hD : Df g "_law_way" s_law_way ["dice", "size"]) (B : Bu g) (F : Fn g "_law_roll" 1 SpRoll) : Fn g "_law_way" 2 SpWay := by
  refine df_mk hD sc_law_way (fun ds M Q E ⟨p, c, j, h, _⟩ => by subst h; rfl) ?_
  rintro _ M Q E ⟨p, size, j, rfl, hj, h0, h1, q⟩
  refine run_one (stm_ret (ev_tuple B rfl (by intro _; rfl) (ev_lc [("k", 2)] (.nm 2) (nk rfl rfl) rfl (by decide) (fun _ _ => rfl) ((s_range1 B rfl d_int ⟨by decide, by decide⟩).go ⟨by decide, fun _ => true, fun _ y => ∃ r : Int, (-size ≤ r ∧ r ≤ size) ∧ y = .int r, fun i hi => ⟨_, rfl, (rfl : true = true), fun _ => ?_⟩, fun out pw => ?_⟩))))
  · refine ev_op (r := rSubI) (fun _ _ => op_sub) (ev_roll F rfl rfl (dv 0 rfl rfl rfl) (d_add (d_mulY d_int (dv 1 rfl rfl rfl) (.of_left (by decide +kernel))) d_int) hj (by omega) (by omega) fun r r0 r1 => EvD.go (dv 1 rfl rfl rfl) (o_sub ⟨rfl, r - size, ⟨by omega, by omega⟩, rfl⟩))
  · match out, pw with
    | [_, _, _], ⟨⟨a, ha, rfl⟩, ⟨b, hb, rfl⟩, ⟨c, hc, rfl⟩, _⟩ => exact oc_tuple (.inr (.inl rfl)) (q a b c ha hb hc)
end LA
set_option Elab.async false
set_option linter.all false
set_option maxRecDepth 100000
set_option maxHeartbeats 4000000
/-! K1A: the defs of ways. -/
namespace K1
open PySem L2 DL
def top (i : Nat) : Stmt := PySem.Challenge.pw_raystack_k01_steps_in_space_and_shares.main.body.getD i (.Pass ⟨0, 0, 0, 0⟩)
/-- ways whose parts are no greater than told -/
structure W3 (a b c : Int) : Prop where
  x : Bd 1000 a
  y : Bd 1000 b
  z : Bd 1000 c
abbrev t3 (a b c : Int) : D := .tup [.int a, .int b, .int c]
abbrev t2 (a b : Int) : D := .tup [.int a, .int b]
local macro_rules | `(tactic| walk_at "bd") => `(tactic| first
  | assumption
  | exact bd_lit (n := 10) _ rfl
  | exact bd_add (by walk_at "bd") (by walk_at "bd")
  | exact bd_sub (by walk_at "bd") (by walk_at "bd")
  | exact bd_mul (by walk_at "bd") (by walk_at "bd")
  | exact bd_neg (by walk_at "bd"))
local macro_rules | `(tactic| walk_at "mw") => `(tactic| exact mulw (by walk_at "bd") (by walk_at "bd") (by rfl))
local macro_rules | `(tactic| walk_at "bt") => `(tactic| exact bd_to (by walk_at "bd") (by rfl))
local macro_rules | `(tactic| walk_at "w3") => `(tactic| exact ⟨by walk_at "bt", by walk_at "bt", by walk_at "bt"⟩)
local macro_rules | `(tactic| walk_at "pos") => `(tactic| first | assumption | decide | omega)
inductive RPlus : List D → D → Prop
  | mk {a b c d e f : Int} : RPlus [t3 a b c, t3 d e f] (t3 (a + d) (b + e) (c + f))
inductive RMinus : List D → D → Prop
  | mk {a b c d e f : Int} : RMinus [t3 a b c, t3 d e f] (t3 (a - d) (b - e) (c - f))
inductive RStr : List D → D → Prop
  | mk {a b c t : Int} (h : W3 a b c) (h' : Bd 1000 t) : RStr [t3 a b c, .int t] (t3 (a * t) (b * t) (c * t))
inductive RAlong : List D → D → Prop
  | mk {a b c d e f : Int} (h : W3 a b c) (h' : W3 d e f) : RAlong [t3 a b c, t3 d e f] (.int (a * d + b * e + c * f))
inductive RAcross : List D → D → Prop
  | mk {a b c d e f : Int} (h : W3 a b c) (h' : W3 d e f) : RAcross [t3 a b c, t3 d e f] (t3 (b * f - c * e) (c * d - a * f) (a * e - b * d))
structure W3s (a b c : Int) : Prop where
  x : Bd 400 a
  y : Bd 400 b
  z : Bd 400 c
inductive RBlock : List D → D → Prop
  | mk {a b c d e f x y z : Int} (h : W3s a b c) (h' : W3s d e f) (h2 : W3s x y z) : RBlock [t3 a b c, t3 d e f, t3 x y z] (.int (a * (e * z - f * y) + b * (f * x - d * z) + c * (d * y - e * x)))
inductive RSquare : List D → D → Prop
  | mk {a b c : Int} (h : W3 a b c) : RSquare [t3 a b c] (.int (a * a + b * b + c * c))
variable {g : Gx}
abbrev s_plus : Stmt := top 6
theorem sc_plus : FnScope ["one", "other"] ["one", "other"] (defScope s_plus) := ⟨rfl, rfl, rfl, by decide +kernel, rfl, by decide +kernel, by decide +kernel⟩
theorem fn_plus (D : Df g "plus" s_plus ["one", "other"]) : Fn g "plus" 1 (PureSp RPlus) := by
  refine df_pure D sc_plus (fun ds v h => by cases h; rfl) ?_
  rintro _ _ ⟨⟩ M Q E q
  exact run_one (s_ret (dt (a_cons (d_add (d_ixT (dv 0 rfl rfl rfl) d_int rfl) (d_ixT (dv 1 rfl rfl rfl) d_int rfl)) (a_cons (d_add (d_ixT (dv 0 rfl rfl rfl) d_int rfl) (d_ixT (dv 1 rfl rfl rfl) d_int rfl)) (a_cons (d_add (d_ixT (dv 0 rfl rfl rfl) d_int rfl) (d_ixT (dv 1 rfl rfl rfl) d_int rfl)) a_nil))) rfl) q)
abbrev s_minus : Stmt := top 7
theorem sc_minus : FnScope ["one", "other"] ["one", "other"] (defScope s_minus) := ⟨rfl, rfl, rfl, by decide +kernel, rfl, by decide +kernel, by decide +kernel⟩
theorem fn_minus (D : Df g "minus" s_minus ["one", "other"]) : Fn g "minus" 1 (PureSp RMinus) := by
  refine df_pure D sc_minus (fun ds v h => by cases h; rfl) ?_
  rintro _ _ ⟨⟩ M Q E q
  exact run_one (s_ret (dt (a_cons (d_sub (d_ixT (dv 0 rfl rfl rfl) d_int rfl) (d_ixT (dv 1 rfl rfl rfl) d_int rfl)) (a_cons (d_sub (d_ixT (dv 0 rfl rfl rfl) d_int rfl) (d_ixT (dv 1 rfl rfl rfl) d_int rfl)) (a_cons (d_sub (d_ixT (dv 0 rfl rfl rfl) d_int rfl) (d_ixT (dv 1 rfl rfl rfl) d_int rfl)) a_nil))) rfl) q)
abbrev s_stretched : Stmt := top 8
theorem sc_stretched : FnScope ["one", "times"] ["one", "times"] (defScope s_stretched) := ⟨rfl, rfl, rfl, by decide +kernel, rfl, by decide +kernel, by decide +kernel⟩
theorem fn_stretched (D : Df g "stretched" s_stretched ["one", "times"]) : Fn g "stretched" 1 (PureSp RStr) := by
  refine df_pure D sc_stretched (fun ds v h => by cases h; rfl) ?_
  rintro _ _ ⟨⟨h1, h2, h3⟩, h4⟩ M Q E q
  exact run_one (s_ret (dt (a_cons (d_mul (d_ixT (dv 0 rfl rfl rfl) d_int rfl) (dv 1 rfl rfl rfl) (by walk_at "mw")) (a_cons (d_mul (d_ixT (dv 0 rfl rfl rfl) d_int rfl) (dv 1 rfl rfl rfl) (by walk_at "mw")) (a_cons (d_mul (d_ixT (dv 0 rfl rfl rfl) d_int rfl) (dv 1 rfl rfl rfl) (by walk_at "mw")) a_nil))) rfl) q)
abbrev s_along : Stmt := top 9
theorem sc_along : FnScope ["one", "other"] ["one", "other"] (defScope s_along) := ⟨rfl, rfl, rfl, by decide +kernel, rfl, by decide +kernel, by decide +kernel⟩
theorem fn_along (D : Df g "along" s_along ["one", "other"]) : Fn g "along" 1 (PureSp RAlong) := by
  refine df_pure D sc_along (fun ds v h => by cases h; rfl) ?_
  rintro _ _ ⟨⟨h1, h2, h3⟩, ⟨h4, h5, h6⟩⟩ M Q E q
  exact run_one (s_ret (d_add (d_add (d_mul (d_ixT (dv 0 rfl rfl rfl) d_int rfl) (d_ixT (dv 1 rfl rfl rfl) d_int rfl) (by walk_at "mw")) (d_mul (d_ixT (dv 0 rfl rfl rfl) d_int rfl) (d_ixT (dv 1 rfl rfl rfl) d_int rfl) (by walk_at "mw"))) (d_mul (d_ixT (dv 0 rfl rfl rfl) d_int rfl) (d_ixT (dv 1 rfl rfl rfl) d_int rfl) (by walk_at "mw"))) q)
abbrev s_across : Stmt := top 10
theorem sc_across : FnScope ["one", "other", "first"] ["one", "other"] (defScope s_across) := ⟨rfl, rfl, rfl, by decide +kernel, rfl, by decide +kernel, by decide +kernel⟩
theorem fn_across (D : Df g "across" s_across ["one", "other"]) : Fn g "across" 1 (PureSp RAcross) := by
  refine df_pure D sc_across (fun ds v h => by cases h; rfl) ?_
  rintro _ _ ⟨⟨h1, h2, h3⟩, ⟨h4, h5, h6⟩⟩ M Q E q
  refine run_cons (t_set (i := 2) (d_sub (d_mul (d_ixT (dv 0 rfl rfl rfl) d_int rfl) (d_ixT (dv 1 rfl rfl rfl) d_int rfl) (by walk_at "mw")) (d_mul (d_ixT (dv 0 rfl rfl rfl) d_int rfl) (d_ixT (dv 1 rfl rfl rfl) d_int rfl) (by walk_at "mw"))) ?_ (nk rfl rfl))
  exact run_one (s_ret (dt (a_cons (dv 2 rfl rfl rfl) (a_cons (d_sub (d_mul (d_ixT (dv 0 rfl rfl rfl) d_int rfl) (d_ixT (dv 1 rfl rfl rfl) d_int rfl) (by walk_at "mw")) (d_mul (d_ixT (dv 0 rfl rfl rfl) d_int rfl) (d_ixT (dv 1 rfl rfl rfl) d_int rfl) (by walk_at "mw"))) (a_cons (d_sub (d_mul (d_ixT (dv 0 rfl rfl rfl) d_int rfl) (d_ixT (dv 1 rfl rfl rfl) d_int rfl) (by walk_at "mw")) (d_mul (d_ixT (dv 0 rfl rfl rfl) d_int rfl) (d_ixT (dv 1 rfl rfl rfl) d_int rfl) (by walk_at "mw"))) a_nil))) rfl) q)
structure FA (g : Gx) : Prop where
  plus : Fn g "plus" 1 (PureSp RPlus)
  minus : Fn g "minus" 1 (PureSp RMinus)
  stretched : Fn g "stretched" 1 (PureSp RStr)
  along : Fn g "along" 1 (PureSp RAlong)
  across : Fn g "across" 1 (PureSp RAcross)
abbrev s_block : Stmt := top 11
theorem sc_block : FnScope ["one", "other", "third"] ["one", "other", "third"] (defScope s_block) := ⟨rfl, rfl, rfl, by decide +kernel, rfl, by decide +kernel, by decide +kernel⟩
theorem fn_block (D : Df g "block" s_block ["one", "other", "third"]) (F : FA g) : Fn g "block" 2 (PureSp RBlock) := by
  refine df_pure D sc_block (fun ds v h => by cases h; rfl) ?_
  rintro _ _ ⟨⟨h1, h2, h3⟩, ⟨h4, h5, h6⟩, ⟨h7, h8, h9⟩⟩ M Q E q
  exact run_one (s_ret (d_callP F.along rfl rfl (a_cons (dv 0 rfl rfl rfl) (a_cons (d_callP F.across rfl rfl (a_cons (dv 1 rfl rfl rfl) (a_cons (dv 2 rfl rfl rfl) a_nil)) (.mk (by walk_at "w3") (by walk_at "w3"))) a_nil)) (.mk (by walk_at "w3") (by walk_at "w3"))) q)
abbrev s_square : Stmt := top 12
theorem sc_square : FnScope ["one"] ["one"] (defScope s_square) := ⟨rfl, rfl, rfl, by decide +kernel, rfl, by decide +kernel, by decide +kernel⟩
theorem fn_square (D : Df g "square" s_square ["one"]) (F : FA g) : Fn g "square" 2 (PureSp RSquare) := by
  refine df_pure D sc_square (fun ds v h => by cases h; rfl) ?_
  rintro _ _ ⟨⟨h1, h2, h3⟩⟩ M Q E q
  exact run_one (s_ret (d_callP F.along rfl rfl (a_cons (dv 0 rfl rfl rfl) (a_cons (dv 0 rfl rfl rfl) a_nil)) (.mk (by walk_at "w3") (by walk_at "w3"))) q)
end K1
set_option Elab.async false
set_option linter.all false
set_option maxRecDepth 100000
set_option maxHeartbeats 4000000
/-! K1B: roots, shares. -/
namespace K1
open PySem L2 DL
local macro_rules | `(tactic| walk_at "bd") => `(tactic| first
  | assumption
  | exact bd_lit (n := 10) _ rfl
  | exact bd_add (by walk_at "bd") (by walk_at "bd")
  | exact bd_sub (by walk_at "bd") (by walk_at "bd")
  | exact bd_mul (by walk_at "bd") (by walk_at "bd")
  | exact bd_neg (by walk_at "bd"))
local macro_rules | `(tactic| walk_at "mw") => `(tactic| exact mulw (by walk_at "bd") (by walk_at "bd") (by rfl))
local macro_rules | `(tactic| walk_at "bt") => `(tactic| exact bd_to (by walk_at "bd") (by rfl))
local macro_rules | `(tactic| walk_at "w3") => `(tactic| exact ⟨by walk_at "bt", by walk_at "bt", by walk_at "bt"⟩)
local macro_rules | `(tactic| walk_at "pos") => `(tactic| first | assumption | decide | omega)
/-! ### the root -/
theorem sq_lt {a b : Int} (h0 : 0 ≤ b) (h : a * a < b * b) : a < b := by
  rcases Int.lt_or_le a b with h1 | h1
  · exact h1
  · have := Int.mul_le_mul h1 h1 h0 (by omega)
    omega
theorem isq_ex (n : Nat) : ∃ r : Nat, r * r ≤ n ∧ n < (r + 1) * (r + 1) := by
  induction n with
  | zero => exact ⟨0, by decide, by decide⟩
  | succ n ih =>
    obtain ⟨r, h1, h2⟩ := ih
    by_cases h : n + 1 < (r + 1) * (r + 1)
    · exact ⟨r, by omega, h⟩
    · refine ⟨r + 1, by omega, ?_⟩
      have e : (r + 1 + 1) * (r + 1 + 1) = (r + 1) * (r + 1) + 2 * (r + 1) + 1 := by rw [Nat.mul_add (r + 1 + 1), Nat.add_mul (r + 1) 1 (r + 1)]; omega
      omega
noncomputable def isq (n : Int) : Int := ((isq_ex n.toNat).choose : Nat)
theorem isq_spec {n : Int} (h : 0 ≤ n) : 0 ≤ isq n ∧ isq n * isq n ≤ n ∧ n < (isq n + 1) * (isq n + 1) := by
  obtain ⟨h1, h2⟩ := (isq_ex n.toNat).choose_spec
  unfold isq
  generalize (isq_ex n.toNat).choose = r at h1 h2
  refine ⟨by omega, ?_, ?_⟩
  · have : ((r * r : Nat) : Int) ≤ n.toNat := by exact_mod_cast h1
    rw [Int.natCast_mul] at this; omega
  · have : (n.toNat : Int) < (((r + 1) * (r + 1) : Nat) : Int) := by exact_mod_cast h2
    rw [Int.natCast_mul, Int.natCast_add] at this
    have e : ((1 : Nat) : Int) = 1 := rfl
    rw [e] at this; omega
theorem isq_eq {n r : Int} (h0 : 0 ≤ r) (h1 : r * r ≤ n) (h2 : n < (r + 1) * (r + 1)) : isq n = r := by
  have hn : 0 ≤ n := by have := Int.mul_nonneg h0 h0; omega
  obtain ⟨a, b, c⟩ := isq_spec hn
  have x : isq n < r + 1 := sq_lt (by omega) (by omega)
  have y : r < isq n + 1 := sq_lt (by omega) (by omega)
  omega
theorem le_sq {a : Int} (h : 1 ≤ a) : a ≤ a * a := by
  have := Int.mul_le_mul_of_nonneg_left (c := a) h (by omega)
  rw [Int.mul_one] at this
  exact this
inductive RRoot : List D → D → Prop
  | mk {n : Int} (h0 : 0 ≤ n) (h : Bd 1000 n) : RRoot [.int n] (.int (isq n))
inductive BRoot : List D → Prop
  | mk {n : Int} (h : n < 0) : BRoot [.int n]
variable {g : Gx} {CW : Addr}
abbrev s_root : Stmt := top 13
theorem sc_root : FnScope ["number", "low", "high", "middle"] ["number"] (defScope s_root) := ⟨rfl, rfl, rfl, by decide +kernel, rfl, by decide +kernel, by decide +kernel⟩
theorem fn_root (hD : Df g "root" s_root ["number"]) (KE : ExcC g "WayError" CW) : Fn g "root" 1 (PartSp RRoot BRoot CW) := by
  refine df_part hD sc_root (fun ds v h => by cases h; rfl) (fun ds h => by cases h; rfl) ?_ ?_
  · rintro _ _ ⟨h0, hb⟩ M Q E q
    rename_i n
    refine run_cons (s_skip (EvTD.is (t_lt (dv 0 rfl rfl rfl) d_int) (decide_eq_false (by omega))) ?_)
    refine run_cons (t_un (pt := .tp [1, 2]) (dt (a_cons d_int (a_cons d_int a_nil)) rfl) ⟨_, rfl, rfl, rfl⟩ ?_ ⟨_, _, _, rfl, nk rfl rfl, nk rfl rfl, trivial⟩ (fun env h => by cases env; cases h; rfl))
    refine run_cons (stm_whileD (fun m ρ' M' => ∃ high : Int, ρ' = [some (.int n), some (.int 0), some (.int high), none] ∧ M = M' ∧ m = (n + 1 - high).toNat ∧ 1 ≤ high ∧ high ≤ 2 * n + 1) _ ⟨1, rfl, rfl, rfl, by omega, by omega⟩ ?_)
    · rintro m ρ' M' ⟨high, rfl, rfl, rfl, h1, h2⟩
      have hh : Bd 1100 high := bd_le (by omega) h2 (by walk_at "bt")
      refine ⟨_, (t_le (d_mul (dv 2 rfl rfl rfl) (dv 2 rfl rfl rfl) (by walk_at "mw")) (dv 0 rfl rfl rfl)), fun c => ?_, fun c => ?_⟩
      · have c := of_decide_eq_true c
        have := le_sq h1
        refine run_one (t_set (i := 2) (d_mul d_int (dv 2 rfl rfl rfl) (by walk_at "mw")) ?_ (nk rfl rfl))
        exact ⟨_, by omega, 2 * high, rfl, rfl, rfl, by omega, by omega⟩
      · have c := of_decide_eq_false c
        refine run_cons (stm_whileD (fun m ρ' M' => ∃ (low high : Int) (x : Option DL.D), ρ' = [some (.int n), some (.int low), some (.int high), x] ∧ M = M' ∧ m = (high - low).toNat ∧ 0 ≤ low ∧ low < high ∧ high ≤ 2 * n + 1 ∧ low * low ≤ n ∧ n < high * high) _ ⟨0, high, none, rfl, rfl, rfl, by omega, by omega, by omega, by omega, by omega⟩ ?_)
        rintro m ρ' M' ⟨low, hi, x, rfl, rfl, rfl, h3, h4, h5, h6, h7⟩
        have hh : Bd 1100 hi := bd_le (by omega) h5 (by walk_at "bt")
        have hl : Bd 1100 low := bd_le (by omega) (show low ≤ hi by omega) hh
        refine ⟨_, (t_gt (d_sub (dv 2 rfl rfl rfl) (dv 1 rfl rfl rfl)) d_int), fun c2 => ?_, fun c2 => ?_⟩
        · have c2 := of_decide_eq_true c2
          have em : (low + hi).fdiv 2 = (low + hi) / 2 := Int.fdiv_eq_ediv_of_nonneg _ (by decide)
          have hm : Bd 1100 ((low + hi).fdiv 2) := bd_le (by rw [em]; omega) (show (low + hi).fdiv 2 ≤ hi by rw [em]; omega) hh
          refine run_cons (t_set (i := 3) (d_div (d_add (dv 1 rfl rfl rfl) (dv 2 rfl rfl rfl)) d_int (cok_small (by decide) (by decide) (by decide))) ?_ (nk rfl rfl))
          generalize em2 : (low + hi).fdiv 2 = mid at hm em
          refine run_one (s_if (t_le (d_mul (dv 3 rfl rfl rfl) (dv 3 rfl rfl rfl) (by walk_at "mw")) (dv 0 rfl rfl rfl)) (fun t => ?_) (fun t => ?_))
          · refine run_one (t_set (i := 1) (dv 3 rfl rfl rfl) ?_ (nk rfl rfl))
            exact ⟨_, by omega, mid, hi, _, rfl, rfl, rfl, by omega, by omega, by omega, of_decide_eq_true t, h7⟩
          · refine run_one (t_set (i := 2) (dv 3 rfl rfl rfl) ?_ (nk rfl rfl))
            have := of_decide_eq_false t
            exact ⟨_, by omega, low, mid, _, rfl, rfl, rfl, by omega, by omega, by omega, h6, by omega⟩
        · have c2 := of_decide_eq_false c2
          have e : hi = low + 1 := by omega
          subst e
          rw [isq_eq h3 h6 h7] at q
          exact run_one (s_ret (dv 1 rfl rfl rfl) q)
  · rintro _ ⟨h⟩ M Q E q
    exact run_cons (s_if (EvTD.is (t_lt (dv 0 rfl rfl rfl) d_int) (decide_eq_true h)) (fun _ => run_one (stm_raise KE rfl q)) (fun z => by cases z))
/-! ### the greatest common -/
inductive RCom : List D → D → Prop
  | mk {a b : Int} (h : Bd 1000 a) (h' : Bd 1000 b) : RCom [.int a, .int b] (.int (gc a b))
theorem gcd_step (m n : Nat) : Nat.gcd n (m % n) = Nat.gcd m n := by
  rw [Nat.gcd_comm n, ← Nat.gcd_rec, Nat.gcd_comm]
theorem abs_ite (i : Int) : (if i < 0 then -i else i) = (i.natAbs : Int) := by split <;> omega
abbrev s_common : Stmt := top 20
theorem sc_common : FnScope ["one", "other"] ["one", "other"] (defScope s_common) := ⟨rfl, rfl, rfl, by decide +kernel, rfl, by decide +kernel, by decide +kernel⟩
theorem fn_common (hD : Df g "common" s_common ["one", "other"]) (B : Bu g) : Fn g "common" 1 (PureSp RCom) := by
  refine df_pure hD sc_common (fun ds v h => by cases h; rfl) ?_
  rintro _ _ ⟨ha, hb⟩ M Q E q
  rename_i a b
  refine run_cons (t_par (i := 0) (j := 1) (d_abs B rfl (dv 0 rfl rfl rfl)) (d_abs B rfl (dv 1 rfl rfl rfl)) ?_ (fun env h => by cases env; cases h; rfl))
  refine run_cons (stm_whileD (fun m ρ' M' => ∃ x y : Nat, ρ' = [some (.int (x : Int)), some (.int (y : Int))] ∧ M = M' ∧ m = y ∧ Nat.gcd x y = Int.gcd a b) _ ⟨a.natAbs, b.natAbs, by rw [abs_ite, abs_ite]; rfl, rfl, rfl, rfl⟩ ?_)
  rintro m ρ' M' ⟨x, y, rfl, rfl, rfl, e⟩
  refine ⟨_, (t_neI (dv 1 rfl rfl rfl) d_int), fun c => ?_, fun c => ?_⟩
  rotate_left
  · have c : m = 0 := by simpa using c
    subst c
    rw [Nat.gcd_zero_right] at e
    have e2 : gc a b = (x : Int) := by unfold gc; rw [← e]
    rw [e2] at q
    exact run_one (s_ret (dv 0 rfl rfl rfl) q)
  · have hy : ((m : Nat) : Int) ≠ 0 := by simpa using c
    refine run_one (t_par (i := 0) (j := 1) (dv 1 rfl rfl rfl) (d_mod (dv 0 rfl rfl rfl) (dv 1 rfl rfl rfl) hy) ?_ (fun env h => by cases env; cases h; rfl))
    have em : ((x : Int)).fmod (m : Int) = ((x % m : Nat) : Int) := by rw [Int.fmod_eq_emod_of_nonneg _ (by omega)]; rfl
    exact ⟨x % m, Nat.mod_lt _ (by omega), m, x % m, by rw [em]; rfl, rfl, rfl, by rw [gcd_step, e]⟩
end K1
set_option Elab.async false
set_option linter.all false
set_option maxRecDepth 100000
set_option maxHeartbeats 4000000
/-! K1C: more of ways. -/
namespace K1
open PySem L2 DL
local macro_rules | `(tactic| walk_at "bd") => `(tactic| first
  | assumption
  | exact bd_lit (n := 10) _ rfl
  | exact bd_add (by walk_at "bd") (by walk_at "bd")
  | exact bd_sub (by walk_at "bd") (by walk_at "bd")
  | exact bd_mul (by walk_at "bd") (by walk_at "bd")
  | exact bd_neg (by walk_at "bd"))
local macro_rules | `(tactic| walk_at "mw") => `(tactic| exact mulw (by walk_at "bd") (by walk_at "bd") (by rfl))
local macro_rules | `(tactic| walk_at "bt") => `(tactic| exact bd_to (by walk_at "bd") (by rfl))
local macro_rules | `(tactic| walk_at "w3") => `(tactic| exact ⟨by walk_at "bt", by walk_at "bt", by walk_at "bt"⟩)
local macro_rules | `(tactic| walk_at "pos") => `(tactic| first | assumption | decide | omega)
theorem sq_nn (a : Int) : 0 ≤ a * a := by
  rcases Int.le_total 0 a with h | h
  · exact Int.mul_nonneg h h
  · have := Int.mul_nonneg (show 0 ≤ -a by omega) (show 0 ≤ -a by omega)
    rw [Int.neg_mul_neg] at this; exact this
theorem s3_nn (a b c : Int) : 0 ≤ a * a + b * b + c * c := by
  have := sq_nn a; have := sq_nn b; have := sq_nn c; omega
/-! ### shares -/
def pby (a u : Int) : Int := if u > 0 then gc a u else 0 - gc a u
def num (a u : Int) : Int := a.fdiv (pby a u)
def den (a u : Int) : Int := u.fdiv (pby a u)
theorem gc_nn (a b : Int) : 0 ≤ gc a b := by unfold gc; omega
theorem gc_pos {a b : Int} (h : b ≠ 0) : 0 < gc a b := by
  unfold gc
  have : 0 < Int.gcd a b := Int.gcd_pos_of_ne_zero_right a h
  omega
theorem gc_dvd_r (a b : Int) : gc a b ∣ b := Int.gcd_dvd_right ..
theorem gc_dvd_l (a b : Int) : gc a b ∣ a := Int.gcd_dvd_left ..
theorem gc_le {a b : Int} (h : 0 < b) : gc a b ≤ b := Int.le_of_dvd h (gc_dvd_r a b)
theorem den_pos {a u : Int} (h : 0 < u) : 0 < den a u := by
  unfold den pby
  rw [if_pos h]
  have hg := gc_pos (a := a) (show u ≠ 0 by omega)
  rw [Int.fdiv_eq_ediv_of_nonneg _ (by omega)]
  exact Int.ediv_pos_of_pos_of_dvd h (by omega) (gc_dvd_r a u)
theorem bd_fdiv {n : Nat} {a g : Int} (h : Bd n a) (hg : 0 < g) : Bd n (a.fdiv g) := by
  rw [Int.fdiv_eq_ediv_of_nonneg _ (by omega)]
  unfold Bd at *
  have h1 : -(a.natAbs : Int) ≤ a / g := by
    rw [Int.le_ediv_iff_mul_le hg]
    have : (a.natAbs : Int) * 1 ≤ a.natAbs * g := Int.mul_le_mul_of_nonneg_left (by omega) (by omega)
    rw [Int.neg_mul]; omega
  have h2 : a / g ≤ (a.natAbs : Int) := by
    have : a / g ≤ (a.natAbs : Int) / g := Int.ediv_le_ediv hg (by omega)
    have h3 : (a.natAbs : Int) / g ≤ a.natAbs := Int.ediv_le_self _ (by omega)
    omega
  omega
theorem bd_num {n : Nat} {a u : Int} (h : Bd n a) (hu : 0 < u) : Bd n (num a u) := by
  unfold num pby
  rw [if_pos hu]
  exact bd_fdiv h (gc_pos (by omega))
theorem bd_den {n : Nat} {a u : Int} (h : Bd n u) (hu : 0 < u) : Bd n (den a u) := by
  unfold den pby
  rw [if_pos hu]
  exact bd_fdiv h (gc_pos (by omega))
abbrev pl (a u : Int) : D := t2 (num a u) (den a u)
def UOk (u : Int) : Prop := (0 < u ∧ Bd 1000 u) ∨ (u < 0 ∧ -1000000 ≤ u)
inductive RPlain : List D → D → Prop
  | mk {a u : Int} (hu : UOk u) (ha : Bd 1000 a) : RPlain [.int a, .int u] (pl a u)
inductive BPlain : List D → Prop
  | mk {a : Int} : BPlain [.int a, .int 0]
structure FB (g : Gx) (CW : Addr) : Prop extends FA g where
  block : Fn g "block" 2 (PureSp RBlock)
  square : Fn g "square" 2 (PureSp RSquare)
  root : Fn g "root" 1 (PartSp RRoot BRoot CW)
  common : Fn g "common" 1 (PureSp RCom)
variable {g : Gx} {CW : Addr}
theorem UOk.bd {u : Int} (h : UOk u) : Bd 1000 u := by
  rcases h with h | h
  · exact h.2
  · have h6 : Bd 30 (1000000 : Int) := by unfold Bd; decide
    exact bd_to (bd_of (B := 1000000) (by omega) (by omega) h6) rfl
theorem UOk.ne {u : Int} (h : UOk u) : u ≠ 0 := by rcases h with h | h <;> omega
theorem UOk.cok {a u : Int} (h : UOk u) : COk (pby a u) := by
  unfold pby
  have hg := gc_pos (a := a) h.ne
  rcases h with h | h
  · rw [if_pos h.1]
    exact cok_pos hg (bd_le (by omega) (gc_le h.1) h.2) rfl
  · rw [if_neg (by omega)]
    have h1 : gc a u ≤ -u := Int.le_of_dvd (by omega) (Int.dvd_neg.mpr (gc_dvd_r a u))
    exact cok_small (by omega) (by omega) (by omega)
abbrev s_plain : Stmt := top 21
theorem sc_plain : FnScope ["one", "under", "by"] ["one", "under"] (defScope s_plain) := ⟨rfl, rfl, rfl, by decide +kernel, rfl, by decide +kernel, by decide +kernel⟩
theorem fn_plain (hD : Df g "plain" s_plain ["one", "under"]) (KE : ExcC g "WayError" CW) (F : FB g CW) : Fn g "plain" 2 (PartSp RPlain BPlain CW) := by
  refine df_part hD sc_plain (fun ds v h => by cases h; rfl) (fun ds h => by cases h; rfl) ?_ ?_
  · rintro _ _ ⟨hu, ha⟩ M Q E q
    rename_i a u
    have hub := hu.bd
    refine run_cons (s_skip (EvTD.is (t_eqI (dv 1 rfl rfl rfl) d_int) (decide_eq_false hu.ne)) ?_)
    refine run_cons (t_set (i := 2) (d := .int (pby a u)) (EvD.is (d_ite (t_gt (dv 1 rfl rfl rfl) d_int) (fun _ => (d_callP F.common rfl rfl (a_cons (dv 0 rfl rfl rfl) (a_cons (dv 1 rfl rfl rfl) a_nil)) (.mk (by walk_at "bt") (by walk_at "bt")))) (fun _ => (d_sub d_int (d_callP F.common rfl rfl (a_cons (dv 0 rfl rfl rfl) (a_cons (dv 1 rfl rfl rfl) a_nil)) (.mk (by walk_at "bt") (by walk_at "bt")))))) ?_) ?_ (nk rfl rfl))
    · unfold pby
      by_cases c : u > 0
      · rw [if_pos c, decide_eq_true c, if_pos rfl]
      · rw [if_neg c, decide_eq_false c, if_neg Bool.false_ne_true]
    · exact run_one (s_ret (dt (a_cons (d_div (dv 0 rfl rfl rfl) (dv 2 rfl rfl rfl) hu.cok) (a_cons (d_div (dv 1 rfl rfl rfl) (dv 2 rfl rfl rfl) hu.cok) a_nil)) rfl) q)
  · rintro _ ⟨⟩ M Q E q
    exact run_cons (s_if (EvTD.is (t_eqI (dv 1 rfl rfl rfl) d_int) (decide_eq_true rfl)) (fun _ => run_one (stm_raise KE rfl q)) (fun z => by cases z))
structure FC (g : Gx) (CW : Addr) : Prop extends FB g CW where
  plain : Fn g "plain" 2 (PartSp RPlain BPlain CW)
inductive RAdded : List D → D → Prop
  | mk {a b c d : Int} (h1 : Bd 400 a) (h2 : Bd 400 b) (h3 : Bd 400 c) (h4 : Bd 400 d) (hb : 0 < b) (hd : 0 < d) : RAdded [t2 a b, t2 c d] (pl (a * d + c * b) (b * d))
inductive BAdded : List D → Prop
  | mk {a b c d : Int} (h1 : Bd 400 a) (h2 : Bd 400 b) (h3 : Bd 400 c) (h4 : Bd 400 d) (h : b * d = 0) : BAdded [t2 a b, t2 c d]
local macro_rules | `(tactic| walk_at "und") => `(tactic| exact Or.inl ⟨Int.mul_pos (by assumption) (by assumption), by walk_at "bt"⟩)
abbrev s_added : Stmt := top 23
theorem sc_added : FnScope ["one", "other"] ["one", "other"] (defScope s_added) := ⟨rfl, rfl, rfl, by decide +kernel, rfl, by decide +kernel, by decide +kernel⟩
theorem fn_added (hD : Df g "added" s_added ["one", "other"]) (F : FC g CW) : Fn g "added" 3 (PartSp RAdded BAdded CW) := by
  refine df_part hD sc_added (fun ds v h => by cases h; rfl) (fun ds h => by cases h; rfl) ?_ ?_
  · rintro _ _ ⟨h1, h2, h3, h4, hb, hd⟩ M Q E q
    exact run_one (s_ret (d_callQ F.plain rfl rfl (a_cons (d_add (d_mul (d_ixT (dv 0 rfl rfl rfl) d_int rfl) (d_ixT (dv 1 rfl rfl rfl) d_int rfl) (by walk_at "mw")) (d_mul (d_ixT (dv 1 rfl rfl rfl) d_int rfl) (d_ixT (dv 0 rfl rfl rfl) d_int rfl) (by walk_at "mw"))) (a_cons (d_mul (d_ixT (dv 0 rfl rfl rfl) d_int rfl) (d_ixT (dv 1 rfl rfl rfl) d_int rfl) (by walk_at "mw")) a_nil)) (.mk (by walk_at "und") (by walk_at "bt"))) q)
  · rintro _ ⟨h1, h2, h3, h4, h⟩ M Q E q
    refine run_one (stm_ret (x_callQ F.plain rfl rfl (a_cons (d_add (d_mul (d_ixT (dv 0 rfl rfl rfl) d_int rfl) (d_ixT (dv 1 rfl rfl rfl) d_int rfl) (by walk_at "mw")) (d_mul (d_ixT (dv 1 rfl rfl rfl) d_int rfl) (d_ixT (dv 0 rfl rfl rfl) d_int rfl) (by walk_at "mw"))) (a_cons (d_mul (d_ixT (dv 0 rfl rfl rfl) d_int rfl) (d_ixT (dv 1 rfl rfl rfl) d_int rfl) (by walk_at "mw")) a_nil)) (by rw [h]; exact .mk) q))
inductive RTimes : List D → D → Prop
  | mk {a b c d : Int} (h1 : Bd 400 a) (h2 : Bd 400 b) (h3 : Bd 400 c) (h4 : Bd 400 d) (hb : 0 < b) (hd : 0 < d) : RTimes [t2 a b, t2 c d] (pl (a * c) (b * d))
abbrev s_times : Stmt := top 24
theorem sc_times : FnScope ["one", "other"] ["one", "other"] (defScope s_times) := ⟨rfl, rfl, rfl, by decide +kernel, rfl, by decide +kernel, by decide +kernel⟩
theorem fn_times (hD : Df g "times" s_times ["one", "other"]) (F : FC g CW) : Fn g "times" 3 (PureSp RTimes) := by
  refine df_pure hD sc_times (fun ds v h => by cases h; rfl) ?_
  rintro _ _ ⟨h1, h2, h3, h4, hb, hd⟩ M Q E q
  exact run_one (s_ret (d_callQ F.plain rfl rfl (a_cons (d_mul (d_ixT (dv 0 rfl rfl rfl) d_int rfl) (d_ixT (dv 1 rfl rfl rfl) d_int rfl) (by walk_at "mw")) (a_cons (d_mul (d_ixT (dv 0 rfl rfl rfl) d_int rfl) (d_ixT (dv 1 rfl rfl rfl) d_int rfl) (by walk_at "mw")) a_nil)) (.mk (by walk_at "und") (by walk_at "bt"))) q)
inductive RDown : List D → D → Prop
  | mk {a b : Int} (hb : 0 < b) (h : Bd 1000 b) : RDown [t2 a b] (.int (a.fdiv b))
abbrev s_down : Stmt := top 25
theorem sc_down : FnScope ["share"] ["share"] (defScope s_down) := ⟨rfl, rfl, rfl, by decide +kernel, rfl, by decide +kernel, by decide +kernel⟩
theorem fn_down (hD : Df g "down" s_down ["share"]) : Fn g "down" 1 (PureSp RDown) := by
  refine df_pure hD sc_down (fun ds v h => by cases h; rfl) ?_
  rintro _ _ ⟨hb, h⟩ M Q E q
  exact run_one (s_ret (d_div (d_ixT (dv 0 rfl rfl rfl) d_int rfl) (d_ixT (dv 0 rfl rfl rfl) d_int rfl) (cok_pos hb h rfl)) q)
inductive ROrder : List D → D → Prop
  | mk {a b c d : Int} (h1 : Bd 1000 a) (h2 : Bd 1000 b) (h3 : Bd 1000 c) (h4 : Bd 1000 d) : ROrder [t2 a b, t2 c d] (.int ((if decide (c * b < a * d) then 1 else 0) - (if decide (a * d < c * b) then 1 else 0)))
abbrev s_order : Stmt := top 22
theorem sc_order : FnScope ["one", "other", "left", "right"] ["one", "other"] (defScope s_order) := ⟨rfl, rfl, rfl, by decide +kernel, rfl, by decide +kernel, by decide +kernel⟩
theorem fn_order (hD : Df g "order" s_order ["one", "other"]) : Fn g "order" 1 (PureSp ROrder) := by
  refine df_pure hD sc_order (fun ds v h => by cases h; rfl) ?_
  rintro _ _ ⟨h1, h2, h3, h4⟩ M Q E q
  refine run_cons (t_par (i := 2) (j := 3) (d_mul (d_ixT (dv 0 rfl rfl rfl) d_int rfl) (d_ixT (dv 1 rfl rfl rfl) d_int rfl) (by walk_at "mw")) (d_mul (d_ixT (dv 1 rfl rfl rfl) d_int rfl) (d_ixT (dv 0 rfl rfl rfl) d_int rfl) (by walk_at "mw")) ?_ (fun env h => by cases env; cases h; rfl))
  exact run_one (s_ret (d_subB (d_gt (dv 2 rfl rfl rfl) (dv 3 rfl rfl rfl)) (d_lt (dv 2 rfl rfl rfl) (dv 3 rfl rfl rfl))) q)
def tow (n b : Int) : Int := if n ≥ 0 then n.fdiv b else 0 - (0 - n).fdiv b
inductive RTow : List D → D → Prop
  | mk {n b : Int} (hb : 0 < b) (h : Bd 2000 b) : RTow [.int n, .int b] (.int (tow n b))
abbrev s_towards : Stmt := top 16
theorem sc_towards : FnScope ["number", "by"] ["number", "by"] (defScope s_towards) := ⟨rfl, rfl, rfl, by decide +kernel, rfl, by decide +kernel, by decide +kernel⟩
theorem fn_towards (hD : Df g "towards" s_towards ["number", "by"]) : Fn g "towards" 1 (PureSp RTow) := by
  refine df_pure hD sc_towards (fun ds v h => by cases h; rfl) ?_
  rintro _ _ ⟨hb, h⟩ M Q E q
  rename_i n b
  have ck := cok_pos hb h rfl
  refine run_one (s_ret (EvD.is (d_ite (t_ge (dv 0 rfl rfl rfl) d_int) (fun _ => d_div (dv 0 rfl rfl rfl) (dv 1 rfl rfl rfl) ck) (fun _ => d_sub d_int (d_div (d_sub d_int (dv 0 rfl rfl rfl)) (dv 1 rfl rfl rfl) ck))) ?_) q)
  unfold tow
  by_cases c : n ≥ 0
  · rw [if_pos c, decide_eq_true c, if_pos rfl]
  · rw [if_neg c, decide_eq_false c, if_neg Bool.false_ne_true]
/-! ### ways -/
def kz (g : Gx) : Prop := KRep g "ZERO" (t3 0 0 0)
def ko (g : Gx) : Prop := KRep g "ONE" (.int 1000)
inductive RLen : List D → D → Prop
  | mk {a b c : Int} (h : W3s a b c) : RLen [t3 a b c] (.int (isq (1000 * 1000 * (a * a + b * b + c * c))))
abbrev s_length : Stmt := top 14
theorem sc_length : FnScope ["one"] ["one"] (defScope s_length) := ⟨rfl, rfl, rfl, by decide +kernel, rfl, by decide +kernel, by decide +kernel⟩
theorem fn_length (hD : Df g "length" s_length ["one"]) (KO : KRep g "ONE" (.int 1000)) (F : FB g CW) : Fn g "length" 3 (PureSp RLen) := by
  refine df_pure hD sc_length (fun ds v h => by cases h; rfl) ?_
  rintro _ _ ⟨⟨h1, h2, h3⟩⟩ M Q E q
  rename_i a b c
  have hp := s3_nn a b c
  have hn : 0 ≤ 1000 * 1000 * (a * a + b * b + c * c) := Int.mul_nonneg (by decide) hp
  exact run_one (s_ret (d_callQ F.root rfl rfl (a_cons (d_mul (d_mul (d_glob KO rfl) (d_glob KO rfl) (by walk_at "mw")) (d_callP F.square rfl rfl (a_cons (dv 0 rfl rfl rfl) a_nil) (.mk (by walk_at "w3"))) (by walk_at "mw")) a_nil) (.mk (by walk_at "pos") (by walk_at "bt"))) q)
theorem eqv_t3 (a b c d e f : Int) : D.eqv (t3 a b c) (t3 d e f) = (decide (a = d) && (decide (b = e) && decide (c = f))) := by
  show PyData.eqv (.tuple [.int a, .int b, .int c]) (.tuple [.int d, .int e, .int f]) = _
  simp only [PyData.eqv, PyData.eqvAll, Bool.beq_eq_decide_eq, Bool.and_true]
theorem eqv_no {a b c : Int} (h : ¬ (a = 0 ∧ b = 0 ∧ c = 0)) : D.eqv (t3 a b c) (t3 0 0 0) = false := by
  rw [eqv_t3, ← Bool.not_eq_true]
  simpa using h
theorem eqv_yes : D.eqv (t3 0 0 0) (t3 0 0 0) = true := by rw [eqv_t3]; decide
def Nz (a b c : Int) : Prop := ¬ (a = 0 ∧ b = 0 ∧ c = 0)
abbrev mirX (a b c d e f : Int) (x y : Int) : Int := x * (d * d + e * e + f * f) - y * (2 * (a * d + b * e + c * f))
inductive RMir : List D → D → Prop
  | mk {a b c d e f : Int} (h : W3s a b c) (h' : W3s d e f) (hz : Nz d e f) : RMir [t3 a b c, t3 d e f] (.tup [t3 (mirX a b c d e f a d) (mirX a b c d e f b e) (mirX a b c d e f c f), .int (d * d + e * e + f * f)])
inductive BUp : List D → Prop
  | mk {a b c : Int} : BUp [t3 a b c, t3 0 0 0]
abbrev s_mirrored : Stmt := top 17
theorem sc_mirrored : FnScope ["one", "upright", "whole"] ["one", "upright"] (defScope s_mirrored) := ⟨rfl, rfl, rfl, by decide +kernel, rfl, by decide +kernel, by decide +kernel⟩
theorem fn_mirrored (hD : Df g "mirrored" s_mirrored ["one", "upright"]) (KE : ExcC g "WayError" CW) (KZ : KRep g "ZERO" (t3 0 0 0)) (F : FB g CW) : Fn g "mirrored" 3 (PartSp RMir BUp CW) := by
  refine df_part hD sc_mirrored (fun ds v h => by cases h; rfl) (fun ds h => by cases h; rfl) ?_ ?_
  · rintro _ _ ⟨⟨h1, h2, h3⟩, ⟨h4, h5, h6⟩, hz⟩ M Q E q
    refine run_cons (s_skip (EvTD.is (t_eq (dv 1 rfl rfl rfl) (d_glob KZ rfl) rfl rfl) (eqv_no hz)) ?_)
    refine run_cons (t_set (i := 2) (d_callP F.square rfl rfl (a_cons (dv 1 rfl rfl rfl) a_nil) (.mk (by walk_at "w3"))) ?_ (nk rfl rfl))
    exact run_one (s_ret (dt (a_cons (d_callP F.minus rfl rfl (a_cons (d_callP F.stretched rfl rfl (a_cons (dv 0 rfl rfl rfl) (a_cons (dv 2 rfl rfl rfl) a_nil)) (.mk (by walk_at "w3") (by walk_at "bt"))) (a_cons (d_callP F.stretched rfl rfl (a_cons (dv 1 rfl rfl rfl) (a_cons (d_mul d_int (d_callP F.along rfl rfl (a_cons (dv 0 rfl rfl rfl) (a_cons (dv 1 rfl rfl rfl) a_nil)) (.mk (by walk_at "w3") (by walk_at "w3"))) (by walk_at "mw")) a_nil)) (.mk (by walk_at "w3") (by walk_at "bt"))) a_nil)) .mk) (a_cons (dv 2 rfl rfl rfl) a_nil)) rfl) q)
  · rintro _ ⟨⟩ M Q E q
    exact run_cons (s_if (EvTD.is (t_eq (dv 1 rfl rfl rfl) (d_glob KZ rfl) rfl rfl) eqv_yes) (fun _ => run_one (stm_raise KE rfl q)) (fun z => by cases z))
inductive RPar : List D → D → Prop
  | mk {a b c d e f : Int} (h : W3s a b c) (h' : W3s d e f) (hz : Nz d e f) : RPar [t3 a b c, t3 d e f] (.tup [t3 (d * (a * d + b * e + c * f)) (e * (a * d + b * e + c * f)) (f * (a * d + b * e + c * f)),
      t3 (a * (d * d + e * e + f * f) - d * (a * d + b * e + c * f)) (b * (d * d + e * e + f * f) - e * (a * d + b * e + c * f)) (c * (d * d + e * e + f * f) - f * (a * d + b * e + c * f))])
abbrev s_parted : Stmt := top 18
theorem sc_parted : FnScope ["one", "upright", "beside"] ["one", "upright"] (defScope s_parted) := ⟨rfl, rfl, rfl, by decide +kernel, rfl, by decide +kernel, by decide +kernel⟩
theorem fn_parted (hD : Df g "parted" s_parted ["one", "upright"]) (KE : ExcC g "WayError" CW) (KZ : KRep g "ZERO" (t3 0 0 0)) (F : FB g CW) : Fn g "parted" 3 (PartSp RPar BUp CW) := by
  refine df_part hD sc_parted (fun ds v h => by cases h; rfl) (fun ds h => by cases h; rfl) ?_ ?_
  · rintro _ _ ⟨⟨h1, h2, h3⟩, ⟨h4, h5, h6⟩, hz⟩ M Q E q
    refine run_cons (s_skip (EvTD.is (t_eq (dv 1 rfl rfl rfl) (d_glob KZ rfl) rfl rfl) (eqv_no hz)) ?_)
    refine run_cons (t_set (i := 2) (d_callP F.stretched rfl rfl (a_cons (dv 1 rfl rfl rfl) (a_cons (d_callP F.along rfl rfl (a_cons (dv 0 rfl rfl rfl) (a_cons (dv 1 rfl rfl rfl) a_nil)) (.mk (by walk_at "w3") (by walk_at "w3"))) a_nil)) (.mk (by walk_at "w3") (by walk_at "bt"))) ?_ (nk rfl rfl))
    exact run_one (s_ret (dt (a_cons (dv 2 rfl rfl rfl) (a_cons (d_callP F.minus rfl rfl (a_cons (d_callP F.stretched rfl rfl (a_cons (dv 0 rfl rfl rfl) (a_cons (d_callP F.square rfl rfl (a_cons (dv 1 rfl rfl rfl) a_nil) (.mk (by walk_at "w3"))) a_nil)) (.mk (by walk_at "w3") (by walk_at "bt"))) (a_cons (dv 2 rfl rfl rfl) a_nil)) .mk) a_nil)) rfl) q)
  · rintro _ ⟨⟩ M Q E q
    exact run_cons (s_if (EvTD.is (t_eq (dv 1 rfl rfl rfl) (d_glob KZ rfl) rfl rfl) eqv_yes) (fun _ => run_one (stm_raise KE rfl q)) (fun z => by cases z))
def z3 (a b c : Int) : Bool := D.eqv (t3 a b c) (t3 0 0 0)
def swB (a b c d e f : Int) : Bool := if (z3 a b c || z3 d e f) = true then false else (z3 (b * f - c * e) (c * d - a * f) (a * e - b * d) && decide (0 < a * d + b * e + c * f))
inductive RSw : List D → D → Prop
  | mk {a b c d e f : Int} (h : W3s a b c) (h' : W3s d e f) : RSw [t3 a b c, t3 d e f] (.bl (swB a b c d e f))
abbrev s_same_way : Stmt := top 27
theorem sc_same_way : FnScope ["one", "other"] ["one", "other"] (defScope s_same_way) := ⟨rfl, rfl, rfl, by decide +kernel, rfl, by decide +kernel, by decide +kernel⟩
theorem fn_same_way (hD : Df g "same_way" s_same_way ["one", "other"]) (KZ : KRep g "ZERO" (t3 0 0 0)) (F : FB g CW) : Fn g "same_way" 3 (PureSp RSw) := by
  refine df_pure hD sc_same_way (fun ds v h => by cases h; rfl) ?_
  rintro _ _ ⟨⟨h1, h2, h3⟩, ⟨h4, h5, h6⟩⟩ M Q E q
  rename_i a b c d e f
  refine run_cons (s_if (t_w (w_or (t_eq (dv 0 rfl rfl rfl) (d_glob KZ rfl) rfl rfl) (fun _ => (w_or1 (t_eq (dv 1 rfl rfl rfl) (d_glob KZ rfl) rfl rfl))))) (fun t => ?_) (fun t => run_nil ?_))
  · have e1 : swB a b c d e f = false := if_pos t
    rw [e1] at q
    exact run_one (s_ret d_bl q)
  · have e1 : swB a b c d e f = (z3 (b * f - c * e) (c * d - a * f) (a * e - b * d) && decide (0 < a * d + b * e + c * f)) := if_neg (by intro z; rw [show (z3 a b c || z3 d e f) = _ from t] at z; cases z)
    rw [e1] at q
    exact run_one (s_ret (d_and (d_eq (d_callP F.across rfl rfl (a_cons (dv 0 rfl rfl rfl) (a_cons (dv 1 rfl rfl rfl) a_nil)) (.mk (by walk_at "w3") (by walk_at "w3"))) (d_glob KZ rfl) rfl rfl) (fun _ => (d_one (d_gt (d_callP F.along rfl rfl (a_cons (dv 0 rfl rfl rfl) (a_cons (dv 1 rfl rfl rfl) a_nil)) (.mk (by walk_at "w3") (by walk_at "w3"))) d_int)))) q)
end K1
set_option Elab.async false
set_option linter.all false
set_option maxRecDepth 100000
set_option maxHeartbeats 4000000
/-! K1D: made, middle, between. -/
namespace K1
open PySem L2 DL
local macro_rules | `(tactic| walk_at "bd") => `(tactic| first
  | assumption
  | exact bd_lit (n := 10) _ rfl
  | exact bd_add (by walk_at "bd") (by walk_at "bd")
  | exact bd_sub (by walk_at "bd") (by walk_at "bd")
  | exact bd_mul (by walk_at "bd") (by walk_at "bd")
  | exact bd_neg (by walk_at "bd"))
local macro_rules | `(tactic| walk_at "mw") => `(tactic| exact mulw (by walk_at "bd") (by walk_at "bd") (by rfl))
local macro_rules | `(tactic| walk_at "bt") => `(tactic| exact bd_to (by walk_at "bd") (by rfl))
local macro_rules | `(tactic| walk_at "w3") => `(tactic| exact ⟨by walk_at "bt", by walk_at "bt", by walk_at "bt"⟩)
local macro_rules | `(tactic| walk_at "pos") => `(tactic| first | assumption | decide | omega)
variable {g : Gx} {CW P : Addr}
noncomputable abbrev whl (a b c : Int) : Int := isq ((a * a + b * b + c * c) * 1000 * 1000)
inductive RMade : List D → D → Prop
  | mk {a b c l : Int} (hz : Nz a b c) (hl : 0 ≤ l) (h : W3s a b c) (hb : Bd 400 l) : RMade [t3 a b c, .int l] (t3 (tow (a * l * 1000) (whl a b c)) (tow (b * l * 1000) (whl a b c)) (tow (c * l * 1000) (whl a b c)))
inductive BMade : List D → Prop
  | z {l : Int} : BMade [t3 0 0 0, .int l]
  | n {a b c l : Int} (h : l < 0) : BMade [t3 a b c, .int l]
structure FD (g : Gx) (CW : Addr) : Prop extends FC g CW where
  towards : Fn g "towards" 1 (PureSp RTow)
  added : Fn g "added" 3 (PartSp RAdded BAdded CW)
  times : Fn g "times" 3 (PureSp RTimes)
theorem Nz.pos {a b c : Int} (h : Nz a b c) : 0 < a * a + b * b + c * c := by
  have h1 := sq_nn a; have h2 := sq_nn b; have h3 := sq_nn c
  rcases Int.lt_or_eq_of_le (show 0 ≤ a * a + b * b + c * c by omega) with z | z
  · exact z
  · exfalso; apply h
    have e1 : a * a = 0 := by omega
    have e2 : b * b = 0 := by omega
    have e3 : c * c = 0 := by omega
    exact ⟨(Int.mul_eq_zero.mp e1).elim id id, (Int.mul_eq_zero.mp e2).elim id id, (Int.mul_eq_zero.mp e3).elim id id⟩
abbrev s_made : Stmt := top 15
theorem sc_made : FnScope ["one", "long", "whole"] ["one", "long"] (defScope s_made) := ⟨rfl, rfl, rfl, by decide +kernel, rfl, by decide +kernel, by decide +kernel⟩
theorem fn_made (hD : Df g "made" s_made ["one", "long"] (some (P, none))) (KE : ExcC g "WayError" CW) (KZ : KRep g "ZERO" (t3 0 0 0)) (KO : KRep g "ONE" (.int 1000)) (B : Bu g) (F : FD g CW) : Fn g "made" 9 (PartSp RMade BMade CW) := by
  refine df_part hD sc_made (fun ds v h => by cases h; rfl) (fun ds h => by cases h <;> rfl) ?_ ?_
  · rintro _ _ ⟨hz, hl, ⟨h1, h2, h3⟩, hb⟩ M Q E q
    rename_i a b c l
    have hp := hz.pos
    have hn : 0 ≤ (a * a + b * b + c * c) * 1000 * 1000 := by omega
    have e1 : ((D.eqv (t3 a b c) (t3 0 0 0)) || decide (l < 0)) = false := by rw [eqv_no hz, decide_eq_false (by omega)]; rfl
    obtain ⟨w1, w2, w3⟩ := isq_spec hn
    have hw : 0 < whl a b c := by
      rcases Int.lt_or_eq_of_le w1 with z | z
      · exact z
      · rw [← z] at w3; omega
    have hwn : whl a b c ≤ (a * a + b * b + c * c) * 1000 * 1000 := by
      have : whl a b c * 1 ≤ whl a b c * whl a b c := Int.mul_le_mul_of_nonneg_left (by omega) w1
      have w2' : whl a b c * whl a b c ≤ (a * a + b * b + c * c) * 1000 * 1000 := w2
      omega
    have hwb : Bd 2000 (whl a b c) := bd_le w1 hwn (by walk_at "bt")
    refine run_cons (s_skip (EvTD.is (t_w (w_or (t_eq (dv 0 rfl rfl rfl) (d_glob KZ rfl) rfl rfl) (fun _ => (w_or1 (t_lt (dv 1 rfl rfl rfl) d_int))))) e1) ?_)
    refine run_cons (t_set (i := 2) (d_callQ F.root rfl rfl (a_cons (d_mul (d_mul (d_callP F.square rfl rfl (a_cons (dv 0 rfl rfl rfl) a_nil) (.mk (by walk_at "w3"))) (d_glob KO rfl) (by walk_at "mw")) (d_glob KO rfl) (by walk_at "mw")) a_nil) (.mk (by walk_at "pos") (by walk_at "bt"))) ?_ (nk rfl rfl))
    exact run_one (s_ret (d_tupG B rfl rfl (d_gunr (k := 2) [("part", 0)] (.nm 0) ["part", "whole", "long"] [none, some 2, some 1] (ds := [_, _, _]) rfl rfl (nk rfl rfl) (by decide) (s_tup (dv 0 rfl rfl rfl)) rfl rfl ⟨⟨_, rfl, (d_callP F.towards rfl rfl (a_cons (d_mul (d_mul (dv 0 rfl rfl rfl) (dv 2 rfl rfl rfl) (by walk_at "mw")) (d_glob KO rfl) (by walk_at "mw")) (a_cons (dv 1 rfl rfl rfl) a_nil)) (.mk (by walk_at "pos") (by walk_at "bt")))⟩, ⟨_, rfl, (d_callP F.towards rfl rfl (a_cons (d_mul (d_mul (dv 0 rfl rfl rfl) (dv 2 rfl rfl rfl) (by walk_at "mw")) (d_glob KO rfl) (by walk_at "mw")) (a_cons (dv 1 rfl rfl rfl) a_nil)) (.mk (by walk_at "pos") (by walk_at "bt")))⟩, ⟨_, rfl, (d_callP F.towards rfl rfl (a_cons (d_mul (d_mul (dv 0 rfl rfl rfl) (dv 2 rfl rfl rfl) (by walk_at "mw")) (d_glob KO rfl) (by walk_at "mw")) (a_cons (dv 1 rfl rfl rfl) a_nil)) (.mk (by walk_at "pos") (by walk_at "bt")))⟩, trivial⟩)) q)
  · rintro _ h M Q E q
    cases h with
    | @z l => exact run_cons (s_if (EvTD.is (t_w (w_or (t_eq (dv 0 rfl rfl rfl) (d_glob KZ rfl) rfl rfl) (fun _ => (w_or1 (t_lt (dv 1 rfl rfl rfl) d_int))))) (show (D.eqv (t3 0 0 0) (t3 0 0 0) || decide (l < 0)) = true by rw [eqv_yes, Bool.true_or])) (fun _ => run_one (stm_raise KE rfl q)) (fun z => by cases z))
    | @n a b c l h => exact run_cons (s_if (EvTD.is (t_w (w_or (t_eq (dv 0 rfl rfl rfl) (d_glob KZ rfl) rfl rfl) (fun _ => (w_or1 (t_lt (dv 1 rfl rfl rfl) d_int))))) (show (D.eqv (t3 a b c) (t3 0 0 0) || decide (l < 0)) = true by rw [decide_eq_true h, Bool.or_true])) (fun _ => run_one (stm_raise KE rfl q)) (fun z => by cases z))
/-! ### the middle of many -/
abbrev W : Type := Int × Int × Int
abbrev wd (w : W) : D := t3 w.1 w.2.1 w.2.2
def sI (l : List Int) (i : Nat) : Int := (l.take i).sum
theorem sI_succ {l : List Int} {i : Nat} (h : i < l.length) : sI l (i + 1) = sI l i + l.getD i 0 := by
  unfold sI
  rw [List.take_succ, List.sum_append, List.getElem?_eq_getElem h]
  simp [List.getD_eq_getElem?_getD, h]
theorem sI_all (l : List Int) : sI l l.length = l.sum := by unfold sI; rw [List.take_length]
abbrev wX (ws : List W) : List Int := ws.map (·.1)
abbrev wY (ws : List W) : List Int := ws.map (·.2.1)
abbrev wZ (ws : List W) : List Int := ws.map (·.2.2)
theorem getD_mapI (ws : List W) (f : W → Int) (i : Nat) (hi : i < ws.length) : (ws.map f).getD i 0 = f (ws.getD i default) := by simp [List.getD_eq_getElem?_getD, hi]
inductive RMid : List D → D → Prop
  | l {ws : List W} (h : ws ≠ []) (hn : ws.length ≤ 1000) : RMid [.lst (ws.map wd)] (.tup [t3 (wX ws).sum (wY ws).sum (wZ ws).sum, .int ws.length])
  | t {ws : List W} (h : ws ≠ []) (hn : ws.length ≤ 1000) : RMid [.tup (ws.map wd)] (.tup [t3 (wX ws).sum (wY ws).sum (wZ ws).sum, .int ws.length])
inductive BMid : List D → Prop
  | t : BMid [.tup []]
abbrev s_middle : Stmt := top 19
theorem sc_middle : FnScope ["rows", "found", "row"] ["rows"] (defScope s_middle) := ⟨rfl, rfl, rfl, by decide +kernel, rfl, by decide +kernel, by decide +kernel⟩
theorem fn_middle (hD : Df g "middle" s_middle ["rows"]) (KE : ExcC g "WayError" CW) (KZ : KRep g "ZERO" (t3 0 0 0)) (B : Bu g) (F : FD g CW) : Fn g "middle" 2 (PartSp RMid BMid CW) := by
  refine df_part hD sc_middle (fun ds v h => by cases h <;> rfl) (fun ds h => by cases h; rfl) ?_ ?_
  · rintro _ _ r M Q E q
    cases r with
    | @l ws h hn =>
      refine run_cons (s_skip (EvTD.is (t_eqI (d_len B rfl (dv 0 rfl rfl rfl) (.inr (.inl rfl))) d_int) (decide_eq_false (by simpa using h))) ?_)
      refine run_cons (t_set (i := 1) (d_glob KZ rfl) ?_ (nk rfl rfl))
      refine run_cons (stm_for (pt := .nm 2) (nk rfl rfl) (fun _ _ => rfl) ((s_listM (dv 0 rfl rfl rfl)).go ⟨fun i ρ' M' => M' = M ∧ ∃ x, ρ' = [some (.lst (ws.map wd)), some (t3 (sI (wX ws) i) (sI (wY ws) i) (sI (wZ ws) i)), x], ⟨rfl, _, rfl⟩, ?_, ?_⟩))
      · rintro i hi ρ' M' ⟨rfl, x, rfl⟩
        refine ⟨_, rfl, ?_⟩
        refine run_one (t_set (i := 1) (d_callP F.plus rfl rfl (a_cons (dv 1 rfl rfl rfl) (a_cons (dv 2 rfl rfl rfl) a_nil)) .mk) ⟨rfl, some (wd (ws.getD i default)), ?_⟩ (nk rfl rfl))
        rw [sI_succ (by simpa using hi), sI_succ (by simpa using hi), sI_succ (by simpa using hi), getD_mapI _ _ _ hi, getD_mapI _ _ _ hi, getD_mapI _ _ _ hi]
        rfl
      · rintro ρ' M' ⟨rfl, x, rfl⟩
        have e1 : sI (wX ws) ws.length = (wX ws).sum := by rw [← sI_all]; simp
        have e2 : sI (wY ws) ws.length = (wY ws).sum := by rw [← sI_all]; simp
        have e3 : sI (wZ ws) ws.length = (wZ ws).sum := by rw [← sI_all]; simp
        rw [e1, e2, e3]
        have q' : Q (.tup [t3 (wX ws).sum (wY ws).sum (wZ ws).sum, .int (ws.map wd).length]) M' := by rw [List.length_map]; exact q
        exact run_one (s_ret (dt (a_cons (dv 1 rfl rfl rfl) (a_cons (d_len B rfl (dv 0 rfl rfl rfl) (.inr (.inl rfl))) a_nil)) rfl) q')
    | @t ws h hn =>
      refine run_cons (s_skip (EvTD.is (t_eqI (d_len B rfl (dv 0 rfl rfl rfl) (.inl rfl)) d_int) (decide_eq_false (by simpa using h))) ?_)
      refine run_cons (t_set (i := 1) (d_glob KZ rfl) ?_ (nk rfl rfl))
      refine run_cons (stm_for (pt := .nm 2) (nk rfl rfl) (fun _ _ => rfl) ((s_tupM (dv 0 rfl rfl rfl)).go ⟨fun i ρ' M' => M' = M ∧ ∃ x, ρ' = [some (.tup (ws.map wd)), some (t3 (sI (wX ws) i) (sI (wY ws) i) (sI (wZ ws) i)), x], ⟨rfl, _, rfl⟩, ?_, ?_⟩))
      · rintro i hi ρ' M' ⟨rfl, x, rfl⟩
        refine ⟨_, rfl, ?_⟩
        refine run_one (t_set (i := 1) (d_callP F.plus rfl rfl (a_cons (dv 1 rfl rfl rfl) (a_cons (dv 2 rfl rfl rfl) a_nil)) .mk) ⟨rfl, some (wd (ws.getD i default)), ?_⟩ (nk rfl rfl))
        rw [sI_succ (by simpa using hi), sI_succ (by simpa using hi), sI_succ (by simpa using hi), getD_mapI _ _ _ hi, getD_mapI _ _ _ hi, getD_mapI _ _ _ hi]
        rfl
      · rintro ρ' M' ⟨rfl, x, rfl⟩
        have e1 : sI (wX ws) ws.length = (wX ws).sum := by rw [← sI_all]; simp
        have e2 : sI (wY ws) ws.length = (wY ws).sum := by rw [← sI_all]; simp
        have e3 : sI (wZ ws) ws.length = (wZ ws).sum := by rw [← sI_all]; simp
        rw [e1, e2, e3]
        have q' : Q (.tup [t3 (wX ws).sum (wY ws).sum (wZ ws).sum, .int (ws.map wd).length]) M' := by rw [List.length_map]; exact q
        exact run_one (s_ret (dt (a_cons (dv 1 rfl rfl rfl) (a_cons (d_len B rfl (dv 0 rfl rfl rfl) (.inl rfl)) a_nil)) rfl) q')
  · rintro _ ⟨⟩ M Q E q
    exact run_cons (s_if (EvTD.is (t_eqI (d_len B rfl (dv 0 rfl rfl rfl) (.inl rfl)) d_int) rfl) (fun _ => run_one (stm_raise KE rfl q)) (fun z => by cases z))
/-! ### between two -/
abbrev bet (x y n d : Int) : D := pl (x * den ((y - x) * n) (1 * d) + num ((y - x) * n) (1 * d) * 1) (1 * den ((y - x) * n) (1 * d))
inductive RBet : List D → D → Prop
  | mk {a b c x y z n d : Int} (h : Bd 100 a ∧ Bd 100 b ∧ Bd 100 c) (h' : Bd 100 x ∧ Bd 100 y ∧ Bd 100 z) (hn : Bd 100 n) (hd : Bd 100 d) (hp : 0 < d) : RBet [t3 a b c, t3 x y z, t2 n d] (.tup [bet a x n d, bet b y n d, bet c z n d])
def pick (a b c : D) (i : Nat) : D := [a, b, c].getD i .non
abbrev s_between : Stmt := top 26
theorem sc_between : FnScope ["one", "other", "share", "found", "spot"] ["one", "other", "share"] (defScope s_between) := ⟨rfl, rfl, rfl, by decide +kernel, rfl, by decide +kernel, by decide +kernel⟩
theorem fn_between (hD : Df g "between" s_between ["one", "other", "share"]) (B : Bu g) (F : FD g CW) : Fn g "between" 4 (PureSp RBet) := by
  refine df_pure hD sc_between (fun ds v h => by cases h; rfl) ?_
  rintro _ _ ⟨⟨a1, a2, a3⟩, ⟨b1, b2, b3⟩, hn, hd, hp⟩ M Q E q
  rename_i a b c x y z n d
  have hp1 : 0 < 1 * d := by omega
  have turn : ∀ {u v : Int}, Bd 100 u → Bd 100 v → Bd 400 (num ((v - u) * n) (1 * d)) ∧ Bd 400 (den ((v - u) * n) (1 * d)) ∧ 0 < den ((v - u) * n) (1 * d) := fun {u v} hu hv => by
    refine ⟨?_, ?_, den_pos hp1⟩
    · exact bd_num (by walk_at "bt") hp1
    · exact bd_den (by walk_at "bt") hp1
  refine run_cons (stm_set (i := 3) (nk rfl rfl) (fun _ => rfl) (ev_mut (EvAD.go a_nil ⟨by decide, fun p => ?_⟩)))
  refine run_cons (stm_for (pt := .nm 4) (nk rfl rfl) (fun _ _ => rfl) ((s_range1 B rfl d_int ⟨by decide, by decide⟩).go ⟨fun i ρ' M' => M' = (p, .lst ([bet a x n d, bet b y n d, bet c z n d].take i)) :: M ∧ ∃ u, ρ' = [some (t3 a b c), some (t3 x y z), some (t2 n d), some (.ref p), u], ⟨rfl, _, rfl⟩, ?_, ?_⟩))
  · rintro i hi ρ' M' ⟨rfl, u, rfl⟩
    refine ⟨_, rfl, ?_⟩
    have hi3 : i = 0 ∨ i = 1 ∨ i = 2 := by have : i < 3 := hi; omega
    rcases hi3 with rfl | rfl | rfl
    · obtain ⟨u2, u3, u4⟩ := turn a1 b1
      exact run_one (t_app (j := 0) (dv 3 rfl rfl rfl) rfl (d_callQ F.added rfl rfl (a_cons (dt (a_cons (d_ixT (dv 0 rfl rfl rfl) (dv 4 rfl rfl rfl) rfl) (a_cons d_int a_nil)) rfl) (a_cons (d_callP F.times rfl rfl (a_cons (dt (a_cons (d_sub (d_ixT (dv 1 rfl rfl rfl) (dv 4 rfl rfl rfl) rfl) (d_ixT (dv 0 rfl rfl rfl) (dv 4 rfl rfl rfl) rfl)) (a_cons d_int a_nil)) rfl) (a_cons (dv 2 rfl rfl rfl) a_nil)) (.mk (by walk_at "bt") (by walk_at "bt") (by walk_at "bt") (by walk_at "bt") (by walk_at "pos") (by walk_at "pos"))) a_nil)) (.mk (by walk_at "bt") (by walk_at "bt") (by walk_at "bt") (by walk_at "bt") (by walk_at "pos") (by walk_at "pos"))) (Nat.lt_of_le_of_lt (List.length_take_le ..) (by decide)) ⟨rfl, _, rfl⟩)
    · obtain ⟨u2, u3, u4⟩ := turn a2 b2
      exact run_one (t_app (j := 0) (dv 3 rfl rfl rfl) rfl (d_callQ F.added rfl rfl (a_cons (dt (a_cons (d_ixT (dv 0 rfl rfl rfl) (dv 4 rfl rfl rfl) rfl) (a_cons d_int a_nil)) rfl) (a_cons (d_callP F.times rfl rfl (a_cons (dt (a_cons (d_sub (d_ixT (dv 1 rfl rfl rfl) (dv 4 rfl rfl rfl) rfl) (d_ixT (dv 0 rfl rfl rfl) (dv 4 rfl rfl rfl) rfl)) (a_cons d_int a_nil)) rfl) (a_cons (dv 2 rfl rfl rfl) a_nil)) (.mk (by walk_at "bt") (by walk_at "bt") (by walk_at "bt") (by walk_at "bt") (by walk_at "pos") (by walk_at "pos"))) a_nil)) (.mk (by walk_at "bt") (by walk_at "bt") (by walk_at "bt") (by walk_at "bt") (by walk_at "pos") (by walk_at "pos"))) (Nat.lt_of_le_of_lt (List.length_take_le ..) (by decide)) ⟨rfl, _, rfl⟩)
    · obtain ⟨u2, u3, u4⟩ := turn a3 b3
      exact run_one (t_app (j := 0) (dv 3 rfl rfl rfl) rfl (d_callQ F.added rfl rfl (a_cons (dt (a_cons (d_ixT (dv 0 rfl rfl rfl) (dv 4 rfl rfl rfl) rfl) (a_cons d_int a_nil)) rfl) (a_cons (d_callP F.times rfl rfl (a_cons (dt (a_cons (d_sub (d_ixT (dv 1 rfl rfl rfl) (dv 4 rfl rfl rfl) rfl) (d_ixT (dv 0 rfl rfl rfl) (dv 4 rfl rfl rfl) rfl)) (a_cons d_int a_nil)) rfl) (a_cons (dv 2 rfl rfl rfl) a_nil)) (.mk (by walk_at "bt") (by walk_at "bt") (by walk_at "bt") (by walk_at "bt") (by walk_at "pos") (by walk_at "pos"))) a_nil)) (.mk (by walk_at "bt") (by walk_at "bt") (by walk_at "bt") (by walk_at "bt") (by walk_at "pos") (by walk_at "pos"))) (Nat.lt_of_le_of_lt (List.length_take_le ..) (by decide)) ⟨rfl, _, rfl⟩)
  · rintro ρ' M' ⟨rfl, u, rfl⟩
    exact run_one (stm_ret (ev_view ((d_tupleM (j := 0) B rfl (dv 3 rfl rfl rfl) rfl).go ⟨M, vw_drop, q⟩)))
end K1
set_option Elab.async false
set_option linter.all false
set_option maxRecDepth 100000
set_option maxHeartbeats 4000000
/-! K1E: told, and what is told plainly. -/
namespace K1
open PySem L2 DL
local macro_rules | `(tactic| walk_at "bd") => `(tactic| first
  | assumption
  | exact bd_lit (n := 10) _ rfl
  | exact bd_add (by walk_at "bd") (by walk_at "bd")
  | exact bd_sub (by walk_at "bd") (by walk_at "bd")
  | exact bd_mul (by walk_at "bd") (by walk_at "bd")
  | exact bd_neg (by walk_at "bd"))
local macro_rules | `(tactic| walk_at "mw") => `(tactic| exact mulw (by walk_at "bd") (by walk_at "bd") (by rfl))
local macro_rules | `(tactic| walk_at "bt") => `(tactic| exact bd_to (by walk_at "bd") (by rfl))
local macro_rules | `(tactic| walk_at "w3") => `(tactic| exact ⟨by walk_at "bt", by walk_at "bt", by walk_at "bt"⟩)
local macro_rules | `(tactic| walk_at "pos") => `(tactic| first | assumption | decide | omega)
local macro_rules | `(tactic| walk_at "nz3") => `(tactic| first | assumption | (unfold Nz; decide))
local macro_rules | `(tactic| walk_at "hz") => `(tactic| exact Nat.le_of_ble_eq_true rfl)
local macro_rules | `(tactic| walk_at "ne") => `(tactic| first | assumption | decide)
local macro_rules | `(tactic| walk_at "und") => `(tactic| first | exact Or.inl ⟨by decide, by walk_at "bt"⟩ | exact Or.inr ⟨by decide, by decide⟩)
variable {g : Gx} {CW P : Addr}
def SpTold (g : Gx) (k : Nat) (CS : Addr) : SpD := fun ds M Q _ => ∃ l, ds = [.lam l] ∧ lmB l.scope = true ∧ (∀ (pm cv ctv : Value), bindArgs (PySem.W.kla_fn "<lambda>" l.q l.params l.body l.scope [] pm cv ctv) ⟨[], []⟩ = pure []) ∧
  Ev ⟨g, [], l.scope, k, fun _ => false, none, true⟩ [] M l.body Q (fun C M' => C = CS ∧ Q (.str "WayError") M')
abbrev s_law_told : Stmt := top 32
theorem sc_law_told : FnScope ["what"] ["what"] (defScope s_law_told) := ⟨rfl, rfl, rfl, by decide +kernel, rfl, by decide +kernel, by decide +kernel⟩
theorem fn_told (hD : Df g "_law_told" s_law_told ["what"]) (KE : ExcC g "WayError" CW) (hex : PySem.W.exmOne g.K (.ref CW) (.ref CW) = some true) (k : Nat) : Fn g "_law_told" (k + 2) (SpTold g k CW) := by
  refine df_mk hD sc_law_told (fun ds M Q E ⟨l, h, _⟩ => by subst h; rfl) ?_
  rintro _ M Q E ⟨l, rfl, hS, hbind, hb⟩
  refine run_one (stm_tryR (CS := CW) rfl rfl KE.m (run_one (stm_ret (ev_lamcall (dv 0 rfl rfl rfl) hS hbind (Nat.le_refl _) (hb.mono (fun _ _ q => q) fun C M' ⟨e, q⟩ => ?_)))))
  subst e
  exact ⟨true, hex, fun _ => q, fun z => by cases z⟩
structure FN (g : Gx) (CW : Addr) : Prop extends FD g CW where
  length : Fn g "length" 3 (PureSp RLen)
  made : Fn g "made" 9 (PartSp RMade BMade CW)
  mirrored : Fn g "mirrored" 3 (PartSp RMir BUp CW)
  parted : Fn g "parted" 3 (PartSp RPar BUp CW)
  middle : Fn g "middle" 2 (PartSp RMid BMid CW)
  order : Fn g "order" 1 (PureSp ROrder)
  down : Fn g "down" 1 (PureSp RDown)
  between : Fn g "between" 4 (PureSp RBet)
  same_way : Fn g "same_way" 3 (PureSp RSw)
  told : Fn g "_law_told" 11 (SpTold g 9 CW)
theorem isq99 : isq 99 = 9 := isq_eq (by decide) (by decide) (by decide)
theorem isq0 : isq 0 = 0 := isq_eq (by decide) (by decide) (by decide)
theorem isq25 : isq (1000 * 1000 * (3 * 3 + 4 * 4 + 0 * 0)) = 5000 := isq_eq (by decide) (by decide) (by decide)
theorem whl345 : isq ((3 * 3 + 4 * 4 + 0 * 0) * 1000 * 1000) = 5000 := isq_eq (by decide) (by decide) (by decide)
theorem whl100 : isq ((-1 * -1 + 0 * 0 + 0 * 0) * 1000 * 1000) = 1000 := isq_eq (by decide) (by decide) (by decide)
abbrev s_law_plain : Stmt := top 42
theorem sc_law_plain : FnScope ["told", "bad", "due", "k", "f"] [] (defScope s_law_plain) := ⟨rfl, rfl, rfl, by decide +kernel, rfl, by decide +kernel, by decide +kernel⟩
def asgE (i : Nat) : Expr := match (defBody s_law_plain).getD i (.Pass ⟨0, 0, 0, 0⟩) with
  | .Assign _ e _ => e
  | _ => .Constant .none 0 ⟨0, 0, 0, 0⟩
def rhsE : Expr → Expr
  | .BinOp _ _ r _ => r
  | e => e
abbrev plL (g : Gx) (P : Addr) : Lx := ⟨g, ["told", "bad", "due", "k", "f"], defScope s_law_plain, 12, fun _ => true, some (P, some ("_law_plain.<locals>." ++ "<lambda>")), true⟩
section
variable {ρ : Ro} {M : Store}
theorem told0 (F : FN g CW) : EvD (plL g P) ρ M (asgE 0) (.lst [t3 5 7 9, t3 (-3) (-3) (-3), t3 (-2) (-4) (-6), .int 32, t3 0 0 1]) := by
  refine EvD.is (dl (a_cons (d_callP F.plus rfl rfl (a_cons (dt (a_cons d_int (a_cons d_int (a_cons d_int a_nil))) rfl) (a_cons (dt (a_cons d_int (a_cons d_int (a_cons d_int a_nil))) rfl) a_nil)) .mk) (a_cons (d_callP F.minus rfl rfl (a_cons (dt (a_cons d_int (a_cons d_int (a_cons d_int a_nil))) rfl) (a_cons (dt (a_cons d_int (a_cons d_int (a_cons d_int a_nil))) rfl) a_nil)) .mk) (a_cons (d_callP F.stretched rfl rfl (a_cons (dt (a_cons d_int (a_cons d_int (a_cons d_int a_nil))) rfl) (a_cons (d_neg d_int) a_nil)) (.mk (by walk_at "w3") (by walk_at "bt"))) (a_cons (d_callP F.along rfl rfl (a_cons (dt (a_cons d_int (a_cons d_int (a_cons d_int a_nil))) rfl) (a_cons (dt (a_cons d_int (a_cons d_int (a_cons d_int a_nil))) rfl) a_nil)) (.mk (by walk_at "w3") (by walk_at "w3"))) (a_cons (d_callP F.across rfl rfl (a_cons (dt (a_cons d_int (a_cons d_int (a_cons d_int a_nil))) rfl) (a_cons (dt (a_cons d_int (a_cons d_int (a_cons d_int a_nil))) rfl) a_nil)) (.mk (by walk_at "w3") (by walk_at "w3"))) a_nil))))) rfl) ?_
  try simp only [isq99, isq0, isq25, whl, whl345, whl100]
  try rfl
theorem told1 (F : FN g CW) : EvD (plL g P) ρ M (rhsE (asgE 1)) (.lst [.int 1, .int 25, .int 9, .int 0, .int 5000, t3 60 80 0, t3 0 0 0]) := by
  refine EvD.is (dl (a_cons (d_callP F.block rfl rfl (a_cons (dt (a_cons d_int (a_cons d_int (a_cons d_int a_nil))) rfl) (a_cons (dt (a_cons d_int (a_cons d_int (a_cons d_int a_nil))) rfl) (a_cons (dt (a_cons d_int (a_cons d_int (a_cons d_int a_nil))) rfl) a_nil))) (.mk (by walk_at "w3") (by walk_at "w3") (by walk_at "w3"))) (a_cons (d_callP F.square rfl rfl (a_cons (dt (a_cons d_int (a_cons d_int (a_cons d_int a_nil))) rfl) a_nil) (.mk (by walk_at "w3"))) (a_cons (d_callQ F.root rfl rfl (a_cons d_int a_nil) (.mk (by walk_at "pos") (by walk_at "bt"))) (a_cons (d_callQ F.root rfl rfl (a_cons d_int a_nil) (.mk (by walk_at "pos") (by walk_at "bt"))) (a_cons (d_callP F.length rfl rfl (a_cons (dt (a_cons d_int (a_cons d_int (a_cons d_int a_nil))) rfl) a_nil) (.mk (by walk_at "w3"))) (a_cons (d_callQ F.made rfl rfl (a_cons (dt (a_cons d_int (a_cons d_int (a_cons d_int a_nil))) rfl) (a_cons d_int a_nil)) (.mk (by walk_at "nz3") (by walk_at "pos") (by walk_at "w3") (by walk_at "bt"))) (a_cons (d_callQ F.made rfl rfl (a_cons (dt (a_cons (d_neg d_int) (a_cons d_int (a_cons d_int a_nil))) rfl) (a_cons d_int a_nil)) (.mk (by walk_at "nz3") (by walk_at "pos") (by walk_at "w3") (by walk_at "bt"))) a_nil))))))) rfl) ?_
  try simp only [isq99, isq0, isq25, whl, whl345, whl100]
  try rfl
  
theorem told2 (F : FN g CW) : EvD (plL g P) ρ M (rhsE (asgE 2)) (.lst [.int (-3), .tup [t3 4 4 0, .int 4], .tup [t3 0 16 0, t3 12 0 20], .tup [t3 4 6 8, .int 2], .int 2, .int 0]) := by
  refine EvD.is (dl (a_cons (d_callP F.towards rfl rfl (a_cons (d_neg d_int) (a_cons d_int a_nil)) (.mk (by walk_at "pos") (by walk_at "bt"))) (a_cons (d_callQ F.mirrored rfl rfl (a_cons (dt (a_cons d_int (a_cons (d_neg d_int) (a_cons d_int a_nil))) rfl) (a_cons (dt (a_cons d_int (a_cons d_int (a_cons d_int a_nil))) rfl) a_nil)) (.mk (by walk_at "w3") (by walk_at "w3") (by walk_at "nz3"))) (a_cons (d_callQ F.parted rfl rfl (a_cons (dt (a_cons d_int (a_cons d_int (a_cons d_int a_nil))) rfl) (a_cons (dt (a_cons d_int (a_cons d_int (a_cons d_int a_nil))) rfl) a_nil)) (.mk (by walk_at "w3") (by walk_at "w3") (by walk_at "nz3"))) (a_cons (d_callQ F.middle rfl rfl (a_cons (dt (a_cons (dt (a_cons d_int (a_cons d_int (a_cons d_int a_nil))) rfl) (a_cons (dt (a_cons d_int (a_cons d_int (a_cons d_int a_nil))) rfl) a_nil)) rfl) a_nil) (.t (ws := [(1, 2, 3), (3, 4, 5)]) (by decide) (by decide))) (a_cons (d_callP F.common rfl rfl (a_cons (d_neg d_int) (a_cons d_int a_nil)) (.mk (by walk_at "bt") (by walk_at "bt"))) (a_cons (d_callP F.common rfl rfl (a_cons d_int (a_cons d_int a_nil)) (.mk (by walk_at "bt") (by walk_at "bt"))) a_nil)))))) rfl) ?_
  try simp only [isq99, isq0, isq25, whl, whl345, whl100]
  try rfl
theorem told3 (F : FN g CW) : EvD (plL g P) ρ M (rhsE (asgE 3)) (.lst [t2 (-3) 2, .int 1, t2 5 6, t2 1 2, .int (-4), .tup [t2 2 1, t2 1 1, t2 1 2]]) := by
  refine EvD.is (dl (a_cons (d_callQ F.plain rfl rfl (a_cons d_int (a_cons (d_neg d_int) a_nil)) (.mk (by walk_at "und") (by walk_at "bt"))) (a_cons (d_callP F.order rfl rfl (a_cons (dt (a_cons d_int (a_cons d_int a_nil)) rfl) (a_cons (dt (a_cons d_int (a_cons d_int a_nil)) rfl) a_nil)) (.mk (by walk_at "bt") (by walk_at "bt") (by walk_at "bt") (by walk_at "bt"))) (a_cons (d_callQ F.added rfl rfl (a_cons (dt (a_cons d_int (a_cons d_int a_nil)) rfl) (a_cons (dt (a_cons d_int (a_cons d_int a_nil)) rfl) a_nil)) (.mk (by walk_at "bt") (by walk_at "bt") (by walk_at "bt") (by walk_at "bt") (by walk_at "pos") (by walk_at "pos"))) (a_cons (d_callP F.times rfl rfl (a_cons (dt (a_cons d_int (a_cons d_int a_nil)) rfl) (a_cons (dt (a_cons d_int (a_cons d_int a_nil)) rfl) a_nil)) (.mk (by walk_at "bt") (by walk_at "bt") (by walk_at "bt") (by walk_at "bt") (by walk_at "pos") (by walk_at "pos"))) (a_cons (d_callP F.down rfl rfl (a_cons (dt (a_cons (d_neg d_int) (a_cons d_int a_nil)) rfl) a_nil) (.mk (by walk_at "pos") (by walk_at "bt"))) (a_cons (d_callP F.between rfl rfl (a_cons (dt (a_cons d_int (a_cons d_int (a_cons d_int a_nil))) rfl) (a_cons (dt (a_cons d_int (a_cons d_int (a_cons d_int a_nil))) rfl) (a_cons (dt (a_cons d_int (a_cons d_int a_nil)) rfl) a_nil))) (.mk ⟨(by walk_at "bt"), (by walk_at "bt"), (by walk_at "bt")⟩ ⟨(by walk_at "bt"), (by walk_at "bt"), (by walk_at "bt")⟩ (by walk_at "bt") (by walk_at "bt") (by walk_at "pos"))) a_nil)))))) rfl) ?_
  try simp only [isq99, isq0, isq25, whl, whl345, whl100]
  try rfl
theorem told4 (F : FN g CW) : EvD (plL g P) ρ M (rhsE (asgE 4)) (.lst [.bl true, .bl false, .bl false]) := by
  refine EvD.is (dl (a_cons (d_callP F.same_way rfl rfl (a_cons (dt (a_cons d_int (a_cons d_int (a_cons d_int a_nil))) rfl) (a_cons (dt (a_cons d_int (a_cons d_int (a_cons d_int a_nil))) rfl) a_nil)) (.mk (by walk_at "w3") (by walk_at "w3"))) (a_cons (d_callP F.same_way rfl rfl (a_cons (dt (a_cons d_int (a_cons d_int (a_cons d_int a_nil))) rfl) (a_cons (dt (a_cons (d_neg d_int) (a_cons (d_neg d_int) (a_cons (d_neg d_int) a_nil))) rfl) a_nil)) (.mk (by walk_at "w3") (by walk_at "w3"))) (a_cons (d_callP F.same_way rfl rfl (a_cons (dt (a_cons d_int (a_cons d_int (a_cons d_int a_nil))) rfl) (a_cons (dt (a_cons d_int (a_cons d_int (a_cons d_int a_nil))) rfl) a_nil)) (.mk (by walk_at "w3") (by walk_at "w3"))) a_nil))) rfl) ?_
  try simp only [isq99, isq0, isq25, whl, whl345, whl100]
  try rfl
theorem due0 : EvD (plL g P) ρ M (asgE 8) (.lst [t3 5 7 9, t3 (-3) (-3) (-3), t3 (-2) (-4) (-6), .int 32, t3 0 0 1, .int 1, .int 25, .int 9, .int 0, .int 5000, t3 60 80 0, t3 0 0 0, .int (-3), .tup [t3 4 4 0, .int 4], .tup [t3 0 16 0, t3 12 0 20], .tup [t3 4 6 8, .int 2], .int 2, .int 0, t2 (-3) 2, .int 1, t2 5 6, t2 1 2, .int (-4), .tup [t2 2 1, t2 1 1, t2 1 2], .bl true, .bl false, .bl false]) := by
  refine dl ?_ rfl
  refine a_cons ?x ?_
  case x => exact (dt (a_cons d_int (a_cons d_int (a_cons d_int a_nil))) rfl)
  refine a_cons ?x ?_
  case x => exact (dt (a_cons (d_neg d_int) (a_cons (d_neg d_int) (a_cons (d_neg d_int) a_nil))) rfl)
  refine a_cons ?x ?_
  case x => exact (dt (a_cons (d_neg d_int) (a_cons (d_neg d_int) (a_cons (d_neg d_int) a_nil))) rfl)
  refine a_cons ?x ?_
  case x => exact d_int
  refine a_cons ?x ?_
  case x => exact (dt (a_cons d_int (a_cons d_int (a_cons d_int a_nil))) rfl)
  refine a_cons ?x ?_
  case x => exact d_int
  refine a_cons ?x ?_
  case x => exact d_int
  refine a_cons ?x ?_
  case x => exact d_int
  refine a_cons ?x ?_
  case x => exact d_int
  refine a_cons ?x ?_
  case x => exact d_int
  refine a_cons ?x ?_
  case x => exact (dt (a_cons d_int (a_cons d_int (a_cons d_int a_nil))) rfl)
  refine a_cons ?x ?_
  case x => exact (dt (a_cons d_int (a_cons d_int (a_cons d_int a_nil))) rfl)
  refine a_cons ?x ?_
  case x => exact (d_neg d_int)
  refine a_cons ?x ?_
  case x => exact (dt (a_cons (dt (a_cons d_int (a_cons d_int (a_cons d_int a_nil))) rfl) (a_cons d_int a_nil)) rfl)
  refine a_cons ?x ?_
  case x => exact (dt (a_cons (dt (a_cons d_int (a_cons d_int (a_cons d_int a_nil))) rfl) (a_cons (dt (a_cons d_int (a_cons d_int (a_cons d_int a_nil))) rfl) a_nil)) rfl)
  refine a_cons ?x ?_
  case x => exact (dt (a_cons (dt (a_cons d_int (a_cons d_int (a_cons d_int a_nil))) rfl) (a_cons d_int a_nil)) rfl)
  refine a_cons ?x ?_
  case x => exact d_int
  refine a_cons ?x ?_
  case x => exact d_int
  refine a_cons ?x ?_
  case x => exact (dt (a_cons (d_neg d_int) (a_cons d_int a_nil)) rfl)
  refine a_cons ?x ?_
  case x => exact d_int
  refine a_cons ?x ?_
  case x => exact (dt (a_cons d_int (a_cons d_int a_nil)) rfl)
  refine a_cons ?x ?_
  case x => exact (dt (a_cons d_int (a_cons d_int a_nil)) rfl)
  refine a_cons ?x ?_
  case x => exact (d_neg d_int)
  refine a_cons ?x ?_
  case x => exact (dt (a_cons (dt (a_cons d_int (a_cons d_int a_nil)) rfl) (a_cons (dt (a_cons d_int (a_cons d_int a_nil)) rfl) (a_cons (dt (a_cons d_int (a_cons d_int a_nil)) rfl) a_nil))) rfl)
  refine a_cons ?x ?_
  case x => exact d_bl
  refine a_cons ?x ?_
  case x => exact d_bl
  refine a_cons ?x ?_
  case x => exact d_bl
  exact a_nil
end
theorem fn_plain_law (hD : Df g "_law_plain" s_law_plain [] (some (P, some ("_law_plain.<locals>." ++ "<lambda>")))) (B : Bu g) (KZ : KRep g "ZERO" (t3 0 0 0)) (KO : KRep g "ONE" (.int 1000)) (F : FN g CW) : Fn g "_law_plain" 13 (fun ds M Q _ => ds = [] ∧ Q (.bl true) M) := by
  refine df_mk hD sc_law_plain (fun ds M Q E ⟨h, _⟩ => by subst h; rfl) ?_
  rintro _ M Q E ⟨rfl, q⟩
  refine run_cons (t_set (i := 0) (told0 F) ?_ (nk rfl rfl))
  refine run_cons (t_set (i := 0) (d_cat (dv 0 rfl rfl rfl) (told1 F) (Nat.le_of_ble_eq_true rfl)) ?_ (nk rfl rfl))
  refine run_cons (t_set (i := 0) (d_cat (dv 0 rfl rfl rfl) (told2 F) (Nat.le_of_ble_eq_true rfl)) ?_ (nk rfl rfl))
  refine run_cons (t_set (i := 0) (d_cat (dv 0 rfl rfl rfl) (told3 F) (Nat.le_of_ble_eq_true rfl)) ?_ (nk rfl rfl))
  refine run_cons (t_set (i := 0) (d_cat (dv 0 rfl rfl rfl) (told4 F) (Nat.le_of_ble_eq_true rfl)) ?_ (nk rfl rfl))
  refine run_cons (t_set (i := 1) (dl (a_cons (d_lam rfl rfl) (a_cons (d_lam rfl rfl) (a_cons (d_lam rfl rfl) (a_cons (d_lam rfl rfl) (a_cons (d_lam rfl rfl) a_nil))))) rfl) ?_ (nk rfl rfl))
  refine run_cons (t_set (i := 1) (d_cat (dv 1 rfl rfl rfl) (dl (a_cons (d_lam rfl rfl) (a_cons (d_lam rfl rfl) (a_cons (d_lam rfl rfl) a_nil))) rfl) (by walk_at "hz")) ?_ (nk rfl rfl))
  refine run_cons (s_skip (EvTD.is (t_w (w_or (t_ne (d_none [("k", 3), ("f", 4)] (.tp [3, 4]) ⟨_, _, _, rfl, nk rfl rfl, nk rfl rfl, trivial⟩ rfl (by decide) (s_enum B rfl (dv 1 rfl rfl rfl)) rfl ⟨⟨_, ⟨_, rfl, rfl, rfl⟩, EvTD.is (t_ne (d_call F.told (Nat.le_of_ble_eq_true rfl) rfl (a_cons (dv 4 rfl rfl rfl) a_nil) ⟨_, rfl, rfl, fun _ _ _ => rfl, x_callQ F.root rfl rfl (a_cons (d_neg d_int) a_nil) (.mk (by decide)) ⟨rfl, rfl, rfl⟩⟩) d_str (by decide +kernel) (by decide +kernel)) (by decide +kernel)⟩, ⟨_, ⟨_, rfl, rfl, rfl⟩, EvTD.is (t_ne (d_call F.told (Nat.le_of_ble_eq_true rfl) rfl (a_cons (dv 4 rfl rfl rfl) a_nil) ⟨_, rfl, rfl, fun _ _ _ => rfl, x_callQ F.made rfl rfl (a_cons (dt (a_cons d_int (a_cons d_int (a_cons d_int a_nil))) rfl) (a_cons d_int a_nil)) .z ⟨rfl, rfl, rfl⟩⟩) d_str (by decide +kernel) (by decide +kernel)) (by decide +kernel)⟩, ⟨_, ⟨_, rfl, rfl, rfl⟩, EvTD.is (t_ne (d_call F.told (Nat.le_of_ble_eq_true rfl) rfl (a_cons (dv 4 rfl rfl rfl) a_nil) ⟨_, rfl, rfl, fun _ _ _ => rfl, x_callQ F.made rfl rfl (a_cons (dt (a_cons d_int (a_cons d_int (a_cons d_int a_nil))) rfl) (a_cons (d_neg d_int) a_nil)) (.n (by decide)) ⟨rfl, rfl, rfl⟩⟩) d_str (by decide +kernel) (by decide +kernel)) (by decide +kernel)⟩, ⟨_, ⟨_, rfl, rfl, rfl⟩, EvTD.is (t_ne (d_call F.told (Nat.le_of_ble_eq_true rfl) rfl (a_cons (dv 4 rfl rfl rfl) a_nil) ⟨_, rfl, rfl, fun _ _ _ => rfl, x_callQ F.mirrored rfl rfl (a_cons (dt (a_cons d_int (a_cons d_int (a_cons d_int a_nil))) rfl) (a_cons (dt (a_cons d_int (a_cons d_int (a_cons d_int a_nil))) rfl) a_nil)) .mk ⟨rfl, rfl, rfl⟩⟩) d_str (by decide +kernel) (by decide +kernel)) (by decide +kernel)⟩, ⟨_, ⟨_, rfl, rfl, rfl⟩, EvTD.is (t_ne (d_call F.told (Nat.le_of_ble_eq_true rfl) rfl (a_cons (dv 4 rfl rfl rfl) a_nil) ⟨_, rfl, rfl, fun _ _ _ => rfl, x_callQ F.parted rfl rfl (a_cons (dt (a_cons d_int (a_cons d_int (a_cons d_int a_nil))) rfl) (a_cons (dt (a_cons d_int (a_cons d_int (a_cons d_int a_nil))) rfl) a_nil)) .mk ⟨rfl, rfl, rfl⟩⟩) d_str (by decide +kernel) (by decide +kernel)) (by decide +kernel)⟩, ⟨_, ⟨_, rfl, rfl, rfl⟩, EvTD.is (t_ne (d_call F.told (Nat.le_of_ble_eq_true rfl) rfl (a_cons (dv 4 rfl rfl rfl) a_nil) ⟨_, rfl, rfl, fun _ _ _ => rfl, x_callQ F.middle rfl rfl (a_cons (dt (a_nil) rfl) a_nil) .t ⟨rfl, rfl, rfl⟩⟩) d_str (by decide +kernel) (by decide +kernel)) (by decide +kernel)⟩, ⟨_, ⟨_, rfl, rfl, rfl⟩, EvTD.is (t_ne (d_call F.told (Nat.le_of_ble_eq_true rfl) rfl (a_cons (dv 4 rfl rfl rfl) a_nil) ⟨_, rfl, rfl, fun _ _ _ => rfl, x_callQ F.plain rfl rfl (a_cons d_int (a_cons d_int a_nil)) .mk ⟨rfl, rfl, rfl⟩⟩) d_str (by decide +kernel) (by decide +kernel)) (by decide +kernel)⟩, ⟨_, ⟨_, rfl, rfl, rfl⟩, EvTD.is (t_ne (d_call F.told (Nat.le_of_ble_eq_true rfl) rfl (a_cons (dv 4 rfl rfl rfl) a_nil) ⟨_, rfl, rfl, fun _ _ _ => rfl, x_callQ F.added rfl rfl (a_cons (dt (a_cons d_int (a_cons d_int a_nil)) rfl) (a_cons (dt (a_cons d_int (a_cons d_int a_nil)) rfl) a_nil)) (.mk (by walk_at "bt") (by walk_at "bt") (by walk_at "bt") (by walk_at "bt") (by decide)) ⟨rfl, rfl, rfl⟩⟩) d_str (by decide +kernel) (by decide +kernel)) (by decide +kernel)⟩, trivial⟩) (dl (a_nil) rfl) rfl rfl) (fun _ => w_or1 (t_ne (dt (a_cons (d_glob KO rfl) (a_cons (d_glob KZ rfl) a_nil)) rfl) (dt (a_cons d_int (a_cons (dt (a_cons d_int (a_cons d_int (a_cons d_int a_nil))) rfl) a_nil)) rfl) rfl rfl)))) rfl) ?_)
  refine run_cons (t_set (i := 2) due0 ?_ (nk rfl rfl))
  
  refine run_one (s_ret (EvD.is (d_eq (dv 0 rfl rfl rfl) (dv 2 rfl rfl rfl) (by decide +kernel) (by decide +kernel)) ?_) q)
  
  refine congrArg D.bl ?_
  decide +kernel
end K1
set_option Elab.async false
set_option linter.all false
set_option maxRecDepth 100000
set_option maxHeartbeats 4000000
/-! K1F: the arithmetic of the law. -/
namespace K1
open PySem L2 DL
theorem mul_mono {a b c d : Int} (h0 : 0 ≤ a) (h : a ≤ b) (h0' : 0 ≤ c) (h' : c ≤ d) : a * c ≤ b * d :=
  Int.le_trans (Int.mul_le_mul_of_nonneg_left h' h0) (Int.mul_le_mul_of_nonneg_right h (by omega))
theorem mul_monoS {a b c d : Int} (h0 : 0 ≤ a) (h : a < b) (h0' : 0 ≤ c) (h' : c < d) : a * c < b * d :=
  Int.lt_of_le_of_lt (Int.mul_le_mul_of_nonneg_left (by omega) h0) (Int.mul_lt_mul_of_pos_right h (by omega))
/-- the floor of x L 1000 / w -/
structure Flo (x L w T : Int) : Prop where
  x0 : 0 ≤ x
  t0 : 0 ≤ T
  lo : T * w ≤ x * L * 1000
  hi : x * L * 1000 < (T + 1) * w
theorem Flo.of {x L w : Int} (hx : 0 ≤ x) (hL : 0 ≤ L) (hw : 0 < w) : Flo x L w ((x * L * 1000).fdiv w) := by
  have h0 : 0 ≤ x * L * 1000 := Int.mul_nonneg (Int.mul_nonneg hx hL) (by decide)
  rw [Int.fdiv_eq_ediv_of_nonneg _ (by omega)]
  refine ⟨hx, Int.ediv_nonneg h0 (by omega), Int.ediv_mul_le _ (by omega), ?_⟩
  have := Int.lt_ediv_add_one_mul_self (x * L * 1000) hw
  exact this
theorem tow_flo {a L w : Int} (hL : 0 ≤ L) (hw : 0 < w) : ∃ x T, Flo x L w T ∧ ((a = x ∧ tow (a * L * 1000) w = T) ∨ (a = -x ∧ 0 < x ∧ tow (a * L * 1000) w = -T)) := by
  unfold tow
  by_cases h : 0 ≤ a
  · refine ⟨a, _, Flo.of h hL hw, .inl ⟨rfl, ?_⟩⟩
    rw [if_pos (Int.mul_nonneg (Int.mul_nonneg h hL) (by decide))]
  · by_cases h2 : a * L * 1000 ≥ 0
    · have e : L = 0 := by
        rcases Int.lt_or_eq_of_le hL with z | z
        · have : a * L < 0 := Int.mul_neg_of_neg_of_pos (by omega) z
          omega
        · exact z.symm
      subst e
      refine ⟨-a, _, Flo.of (by omega) hL hw, .inr ⟨by omega, by omega, ?_⟩⟩
      rw [if_pos h2]
      simp
    · refine ⟨-a, _, Flo.of (by omega) hL hw, .inr ⟨by omega, by omega, ?_⟩⟩
      rw [if_neg h2]
      have e : 0 - a * L * 1000 = -a * L * 1000 := by grind
      rw [e]; omega
theorem tow_sign {a L w : Int} (hL : 0 ≤ L) (hw : 0 < w) : 0 ≤ tow (a * L * 1000) w * a := by
  obtain ⟨x, T, f, (⟨e1, e2⟩ | ⟨e1, _, e2⟩)⟩ := tow_flo (a := a) hL hw
  · rw [e2, e1]; exact Int.mul_nonneg f.t0 f.x0
  · rw [e2, e1, Int.neg_mul_neg]; exact Int.mul_nonneg f.t0 f.x0
theorem tow_sq {a L w : Int} (hL : 0 ≤ L) (hw : 0 < w) : ∃ T, 0 ≤ T ∧ tow (a * L * 1000) w * tow (a * L * 1000) w = T * T ∧ (T * w) * (T * w) ≤ a * a * (L * L * 1000000) ∧ a * a * (L * L * 1000000) < ((T + 1) * w) * ((T + 1) * w) := by
  obtain ⟨x, T, f, h⟩ := tow_flo (a := a) hL hw
  have h0 : 0 ≤ x * L * 1000 := Int.mul_nonneg (Int.mul_nonneg f.x0 hL) (by decide)
  have l1 := mul_mono (Int.mul_nonneg f.t0 (show 0 ≤ w by omega)) f.lo (Int.mul_nonneg f.t0 (show 0 ≤ w by omega)) f.lo
  have l2 := mul_monoS h0 f.hi h0 f.hi
  have e : x * L * 1000 * (x * L * 1000) = x * x * (L * L * 1000000) := by grind
  rw [e] at l1 l2
  refine ⟨T, f.t0, ?_, ?_, ?_⟩
  · rcases h with ⟨_, e2⟩ | ⟨_, _, e2⟩ <;> rw [e2] <;> grind
  · rcases h with ⟨e1, _⟩ | ⟨e1, _, _⟩ <;> rw [e1]
    · exact l1
    · rw [Int.neg_mul_neg]; exact l1
  · rcases h with ⟨e1, _⟩ | ⟨e1, _, _⟩ <;> rw [e1]
    · exact l2
    · rw [Int.neg_mul_neg]; exact l2
/-- a made way: no longer than told, not much shorter -/
theorem made_ok {a b c L : Int} (hz : Nz a b c) (hL : 0 ≤ L) :
    (let w := whl a b c; let S := tow (a * L * 1000) w * tow (a * L * 1000) w + tow (b * L * 1000) w * tow (b * L * 1000) w + tow (c * L * 1000) w * tow (c * L * 1000) w
     S ≤ (L ^ 2 * 1010).fdiv 1000 + L + 3 ∧ L ≤ isq S + 3) := by
  intro w S
  have hp := hz.pos
  have hn : 0 ≤ (a * a + b * b + c * c) * 1000 * 1000 := by omega
  obtain ⟨w1, w2, w3⟩ := isq_spec hn
  have w1 : 0 ≤ w := w1
  have w2 : w * w ≤ (a * a + b * b + c * c) * 1000 * 1000 := w2
  have w3 : (a * a + b * b + c * c) * 1000 * 1000 < (w + 1) * (w + 1) := w3
  have hw : 1000 ≤ w := by
    refine Int.not_lt.mp fun z => ?_
    have := mul_mono (a := w + 1) (b := 1000) (c := w + 1) (d := 1000) (by omega) (by omega) (by omega) (by omega)
    omega
  obtain ⟨T1, t1, s1, l1, u1⟩ := tow_sq (a := a) hL (show 0 < w by omega)
  obtain ⟨T2, t2, s2, l2, u2⟩ := tow_sq (a := b) hL (show 0 < w by omega)
  obtain ⟨T3, t3, s3, l3, u3⟩ := tow_sq (a := c) hL (show 0 < w by omega)
  have hS : S = T1 * T1 + T2 * T2 + T3 * T3 := by show _ + _ + _ = _; rw [s1, s2, s3]
  have hS0 : 0 ≤ S := by rw [hS]; exact s3_nn _ _ _
  have wp : 0 < w * w := Int.mul_pos (by omega) (by omega)
  have L2 := sq_nn L
  have nl : (a * a + b * b + c * c) * 1000 * 1000 * (L * L) = a * a * (L * L * 1000000) + b * b * (L * L * 1000000) + c * c * (L * L * 1000000) := by grind
  constructor
  · -- no longer
    have k1 : S * (w * w) ≤ (a * a + b * b + c * c) * 1000 * 1000 * (L * L) := by
      have e : S * (w * w) = T1 * w * (T1 * w) + T2 * w * (T2 * w) + T3 * w * (T3 * w) := by rw [hS]; grind
      omega
    have k2 : (a * a + b * b + c * c) * 1000 * 1000 * (L * L) ≤ (w * w + 2 * w) * (L * L) := Int.mul_le_mul_of_nonneg_right (by
      have : (w + 1) * (w + 1) = w * w + 2 * w + 1 := by grind
      omega) L2
    have k3 : 500 * (2 * w) ≤ w * w := by
      have : 1000 * w ≤ w * w := Int.mul_le_mul_of_nonneg_right hw w1
      omega
    have k4 : 500 * ((w * w + 2 * w) * (L * L)) ≤ 501 * (w * w) * (L * L) := by
      have := Int.mul_le_mul_of_nonneg_right (show 500 * (w * w + 2 * w) ≤ 501 * (w * w) by omega) L2
      have e : 500 * ((w * w + 2 * w) * (L * L)) = 500 * (w * w + 2 * w) * (L * L) := by grind
      omega
    have k5 : 500 * S ≤ 501 * (L * L) := by
      refine Int.le_of_mul_le_mul_right (a := w * w) ?_ wp
      have e1 : 500 * S * (w * w) = 500 * (S * (w * w)) := by grind
      have e2 : 501 * (L * L) * (w * w) = 501 * (w * w) * (L * L) := by grind
      omega
    have e : L ^ 2 = L * L := by rw [Int.pow_succ, Int.pow_succ, Int.pow_zero, Int.one_mul]
    rw [e, Int.fdiv_eq_ediv_of_nonneg _ (by decide)]
    omega
  · -- not much shorter
    obtain ⟨r1, r2, r3⟩ := isq_spec hS0
    generalize isq S = r at r1 r2 r3
    refine Int.not_lt.mp fun z => ?_
    have m1 : w * w * (L * L) < w * w * (S + 2 * (T1 + T2 + T3) + 3) := by
      have e : w * w * (S + 2 * (T1 + T2 + T3) + 3) = (T1 + 1) * w * ((T1 + 1) * w) + (T2 + 1) * w * ((T2 + 1) * w) + (T3 + 1) * w * ((T3 + 1) * w) := by rw [hS]; grind
      have k := Int.mul_le_mul_of_nonneg_right w2 L2
      omega
    have m2 : L * L < S + 2 * (T1 + T2 + T3) + 3 := Int.lt_of_mul_lt_mul_left m1 (by omega)
    have m3 : (r + 4) * (r + 4) ≤ L * L := mul_mono (by omega) (by omega) (by omega) (by omega)
    have e3 : (r + 4) * (r + 4) = (r + 1) * (r + 1) + 6 * r + 15 := by grind
    have m4 : 3 * (r + 1) + 1 ≤ T1 + T2 + T3 := by omega
    have m5 : (3 * (r + 1)) * (3 * (r + 1)) ≤ (T1 + T2 + T3) * (T1 + T2 + T3) := mul_mono (by omega) (by omega) (by omega) (by omega)
    have e5 : (3 * (r + 1)) * (3 * (r + 1)) = 9 * ((r + 1) * (r + 1)) := by grind
    have m6 : (T1 + T2 + T3) * (T1 + T2 + T3) ≤ 3 * S := by
      have q := s3_nn (T1 - T2) (T2 - T3) (T1 - T3)
      have e : 3 * S - (T1 + T2 + T3) * (T1 + T2 + T3) = (T1 - T2) * (T1 - T2) + (T2 - T3) * (T2 - T3) + (T1 - T3) * (T1 - T3) := by rw [hS]; grind
      omega
    omega
/-! ### shares -/
theorem fdiv_nn (a b : Int) : (-a).fdiv (-b) = a.fdiv b := Int.neg_fdiv_neg a b
theorem plain_neg {n d : Int} (h : 0 < d) : pl (-n) (-d) = LA.sh n d := by
  show D.tup [.int (num (-n) (-d)), .int (den (-n) (-d))] = D.tup [.int (LA.sn n d), .int (LA.sd n d)]
  unfold num den pby LA.sn LA.sd
  rw [if_neg (by omega)]
  have e : gc (-n) (-d) = gc n d := by unfold gc; rw [Int.gcd_neg, Int.neg_gcd]
  rw [e, Int.zero_sub, fdiv_nn, fdiv_nn]
theorem pl_pos {n d : Int} (h : 0 < d) : pl n d = LA.sh n d := by
  show D.tup [.int (num n d), .int (den n d)] = D.tup [.int (LA.sn n d), .int (LA.sd n d)]
  unfold num den pby LA.sn LA.sd
  rw [if_pos h]
theorem floor_ok {a b : Int} (h : 0 < b) : a.fdiv b * b ≤ a ∧ a < (a.fdiv b + 1) * b := by
  rw [Int.fdiv_eq_ediv_of_nonneg _ (by omega)]
  exact ⟨Int.ediv_mul_le _ (by omega), Int.lt_ediv_add_one_mul_self a h⟩
theorem tow_ok (n b : Int) : tow n b = (if decide (0 ≤ n) then 1 else 0) * n.fdiv b - (if decide (n < 0) then 1 else 0) * (-n).fdiv b := by
  unfold tow
  by_cases h : 0 ≤ n
  · rw [if_pos h, decide_eq_true h, decide_eq_false (show ¬ n < 0 by omega)]; simp
  · rw [if_neg h, decide_eq_false h, decide_eq_true (show n < 0 by omega)]; simp
end K1
set_option Elab.async false
set_option linter.all false
set_option maxRecDepth 100000
set_option maxHeartbeats 4000000
/-! K1G: the law's statements, one by one. -/
namespace K1
open PySem L2 DL
theorem bd_pow2 {m : Nat} {i : Int} (h : Bd m i) : Bd (m + m) (i ^ Int.toNat 2) := by
  have e : i ^ Int.toNat 2 = i * i := by
    show i ^ 2 = i * i
    rw [Int.pow_succ, Int.pow_succ, Int.pow_zero, Int.one_mul]
  rw [e]
  exact bd_mul h h
local macro_rules | `(tactic| walk_at "bd") => `(tactic| first
  | assumption
  | exact bd_lit (n := 10) _ rfl
  | exact bd_add (by walk_at "bd") (by walk_at "bd")
  | exact bd_sub (by walk_at "bd") (by walk_at "bd")
  | exact bd_mul (by walk_at "bd") (by walk_at "bd")
  | exact bd_neg (by walk_at "bd"))
local macro_rules | `(tactic| walk_at "mw") => `(tactic| exact mulw (by walk_at "bd") (by walk_at "bd") (by rfl))
local macro_rules | `(tactic| walk_at "bt") => `(tactic| exact bd_to (by walk_at "bd") (by rfl))
local macro_rules | `(tactic| walk_at "w3") => `(tactic| exact ⟨by walk_at "bt", by walk_at "bt", by walk_at "bt"⟩)
local macro_rules | `(tactic| walk_at "pos") => `(tactic| first | assumption | decide | omega)
local macro_rules | `(tactic| walk_at "bd") => `(tactic| first
  | assumption
  | exact bd_lit (n := 10) _ rfl
  | exact bd_lit (n := 21) _ rfl
  | exact bd_add (by walk_at "bd") (by walk_at "bd")
  | exact bd_sub (by walk_at "bd") (by walk_at "bd")
  | exact bd_mul (by walk_at "bd") (by walk_at "bd")
  | exact bd_pow2 (by walk_at "bd")
  | exact bd_neg (by walk_at "bd"))
local macro_rules | `(tactic| walk_at "nz3") => `(tactic| assumption)
local macro_rules | `(tactic| walk_at "pw") => `(tactic| exact ⟨by decide, by decide, (bd_to (by walk_at "bd") rfl : Bd 64 _)⟩)
local macro_rules | `(tactic| walk_at "dv") => `(tactic| first | exact cok_small (by decide) (by decide) (by decide) | exact ⟨by omega, .inl (by omega)⟩)
structure FX (g : Gx) (CW : Addr) : Prop extends FN g CW where
  dot : Fn g "_law_dot" 1 (PureSp LA.RDot)
  cross : Fn g "_law_cross" 1 (PureSp LA.RCross)
  «from» : Fn g "_law_from" 1 (PureSp LA.RFrom)
  gcd : Fn g "_law_gcd" 61 (PureSp (LA.RGcd 60))
  psh : Fn g "_law_plain_share" 62 (PureSp LA.RShare)
  ladd : Fn g "_law_add" 63 (PureSp LA.RAdd)
  lmul : Fn g "_law_mul" 63 (PureSp LA.RMul)
  less : Fn g "_law_less" 1 (PureSp LA.RLess)
  roll : Fn g "_law_roll" 1 LA.SpRoll
  way : Fn g "_law_way" 2 LA.SpWay
  rounds : Fn g "_law_rounds" 2 LA.SpRounds
  plainL : Fn g "_law_plain" 13 (fun ds M Q _ => ds = [] ∧ Q (.bl true) M)
abbrev s_law : Stmt := top 43
theorem sc_law : FnScope ["script", "dice", "size", "one", "other", "third", "long", "told", "back", "many", "beside", "upright", "rows", "pairs", "left", "right", "number", "by", "k", "row"] ["script"] (defScope s_law) := ⟨rfl, rfl, rfl, by decide +kernel, rfl, by decide +kernel, by decide +kernel⟩
def lawB : List Stmt := match (defBody s_law).getD 0 (.Pass ⟨0, 0, 0, 0⟩) with
  | .For _ _ b _ _ => b
  | _ => []
def bs (i : Nat) : Stmt := lawB.getD i (.Pass ⟨0, 0, 0, 0⟩)
abbrev lwL (g : Gx) : Lx := ⟨g, ["script", "dice", "size", "one", "other", "third", "long", "told", "back", "many", "beside", "upright", "rows", "pairs", "left", "right", "number", "by", "k", "row"], defScope s_law, 64, fun _ => true, none, true⟩
def W11 (a b c : Int) : Prop := Bd 11 a ∧ Bd 11 b ∧ Bd 11 c
variable {g : Gx} {CW : Addr} {M : Store} {P : Post} {x0 x1 x2 x3 x4 x5 x6 x7 x8 x9 x10 x11 x12 x13 x14 x15 x16 x17 x18 x19 : Option D} {a b c d e f x y z : Int}
local macro_rules | `(tactic| walk_at "lw") => `(tactic| (simp only [eqv_t3, Bool.or_eq_false_iff, Bool.and_eq_true, Bool.not_eq_false', Bool.not_eq_true', decide_eq_true_eq, decide_eq_false_iff_not, show Int.toNat 2 = 2 from rfl]; grind))
abbrev ro3 (x0 x1 x2 : Option D) (a b c d e f x y z : Int) (x6 x7 x8 x9 x10 x11 x12 x13 x14 x15 x16 x17 x18 x19 : Option D) : Ro := [x0, x1, x2, some (t3 a b c), some (t3 d e f), some (t3 x y z), x6, x7, x8, x9, x10, x11, x12, x13, x14, x15, x16, x17, x18, x19]
theorem law2 (F : FX g CW) (h : W11 a b c) (h' : W11 d e f) (q : P.nx (ro3 x0 x1 x2 a b c d e f x y z x6 x7 x8 x9 x10 x11 x12 x13 x14 x15 x16 x17 x18 x19) M) : Stm (lwL g) (ro3 x0 x1 x2 a b c d e f x y z x6 x7 x8 x9 x10 x11 x12 x13 x14 x15 x16 x17 x18 x19) M (bs 2) P := by
  obtain ⟨a1, a2, a3⟩ := h; obtain ⟨b1, b2, b3⟩ := h'
  refine s_skip (EvTD.is (t_w (w_or (t_neI (d_callP F.along rfl rfl (a_cons (dv 3 rfl rfl rfl) (a_cons (dv 4 rfl rfl rfl) a_nil)) (.mk (by walk_at "w3") (by walk_at "w3"))) (d_callP F.dot rfl rfl (a_cons (dv 3 rfl rfl rfl) (a_cons (dv 4 rfl rfl rfl) a_nil)) (.mk (by walk_at "w3") (by walk_at "w3")))) (fun _ => (w_or (t_ne (d_callP F.across rfl rfl (a_cons (dv 3 rfl rfl rfl) (a_cons (dv 4 rfl rfl rfl) a_nil)) (.mk (by walk_at "w3") (by walk_at "w3"))) (d_callP F.cross rfl rfl (a_cons (dv 3 rfl rfl rfl) (a_cons (dv 4 rfl rfl rfl) a_nil)) (.mk (by walk_at "w3") (by walk_at "w3"))) rfl rfl) (fun _ => (w_or (t_ne (d_callP F.minus rfl rfl (a_cons (d_callP F.plus rfl rfl (a_cons (dv 3 rfl rfl rfl) (a_cons (dv 4 rfl rfl rfl) a_nil)) .mk) (a_cons (dv 4 rfl rfl rfl) a_nil)) .mk) (dv 3 rfl rfl rfl) rfl rfl) (fun _ => (w_or (t_neI (d_callP F.square rfl rfl (a_cons (dv 3 rfl rfl rfl) a_nil) (.mk (by walk_at "w3"))) (d_callP F.dot rfl rfl (a_cons (dv 3 rfl rfl rfl) (a_cons (dv 3 rfl rfl rfl) a_nil)) (.mk (by walk_at "w3") (by walk_at "w3")))) (fun _ => (w_or1 (t_ne (d_callP F.minus rfl rfl (a_cons (dv 3 rfl rfl rfl) (a_cons (dv 4 rfl rfl rfl) a_nil)) .mk) (d_callP F.from rfl rfl (a_cons (dv 3 rfl rfl rfl) (a_cons (dv 4 rfl rfl rfl) a_nil)) .mk) rfl rfl))))))))))) ?_) q
  walk_at "lw"
theorem law3 (F : FX g CW) (h : W11 a b c) (h' : W11 d e f) (h2 : W11 x y z) (q : P.nx (ro3 x0 x1 x2 a b c d e f x y z x6 x7 x8 x9 x10 x11 x12 x13 x14 x15 x16 x17 x18 x19) M) : Stm (lwL g) (ro3 x0 x1 x2 a b c d e f x y z x6 x7 x8 x9 x10 x11 x12 x13 x14 x15 x16 x17 x18 x19) M (bs 3) P := by
  obtain ⟨a1, a2, a3⟩ := h; obtain ⟨b1, b2, b3⟩ := h'; obtain ⟨c1, c2, c3⟩ := h2
  refine s_skip (EvTD.is (t_w (w_or (t_neI (d_add (d_pow (d_callP F.along rfl rfl (a_cons (dv 3 rfl rfl rfl) (a_cons (dv 4 rfl rfl rfl) a_nil)) (.mk (by walk_at "w3") (by walk_at "w3"))) d_int (by walk_at "pw")) (d_callP F.square rfl rfl (a_cons (d_callP F.across rfl rfl (a_cons (dv 3 rfl rfl rfl) (a_cons (dv 4 rfl rfl rfl) a_nil)) (.mk (by walk_at "w3") (by walk_at "w3"))) a_nil) (.mk (by walk_at "w3")))) (d_mul (d_callP F.square rfl rfl (a_cons (dv 3 rfl rfl rfl) a_nil) (.mk (by walk_at "w3"))) (d_callP F.square rfl rfl (a_cons (dv 4 rfl rfl rfl) a_nil) (.mk (by walk_at "w3"))) (by walk_at "mw"))) (fun _ => (w_or (t_neI (d_callP F.along rfl rfl (a_cons (d_callP F.across rfl rfl (a_cons (dv 3 rfl rfl rfl) (a_cons (dv 4 rfl rfl rfl) a_nil)) (.mk (by walk_at "w3") (by walk_at "w3"))) (a_cons (dv 3 rfl rfl rfl) a_nil)) (.mk (by walk_at "w3") (by walk_at "w3"))) d_int) (fun _ => (w_or (t_neI (d_callP F.block rfl rfl (a_cons (dv 3 rfl rfl rfl) (a_cons (dv 4 rfl rfl rfl) (a_cons (dv 5 rfl rfl rfl) a_nil))) (.mk (by walk_at "w3") (by walk_at "w3") (by walk_at "w3"))) (d_neg (d_callP F.block rfl rfl (a_cons (dv 4 rfl rfl rfl) (a_cons (dv 3 rfl rfl rfl) (a_cons (dv 5 rfl rfl rfl) a_nil))) (.mk (by walk_at "w3") (by walk_at "w3") (by walk_at "w3"))))) (fun _ => (w_or1 (t_neI (d_callP F.block rfl rfl (a_cons (dv 3 rfl rfl rfl) (a_cons (dv 4 rfl rfl rfl) (a_cons (dv 5 rfl rfl rfl) a_nil))) (.mk (by walk_at "w3") (by walk_at "w3") (by walk_at "w3"))) (d_callP F.block rfl rfl (a_cons (dv 5 rfl rfl rfl) (a_cons (dv 3 rfl rfl rfl) (a_cons (dv 4 rfl rfl rfl) a_nil))) (.mk (by walk_at "w3") (by walk_at "w3") (by walk_at "w3")))))))))))) ?_) q
  walk_at "lw"
theorem isq_le {n : Int} (h : 0 ≤ n) : isq n ≤ n := by
  obtain ⟨h1, h2, h3⟩ := isq_spec h
  by_cases z : isq n = 0
  · omega
  · have : isq n * 1 ≤ isq n * isq n := Int.mul_le_mul_of_nonneg_left (by omega) h1
    omega
theorem bd_isq {m : Nat} {n : Int} (h : 0 ≤ n) (hb : Bd m n) : Bd m (isq n) := bd_le (isq_spec h).1 (isq_le h) hb
theorem sq2 (i : Int) : i ^ 2 = i * i := by rw [Int.pow_succ, Int.pow_succ, Int.pow_zero, Int.one_mul]
theorem law4 (F : FX g CW) (h : W11 a b c) (q : P.nx (ro3 x0 x1 x2 a b c d e f x y z x6 x7 x8 x9 x10 x11 x12 x13 x14 x15 x16 x17 x18 x19) M) : Stm (lwL g) (ro3 x0 x1 x2 a b c d e f x y z x6 x7 x8 x9 x10 x11 x12 x13 x14 x15 x16 x17 x18 x19) M (bs 4) P := by
  obtain ⟨a1, a2, a3⟩ := h
  have hp := s3_nn a b c
  have hr : Bd 30 (isq (a * a + b * b + c * c)) := bd_isq hp (by walk_at "bt")
  have hp2 : 0 ≤ 1000 * 1000 * (a * a + b * b + c * c) := by omega
  have hq : Bd 50 (isq (1000 * 1000 * (a * a + b * b + c * c))) := bd_isq hp2 (by walk_at "bt")
  obtain ⟨r1, r2, r3⟩ := isq_spec hp
  obtain ⟨l1, l2, l3⟩ := isq_spec hp2
  refine s_skip (EvTD.is (t_w (w_or (t_ne (d_callP F.stretched rfl rfl (a_cons (dv 3 rfl rfl rfl) (a_cons d_int a_nil)) (.mk (by walk_at "w3") (by walk_at "bt"))) (d_callP F.plus rfl rfl (a_cons (dv 3 rfl rfl rfl) (a_cons (d_callP F.plus rfl rfl (a_cons (dv 3 rfl rfl rfl) (a_cons (dv 3 rfl rfl rfl) a_nil)) .mk) a_nil)) .mk) rfl rfl) (fun _ => (w_or (t_not (t_leLt (d_pow (d_callQ F.root rfl rfl (a_cons (d_callP F.square rfl rfl (a_cons (dv 3 rfl rfl rfl) a_nil) (.mk (by walk_at "w3"))) a_nil) (.mk (by walk_at "pos") (by walk_at "bt"))) d_int (by walk_at "pw")) (d_callP F.square rfl rfl (a_cons (dv 3 rfl rfl rfl) a_nil) (.mk (by walk_at "w3"))) (d_pow (d_add (d_callQ F.root rfl rfl (a_cons (d_callP F.square rfl rfl (a_cons (dv 3 rfl rfl rfl) a_nil) (.mk (by walk_at "w3"))) a_nil) (.mk (by walk_at "pos") (by walk_at "bt"))) d_int) d_int (by walk_at "pw")))) (fun _ => (w_or1 (t_not (t_leLt (d_pow (d_callP F.length rfl rfl (a_cons (dv 3 rfl rfl rfl) a_nil) (.mk (by walk_at "w3"))) d_int (by walk_at "pw")) (d_mul d_int (d_callP F.square rfl rfl (a_cons (dv 3 rfl rfl rfl) a_nil) (.mk (by walk_at "w3"))) (by walk_at "mw")) (d_pow (d_add (d_callP F.length rfl rfl (a_cons (dv 3 rfl rfl rfl) a_nil) (.mk (by walk_at "w3"))) d_int) d_int (by walk_at "pw")))))))))) ?_) q
  simp only [eqv_t3, Bool.or_eq_false_iff, Bool.and_eq_true, Bool.not_eq_false', Bool.not_eq_true', decide_eq_true_eq, decide_eq_false_iff_not, show Int.toNat 2 = 2 from rfl, sq2]
  refine ⟨⟨by omega, by omega, by omega⟩, ⟨r2, r3⟩, ⟨by omega, by omega⟩⟩
theorem law5 {p : Addr} {j : Nat} (F : FX g CW) (hj : M[j]? = some (p, .hid LA.DiceOk)) (q : ∀ r : Int, 0 ≤ r → r < 2000 → P.nx (ro3 x0 (some (.ref p)) x2 a b c d e f x y z (some (.int r)) x7 x8 x9 x10 x11 x12 x13 x14 x15 x16 x17 x18 x19) M) : Stm (lwL g) (ro3 x0 (some (.ref p)) x2 a b c d e f x y z x6 x7 x8 x9 x10 x11 x12 x13 x14 x15 x16 x17 x18 x19) M (bs 5) P :=
  stm_set (i := 6) (nk rfl rfl) (fun _ => rfl) (LA.ev_roll F.roll rfl rfl (dv 1 rfl rfl rfl) d_int hj (by decide) (by decide) q)
theorem bd_tow {m : Nat} {n w : Int} (h : Bd m n) (hw : 0 < w) : Bd m (tow n w) := by
  unfold tow
  split
  · exact bd_fdiv h hw
  · have := bd_fdiv (bd_neg h) hw
    have e : 0 - n = -n := by omega
    rw [e]
    have q := bd_neg this
    have e2 : 0 - (-n).fdiv w = -((-n).fdiv w) := by omega
    rw [e2]; exact q
theorem nz_of (h : (!D.eqv (t3 a b c) (t3 0 0 0)) = true) : Nz a b c := by
  rintro ⟨rfl, rfl, rfl⟩
  rw [eqv_yes] at h; cases h
theorem law6 {l : Int} (F : FX g CW) (B : Bu g) (KZ : KRep g "ZERO" (t3 0 0 0)) (h : W11 a b c) (l0 : 0 ≤ l) (l1 : l < 2000) (q : ∀ x7, P.nx (ro3 x0 x1 x2 a b c d e f x y z (some (.int l)) x7 x8 x9 x10 x11 x12 x13 x14 x15 x16 x17 x18 x19) M) : Stm (lwL g) (ro3 x0 x1 x2 a b c d e f x y z (some (.int l)) x7 x8 x9 x10 x11 x12 x13 x14 x15 x16 x17 x18 x19) M (bs 6) P := by
  obtain ⟨a1, a2, a3⟩ := h
  have lb : Bd 11 l := bd_le l0 (show l ≤ 2000 by omega) (bd_lit (n := 11) _ rfl)
  refine s_if (t_ne (dv 3 rfl rfl rfl) (d_glob KZ rfl) rfl rfl) (fun t => ?_) (fun _ => run_nil (q x7))
  have hz := nz_of t
  refine run_cons (t_set (i := 7) (d_callQ F.made rfl rfl (a_cons (dv 3 rfl rfl rfl) (a_cons (dv 6 rfl rfl rfl) a_nil)) (.mk (by walk_at "nz3") (by walk_at "pos") (by walk_at "w3") (by walk_at "bt"))) ?_ (nk rfl rfl))
  have hp := hz.pos
  have hn : 0 ≤ (a * a + b * b + c * c) * 1000 * 1000 := by omega
  obtain ⟨w1, w2, w3⟩ := isq_spec hn
  have hw : 0 < whl a b c := by
    rcases Int.lt_or_eq_of_le w1 with z | z
    · exact z
    · rw [← z] at w3; omega
  have b1 : Bd 40 (tow (a * l * 1000) (whl a b c)) := bd_tow (by walk_at "bt") hw
  have b2 : Bd 40 (tow (b * l * 1000) (whl a b c)) := bd_tow (by walk_at "bt") hw
  have b3 : Bd 40 (tow (c * l * 1000) (whl a b c)) := bd_tow (by walk_at "bt") hw
  have s1 := tow_sign (a := a) l0 hw
  have s2 := tow_sign (a := b) l0 hw
  have s3 := tow_sign (a := c) l0 hw
  have ok : tow (a * l * 1000) (whl a b c) * tow (a * l * 1000) (whl a b c) + tow (b * l * 1000) (whl a b c) * tow (b * l * 1000) (whl a b c) + tow (c * l * 1000) (whl a b c) * tow (c * l * 1000) (whl a b c) ≤ (l ^ 2 * 1010).fdiv 1000 + l + 3 ∧ l ≤ isq (tow (a * l * 1000) (whl a b c) * tow (a * l * 1000) (whl a b c) + tow (b * l * 1000) (whl a b c) * tow (b * l * 1000) (whl a b c) + tow (c * l * 1000) (whl a b c) * tow (c * l * 1000) (whl a b c)) + 3 := made_ok hz l0
  generalize tow (a * l * 1000) (whl a b c) = u at b1 s1 ok ⊢
  generalize tow (b * l * 1000) (whl a b c) = v at b2 s2 ok ⊢
  generalize tow (c * l * 1000) (whl a b c) = w at b3 s3 ok ⊢
  have hs := s3_nn u v w
  refine run_one (s_skip (EvTD.is (t_w (w_or (t_gt (d_callP F.square rfl rfl (a_cons (dv 7 rfl rfl rfl) a_nil) (.mk (by walk_at "w3"))) (d_add (d_add (d_div (d_mul (d_pow (dv 6 rfl rfl rfl) d_int (by walk_at "pw")) d_int (by walk_at "mw")) d_int (by walk_at "dv")) (dv 6 rfl rfl rfl)) d_int)) (fun _ => w_or (t_ne (d_none [("k", 18)] (.nm 18) (nk rfl rfl) rfl (by decide) (s_range1 B rfl d_int ⟨by decide, by decide⟩) rfl ⟨⟨_, rfl, EvTD.is (t_lt (d_mul (d_ixT (dv 7 rfl rfl rfl) (dv 18 rfl rfl rfl) rfl) (d_ixT (dv 3 rfl rfl rfl) (dv 18 rfl rfl rfl) rfl) (by walk_at "mw")) d_int) (decide_eq_false (Int.not_lt.mpr s1))⟩, ⟨_, rfl, EvTD.is (t_lt (d_mul (d_ixT (dv 7 rfl rfl rfl) (dv 18 rfl rfl rfl) rfl) (d_ixT (dv 3 rfl rfl rfl) (dv 18 rfl rfl rfl) rfl) (by walk_at "mw")) d_int) (decide_eq_false (Int.not_lt.mpr s2))⟩, ⟨_, rfl, EvTD.is (t_lt (d_mul (d_ixT (dv 7 rfl rfl rfl) (dv 18 rfl rfl rfl) rfl) (d_ixT (dv 3 rfl rfl rfl) (dv 18 rfl rfl rfl) rfl) (by walk_at "mw")) d_int) (decide_eq_false (Int.not_lt.mpr s3))⟩, trivial⟩) (dl (a_nil) rfl) rfl rfl) (fun _ => w_or1 (t_gt (dv 6 rfl rfl rfl) (d_add (d_callQ F.root rfl rfl (a_cons (d_callP F.square rfl rfl (a_cons (dv 7 rfl rfl rfl) a_nil) (.mk (by walk_at "w3"))) a_nil) (.mk (by walk_at "pos") (by walk_at "bt"))) d_int)))))) ?_) (q _))
  simp only [Bool.or_eq_false_iff, decide_eq_false_iff_not, show Int.toNat 2 = 2 from rfl]
  exact ⟨by omega, rfl, by omega⟩
theorem law7 (F : FX g CW) (KZ : KRep g "ZERO" (t3 0 0 0)) (h : W11 a b c) (h' : W11 d e f) (q : ∀ x8 x9 x10 x11, P.nx (ro3 x0 x1 x2 a b c d e f x y z x6 x7 x8 x9 x10 x11 x12 x13 x14 x15 x16 x17 x18 x19) M) : Stm (lwL g) (ro3 x0 x1 x2 a b c d e f x y z x6 x7 x8 x9 x10 x11 x12 x13 x14 x15 x16 x17 x18 x19) M (bs 7) P := by
  obtain ⟨a1, a2, a3⟩ := h; obtain ⟨b1, b2, b3⟩ := h'
  refine s_if (t_ne (dv 4 rfl rfl rfl) (d_glob KZ rfl) rfl rfl) (fun t => ?_) (fun _ => run_nil (q x8 x9 x10 x11))
  have hz := nz_of t
  refine run_cons (t_un (pt := .tp [8, 9]) (d_callQ F.mirrored rfl rfl (a_cons (dv 3 rfl rfl rfl) (a_cons (dv 4 rfl rfl rfl) a_nil)) (.mk (by walk_at "w3") (by walk_at "w3") (by walk_at "nz3"))) ⟨_, rfl, rfl, rfl⟩ ?_ ⟨_, _, _, rfl, nk rfl rfl, nk rfl rfl, trivial⟩ (fun env h => by cases env; cases h; rfl))
  refine run_cons (t_un (pt := .tp [10, 11]) (d_callQ F.parted rfl rfl (a_cons (dv 3 rfl rfl rfl) (a_cons (dv 4 rfl rfl rfl) a_nil)) (.mk (by walk_at "w3") (by walk_at "w3") (by walk_at "nz3"))) ⟨_, rfl, rfl, rfl⟩ ?_ ⟨_, _, _, rfl, nk rfl rfl, nk rfl rfl, trivial⟩ (fun env h => by cases env; cases h; rfl))
  refine run_one (s_skip (EvTD.is (t_w (w_or (t_neI (dv 9 rfl rfl rfl) (d_callP F.square rfl rfl (a_cons (dv 4 rfl rfl rfl) a_nil) (.mk (by walk_at "w3")))) (fun _ => (w_or (t_ne (d_callP F.plus rfl rfl (a_cons (dv 8 rfl rfl rfl) (a_cons (d_callP F.stretched rfl rfl (a_cons (dv 3 rfl rfl rfl) (a_cons (dv 9 rfl rfl rfl) a_nil)) (.mk (by walk_at "w3") (by walk_at "bt"))) a_nil)) .mk) (d_callP F.stretched rfl rfl (a_cons (dv 11 rfl rfl rfl) (a_cons d_int a_nil)) (.mk (by walk_at "w3") (by walk_at "bt"))) rfl rfl) (fun _ => (w_or (t_neI (d_callP F.along rfl rfl (a_cons (dv 8 rfl rfl rfl) (a_cons (dv 4 rfl rfl rfl) a_nil)) (.mk (by walk_at "w3") (by walk_at "w3"))) (d_mul (d_neg (dv 9 rfl rfl rfl)) (d_callP F.along rfl rfl (a_cons (dv 3 rfl rfl rfl) (a_cons (dv 4 rfl rfl rfl) a_nil)) (.mk (by walk_at "w3") (by walk_at "w3"))) (by walk_at "mw"))) (fun _ => (w_or (t_neI (d_callP F.square rfl rfl (a_cons (dv 8 rfl rfl rfl) a_nil) (.mk (by walk_at "w3"))) (d_mul (d_pow (dv 9 rfl rfl rfl) d_int (by walk_at "pw")) (d_callP F.square rfl rfl (a_cons (dv 3 rfl rfl rfl) a_nil) (.mk (by walk_at "w3"))) (by walk_at "mw"))) (fun _ => (w_or (t_ne (d_callP F.plus rfl rfl (a_cons (dv 10 rfl rfl rfl) (a_cons (dv 11 rfl rfl rfl) a_nil)) .mk) (d_callP F.stretched rfl rfl (a_cons (dv 3 rfl rfl rfl) (a_cons (dv 9 rfl rfl rfl) a_nil)) (.mk (by walk_at "w3") (by walk_at "bt"))) rfl rfl) (fun _ => (w_or (t_neI (d_callP F.along rfl rfl (a_cons (dv 11 rfl rfl rfl) (a_cons (dv 4 rfl rfl rfl) a_nil)) (.mk (by walk_at "w3") (by walk_at "w3"))) d_int) (fun _ => (w_or1 (t_ne (d_callP F.across rfl rfl (a_cons (dv 10 rfl rfl rfl) (a_cons (dv 4 rfl rfl rfl) a_nil)) (.mk (by walk_at "w3") (by walk_at "w3"))) (d_glob KZ rfl) rfl rfl))))))))))))))) ?_) (q _ _ _ _))
  walk_at "lw"
end K1
set_option Elab.async false
set_option linter.all false
set_option maxRecDepth 100000
set_option maxHeartbeats 4000000
/-! K1H: the law's other statements. -/
namespace DL
open PySem L2
theorem sw_false {elt : Expr} {gs : List Comprehension} {scope : Scope} {pos py : Pos} {y : Str} {l : Nat} {env : PySem.Env} (hy : env.scope.names.lookup y = some .cell) : swapsWith (.ListComp elt gs scope pos) (some (.Name y py)) l env = pure false := by
  have ky : env.kindOf y = some .cell := hy
  have e : (some NameKind.cell == some NameKind.local) = false := rfl
  unfold swapsWith
  simp only [ky, e, Bool.and_false, Bool.false_and]
/-- name = [..], the name a cell -/
theorem stm_lcC {L : Lx} {ρ : Ro} {M : Store} {P : Post} {i : Nat} {x : Str} {pos px lpos : Pos} {elt : Expr} {gs : List Comprehension} {scope : Scope} (hn : NameOk L (.Name x px) i) (hl : L.sc.names.lookup x = some .cell) (h : Ev L ρ M (.ListComp elt gs scope lpos) (fun d M' => P.nx (ρ.set i (some d)) M') P.ex) : Stm L ρ M (.Assign [.Name x px] (.ListComp elt gs scope lpos) pos) P := fun X ci σ G H Dn f s k => by
  obtain ⟨y, p, ey, h1, h2, h3⟩ := hn.ex
  cases ey
  refine wpS_of (ps_set (X := X) (i := i) (by rw [ci.N]; exact ci.nd) (by rw [ci.N]; exact h1) (by rw [ci.sc]; exact h2) pe_wp (sw_false (by rw [ci.sc]; exact hl)) (by rw [ci.fn, ci.sc]; exact h3)) ?_
  exact h X ci σ G H _ f s (fun v d G' M' H' m' s' r q => k.nx _ _ G' M' H' ((f.mono m'.g).set r) m' s' q) (k.ex σ)
end DL
namespace K1
open PySem L2 DL
local macro_rules | `(tactic| walk_at "bd") => `(tactic| first
  | assumption
  | exact bd_lit (n := 10) _ rfl
  | exact bd_add (by walk_at "bd") (by walk_at "bd")
  | exact bd_sub (by walk_at "bd") (by walk_at "bd")
  | exact bd_mul (by walk_at "bd") (by walk_at "bd")
  | exact bd_neg (by walk_at "bd"))
local macro_rules | `(tactic| walk_at "mw") => `(tactic| exact mulw (by walk_at "bd") (by walk_at "bd") (by rfl))
local macro_rules | `(tactic| walk_at "bt") => `(tactic| exact bd_to (by walk_at "bd") (by rfl))
local macro_rules | `(tactic| walk_at "w3") => `(tactic| exact ⟨by walk_at "bt", by walk_at "bt", by walk_at "bt"⟩)
local macro_rules | `(tactic| walk_at "pos") => `(tactic| first | assumption | decide | omega)
local macro_rules | `(tactic| walk_at "dv") => `(tactic| exact ⟨by omega, .inl (by omega)⟩)
local macro_rules | `(tactic| walk_at "und") => `(tactic| assumption)

variable {g : Gx} {CW : Addr} {M : Store} {P : Post} {p : Addr} {j : Nat} {ρ : Ro} {a b c d e f x y z : Int} {x0 x1 x2 x3 x4 x5 x6 x7 x8 x9 x10 x11 x12 x13 x14 x15 x16 x17 x18 x19 : Option D}
abbrev roA (x0 : Option D) (p : Addr) (x2 x3 x4 x5 x6 x7 x8 x9 x10 x11 x12 x13 x14 x15 x16 x17 x18 x19 : Option D) : Ro := [x0, some (.ref p), x2, x3, x4, x5, x6, x7, x8, x9, x10, x11, x12, x13, x14, x15, x16, x17, x18, x19]
theorem law0 (F : FX g CW) (hj : M[j]? = some (p, .hid LA.DiceOk)) (q : ∀ s : Int, 0 ≤ s → s ≤ 900 → P.nx (roA x0 p (some (.int s)) x3 x4 x5 x6 x7 x8 x9 x10 x11 x12 x13 x14 x15 x16 x17 x18 x19) M) : Stm (lwL g) (roA x0 p x2 x3 x4 x5 x6 x7 x8 x9 x10 x11 x12 x13 x14 x15 x16 x17 x18 x19) M (bs 0) P := by
  refine stm_set (i := 2) (nk rfl rfl) (fun _ => rfl) (ev_ix (r := fun X => rIx X.K) (fun _ _ => ix_seq) (by intros _ _; rfl) (EvD.go (dl (a_cons d_int (a_cons d_int (a_cons d_int a_nil))) rfl) (LA.ev_roll F.roll rfl rfl (dv 1 rfl rfl rfl) d_int hj (by decide) (by decide) fun r h0 h1 => ?_)))
  have h : r = 0 ∨ r = 1 ∨ r = 2 := by omega
  rcases h with rfl | rfl | rfl
  · exact o_ix (.inr (.inl rfl)) rfl (q 3 (by decide) (by decide))
  · exact o_ix (.inr (.inl rfl)) rfl (q 20 (by decide) (by decide))
  · exact o_ix (.inr (.inl rfl)) rfl (q 900 (by decide) (by decide))
theorem w11_of {a b c s : Int} (h : s ≤ 900) (ha : -s ≤ a ∧ a ≤ s) (hb : -s ≤ b ∧ b ≤ s) (hc : -s ≤ c ∧ c ≤ s) : W11 a b c := by
  have l : Bd 11 (900 : Int) := bd_lit (n := 11) _ rfl
  exact ⟨bd_of (B := 900) (by omega) (by omega) l, bd_of (B := 900) (by omega) (by omega) l, bd_of (B := 900) (by omega) (by omega) l⟩
theorem law1 {s : Int} (F : FX g CW) (B : Bu g) (hj : M[j]? = some (p, .hid LA.DiceOk)) (h0 : 0 ≤ s) (h1 : s ≤ 900)
    (q : ∀ a b c d e f x y z : Int, W11 a b c → W11 d e f → W11 x y z → P.nx (roA x0 p (some (.int s)) (some (t3 a b c)) (some (t3 d e f)) (some (t3 x y z)) x6 x7 x8 x9 x10 x11 x12 x13 x14 x15 x16 x17 x18 x19) M) : Stm (lwL g) (roA x0 p (some (.int s)) x3 x4 x5 x6 x7 x8 x9 x10 x11 x12 x13 x14 x15 x16 x17 x18 x19) M (bs 1) P := by
  refine stm_unL (js := [3, 4, 5]) ⟨nk rfl rfl, nk rfl rfl, nk rfl rfl, trivial⟩ (fun _ => rfl) (fun env h => by cases env; cases h; rfl) (ev_lc [("k", 18)] (.nm 18) (nk rfl rfl) rfl (by decide) (fun _ _ => rfl) ((s_range1 B rfl d_int ⟨by decide, by decide⟩).go ⟨by decide, fun _ => true, fun _ v => ∃ a b c : Int, W11 a b c ∧ v = t3 a b c, fun i hi => ⟨_, rfl, (rfl : true = true), fun _ => ?_⟩, fun out pw => ?_⟩))
  · exact ev_call F.way (Nat.le_of_ble_eq_true rfl) rfl (by intro _; rfl) (by intro _; rfl) (EvAD.go (a_cons (dv 1 rfl rfl rfl) (a_cons (dv 2 rfl rfl rfl) a_nil)) ⟨p, s, j, rfl, hj, h0, by omega, fun a b c ha hb hc => ⟨rfl, a, b, c, w11_of h1 ha hb hc, rfl⟩⟩)
  · match out, pw with
    | [_, _, _], ⟨⟨a, b, c, h1, rfl⟩, ⟨d, e, f, h2, rfl⟩, ⟨x, y, z, h3, rfl⟩, _⟩ => exact ⟨_, rfl, rfl, q a b c d e f x y z h1 h2 h3⟩
theorem pws_ways : ∀ {is : List Nat} {out : List D}, PWs (fun _ v => ∃ w : W, v = wd w) is out → ∃ ws : List W, out = ws.map wd ∧ ws.length = is.length
  | [], [], _ => ⟨[], rfl, rfl⟩
  | i :: is, v :: out, h => by
    obtain ⟨⟨w, e⟩, h2⟩ := h
    obtain ⟨ws, e1, e2⟩ := pws_ways h2
    exact ⟨w :: ws, by rw [e, e1]; rfl, by simp [e2]⟩
  | [], _ :: _, h => h.elim
  | _ :: _, [], h => h.elim
theorem law8 {s : Int} (F : FX g CW) (B : Bu g) (hj : M[j]? = some (p, .hid LA.DiceOk)) (h0 : 0 ≤ s) (h1 : s ≤ 900)
    (q : ∀ ws : List W, ws ≠ [] → ws.length ≤ 4 → P.nx (roA x0 p (some (.int s)) x3 x4 x5 x6 x7 x8 x9 x10 x11 (some (.lst (ws.map wd))) x13 x14 x15 x16 x17 x18 x19) M) : Stm (lwL g) (roA x0 p (some (.int s)) x3 x4 x5 x6 x7 x8 x9 x10 x11 x12 x13 x14 x15 x16 x17 x18 x19) M (bs 8) P := by
  refine stm_lcC (i := 12) (nk rfl rfl) rfl (ev_lc [("k", 18)] (.nm 18) (nk rfl rfl) rfl (by decide) (fun _ _ => rfl) (src_range1 B rfl (by intro _; rfl) (ev_op (r := rAddI) (fun _ _ => op_add) (EvD.go d_int (LA.ev_roll F.roll rfl rfl (dv 1 rfl rfl rfl) d_int hj (by decide) (by decide) fun r r0 r1 => o_add ⟨1 + r, rfl, by omega, by omega, ?_⟩)))))
  refine ⟨by omega, fun _ => true, fun _ v => ∃ w : W, v = wd w, fun i hi => ⟨_, rfl, (rfl : true = true), fun _ => ?_⟩, fun out pw => ?_⟩
  · exact ev_call F.way (Nat.le_of_ble_eq_true rfl) rfl (by intro _; rfl) (by intro _; rfl) (EvAD.go (a_cons (dv 1 rfl rfl rfl) (a_cons (dv 2 rfl rfl rfl) a_nil)) ⟨p, s, j, rfl, hj, h0, by omega, fun a b c ha hb hc => ⟨rfl, (a, b, c), rfl⟩⟩)
  · obtain ⟨ws, rfl, hl⟩ := pws_ways pw
    rw [sel_all, List.length_range] at hl
    refine q ws (fun z => ?_) (by omega)
    rw [z] at hl
    simp at hl
    omega
theorem law11 (F : FX g CW) (B : Bu g) (hj : M[j]? = some (p, .hid LA.DiceOk))
    (q : ∀ n d m e : Int, (-20 ≤ n ∧ n < 20) → (1 ≤ d ∧ d ≤ 12) → (-20 ≤ m ∧ m < 20) → (1 ≤ e ∧ e ≤ 12) → P.nx (roA x0 p x2 x3 x4 x5 x6 x7 x8 x9 x10 x11 x12 (some (.lst [t2 n d, t2 m e])) x14 x15 x16 x17 x18 x19) M) : Stm (lwL g) (roA x0 p x2 x3 x4 x5 x6 x7 x8 x9 x10 x11 x12 x13 x14 x15 x16 x17 x18 x19) M (bs 11) P := by
  refine stm_lc (i := 13) [("k", 18)] (.nm 18) rfl rfl (nk rfl rfl) rfl (by decide) (fun _ _ => rfl) rfl rfl rfl ((s_range1 B rfl d_int ⟨by decide, by decide⟩).go ⟨by decide, fun _ => true, fun _ v => ∃ n d : Int, (-20 ≤ n ∧ n < 20) ∧ (1 ≤ d ∧ d ≤ 12) ∧ v = t2 n d, fun i hi => ⟨_, rfl, (rfl : true = true), fun _ => ?_⟩, fun out pw => ?_⟩)
  · refine ev_tup (ea_cons (by intro _; rfl) (ev_op (r := rSubI) (fun _ _ => op_sub) (LA.ev_roll F.roll rfl rfl (dv 1 rfl rfl rfl) d_int hj (by decide) (by decide) fun r r0 r1 => EvD.go d_int (o_sub ?_))))
    refine ea_cons (by intro _; rfl) (ev_op (r := rAddI) (fun _ _ => op_add) (EvD.go d_int (LA.ev_roll F.roll rfl rfl (dv 1 rfl rfl rfl) d_int hj (by decide) (by decide) fun u u0 u1 => o_add ?_)))
    exact ea_nil ⟨Nat.le_of_ble_eq_true rfl, rfl, r - 20, 1 + u, ⟨by omega, by omega⟩, ⟨by omega, by omega⟩, rfl⟩
  · match out, pw with
    | [_, _], ⟨⟨n, d, h1, h2, rfl⟩, ⟨m, e, h3, h4, rfl⟩, _⟩ => exact q n d m e h1 h2 h3 h4
theorem eqv_bl (p q : Bool) : D.eqv (.bl p) (.bl q) = (p == q) := by cases p <;> cases q <;> rfl
theorem eqv_vi (a b c n : Int) : D.eqv (.tup [t3 a b c, .int n]) (.tup [t3 a b c, .int n]) = true := by
  show PyData.eqv (.tuple [.tuple [.int a, .int b, .int c], .int n]) (.tuple [.tuple [.int a, .int b, .int c], .int n]) = true
  simp [PyData.eqv, PyData.eqvAll]
theorem eqv_sh (n d : Int) : D.eqv (t2 n d) (t2 n d) = true := by
  show PyData.eqv (.tuple [.int n, .int d]) (.tuple [.int n, .int d]) = true
  simp [PyData.eqv, PyData.eqvAll]
theorem eqv_3sh (a b c d e f : Int) : D.eqv (.tup [t2 a b, t2 c d, t2 e f]) (.tup [t2 a b, t2 c d, t2 e f]) = true := by
  show PyData.eqv (.tuple [.tuple [.int a, .int b], .tuple [.int c, .int d], .tuple [.int e, .int f]]) (.tuple [.tuple [.int a, .int b], .tuple [.int c, .int d], .tuple [.int e, .int f]]) = true
  simp [PyData.eqv, PyData.eqvAll]
theorem law10 (F : FX g CW) (KZ : KRep g "ZERO" (t3 0 0 0)) (h : W11 a b c) (q : P.nx (ro3 x0 x1 x2 a b c d e f x y z x6 x7 x8 x9 x10 x11 x12 x13 x14 x15 x16 x17 x18 x19) M) : Stm (lwL g) (ro3 x0 x1 x2 a b c d e f x y z x6 x7 x8 x9 x10 x11 x12 x13 x14 x15 x16 x17 x18 x19) M (bs 10) P := by
  obtain ⟨a1, a2, a3⟩ := h
  refine s_skip (EvTD.is (t_w (w_and (t_ne (dv 3 rfl rfl rfl) (d_glob KZ rfl) rfl rfl) (fun _ => (w_and1 (t_w (w_or (t_not (t_val (d_callP F.same_way rfl rfl (a_cons (dv 3 rfl rfl rfl) (a_cons (d_callP F.stretched rfl rfl (a_cons (dv 3 rfl rfl rfl) (a_cons d_int a_nil)) (.mk (by walk_at "w3") (by walk_at "bt"))) a_nil)) (.mk (by walk_at "w3") (by walk_at "w3"))))) (fun _ => (w_or1 (t_val (d_callP F.same_way rfl rfl (a_cons (dv 3 rfl rfl rfl) (a_cons (d_callP F.stretched rfl rfl (a_cons (dv 3 rfl rfl rfl) (a_cons (d_neg d_int) a_nil)) (.mk (by walk_at "w3") (by walk_at "bt"))) a_nil)) (.mk (by walk_at "w3") (by walk_at "w3")))))))))))) ?_) q
  cases hA : D.eqv (t3 a b c) (t3 0 0 0) with
  | true => rfl
  | false =>
    have hz : Nz a b c := nz_of (by rw [hA]; rfl)
    have hp := hz.pos
    have h4 : D.eqv (t3 (a * 4) (b * 4) (c * 4)) (t3 0 0 0) = false := eqv_no (fun ⟨z1, z2, z3⟩ => hz ⟨by omega, by omega, by omega⟩)
    have h5 : D.eqv (t3 (a * -4) (b * -4) (c * -4)) (t3 0 0 0) = false := eqv_no (fun ⟨z1, z2, z3⟩ => hz ⟨by omega, by omega, by omega⟩)
    have c4 : D.eqv (t3 (b * (c * 4) - c * (b * 4)) (c * (a * 4) - a * (c * 4)) (a * (b * 4) - b * (a * 4))) (t3 0 0 0) = true := by
      rw [eqv_t3]; simp only [Bool.and_eq_true, decide_eq_true_eq]; grind
    have d4 : 0 < a * (a * 4) + b * (b * 4) + c * (c * 4) := by
      have : a * (a * 4) + b * (b * 4) + c * (c * 4) = 4 * (a * a + b * b + c * c) := by grind
      omega
    have d5 : ¬ 0 < a * (a * -4) + b * (b * -4) + c * (c * -4) := by
      have : a * (a * -4) + b * (b * -4) + c * (c * -4) = -4 * (a * a + b * b + c * c) := by grind
      omega
    have s4 : swB a b c (a * 4) (b * 4) (c * 4) = true := by
      unfold swB z3; rw [hA, h4, c4, decide_eq_true d4]; rfl
    have s5 : swB a b c (a * -4) (b * -4) (c * -4) = false := by
      unfold swB z3; rw [hA, h5, decide_eq_false d5]; simp
    rw [s4]
    show (true && (!true || swB a b c (a * -4) (b * -4) (c * -4))) = false
    rw [s5]; rfl
theorem law9 {ws : List W} (F : FX g CW) (B : Bu g) (KZ : KRep g "ZERO" (t3 0 0 0)) (hw : ws ≠ []) (hl : ws.length ≤ 4) (h : W11 a b c) (h' : W11 d e f) (q : P.nx (ro3 x0 x1 x2 a b c d e f x y z x6 x7 x8 x9 x10 x11 (some (.lst (ws.map wd))) x13 x14 x15 x16 x17 x18 x19) M) : Stm (lwL g) (ro3 x0 x1 x2 a b c d e f x y z x6 x7 x8 x9 x10 x11 (some (.lst (ws.map wd))) x13 x14 x15 x16 x17 x18 x19) M (bs 9) P := by
  obtain ⟨a1, a2, a3⟩ := h; obtain ⟨b1, b2, b3⟩ := h'
  
  refine s_skip (EvTD.is (t_w (w_or (t_ne (d_callQ F.middle rfl rfl (a_cons (dv 12 rfl rfl rfl) a_nil) (.l hw (by omega))) (dt (a_cons (d_tuple B rfl (d_unr [("k", 18)] (.nm 18) (ds := [.int (wX ws).sum, .int (wY ws).sum, .int (wZ ws).sum]) (nk rfl rfl) rfl (by decide) (s_range1 B rfl d_int ⟨by decide, by decide⟩) rfl rfl
    ⟨⟨_, rfl, d_sum (ns := wX ws) B rfl (d_mapX (xs := ws) (φ := wd) [("row", 19)] (.nm 19) (fun w => .int w.1) (nk rfl rfl) rfl (by decide) (s_listM (dv 12 rfl rfl rfl)) (by omega) (fun w hw => ⟨_, rfl, (d_ixT (dv 19 rfl rfl rfl) (dv 18 rfl rfl rfl) rfl)⟩)) (by rw [List.map_map]; rfl)⟩,
     ⟨_, rfl, d_sum (ns := wY ws) B rfl (d_mapX (xs := ws) (φ := wd) [("row", 19)] (.nm 19) (fun w => .int w.2.1) (nk rfl rfl) rfl (by decide) (s_listM (dv 12 rfl rfl rfl)) (by omega) (fun w hw => ⟨_, rfl, (d_ixT (dv 19 rfl rfl rfl) (dv 18 rfl rfl rfl) rfl)⟩)) (by rw [List.map_map]; rfl)⟩,
     ⟨_, rfl, d_sum (ns := wZ ws) B rfl (d_mapX (xs := ws) (φ := wd) [("row", 19)] (.nm 19) (fun w => .int w.2.2) (nk rfl rfl) rfl (by decide) (s_listM (dv 12 rfl rfl rfl)) (by omega) (fun w hw => ⟨_, rfl, (d_ixT (dv 19 rfl rfl rfl) (dv 18 rfl rfl rfl) rfl)⟩)) (by rw [List.map_map]; rfl)⟩, trivial⟩) (.inr (.inl rfl))) (a_cons (d_len B rfl (dv 12 rfl rfl rfl) (.inr (.inl rfl))) a_nil)) rfl) rfl rfl) (fun _ => w_or1 (t_ne (d_callP F.same_way rfl rfl (a_cons (dv 3 rfl rfl rfl) (a_cons (dv 4 rfl rfl rfl) a_nil)) (.mk (by walk_at "w3") (by walk_at "w3"))) (d_and (d_ne (dv 3 rfl rfl rfl) (d_glob KZ rfl) rfl rfl) (fun _ => (d_and (d_ne (dv 4 rfl rfl rfl) (d_glob KZ rfl) rfl rfl) (fun _ => (d_and (d_eq (d_callP F.cross rfl rfl (a_cons (dv 3 rfl rfl rfl) (a_cons (dv 4 rfl rfl rfl) a_nil)) (.mk (by walk_at "w3") (by walk_at "w3"))) (d_glob KZ rfl) rfl rfl) (fun _ => (d_one (d_gt (d_callP F.dot rfl rfl (a_cons (dv 3 rfl rfl rfl) (a_cons (dv 4 rfl rfl rfl) a_nil)) (.mk (by walk_at "w3") (by walk_at "w3"))) d_int)))))))) rfl rfl)))) ?_) q
  rw [List.length_map, eqv_vi, eqv_bl]
  unfold swB z3
  cases D.eqv (t3 a b c) (t3 0 0 0) <;> cases D.eqv (t3 d e f) (t3 0 0 0) <;> simp
end K1
set_option Elab.async false
set_option linter.all false
set_option maxRecDepth 100000
set_option maxHeartbeats 4000000
/-! K1I: shares in the law; the law. -/
namespace K1
open PySem L2 DL
local macro_rules | `(tactic| walk_at "bd") => `(tactic| first
  | assumption
  | exact bd_lit (n := 10) _ rfl
  | exact bd_add (by walk_at "bd") (by walk_at "bd")
  | exact bd_sub (by walk_at "bd") (by walk_at "bd")
  | exact bd_mul (by walk_at "bd") (by walk_at "bd")
  | exact bd_neg (by walk_at "bd"))
local macro_rules | `(tactic| walk_at "mw") => `(tactic| exact mulw (by walk_at "bd") (by walk_at "bd") (by rfl))
local macro_rules | `(tactic| walk_at "bt") => `(tactic| exact bd_to (by walk_at "bd") (by rfl))
local macro_rules | `(tactic| walk_at "w3") => `(tactic| exact ⟨by walk_at "bt", by walk_at "bt", by walk_at "bt"⟩)
local macro_rules | `(tactic| walk_at "pos") => `(tactic| first | assumption | decide | omega)
local macro_rules | `(tactic| walk_at "dv") => `(tactic| exact ⟨by omega, .inl (by omega)⟩)
local macro_rules | `(tactic| walk_at "und") => `(tactic| first | assumption | exact Or.inl ⟨by assumption, by walk_at "bt"⟩)
local macro_rules | `(tactic| walk_at "ub") => `(tactic| omega)

variable {g : Gx} {CW : Addr} {M : Store} {P : Post} {p : Addr} {j : Nat} {ρ : Ro} {a b c d e f x y z n m u v : Int} {x0 x1 x2 x3 x4 x5 x6 x7 x8 x9 x10 x11 x12 x13 x14 x15 x16 x17 x18 x19 : Option D}
/-- a small share -/
structure Sm (n d : Int) : Prop where
  n : Bd 10 n
  d0 : 0 < d
  d1 : d ≤ 12
theorem Sm.bd {n d : Int} (h : Sm n d) : Bd 10 d := bd_le (by have := h.d0; omega) h.d1 (bd_lit (n := 10) _ rfl)
theorem sn_sm {n d : Int} (h : -20 ≤ n ∧ n < 20) (h' : 1 ≤ d ∧ d ≤ 12) : Sm (LA.sn n d) (LA.sd n d) := by
  have hd : 0 < d := by omega
  have hg := LA.gc_pos (a := n) (show d ≠ 0 by omega)
  have e := pl_pos (n := n) hd
  refine ⟨?_, ?_, ?_⟩
  · unfold LA.sn
    exact bd_fdiv (bd_of (B := 20) (by omega) (by omega) (bd_lit (n := 10) _ rfl)) hg
  · have := den_pos (a := n) hd
    unfold den pby at this
    rw [if_pos hd] at this
    exact this
  · unfold LA.sd
    rw [Int.fdiv_eq_ediv_of_nonneg _ (by omega)]
    exact Int.le_trans (Int.ediv_le_self _ (by omega)) h'.2
abbrev roB (x0 x1 x2 x3 x4 x5 x6 x7 x8 x9 x10 x11 x12 : Option D) (n d m e : Int) (x14 x15 x16 x17 x18 x19 : Option D) : Ro := [x0, x1, x2, x3, x4, x5, x6, x7, x8, x9, x10, x11, x12, some (.lst [t2 n d, t2 m e]), x14, x15, x16, x17, x18, x19]
theorem law12 (F : FX g CW) (hd : 1 ≤ d ∧ d ≤ 12) (he : 1 ≤ e ∧ e ≤ 12) (q : P.nx (roB x0 x1 x2 x3 x4 x5 x6 x7 x8 x9 x10 x11 x12 n d m e (some (LA.sh n d)) (some (LA.sh m e)) x16 x17 x18 x19) M) : Stm (lwL g) (roB x0 x1 x2 x3 x4 x5 x6 x7 x8 x9 x10 x11 x12 n d m e x14 x15 x16 x17 x18 x19) M (bs 12) P := by
  have hp : (2 : Int) ^ 30 = 1073741824 := by decide
  refine stm_unL (js := [14, 15]) ⟨nk rfl rfl, nk rfl rfl, trivial⟩ (fun _ => rfl) (fun env h => by cases env; cases h; rfl) (EvD.go (d_unr [("row", 19)] (.nm 19) (ds := [LA.sh n d, LA.sh m e]) (nk rfl rfl) rfl (by decide) (s_list (dv 13 rfl rfl rfl)) rfl rfl
    ⟨⟨_, rfl, d_callP F.psh rfl rfl (a_cons (d_ixT (dv 19 rfl rfl rfl) d_int rfl) (a_cons (d_ixT (dv 19 rfl rfl rfl) d_int rfl) a_nil)) (.mk ⟨by omega, by omega⟩)⟩, ⟨_, rfl, d_callP F.psh rfl rfl (a_cons (d_ixT (dv 19 rfl rfl rfl) d_int rfl) (a_cons (d_ixT (dv 19 rfl rfl rfl) d_int rfl) a_nil)) (.mk ⟨by omega, by omega⟩)⟩, trivial⟩) ⟨_, rfl, rfl, q⟩)
theorem law13 (F : FX g CW) (B : Bu g) (hn : -20 ≤ n ∧ n < 20) (hd : 1 ≤ d ∧ d ≤ 12) (hm : -20 ≤ m ∧ m < 20) (he : 1 ≤ e ∧ e ≤ 12) (q : P.nx (roB x0 x1 x2 x3 x4 x5 x6 x7 x8 x9 x10 x11 x12 n d m e (some (LA.sh n d)) (some (LA.sh m e)) x16 x17 x18 x19) M) : Stm (lwL g) (roB x0 x1 x2 x3 x4 x5 x6 x7 x8 x9 x10 x11 x12 n d m e (some (LA.sh n d)) (some (LA.sh m e)) x16 x17 x18 x19) M (bs 13) P := by
  have hp : (2 : Int) ^ 30 = 1073741824 := by decide
  have s1 := sn_sm hn hd
  have s2 := sn_sm hm he
  have b20 : Bd 10 (20 : Int) := bd_lit (n := 10) _ rfl
  have bn : Bd 10 n := bd_of (B := 20) (by omega) (by omega) b20
  have bd : Bd 10 d := bd_of (B := 20) (by omega) (by omega) b20
  have u1 : UOk (-d) := Or.inr ⟨by omega, by omega⟩
  obtain ⟨k1, k2, k3⟩ := s1
  obtain ⟨k4, k5, k6⟩ := s2
  have k7 : Bd 10 (LA.sd n d) := bd_of (B := 20) (by omega) (by omega) b20
  have k8 : Bd 10 (LA.sd m e) := bd_of (B := 20) (by omega) (by omega) b20
  have k9 : 0 < LA.sd n d * LA.sd m e := Int.mul_pos k2 k5
  have k10 : LA.sd n d * LA.sd m e < 2 ^ 30 := by
    have := mul_mono (a := LA.sd n d) (b := 12) (c := LA.sd m e) (d := 12) (by omega) k3 (by omega) k6
    omega
  have st : LA.Steps 60 n d := LA.steps_of (m := 30) (by omega) (by omega)
  refine s_skip (EvTD.is (t_w (w_or (t_ne (d_callQ F.plain rfl rfl (a_cons (d_neg (d_ixT (d_ixL (dv 13 rfl rfl rfl) d_int rfl) d_int rfl)) (a_cons (d_neg (d_ixT (d_ixL (dv 13 rfl rfl rfl) d_int rfl) d_int rfl)) a_nil)) (.mk u1 (by walk_at "bt"))) (dv 14 rfl rfl rfl) rfl rfl) (fun _ => w_or (t_ne (d_callQ F.added rfl rfl (a_cons (dv 14 rfl rfl rfl) (a_cons (dv 15 rfl rfl rfl) a_nil)) (.mk (by walk_at "bt") (by walk_at "bt") (by walk_at "bt") (by walk_at "bt") (by walk_at "pos") (by walk_at "pos"))) (d_callP F.ladd rfl rfl (a_cons (dv 14 rfl rfl rfl) (a_cons (dv 15 rfl rfl rfl) a_nil)) (.mk k2 k5 k10)) rfl rfl) (fun _ => w_or (t_ne (d_callP F.times rfl rfl (a_cons (dv 14 rfl rfl rfl) (a_cons (dv 15 rfl rfl rfl) a_nil)) (.mk (by walk_at "bt") (by walk_at "bt") (by walk_at "bt") (by walk_at "bt") (by walk_at "pos") (by walk_at "pos"))) (d_callP F.lmul rfl rfl (a_cons (dv 14 rfl rfl rfl) (a_cons (dv 15 rfl rfl rfl) a_nil)) (.mk (by walk_at "bt") (by walk_at "bt") k2 k5 k10)) rfl rfl) (fun _ => w_or (t_neI (d_callP F.order rfl rfl (a_cons (dv 14 rfl rfl rfl) (a_cons (dv 15 rfl rfl rfl) a_nil)) (.mk (by walk_at "bt") (by walk_at "bt") (by walk_at "bt") (by walk_at "bt"))) (d_sub (d_intB B rfl (d_callP F.less rfl rfl (a_cons (dv 15 rfl rfl rfl) (a_cons (dv 14 rfl rfl rfl) a_nil)) (.mk (by walk_at "bt") (by walk_at "bt") (by walk_at "bt") (by walk_at "bt")))) (d_intB B rfl (d_callP F.less rfl rfl (a_cons (dv 14 rfl rfl rfl) (a_cons (dv 15 rfl rfl rfl) a_nil)) (.mk (by walk_at "bt") (by walk_at "bt") (by walk_at "bt") (by walk_at "bt")))))) (fun _ => w_or1 (t_neI (d_callP F.common rfl rfl (a_cons (d_ixT (d_ixL (dv 13 rfl rfl rfl) d_int rfl) d_int rfl) (a_cons (d_ixT (d_ixL (dv 13 rfl rfl rfl) d_int rfl) d_int rfl) a_nil)) (.mk (by walk_at "bt") (by walk_at "bt"))) (d_callP F.gcd rfl rfl (a_cons (d_ixT (d_ixL (dv 13 rfl rfl rfl) d_int rfl) d_int rfl) (a_cons (d_ixT (d_ixL (dv 13 rfl rfl rfl) d_int rfl) d_int rfl) a_nil)) (.mk st))))))))) ?_) q
  rw [plain_neg (by omega), pl_pos k9, pl_pos k9, eqv_sh, eqv_sh, eqv_sh]
  simp
theorem num_eq {t u : Int} (h : 0 < u) : num t u = LA.sn t u := by
  unfold num pby LA.sn
  rw [if_pos h]
theorem den_eq {t u : Int} (h : 0 < u) : den t u = LA.sd t u := by
  unfold den pby LA.sd
  rw [if_pos h]
theorem sd_le {t u : Int} (h : 0 < u) : 0 < LA.sd t u ∧ LA.sd t u ≤ u := by
  refine ⟨by rw [← den_eq h]; exact den_pos h, ?_⟩
  unfold LA.sd
  have hg := LA.gc_pos (a := t) (show u ≠ 0 by omega)
  rw [Int.fdiv_eq_ediv_of_nonneg _ (by omega)]
  exact Int.ediv_le_self _ (by omega)
abbrev roC (x0 x1 x2 : Option D) (a b c d e f : Int) (x5 x6 x7 x8 x9 x10 x11 x12 x13 : Option D) (n m : Int) (x15 x16 x17 x18 x19 : Option D) : Ro := [x0, x1, x2, some (t3 a b c), some (t3 d e f), x5, x6, x7, x8, x9, x10, x11, x12, x13, some (t2 n m), x15, x16, x17, x18, x19]
theorem law14 (F : FX g CW) (B : Bu g) (h : W11 a b c) (h' : W11 d e f) (s : Sm n m) (q : P.nx (roC x0 x1 x2 a b c d e f x5 x6 x7 x8 x9 x10 x11 x12 x13 n m x15 x16 x17 x18 x19) M) : Stm (lwL g) (roC x0 x1 x2 a b c d e f x5 x6 x7 x8 x9 x10 x11 x12 x13 n m x15 x16 x17 x18 x19) M (bs 14) P := by
  obtain ⟨a1, a2, a3⟩ := h; obtain ⟨b1, b2, b3⟩ := h'
  have hp : (2 : Int) ^ 30 = 1073741824 := by decide
  have k7 := s.bd
  obtain ⟨k1, k2, k3⟩ := s
  have k4 : Bd 10 (n.fdiv m) := bd_fdiv k1 k2
  have e0 : 0 < 1 * m := by omega
  obtain ⟨p1, q1⟩ := sd_le (t := (d - a) * n) e0
  obtain ⟨p2, q2⟩ := sd_le (t := (e - b) * n) e0
  obtain ⟨p3, q3⟩ := sd_le (t := (f - c) * n) e0
  have r1 : 0 < 1 * LA.sd ((d - a) * n) (1 * m) := by omega
  have r2 : 0 < 1 * LA.sd ((e - b) * n) (1 * m) := by omega
  have r3 : 0 < 1 * LA.sd ((f - c) * n) (1 * m) := by omega
  obtain ⟨f1, f2⟩ := floor_ok (a := n) k2
  refine s_skip (EvTD.is (t_w (w_or (t_not (t_leLt (d_mul (d_callP F.down rfl rfl (a_cons (dv 14 rfl rfl rfl) a_nil) (.mk (by walk_at "pos") (by walk_at "bt"))) (d_ixT (dv 14 rfl rfl rfl) d_int rfl) (by walk_at "mw")) (d_ixT (dv 14 rfl rfl rfl) d_int rfl) (d_mul (d_add (d_callP F.down rfl rfl (a_cons (dv 14 rfl rfl rfl) a_nil) (.mk (by walk_at "pos") (by walk_at "bt"))) d_int) (d_ixT (dv 14 rfl rfl rfl) d_int rfl) (by walk_at "mw")))) (fun _ => (w_or1 (t_ne (d_callP F.between rfl rfl (a_cons (dv 3 rfl rfl rfl) (a_cons (dv 4 rfl rfl rfl) (a_cons (dv 14 rfl rfl rfl) a_nil))) (.mk ⟨(by walk_at "bt"), (by walk_at "bt"), (by walk_at "bt")⟩ ⟨(by walk_at "bt"), (by walk_at "bt"), (by walk_at "bt")⟩ (by walk_at "bt") (by walk_at "bt") (by walk_at "pos"))) (d_tuple B rfl (d_unr [("k", 18)] (.nm 18) (ds := [_, _, _]) (nk rfl rfl) rfl (by decide) (s_range1 B rfl d_int ⟨by decide, by decide⟩) rfl rfl ⟨⟨_, rfl, (d_callP F.ladd rfl rfl (a_cons (dt (a_cons (d_ixT (dv 3 rfl rfl rfl) (dv 18 rfl rfl rfl) rfl) (a_cons d_int a_nil)) rfl) (a_cons (d_callP F.lmul rfl rfl (a_cons (dt (a_cons (d_sub (d_ixT (dv 4 rfl rfl rfl) (dv 18 rfl rfl rfl) rfl) (d_ixT (dv 3 rfl rfl rfl) (dv 18 rfl rfl rfl) rfl)) (a_cons d_int a_nil)) rfl) (a_cons (dv 14 rfl rfl rfl) a_nil)) (.mk (by walk_at "bt") (by walk_at "bt") (by walk_at "pos") (by walk_at "pos") (by walk_at "ub"))) a_nil)) (.mk (by walk_at "pos") (by walk_at "pos") (by walk_at "ub")))⟩, ⟨_, rfl, (d_callP F.ladd rfl rfl (a_cons (dt (a_cons (d_ixT (dv 3 rfl rfl rfl) (dv 18 rfl rfl rfl) rfl) (a_cons d_int a_nil)) rfl) (a_cons (d_callP F.lmul rfl rfl (a_cons (dt (a_cons (d_sub (d_ixT (dv 4 rfl rfl rfl) (dv 18 rfl rfl rfl) rfl) (d_ixT (dv 3 rfl rfl rfl) (dv 18 rfl rfl rfl) rfl)) (a_cons d_int a_nil)) rfl) (a_cons (dv 14 rfl rfl rfl) a_nil)) (.mk (by walk_at "bt") (by walk_at "bt") (by walk_at "pos") (by walk_at "pos") (by walk_at "ub"))) a_nil)) (.mk (by walk_at "pos") (by walk_at "pos") (by walk_at "ub")))⟩, ⟨_, rfl, (d_callP F.ladd rfl rfl (a_cons (dt (a_cons (d_ixT (dv 3 rfl rfl rfl) (dv 18 rfl rfl rfl) rfl) (a_cons d_int a_nil)) rfl) (a_cons (d_callP F.lmul rfl rfl (a_cons (dt (a_cons (d_sub (d_ixT (dv 4 rfl rfl rfl) (dv 18 rfl rfl rfl) rfl) (d_ixT (dv 3 rfl rfl rfl) (dv 18 rfl rfl rfl) rfl)) (a_cons d_int a_nil)) rfl) (a_cons (dv 14 rfl rfl rfl) a_nil)) (.mk (by walk_at "bt") (by walk_at "bt") (by walk_at "pos") (by walk_at "pos") (by walk_at "ub"))) a_nil)) (.mk (by walk_at "pos") (by walk_at "pos") (by walk_at "ub")))⟩, trivial⟩) (.inr (.inl rfl))) rfl rfl))))) ?_) q
  simp only [bet, pl, num_eq e0, den_eq e0, num_eq r1, den_eq r1, num_eq r2, den_eq r2, num_eq r3, den_eq r3]
  rw [decide_eq_true f1, decide_eq_true f2, eqv_3sh]
  rfl
theorem law15 (F : FX g CW) (hj : M[j]? = some (p, .hid LA.DiceOk))
    (q : ∀ n m : Int, (-50 ≤ n ∧ n < 49) → (1 ≤ m ∧ m ≤ 9) → P.nx (roA x0 p x2 x3 x4 x5 x6 x7 x8 x9 x10 x11 x12 x13 x14 x15 (some (.int n)) (some (.int m)) x18 x19) M) : Stm (lwL g) (roA x0 p x2 x3 x4 x5 x6 x7 x8 x9 x10 x11 x12 x13 x14 x15 x16 x17 x18 x19) M (bs 15) P := by
  refine stm_par (i := 16) (j := 17) rfl rfl (by decide) rfl rfl (fun env h => by cases env; cases h; rfl) (ea_cons (by intro _; rfl) (ev_op (r := rSubI) (fun _ _ => op_sub) (LA.ev_roll F.roll rfl rfl (dv 1 rfl rfl rfl) d_int hj (by decide) (by decide) fun r r0 r1 => EvD.go d_int (o_sub ?_))))
  refine ea_cons (by intro _; rfl) (ev_op (r := rAddI) (fun _ _ => op_add) (EvD.go d_int (LA.ev_roll F.roll rfl rfl (dv 1 rfl rfl rfl) d_int hj (by decide) (by decide) fun u u0 u1 => o_add ?_)))
  exact ea_nil ⟨_, _, rfl, q (r - 50) (1 + u) (by omega) (by omega)⟩
abbrev roD (x0 x1 x2 x3 x4 x5 x6 x7 x8 x9 x10 x11 x12 x13 x14 x15 : Option D) (n m : Int) (x18 x19 : Option D) : Ro := [x0, x1, x2, x3, x4, x5, x6, x7, x8, x9, x10, x11, x12, x13, x14, x15, some (.int n), some (.int m), x18, x19]
theorem law16 (F : FX g CW) (B : Bu g) (hn : -50 ≤ n ∧ n < 49) (hm : 1 ≤ m ∧ m ≤ 9) (q : P.nx (roD x0 x1 x2 x3 x4 x5 x6 x7 x8 x9 x10 x11 x12 x13 x14 x15 n m x18 x19) M) : Stm (lwL g) (roD x0 x1 x2 x3 x4 x5 x6 x7 x8 x9 x10 x11 x12 x13 x14 x15 n m x18 x19) M (bs 16) P := by
  have b50 : Bd 10 (50 : Int) := bd_lit (n := 10) _ rfl
  have bn : Bd 10 n := bd_of (B := 50) (by omega) (by omega) b50
  have bm : Bd 10 m := bd_of (B := 50) (by omega) (by omega) b50
  have m0 : 0 < m := by omega
  have f1 : Bd 10 (n.fdiv m) := bd_fdiv bn m0
  have f2 : Bd 10 ((-n).fdiv m) := bd_fdiv (bd_neg bn) m0
  have i1 : Bd 10 (if decide (0 ≤ n) = true then (1 : Int) else 0) := by split <;> exact bd_lit (n := 10) _ rfl
  have i2 : Bd 10 (if decide (n < 0) = true then (1 : Int) else 0) := by split <;> exact bd_lit (n := 10) _ rfl
  refine s_skip (EvTD.is (t_neI (d_callP F.towards rfl rfl (a_cons (dv 16 rfl rfl rfl) (a_cons (dv 17 rfl rfl rfl) a_nil)) (.mk (by walk_at "pos") (by walk_at "bt"))) (d_sub (d_mul (d_intB B rfl (d_ge (dv 16 rfl rfl rfl) d_int)) (d_div (dv 16 rfl rfl rfl) (dv 17 rfl rfl rfl) (by walk_at "dv")) (by walk_at "mw")) (d_mul (d_intB B rfl (d_lt (dv 16 rfl rfl rfl) d_int)) (d_div (d_neg (dv 16 rfl rfl rfl)) (dv 17 rfl rfl rfl) (by walk_at "dv")) (by walk_at "mw")))) ?_) q
  rw [tow_ok]
  simp
end K1
set_option Elab.async false
set_option linter.all false
set_option maxRecDepth 100000
set_option maxHeartbeats 4000000
/-! K1J: the law. -/
namespace DL
open PySem L2
theorem ev_call0 {L : Lx} {ρ : Ro} {M : Store} {Q : D → Store → Prop} {E : Addr → Store → Prop} {pos : Pos} {x : Str} {k : Nat} {sp : SpD} {p : Pos} (F : Fn L.g x k sp) (hk : k ≤ L.n) (hg : L.sc.names.lookup x = some .globalImplicit) (h : sp [] M Q E)
    (hdb : (x == ("__debug__" : Str)) = false := by decide) : Ev L ρ M (.Call (.Name x p) [] [] pos) Q E := fun X ci σ G H R f s kk kx pins st I => by
  obtain ⟨ff, fd, ps, hm, hkp, hb, F⟩ := F.ex
  have F' : FnOk X.prog X.w X.K X.mg X.base (L2.CX X.prog X.w) k ff fd ps (spOf L.g sp) := by rw [ci.prog, ci.w, ci.K, ci.mg, ci.base]; exact F
  refine wpAny_Call_Name_kw (ld_glob I (ci.gl hg) (by rw [ci.mg]; exact hm) ?_ hdb)
  exact PySem.W.callWith_K0 (first := []) I.kIn (by rw [ci.K]; exact hkp) (run_fnS (us := []) (vs := []) F' (ci.room.mono hk) (by rw [ci.K]; exact hb) (passAt (takesT X) σ) I .nil ⟨G, M, [], Q, E, s, rfl, h, kk, fun C G' M' H' m' s' e => ⟨C, rfl, rfl, kx C G' M' H' m' s' e⟩⟩)
end DL
namespace K1
open PySem L2 DL
variable {g : Gx} {CW : Addr}
def SpLaw : SpD := fun ds M Q _ => ∃ ns : List Int, ds = [.seq (ns.map D.int)] ∧ Q (.bl true) M
theorem law_body (B : Bu g) (KZ : KRep g "ZERO" (t3 0 0 0)) (F : FX g CW) : ∀ (ds : List D) (M : Store) (Q : D → Store → Prop) (E : Addr → Store → Prop), SpLaw ds M Q E → Run (lwL g) (ds.map some ++ List.replicate (20 - ds.length) none) M (defBody s_law) { nx := fun _ M' => Q .non M', rt := Q, ex := E } := by
  rintro _ M Q E ⟨ns, rfl, q⟩
  refine run_cons (stm_for (pt := .nm 1) (nk rfl rfl) (fun _ _ => rfl) (src_list (ev_call F.rounds (Nat.le_of_ble_eq_true rfl) rfl (by intro _; rfl) (by intro _; rfl) (EvAD.go (a_cons (dv 0 rfl rfl rfl) (a_cons d_int a_nil)) ⟨ns, rfl, fun p => ⟨[.ref p], .inl rfl, fun i ρ' M' => M' = (p, .hid LA.DiceOk) :: M ∧ (i = 0 → ρ' = some (.seq (ns.map D.int)) :: List.replicate 19 none), ⟨rfl, fun _ => rfl⟩, ?_, ?_⟩⟩))))
  · rintro i hi ρ' M' ⟨rfl, h0⟩
    have hi : i < 1 := hi
    have e : i = 0 := by omega
    subst e
    rw [h0 rfl]
    refine ⟨_, rfl, ?_⟩
    have hj : ((p, MO.hid LA.DiceOk) :: M)[0]? = some (p, .hid LA.DiceOk) := rfl
    refine run_cons (law0 F hj fun s s0 s1 => ?_)
    refine run_cons (law1 F B hj s0 s1 fun a b c d e f x y z w1 w2 w3 => ?_)
    refine run_cons (law2 F w1 w2 ?_)
    refine run_cons (law3 F w1 w2 w3 ?_)
    refine run_cons (law4 F w1 ?_)
    refine run_cons (law5 F hj fun l l0 l1 => ?_)
    refine run_cons (law6 F B KZ w1 l0 l1 fun x7 => ?_)
    refine run_cons (law7 F KZ w1 w2 fun x8 x9 x10 x11 => ?_)
    refine run_cons (law8 F B hj s0 s1 fun ws hw hl => ?_)
    refine run_cons (law9 F B KZ hw hl w1 w2 ?_)
    refine run_cons (law10 F KZ w1 ?_)
    refine run_cons (law11 F B hj fun n d1 m e1 hn hd hm he => ?_)
    refine run_cons (law12 F hd he ?_)
    refine run_cons (law13 F B hn hd hm he ?_)
    refine run_cons (law14 F B w1 w2 (sn_sm hn hd) ?_)
    refine run_cons (law15 F hj fun u v hu hv => ?_)
    exact run_one (law16 F B hu hv ⟨rfl, fun z => by cases z⟩)
  · rintro ρ' M' ⟨rfl, _⟩
    exact run_one (stm_ret (ev_view (ev_call0 F.plainL (Nat.le_of_ble_eq_true rfl) rfl ⟨rfl, M, vw_drop, q⟩)))
end K1
set_option Elab.async false
set_option linter.all false
set_option maxRecDepth 100000
set_option maxHeartbeats 0
/-! K1K: the head. -/
namespace K1
open PySem PySem.Spec PyProof.Rows L2 DL
def dd (x : Str) (st : Stmt) : He.DefD := ⟨(x, none), x, x, defArgs st, defBody st, defScope st, [], []⟩
def fns : List He.DefD := [dd "plus" s_plus, dd "minus" s_minus, dd "stretched" s_stretched, dd "along" s_along, dd "across" s_across, dd "block" s_block, dd "square" s_square, dd "root" s_root, dd "length" s_length, dd "made" s_made, dd "towards" s_towards, dd "mirrored" s_mirrored, dd "parted" s_parted, dd "middle" s_middle, dd "common" s_common, dd "plain" s_plain, dd "order" s_order, dd "added" s_added, dd "times" s_times, dd "down" s_down, dd "between" s_between, dd "same_way" s_same_way,
  dd "_law_dice" LA.s_law_dice, dd "_law_roll" LA.s_law_roll, dd "_law_rounds" LA.s_law_rounds, dd "_law_told" s_law_told, dd "_law_gcd" LA.s_law_gcd, dd "_law_plain_share" LA.s_law_plain_share, dd "_law_add" LA.s_law_add, dd "_law_mul" LA.s_law_mul, dd "_law_less" LA.s_law_less, dd "_law_dot" LA.s_law_dot, dd "_law_cross" LA.s_law_cross, dd "_law_from" LA.s_law_from, dd "_law_way" LA.s_law_way, dd "_law_plain" s_law_plain, dd "law" s_law]
def blts : List Str := ["len", "abs", "int", "sum", "tuple", "list", "range", "enumerate", "zip", "min", "max", "sorted", "any", "all", "dict"]
def fas : List He.Fa := fns.map (fun d => .glo d.name) ++ blts.map .free ++ [.glo "ZERO", .glo "WayError", .int "ONE" 1000, .exc "WayError", .exm "WayError" "WayError" true]
def tfs : List He.Defn := [("made", none), ("_law_plain", none)]
def exb (K : PySem.W.Frag) : Bool := He.tupB K "ZERO" [.int 0, .int 0, .int 0] && !decide ((He.cT K ("made", none)).2 = (He.cT K ("_law_plain", none)).2)
abbrev R : PySem.W.OpenRow := PySem.W.OpenLaw.row PySem.Challenge.rw_raystack_k01_steps_in_space_and_shares
abbrev hk : PySem.W.Hook := He.hookX 4 fas fns [] tfs exb
def ob (s : PySem.W.SharedT) : He.AlX := He.obsX 4 fas fns [] tfs exb (HandSHeadRun.getT s)
theorem ob_eq (s : PySem.W.SharedT) : ob s = hk.obs s.abs := He.obsX_eq (HandSHeadRun.getT_eq s)
def loose : List Str := (["RayFault", "WayError", "ONE", "ZERO"] : List Str) ++ (fns.map (·.name)).dropLast
theorem run (w : World) : HandSHeadRun.RunEq R (PySem.W.view R.prog [43]) hk ob 20000 loose w := by
  intro os
  kernel_rfl
end K1
set_option Elab.async false
set_option linter.all false
set_option maxRecDepth 100000
set_option maxHeartbeats 4000000
/-! K1L: the end. -/
namespace DL
open PySem PySem.Spec PyProof.Rows L2
theorem fun_of {K : PySem.W.Frag} {x q : Str} {st : Stmt} {f : Addr} {fd : FuncData} (F : FunD K x q (defArgs st) (defBody st) (defScope st) [] [] f fd) : Fun K x q st f fd := by
  obtain ⟨oc, od, dV, kV, doc, pm, an, cdv, ct, osl, e, lk, cd, dv, kw⟩ := F.ex
  rcases dv with ⟨_, rfl⟩ | ⟨z, _⟩
  · exact ⟨⟨oc, od, kV, doc, pm, an, cdv, ct, osl, e, lk, cd⟩, F.kp⟩
  · exact absurd rfl z
theorem fnok_mk {g : Gx} {x qual : Str} {st : Stmt} {f : Addr} {fd : FuncData} {N ps : List Str} {k : Nat} {sp : SpD} {tb : Option (Addr × Option Str)} (hc : CdOk g fd.code (qual ++ ".<locals>.") tb) (F : Fun g.K x qual st f fd) (S : FnScope N ps (defScope st)) (len : ∀ ds M Q E, sp ds M Q E → ds.length = ps.length)
    (body : ∀ ds M Q E, sp ds M Q E → DL.Run ⟨g, N, defScope st, k, fun _ => true, tb, true⟩ (ds.map some ++ List.replicate (N.length - ds.length) none) M (defBody st) { nx := fun _ M' => Q .non M', rt := Q, ex := E }) : FnOk g.P g.w g.K g.mg g.base (L2.CX g.P g.w) (k + 1) f fd ps (spOf g sp) := by
  obtain ⟨oc, od, kV, doc, pm, an, cdv, ct, osl, rfl, lk, hcd⟩ := F.ex
  refine fn_of lk hcd S (fun vs H Q E h => ?_) fun A outer s H vs Q E hr h => ?_
  · obtain ⟨G, M, ds, Qd, Ed, _, r, h, _⟩ := h
    rw [r.length]
    exact len ds M Qd Ed h
  · obtain ⟨G, M, ds, Qd, Ed, st', r, h, kd, kx⟩ := h
    refine ⟨_, pss_wp, ?_⟩
    refine body ds M Qd Ed h _ (ci_def S hc hr) _ G H _ (start_frm r) st' ⟨fun σ' ρ' G' M' H' _ m' s' q => kd _ _ G' M' H' m' s' rep_non q, kd, fun _ _ _ _ _ _ _ _ z => z.elim, fun _ _ _ _ _ _ _ _ z => z.elim, fun σ' C G' M' H' m' s' q => ?_⟩
    exact Thr.of (takes_of rfl rfl rfl rfl) (kx C G' M' H' m' s' q)
/-- the law's own heap, ahead of its first step: tables empty, the script -/
def noTab (H : Hp) : Hp := fun b => match H b with
  | some (.tbl _) => none
  | o => o
theorem noTab_of {H : Hp} {b : Addr} {o : HO} (h : H b = some o) (n : ∀ ps, o ≠ .tbl ps) : noTab H b = some o := by
  unfold noTab
  rw [h]
  cases o <;> first | rfl | exact absurd rfl (n _)
theorem of_noTab {H : Hp} {b : Addr} {o : HO} (h : noTab H b = some o) : H b = some o ∧ ∀ ps, o ≠ .tbl ps := by
  unfold noTab at h
  cases q : H b with
  | none => rw [q] at h; cases h
  | some u =>
    rw [q] at h
    cases u <;> first | (cases h; exact ⟨rfl, fun ps z => by cases z⟩) | cases h
theorem sta_first {g : Gx} {H : Hp} (h : ∀ p ∈ g.T, H p.1 = some (.tbl #[])) : Sta g (noTab H) H [] where
  ex := fun b u e => (of_noTab e).1
  tie := fun p hp => by simp at hp
  nd := List.nodup_nil
  tabs := fun p hp => ⟨#[], h p hp, True.intro, fun q _ pos cv hc => by
    have hc : codeAmong pos [] = some cv := hc
    simp [codeAmong] at hc⟩
  nt := fun a ps e => (of_noTab e).2 ps rfl
theorem reps_ints {K : PySem.W.Frag} {G : Hp} : ∀ ns : List Int, Reps K G (ns.map D.int) (ns.map V.int)
  | [] => rfl
  | n :: ns => ⟨.int n, ns.map V.int, rfl, rfl, reps_ints ns⟩
theorem seq_noTab {K : PySem.W.Frag} {H : Hp} {a : Addr} {xs : List V} (h : SqL K H a xs) : SqL K (noTab H) a xs := by
  refine h.imp (fun z => ?_) id
  rcases z with z | ⟨o, z⟩
  · exact .inl (noTab_of z fun ps q => by cases q)
  · exact .inr ⟨o, noTab_of z fun ps q => by cases q⟩
end DL
namespace K1
open PySem PySem.Spec PyProof.Rows L2 DL
section
variable {prog : Program} {w : World} {K : PySem.W.Frag} {mg : Str → Option Value} {base h : Heap}
abbrev gg (prog : Program) (w : World) (K : PySem.W.Frag) (mg : Str → Option Value) (base : Heap) : Gx := ⟨prog, w, K, mg, base, [((He.cT K ("made", none)).2, none), ((He.cT K ("_law_plain", none)).2, some ("_law_plain.<locals>." ++ "<lambda>"))]⟩
theorem df_of {x : Str} {st : Stmt} {ps : List Str} (X : K.In h) (G : h.Ns mainGlobals mg) (c : He.SaysD fas fns K) (i : Nat) (hi : fns[i]? = some (dd x st)) (hf : fas[i]? = some (.glo x)) (hb : ∀ {f : Addr} {fd : FuncData}, FunD K x x (defArgs st) (defBody st) (defScope st) [] [] f fd → Binds K fd ps []) : Df (gg prog w K mg base) x st ps := by
  obtain ⟨fd, F⟩ := c.def_ i hi
  exact ⟨_, fd, fun_of F, He.glo_ok X G (c.fact i hf), hb F, CdOk.none⟩
theorem d_plus (X : K.In h) (G : h.Ns mainGlobals mg) (c : He.SaysD fas fns K) : Df (gg prog w K mg base) "plus" s_plus ["one", "other"] := df_of X G c 0 rfl rfl fun F => F.bindsN fun _ _ _ _ _ _ us hl => match us, hl with | [_, _], _ => rfl
theorem d_minus (X : K.In h) (G : h.Ns mainGlobals mg) (c : He.SaysD fas fns K) : Df (gg prog w K mg base) "minus" s_minus ["one", "other"] := df_of X G c 1 rfl rfl fun F => F.bindsN fun _ _ _ _ _ _ us hl => match us, hl with | [_, _], _ => rfl
theorem d_stretched (X : K.In h) (G : h.Ns mainGlobals mg) (c : He.SaysD fas fns K) : Df (gg prog w K mg base) "stretched" s_stretched ["one", "times"] := df_of X G c 2 rfl rfl fun F => F.bindsN fun _ _ _ _ _ _ us hl => match us, hl with | [_, _], _ => rfl
theorem d_along (X : K.In h) (G : h.Ns mainGlobals mg) (c : He.SaysD fas fns K) : Df (gg prog w K mg base) "along" s_along ["one", "other"] := df_of X G c 3 rfl rfl fun F => F.bindsN fun _ _ _ _ _ _ us hl => match us, hl with | [_, _], _ => rfl
theorem d_across (X : K.In h) (G : h.Ns mainGlobals mg) (c : He.SaysD fas fns K) : Df (gg prog w K mg base) "across" s_across ["one", "other"] := df_of X G c 4 rfl rfl fun F => F.bindsN fun _ _ _ _ _ _ us hl => match us, hl with | [_, _], _ => rfl
theorem d_block (X : K.In h) (G : h.Ns mainGlobals mg) (c : He.SaysD fas fns K) : Df (gg prog w K mg base) "block" s_block ["one", "other", "third"] := df_of X G c 5 rfl rfl fun F => F.bindsN fun _ _ _ _ _ _ us hl => match us, hl with | [_, _, _], _ => rfl
theorem d_square (X : K.In h) (G : h.Ns mainGlobals mg) (c : He.SaysD fas fns K) : Df (gg prog w K mg base) "square" s_square ["one"] := df_of X G c 6 rfl rfl fun F => F.bindsN fun _ _ _ _ _ _ us hl => match us, hl with | [_], _ => rfl
theorem d_root (X : K.In h) (G : h.Ns mainGlobals mg) (c : He.SaysD fas fns K) : Df (gg prog w K mg base) "root" s_root ["number"] := df_of X G c 7 rfl rfl fun F => F.bindsN fun _ _ _ _ _ _ us hl => match us, hl with | [_], _ => rfl
theorem d_length (X : K.In h) (G : h.Ns mainGlobals mg) (c : He.SaysD fas fns K) : Df (gg prog w K mg base) "length" s_length ["one"] := df_of X G c 8 rfl rfl fun F => F.bindsN fun _ _ _ _ _ _ us hl => match us, hl with | [_], _ => rfl
theorem d_towards (X : K.In h) (G : h.Ns mainGlobals mg) (c : He.SaysD fas fns K) : Df (gg prog w K mg base) "towards" s_towards ["number", "by"] := df_of X G c 10 rfl rfl fun F => F.bindsN fun _ _ _ _ _ _ us hl => match us, hl with | [_, _], _ => rfl
theorem d_mirrored (X : K.In h) (G : h.Ns mainGlobals mg) (c : He.SaysD fas fns K) : Df (gg prog w K mg base) "mirrored" s_mirrored ["one", "upright"] := df_of X G c 11 rfl rfl fun F => F.bindsN fun _ _ _ _ _ _ us hl => match us, hl with | [_, _], _ => rfl
theorem d_parted (X : K.In h) (G : h.Ns mainGlobals mg) (c : He.SaysD fas fns K) : Df (gg prog w K mg base) "parted" s_parted ["one", "upright"] := df_of X G c 12 rfl rfl fun F => F.bindsN fun _ _ _ _ _ _ us hl => match us, hl with | [_, _], _ => rfl
theorem d_middle (X : K.In h) (G : h.Ns mainGlobals mg) (c : He.SaysD fas fns K) : Df (gg prog w K mg base) "middle" s_middle ["rows"] := df_of X G c 13 rfl rfl fun F => F.bindsN fun _ _ _ _ _ _ us hl => match us, hl with | [_], _ => rfl
theorem d_common (X : K.In h) (G : h.Ns mainGlobals mg) (c : He.SaysD fas fns K) : Df (gg prog w K mg base) "common" s_common ["one", "other"] := df_of X G c 14 rfl rfl fun F => F.bindsN fun _ _ _ _ _ _ us hl => match us, hl with | [_, _], _ => rfl
theorem d_plain (X : K.In h) (G : h.Ns mainGlobals mg) (c : He.SaysD fas fns K) : Df (gg prog w K mg base) "plain" s_plain ["one", "under"] := df_of X G c 15 rfl rfl fun F => F.bindsN fun _ _ _ _ _ _ us hl => match us, hl with | [_, _], _ => rfl
theorem d_order (X : K.In h) (G : h.Ns mainGlobals mg) (c : He.SaysD fas fns K) : Df (gg prog w K mg base) "order" s_order ["one", "other"] := df_of X G c 16 rfl rfl fun F => F.bindsN fun _ _ _ _ _ _ us hl => match us, hl with | [_, _], _ => rfl
theorem d_added (X : K.In h) (G : h.Ns mainGlobals mg) (c : He.SaysD fas fns K) : Df (gg prog w K mg base) "added" s_added ["one", "other"] := df_of X G c 17 rfl rfl fun F => F.bindsN fun _ _ _ _ _ _ us hl => match us, hl with | [_, _], _ => rfl
theorem d_times (X : K.In h) (G : h.Ns mainGlobals mg) (c : He.SaysD fas fns K) : Df (gg prog w K mg base) "times" s_times ["one", "other"] := df_of X G c 18 rfl rfl fun F => F.bindsN fun _ _ _ _ _ _ us hl => match us, hl with | [_, _], _ => rfl
theorem d_down (X : K.In h) (G : h.Ns mainGlobals mg) (c : He.SaysD fas fns K) : Df (gg prog w K mg base) "down" s_down ["share"] := df_of X G c 19 rfl rfl fun F => F.bindsN fun _ _ _ _ _ _ us hl => match us, hl with | [_], _ => rfl
theorem d_between (X : K.In h) (G : h.Ns mainGlobals mg) (c : He.SaysD fas fns K) : Df (gg prog w K mg base) "between" s_between ["one", "other", "share"] := df_of X G c 20 rfl rfl fun F => F.bindsN fun _ _ _ _ _ _ us hl => match us, hl with | [_, _, _], _ => rfl
theorem d_same_way (X : K.In h) (G : h.Ns mainGlobals mg) (c : He.SaysD fas fns K) : Df (gg prog w K mg base) "same_way" s_same_way ["one", "other"] := df_of X G c 21 rfl rfl fun F => F.bindsN fun _ _ _ _ _ _ us hl => match us, hl with | [_, _], _ => rfl
theorem d_law_dice (X : K.In h) (G : h.Ns mainGlobals mg) (c : He.SaysD fas fns K) : Df (gg prog w K mg base) "_law_dice" LA.s_law_dice ["cell"] := df_of X G c 22 rfl rfl fun F => F.bindsN fun _ _ _ _ _ _ us hl => match us, hl with | [_], _ => rfl
theorem d_law_roll (X : K.In h) (G : h.Ns mainGlobals mg) (c : He.SaysD fas fns K) : Df (gg prog w K mg base) "_law_roll" LA.s_law_roll ["dice", "many"] := df_of X G c 23 rfl rfl fun F => F.bindsN fun _ _ _ _ _ _ us hl => match us, hl with | [_, _], _ => rfl
theorem d_law_rounds (X : K.In h) (G : h.Ns mainGlobals mg) (c : He.SaysD fas fns K) : Df (gg prog w K mg base) "_law_rounds" LA.s_law_rounds ["script", "most"] := df_of X G c 24 rfl rfl fun F => F.bindsN fun _ _ _ _ _ _ us hl => match us, hl with | [_, _], _ => rfl
theorem d_law_told (X : K.In h) (G : h.Ns mainGlobals mg) (c : He.SaysD fas fns K) : Df (gg prog w K mg base) "_law_told" s_law_told ["what"] := df_of X G c 25 rfl rfl fun F => F.bindsN fun _ _ _ _ _ _ us hl => match us, hl with | [_], _ => rfl
theorem d_law_gcd (X : K.In h) (G : h.Ns mainGlobals mg) (c : He.SaysD fas fns K) : Df (gg prog w K mg base) "_law_gcd" LA.s_law_gcd ["one", "other"] := df_of X G c 26 rfl rfl fun F => F.bindsN fun _ _ _ _ _ _ us hl => match us, hl with | [_, _], _ => rfl
theorem d_law_plain_share (X : K.In h) (G : h.Ns mainGlobals mg) (c : He.SaysD fas fns K) : Df (gg prog w K mg base) "_law_plain_share" LA.s_law_plain_share ["one", "under"] := df_of X G c 27 rfl rfl fun F => F.bindsN fun _ _ _ _ _ _ us hl => match us, hl with | [_, _], _ => rfl
theorem d_law_add (X : K.In h) (G : h.Ns mainGlobals mg) (c : He.SaysD fas fns K) : Df (gg prog w K mg base) "_law_add" LA.s_law_add ["one", "other"] := df_of X G c 28 rfl rfl fun F => F.bindsN fun _ _ _ _ _ _ us hl => match us, hl with | [_, _], _ => rfl
theorem d_law_mul (X : K.In h) (G : h.Ns mainGlobals mg) (c : He.SaysD fas fns K) : Df (gg prog w K mg base) "_law_mul" LA.s_law_mul ["one", "other"] := df_of X G c 29 rfl rfl fun F => F.bindsN fun _ _ _ _ _ _ us hl => match us, hl with | [_, _], _ => rfl
theorem d_law_less (X : K.In h) (G : h.Ns mainGlobals mg) (c : He.SaysD fas fns K) : Df (gg prog w K mg base) "_law_less" LA.s_law_less ["one", "other"] := df_of X G c 30 rfl rfl fun F => F.bindsN fun _ _ _ _ _ _ us hl => match us, hl with | [_, _], _ => rfl
theorem d_law_dot (X : K.In h) (G : h.Ns mainGlobals mg) (c : He.SaysD fas fns K) : Df (gg prog w K mg base) "_law_dot" LA.s_law_dot ["one", "other"] := df_of X G c 31 rfl rfl fun F => F.bindsN fun _ _ _ _ _ _ us hl => match us, hl with | [_, _], _ => rfl
theorem d_law_cross (X : K.In h) (G : h.Ns mainGlobals mg) (c : He.SaysD fas fns K) : Df (gg prog w K mg base) "_law_cross" LA.s_law_cross ["one", "other"] := df_of X G c 32 rfl rfl fun F => F.bindsN fun _ _ _ _ _ _ us hl => match us, hl with | [_, _], _ => rfl
theorem d_law_from (X : K.In h) (G : h.Ns mainGlobals mg) (c : He.SaysD fas fns K) : Df (gg prog w K mg base) "_law_from" LA.s_law_from ["one", "other"] := df_of X G c 33 rfl rfl fun F => F.bindsN fun _ _ _ _ _ _ us hl => match us, hl with | [_, _], _ => rfl
theorem d_law_way (X : K.In h) (G : h.Ns mainGlobals mg) (c : He.SaysD fas fns K) : Df (gg prog w K mg base) "_law_way" LA.s_law_way ["dice", "size"] := df_of X G c 34 rfl rfl fun F => F.bindsN fun _ _ _ _ _ _ us hl => match us, hl with | [_, _], _ => rfl
theorem d_law0 (X : K.In h) (G : h.Ns mainGlobals mg) (c : He.SaysD fas fns K) : Df (gg prog w K mg base) "law" s_law ["script"] := df_of X G c 36 rfl rfl fun F => F.bindsN fun _ _ _ _ _ _ us hl => match us, hl with | [_], _ => rfl
theorem ptab (c : exb K = true) : (He.cT K ("made", none)).2 ≠ (He.cT K ("_law_plain", none)).2 := by
  unfold exb at c
  obtain ⟨_, c2⟩ := Bool.and_eq_true_iff.mp c
  intro z
  rw [decide_eq_true z] at c2
  cases c2
theorem cd_of {x : Str} {st : Stmt} {fd : FuncData} {k : Option Str} (F : FunD K x x (defArgs st) (defBody st) (defScope st) [] [] (He.fAd K (x, none)) fd) (TB : LamX.TabB base mg (He.cT K (x, none)).1 (He.cT K (x, none)).2) (hm : ((He.cT K (x, none)).2, k) ∈ (gg prog w K mg base).T)
    (hu : ∀ q ∈ (gg prog w K mg base).T, q.1 = (He.cT K (x, none)).2 → q.2 = k) (hk : ∀ q, k = some q → q = (x ++ ".<locals>.") ++ "<lambda>") : CdOk (gg prog w K mg base) fd.code (x ++ ".<locals>.") (some ((He.cT K (x, none)).2, k)) := by
  intro P' k' e
  cases e
  obtain ⟨oc, od, dV, kV, doc, pm, an, cdv, ct, osl, e, lk, cd, dv, kw⟩ := F.ex
  obtain ⟨c, hc⟩ := He.codeIn_ref cd
  have e2 : fd.code = .ref c := by rw [e]; exact hc
  have e3 : (He.cT K (x, none)).1 = c := He.codeOf_eq lk e2
  refine ⟨⟨c, e2, ?_⟩, hm, hu, hk⟩
  rw [← e3]
  exact ⟨TB.code, TB.bm, TB.gP⟩
theorem d_made (X : K.In h) (G : h.Ns mainGlobals mg) (c : He.SaysD fas fns K) (cx : exb K = true) (TB : LamX.TabB base mg (He.cT K ("made", none)).1 (He.cT K ("made", none)).2) : Df (gg prog w K mg base) "made" s_made ["one", "long"] (some ((He.cT K ("made", none)).2, none)) := by
  obtain ⟨fd, F⟩ := c.def_ 9 (d := dd "made" s_made) rfl
  refine ⟨_, fd, fun_of F, He.glo_ok X G (c.fact 9 (f := .glo "made") rfl), FunD.bindsN F fun _ _ _ _ _ _ us hl => match us, hl with | [_, _], _ => rfl, cd_of (st := s_made) F TB List.mem_cons_self (fun q hq e => ?_) (fun q z => by cases z)⟩
  rcases List.mem_cons.mp hq with rfl | hq
  · rfl
  · rw [List.mem_singleton.mp hq] at e
    exact absurd e.symm (ptab cx)
theorem d_law_plain (X : K.In h) (G : h.Ns mainGlobals mg) (c : He.SaysD fas fns K) (cx : exb K = true) (TB : LamX.TabB base mg (He.cT K ("_law_plain", none)).1 (He.cT K ("_law_plain", none)).2) : Df (gg prog w K mg base) "_law_plain" s_law_plain [] (some ((He.cT K ("_law_plain", none)).2, some ("_law_plain.<locals>." ++ "<lambda>"))) := by
  obtain ⟨fd, F⟩ := c.def_ 35 (d := dd "_law_plain" s_law_plain) rfl
  refine ⟨_, fd, fun_of F, He.glo_ok X G (c.fact 35 (f := .glo "_law_plain") rfl), FunD.bindsN F fun _ _ _ _ _ _ us hl => match us, hl with | [], _ => rfl, cd_of (st := s_law_plain) F TB (List.mem_cons_of_mem _ List.mem_cons_self) (fun q hq e => ?_) (fun q z => by cases z; rfl)⟩
  rcases List.mem_cons.mp hq with rfl | hq
  · exact absurd e (ptab cx)
  · rw [List.mem_singleton.mp hq]
theorem bu (X : K.In h) (G : h.Ns mainGlobals mg) (c : He.SaysD fas fns K) : Bu (gg prog w K mg base) where
  len := He.free_ok X G (c.fact 37 (f := .free "len") rfl)
  abs := He.free_ok X G (c.fact 38 (f := .free "abs") rfl)
  int := He.free_ok X G (c.fact 39 (f := .free "int") rfl)
  sum := He.free_ok X G (c.fact 40 (f := .free "sum") rfl)
  tuple := He.free_ok X G (c.fact 41 (f := .free "tuple") rfl)
  list := He.free_ok X G (c.fact 42 (f := .free "list") rfl)
  range := He.free_ok X G (c.fact 43 (f := .free "range") rfl)
  enumerate := He.free_ok X G (c.fact 44 (f := .free "enumerate") rfl)
  zip := He.free_ok X G (c.fact 45 (f := .free "zip") rfl)
  min := He.free_ok X G (c.fact 46 (f := .free "min") rfl)
  max := He.free_ok X G (c.fact 47 (f := .free "max") rfl)
  sorted := He.free_ok X G (c.fact 48 (f := .free "sorted") rfl)
  any := He.free_ok X G (c.fact 49 (f := .free "any") rfl)
  all := He.free_ok X G (c.fact 50 (f := .free "all") rfl)
  dict := He.free_ok X G (c.fact 51 (f := .free "dict") rfl)
theorem kzero (X : K.In h) (G : h.Ns mainGlobals mg) (c : He.SaysD fas fns K) (cx : exb K = true) : KRep (gg prog w K mg base) "ZERO" (t3 0 0 0) := by
  unfold exb at cx
  obtain ⟨c1, _⟩ := Bool.and_eq_true_iff.mp cx
  exact ⟨.ref (He.ga K "ZERO"), .ref (He.ga K "ZERO"), He.glo_ok X G (c.fact 52 (f := .glo "ZERO") rfl), rfl, fun G => ⟨_, _, rfl, He.tupB_ok c1 G, reps_ints [0, 0, 0]⟩⟩
theorem kone (X : K.In h) (G : h.Ns mainGlobals mg) (c : He.SaysD fas fns K) : KRep (gg prog w K mg base) "ONE" (.int 1000) := by
  obtain ⟨t, e⟩ := He.int_ok X G (c.fact 54 (f := .int "ONE" 1000) rfl)
  exact ⟨_, .int 1000, e, ⟨t, rfl⟩, fun _ => rfl⟩
theorem kexc (X : K.In h) (G : h.Ns mainGlobals mg) (c : He.SaysD fas fns K) : ExcC (gg prog w K mg base) "WayError" (He.ga K "WayError") := by
  obtain ⟨e1, e2, e3, e4⟩ := He.exc_ok (c.fact 55 (f := .exc "WayError") rfl)
  exact ⟨He.glo_ok X G (c.fact 53 (f := .glo "WayError") rfl), e2, e1, e3, e4⟩
theorem all_fx (X : K.In h) (G : h.Ns mainGlobals mg) (c : He.SaysD fas fns K) (cx : exb K = true) (T1 : LamX.TabB base mg (He.cT K ("made", none)).1 (He.cT K ("made", none)).2) (T2 : LamX.TabB base mg (He.cT K ("_law_plain", none)).1 (He.cT K ("_law_plain", none)).2) : FX (gg prog w K mg base) (He.ga K "WayError") := by
  have B := bu (prog := prog) (w := w) (base := base) X G c
  have KZ := kzero (prog := prog) (w := w) (base := base) X G c cx
  have KO := kone (prog := prog) (w := w) (base := base) X G c
  have KE := kexc (prog := prog) (w := w) (base := base) X G c
  have ex := He.exm_ok (c.fact 56 (f := .exm "WayError" "WayError" true) rfl)
  have FA_ : FA (gg prog w K mg base) := ⟨fn_plus (d_plus X G c), fn_minus (d_minus X G c), fn_stretched (d_stretched X G c), fn_along (d_along X G c), fn_across (d_across X G c)⟩
  have FB_ : FB (gg prog w K mg base) (He.ga K "WayError") := ⟨FA_, fn_block (d_block X G c) FA_, fn_square (d_square X G c) FA_, fn_root (d_root X G c) KE, fn_common (d_common X G c) B⟩
  have FC_ : FC (gg prog w K mg base) (He.ga K "WayError") := ⟨FB_, fn_plain (d_plain X G c) KE FB_⟩
  have FD_ : FD (gg prog w K mg base) (He.ga K "WayError") := ⟨FC_, fn_towards (d_towards X G c), fn_added (d_added X G c) FC_, fn_times (d_times X G c) FC_⟩
  have FN_ : FN (gg prog w K mg base) (He.ga K "WayError") := ⟨FD_, fn_length (d_length X G c) KO FB_, fn_made (d_made X G c cx T1) KE KZ KO B FD_, fn_mirrored (d_mirrored X G c) KE KZ FB_, fn_parted (d_parted X G c) KE KZ FB_, fn_middle (d_middle X G c) KE KZ B FD_, fn_order (d_order X G c), fn_down (d_down X G c), fn_between (d_between X G c) B FD_, fn_same_way (d_same_way X G c) KZ FB_, fn_told (d_law_told X G c) KE ex 9⟩
  have g60 := LA.fn_gcd (d_law_gcd X G c) B 60
  have sh := LA.fn_share (d_law_plain_share X G c) ⟨g60⟩
  have rl := LA.fn_roll (d_law_roll X G c) B
  exact ⟨FN_, LA.fn_dot (d_law_dot X G c) B, LA.fn_cross (d_law_cross X G c) B, LA.fn_from (d_law_from X G c) B, g60, sh, LA.fn_add (d_law_add X G c) ⟨⟨g60⟩, sh⟩, LA.fn_mul (d_law_mul X G c) ⟨⟨g60⟩, sh⟩, LA.fn_less (d_law_less X G c), rl, LA.fn_way (d_law_way X G c) B rl, LA.fn_rounds (d_law_rounds X G c) (LA.fn_dice (d_law_dice X G c) B), fn_plain_law (d_law_plain X G c cx T2) B KZ KO FN_⟩
abbrev csL (K : PySem.W.Frag) : List (Addr × Addr) := [He.cT K ("made", none), He.cT K ("_law_plain", none)]
def spE (K : PySem.W.Frag) : Sp := fun vs H Q _ => ∃ (a : Addr) (ns : List Int), vs = [.ref a] ∧ SqL K H a (ns.map V.int) ∧ (∀ p ∈ csL K, H p.2 = some (.tbl #[])) ∧ ∀ H', Q (.bl true) H'
theorem sp_first (vs : List V) (H : Hp) (Q : VK) (E : XK) (h : spE K vs H Q E) : spOf (gg prog w K mg base) SpLaw vs H Q E := by
  obtain ⟨a, ns, rfl, hS, hT, hQ⟩ := h
  refine ⟨noTab H, [], [.seq (ns.map D.int)], fun d _ => d = .bl true, fun _ _ => False, sta_first (fun p hp => ?_), ⟨.ref a, [], rfl, ⟨a, _, rfl, seq_noTab hS, reps_ints ns⟩, rfl⟩, ⟨ns, rfl, rfl⟩, fun v d G' M' H' _ _ r e => ?_, fun _ _ _ _ _ _ z => z.elim⟩
  · rcases List.mem_cons.mp hp with rfl | hp
    · exact hT _ List.mem_cons_self
    · rw [List.mem_singleton.mp hp]
      exact hT _ (List.mem_cons_of_mem _ List.mem_cons_self)
  · subst e
    have r : v = .bl true := r
    rw [r]
    exact hQ H'
theorem law_at (X : K.In h) (G : h.Ns mainGlobals mg) {fa : Addr} (hfa : mg ("law" : Str) = some (.ref fa)) (s : He.SaysX fas fns [] tfs exb w h K) : LamX.LawAtS PySem.Challenge.rw_raystack_k01_steps_in_space_and_shares w K (L2.CX (PySem.Challenge.rw_raystack_k01_steps_in_space_and_shares).prog w) 65 63 "script" mg fa h := by
  have c := s.t.d
  obtain ⟨fd, F⟩ := c.def_ 36 (d := dd "law" s_law) rfl
  have e := hfa.symm.trans (He.glo_ok X G (c.fact 36 (f := .glo "law") rfl))
  cases e
  have mem : ∀ p ∈ csL K, ∃ q ∈ tfs, p = He.cT K q := fun p hp => by
    rcases List.mem_cons.mp hp with rfl | hp
    · exact ⟨_, List.mem_cons_self, rfl⟩
    · exact ⟨_, List.mem_cons_of_mem _ List.mem_cons_self, List.mem_singleton.mp hp⟩
  refine ⟨fd, csL K, spE K, fun p hp => ?_, fun p hp => ?_, fun p hp => ?_, fun s' u => ?_, fun H a ns _ _ hT hS => ⟨a, ns, rfl, hS, hT, fun _ => rfl⟩, fun base Xb Gb TB => ?_⟩
  · obtain ⟨q, hq, rfl⟩ := mem p hp; exact s.empty q hq
  · obtain ⟨q, hq, rfl⟩ := mem p hp; exact s.out q hq
  · obtain ⟨q, hq, rfl⟩ := mem p hp; exact PySem.W.codeHd_of_K X (s.hd q hq)
  · exact FunD.bindsA (ps := ["script"]) F (fun _ _ _ _ _ _ us hl => match us, hl with | [_], _ => rfl) s' [u] rfl
  · have FX_ := all_fx (prog := (PySem.Challenge.rw_raystack_k01_steps_in_space_and_shares).prog) (w := w) (base := base) X G c s.more (TB _ List.mem_cons_self) (TB _ (List.mem_cons_of_mem _ List.mem_cons_self))
    exact (fnok_mk (g := gg (PySem.Challenge.rw_raystack_k01_steps_in_space_and_shares).prog w K mg base) (tb := none) CdOk.none (fun_of (st := s_law) F) sc_law (fun ds M Q E ⟨ns, h, _⟩ => by subst h; rfl) (law_body (bu X G c) (kzero X G c s.more) FX_)).imp sp_first
end
end K1
set_option Elab.async false
set_option linter.all false
set_option maxRecDepth 100000
set_option maxHeartbeats 0
open PySem PySem.W PySem.Calls PyProof.Rows
theorem PySem.Challenge.cw_raystack_k01_steps_in_space_and_shares_holds : PySem.Challenge.rw_raystack_k01_steps_in_space_and_shares.Holds := by
  w_on; o_law
  refine HandSHeadRun.head_any (r := OpenLaw.row PySem.Challenge.rw_raystack_k01_steps_in_space_and_shares) (q := view (OpenLaw.row PySem.Challenge.rw_raystack_k01_steps_in_space_and_shares).prog [43]) (H := K1.hk) (ob := K1.ob) (M := 20000) (loose := K1.loose) (d := HandSHeadRun.topDef (OpenLaw.row PySem.Challenge.rw_raystack_k01_steps_in_space_and_shares).prog 43) (kwd := []) K1.ob_eq
    (by kernel_rfl) (fun s => by kernel_rfl) K1.run (by kernel_rfl) (by kernel_rfl) (by kernel_rfl) (by rfl) (by first | assumption | decide +kernel) (by decide +kernel) ⟨rfl, rfl, rfl, rfl, rfl, by decide +kernel⟩ ?hw ?hc
  case hw => w_witness2
  case hc =>
    refine LamX.walk_ofTsE (l := PySem.Challenge.rw_raystack_k01_steps_in_space_and_shares) (n := 63) (k := 65) (x := "script") (CX := fun w => L2.CX (PySem.Challenge.rw_raystack_k01_steps_in_space_and_shares).prog w) rfl (by decide) (by kernel_rfl) ⟨rfl, by decide, by decide⟩ ?F (fun w H s e s' z => by
      obtain ⟨_, _, _, _, _, _, _, _, _, _, _, _, z⟩ := z
      exact z.elim)
    intro w mg fa h Y G hmg0
    obtain ⟨K, KX, c⟩ := Y
    have hmg : mg ("law" : PySem.Str) = some (.ref fa) := by
      have e : (HandSHeadRun.topDef (OpenLaw.row PySem.Challenge.rw_raystack_k01_steps_in_space_and_shares).prog 43).name = ("law" : PySem.Str) := by kernel_rfl
      rw [← e]
      exact hmg0
    exact ⟨K, KX, K1.law_at KX G hmg c⟩
