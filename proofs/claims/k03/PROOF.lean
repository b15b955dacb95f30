import PyProof.Rows.All
import HandS.ForMost
import HandS.ForExc
import HandS.Wide
import HandS.Flow
import HandS.Style
import HandS.Lambda
import HandS.AnyAll
import HandS.Conv
import HandS.TupAny
import HandS.Deep
import HandS.TupMul
import HandS.SortInts
import KE.IntBitsLaws
import HandS.Zip
import KE.GoesEnum
import HandS.GenList
import PyProof.TupleOfGen
import HandS.CallRecv
import HandS.HeadWalk
import HandS.Head0
import HandS.Head1
import HandS.Head2
import HandS.HeadEnd
import HandS.HeadHook1
import HandS.HeadHook2
import HandS.HeadHook4
import PySem.Challenge.RW_raystack_k03_rays_and_faces_without_an_e
set_option Elab.async false
set_option linter.all false
set_option maxRecDepth 100000
set_option maxHeartbeats 4000000
/-! PA: data as trees (D) over the hand layer; a store of things that change; judgements. -/
namespace PI
open PySem L2

inductive D where
  | non | bl (b : Bool) | int (i : Int) | str (x : List Nat) | tup (ds : List D) | lst (ds : List D) | seq (ds : List D) | ref (k : Nat) | obj (c : Nat) (ns : List Nat) (ds : List D) | dct (ks vs : List D)
abbrev mkS (x : List Nat) : Str := ⟨x.toArray⟩
def keyD : Key → D
  | .inl i => .int i
  | .inr x => .str x.cps.toList
structure LamD where
  params : Arguments
  body : Expr
  scope : Scope
/-- what all defs of one text have in common; lk: what is known of a lambda by its number -/
structure Gx where
  P : Program
  w : World
  K : PySem.W.Frag
  mg : Str → Option Value
  base : Heap
  T : List (Addr × Option Str)
  ca : Nat → Addr
  an : Nat → Str
  lk : List Str → Scope → Nat → LamD → Prop := fun _ _ _ _ => False
/-- what is known to stand: frozen things, the store's addresses -/
structure Gh where
  h : Hp
  A : List Addr
structure Gh.le (G G' : Gh) : Prop where
  h : Same G.h G'.h
  A : ∀ (k : Nat) (a : Addr), G.A[k]? = some a → G'.A[k]? = some a
theorem Gh.le.refl (G : Gh) : G.le G := ⟨Same.refl _, fun _ _ e => e⟩
theorem Gh.le.trans {a b c : Gh} (h : a.le b) (h' : b.le c) : a.le c := ⟨h.h.trans h'.h, fun k x e => h'.A k x (h.A k x e)⟩

mutual
def Rep (g : Gx) (G : Gh) : D → V → Prop
  | .non, v => v = .non
  | .bl b, v => v = .bl b
  | .int i, v => v = .int i
  | .str x, v => v = .str (mkS x)
  | .tup ds, v => ∃ a vs, v = .ref a ∧ SqT g.K G.h a vs ∧ Reps g G ds vs
  | .lst ds, v => ∃ a vs, v = .ref a ∧ G.h a = some (.lst vs) ∧ Reps g G ds vs
  | .seq ds, v => ∃ a vs, v = .ref a ∧ SqL g.K G.h a vs ∧ Reps g G ds vs
  | .ref k, v => ∃ a, v = .ref a ∧ G.A[k]? = some a
  | .obj c ns ds, v => ∃ a dx vs, v = .ref a ∧ G.h a = some (.ins (g.ca c) dx ((ns.map g.an).zip vs)) ∧ ns.length = ds.length ∧ Reps g G ds vs
  | .dct ks us, v => ∃ a, v = .ref a ∧ ((∃ kvs : List (Key × V), G.h a = some (.dK kvs) ∧ ks = kvs.map (fun p => keyD p.1) ∧ Reps g G us (kvs.map (·.2))) ∨
      (∃ kvs : List (List Key × V), G.h a = some (.dT kvs) ∧ ks = kvs.map (fun p => .tup (p.1.map keyD)) ∧ Reps g G us (kvs.map (·.2))))
def Reps (g : Gx) (G : Gh) : List D → List V → Prop
  | [], vs => vs = []
  | d :: ds, vs => ∃ v ws, vs = v :: ws ∧ Rep g G d v ∧ Reps g G ds ws
end

theorem ex_rd {H H' : Hp} {a : Addr} {u : HO} (e : Same H H') (h : Rd H a u) : Rd H' a u := by
  rcases h with h | ⟨o, h⟩
  · exact .inl (e _ _ h)
  · exact .inr ⟨o, e _ _ h⟩
theorem ex_l {K : PySem.W.Frag} {H H' : Hp} {a : Addr} {xs : List V} (e : Same H H') (h : SqL K H a xs) : SqL K H' a xs := h.imp (ex_rd e) id
theorem ex_t {K : PySem.W.Frag} {H H' : Hp} {a : Addr} {xs : List V} (e : Same H H') (h : SqT K H a xs) : SqT K H' a xs := h.imp (ex_rd e) id

section
variable {g : Gx} {G G' : Gh}
mutual
theorem Rep.mono (e : G.le G') : ∀ {d : D} {v : V}, Rep g G d v → Rep g G' d v
  | .non, _, h => h
  | .bl _, _, h => h
  | .int _, _, h => h
  | .str _, _, h => h
  | .ref _, _, h => by
    obtain ⟨a, rfl, h⟩ := h
    exact ⟨a, rfl, e.A _ _ h⟩
  | .tup ds, _, h => by
    obtain ⟨a, vs, rfl, hs, hr⟩ := h
    exact ⟨a, vs, rfl, ex_t e.h hs, Reps.mono e hr⟩
  | .lst ds, _, h => by
    obtain ⟨a, vs, rfl, hs, hr⟩ := h
    exact ⟨a, vs, rfl, e.h _ _ hs, Reps.mono e hr⟩
  | .seq ds, _, h => by
    obtain ⟨a, vs, rfl, hs, hr⟩ := h
    exact ⟨a, vs, rfl, ex_l e.h hs, Reps.mono e hr⟩
  | .obj C ns ds, _, h => by
    obtain ⟨a, dx, vs, rfl, h1, h2, h3⟩ := h
    exact ⟨a, dx, vs, rfl, e.h _ _ h1, h2, Reps.mono e h3⟩
  | .dct ks us, _, h => by
    obtain ⟨a, rfl, h⟩ := h
    rcases h with ⟨kvs, h1, h2, h3⟩ | ⟨kvs, h1, h2, h3⟩
    · exact ⟨a, rfl, .inl ⟨kvs, e.h _ _ h1, h2, Reps.mono e h3⟩⟩
    · exact ⟨a, rfl, .inr ⟨kvs, e.h _ _ h1, h2, Reps.mono e h3⟩⟩
theorem Reps.mono (e : G.le G') : ∀ {ds : List D} {vs : List V}, Reps g G ds vs → Reps g G' ds vs
  | [], _, h => h
  | d :: ds, _, h => by
    obtain ⟨v, ws, rfl, h1, h2⟩ := h
    exact ⟨v, ws, rfl, Rep.mono e h1, Reps.mono e h2⟩
end
theorem Reps.length : ∀ {ds : List D} {vs : List V}, Reps g G ds vs → vs.length = ds.length
  | [], _, h => by
    have h : _ = [] := h
    subst h; rfl
  | d :: ds, _, h => by
    obtain ⟨v, ws, rfl, _, h2⟩ := h
    simp [Reps.length h2]
theorem Reps.get : ∀ {ds : List D} {vs : List V} {i : Nat} {d : D}, Reps g G ds vs → ds[i]? = some d → ∃ v, vs[i]? = some v ∧ Rep g G d v
  | [], _, _, _, _, e => by simp at e
  | x :: ds, _, 0, d, h, e => by
    obtain ⟨v, ws, rfl, h1, _⟩ := h
    simp at e
    subst e
    exact ⟨v, rfl, h1⟩
  | x :: ds, _, i + 1, d, h, e => by
    obtain ⟨v, ws, rfl, _, h2⟩ := h
    obtain ⟨u, hu, hr⟩ := Reps.get (i := i) (d := d) h2 (by simpa using e)
    exact ⟨u, by simpa using hu, hr⟩
theorem Reps.append : ∀ {ds es : List D} {vs ws : List V}, Reps g G ds vs → Reps g G es ws → Reps g G (ds ++ es) (vs ++ ws)
  | [], _, _, _, h, h' => by
    have h : _ = [] := h
    subst h; exact h'
  | d :: ds, _, _, _, h, h' => by
    obtain ⟨v, us, rfl, h1, h2⟩ := h
    exact ⟨v, us ++ _, rfl, h1, Reps.append h2 h'⟩
theorem Reps.set {d : D} {v : V} (r : Rep g G d v) : ∀ {ds : List D} {vs : List V} (i : Nat), Reps g G ds vs → Reps g G (ds.set i d) (vs.set i v)
  | [], _, _, h => by
    have h : _ = [] := h
    subst h; exact rfl
  | x :: ds, _, 0, h => by
    obtain ⟨u, ws, rfl, _, h2⟩ := h
    exact ⟨v, ws, rfl, r, h2⟩
  | x :: ds, _, i + 1, h => by
    obtain ⟨u, ws, rfl, h1, h2⟩ := h
    exact ⟨u, ws.set i v, rfl, h1, Reps.set r i h2⟩
theorem Reps.take : ∀ {ds : List D} {vs : List V} (n : Nat), Reps g G ds vs → Reps g G (ds.take n) (vs.take n)
  | _, _, 0, _ => by simp [Reps]
  | [], _, n + 1, h => by
    have h : _ = [] := h
    subst h; simp [Reps]
  | d :: ds, _, n + 1, h => by
    obtain ⟨v, ws, rfl, h1, h2⟩ := h
    exact ⟨v, ws.take n, by simp, h1, Reps.take n h2⟩
theorem Reps.drop : ∀ {ds : List D} {vs : List V} (n : Nat), Reps g G ds vs → Reps g G (ds.drop n) (vs.drop n)
  | _, _, 0, h => by simpa using h
  | [], _, n + 1, h => by
    have h : _ = [] := h
    subst h; simp [Reps]
  | d :: ds, _, n + 1, h => by
    obtain ⟨v, ws, rfl, h1, h2⟩ := h
    simpa using Reps.drop n h2
theorem rep_non : Rep g G .non .non := rfl
theorem rep_bl {b : Bool} : Rep g G (.bl b) (.bl b) := rfl
theorem rep_int {b : Int} : Rep g G (.int b) (.int b) := rfl
theorem rep_str {b : List Nat} : Rep g G (.str b) (.str (mkS b)) := rfl
theorem Reps.nil : Reps g G [] [] := rfl
theorem Reps.cons {d : D} {ds : List D} {v : V} {vs : List V} (h : Rep g G d v) (hs : Reps g G ds vs) : Reps g G (d :: ds) (v :: vs) := ⟨v, vs, rfl, h, hs⟩
theorem Reps.one {d : D} {v : V} (h : Rep g G d v) : Reps g G [d] [v] := .cons h .nil
theorem Reps.of_nil {vs : List V} (h : Reps g G [] vs) : vs = [] := h
theorem Reps.of_one {d : D} {vs : List V} (h : Reps g G [d] vs) : ∃ v, vs = [v] ∧ Rep g G d v := by
  obtain ⟨v, ws, rfl, h1, h2⟩ := h
  have h2 : ws = [] := h2
  subst h2
  exact ⟨v, rfl, h1⟩
theorem Reps.of_two {d e : D} {vs : List V} (h : Reps g G [d, e] vs) : ∃ v u, vs = [v, u] ∧ Rep g G d v ∧ Rep g G e u := by
  obtain ⟨v, ws, rfl, h1, h2⟩ := h
  obtain ⟨u, e, h3⟩ := Reps.of_one h2
  subst e
  exact ⟨v, u, rfl, h1, h3⟩
end

/-! ### the store of things that change -/
inductive MO where
  | lst (ds : List D)
  | ins (c : Nat) (ns : List Nat) (ds : List D)
  | dct (ks vs : List D)
abbrev Store := List MO
inductive Slot where
  | un | v (d : D) | own (ds : List D) | ob (c : Nat) (ns : List Nat) (ds : List D) | dc (ks vs : List D) | lam (ks : List Nat)
abbrev Ro := List Slot
def Slot.isOwn : Slot → Bool
  | .own _ => true
  | .ob _ _ _ => true
  | .dc _ _ => true
  | _ => false
/-- a def's (a block's) own: its names by slot, its scope, its room -/
structure Lx where
  g : Gx
  N : List Str
  sc : Scope
  n : Nat
  fn : Str → Bool
  cd : Option (Addr × Option Str) := none
  top : Bool := false
def MOk (g : Gx) (G : Gh) (H : Hp) (a : Addr) : MO → Prop
  | .lst ds => ∃ vs, H a = some (.lst vs) ∧ Reps g G ds vs
  | .ins c ns ds => ∃ dx vs, H a = some (.ins (g.ca c) dx ((ns.map g.an).zip vs)) ∧ ns.length = ds.length ∧ Reps g G ds vs
  | .dct ks us => (∃ kvs : List (Key × V), H a = some (.dK kvs) ∧ ks = kvs.map (fun p => keyD p.1) ∧ Reps g G us (kvs.map (·.2))) ∨
      (∃ kvs : List (List Key × V), H a = some (.dT kvs) ∧ ks = kvs.map (fun p => .tup (p.1.map keyD)) ∧ Reps g G us (kvs.map (·.2)))
def TabOk (G : Gh) (H : Hp) (p : Addr × Option Str) : Prop := ∃ ps : Array Value, H p.1 = some (.tbl ps) ∧ TriplesOk ps.toList ∧ ∀ q, p.2 = some q → ∀ (pos : Pos) (cv : Value), codeAmong pos ps.toList = some cv → ∃ c, cv = .ref c ∧ G.h c = some (LamX.CodeO c q)
structure Sta (g : Gx) (G : Gh) (H : Hp) (M : Store) : Prop where
  ex : Same G.h H
  len : G.A.length = M.length
  tie : ∀ (k : Nat) (m : MO) (a : Addr), M[k]? = some m → G.A[k]? = some a → G.h a = none ∧ MOk g G H a m
  nd : G.A.Nodup
  tabs : ∀ p ∈ g.T, TabOk G H p
  nt : ∀ a ps, G.h a ≠ some (.tbl ps)
theorem MOk.ne {g : Gx} {G : Gh} {H : Hp} {a : Addr} {m : MO} (h : MOk g G H a m) : ∃ o, H a = some o ∧ ∀ ps, o ≠ .tbl ps := by
  cases m with
  | lst ds => obtain ⟨vs, h, _⟩ := h; exact ⟨_, h, fun ps z => by cases z⟩
  | ins c ns ds => obtain ⟨dx, vs, h, _⟩ := h; exact ⟨_, h, fun ps z => by cases z⟩
  | dct ks us => rcases h with ⟨kvs, h, _⟩ | ⟨kvs, h, _⟩ <;> exact ⟨_, h, fun ps z => by cases z⟩
theorem Sta.at {g : Gx} {G : Gh} {H : Hp} {M : Store} (s : Sta g G H M) {k : Nat} {m : MO} (h : M[k]? = some m) : ∃ a, G.A[k]? = some a ∧ G.h a = none ∧ MOk g G H a m := by
  have hk := (List.getElem?_eq_some_iff.mp h).1
  have hk' : k < G.A.length := by rw [s.len]; exact hk
  have e : G.A[k]? = some G.A[k] := List.getElem?_eq_getElem hk'
  exact ⟨_, e, s.tie k m _ h e⟩
theorem Sta.mem {g : Gx} {G : Gh} {H : Hp} {M : Store} (s : Sta g G H M) {a : Addr} (h : a ∈ G.A) : ∃ (k : Nat) (m : MO), G.A[k]? = some a ∧ M[k]? = some m ∧ G.h a = none ∧ MOk g G H a m := by
  obtain ⟨k, hk⟩ := List.mem_iff_getElem?.mp h
  have hl : k < G.A.length := (List.getElem?_eq_some_iff.mp hk).1
  have hl' : k < M.length := by rw [← s.len]; exact hl
  have e : M[k]? = some M[k] := List.getElem?_eq_getElem hl'
  exact ⟨k, _, hk, e, s.tie k _ a e hk⟩
structure Mv (G : Gh) (H : Hp) (G' : Gh) (H' : Hp) : Prop where
  g : G.le G'
  keep : ∀ b o, H b = some o → (∀ ps, o ≠ .tbl ps) → b ∉ G.A → H' b = some o
  new : ∀ b, (G'.h b ≠ none ∨ b ∈ G'.A) → G.h b ≠ none ∨ b ∈ G.A ∨ H b = none
  dom : ∀ b, H b ≠ none → H' b ≠ none
theorem Mv.refl (G : Gh) (H : Hp) : Mv G H G H := ⟨.refl _, fun _ _ h _ _ => h, fun _ h => h.imp id .inl, fun _ h => h⟩
theorem Mv.trans {g : Gx} {G G1 G2 : Gh} {H H1 H2 : Hp} {M1 : Store} (s1 : Sta g G1 H1 M1) (a : Mv G H G1 H1) (b : Mv G1 H1 G2 H2) : Mv G H G2 H2 where
  g := a.g.trans b.g
  keep := fun c o h n hm => b.keep c o (a.keep c o h n hm) n fun hm1 => by
    rcases a.new c (.inr hm1) with z | z | z
    · obtain ⟨k, m, _, _, e, _⟩ := s1.mem hm1
      cases q : G.h c with
      | none => exact z q
      | some u => rw [a.g.h c u q] at e; cases e
    · exact hm z
    · rw [h] at z; cases z
  new := fun c h => by
    rcases b.new c h with z | z | z
    · exact a.new c (.inl z)
    · exact a.new c (.inr z)
    · refine .inr (.inr ?_)
      cases q : H c with
      | none => rfl
      | some o => exact absurd z (a.dom c (by rw [q]; intro w; cases w))
  dom := fun c h => b.dom c (a.dom c h)

/-! ### a frame -/
/-- where a body began -/
structure Bs where
  G : Gh
  H : Hp
  self : Option Addr := none
/-- an address of this frame's own -/
structure Ow (B : Bs) (G : Gh) (a : Addr) : Prop where
  b : B.H a = none
  g : G.h a = none
  A : a ∉ G.A
def OwOk (B : Bs) (g : Gx) (G : Gh) (H : Hp) (a : Addr) : Slot → Prop
  | .own ds => MOk g G H a (.lst ds)
  | .ob c ns ds => MOk g G H a (.ins c ns ds) ∧ B.self = some a
  | .dc ks us => MOk g G H a (.dct ks us)
  | _ => False
/-- the object at f is o -/
def ThatO (f : Addr) (o : Obj) : HO := .ext fun h => h.get? f = some o
abbrev lamQ (X : Cx) : Str := X.env.qual ++ "<lambda>"
abbrev lamO (X : Cx) (l : LamD) (pm : Value) (c : Addr) (ctv : Value) : Obj := PySem.W.kla_obj "<lambda>" (lamQ X) l.params l.body l.scope (cloFrom X.env.cells l.scope.names []) pm c ctv
/-- at a stands the lambda l, made by X's frame -/
def FnAt (X : Cx) (H : Hp) (l : LamD) (a : Addr) : Prop := ∃ c pm ctv, H a = some (ThatO a (lamO X l pm c ctv)) ∧ H c = some (LamX.CodeO c (lamQ X))
theorem thatO_ne {a : Addr} {o : Obj} (ps : Array Value) : ThatO a o ≠ .tbl ps := fun z => by unfold ThatO at z; cases z
theorem FnAt.mono {X : Cx} {H H' : Hp} {l : LamD} {a : Addr} (h : FnAt X H l a) (e : ∀ b o, H b = some o → (∀ ps, o ≠ .tbl ps) → H' b = some o) : FnAt X H' l a := by
  obtain ⟨c, pm, ctv, h1, h2⟩ := h
  exact ⟨c, pm, ctv, e _ _ h1 thatO_ne, e _ _ h2 LamX.codeO_ne⟩
/-- a list of functions, made by lambdas of this frame -/
def LamsAt (X : Cx) (g : Gx) (G : Gh) : List Nat → List V → Prop
  | [], vs => vs = []
  | k :: ks, vs => ∃ a l ws, vs = .ref a :: ws ∧ FnAt X G.h l a ∧ g.lk X.N X.env.scope k l ∧ LamsAt X g G ks ws
def LamOk (X : Cx) (g : Gx) (G : Gh) (ks : List Nat) (v : V) : Prop := ∃ p vs, v = .ref p ∧ G.h p = some (.lst vs) ∧ LamsAt X g G ks vs
theorem LamsAt.mono {X : Cx} {g : Gx} {G G' : Gh} (e : G.le G') : ∀ {ks : List Nat} {vs : List V}, LamsAt X g G ks vs → LamsAt X g G' ks vs
  | [], _, h => h
  | k :: ks, _, h => by
    obtain ⟨a, l, ws, rfl, h1, h2, h3⟩ := h
    exact ⟨a, l, ws, rfl, h1.mono fun b o q _ => e.h _ _ q, h2, LamsAt.mono e h3⟩
theorem LamsAt.len {X : Cx} {g : Gx} {G : Gh} : ∀ {ks : List Nat} {vs : List V}, LamsAt X g G ks vs → vs.length = ks.length
  | [], _, h => by
    have h : _ = [] := h
    subst h; rfl
  | k :: ks, _, h => by
    obtain ⟨a, l, ws, rfl, _, _, h3⟩ := h
    simp [LamsAt.len h3]
theorem LamsAt.app {X : Cx} {g : Gx} {G : Gh} {js : List Nat} {us : List V} (h' : LamsAt X g G js us) : ∀ {ks : List Nat} {vs : List V}, LamsAt X g G ks vs → LamsAt X g G (ks ++ js) (vs ++ us)
  | [], _, h => by
    have h : _ = [] := h
    subst h; exact h'
  | k :: ks, _, h => by
    obtain ⟨a, l, ws, rfl, h1, h2, h3⟩ := h
    exact ⟨a, l, ws ++ us, rfl, h1, h2, LamsAt.app h' h3⟩
theorem LamsAt.get {X : Cx} {g : Gx} {G : Gh} : ∀ {ks : List Nat} {vs : List V} {i k : Nat}, LamsAt X g G ks vs → ks[i]? = some k → ∃ a l, vs[i]? = some (.ref a) ∧ FnAt X G.h l a ∧ g.lk X.N X.env.scope k l
  | [], _, _, _, _, e => by simp at e
  | k :: ks, _, 0, _, h, e => by
    obtain ⟨a, l, ws, rfl, h1, h2, _⟩ := h
    simp at e
    subst e
    exact ⟨a, l, rfl, h1, h2⟩
  | k :: ks, _, i + 1, _, h, e => by
    obtain ⟨a, l, ws, rfl, _, _, h3⟩ := h
    obtain ⟨a', l', q⟩ := LamsAt.get (i := i) h3 (by simpa using e)
    exact ⟨a', l', by simpa using q⟩
def SlotOk (X : Cx) (g : Gx) (B : Bs) (G : Gh) (H : Hp) (o : Option (Option V)) : Slot → Prop
  | .un => True
  | .v d => ∃ v, o = some (some v) ∧ Rep g G d v
  | .lam ks => ∃ v, o = some (some v) ∧ LamOk X g G ks v
  | s => ∃ a, o = some (some (.ref a)) ∧ Ow B G a ∧ OwOk B g G H a s
structure Frm (X : Cx) (g : Gx) (B : Bs) (G : Gh) (H : Hp) (σ : L2.St) (ρ : Ro) : Prop where
  len : σ.length = ρ.length
  at_ : ∀ (i : Nat) (s : Slot), ρ[i]? = some s → SlotOk X g B G H σ[i]? s
  sep : ∀ (i j : Nat) (s t : Slot) (a : Addr), i ≠ j → ρ[i]? = some s → ρ[j]? = some t → s.isOwn = true → t.isOwn = true → σ[i]? = some (some (.ref a)) → σ[j]? = some (some (.ref a)) → False
section
variable {X : Cx} {g : Gx} {B : Bs} {G G' : Gh} {H H' : Hp} {σ : L2.St} {ρ : Ro} {i : Nat} {d : D} {v : V} {a : Addr} {m : MO} {s : Slot}
theorem MOk.mono (eg : G.le G') (eh : ∀ o, H a = some o → (∀ ps, o ≠ .tbl ps) → H' a = some o) (h : MOk g G H a m) : MOk g G' H' a m := by
  cases m with
  | lst ds =>
    obtain ⟨vs, h1, h2⟩ := h
    exact ⟨vs, eh _ h1 (fun ps z => by cases z), h2.mono eg⟩
  | ins c ns ds =>
    obtain ⟨dx, vs, h1, h2, h3⟩ := h
    exact ⟨dx, vs, eh _ h1 (fun ps z => by cases z), h2, h3.mono eg⟩
  | dct ks us =>
    rcases h with ⟨kvs, h1, h2, h3⟩ | ⟨kvs, h1, h2, h3⟩
    · exact .inl ⟨kvs, eh _ h1 (fun ps z => by cases z), h2, h3.mono eg⟩
    · exact .inr ⟨kvs, eh _ h1 (fun ps z => by cases z), h2, h3.mono eg⟩
theorem OwOk.mono (eg : G.le G') (eh : ∀ o, H a = some o → (∀ ps, o ≠ .tbl ps) → H' a = some o) (h : OwOk B g G H a s) : OwOk B g G' H' a s := by
  cases s with
  | own ds => exact MOk.mono (m := .lst ds) eg eh h
  | ob c ns ds => exact ⟨MOk.mono (m := .ins c ns ds) eg eh h.1, h.2⟩
  | dc ks us => exact MOk.mono (m := .dct ks us) eg eh h
  | _ => exact h
theorem OwOk.ne (h : OwOk B g G H a s) : H a ≠ none := by
  have : ∀ m, MOk g G H a m → H a ≠ none := fun m h => by obtain ⟨o, e, _⟩ := h.ne; rw [e]; intro z; cases z
  cases s with
  | own ds => exact this (.lst ds) h
  | ob c ns ds => exact this (.ins c ns ds) h.1
  | dc ks us => exact this (.dct ks us) h
  | _ => exact h.elim
theorem Ow.move (m : Mv G H G' H') (h : Ow B G a) (hn : H a ≠ none) : Ow B G' a := by
  have : ¬ (G'.h a ≠ none ∨ a ∈ G'.A) := fun z => by
    rcases m.new a z with z | z | z
    · exact z h.g
    · exact h.A z
    · exact hn z
  refine ⟨h.b, ?_, fun z => this (.inr z)⟩
  cases q : G'.h a with
  | none => rfl
  | some u => exact absurd (.inl (by rw [q]; intro z; cases z)) this
theorem SlotOk.move (m : Mv G H G' H') {o : Option (Option V)} (h : SlotOk X g B G H o s) : SlotOk X g B G' H' o s := by
  cases s with
  | un => trivial
  | v d => obtain ⟨v, e, r⟩ := h; exact ⟨v, e, r.mono m.g⟩
  | lam ks => obtain ⟨v, e, p, vs, r1, r2, r3⟩ := h; exact ⟨v, e, p, vs, r1, m.g.h _ _ r2, r3.mono m.g⟩
  | own ds => obtain ⟨a, e, h1, h2⟩ := h; exact ⟨a, e, h1.move m h2.ne, h2.mono m.g fun o q n => m.keep a o q n h1.A⟩
  | ob c ns ds => obtain ⟨a, e, h1, h2⟩ := h; exact ⟨a, e, h1.move m h2.ne, h2.mono m.g fun o q n => m.keep a o q n h1.A⟩
  | dc ks us => obtain ⟨a, e, h1, h2⟩ := h; exact ⟨a, e, h1.move m h2.ne, h2.mono m.g fun o q n => m.keep a o q n h1.A⟩
theorem Frm.move (m : Mv G H G' H') (h : Frm X g B G H σ ρ) : Frm X g B G' H' σ ρ := ⟨h.len, fun i s hs => (h.at_ i s hs).move m, h.sep⟩
theorem Frm.get (h : Frm X g B G H σ ρ) (hd : ρ[i]? = some (.v d)) : ∃ v, σ[i]? = some (some v) ∧ Rep g G d v := h.at_ i _ hd
theorem Slot.own_at (h : s.isOwn = true) {o : Option (Option V)} (q : SlotOk X g B G H o s) : ∃ a, o = some (some (.ref a)) ∧ Ow B G a ∧ OwOk B g G H a s := by
  cases s with
  | own ds => exact q
  | ob c ns ds => exact q
  | dc ks us => exact q
  | _ => cases h
/-- one slot anew, the others standing -/
theorem Frm.put {x : Option V} (h : Frm X g B G H σ ρ) (hs : SlotOk X g B G H (some x) s) (hf : s.isOwn = true → ∀ j t a, j ≠ i → ρ[j]? = some t → t.isOwn = true → σ[j]? = some (some (.ref a)) → x ≠ some (.ref a)) : Frm X g B G H (σ.set i x) (ρ.set i s) := by
  refine ⟨by simp [h.len], fun j t ht => ?_, fun j k t u a jk hj hk ot ou ej ek => ?_⟩
  · by_cases hj : i = j
    · subst hj
      by_cases hi : i < ρ.length
      · rw [List.getElem?_set_self hi] at ht
        cases ht
        rw [List.getElem?_set_self (by rw [h.len]; exact hi)]
        exact hs
      · rw [List.getElem?_eq_none (by simpa using hi)] at ht; cases ht
    · rw [List.getElem?_set_ne hj] at ht ⊢
      exact h.at_ j t ht
  · have key : ∀ (j k : Nat) (t u : Slot), j ≠ k → (ρ.set i s)[j]? = some t → (ρ.set i s)[k]? = some u → t.isOwn = true → u.isOwn = true → (σ.set i x)[j]? = some (some (.ref a)) → (σ.set i x)[k]? = some (some (.ref a)) → i = j → False := by
      intro j k t u jk hj hk ot ou ej ek e
      subst e
      have hi : i < ρ.length := by
        rcases Nat.lt_or_ge i ρ.length with z | z
        · exact z
        · rw [List.getElem?_eq_none (by simpa using z)] at hj; cases hj
      rw [List.getElem?_set_self hi] at hj
      cases hj
      rw [List.getElem?_set_ne jk] at hk ek
      rw [List.getElem?_set_self (by rw [h.len]; exact hi)] at ej
      exact hf ot k u a (Ne.symm jk) hk ou ek (Option.some.inj ej)
    by_cases e1 : i = j
    · exact key j k t u jk hj hk ot ou ej ek e1
    · by_cases e2 : i = k
      · exact key k j u t (Ne.symm jk) hk hj ou ot ek ej e2
      · rw [List.getElem?_set_ne e1] at hj ej
        rw [List.getElem?_set_ne e2] at hk ek
        exact h.sep j k t u a jk hj hk ot ou ej ek
theorem Frm.set (h : Frm X g B G H σ ρ) (r : Rep g G d v) : Frm X g B G H (σ.set i (some v)) (ρ.set i (.v d)) := h.put ⟨v, rfl, r⟩ fun z => by cases z
theorem Frm.unset {x : Option V} (h : Frm X g B G H σ ρ) : Frm X g B G H (σ.set i x) (ρ.set i .un) := h.put trivial fun z => by cases z
end

/-! ### the code's own context, by what a rule asks of it -/
/-- a def's code object and its table -/
def CdOk (g : Gx) (v : Value) (qual : Str) (cd : Option (Addr × Option Str)) : Prop := ∀ P k, cd = some (P, k) → (∃ c, v = .ref c ∧ GxR.TabB g.base g.mg c P) ∧ (P, k) ∈ g.T ∧ (∀ q ∈ g.T, q.1 = P → q.2 = k) ∧ ∀ q, k = some q → q = qual ++ "<lambda>"
theorem CdOk.none {g : Gx} {v : Value} {qual : Str} : CdOk g v qual none := fun P k e => by cases e
structure CI (L : Lx) (X : Cx) : Prop where
  prog : X.prog = L.g.P
  w : X.w = L.g.w
  K : X.K = L.g.K
  mg : X.mg = L.g.mg
  base : X.base = L.g.base
  N : X.N = L.N
  sc : X.env.scope = L.sc
  nd : L.N.Nodup
  calm : X.calm = true
  room : Room L.n X.A
  own : PassesOwn (model X.prog X.w) X.A X.env X.xe
  fn : X.fn = L.fn
  code : CdOk L.g X.env.code X.env.qual L.cd
  top : L.top = true → X.stack = X.env :: X.outer ∧ X.env.frame = some X.env.locals
/-- an exception of the class at C may leave at σ, H -/
def Thr (X : Cx) (C : Addr) (σ : L2.St) (H : Hp) : Prop := ∀ u s', XE X (fun cls d σ' H' => cls = .ref C ∧ d = none ∧ σ' = σ ∧ H' = H) u s' → X.xe u s'
def WT (X : Cx) : WX := fun cls d σ H => ∃ C, cls = .ref C ∧ d = none ∧ Thr X C σ H
theorem takesT (X : Cx) : Takes X (WT X) := fun u s' ⟨a, B, sI, pins, σ, H, cls, d, e, I, nb, up, sky, na, os, ag, C, ec, ed, t⟩ =>
  t u s' ⟨a, B, sI, pins, σ, H, cls, d, e, I, nb, up, sky, na, os, ag, ec, ed, rfl, rfl⟩
theorem Thr.of {X : Cx} {W : WX} (tk : Takes X W) {C : Addr} {σ : L2.St} {H : Hp} (h : W (.ref C) none σ H) : Thr X C σ H := fun u s' ⟨a, B, sI, pins, σ', H', cls, d, e, I, nb, up, sky, na, os, ag, ec, ed, e1, e2⟩ => by
  subst ec; subst ed; subst e1; subst e2
  exact tk u s' ⟨a, B, sI, pins, _, _, _, _, e, I, nb, up, sky, na, os, ag, h⟩

/-! ### the weakest readings -/
def Wp (X : Cx) (e : Expr) : TE := fun σ H Q => ∀ pins s, Inv X pins σ H s → wpAny (model X.prog X.w) X.A (eval e X.env) (EP X pins σ Q) X.xe s
def WpT (X : Cx) (e : Expr) : TT := fun σ H Q => ∀ pins s, Inv X pins σ H s → wpAny (model X.prog X.w) X.A (isTrue e X.env (eval e X.env)) (TP X pins σ Q) X.xe s
def WpW (X : Cx) (e : Expr) : TT := fun σ H Q => ∀ whole pins s, Inv X pins σ H s → wpAny (model X.prog X.w) X.A (isTrue e X.env whole) (TP X pins σ Q) X.xe s
def WpA (X : Cx) (es : List Expr) : TA := fun σ H Q => ∀ pos pins s, Inv X pins σ H s → wpAny (model X.prog X.w) X.A (spliced (backTo pos (starEach es X.env))) (AP X pins σ Q) X.xe s
def WpS (X : Cx) (st : Stmt) : TS := fun D σ H => ∀ pins s, Inv X pins σ H s → wpAny (model X.prog X.w) X.A (exec st X.env) (SP X pins D) X.xe s
def WpSs (X : Cx) (st : List Stmt) : TS := fun D σ H => ∀ pins s, Inv X pins σ H s → wpAny (model X.prog X.w) X.A (execs st X.env) (SP X pins D) X.xe s
section
variable {X : Cx} {e : Expr} {es : List Expr} {st : Stmt} {ss : List Stmt} {σ : L2.St} {H : Hp}
theorem pe_wp : PE X e (Wp X e) := ⟨fun pins s _ _ _ I h => h pins s I⟩
theorem pt_wp : PT X e (WpT X e) := ⟨fun pins s _ _ _ I h => h pins s I⟩
theorem pw_wp : PW X e (WpW X e) := ⟨fun wh pins s _ _ _ I h => h wh pins s I⟩
theorem pa_wp : PA X es (WpA X es) := ⟨fun pos pins s _ _ _ I h => h pos pins s I⟩
theorem ps_wp : PS X st (WpS X st) := ⟨fun pins s _ _ _ I h => h pins s I⟩
theorem pss_wp : PSs X ss (WpSs X ss) := ⟨fun pins s _ _ _ I h => h pins s I⟩
theorem wp_of {t : TE} {Q : VK} (h : PE X e t) (q : t σ H Q) : Wp X e σ H Q := fun pins s I => h.run pins s σ H Q I q
theorem wpT_of {t : TT} {Q : Bool → Hp → Prop} (h : PT X e t) (q : t σ H Q) : WpT X e σ H Q := fun pins s I => h.run pins s σ H Q I q
theorem wpW_of {t : TT} {Q : Bool → Hp → Prop} (h : PW X e t) (q : t σ H Q) : WpW X e σ H Q := fun wh pins s I => h.run wh pins s σ H Q I q
theorem wpA_of {t : TA} {Q : List V → Hp → Prop} (h : PA X es t) (q : t σ H Q) : WpA X es σ H Q := fun pos pins s I => h.run pos pins s σ H Q I q
theorem wpS_of {t : TS} {D : Ends} (h : PS X st t) (q : t D σ H) : WpS X st D σ H := fun pins s I => h.run pins s σ H D I q
theorem wpSs_of {t : TS} {D : Ends} (h : PSs X ss t) (q : t D σ H) : WpSs X ss D σ H := fun pins s I => h.run pins s σ H D I q
end

/-! ### the judgements -/
/-- where code goes on, and where an exception goes -/
def KX (g : Gx) (X : Cx) (σ : L2.St) (G : Gh) (H : Hp) (E : Nat → Store → Prop) : Prop := ∀ C G' M' H', Mv G H G' H' → Sta g G' H' M' → E C M' → Thr X (g.ca C) σ H'
def KD (g : Gx) (G : Gh) (H : Hp) (Q : D → Store → Prop) (R : VK) : Prop := ∀ v d G' M' H', Mv G H G' H' → Sta g G' H' M' → Rep g G' d v → Q d M' → R v H'
def Ev (L : Lx) (ρ : Ro) (M : Store) (e : Expr) (Q : D → Store → Prop) (E : Nat → Store → Prop) : Prop :=
  ∀ X, CI L X → ∀ B σ G H (R : VK), Frm X L.g B G H σ ρ → Sta L.g G H M → KD L.g G H Q R → KX L.g X σ G H E → Wp X e σ H R
def KA (g : Gx) (G : Gh) (H : Hp) (Q : List D → Store → Prop) (R : List V → Hp → Prop) : Prop := ∀ vs ds G' M' H', Mv G H G' H' → Sta g G' H' M' → Reps g G' ds vs → Q ds M' → R vs H'
def EvA (L : Lx) (ρ : Ro) (M : Store) (es : List Expr) (Q : List D → Store → Prop) (E : Nat → Store → Prop) : Prop :=
  ∀ X, CI L X → ∀ B σ G H (R : List V → Hp → Prop), Frm X L.g B G H σ ρ → Sta L.g G H M → KA L.g G H Q R → KX L.g X σ G H E → WpA X es σ H R
def KB (g : Gx) (G : Gh) (H : Hp) (Q : Bool → Store → Prop) (R : Bool → Hp → Prop) : Prop := ∀ b G' M' H', Mv G H G' H' → Sta g G' H' M' → Q b M' → R b H'
def EvT (L : Lx) (ρ : Ro) (M : Store) (e : Expr) (Q : Bool → Store → Prop) (E : Nat → Store → Prop) : Prop :=
  ∀ X, CI L X → ∀ B σ G H (R : Bool → Hp → Prop), Frm X L.g B G H σ ρ → Sta L.g G H M → KB L.g G H Q R → KX L.g X σ G H E → WpT X e σ H R
def EvW (L : Lx) (ρ : Ro) (M : Store) (e : Expr) (Q : Bool → Store → Prop) (E : Nat → Store → Prop) : Prop :=
  ∀ X, CI L X → ∀ B σ G H (R : Bool → Hp → Prop), Frm X L.g B G H σ ρ → Sta L.g G H M → KB L.g G H Q R → KX L.g X σ G H E → WpW X e σ H R
structure Post where
  nx : Ro → Store → Prop
  rt : D → Store → Prop
  bk : Ro → Store → Prop := fun _ _ => False
  ct : Ro → Store → Prop := fun _ _ => False
  ex : Nat → Ro → Store → Prop := fun _ _ _ => False
/-- statements: all is told from where the body began (B); Gl: what is known now -/
structure KS (g : Gx) (X : Cx) (B : Bs) (Gl : Gh) (P : Post) (Dn : Ends) : Prop where
  nx : ∀ σ' ρ' G' M' H', Gl.le G' → Frm X g B G' H' σ' ρ' → Mv B.G B.H G' H' → Sta g G' H' M' → P.nx ρ' M' → Dn.nx σ' H'
  rt : KD g B.G B.H P.rt Dn.rt
  bk : ∀ σ' ρ' G' M' H', Gl.le G' → Frm X g B G' H' σ' ρ' → Mv B.G B.H G' H' → Sta g G' H' M' → P.bk ρ' M' → Dn.bk σ' H'
  ct : ∀ σ' ρ' G' M' H', Gl.le G' → Frm X g B G' H' σ' ρ' → Mv B.G B.H G' H' → Sta g G' H' M' → P.ct ρ' M' → Dn.ct σ' H'
  ex : ∀ C σ' ρ' G' M' H', Gl.le G' → Frm X g B G' H' σ' ρ' → Mv B.G B.H G' H' → Sta g G' H' M' → P.ex C ρ' M' → Thr X (g.ca C) σ' H'
def Stm (L : Lx) (ρ : Ro) (M : Store) (st : Stmt) (P : Post) : Prop :=
  ∀ X, CI L X → ∀ B σ G H Dn, Frm X L.g B G H σ ρ → Mv B.G B.H G H → Sta L.g G H M → KS L.g X B G P Dn → WpS X st Dn σ H
def Run (L : Lx) (ρ : Ro) (M : Store) (ss : List Stmt) (P : Post) : Prop :=
  ∀ X, CI L X → ∀ B σ G H Dn, Frm X L.g B G H σ ρ → Mv B.G B.H G H → Sta L.g G H M → KS L.g X B G P Dn → WpSs X ss Dn σ H
abbrev NoE : Nat → Store → Prop := fun _ _ => False

/-! ### plumbing -/
section
variable {g : Gx} {X : Cx} {σ : L2.St} {G G1 : Gh} {H H1 : Hp} {M M1 : Store}
theorem KX.move {E : Nat → Store → Prop} (k : KX g X σ G H E) (s1 : Sta g G1 H1 M1) (m : Mv G H G1 H1) : KX g X σ G1 H1 E := fun C G' M' H' m' s' e => k C G' M' H' (m.trans s1 m') s' e
theorem KD.move {Q : D → Store → Prop} {R : VK} (k : KD g G H Q R) (s1 : Sta g G1 H1 M1) (m : Mv G H G1 H1) : KD g G1 H1 Q R := fun v d G' M' H' m' s' r q => k v d G' M' H' (m.trans s1 m') s' r q
theorem KA.move {Q : List D → Store → Prop} {R : List V → Hp → Prop} (k : KA g G H Q R) (s1 : Sta g G1 H1 M1) (m : Mv G H G1 H1) : KA g G1 H1 Q R := fun v d G' M' H' m' s' r q => k v d G' M' H' (m.trans s1 m') s' r q
theorem KB.move {Q : Bool → Store → Prop} {R : Bool → Hp → Prop} (k : KB g G H Q R) (s1 : Sta g G1 H1 M1) (m : Mv G H G1 H1) : KB g G1 H1 Q R := fun v G' M' H' m' s' q => k v G' M' H' (m.trans s1 m') s' q
theorem KX.none : KX g X σ G H NoE := fun _ _ _ _ _ _ e => e.elim
/-- from a statement to its expressions -/
theorem KS.xe {P : Post} {Dn : Ends} {B : Bs} {ρ : Ro} (k : KS g X B G P Dn) (f : Frm X g B G H σ ρ) (mb : Mv B.G B.H G H) (s : Sta g G H M) : KX g X σ G H (fun C M' => P.ex C ρ M') := fun C G' M' H' m' s' e => k.ex C σ ρ G' M' H' m'.g (f.move m') (mb.trans s m') s' e
theorem KS.wk {P : Post} {Dn : Ends} {B : Bs} {Gl : Gh} (k : KS g X B Gl P Dn) (l : Gl.le G) : KS g X B G P Dn :=
  ⟨fun σ' ρ' G' M' H' e f m s q => k.nx σ' ρ' G' M' H' (l.trans e) f m s q, k.rt, fun σ' ρ' G' M' H' e f m s q => k.bk σ' ρ' G' M' H' (l.trans e) f m s q, fun σ' ρ' G' M' H' e f m s q => k.ct σ' ρ' G' M' H' (l.trans e) f m s q, fun C σ' ρ' G' M' H' e f m s q => k.ex C σ' ρ' G' M' H' (l.trans e) f m s q⟩
theorem KS.ret {P : Post} {Dn : Ends} {B : Bs} {Gl : Gh} (k : KS g X B Gl P Dn) (s : Sta g G H M) (mb : Mv B.G B.H G H) : KD g G H P.rt Dn.rt := k.rt.move s mb
end
section
variable {L : Lx} {ρ : Ro} {M : Store} {e : Expr} {Q Q' : D → Store → Prop} {E E' : Nat → Store → Prop}
theorem Ev.mono (h : Ev L ρ M e Q E) (hq : ∀ d M', Q d M' → Q' d M') (he : ∀ C M', E C M' → E' C M') : Ev L ρ M e Q' E' := fun X ci B σ G H R f s k x =>
  h X ci B σ G H R f s (fun v d G' M' H' m s' r q => k v d G' M' H' m s' r (hq _ _ q)) (fun C G' M' H' m s' q => x C G' M' H' m s' (he _ _ q))
theorem EvT.mono {Q Q' : Bool → Store → Prop} (h : EvT L ρ M e Q E) (hq : ∀ d M', Q d M' → Q' d M') (he : ∀ C M', E C M' → E' C M') : EvT L ρ M e Q' E' := fun X ci B σ G H R f s k x =>
  h X ci B σ G H R f s (fun b G' M' H' m s' q => k b G' M' H' m s' (hq _ _ q)) (fun C G' M' H' m s' q => x C G' M' H' m s' (he _ _ q))
theorem EvW.mono {Q Q' : Bool → Store → Prop} (h : EvW L ρ M e Q E) (hq : ∀ d M', Q d M' → Q' d M') (he : ∀ C M', E C M' → E' C M') : EvW L ρ M e Q' E' := fun X ci B σ G H R f s k x =>
  h X ci B σ G H R f s (fun b G' M' H' m s' q => k b G' M' H' m s' (hq _ _ q)) (fun C G' M' H' m s' q => x C G' M' H' m s' (he _ _ q))
theorem EvA.mono {es : List Expr} {Q Q' : List D → Store → Prop} (h : EvA L ρ M es Q E) (hq : ∀ d M', Q d M' → Q' d M') (he : ∀ C M', E C M' → E' C M') : EvA L ρ M es Q' E' := fun X ci B σ G H R f s k x =>
  h X ci B σ G H R f s (fun b d G' M' H' m s' r q => k b d G' M' H' m s' r (hq _ _ q)) (fun C G' M' H' m s' q => x C G' M' H' m s' (he _ _ q))
theorem EvW.t {Q2 : Bool → Store → Prop} (h : EvW L ρ M e Q2 E) : EvT L ρ M e Q2 E := fun X ci B σ G H R f s k x pins s' I => h X ci B σ G H R f s k x _ pins s' I

/-! ### new things -/
variable {g : Gx} {G : Gh} {H : Hp} {p : Addr} {o : HO}
theorem Sta.free (s : Sta g G H M) (n : H p = none) : G.h p = none := by
  cases q : G.h p with
  | none => rfl
  | some u => rw [s.ex p u q] at n; cases n
theorem Sta.notin (s : Sta g G H M) (n : H p = none) : p ∉ G.A := fun hm => by
  obtain ⟨k, m, _, _, _, h⟩ := s.mem hm
  obtain ⟨o, e, _⟩ := h.ne
  rw [n] at e; cases e
theorem TabOk.mono {G G' : Gh} {H H' : Hp} {q : Addr × Option Str} (eg : Same G.h G'.h) (e : ∀ ps, H q.1 = some (.tbl ps) → H' q.1 = some (.tbl ps)) (h : TabOk G H q) : TabOk G' H' q := by
  obtain ⟨ps, h1, h2, h3⟩ := h
  refine ⟨ps, e _ h1, h2, fun x hx pos cv hc => ?_⟩
  obtain ⟨c, e1, e2⟩ := h3 x hx pos cv hc
  exact ⟨c, e1, eg _ _ e2⟩
theorem same_new {H : Hp} (n : H p = none) : Same H (upd H p o) := fun b u e => by rw [upd_ne (ne_of_none e n)]; exact e
theorem same_upd {G G' H : Hp} (e : Same G H) (nG : G p = none) : Same G (upd H p o) := fun b u hb => by rw [upd_ne (ne_of_none hb nG)]; exact e b u hb
def Gh.add (G : Gh) (p : Addr) (o : HO) : Gh := ⟨upd G.h p o, G.A⟩
theorem Gh.le_add (n : G.h p = none) : G.le (G.add p o) := ⟨same_new n, fun _ _ e => e⟩
/-- a new object, known from now on -/
theorem Sta.newG (s : Sta g G H M) (n : H p = none) (ht : ∀ ps, o ≠ .tbl ps) : Sta g (G.add p o) (upd H p o) M ∧ Mv G H (G.add p o) (upd H p o) := by
  have nG := s.free n
  have nM := s.notin n
  refine ⟨⟨fun b u e => ?_, s.len, fun k m a hm ha => ?_, s.nd, fun q hq => (s.tabs q hq).mono (same_new nG) (fun ps e => same_new n _ _ e), fun a ps e => ?_⟩, ⟨Gh.le_add nG, fun b u e _ _ => same_new n b u e, fun b h => ?_, fun b h => ?_⟩⟩
  · have e : upd G.h p o b = some u := e
    by_cases hb : b = p
    · subst hb; rw [upd_same] at e ⊢; exact e
    · rw [upd_ne hb] at e ⊢; exact s.ex b u e
  · have hne : a ≠ p := fun z => nM (by rw [← z]; exact List.mem_of_getElem? (show G.A[k]? = some a from ha))
    obtain ⟨h1, h2⟩ := s.tie k m a hm ha
    refine ⟨by show upd G.h p o a = none; rw [upd_ne hne]; exact h1, h2.mono (Gh.le_add nG) fun o e _ => by rw [upd_ne hne]; exact e⟩
  · have e : upd G.h p o a = some (.tbl ps) := e
    by_cases ha : a = p
    · subst ha; rw [upd_same] at e; exact ht ps (Option.some.inj e)
    · rw [upd_ne ha] at e; exact s.nt a ps e
  · by_cases hb : b = p
    · subst hb; exact .inr (.inr n)
    · rcases h with h | h
      · have h : upd G.h p o b ≠ none := h
        rw [upd_ne hb] at h; exact .inl h
      · exact .inr (.inl h)
  · by_cases hb : b = p
    · subst hb; exact absurd n h
    · rw [upd_ne hb]; exact h
/-- a new object that nothing is said of -/
theorem Sta.newU (s : Sta g G H M) (n : H p = none) : Sta g G (upd H p o) M ∧ Mv G H G (upd H p o) := by
  have nG := s.free n
  have nM := s.notin n
  refine ⟨⟨same_upd (G' := G.h) s.ex nG, s.len, fun k m a hm ha => ?_, s.nd, fun q hq => (s.tabs q hq).mono (Same.refl _) (fun ps e => same_new n _ _ e), s.nt⟩, ⟨.refl _, fun b u e _ _ => same_new n b u e, fun b h => h.imp id .inl, fun b h => ?_⟩⟩
  · have hne : a ≠ p := fun z => nM (by rw [← z]; exact List.mem_of_getElem? ha)
    obtain ⟨h1, h2⟩ := s.tie k m a hm ha
    exact ⟨h1, h2.mono (.refl _) fun o e _ => by rw [upd_ne hne]; exact e⟩
  · by_cases hb : b = p
    · subst hb; exact absurd n h
    · rw [upd_ne hb]; exact h
def Gh.more (G : Gh) (p : Addr) : Gh := ⟨G.h, G.A ++ [p]⟩
theorem Gh.le_more : G.le (G.more p) := ⟨Same.refl _, fun k a e => by
  show (G.A ++ [p])[k]? = some a
  rw [List.getElem?_append_left (List.getElem?_eq_some_iff.mp e).1]; exact e⟩
/-- a thing joins the store: it stands already, and nobody else knows it -/
theorem Sta.join {m : MO} (s : Sta g G H M) (nG : G.h p = none) (nA : p ∉ G.A) (h : MOk g G H p m) : Sta g (G.more p) H (M ++ [m]) := by
  refine ⟨s.ex, by show (G.A ++ [p]).length = _; simp [s.len], fun k m' a hm ha => ?_, ?_, fun q hq => (s.tabs q hq).mono (Same.refl _) fun _ e => e, s.nt⟩
  · have ha : (G.A ++ [p])[k]? = some a := ha
    by_cases hk : k < M.length
    · rw [List.getElem?_append_left hk] at hm
      rw [List.getElem?_append_left (by rw [s.len]; exact hk)] at ha
      obtain ⟨h1, h2⟩ := s.tie k m' a hm ha
      exact ⟨h1, h2.mono Gh.le_more fun o e _ => e⟩
    · rw [List.getElem?_append_right (Nat.le_of_not_lt hk)] at hm
      rw [List.getElem?_append_right (by rw [s.len]; exact Nat.le_of_not_lt hk), s.len] at ha
      have e0 : k - M.length = 0 := by
        rcases Nat.eq_zero_or_pos (k - M.length) with z | z
        · exact z
        · rw [List.getElem?_eq_none (by simp; omega)] at hm; cases hm
      rw [e0] at hm ha
      simp at hm ha
      subst hm; subst ha
      exact ⟨nG, h.mono Gh.le_more fun o e _ => e⟩
  · show (G.A ++ [p]).Nodup
    rw [List.nodup_append]
    exact ⟨s.nd, by simp, fun a ha b hb => by rw [List.mem_singleton.mp hb]; intro z; exact nA (z ▸ ha)⟩
theorem Mv.join {H0 : Hp} {G0 : Gh} (m : Mv G0 H0 G H) (n : H0 p = none) : Mv G0 H0 (G.more p) H :=
  ⟨m.g.trans Gh.le_more, m.keep, fun b h => by
    rcases h with h | h
    · exact m.new b (.inl h)
    · have h : b ∈ G.A ++ [p] := h
      rcases List.mem_append.mp h with h | h
      · exact m.new b (.inr h)
      · rw [List.mem_singleton.mp h]; exact .inr (.inr n), m.dom⟩
/-- a new thing of the store -/
theorem Sta.newM {m : MO} (s : Sta g G H M) (n : H p = none) (h : ∀ G', MOk g G' (upd H p o) p m ∨ ¬ G.le G') : Sta g (G.more p) (upd H p o) (M ++ [m]) ∧ Mv G H (G.more p) (upd H p o) := by
  obtain ⟨s1, m1⟩ := s.newU (o := o) n
  exact ⟨s1.join (s.free n) (s.notin n) ((h G).resolve_right fun z => z (.refl _)), m1.join n⟩
theorem ndA {l : List Addr} (h : l.Nodup) {i j : Nat} {a : Addr} (hi : l[i]? = some a) (hj : l[j]? = some a) : i = j := L2.nd_ix h hi hj
/-- a thing of the store is written -/
theorem Sta.put (s : Sta g G H M) {j : Nat} {m m' : MO} (hj : M[j]? = some m) (hp : G.A[j]? = some p) (ho : ∀ ps, o ≠ .tbl ps) (h : ∀ H', H' p = some o → MOk g G H' p m') : Sta g G (upd H p o) (M.set j m') ∧ Mv G H G (upd H p o) := by
  obtain ⟨nG, hm⟩ := s.tie j m p hj hp
  obtain ⟨u0, e0, t0⟩ := hm.ne
  have hpA : p ∈ G.A := List.mem_of_getElem? hp
  refine ⟨⟨same_upd (G' := G.h) s.ex nG, by rw [List.length_set]; exact s.len, fun k q a hq ha => ?_, s.nd, fun q hq => ?_, s.nt⟩, ⟨.refl _, fun b u e _ hb => ?_, fun b h => h.imp id .inl, fun b h => ?_⟩⟩
  · by_cases hjk : j = k
    · subst hjk
      rw [List.getElem?_set_self (List.getElem?_eq_some_iff.mp hj).1] at hq
      cases hq
      rw [hp] at ha
      cases ha
      exact ⟨nG, h _ upd_same⟩
    · rw [List.getElem?_set_ne hjk] at hq
      have hne : a ≠ p := fun z => hjk (ndA s.nd hp (by rw [← z]; exact ha))
      obtain ⟨h1, h2⟩ := s.tie k q a hq ha
      exact ⟨h1, h2.mono (.refl _) fun o e _ => by rw [upd_ne hne]; exact e⟩
  · refine (s.tabs q hq).mono (Same.refl _) fun ps e => ?_
    rw [upd_ne (fun z => by rw [z, e0] at e; cases e; exact t0 ps rfl)]
    exact e
  · rw [upd_ne (fun z => hb (by rw [z]; exact hpA))]; exact e
  · by_cases hb : b = p
    · subst hb; rw [upd_same]; intro z; cases z
    · rw [upd_ne hb]; exact h
/-- a thing of this frame's own is written: told from where the body began -/
theorem Sta.putOwn (s : Sta g G H M) {B : Bs} {u : HO} (ow : Ow B G p) (e0 : H p = some u) (t0 : ∀ ps, u ≠ .tbl ps) (mb : Mv B.G B.H G H) : Sta g G (upd H p o) M ∧ Mv B.G B.H G (upd H p o) := by
  refine ⟨⟨same_upd (G' := G.h) s.ex ow.g, s.len, fun k q a hq ha => ?_, s.nd, fun q hq => ?_, s.nt⟩, ⟨mb.g, fun b v e t hb => ?_, mb.new, fun b h => ?_⟩⟩
  · have hne : a ≠ p := fun z => ow.A (by rw [← z]; exact List.mem_of_getElem? ha)
    obtain ⟨h1, h2⟩ := s.tie k q a hq ha
    exact ⟨h1, h2.mono (.refl _) fun o e _ => by rw [upd_ne hne]; exact e⟩
  · refine (s.tabs q hq).mono (Same.refl _) fun ps e => ?_
    rw [upd_ne (fun z => by rw [z, e0] at e; cases e; exact t0 ps rfl)]
    exact e
  · rw [upd_ne (fun z => by rw [z, ow.b] at e; cases e)]; exact mb.keep b v e t hb
  · by_cases hb : b = p
    · subst hb; rw [upd_same]; intro z; cases z
    · rw [upd_ne hb]; exact mb.dom b h
/-- a thing of this frame's own changes no more -/
theorem Sta.freeze (s : Sta g G H M) {B : Bs} {u : HO} (ow : Ow B G p) (e0 : H p = some u) (t0 : ∀ ps, u ≠ .tbl ps) (mb : Mv B.G B.H G H) : Sta g (G.add p u) H M ∧ Mv B.G B.H (G.add p u) H ∧ G.le (G.add p u) := by
  refine ⟨⟨fun b v e => ?_, s.len, fun k q a hq ha => ?_, s.nd, fun q hq => (s.tabs q hq).mono (same_new ow.g) (fun _ e => e), fun a ps e => ?_⟩, ⟨mb.g.trans (Gh.le_add ow.g), mb.keep, fun b h => ?_, mb.dom⟩, Gh.le_add ow.g⟩
  · have e : upd G.h p u b = some v := e
    by_cases hb : b = p
    · subst hb; rw [upd_same] at e; cases e; exact e0
    · rw [upd_ne hb] at e; exact s.ex b v e
  · have hne : a ≠ p := fun z => ow.A (by rw [← z]; exact List.mem_of_getElem? (show G.A[k]? = some a from ha))
    obtain ⟨a1, a2⟩ := s.tie k q a hq ha
    exact ⟨by show upd G.h p u a = none; rw [upd_ne hne]; exact a1, a2.mono (Gh.le_add ow.g) fun _ e _ => e⟩
  · have e : upd G.h p u a = some (.tbl ps) := e
    by_cases ha : a = p
    · subst ha; rw [upd_same] at e; cases e; exact t0 ps rfl
    · rw [upd_ne ha] at e; exact s.nt a ps e
  · by_cases hb : b = p
    · subst hb; exact .inr (.inr ow.b)
    · rcases h with h | h
      · have h : upd G.h p u b ≠ none := h
        rw [upd_ne hb] at h; exact mb.new b (.inl h)
      · exact mb.new b (.inr h)
end
end PI
set_option Elab.async false
set_option linter.all false
set_option maxRecDepth 100000
set_option maxHeartbeats 4000000
/-! PB: a small language, told by a function (run). -/
namespace PI
open PySem L2

/-! ### what comes of an expression, of a statement -/
inductive Out (α : Type) where
  | ok (a : α) (M : Store) | ex (C : Nat) (M : Store) | bad
def Out.bind {α β : Type} (x : Out α) (f : α → Store → Out β) : Out β := match x with
  | .ok a M => f a M
  | .ex C M => .ex C M
  | .bad => .bad
theorem Out.bind_ok {α β : Type} {a : α} {M : Store} {f : α → Store → Out β} : (Out.ok a M).bind f = f a M := rfl
theorem Out.bind_ex {α β : Type} {C : Nat} {M : Store} {f : α → Store → Out β} : (Out.ex C M : Out α).bind f = .ex C M := rfl
theorem Out.bind_bad {α β : Type} {f : α → Store → Out β} : (Out.bad : Out α).bind f = .bad := rfl
inductive SO where
  | nx (ρ : Ro) (M : Store) | rt (d : D) (M : Store) | bk (ρ : Ro) (M : Store) | ct (ρ : Ro) (M : Store) | ex (C : Nat) (ρ : Ro) (M : Store) | bad
def SO.seq (x : SO) (k : Ro → Store → SO) : SO := match x with
  | .nx ρ M => k ρ M
  | y => y
/-- a turn's end, then the next turn -/
def SO.turn (x : SO) (k : Ro → Store → SO) : SO := match x with
  | .nx ρ M => k ρ M
  | .ct ρ M => k ρ M
  | .bk ρ M => .nx ρ M
  | y => y
/-- an expression's value, then a statement's end -/
def Out.st {α : Type} (x : Out α) (ρ : Ro) (k : α → Store → SO) : SO := match x with
  | .ok a M => k a M
  | .ex C M => .ex C ρ M
  | .bad => .bad
theorem SO.seq_nx {ρ : Ro} {M : Store} {k : Ro → Store → SO} : (SO.nx ρ M).seq k = k ρ M := rfl
theorem SO.seq_rt {d : D} {M : Store} {k : Ro → Store → SO} : (SO.rt d M).seq k = .rt d M := rfl
theorem SO.seq_bk {ρ : Ro} {M : Store} {k : Ro → Store → SO} : (SO.bk ρ M).seq k = .bk ρ M := rfl
theorem SO.seq_ct {ρ : Ro} {M : Store} {k : Ro → Store → SO} : (SO.ct ρ M).seq k = .ct ρ M := rfl
theorem SO.seq_ex {C : Nat} {ρ : Ro} {M : Store} {k : Ro → Store → SO} : (SO.ex C ρ M).seq k = .ex C ρ M := rfl
theorem SO.turn_nx {ρ : Ro} {M : Store} {k : Ro → Store → SO} : (SO.nx ρ M).turn k = k ρ M := rfl
theorem SO.turn_ct {ρ : Ro} {M : Store} {k : Ro → Store → SO} : (SO.ct ρ M).turn k = k ρ M := rfl
theorem SO.turn_bk {ρ : Ro} {M : Store} {k : Ro → Store → SO} : (SO.bk ρ M).turn k = .nx ρ M := rfl
theorem SO.turn_rt {d : D} {M : Store} {k : Ro → Store → SO} : (SO.rt d M).turn k = .rt d M := rfl
theorem SO.turn_ex {C : Nat} {ρ : Ro} {M : Store} {k : Ro → Store → SO} : (SO.ex C ρ M).turn k = .ex C ρ M := rfl
theorem Out.st_ok {α : Type} {a : α} {M : Store} {ρ : Ro} {k : α → Store → SO} : (Out.ok a M).st ρ k = k a M := rfl
theorem Out.st_ex {α : Type} {C : Nat} {M : Store} {ρ : Ro} {k : α → Store → SO} : (Out.ex C M : Out α).st ρ k = .ex C ρ M := rfl
def optO {α : Type} (o : Option α) (M : Store) : Out α := match o with
  | some a => .ok a M
  | none => .bad
theorem optO_some {α : Type} {a : α} {M : Store} : optO (some a) M = .ok a M := rfl
def grd (b : Bool) (d : D) : Option D := if b = true then some d else none
theorem grd_true {d : D} : grd true d = some d := rfl

/-! ### operations -/
inductive BOp | add | sub | mul | div | mod | pow
inductive COp | eq | ne | lt | le | gt | ge | isN | isNN | mem | nmem
def mulB (i j : Int) : Bool := decide (i.natAbs.log2 + j.natAbs.log2 < 100000000)
def divB (j : Int) : Bool := decide (j ≠ 0) && (decide (j.natAbs < 1073741824) || (decide (0 < j) && decide (j.natAbs.log2 < 9000)))
def powB (i j : Int) : Bool := decide (0 ≤ j) && decide (j ≤ 1000000) && decide (i.natAbs < 18446744073709551616)
def bI (b : Bool) : Int := if b = true then 1 else 0
def binO (M : Store) : BOp → D → D → Option D
  | .add, .int i, .int j => some (.int (i + j))
  | .sub, .int i, .int j => some (.int (i - j))
  | .mul, .int i, .int j => grd (mulB i j) (.int (i * j))
  | .div, .int i, .int j => grd (divB j) (.int (i.fdiv j))
  | .mod, .int i, .int j => grd (decide (j ≠ 0)) (.int (i.fmod j))
  | .pow, .int i, .int j => grd (powB i j) (.int (i ^ j.toNat))
  | .sub, .bl i, .bl j => some (.int (bI i - bI j))
  | .add, .lst xs, .lst ys => grd (decide (xs.length + ys.length ≤ 100000)) (.lst (xs ++ ys))
  | .add, .str x, .str y => grd (decide (x.length + y.length ≤ 100000)) (.str (x ++ y))
  | .add, .tup xs, .tup ys => grd (decide (1 ≤ xs.length) && decide (xs.length + ys.length ≤ 100000)) (.tup (xs ++ ys))
  | .mul, .lst xs, .int k => grd (decide (-1000 ≤ k) && decide (k ≤ 1000) && decide (xs.length ≤ 100)) (.lst (List.replicate k.toNat xs).flatten)
  | .mul, .tup xs, .int k => grd (decide (2 ≤ k) && decide (k ≤ 1000) && decide (1 ≤ xs.length) && decide (xs.length ≤ 100)) (.tup (List.replicate k.toNat xs).flatten)
  | _, _, _ => none
mutual
/-- data of no great depth, without things that change -/
def D.sh : Nat → D → Bool
  | _, .non => true
  | _, .bl _ => true
  | _, .int _ => true
  | _, .str x => PyData.strOk (mkS x)
  | n + 1, .tup ds => D.shs n ds
  | n + 1, .lst ds => D.shs n ds
  | n + 1, .seq ds => D.shs n ds
  | _, _ => false
def D.shs : Nat → List D → Bool
  | _, [] => true
  | n, d :: ds => D.sh n d && D.shs n ds
end
mutual
def D.py : D → PyData
  | .non => .none
  | .bl b => .bool b
  | .int i => .int i
  | .str x => .str (mkS x)
  | .tup ds => .tuple (D.pys ds)
  | .lst ds => .list (D.pys ds)
  | .seq ds => .list (D.pys ds)
  | .ref _ => .none
  | .obj _ _ _ => .none
  | .dct _ _ => .none
def D.pys : List D → List PyData
  | [] => []
  | d :: ds => D.py d :: D.pys ds
end
/-- Python's == on data -/
def D.eqv (a b : D) : Bool := PyData.eqv a.py b.py
def atD (ds : List D) (i : Int) : Option D := L2.atI ds i
def cutD {α : Type} (ds : List α) (lo hi : Option Int) : List α := (ds.drop (HT.sIx ds.length 0 lo)).take (HT.sIx ds.length ds.length hi - HT.sIx ds.length 0 lo)
def seqOf (M : Store) : D → Option (List D)
  | .tup ds => some ds
  | .lst ds => some ds
  | .seq ds => some ds
  | .ref k => match M[k]? with
    | some (.lst ds) => some ds
    | _ => none
  | _ => none
def inD (x : D) : List D → Bool
  | [] => false
  | d :: ds => D.eqv d x || inD x ds
def D.isN : D → Bool
  | .non => true
  | _ => false
/-- == : of data; of anything in a list that stands against the empty one -/
def eqO (x y : D) : Option Bool := if (D.sh 40 x && D.sh 40 y) = true then some (D.eqv x y) else match x, y with
  | .lst (_ :: _), .lst [] => some false
  | .seq (_ :: _), .lst [] => some false
  | _, _ => none
def mapB (f : Bool → Bool) (o : Option Bool) : Option D := match o with
  | some b => some (.bl (f b))
  | none => none
def cmpO (M : Store) : COp → D → D → Option D
  | .lt, .int i, .int j => some (.bl (decide (i < j)))
  | .le, .int i, .int j => some (.bl (decide (i ≤ j)))
  | .gt, .int i, .int j => some (.bl (decide (j < i)))
  | .ge, .int i, .int j => some (.bl (decide (j ≤ i)))
  | .eq, .int i, .int j => some (.bl (decide (i = j)))
  | .ne, .int i, .int j => some (.bl (!decide (i = j)))
  | .eq, x, y => mapB id (eqO x y)
  | .ne, x, y => mapB not (eqO x y)
  | .isN, x, _ => some (.bl x.isN)
  | .isNN, x, _ => some (.bl (!x.isN))
  | .mem, x, .tup ds => grd (D.sh 40 x && D.shs 40 ds) (.bl (inD x ds))
  | .mem, x, .lst ds => grd (D.sh 40 x && D.shs 40 ds) (.bl (inD x ds))
  | .mem, x, .seq ds => grd (D.sh 40 x && D.shs 40 ds) (.bl (inD x ds))
  | .nmem, x, .tup ds => grd (D.sh 40 x && D.shs 40 ds) (.bl (!inD x ds))
  | .nmem, x, .lst ds => grd (D.sh 40 x && D.shs 40 ds) (.bl (!inD x ds))
  | .nmem, x, .seq ds => grd (D.sh 40 x && D.shs 40 ds) (.bl (!inD x ds))
  | _, _, _ => none
/-- x[i] -/
def ixO (M : Store) (x : D) (i : D) : Option D := match i with
  | .int i => match x with
    | .str z => match L2.atI z i with
      | some c => grd (decide (z.length ≤ 100000)) (.str [c])
      | none => none
    | x => match seqOf M x with
      | some ds => atD ds i
      | none => none
  | _ => none
def intsOf : List D → Option (List Int)
  | [] => some []
  | .int i :: ds => match intsOf ds with
    | some is => some (i :: is)
    | none => none
  | _ => none
/-- built-ins by their values -/
inductive BI | len | abs | int | sum | tuple | list | min | max | sorted
def biLen (M : Store) (ds : List D) : Option D := match ds with
  | [.str x] => grd (decide (x.length ≤ 100000)) (.int x.length)
  | [x] => match seqOf M x with
    | some ds => some (.int ds.length)
    | none => none
  | _ => none
def biAbs (ds : List D) : Option D := match ds with
  | [.int i] => some (.int (if i < 0 then -i else i))
  | _ => none
def biInt (ds : List D) : Option D := match ds with
  | [.int i] => some (.int i)
  | [.bl b] => some (.int (bI b))
  | _ => none
def biSum (ds : List D) : Option D := match ds with
  | [.lst ds] => match intsOf ds with
    | some is => some (.int is.sum)
    | none => none
  | _ => none
def biTuple (M : Store) (ds : List D) : Option D := match ds with
  | [x] => match seqOf M x with
    | some ds => some (.tup ds)
    | none => none
  | _ => none
def biList (M : Store) (ds : List D) : Option D := match ds with
  | [x] => match seqOf M x with
    | some ds => some (.lst ds)
    | none => none
  | _ => none
def foldMin (i : Int) : List Int → Int
  | [] => i
  | j :: js => foldMin (if j < i then j else i) js
def foldMax (i : Int) : List Int → Int
  | [] => i
  | j :: js => foldMax (if i < j then j else i) js
def biMin (ds : List D) : Option D := match ds with
  | [.int i, .int j] => some (.int (if j < i then j else i))
  | [.lst xs] => match intsOf xs with
    | some (i :: is) => some (.int (foldMin i is))
    | _ => none
  | _ => none
def biMax (ds : List D) : Option D := match ds with
  | [.int i, .int j] => some (.int (if i < j then j else i))
  | [.lst xs] => match intsOf xs with
    | some (i :: is) => some (.int (foldMax i is))
    | _ => none
  | _ => none
def insI (i : Int) : List Int → List Int
  | [] => [i]
  | j :: js => if i ≤ j then i :: j :: js else j :: insI i js
def isortI : List Int → List Int
  | [] => []
  | i :: is => insI i (isortI is)
def biSorted (ds : List D) : Option D := match ds with
  | [.lst xs] => match intsOf xs with
    | some is => some (.lst ((isortI is).map .int))
    | none => none
  | _ => none
def biO (M : Store) (b : BI) (ds : List D) : Option D := match b with
  | .len => biLen M ds
  | .abs => biAbs ds
  | .int => biInt ds
  | .sum => biSum ds
  | .tuple => biTuple M ds
  | .list => biList M ds
  | .min => biMin ds
  | .max => biMax ds
  | .sorted => biSorted ds

/-! ### the language -/
inductive Pat where
  | nm (j : Nat) | tp (js : List Nat)
def Pat.js : Pat → List Nat
  | .nm j => [j]
  | .tp js => js
mutual
inductive E where
  | non | bl (b : Bool) | int (i : Int) | str (x : List Nat)
  | v (i : Nat) | g (k : Nat)
  | neg (a : E) | not (a : E)
  | bin (o : BOp) (a b : E) | cmp (o : COp) (a b : E) | chain (o p : COp) (a b c : E)
  | and (es : Es) | or (es : Es) | ite (c a b : E)
  | tup (es : Es) | lst (es : Es)
  | ix (a b : E) | sl (a : E) (lo hi : Eo)
  | call (f : Nat) (es : Es) | bi (b : BI) (es : Es)
  | lc (own : List Nat) (pt : Pat) (it : I) (elt : E) (ifs : Eo)
  | tupG (src : List (Option Nat)) (pt : Pat) (it : I) (elt : E) (ifs : Eo)
  | lenO (i : Nat) | ixO (i : Nat) (e : E)
  | attr (a : E) (n : Nat) | attrO (i n : Nat) | meth (a : E) (n : Nat) (es : Es) | make (mu : Bool) (f : Nat) (es : Es) | mlst (es : Es)
  | qG (st : Bool) (src : List (Option Nat)) (pt : Pat) (it : I) (elt : E) (ifs : Eo)
  | told (k : Nat) | bads (i ik jf : Nat) (x : List Nat)
inductive Es where
  | nil | cons (e : E) (es : Es)
inductive Eo where
  | no | so (e : E)
inductive I where
  | seq (e : E) | range1 (a : E) | range2 (a b : E) | enum (e : E) | zip (a b : E)
end
mutual
inductive S where
  | set (i : Nat) (e : E)
  | setO (i : Nat) (e : E)
  | unL (js : List Nat) (e : E)
  | un (pt : Pat) (e : E)
  | par (i j : Nat) (a b : E)
  | par3 (i j k : Nat) (a b c : E)
  | put (a b e : E)
  | aug (i : Nat) (o : BOp) (e : E)
  | appO (i : Nat) (e : E)
  | putO (i : Nat) (b e : E)
  | expr (e : E)
  | ret (e : E) | retN
  | ife (c : E) (t f : Ss)
  | wh (k : Nat) (c : E) (b : Ss)
  | fr (pt : Pat) (it : I) (b : Ss)
  | raise (c : Nat)
  | pass | brk | cont
  | frz (i : Nat)
  | doc
  | attrOw (i n : Nat) (e : E) | attrS (a : E) (n : Nat) (e : E)
  | lamSet (i : Nat) (ks : List Nat) | lamAdd (i : Nat) (ks : List Nat)
inductive Ss where
  | nil | cons (s : S) (ss : Ss)
end

/-! ### its meaning -/
abbrev CallF := Nat → List D → Store → Out D
def getS (ρ : Ro) (i : Nat) : Option D := match ρ[i]? with
  | some (.v d) => some d
  | _ => none
def getO (ρ : Ro) (i : Nat) : Option (List D) := match ρ[i]? with
  | some (.own ds) => some ds
  | _ => none
def setAll (ρ : Ro) : List Nat → List D → Ro
  | j :: js, d :: ds => setAll (ρ.set j (.v d)) js ds
  | _, _ => ρ
def asg (pt : Pat) (ρ : Ro) (d : D) : Option Ro := match pt, d with
  | .nm j, d => some (ρ.set j (.v d))
  | .tp js, .tup ds => if ds.length = js.length then some (setAll ρ js ds) else none
  | .tp _, _ => none
def wipeR (ρ : Ro) : List Nat → Ro
  | [] => ρ
  | v :: vs => (wipeR ρ vs).set v .un
def noLam (ρ : Ro) : Ro := ρ.map fun s => match s with
  | .lam _ => .un
  | s => s
def roG (src : List (Option Nat)) (ρ : Ro) : Ro := src.map fun o => match o with
  | none => .un
  | some i => match ρ[i]? with
    | some (.v d) => .v d
    | _ => .un
def lcGo (step : D → Store → Out (List D)) : List D → Store → Out (List D)
  | [], M => .ok [] M
  | d :: ds, M => (step d M).bind fun ys M1 => (lcGo step ds M1).bind fun zs M2 => .ok (ys ++ zs) M2
/-- no error leaves it -/
def noEx {α : Type} (x : Out α) : Out α := match x with
  | .ok a M => .ok a M
  | _ => .bad
theorem noEx_ok {α : Type} {a : α} {M : Store} : noEx (.ok a M) = .ok a M := rfl
/-- one turn's item: told where the test is true -/
def lcK (oe : Ro → Store → Out D) (ρ : Ro) (t : D) (M : Store) : Out (List D) := match t with
  | .bl true => (oe ρ M).bind fun y M => .ok [y] M
  | .bl false => .ok [] M
  | _ => .bad
def lcStep (pt : Pat) (ρ0 : Ro) (oi oe : Ro → Store → Out D) (d : D) (M : Store) : Out (List D) := match asg pt ρ0 d with
  | none => .bad
  | some ρ' => (oi ρ' M).bind (lcK oe ρ')
def lcRun (pt : Pat) (ρ0 : Ro) (os : Out (List D)) (oi oe : Ro → Store → Out D) : Out (List D) := os.bind fun xs M => if xs.length ≤ 50000 then noEx (lcGo (lcStep pt ρ0 oi oe) xs M) else .bad
/-- the items one by one, till one is st -/
def qGo (st : Bool) (step : D → Store → Out (List D)) : List D → Store → Out D
  | [], M => .ok (.bl (!st)) M
  | d :: ds, M => (step d M).bind fun ys M1 => match ys with
    | [] => qGo st step ds M1
    | [.bl b] => if b = st then .ok (.bl st) M1 else qGo st step ds M1
    | _ => .bad
def qRun (st : Bool) (pt : Pat) (ρ0 : Ro) (os : Out (List D)) (oi oe : Ro → Store → Out D) : Out D := os.bind fun xs M => if xs.length ≤ 50000 then noEx (qGo st (lcStep pt ρ0 oi oe) xs M) else .bad
/-- frozen sequences -/
def seqF : D → Option (List D)
  | .tup ds => some ds
  | .lst ds => some ds
  | .seq ds => some ds
  | _ => none
def rangeD (i j : Int) : List D := (List.range (j - i).toNat).map fun (t : Nat) => .int (i + (t : Int))
def okR (i : Int) : Bool := decide (-4611686018427387904 ≤ i) && decide (i < 4611686018427387904)
def enumD (ds : List D) : List D := (List.range ds.length).map fun (t : Nat) => .tup [.int (t : Int), ds.getD t .non]
def zipD : List D → List D → List D
  | x :: xs, y :: ys => .tup [x, y] :: zipD xs ys
  | _, _ => []
def enumO : D → Option (List D)
  | .lst ds => some (enumD ds)
  | .seq ds => some (enumD ds)
  | .tup ds => some (enumD ds)
  | _ => none
/-- both lists, or both tuples -/
def zipO : D → D → Option (List D)
  | .lst xs, .lst ys => some (zipD xs ys)
  | .lst xs, .seq ys => some (zipD xs ys)
  | .seq xs, .lst ys => some (zipD xs ys)
  | .seq xs, .seq ys => some (zipD xs ys)
  | .tup xs, .tup ys => some (zipD xs ys)
  | _, _ => none
def evBl (x : Out D) (k : Bool → Store → Out D) : Out D := x.bind fun d M => match d with
  | .bl b => k b M
  | _ => .bad
/-! ### objects -/
def lookF : List Nat → List D → Nat → Option D
  | m :: ns, d :: ds, n => if m = n then some d else lookF ns ds n
  | _, _, _ => none
def putFn (n : Nat) (d : D) : List Nat → List D → List Nat × List D
  | m :: ns, e :: ds => if m = n then (m :: ns, d :: ds) else ((m :: (putFn n d ns ds).1), (e :: (putFn n d ns ds).2))
  | _, _ => ([n], [d])
def objOf (M : Store) : D → Option (Nat × List Nat × List D)
  | .obj c ns ds => some (c, ns, ds)
  | .ref k => match M[k]? with
    | some (.ins c ns ds) => some (c, ns, ds)
    | _ => none
  | _ => none
abbrev FlT := Nat → Nat → Bool
def fldO (fl : FlT) (M : Store) (d : D) (n : Nat) : Option D := match objOf M d with
  | some (cl, ns, ds) => if fl cl n = true then lookF ns ds n else none
  | none => none
def mthO (mt : Nat → Nat → Option Nat) (M : Store) (d : D) (n : Nat) : Option Nat := match objOf M d with
  | some (cl, ns, _) => if n ∈ ns then none else mt cl n
  | none => none
def mkO (mu : Bool) (o : Out D) : Out D := match o with
  | .ok (.obj cl ns es) M => if mu = true then .ok (.ref M.length) (M ++ [.ins cl ns es]) else .ok (.obj cl ns es) M
  | .ex C M => .ex C M
  | _ => .bad
def slO (fl : FlT) (ρ : Ro) (i n : Nat) : Option D := match ρ[i]? with
  | some (.ob cl ns ds) => if fl cl n = true then lookF ns ds n else none
  | _ => none
def slPut (fl : FlT) (ρ : Ro) (i n : Nat) (d : D) : Option Ro := match ρ[i]? with
  | some (.ob cl ns ds) => if (fl cl n && decide (ns.length < 900)) = true then some (ρ.set i (.ob cl (putFn n d ns ds).1 (putFn n d ns ds).2)) else none
  | _ => none
def stPut (fl : FlT) (M : Store) (o : D) (n : Nat) (d : D) : Option Store := match o with
  | .ref k => match M[k]? with
    | some (.ins cl ns ds) => if (fl cl n && decide (ns.length < 900)) = true then some (M.set k (.ins cl (putFn n d ns ds).1 (putFn n d ns ds).2)) else none
    | _ => none
  | _ => none
/-- what stands around: the calls, the module's constants, the classes' methods and fields -/
structure Cn where
  Φ : CallF
  gl : Nat → Option D
  mt : Nat → Nat → Option Nat
  fl : FlT
  Λ : Nat → Ro → Store → Out D
  ct : Nat → Bool
  rt : List Nat
/-- a lambda called by told: its value, or the text -/
def toldO (c : Cn) (k : Nat) (ρ : Ro) (M : Store) : Out D := match c.Λ k (noLam ρ) M with
  | .ok d M => .ok d M
  | .ex C M => if c.ct C = true then .ok (.str c.rt) M else .bad
  | .bad => .bad
def getL (ρ : Ro) (i : Nat) : Option (List Nat) := match ρ[i]? with
  | some (.lam ks) => some ks
  | _ => none
/-- the places of those that told of something else than x -/
def badsGo (c : Cn) (ρ : Ro) (x : List Nat) : List Nat → Nat → Store → Out (List D)
  | [], _, M => .ok [] M
  | k :: ks, t, M => (toldO c k ρ M).bind fun d M => if D.sh 40 d = true then (badsGo c ρ x ks (t + 1) M).bind fun ys M => .ok (if D.eqv d (.str x) = true then ys else .int (t : Int) :: ys) M else .bad
def badsO (c : Cn) (ρ : Ro) (i : Nat) (x : List Nat) (M : Store) : Out D := match getL ρ i with
  | some ks => if (decide (ks.length ≤ 50000) && PyData.strOk (mkS x)) = true then (noEx (badsGo c ρ x ks 0 M)).bind fun ys M => .ok (.lst ys) M else .bad
  | none => .bad
def kMeth (c : Cn) (n : Nat) (args : Store → Out (List D)) (d : D) (M : Store) : Out D := match mthO c.mt M d n with
  | some f => (args M).bind fun ds M => c.Φ f (d :: ds) M
  | none => .bad
section
variable (c : Cn)
mutual
def evE : E → Ro → Store → Out D
  | .non, _, M => .ok .non M
  | .bl b, _, M => .ok (.bl b) M
  | .int i, _, M => .ok (.int i) M
  | .str x, _, M => .ok (.str x) M
  | .v i, ρ, M => optO (getS ρ i) M
  | .g k, _, M => optO (c.gl k) M
  | .neg a, ρ, M => (evE a ρ M).bind fun d M => match d with
    | .int i => .ok (.int (-i)) M
    | _ => .bad
  | .not a, ρ, M => (evE a ρ M).bind fun d M => match d with
    | .bl b => .ok (.bl (!b)) M
    | _ => .bad
  | .bin o a b, ρ, M => (evE a ρ M).bind fun x M => (evE b ρ M).bind fun y M => optO (binO M o x y) M
  | .cmp o a b, ρ, M => (evE a ρ M).bind fun x M => (evE b ρ M).bind fun y M => optO (cmpO M o x y) M
  | .chain o p a b d, ρ, M => (evE a ρ M).bind fun x M => (evE b ρ M).bind fun y M => (optO (cmpO M o x y) M).bind fun t M => match t with
    | .bl true => (evE d ρ M).bind fun z M => optO (cmpO M p y z) M
    | .bl false => .ok (.bl false) M
    | _ => .bad
  | .and es, ρ, M => evAnd es ρ M
  | .or es, ρ, M => evOr es ρ M
  | .ite t a b, ρ, M => (evE t ρ M).bind fun d M => match d with
    | .bl true => evE a ρ M
    | .bl false => evE b ρ M
    | _ => .bad
  | .tup es, ρ, M => (evEs es ρ M).bind fun ds M => if ds.length ≤ 100000 then .ok (.tup ds) M else .bad
  | .lst es, ρ, M => (evEs es ρ M).bind fun ds M => if ds.length ≤ 100000 then .ok (.lst ds) M else .bad
  | .ix a b, ρ, M => (evE a ρ M).bind fun x M => (evE b ρ M).bind fun y M => optO (PI.ixO M x y) M
  | .sl a lo hi, ρ, M => (evE a ρ M).bind fun x M => (evEo lo ρ M).bind fun l M => (evEo hi ρ M).bind fun h M => match x with
    | .lst ds => .ok (.lst (cutD ds l h)) M
    | .seq ds => .ok (.lst (cutD ds l h)) M
    | _ => .bad
  | .call f es, ρ, M => (evEs es ρ M).bind fun ds M => c.Φ f ds M
  | .bi b es, ρ, M => (evEs es ρ M).bind fun ds M => optO (biO M b ds) M
  | .lc own pt it elt ifs, ρ, M => (lcRun pt (wipeR (noLam ρ) own) (evI it ρ M) (fun ρ M => evIf ifs ρ M) (fun ρ M => evE elt ρ M)).bind fun ys M => .ok (.lst ys) M
  | .tupG src pt it elt ifs, ρ, M => (lcRun pt (wipeR (roG src ρ) pt.js) (evI it ρ M) (fun ρ M => evIf ifs ρ M) (fun ρ M => evE elt ρ M)).bind fun ys M => .ok (.tup ys) M
  | .lenO i, ρ, M => match getO ρ i with
    | some ds => .ok (.int ds.length) M
    | none => .bad
  | .ixO i e, ρ, M => match getO ρ i with
    | some ds => (evE e ρ M).bind fun d M => match d with
      | .int k => optO (atD ds k) M
      | _ => .bad
    | none => .bad
  | .attr a n, ρ, M => (evE a ρ M).bind fun d M => optO (fldO c.fl M d n) M
  | .attrO i n, ρ, M => optO (slO c.fl ρ i n) M
  | .meth a n es, ρ, M => (evE a ρ M).bind (kMeth c n fun M => evEs es ρ M)
  | .make mu f es, ρ, M => (evEs es ρ M).bind fun ds M => mkO mu (c.Φ f ds M)
  | .mlst es, ρ, M => (evEs es ρ M).bind fun ds M => if ds.length ≤ 100000 then .ok (.ref M.length) (M ++ [.lst ds]) else .bad
  | .qG st src pt it elt ifs, ρ, M => qRun st pt (wipeR (roG src ρ) pt.js) (evI it ρ M) (fun ρ M => evIf ifs ρ M) (fun ρ M => evE elt ρ M)
  | .told k, ρ, M => toldO c k ρ M
  | .bads i _ _ x, ρ, M => badsO c ρ i x M
def evEs : Es → Ro → Store → Out (List D)
  | .nil, _, M => .ok [] M
  | .cons e es, ρ, M => (evE e ρ M).bind fun d M => (evEs es ρ M).bind fun ds M => .ok (d :: ds) M
def evAnd : Es → Ro → Store → Out D
  | .nil, _, _ => .bad
  | .cons e .nil, ρ, M => evE e ρ M
  | .cons e es, ρ, M => (evE e ρ M).bind fun d M => match d with
    | .bl true => evAnd es ρ M
    | .bl false => .ok (.bl false) M
    | _ => .bad
def evOr : Es → Ro → Store → Out D
  | .nil, _, _ => .bad
  | .cons e .nil, ρ, M => evE e ρ M
  | .cons e es, ρ, M => (evE e ρ M).bind fun d M => match d with
    | .bl false => evOr es ρ M
    | .bl true => .ok (.bl true) M
    | _ => .bad
def evEo : Eo → Ro → Store → Out (Option Int)
  | .no, _, M => .ok none M
  | .so e, ρ, M => (evE e ρ M).bind fun d M => match d with
    | .int i => .ok (some i) M
    | _ => .bad
def evIf : Eo → Ro → Store → Out D
  | .no, _, M => .ok (.bl true) M
  | .so e, ρ, M => evE e ρ M
def evI : I → Ro → Store → Out (List D)
  | .seq e, ρ, M => (evE e ρ M).bind fun x M => optO (seqF x) M
  | .range1 a, ρ, M => (evE a ρ M).bind fun x M => match x with
    | .int n => if okR n = true then .ok (rangeD 0 n) M else .bad
    | _ => .bad
  | .range2 a b, ρ, M => (evE a ρ M).bind fun x M => (evE b ρ M).bind fun y M => match x, y with
    | .int i, .int j => if (okR i && okR j) = true then .ok (rangeD i j) M else .bad
    | _, _ => .bad
  | .enum e, ρ, M => (evE e ρ M).bind fun x M => optO (enumO x) M
  | .zip a b, ρ, M => (evE a ρ M).bind fun x M => (evE b ρ M).bind fun y M => optO (zipO x y) M
end
def ifK (x y : Store → SO) (d : D) (M : Store) : SO := match d with
  | .bl true => x M
  | .bl false => y M
  | _ => .bad
def whGo (test : Ro → Store → Out D) (body : Ro → Store → SO) : Nat → Ro → Store → SO
  | 0, _, _ => .bad
  | k + 1, ρ, M => (test ρ M).st ρ (ifK (fun M => (body ρ M).turn fun ρ M => whGo test body k ρ M) (fun M => .nx ρ M))
def frGo (pt : Pat) (body : Ro → Store → SO) : List D → Ro → Store → SO
  | [], ρ, M => .nx ρ M
  | d :: ds, ρ, M => match asg pt ρ d with
    | none => .bad
    | some ρ => (body ρ M).turn fun ρ M => frGo pt body ds ρ M
def augI : BOp → Int → Int → Option Int
  | .add, i, j => some (i + j)
  | .sub, i, j => some (i - j)
  | .mul, i, j => if mulB i j = true then some (i * j) else none
  | .div, i, j => if divB j = true then some (i.fdiv j) else none
  | _, _, _ => none
def getI (ρ : Ro) (i : Nat) : Option Int := match ρ[i]? with
  | some (.v (.int k)) => some k
  | _ => none
def augK (ρ : Ro) (i : Nat) (o : BOp) (k : Int) (d : D) (M : Store) : SO := match d with
  | .int j => match augI o k j with
    | some z => .nx (ρ.set i (.v (.int z))) M
    | none => .bad
  | _ => .bad
def ixN' (n : Nat) (i : Int) : Option Nat := L2.ixN n i
mutual
def evS : S → Ro → Store → SO
  | .set i e, ρ, M => (evE c e ρ M).st ρ fun d M => .nx (ρ.set i (.v d)) M
  | .unL js e, ρ, M => (evE c e ρ M).st ρ fun d M => match d with
    | .lst ds => if ds.length = js.length then .nx (setAll ρ js ds) M else .bad
    | _ => .bad
  | .setO i e, ρ, M => (evE c e ρ M).st ρ fun d M => match d with
    | .lst ds => .nx (ρ.set i (.own ds)) M
    | _ => .bad
  | .un pt e, ρ, M => (evE c e ρ M).st ρ fun d M => match asg pt ρ d with
    | some ρ' => .nx ρ' M
    | none => .bad
  | .par i j a b, ρ, M => (evE c a ρ M).st ρ fun x M => (evE c b ρ M).st ρ fun y M => .nx ((ρ.set i (.v x)).set j (.v y)) M
  | .par3 i j k a b e, ρ, M => (evE c a ρ M).st ρ fun x M => (evE c b ρ M).st ρ fun y M => (evE c e ρ M).st ρ fun z M => .nx (((ρ.set i (.v x)).set j (.v y)).set k (.v z)) M
  | .put a b e, ρ, M => (evE c e ρ M).st ρ fun d M => (evE c a ρ M).st ρ fun o M => (evE c b ρ M).st ρ fun i M => match o, i with
    | .ref p, .int k => match M[p]? with
      | some (.lst ds) => match ixN' ds.length k with
        | some n => .nx ρ (M.set p (.lst (ds.set n d)))
        | none => .bad
      | _ => .bad
    | _, _ => .bad
  | .aug i o e, ρ, M => match getI ρ i with
    | some k => (evE c e ρ M).st ρ (augK ρ i o k)
    | none => .bad
  | .appO i e, ρ, M => match getO ρ i with
    | some ds => (evE c e ρ M).st ρ fun d M => if ds.length < 100000 then .nx (ρ.set i (.own (ds ++ [d]))) M else .bad
    | none => .bad
  | .putO i b e, ρ, M => match getO ρ i with
    | some ds => (evE c e ρ M).st ρ fun d M => (evE c b ρ M).st ρ fun k M => match k with
      | .int k => match ixN' ds.length k with
        | some n => .nx (ρ.set i (.own (ds.set n d))) M
        | none => .bad
      | _ => .bad
    | none => .bad
  | .expr e, ρ, M => (evE c e ρ M).st ρ fun _ M => .nx ρ M
  | .ret e, ρ, M => (evE c e ρ M).st ρ fun d M => .rt d M
  | .retN, ρ, M => .rt .non M
  | .ife t a b, ρ, M => (evE c t ρ M).st ρ (ifK (fun M => evSs a ρ M) (fun M => evSs b ρ M))
  | .wh k t b, ρ, M => whGo (fun ρ M => evE c t ρ M) (fun ρ M => evSs b ρ M) k ρ M
  | .fr pt it b, ρ, M => (evI c it ρ M).st ρ fun xs M => frGo pt (fun ρ M => evSs b ρ M) xs ρ M
  | .raise C, ρ, M => .ex C ρ M
  | .pass, ρ, M => .nx ρ M
  | .doc, ρ, M => .nx ρ M
  | .brk, ρ, M => .bk ρ M
  | .cont, ρ, M => .ct ρ M
  | .frz i, ρ, M => match getO ρ i with
    | some ds => .nx (ρ.set i (.v (.lst ds))) M
    | none => .bad
  | .attrOw i n e, ρ, M => (evE c e ρ M).st ρ fun d M => match slPut c.fl ρ i n d with
    | some ρ' => .nx ρ' M
    | none => .bad
  | .attrS a n e, ρ, M => (evE c e ρ M).st ρ fun d M => (evE c a ρ M).st ρ fun o M => match stPut c.fl M o n d with
    | some M' => .nx ρ M'
    | none => .bad
  | .lamSet i ks, ρ, M => if ks.length ≤ 100000 then .nx (ρ.set i (.lam ks)) M else .bad
  | .lamAdd i ks, ρ, M => match getL ρ i with
    | some js => if js.length + ks.length ≤ 100000 then .nx (ρ.set i (.lam (js ++ ks))) M else .bad
    | none => .bad
def evSs : Ss → Ro → Store → SO
  | .nil, ρ, M => .nx ρ M
  | .cons s ss, ρ, M => (evS s ρ M).seq fun ρ M => evSs ss ρ M
end
end
/-- a def of the text -/
structure Fd where
  np : Nat
  N : Nat
  cost : Nat
  body : Ss
  ini : Option Nat := none
def SO.out (x : SO) : Out D := match x with
  | .nx _ M => .ok .non M
  | .rt d M => .ok d M
  | .ex C _ M => .ex C M
  | _ => .bad
theorem SO.out_nx {ρ : Ro} {M : Store} : (SO.nx ρ M).out = .ok .non M := rfl
theorem SO.out_rt {d : D} {M : Store} : (SO.rt d M).out = .ok d M := rfl
theorem SO.out_ex {C : Nat} {ρ : Ro} {M : Store} : (SO.ex C ρ M).out = .ex C M := rfl
/-- a text: its defs, its constants -/
structure Px where
  fs : Nat → Option Fd
  gl : Nat → Option D
  mt : Nat → Nat → Option Nat := fun _ _ => none
  fl : FlT := fun _ _ => false
  lm : Nat → Option E := fun _ => none
  ct : Nat → Bool := fun _ => false
  rt : List Nat := []
/-- an object's making: the object -/
def SO.outI (x : SO) : Out D := match x with
  | .nx ρ M => match (ρ[(0 : Nat)]? : Option Slot) with
    | some (.ob cl ns ds) => .ok (.obj cl ns ds) M
    | _ => .bad
  | .ex C _ M => .ex C M
  | _ => .bad
def startI (fd : Fd) (cl : Nat) (ds : List D) : Ro := (.ob cl [] []) :: (ds.map Slot.v ++ List.replicate (fd.N - 1 - ds.length) .un)
def start (fd : Fd) (ds : List D) : Ro := ds.map Slot.v ++ List.replicate (fd.N - ds.length) .un
/-- a lambda's body, run -/
def Px.lamF (p : Px) (Φ : CallF) (k : Nat) (ρ : Ro) (M : Store) : Out D := match p.lm k with
  | some e => evE ⟨Φ, p.gl, p.mt, p.fl, fun _ _ _ => .bad, p.ct, p.rt⟩ e ρ M
  | none => .bad
def Px.cn (p : Px) (n k : Nat) (Φs : Nat → CallF) : Cn := ⟨Φs k, p.gl, p.mt, p.fl, fun j ρ M => if k + 2 ≤ n then p.lamF (Φs (k + 2)) j ρ M else .bad, p.ct, p.rt⟩
def body1 (p : Px) (n : Nat) (Φs : Nat → CallF) (f : Nat) (ds : List D) (M : Store) : Out D := match p.fs f with
  | some fd => if ds.length = fd.np ∧ fd.cost ≤ n then (match fd.ini with
    | none => (evSs (p.cn n fd.cost Φs) fd.body (start fd ds) M).out
    | some cl => (evSs (p.cn n fd.cost Φs) fd.body (startI fd cl ds) M).outI) else .bad
  | none => .bad
/-- the calls at n levels, k of them spent -/
def runs (p : Px) : Nat → Nat → CallF
  | 0, _ => fun _ _ _ => .bad
  | n + 1, 0 => body1 p n (runs p n)
  | n + 1, k + 1 => runs p n k
abbrev run (p : Px) (n : Nat) : CallF := runs p n 0
end PI
set_option Elab.async false
set_option linter.all false
set_option maxRecDepth 100000
set_option maxHeartbeats 4000000
/-! PC: the rules of expressions. -/
namespace PI
open PySem L2
abbrev Res (o : Out D) : D → Store → Prop := fun d M => o = .ok d M
abbrev ResX {α : Type} (o : Out α) : Nat → Store → Prop := fun C M => o = .ex C M
/-- what the run tells, the code does -/
def EvO (L : Lx) (ρ : Ro) (M : Store) (e : Expr) (o : Out D) : Prop := o ≠ .bad → Ev L ρ M e (Res o) (ResX o)
def EvAO (L : Lx) (ρ : Ro) (M : Store) (es : List Expr) (o : Out (List D)) : Prop := o ≠ .bad → EvA L ρ M es (fun ds M' => o = .ok ds M') (ResX o)
/-- .. a test, where it comes to a bool -/
def IsB (o : Out D) : Prop := o ≠ .bad ∧ ∀ d M, o = .ok d M → ∃ b, d = .bl b
def EvTO (L : Lx) (ρ : Ro) (M : Store) (e : Expr) (o : Out D) : Prop := IsB o → EvT L ρ M e (fun b M' => o = .ok (.bl b) M') (ResX o)
def EvWO (L : Lx) (ρ : Ro) (M : Store) (e : Expr) (o : Out D) : Prop := IsB o → EvW L ρ M e (fun b M' => o = .ok (.bl b) M') (ResX o)
theorem Out.nb {α β : Type} {o : Out α} {k : α → Store → Out β} (n : o.bind k ≠ .bad) : o ≠ .bad := fun z => n (by rw [z]; rfl)
section
variable {L : Lx} {ρ : Ro} {M : Store} {Q : D → Store → Prop} {E : Nat → Store → Prop} {a b c e : Expr} {pos : Pos} {oa : Out D}
theorem EvO.step {β : Type} {k : D → Store → Out β} (h : EvO L ρ M e oa) (n : oa.bind k ≠ .bad) : Ev L ρ M e (fun x M1 => oa = .ok x M1 ∧ k x M1 ≠ .bad ∧ oa.bind k = k x M1) (fun C M1 => oa.bind k = .ex C M1) :=
  (h (Out.nb n)).mono (fun x M1 q => ⟨q, by rw [q] at n; exact n, by rw [q]; rfl⟩) fun C M1 q => by rw [q]; rfl
theorem EvAO.step {β : Type} {oa : Out (List D)} {es : List Expr} {k : List D → Store → Out β} (h : EvAO L ρ M es oa) (n : oa.bind k ≠ .bad) : EvA L ρ M es (fun x M1 => oa = .ok x M1 ∧ k x M1 ≠ .bad ∧ oa.bind k = k x M1) (fun C M1 => oa.bind k = .ex C M1) :=
  (h (Out.nb n)).mono (fun x M1 q => ⟨q, by rw [q] at n; exact n, by rw [q]; rfl⟩) fun C M1 q => by rw [q]; rfl
theorem optO_nb {α : Type} {o : Option α} {M : Store} (n : optO o M ≠ .bad) : ∃ a, o = some a ∧ optO o M = .ok a M := by
  cases o with
  | none => exact absurd rfl n
  | some a => exact ⟨a, rfl, rfl⟩

/-! ### names, constants -/
theorem CI.kind {X : Cx} (ci : CI L X) (x : Str) : X.env.kindOf x = L.sc.names.lookup x := by
  show X.env.scope.names.lookup x = _
  rw [ci.sc]
theorem CI.gl {X : Cx} (ci : CI L X) {x : Str} (h : L.sc.names.lookup x = some .globalImplicit) : Gl X x := by
  show X.env.kindOf x = _
  rw [ci.kind]; exact h
theorem CI.vis {X : Cx} (ci : CI L X) {x : Str} (h : Vis L.sc x) : Vis X.env.scope x := by rw [ci.sc]; exact h
theorem ev_var {i : Nat} {x : Str} {d : D} (hd : ρ[i]? = some (.v d)) (hN : L.N[i]? = some x) (hv : Vis L.sc x) (q : Q d M)
    (hx : (x == ("__debug__" : Str)) = false) (hcd : (x == ("__classdict__" : Str)) = false) : Ev L ρ M (.Name x pos) Q E := fun X ci B σ G H R f s k _ => by
  obtain ⟨v, hs, r⟩ := f.get hd
  exact wp_of (pe_var (X := X) (i := i) (by rw [ci.N]; exact hN) (ci.vis hv) hx hcd) ⟨v, hs, k v d G M H (.refl ..) s r q⟩
theorem ev_int {i : Int} {j : Nat} (q : Q (.int i) M) : Ev L ρ M (.Constant (.int i) j pos) Q E := fun X ci B σ G H R f s k _ => wp_of pe_int (k _ _ G M H (.refl ..) s rep_int q)
theorem ev_bl {i : Bool} {j : Nat} (q : Q (.bl i) M) : Ev L ρ M (.Constant (.bool i) j pos) Q E := fun X ci B σ G H R f s k _ => wp_of pe_bl (k _ _ G M H (.refl ..) s rep_bl q)
theorem ev_non {j : Nat} (q : Q .non M) : Ev L ρ M (.Constant .none j pos) Q E := fun X ci B σ G H R f s k _ => wp_of pe_non (k _ _ G M H (.refl ..) s rep_non q)
theorem ev_str {i : List Nat} {j : Nat} (q : Q (.str i) M) : Ev L ρ M (.Constant (.str (mkS i)) j pos) Q E := fun X ci B σ G H R f s k _ => wp_of pe_str (k _ _ G M H (.refl ..) s rep_str q)
/-- what stands in the written part: a constant of the module -/
structure KRep (g : Gx) (x : Str) (d : D) : Prop where
  ex : ∃ u v, g.mg x = some u ∧ RelV v u ∧ ∀ G, Rep g G d v
theorem ev_glob {x : Str} {d : D} (h : KRep L.g x d) (hg : L.sc.names.lookup x = some .globalImplicit) (q : Q d M) (hx : (x == ("__debug__" : Str)) = false) : Ev L ρ M (.Name x pos) Q E := fun X ci B σ G H R f s k _ => by
  obtain ⟨u, v, h1, h2, h3⟩ := h.ex
  exact wp_of (pe_glob (ci.gl hg) (by rw [ci.mg]; exact h1) h2 hx) (k v d G M H (.refl ..) s (h3 G) q)

/-! ### two operands -/
/-- what an operation on values asks -/
def O2 (L : Lx) (r : Cx → R2) (x y : D) (M : Store) (Q : D → Store → Prop) : Prop :=
  ∀ X, CI L X → ∀ G H v u (R : VK), Sta L.g G H M → Rep L.g G x v → Rep L.g G y u → KD L.g G H Q R → r X v u H R
theorem ev_op {op : Operator} {r : Cx → R2} (ho : ∀ X, CI L X → OpR X (binaryOp op) (r X)) (ha : Ev L ρ M a (fun x M1 => Ev L ρ M1 b (fun y M2 => O2 L r x y M2 Q) E) E) : Ev L ρ M (.BinOp a op b pos) Q E := fun X ci B σ G H R f s k x =>
  wp_of (pe_op (ho X ci) pe_wp pe_wp) (ha X ci B σ G H _ f s (fun v d G1 M1 H1 m1 s1 r1 q1 =>
    q1 X ci B σ G1 H1 _ (f.move m1) s1 (fun u e G2 M2 H2 m2 s2 r2 q2 => q2 X ci G2 H2 v u R s2 (r1.mono m2.g) r2 ((k.move s1 m1).move s2 m2)) (x.move s1 m1)) x)
theorem ev_cmp {op : CmpOp} {r : Cx → R2} (ho : ∀ X, CI L X → OpR X (compareOp op) (r X)) (hm : behindInMarks op b = false) (ha : Ev L ρ M a (fun x M1 => Ev L ρ M1 b (fun y M2 => O2 L r x y M2 Q) E) E) : Ev L ρ M (.Compare a [op] [b] pos) Q E := fun X ci B σ G H R f s k x =>
  wp_of (pe_cmpR (ho X ci) pe_wp pe_wp hm) (ha X ci B σ G H _ f s (fun v d G1 M1 H1 m1 s1 r1 q1 =>
    q1 X ci B σ G1 H1 _ (f.move m1) s1 (fun u e G2 M2 H2 m2 s2 r2 q2 => q2 X ci G2 H2 v u R s2 (r1.mono m2.g) r2 ((k.move s1 m1).move s2 m2)) (x.move s1 m1)) x)
/-- a comparison's answer is a bool -/
def O2b (L : Lx) (r : Cx → R2) (x y : D) (M : Store) (Q : Bool → Store → Prop) : Prop := O2 L r x y M fun d M' => ∃ c, d = .bl c ∧ Q c M'
theorem et_cmp {op : CmpOp} {r : Cx → R2} {Q : Bool → Store → Prop} (ho : ∀ X, CI L X → OpR X (compareOp op) (r X)) (hm : behindInMarks op b = false) (ha : Ev L ρ M a (fun x M1 => Ev L ρ M1 b (fun y M2 => O2b L r x y M2 Q) E) E) : EvT L ρ M (.Compare a [op] [b] pos) Q E := fun X ci B σ G H R f s k x =>
  wpT_of (pt_cmpR (ho X ci) pe_wp pe_wp hm) (ha X ci B σ G H _ f s (fun v d G1 M1 H1 m1 s1 r1 q1 =>
    q1 X ci B σ G1 H1 _ (f.move m1) s1 (fun u e G2 M2 H2 m2 s2 r2 q2 => q2 X ci G2 H2 v u _ s2 (r1.mono m2.g) r2 (fun w d G' M' H' m' s' r' ⟨c, ec, qc⟩ => by
      subst ec
      obtain rfl : w = .bl c := r'
      exact ⟨c, rfl, ((k.move s1 m1).move s2 m2) c G' M' H' m' s' qc⟩)) (x.move s1 m1)) x)
theorem O2.or1 {r r' : Cx → R2} {x y : D} (h : O2 L r x y M Q) : O2 L (fun X v u H R => r X v u H R ∨ r' X v u H R) x y M Q := fun X ci G H v u R s r1 r2 k => .inl (h X ci G H v u R s r1 r2 k)
theorem O2.or2 {r r' : Cx → R2} {x y : D} (h : O2 L r' x y M Q) : O2 L (fun X v u H R => r X v u H R ∨ r' X v u H R) x y M Q := fun X ci G H v u R s r1 r2 k => .inr (h X ci G H v u R s r1 r2 k)
theorem O2.mono {r : Cx → R2} {x y : D} {Q' : D → Store → Prop} (h : O2 L r x y M Q) (hq : ∀ d M', Q d M' → Q' d M') : O2 L r x y M Q' := fun X ci G H v u R s r1 r2 k => h X ci G H v u R s r1 r2 fun v d G' M' H' m s r q => k v d G' M' H' m s r (hq _ _ q)
theorem o2_flat {r : Cx → R2} {x y z : D} {vz : V} (hf : ∀ G, Rep L.g G z vz) (h : ∀ X, CI L X → ∀ G H v u (R : VK), Sta L.g G H M → Rep L.g G x v → Rep L.g G y u → R vz H → r X v u H R) (q : Q z M) : O2 L r x y M Q := fun X ci G H v u R s r1 r2 k =>
  h X ci G H v u R s r1 r2 (k _ _ G M H (.refl ..) s (hf G) q)

/-! ### the operations -/
def pyB : BOp → Operator
  | .add => .Add | .sub => .Sub | .mul => .Mult | .div => .FloorDiv | .mod => .Mod | .pow => .Pow
def rBin : BOp → Cx → R2
  | .add, X => fun v u H R => rI0 (fun i j => .int (i + j)) v u H R ∨ (rCat v u H R ∨ ((∃ i j, v = .str i ∧ u = .str j ∧ i.length + j.length ≤ sizeLine ∧ R (.str (i ++ j)) H) ∨ rCatT X.K v u H R))
  | .sub, X => fun v u H R => rI0 (fun i j => .int (i - j)) v u H R ∨ (∃ i j, v = .bl i ∧ u = .bl j ∧ R (.int (bI i - bI j)) H)
  | .mul, X => fun v u H R => rI IntMulOk (fun i j => .int (i * j)) v u H R ∨ (rRep v u H R ∨ rRepT X.K v u H R)
  | .div, X => rI (fun _ j => divB j = true) fun i j => .int (i.fdiv j)
  | .mod, X => rI (fun _ j => j ≠ 0) fun i j => .int (i.fmod j)
  | .pow, X => rI CPow fun i j => .int (i ^ j.toNat)
theorem op_fdivD {X : Cx} : OpR X (binaryOp .FloorDiv) (rI (fun _ j => divB j = true) fun i j => .int (i.fdiv j)) := opI fun i j _ _ _ _ _ hc q => by
  unfold divB at hc
  simp only [Bool.and_eq_true, Bool.or_eq_true, decide_eq_true_eq] at hc
  rcases hc.2 with h | ⟨h1, h2⟩
  · exact PyProof.Rows.floordiv_int hc.1 q (.inl (PyProof.noPylong_small h))
  · exact PyProof.Rows.floordiv_int hc.1 q (.inl (PyProof.noPylong_of_log2 h2))
theorem op_subB {X : Cx} : OpR X (binaryOp .Sub) (fun x y H Q => ∃ i j, x = .bl i ∧ y = .bl j ∧ Q (.int (bI i - bI j)) H) := by
  intro pins s σ H x y v u Q I rx ry h
  obtain ⟨i, k, rfl, rfl, q⟩ := h
  cases rx; cases ry
  exact PyProof.Rows.sub_bool ⟨.int _, H, I.tok _, ⟨_, by cases i <;> cases k <;> rfl⟩, q⟩
theorem op_mulY {X : Cx} : OpR X (binaryOp .Mult) (rI IntMulOk fun i j => .int (i * j)) := opI fun _ _ _ _ _ _ _ hc q => PyProof.Rows.mul_int q hc
theorem opBin (o : BOp) (X : Cx) : OpR X (binaryOp (pyB o)) (rBin o X) := by
  cases o with
  | add => exact op_add.or (op_cat.or (op_add_str.or op_catT))
  | sub => exact op_sub.or op_subB
  | mul => exact op_mulY.or (op_rep.or op_repT)
  | div => exact op_fdivD
  | mod => exact op_modN
  | pow => exact op_pow
theorem mulOk_of {i j : Int} (h : mulB i j = true) : IntMulOk i j := by
  unfold mulB at h
  have h := of_decide_eq_true h
  have b : ∀ x : Int, Builtin.Int.intBits x ≤ x.natAbs.log2 + 1 := fun x => by
    unfold Builtin.Int.intBits
    split <;> omega
  exact IntMulOk.of_le (b i) (b j) (by omega)
theorem grd_some {b : Bool} {d z : D} (h : grd b d = some z) : b = true ∧ z = d := by
  unfold grd at h
  split at h
  · rename_i hb; cases h; exact ⟨hb, rfl⟩
  · cases h
theorem sz_of {n : Nat} (h : n ≤ 100000) : n ≤ sizeLine := Nat.le_trans h (by decide)
theorem mkS_len (x : List Nat) : (mkS x).length = x.length := by
  show x.toArray.size = _
  simp
theorem mkS_app (x y : List Nat) : mkS x ++ mkS y = mkS (x ++ y) := by
  show (⟨x.toArray ++ y.toArray⟩ : Str) = ⟨(x ++ y).toArray⟩
  simp
theorem Reps.rep {g : Gx} {G : Gh} {ds : List D} {vs : List V} (h : Reps g G ds vs) : ∀ n : Nat, Reps g G (List.replicate n ds).flatten (List.replicate n vs).flatten
  | 0 => Reps.nil
  | n + 1 => by
    rw [List.replicate_succ, List.replicate_succ, List.flatten_cons, List.flatten_cons]
    exact h.append (Reps.rep h n)
theorem o2_bin {o : BOp} {x y z : D} (h : binO M o x y = some z) (q : Q z M) : O2 L (rBin o) x y M Q := by
  unfold binO at h
  split at h
  · cases h
    exact O2.or1 (r := fun _ => rI0 fun i j => .int (i + j)) (o2_flat (fun _ => rep_int) (fun X ci G H v u R s r1 r2 k => ⟨_, _, r1, r2, k⟩) q)
  · cases h
    exact O2.or1 (r := fun _ => rI0 fun i j => .int (i - j)) (o2_flat (fun _ => rep_int) (fun X ci G H v u R s r1 r2 k => ⟨_, _, r1, r2, k⟩) q)
  · obtain ⟨hb, rfl⟩ := grd_some h
    exact O2.or1 (r := fun _ => rI IntMulOk fun i j => .int (i * j)) (o2_flat (fun _ => rep_int) (fun X ci G H v u R s r1 r2 k => ⟨_, _, r1, r2, mulOk_of hb, k⟩) q)
  · obtain ⟨hb, rfl⟩ := grd_some h
    exact o2_flat (fun _ => rep_int) (fun X ci G H v u R s r1 r2 k => ⟨_, _, r1, r2, hb, k⟩) q
  · obtain ⟨hb, rfl⟩ := grd_some h
    exact o2_flat (fun _ => rep_int) (fun X ci G H v u R s r1 r2 k => ⟨_, _, r1, r2, of_decide_eq_true hb, k⟩) q
  · obtain ⟨hb, rfl⟩ := grd_some h
    unfold powB at hb
    simp only [Bool.and_eq_true, decide_eq_true_eq] at hb
    exact o2_flat (fun _ => rep_int) (fun X ci G H v u R s r1 r2 k => ⟨_, _, r1, r2, ⟨hb.1.1, hb.1.2, by have := hb.2; omega⟩, k⟩) q
  · cases h
    exact O2.or2 (r' := fun _ => fun x y H Q => ∃ i j, x = .bl i ∧ y = .bl j ∧ Q (.int (bI i - bI j)) H) (o2_flat (fun _ => rep_int) (fun X ci G H v u R s r1 r2 k => ⟨_, _, r1, r2, k⟩) q)
  · obtain ⟨hb, rfl⟩ := grd_some h
    have hz := of_decide_eq_true hb
    refine fun X ci G H v u R s r1 r2 k => .inr (.inl ?_)
    obtain ⟨a, vs, rfl, h1, q1⟩ := r1
    obtain ⟨b, us, rfl, h2, q2⟩ := r2
    refine ⟨a, b, vs, us, rfl, rfl, s.ex _ _ h1, s.ex _ _ h2, sz_of (by rw [q1.length, q2.length]; exact hz), fun p np => ?_⟩
    obtain ⟨s', m'⟩ := s.newG (o := .lst (vs ++ us)) np (fun ps z => by cases z)
    exact k _ (.lst (_ ++ _)) _ M _ m' s' ⟨p, vs ++ us, rfl, upd_same, (q1.append q2).mono m'.g⟩ q
  · obtain ⟨hb, rfl⟩ := grd_some h
    have hz := of_decide_eq_true hb
    rename_i x y
    refine fun X ci G H v u R s r1 r2 k => .inr (.inr (.inl ⟨mkS x, mkS y, r1, r2, ?_, ?_⟩))
    · rw [mkS_len, mkS_len]; exact sz_of hz
    · rw [mkS_app]; exact k _ (.str (x ++ y)) G M H (.refl ..) s rep_str q
  · obtain ⟨hb, rfl⟩ := grd_some h
    simp only [Bool.and_eq_true, decide_eq_true_eq] at hb
    rename_i xs ys
    refine fun X ci G H v u R s r1 r2 k => .inr (.inr (.inr ?_))
    have r1' := r1
    obtain ⟨a, vs, rfl, h1, q1⟩ := r1
    obtain ⟨b, us, rfl, h2, q2⟩ := r2
    have hl := q1.length
    have hl2 := q2.length
    refine ⟨a, b, vs, us, rfl, rfl, by rw [ci.K]; exact ex_t s.ex h1, by rw [ci.K]; exact ex_t s.ex h2, fun z => by rw [z] at hl; simp at hl; omega, sz_of (by omega), fun e => ?_, fun _ p np => ?_⟩
    · have : ys = [] := by rw [e] at hl2; exact List.length_eq_zero_iff.mp hl2.symm
      subst this
      rw [List.append_nil] at q
      exact k _ (.tup xs) G M H (.refl ..) s r1' q
    obtain ⟨s', m'⟩ := s.newG (o := .tup (vs ++ us)) np (fun ps z => by cases z)
    exact k _ (.tup (_ ++ _)) _ M _ m' s' ⟨p, vs ++ us, rfl, SqT.of upd_same, (q1.append q2).mono m'.g⟩ q
  · obtain ⟨hb, rfl⟩ := grd_some h
    simp only [Bool.and_eq_true, decide_eq_true_eq] at hb
    rename_i xs kk
    refine fun X ci G H v u R s r1 r2 k => .inr (.inl ?_)
    obtain ⟨a, vs, rfl, h1, q1⟩ := r1
    have r2 : u = .int kk := r2
    subst r2
    have hl := q1.length
    refine ⟨a, kk, vs, rfl, rfl, s.ex _ _ h1, by omega, by omega, ?_, fun p np => ?_⟩
    · have : vs.length * kk.toNat ≤ 100 * 1000 := Nat.mul_le_mul (by omega) (by omega)
      exact sz_of this
    · obtain ⟨s', m'⟩ := s.newG (o := .lst (List.replicate kk.toNat vs).flatten) np (fun ps z => by cases z)
      exact k _ (.lst _) _ M _ m' s' ⟨p, _, rfl, upd_same, (q1.rep kk.toNat).mono m'.g⟩ q
  · obtain ⟨hb, rfl⟩ := grd_some h
    simp only [Bool.and_eq_true, decide_eq_true_eq] at hb
    rename_i xs kk
    refine fun X ci G H v u R s r1 r2 k => .inr (.inr ?_)
    obtain ⟨a, vs, rfl, h1, q1⟩ := r1
    have r2 : u = .int kk := r2
    subst r2
    have hl := q1.length
    refine ⟨a, kk, vs, rfl, rfl, by rw [ci.K]; exact ex_t s.ex h1, fun z => by rw [z] at hl; simp at hl; omega, by omega, by omega, by omega, fun p np => ?_⟩
    obtain ⟨s', m'⟩ := s.newG (o := .tup (List.replicate kk.toNat vs).flatten) np (fun ps z => by cases z)
    exact k _ (.tup _) _ M _ m' s' ⟨p, _, rfl, SqT.of upd_same, (q1.rep kk.toNat).mono m'.g⟩ q
  · cases h
theorem snd_bin {o : BOp} {ob : D → Store → Out D} (ha : EvO L ρ M a oa) (hb : ∀ x M1, oa = .ok x M1 → EvO L ρ M1 b (ob x M1)) : EvO L ρ M (.BinOp a (pyB o) b pos) (oa.bind fun x M1 => (ob x M1).bind fun y M2 => optO (binO M2 o x y) M2) := fun n =>
  ev_op (r := rBin o) (fun X _ => opBin o X) ((ha.step n).mono (fun x M1 ⟨e0, n1, e1⟩ => ((hb x M1 e0).step n1).mono (fun y M2 ⟨_, n2, e2⟩ => by
    obtain ⟨z, hz, ez⟩ := optO_nb n2
    exact o2_bin hz ((e1.trans e2).trans ez)) fun C M2 e2 => e1.trans e2) fun _ _ z => z)
theorem ev_neg (h : Ev L ρ M a (fun x M1 => ∃ i, x = .int i ∧ Q (.int (-i)) M1) E) : Ev L ρ M (.UnaryOp .USub a pos) Q E := fun X ci B σ G H R f s k x =>
  wp_of (pe_un un_neg pe_wp) (h X ci B σ G H _ f s (fun v d G1 M1 H1 m1 s1 r1 ⟨i, e, q⟩ => by subst e; exact ⟨i, r1, k _ _ G1 M1 H1 m1 s1 rep_int q⟩) x)

/-! ### comparisons -/
mutual
theorem Rep.dp {g : Gx} {G : Gh} {H : Hp} (e : Same G.h H) : ∀ {d : D} {n : Nat} {v : V}, D.sh n d = true → Rep g G d v → Dp g.K H v d.py
  | .non, _, _, _, h => by
    have h : _ = _ := h
    subst h; exact .non
  | .bl _, _, _, _, h => by
    have h : _ = _ := h
    subst h; exact .bl _
  | .int _, _, _, _, h => by
    have h : _ = _ := h
    subst h; exact .int _
  | .str _, _, _, _, h => by
    have h : _ = _ := h
    subst h; exact .str _
  | .ref _, n, _, hs, _ => by cases n <;> simp [D.sh] at hs
  | .obj _ _ _, n, _, hs, _ => by cases n <;> simp [D.sh] at hs
  | .dct _ _, n, _, hs, _ => by cases n <;> simp [D.sh] at hs
  | .tup ds, 0, _, hs, _ => by simp [D.sh] at hs
  | .lst ds, 0, _, hs, _ => by simp [D.sh] at hs
  | .seq ds, 0, _, hs, _ => by simp [D.sh] at hs
  | .tup ds, n + 1, _, hs, h => by
    obtain ⟨a, vs, rfl, h1, h2⟩ := h
    exact .tup (ex_t e h1) (Reps.dp e (by simpa [D.sh] using hs) h2)
  | .lst ds, n + 1, _, hs, h => by
    obtain ⟨a, vs, rfl, h1, h2⟩ := h
    exact .lst (SqL.of (e _ _ h1)) (Reps.dp e (by simpa [D.sh] using hs) h2)
  | .seq ds, n + 1, _, hs, h => by
    obtain ⟨a, vs, rfl, h1, h2⟩ := h
    exact .lst (ex_l e h1) (Reps.dp e (by simpa [D.sh] using hs) h2)
theorem Reps.dp {g : Gx} {G : Gh} {H : Hp} (e : Same G.h H) : ∀ {ds : List D} {n : Nat} {vs : List V}, D.shs n ds = true → Reps g G ds vs → DpAll g.K H vs (D.pys ds)
  | [], _, _, _, h => by
    have h : _ = _ := h
    subst h; exact .nil
  | d :: ds, n, _, hs, h => by
    obtain ⟨v, ws, rfl, h1, h2⟩ := h
    have hs' : D.sh n d = true ∧ D.shs n ds = true := by simpa [D.shs] using hs
    exact .cons (Rep.dp e hs'.1 h1) (Reps.dp e hs'.2 h2)
end
mutual
theorem sh_can : ∀ {d : D} {n : Nat}, D.sh n d = true → d.py.canLay0 = true ∧ d.py.depth ≤ n
  | .non, n, _ => ⟨rfl, Nat.zero_le _⟩
  | .bl _, n, _ => ⟨rfl, Nat.zero_le _⟩
  | .int _, n, _ => ⟨rfl, Nat.zero_le _⟩
  | .str x, n, hs => ⟨by rw [D.py, PyData.canLay0]; cases n <;> simpa [D.sh] using hs, Nat.zero_le _⟩
  | .ref _, n, hs => by cases n <;> simp [D.sh] at hs
  | .obj _ _ _, n, hs => by cases n <;> simp [D.sh] at hs
  | .dct _ _, n, hs => by cases n <;> simp [D.sh] at hs
  | .tup ds, 0, hs => by simp [D.sh] at hs
  | .lst ds, 0, hs => by simp [D.sh] at hs
  | .seq ds, 0, hs => by simp [D.sh] at hs
  | .tup ds, n + 1, hs => by
    obtain ⟨h1, h2⟩ := shs_can (ds := ds) (n := n) (by simpa [D.sh] using hs)
    exact ⟨by rw [D.py, PyData.canLay0]; exact h1, by rw [D.py, PyData.depth]; omega⟩
  | .lst ds, n + 1, hs => by
    obtain ⟨h1, h2⟩ := shs_can (ds := ds) (n := n) (by simpa [D.sh] using hs)
    exact ⟨by rw [D.py, PyData.canLay0]; exact h1, by rw [D.py, PyData.depth]; omega⟩
  | .seq ds, n + 1, hs => by
    obtain ⟨h1, h2⟩ := shs_can (ds := ds) (n := n) (by simpa [D.sh] using hs)
    exact ⟨by rw [D.py, PyData.canLay0]; exact h1, by rw [D.py, PyData.depth]; omega⟩
theorem shs_can : ∀ {ds : List D} {n : Nat}, D.shs n ds = true → PyData.canLayAll0 (D.pys ds) = true ∧ PyData.depthAll (D.pys ds) ≤ n
  | [], _, _ => ⟨rfl, Nat.zero_le _⟩
  | d :: ds, n, hs => by
    have hs' : D.sh n d = true ∧ D.shs n ds = true := by simpa [D.shs] using hs
    obtain ⟨a1, a2⟩ := sh_can hs'.1
    obtain ⟨b1, b2⟩ := shs_can hs'.2
    refine ⟨by rw [D.pys, PyData.canLayAll0, a1, b1]; rfl, ?_⟩
    rw [D.pys, PyData.depthAll]
    omega
end
theorem sh_ok {d : D} {n : Nat} (hn : n ≤ 60) (h : D.sh n d = true) : SeqAt.shaped d.py = true := by
  obtain ⟨h1, h2⟩ := sh_can h
  unfold SeqAt.shaped
  rw [h1, Bool.true_and]
  exact decide_eq_true (by omega)
theorem CI.u64 {X : Cx} (ci : CI L X) : X.A.units + 64 < cLine := ci.room.units
def pyC : COp → CmpOp
  | .eq => .Eq | .ne => .NotEq | .lt => .Lt | .le => .LtE | .gt => .Gt | .ge => .GtE | .isN => .Is | .isNN => .IsNot | .mem => .In | .nmem => .NotIn
def rInT (K : PySem.W.Frag) : R2 := fun x y H Q => ∃ d ds, Dp K H x d ∧ Dp K H y (.tuple ds) ∧ SeqAt.shaped d = true ∧ SeqAt.shaped (.tuple ds) = true ∧ Q (.bl (ds.any fun z => PyData.eqv z d)) H
def rNotInT (K : PySem.W.Frag) : R2 := fun x y H Q => ∃ d ds, Dp K H x d ∧ Dp K H y (.tuple ds) ∧ SeqAt.shaped d = true ∧ SeqAt.shaped (.tuple ds) = true ∧ Q (.bl (!ds.any fun z => PyData.eqv z d)) H
theorem op_inT {X : Cx} (hu : X.A.units + 65 < cLine) : OpR X (compareOp .In) (rInT X.K) := by
  rintro pins s σ H x y v u Q I rx ry ⟨d, ds, hd, he, sd, se, q⟩
  obtain ⟨as, r1⟩ := Dp.reads I d x v hd rx
  obtain ⟨bs, r2⟩ := Dp.reads I (.tuple ds) y u he ry
  exact SeqAt.in_tuple_reads r2 r1 (SeqAt.canLay_of_shaped se) (SeqAt.canLay_of_shaped sd) (PyProof.Rows.room_in_shaped sd hu) ⟨.bl _, H, I, rfl, q⟩
theorem op_notInT {X : Cx} (hu : X.A.units + 65 < cLine) : OpR X (compareOp .NotIn) (rNotInT X.K) := by
  rintro pins s σ H x y v u Q I rx ry ⟨d, ds, hd, he, sd, se, q⟩
  obtain ⟨as, r1⟩ := Dp.reads I d x v hd rx
  obtain ⟨bs, r2⟩ := Dp.reads I (.tuple ds) y u he ry
  exact SeqAt.notIn_tuple_reads r2 r1 (SeqAt.canLay_of_shaped se) (SeqAt.canLay_of_shaped sd) (PyProof.Rows.room_in_shaped sd hu) ⟨.bl _, H, I, rfl, q⟩
theorem CI.u65 {X : Cx} (ci : CI L X) : X.A.units + 65 < cLine := by have := ci.room.un; omega
theorem inD_any (x : D) : ∀ ds : List D, inD x ds = (D.pys ds).any fun z => PyData.eqv z x.py
  | [] => rfl
  | d :: ds => by
    unfold inD D.pys
    rw [List.any_cons, inD_any x ds]; rfl
/-- a list that is not empty, against the empty one -/
def rEqL (K : PySem.W.Frag) (r : Bool) : R2 := fun x y H Q => ∃ l b xs, x = .ref l ∧ y = .ref b ∧ SqL K H l xs ∧ SqL K H b [] ∧ xs ≠ [] ∧ Q (.bl r) H
theorem op_eqL {X : Cx} (hu : X.A.units < cLine) : OpR X (compareOp .Eq) (rEqL X.K false) := by
  rintro pins s σ H x y v u Q I rx ry ⟨l, b, xs, rfl, rfl, h1, h2, hne, q⟩
  obtain rfl : v = Value.ref l := rx
  obtain rfl : u = Value.ref b := ry
  obtain ⟨its, rv, p1, _⟩ := I.list h1
  obtain ⟨its2, rv2, p2, _⟩ := I.list h2
  have l1 := rv.length
  have l2 := rv2.length
  refine SeqAt.eq_list_lengthsAt p1.isList p2.isList ?_ hu ⟨.bl _, H, I, rfl, q⟩
  have : xs.length ≠ 0 := fun z => hne (List.length_eq_zero_iff.mp z)
  simp at l2 ⊢
  omega
theorem op_neL {X : Cx} (hu : X.A.units < cLine) : OpR X (compareOp .NotEq) (rEqL X.K true) := by
  rintro pins s σ H x y v u Q I rx ry ⟨l, b, xs, rfl, rfl, h1, h2, hne, q⟩
  obtain rfl : v = Value.ref l := rx
  obtain rfl : u = Value.ref b := ry
  obtain ⟨its, rv, p1, _⟩ := I.list h1
  obtain ⟨its2, rv2, p2, _⟩ := I.list h2
  have l1 := rv.length
  have l2 := rv2.length
  refine SeqAt.RcNeAt.lists_lengths p1.isList p2.isList ?_ hu _ _ _ _ ⟨.bl _, H, I, rfl, q⟩
  have : xs.length ≠ 0 := fun z => hne (List.length_eq_zero_iff.mp z)
  simp at l2 ⊢
  omega
def rCmp : COp → Cx → R2
  | .lt, X => rI0 fun i j => .bl (decide (i < j))
  | .le, X => rI0 fun i j => .bl (decide (i ≤ j))
  | .gt, X => rI0 fun i j => .bl (decide (j < i))
  | .ge, X => rI0 fun i j => .bl (decide (j ≤ i))
  | .eq, X => fun v u H R => rEqD X.K v u H R ∨ rEqL X.K false v u H R
  | .ne, X => fun v u H R => rNeD X.K v u H R ∨ rEqL X.K true v u H R
  | .isN, X => fun x y H Q => y = .non ∧ Q (.bl (decide (x = .non))) H
  | .isNN, X => fun x y H Q => y = .non ∧ Q (.bl (!decide (x = .non))) H
  | .mem, X => fun v u H R => rInD X.K v u H R ∨ rInT X.K v u H R
  | .nmem, X => fun v u H R => rNotInD X.K v u H R ∨ rNotInT X.K v u H R
theorem opCmp (o : COp) (X : Cx) (ci : CI L X) : OpR X (compareOp (pyC o)) (rCmp o X) := by
  cases o with
  | eq => exact (op_eqD ci.u64).or (op_eqL (by have := ci.u64; omega))
  | ne => exact (op_neD ci.u64).or (op_neL (by have := ci.u64; omega))
  | lt => exact op_lt
  | le => exact op_le
  | gt => exact op_gt
  | ge => exact op_ge
  | isN => exact op_isN
  | isNN => exact op_notN
  | mem => exact (op_inD ci.u65).or (op_inT ci.u65)
  | nmem => exact (op_notInD ci.u65).or (op_notInT ci.u65)
theorem eqv_int (i j : Int) : D.eqv (.int i) (.int j) = decide (i = j) := by
  show PyData.eqv (.int i) (.int j) = _
  first | rfl | simp [PyData.eqv]
theorem non_iff {g : Gx} {G : Gh} {d : D} {v : V} (r : Rep g G d v) : decide (v = .non) = d.isN := by
  cases d with
  | non => obtain rfl : v = .non := r; rfl
  | bl b => obtain rfl : v = .bl b := r; rfl
  | int b => obtain rfl : v = .int b := r; rfl
  | str b => obtain rfl : v = .str (mkS b) := r; rfl
  | tup ds => obtain ⟨a, vs, rfl, _⟩ := r; rfl
  | lst ds => obtain ⟨a, vs, rfl, _⟩ := r; rfl
  | seq ds => obtain ⟨a, vs, rfl, _⟩ := r; rfl
  | ref k => obtain ⟨a, rfl, _⟩ := r; rfl
  | obj c ns ds => obtain ⟨a, dx, vs, rfl, _⟩ := r; rfl
  | dct ks us => obtain ⟨a, rfl, _⟩ := r; rfl
theorem o2_eqD {x y : D} (hx : D.sh 40 x = true) (hy : D.sh 40 y = true) (q : Q (.bl (D.eqv x y)) M) : O2 L (rCmp .eq) x y M Q := o2_flat (fun _ => rep_bl) (fun X ci G H v u R s r1 r2 k =>
  .inl ⟨x.py, y.py, (by rw [ci.K]; exact Rep.dp s.ex hx r1), (by rw [ci.K]; exact Rep.dp s.ex hy r2), sh_ok (by decide) hx, sh_ok (by decide) hy, k⟩) q
theorem o2_neD {x y : D} (hx : D.sh 40 x = true) (hy : D.sh 40 y = true) (q : Q (.bl (!D.eqv x y)) M) : O2 L (rCmp .ne) x y M Q := o2_flat (fun _ => rep_bl) (fun X ci G H v u R s r1 r2 k =>
  .inl ⟨x.py, y.py, (by rw [ci.K]; exact Rep.dp s.ex hx r1), (by rw [ci.K]; exact Rep.dp s.ex hy r2), sh_ok (by decide) hx, sh_ok (by decide) hy, k⟩) q
theorem o2_in {x y z : D} {ds : List D} (hy : (∃ es, es = ds ∧ y = .tup es) ∨ (∃ es, es = ds ∧ (y = .lst es ∨ y = .seq es))) (h : grd (D.sh 40 x && D.shs 40 ds) (.bl (inD x ds)) = some z) (q : Q z M) : O2 L (rCmp .mem) x y M Q := by
  obtain ⟨hb, rfl⟩ := grd_some h
  obtain ⟨h1, h2⟩ := Bool.and_eq_true_iff.mp hb
  rw [inD_any] at q
  rcases hy with ⟨es, rfl, rfl⟩ | ⟨es, rfl, hy⟩
  · have hs : D.sh 41 (.tup es) = true := h2
    exact o2_flat (fun _ => rep_bl) (fun X ci G H v u R s r1 r2 k => .inr ⟨x.py, D.pys es, (by rw [ci.K]; exact Rep.dp s.ex h1 r1), (by rw [ci.K]; exact Rep.dp s.ex hs r2), sh_ok (by decide) h1, sh_ok (d := .tup es) (by decide) hs, k⟩) q
  · rcases hy with rfl | rfl
    · have hs : D.sh 41 (.lst es) = true := h2
      exact o2_flat (fun _ => rep_bl) (fun X ci G H v u R s r1 r2 k => .inl ⟨x.py, D.pys es, (by rw [ci.K]; exact Rep.dp s.ex h1 r1), (by rw [ci.K]; exact Rep.dp s.ex hs r2), sh_ok (by decide) h1, sh_ok (d := .lst es) (by decide) hs, k⟩) q
    · have hs : D.sh 41 (.seq es) = true := h2
      exact o2_flat (fun _ => rep_bl) (fun X ci G H v u R s r1 r2 k => .inl ⟨x.py, D.pys es, (by rw [ci.K]; exact Rep.dp s.ex h1 r1), (by rw [ci.K]; exact Rep.dp s.ex hs r2), sh_ok (by decide) h1, sh_ok (d := .seq es) (by decide) hs, k⟩) q
theorem o2_nin {x y z : D} {ds : List D} (hy : (∃ es, es = ds ∧ y = .tup es) ∨ (∃ es, es = ds ∧ (y = .lst es ∨ y = .seq es))) (h : grd (D.sh 40 x && D.shs 40 ds) (.bl (!inD x ds)) = some z) (q : Q z M) : O2 L (rCmp .nmem) x y M Q := by
  obtain ⟨hb, rfl⟩ := grd_some h
  obtain ⟨h1, h2⟩ := Bool.and_eq_true_iff.mp hb
  rw [inD_any] at q
  rcases hy with ⟨es, rfl, rfl⟩ | ⟨es, rfl, hy⟩
  · have hs : D.sh 41 (.tup es) = true := h2
    exact o2_flat (fun _ => rep_bl) (fun X ci G H v u R s r1 r2 k => .inr ⟨x.py, D.pys es, (by rw [ci.K]; exact Rep.dp s.ex h1 r1), (by rw [ci.K]; exact Rep.dp s.ex hs r2), sh_ok (by decide) h1, sh_ok (d := .tup es) (by decide) hs, k⟩) q
  · rcases hy with rfl | rfl
    · have hs : D.sh 41 (.lst es) = true := h2
      exact o2_flat (fun _ => rep_bl) (fun X ci G H v u R s r1 r2 k => .inl ⟨x.py, D.pys es, (by rw [ci.K]; exact Rep.dp s.ex h1 r1), (by rw [ci.K]; exact Rep.dp s.ex hs r2), sh_ok (by decide) h1, sh_ok (d := .lst es) (by decide) hs, k⟩) q
    · have hs : D.sh 41 (.seq es) = true := h2
      exact o2_flat (fun _ => rep_bl) (fun X ci G H v u R s r1 r2 k => .inl ⟨x.py, D.pys es, (by rw [ci.K]; exact Rep.dp s.ex h1 r1), (by rw [ci.K]; exact Rep.dp s.ex hs r2), sh_ok (by decide) h1, sh_ok (d := .seq es) (by decide) hs, k⟩) q
theorem mapB_some {f : Bool → Bool} {o : Option Bool} {z : D} (h : mapB f o = some z) : ∃ b, o = some b ∧ z = .bl (f b) := by
  cases o with
  | none => cases h
  | some b => cases h; exact ⟨b, rfl, rfl⟩
theorem eqO_some {x y : D} {b : Bool} (h : eqO x y = some b) : (D.sh 40 x = true ∧ D.sh 40 y = true ∧ b = D.eqv x y) ∨ ∃ d ds, (x = .lst (d :: ds) ∨ x = .seq (d :: ds)) ∧ y = .lst [] ∧ b = false := by
  unfold eqO at h
  by_cases hs : (D.sh 40 x && D.sh 40 y) = true
  · rw [if_pos hs] at h
    cases h
    exact .inl ⟨(Bool.and_eq_true_iff.mp hs).1, (Bool.and_eq_true_iff.mp hs).2, rfl⟩
  · rw [if_neg hs] at h
    split at h
    · cases h; exact .inr ⟨_, _, .inl rfl, rfl, rfl⟩
    · cases h; exact .inr ⟨_, _, .inr rfl, rfl, rfl⟩
    · cases h
theorem eqL_of {X : Cx} (ci : CI L X) {G : Gh} {H : Hp} {x d : D} {ds : List D} {v u : V} {R : VK} {r : Bool} (s : Sta L.g G H M) (hx : x = .lst (d :: ds) ∨ x = .seq (d :: ds)) (r1 : Rep L.g G x v) (r2 : Rep L.g G (.lst []) u) (k : R (.bl r) H) : rEqL X.K r v u H R := by
  obtain ⟨b, us, rfl, h2, q2⟩ := r2
  have q2 : us = [] := q2
  subst q2
  rcases hx with rfl | rfl
  · obtain ⟨a, vs, rfl, h1, q1⟩ := r1
    exact ⟨a, b, vs, rfl, rfl, by rw [ci.K]; exact SqL.of (s.ex _ _ h1), by rw [ci.K]; exact SqL.of (s.ex _ _ h2), fun z => by have := q1.length; rw [z] at this; simp at this, k⟩
  · obtain ⟨a, vs, rfl, h1, q1⟩ := r1
    exact ⟨a, b, vs, rfl, rfl, by rw [ci.K]; exact ex_l s.ex h1, by rw [ci.K]; exact SqL.of (s.ex _ _ h2), fun z => by have := q1.length; rw [z] at this; simp at this, k⟩
/-- the right side of an is is None -/
def cmpNon (o : COp) (y : D) : Prop := (o = .isN ∨ o = .isNN) → y = .non
theorem o2_cmp {o : COp} {x y z : D} (h : cmpO M o x y = some z) (hn : cmpNon o y) (q : Q z M) : O2 L (rCmp o) x y M Q := by
  unfold cmpO at h
  split at h
  · cases h; exact o2_flat (fun _ => rep_bl) (fun X ci G H v u R s r1 r2 k => ⟨_, _, r1, r2, k⟩) q
  · cases h; exact o2_flat (fun _ => rep_bl) (fun X ci G H v u R s r1 r2 k => ⟨_, _, r1, r2, k⟩) q
  · cases h; exact o2_flat (fun _ => rep_bl) (fun X ci G H v u R s r1 r2 k => ⟨_, _, r1, r2, k⟩) q
  · cases h; exact o2_flat (fun _ => rep_bl) (fun X ci G H v u R s r1 r2 k => ⟨_, _, r1, r2, k⟩) q
  · cases h; exact o2_eqD rfl rfl (by rw [eqv_int]; exact q)
  · cases h; exact o2_neD rfl rfl (by rw [eqv_int]; exact q)
  · obtain ⟨b, hb, rfl⟩ := mapB_some h
    rcases eqO_some hb with ⟨h1, h2, rfl⟩ | ⟨d, ds, hx, rfl, rfl⟩
    · exact o2_eqD h1 h2 q
    · exact o2_flat (fun _ => rep_bl) (fun X ci G H v u R s r1 r2 k => .inr (eqL_of ci s hx r1 r2 k)) q
  · obtain ⟨b, hb, rfl⟩ := mapB_some h
    rcases eqO_some hb with ⟨h1, h2, rfl⟩ | ⟨d, ds, hx, rfl, rfl⟩
    · exact o2_neD h1 h2 q
    · exact o2_flat (fun _ => rep_bl) (fun X ci G H v u R s r1 r2 k => .inr (eqL_of ci s hx r1 r2 k)) q
  · cases h
    refine fun X ci G H v u R s r1 r2 k => ?_
    have e := hn (.inl rfl)
    subst e
    refine ⟨r2, ?_⟩
    rw [non_iff r1]
    exact k _ _ G M H (.refl ..) s rep_bl q
  · cases h
    refine fun X ci G H v u R s r1 r2 k => ?_
    have e := hn (.inr rfl)
    subst e
    refine ⟨r2, ?_⟩
    rw [non_iff r1]
    exact k _ _ G M H (.refl ..) s rep_bl q
  · exact o2_in (y := .tup _) (.inl ⟨_, rfl, rfl⟩) h q
  · exact o2_in (y := .lst _) (.inr ⟨_, rfl, .inl rfl⟩) h q
  · exact o2_in (y := .seq _) (.inr ⟨_, rfl, .inr rfl⟩) h q
  · exact o2_nin (y := .tup _) (.inl ⟨_, rfl, rfl⟩) h q
  · exact o2_nin (y := .lst _) (.inr ⟨_, rfl, .inl rfl⟩) h q
  · exact o2_nin (y := .seq _) (.inr ⟨_, rfl, .inr rfl⟩) h q
  · cases h
theorem snd_cmp {o : COp} {ob : D → Store → Out D} (hm : behindInMarks (pyC o) b = false) (hn : ∀ x M1 y M2, ob x M1 = .ok y M2 → cmpNon o y) (ha : EvO L ρ M a oa) (hb : ∀ x M1, oa = .ok x M1 → EvO L ρ M1 b (ob x M1)) : EvO L ρ M (.Compare a [pyC o] [b] pos) (oa.bind fun x M1 => (ob x M1).bind fun y M2 => optO (cmpO M2 o x y) M2) := fun n =>
  ev_cmp (r := rCmp o) (fun X ci => opCmp o X ci) hm ((ha.step n).mono (fun x M1 ⟨e0, n1, e1⟩ => ((hb x M1 e0).step n1).mono (fun y M2 ⟨e3, n2, e2⟩ => by
    obtain ⟨z, hz, ez⟩ := optO_nb n2
    exact o2_cmp hz (hn _ _ _ _ e3) ((e1.trans e2).trans ez)) fun C M2 e2 => e1.trans e2) fun _ _ z => z)
theorem snt_cmp {o : COp} {ob : D → Store → Out D} (hm : behindInMarks (pyC o) b = false) (hn : ∀ x M1 y M2, ob x M1 = .ok y M2 → cmpNon o y) (ha : EvO L ρ M a oa) (hb : ∀ x M1, oa = .ok x M1 → EvO L ρ M1 b (ob x M1)) : EvTO L ρ M (.Compare a [pyC o] [b] pos) (oa.bind fun x M1 => (ob x M1).bind fun y M2 => optO (cmpO M2 o x y) M2) := fun n =>
  et_cmp (r := rCmp o) (fun X ci => opCmp o X ci) hm ((ha.step n.1).mono (fun x M1 ⟨e0, n1, e1⟩ => ((hb x M1 e0).step n1).mono (fun y M2 ⟨e3, n2, e2⟩ => by
    obtain ⟨z, hz, ez⟩ := optO_nb n2
    have et := (e1.trans e2).trans ez
    obtain ⟨bb, eb⟩ := n.2 _ _ et
    subst eb
    exact o2_cmp hz (hn _ _ _ _ e3) ⟨bb, rfl, et⟩) fun C M2 e2 => e1.trans e2) fun _ _ z => z)
end
end PI
set_option Elab.async false
set_option linter.all false
set_option maxRecDepth 100000
set_option maxHeartbeats 4000000
/-! PD: tests, displays, subscripts, calls. -/
namespace PI
open PySem L2
section
variable {L : Lx} {ρ : Ro} {M : Store} {Q : D → Store → Prop} {E : Nat → Store → Prop} {a b c e : Expr} {pos : Pos} {oa : Out D} {QB : Bool → Store → Prop}

/-! ### and, or, not, if .. else -/
theorem ew_and1 (h : EvT L ρ M a QB E) : EvW L ρ M (.BoolOp .And [a] pos) QB E := fun X ci B σ G H R f s k x => wpW_of (pw_and1 pt_wp) (h X ci B σ G H R f s k x)
theorem ew_or1 (h : EvT L ρ M a QB E) : EvW L ρ M (.BoolOp .Or [a] pos) QB E := fun X ci B σ G H R f s k x => wpW_of (pw_or1 pt_wp) (h X ci B σ G H R f s k x)
theorem ew_and {rest : List Expr} (h : EvT L ρ M a (fun c M1 => if c = true then EvW L ρ M1 (.BoolOp .And (b :: rest) pos) QB E else QB false M1) E) : EvW L ρ M (.BoolOp .And (a :: b :: rest) pos) QB E := fun X ci B σ G H R f s k x =>
  wpW_of (pw_and pt_wp pw_wp) (h X ci B σ G H _ f s (fun c G1 M1 H1 m1 s1 q1 => by
    cases c with
    | true =>
      rw [if_pos rfl] at q1
      rw [if_pos rfl]
      exact q1 X ci B σ G1 H1 R (f.move m1) s1 (k.move s1 m1) (x.move s1 m1)
    | false =>
      rw [if_neg Bool.false_ne_true] at q1
      rw [if_neg Bool.false_ne_true]
      exact k false G1 M1 H1 m1 s1 q1) x)
theorem ew_or {rest : List Expr} (h : EvT L ρ M a (fun c M1 => if c = true then QB true M1 else EvW L ρ M1 (.BoolOp .Or (b :: rest) pos) QB E) E) : EvW L ρ M (.BoolOp .Or (a :: b :: rest) pos) QB E := fun X ci B σ G H R f s k x =>
  wpW_of (pw_or pt_wp pw_wp) (h X ci B σ G H _ f s (fun c G1 M1 H1 m1 s1 q1 => by
    cases c with
    | false =>
      rw [if_neg Bool.false_ne_true] at q1
      rw [if_neg Bool.false_ne_true]
      exact q1 X ci B σ G1 H1 R (f.move m1) s1 (k.move s1 m1) (x.move s1 m1)
    | true =>
      rw [if_pos rfl] at q1
      rw [if_pos rfl]
      exact k true G1 M1 H1 m1 s1 q1) x)
theorem et_not (h : EvT L ρ M a (fun c M1 => QB (!c) M1) E) : EvT L ρ M (.UnaryOp .Not a pos) QB E := fun X ci B σ G H R f s k x =>
  wpT_of (pt_not pt_wp) (h X ci B σ G H _ f s (fun c G1 M1 H1 m1 s1 q1 => k (!c) G1 M1 H1 m1 s1 q1) x)
/-- a value that is a bool, as a test -/
theorem et_val (he : ∀ env whole, isTrue a env whole = (do let v ← whole; standAt a.pos; holding [v] (truthy v))) (h : Ev L ρ M a (fun d M1 => ∃ c, d = .bl c ∧ QB c M1) E) : EvT L ρ M a QB E := fun X ci B σ G H R f s k x =>
  wpT_of (pt_val pe_wp (he X.env)) (h X ci B σ G H _ f s (fun v d G1 M1 H1 m1 s1 r1 ⟨c, ec, q1⟩ => by
    subst ec
    obtain rfl : v = .bl c := r1
    exact ⟨c, rfl, k c G1 M1 H1 m1 s1 q1⟩) x)
theorem ev_if (h : EvT L ρ M c (fun t M1 => if t = true then Ev L ρ M1 a Q E else Ev L ρ M1 b Q E) E) : Ev L ρ M (.IfExp c a b pos) Q E := fun X ci B σ G H R f s k x =>
  wp_of (pe_ifExp pt_wp pe_wp pe_wp) (h X ci B σ G H _ f s (fun t G1 M1 H1 m1 s1 q1 => by
    cases t with
    | true =>
      rw [if_pos rfl] at q1
      rw [if_pos rfl]
      exact q1 X ci B σ G1 H1 R (f.move m1) s1 (k.move s1 m1) (x.move s1 m1)
    | false =>
      rw [if_neg Bool.false_ne_true] at q1
      rw [if_neg Bool.false_ne_true]
      exact q1 X ci B σ G1 H1 R (f.move m1) s1 (k.move s1 m1) (x.move s1 m1)) x)
/-- as values -/
theorem ev_one {op : BoolOp} (h : Ev L ρ M a Q E) : Ev L ρ M (.BoolOp op [a] pos) Q E := fun X ci B σ G H R f s k x => wp_of (pe_one pe_wp) (h X ci B σ G H R f s k x)
theorem ev_and {rest : List Expr} (h : Ev L ρ M a (fun d M1 => ∃ c, d = .bl c ∧ if c = true then Ev L ρ M1 (.BoolOp .And (b :: rest) pos) Q E else Q (.bl false) M1) E) : Ev L ρ M (.BoolOp .And (a :: b :: rest) pos) Q E := fun X ci B σ G H R f s k x =>
  wp_of (pe_and pe_wp pe_wp) (h X ci B σ G H _ f s (fun v d G1 M1 H1 m1 s1 r1 ⟨c, ec, q1⟩ => by
    subst ec
    obtain rfl : v = .bl c := r1
    refine ⟨c, rfl, ?_⟩
    cases c with
    | true =>
      rw [if_pos rfl] at q1
      rw [if_pos rfl]
      exact q1 X ci B σ G1 H1 R (f.move m1) s1 (k.move s1 m1) (x.move s1 m1)
    | false =>
      rw [if_neg Bool.false_ne_true] at q1
      rw [if_neg Bool.false_ne_true]
      exact k _ _ G1 M1 H1 m1 s1 rep_bl q1) x)
theorem ev_or {rest : List Expr} (h : Ev L ρ M a (fun d M1 => ∃ c, d = .bl c ∧ if c = true then Q (.bl true) M1 else Ev L ρ M1 (.BoolOp .Or (b :: rest) pos) Q E) E) : Ev L ρ M (.BoolOp .Or (a :: b :: rest) pos) Q E := fun X ci B σ G H R f s k x =>
  wp_of (pe_or pe_wp pe_wp) (h X ci B σ G H _ f s (fun v d G1 M1 H1 m1 s1 r1 ⟨c, ec, q1⟩ => by
    subst ec
    obtain rfl : v = .bl c := r1
    refine ⟨c, rfl, ?_⟩
    cases c with
    | false =>
      rw [if_neg Bool.false_ne_true] at q1
      rw [if_neg Bool.false_ne_true]
      exact q1 X ci B σ G1 H1 R (f.move m1) s1 (k.move s1 m1) (x.move s1 m1)
    | true =>
      rw [if_pos rfl] at q1
      rw [if_pos rfl]
      exact k _ _ G1 M1 H1 m1 s1 rep_bl q1) x)
theorem ev_not (h : Ev L ρ M a (fun d M1 => ∃ c, d = .bl c ∧ Q (.bl (!c)) M1) E) : Ev L ρ M (.UnaryOp .Not a pos) Q E := fun X ci B σ G H R f s k x =>
  wp_of (pe_not pe_wp) (h X ci B σ G H _ f s (fun v d G1 M1 H1 m1 s1 r1 ⟨c, ec, q1⟩ => by
    subst ec
    obtain rfl : v = .bl c := r1
    exact ⟨c, rfl, k _ _ G1 M1 H1 m1 s1 rep_bl q1⟩) x)
/-! ### chains of two -/
theorem et_chain {op op' : CmpOp} {r r' : Cx → R2} {Q : Bool → Store → Prop} (ho : ∀ X, CI L X → OpR X (compareOp op) (r X)) (ho' : ∀ X, CI L X → OpR X (compareOp op') (r' X)) (hm : lastMarks [op, op'] [b, c] = false)
    (ha : Ev L ρ M a (fun x M1 => Ev L ρ M1 b (fun y M2 => O2b L r x y M2 (fun k M3 => if k = true then Ev L ρ M3 c (fun z M4 => O2b L r' y z M4 Q) E else Q false M3)) E) E) : EvT L ρ M (.Compare a [op, op'] [b, c] pos) Q E := fun X ci B σ G H R f s k x =>
  wpT_of (pt_chain (ho X ci) (ho' X ci) pe_wp pe_wp pe_wp hm) (ha X ci B σ G H _ f s (fun v d G1 M1 H1 m1 s1 r1 q1 =>
    q1 X ci B σ G1 H1 _ (f.move m1) s1 (fun u e G2 M2 H2 m2 s2 r2 q2 => q2 X ci G2 H2 v u _ s2 (r1.mono m2.g) r2 (fun w d3 G3 M3 H3 m3 s3 r3 ⟨kk, ek, qk⟩ => by
      subst ek
      obtain rfl : w = .bl kk := r3
      have k3 := ((k.move s1 m1).move s2 m2).move s3 m3
      have x3 := ((x.move s1 m1).move s2 m2).move s3 m3
      have f3 := ((f.move m1).move m2).move m3
      refine ⟨kk, rfl, ?_⟩
      cases kk with
      | true =>
        rw [if_pos rfl] at qk
        rw [if_pos rfl]
        exact qk X ci B σ G3 H3 _ f3 s3 (fun z ez G4 M4 H4 m4 s4 r4 q4 => q4 X ci G4 H4 u z _ s4 ((r2.mono m3.g).mono m4.g) r4 (fun w5 d5 G5 M5 H5 m5 s5 r5 ⟨k5, e5, q5⟩ => by
          subst e5
          obtain rfl : w5 = .bl k5 := r5
          exact ⟨k5, rfl, (k3.move s4 m4) k5 G5 M5 H5 m5 s5 q5⟩)) x3
      | false =>
        rw [if_neg Bool.false_ne_true] at qk
        rw [if_neg Bool.false_ne_true]
        exact ⟨false, rfl, k3 false G3 M3 H3 (.refl ..) s3 qk⟩)) (x.move s1 m1)) x)
theorem ev_chain {op op' : CmpOp} {r r' : Cx → R2} (ho : ∀ X, CI L X → OpR X (compareOp op) (r X)) (ho' : ∀ X, CI L X → OpR X (compareOp op') (r' X)) (hm : lastMarks [op, op'] [b, c] = false)
    (ha : Ev L ρ M a (fun x M1 => Ev L ρ M1 b (fun y M2 => O2b L r x y M2 (fun k M3 => if k = true then Ev L ρ M3 c (fun z M4 => O2 L r' y z M4 Q) E else Q (.bl false) M3)) E) E) : Ev L ρ M (.Compare a [op, op'] [b, c] pos) Q E := fun X ci B σ G H R f s k x =>
  wp_of (pe_chain (ho X ci) (ho' X ci) pe_wp pe_wp pe_wp hm) (ha X ci B σ G H _ f s (fun v d G1 M1 H1 m1 s1 r1 q1 =>
    q1 X ci B σ G1 H1 _ (f.move m1) s1 (fun u e G2 M2 H2 m2 s2 r2 q2 => q2 X ci G2 H2 v u _ s2 (r1.mono m2.g) r2 (fun w d3 G3 M3 H3 m3 s3 r3 ⟨kk, ek, qk⟩ => by
      subst ek
      obtain rfl : w = .bl kk := r3
      have k3 := ((k.move s1 m1).move s2 m2).move s3 m3
      have x3 := ((x.move s1 m1).move s2 m2).move s3 m3
      have f3 := ((f.move m1).move m2).move m3
      refine ⟨kk, rfl, ?_⟩
      cases kk with
      | true =>
        rw [if_pos rfl] at qk
        rw [if_pos rfl]
        exact qk X ci B σ G3 H3 _ f3 s3 (fun z ez G4 M4 H4 m4 s4 r4 q4 => q4 X ci G4 H4 u z _ s4 ((r2.mono m3.g).mono m4.g) r4 (k3.move s4 m4)) x3
      | false =>
        rw [if_neg Bool.false_ne_true] at qk
        rw [if_neg Bool.false_ne_true]
        exact k3 _ _ G3 M3 H3 (.refl ..) s3 rep_bl qk)) (x.move s1 m1)) x)

/-! ### arguments, displays -/
theorem ea_nil {Q : List D → Store → Prop} (q : Q [] M) : EvA L ρ M [] Q E := fun X ci B σ G H R f s k x => wpA_of pa_nil (k _ _ G M H (.refl ..) s Reps.nil q)
theorem ea_cons {es : List Expr} {Q : List D → Store → Prop} (hs : ∀ env, starEach (a :: es) env = (false, eval a env) :: starEach es env) (h : Ev L ρ M a (fun d M1 => EvA L ρ M1 es (fun ds M2 => Q (d :: ds) M2) E) E) : EvA L ρ M (a :: es) Q E := fun X ci B σ G H R f s k x =>
  wpA_of (pa_cons pe_wp pa_wp (hs X.env)) (h X ci B σ G H _ f s (fun v d G1 M1 H1 m1 s1 r1 q1 => q1 X ci B σ G1 H1 _ (f.move m1) s1 (fun vs ds G2 M2 H2 m2 s2 r2 q2 =>
    k _ _ G2 M2 H2 (m1.trans s1 m2) s2 (.cons (r1.mono m2.g) r2) q2) (x.move s1 m1)) x)
theorem ev_tup {es : List Expr} {x1 : Nat} (h : EvA L ρ M es (fun ds M1 => ds.length ≤ 100000 ∧ Q (.tup ds) M1) E) : Ev L ρ M (.Tuple es x1 pos) Q E := fun X ci B σ G H R f s k x =>
  wp_of (pe_tup pa_wp) (h X ci B σ G H _ f s (fun vs ds G1 M1 H1 m1 s1 r1 ⟨hz, q1⟩ => ⟨by rw [r1.length]; exact sz_of hz, fun p np => by
    obtain ⟨s2, m2⟩ := s1.newG (o := .tup vs) np (fun ps z => by cases z)
    exact k _ (.tup ds) _ M1 _ (m1.trans s1 m2) s2 ⟨p, vs, rfl, SqT.of upd_same, r1.mono m2.g⟩ q1⟩) x)
end
/-! ### lists that are new, and nobody's -/
def KF (g : Gx) (G : Gh) (H : Hp) (Q : List D → Store → Prop) (R : VK) : Prop := ∀ p vs ds G' M' H', Mv G H G' H' → Sta g G' H' M' → H p = none → G'.h p = none → p ∉ G'.A → H' p = some (.lst vs) → Reps g G' ds vs → Q ds M' → R (.ref p) H'
def EvF (L : Lx) (ρ : Ro) (M : Store) (e : Expr) (Q : List D → Store → Prop) (E : Nat → Store → Prop) : Prop :=
  ∀ X, CI L X → ∀ B σ G H (R : VK), Frm X L.g B G H σ ρ → Sta L.g G H M → KF L.g G H Q R → KX L.g X σ G H E → Wp X e σ H R
section
variable {L : Lx} {ρ : Ro} {M : Store} {Q : D → Store → Prop} {E : Nat → Store → Prop} {a b c e : Expr} {pos p : Pos} {oa : Out D} {QB : Bool → Store → Prop}
/-- a list just laid -/
theorem KF.laid {g : Gx} {G G1 : Gh} {H H1 : Hp} {M1 : Store} {Q : List D → Store → Prop} {R : VK} {q : Addr} {vs : List V} {ds : List D} (k : KF g G H Q R) (m1 : Mv G H G1 H1) (s1 : Sta g G1 H1 M1) (n : H1 q = none) (r : Reps g G1 ds vs) (h : Q ds M1) : R (.ref q) (upd H1 q (.lst vs)) := by
  obtain ⟨s2, m2⟩ := s1.newU (o := .lst vs) n
  refine k q vs ds G1 M1 _ (m1.trans s1 m2) s2 ?_ (s1.free n) (s1.notin n) upd_same r h
  cases e : H q with
  | none => rfl
  | some o => exact absurd n (m1.dom q (by rw [e]; intro z; cases z))
theorem EvF.ev (h : EvF L ρ M e (fun ds M' => Q (.lst ds) M') E) : Ev L ρ M e Q E := fun X ci B σ G H R f s k x =>
  h X ci B σ G H R f s (fun p vs ds G' M' H' m' s' n nG nA hp r q => by
    obtain ⟨s2, m2, l2⟩ := s'.freeze (B := ⟨G, H, none⟩) ⟨n, nG, nA⟩ hp (fun ps z => by cases z) m'
    exact k _ (.lst ds) _ M' H' m2 s2 ⟨p, vs, rfl, upd_same, r.mono l2⟩ q) x
theorem EvF.mono {Q Q' : List D → Store → Prop} {E' : Nat → Store → Prop} (h : EvF L ρ M e Q E) (hq : ∀ d M', Q d M' → Q' d M') (he : ∀ C M', E C M' → E' C M') : EvF L ρ M e Q' E' := fun X ci B σ G H R f s k x =>
  h X ci B σ G H R f s (fun p vs ds G' M' H' m' s' n nG nA hp r q => k p vs ds G' M' H' m' s' n nG nA hp r (hq _ _ q)) (fun C G' M' H' m s' q => x C G' M' H' m s' (he _ _ q))
theorem ef_lst {es : List Expr} {Q : List D → Store → Prop} (h : EvA L ρ M es (fun ds M1 => ds.length ≤ 100000 ∧ Q ds M1) E) : EvF L ρ M (.List es pos) Q E := fun X ci B σ G H R f s k x =>
  wp_of (pe_lst pa_wp) (h X ci B σ G H _ f s (fun vs ds G1 M1 H1 m1 s1 r1 ⟨hz, q1⟩ => ⟨by rw [r1.length]; exact sz_of hz, fun p np => k.laid m1 s1 np r1 q1⟩) x)

/-! ### subscripts -/
theorem Reps.atI {g : Gx} {G : Gh} {ds : List D} {vs : List V} {i : Int} {d : D} (h : Reps g G ds vs) (e : L2.atI ds i = some d) : ∃ v, L2.atI vs i = some v ∧ Rep g G d v := by
  unfold L2.atI at e ⊢
  rw [h.length]
  cases q : ixN ds.length i with
  | none => rw [q] at e; cases e
  | some j =>
    rw [q] at e
    obtain ⟨v, h1, h2⟩ := h.get (i := j) (d := d) e
    exact ⟨v, h1, h2⟩
theorem ev_ix {r : Cx → R2} (ho : ∀ X, CI L X → IxR X (r X)) (hp : PlainIx b) (ha : Ev L ρ M a (fun x M1 => Ev L ρ M1 b (fun y M2 => O2 L r x y M2 Q) E) E) : Ev L ρ M (.Subscript a b pos) Q E := fun X ci B σ G H R f s k x =>
  wp_of (pe_ix (ho X ci) pe_wp pe_wp hp) (ha X ci B σ G H _ f s (fun v d G1 M1 H1 m1 s1 r1 q1 =>
    q1 X ci B σ G1 H1 _ (f.move m1) s1 (fun u e G2 M2 H2 m2 s2 r2 q2 => q2 X ci G2 H2 v u R s2 (r1.mono m2.g) r2 ((k.move s1 m1).move s2 m2)) (x.move s1 m1)) x)
/-- the sequence that a datum is, read -/
theorem seqOf_rd {g : Gx} {G : Gh} {H : Hp} {M : Store} (s : Sta g G H M) {d : D} {ds : List D} {v : V} (h : seqOf M d = some ds) (r : Rep g G d v) : ∃ q vs, v = .ref q ∧ (SqL g.K H q vs ∨ SqT g.K H q vs) ∧ Reps g G ds vs := by
  unfold seqOf at h
  split at h
  · cases h; obtain ⟨q, vs, e, h1, h2⟩ := r; exact ⟨q, vs, e, .inr (ex_t s.ex h1), h2⟩
  · cases h; obtain ⟨q, vs, e, h1, h2⟩ := r; exact ⟨q, vs, e, .inl (SqL.of (s.ex _ _ h1)), h2⟩
  · cases h; obtain ⟨q, vs, e, h1, h2⟩ := r; exact ⟨q, vs, e, .inl (ex_l s.ex h1), h2⟩
  · obtain ⟨q, e, h1⟩ := r
    split at h
    · cases h
      rename_i ds hm
      obtain ⟨a, e1, _, vs, e2, e3⟩ := s.at hm
      rw [h1] at e1; cases e1
      exact ⟨q, vs, e, .inl (SqL.of e2), e3⟩
    · cases h
  · cases h
theorem o2_ix {x y z : D} (h : ixO M x y = some z) (q : Q z M) : O2 L (fun X => rIx X.K) x y M Q := fun X ci G H v u R s r1 r2 k => by
  unfold ixO at h
  split at h
  · rename_i i
    have hu : u = .int i := r2
    split at h
    · rename_i z0
      have hv : v = .str (mkS z0) := r1
      split at h
      · rename_i c hc
        obtain ⟨hb, rfl⟩ := grd_some h
        refine .inr (.inr ⟨mkS z0, i, c, hv, hu, ?_, ?_, ?_⟩)
        · rw [mkS_len]; exact sz_of (of_decide_eq_true hb)
        · show L2.atI (z0.toArray.toList) i = _; simpa using hc
        · exact k _ (.str [c]) G M H (.refl ..) s rep_str q
      · cases h
    · split at h
      · rename_i ds hs
        obtain ⟨p, vs, e, h1, h2⟩ := seqOf_rd s hs r1
        obtain ⟨w, hw, rw'⟩ := h2.atI h
        rcases h1 with h1 | h1
        · exact .inl ⟨p, vs, i, w, e, hu, by rw [ci.K]; exact h1, hw, k w _ G M H (.refl ..) s rw' q⟩
        · exact .inr (.inl ⟨p, vs, i, w, e, hu, by rw [ci.K]; exact h1, hw, k w _ G M H (.refl ..) s rw' q⟩)
      · cases h
  · cases h
theorem snd_ix {ob : D → Store → Out D} (hp : PlainIx b) (ha : EvO L ρ M a oa) (hb : ∀ x M1, oa = .ok x M1 → EvO L ρ M1 b (ob x M1)) : EvO L ρ M (.Subscript a b pos) (oa.bind fun x M1 => (ob x M1).bind fun y M2 => optO (ixO M2 x y) M2) := fun n =>
  ev_ix (r := fun X => rIx X.K) (fun X _ => ix_seq) hp ((ha.step n).mono (fun x M1 ⟨e0, n1, e1⟩ => ((hb x M1 e0).step n1).mono (fun y M2 ⟨_, n2, e2⟩ => by
    obtain ⟨z, hz, ez⟩ := optO_nb n2
    exact o2_ix hz ((e1.trans e2).trans ez)) fun C M2 e2 => e1.trans e2) fun _ _ z => z)
/-! ### slices -/
def EvP (L : Lx) (ρ : Ro) (M : Store) (e : Option Expr) (Q : Option Int → Store → Prop) (E : Nat → Store → Prop) : Prop := match e with
  | none => Q none M
  | some e => Ev L ρ M e (fun d M' => ∃ i, d = .int i ∧ Q (some i) M') E
theorem Reps.cut {g : Gx} {G : Gh} {ds : List D} {vs : List V} (h : Reps g G ds vs) (lo hi : Option Int) : Reps g G (cutD ds lo hi) (cutV vs lo hi) := by
  unfold cutD cutV
  rw [h.length]
  exact (h.drop _).take _
def WpO (X : Cx) (e : Option Expr) : TO := match e with
  | none => tNoPart
  | some e => tPart (Wp X e)
theorem po_wp {X : Cx} {e : Option Expr} : PO X e (WpO X e) := by
  cases e with
  | none => exact po_none
  | some e => exact po_some pe_wp
theorem wpO_of {e : Option Expr} {Q : Option Int → Store → Prop} (h : EvP L ρ M e Q E) {X : Cx} (ci : CI L X) {B : Bs} {σ : L2.St} {G : Gh} {H : Hp} {R : Option Int → Hp → Prop} (f : Frm X L.g B G H σ ρ) (s : Sta L.g G H M) (k : ∀ o G' M' H', Mv G H G' H' → Sta L.g G' H' M' → Q o M' → R o H') (x : KX L.g X σ G H E) : WpO X e σ H R := by
  cases e with
  | none => exact k none G M H (.refl ..) s h
  | some e =>
    refine h X ci B σ G H _ f s (fun v d G1 M1 H1 m1 s1 r1 ⟨i, e1, q⟩ => ?_) x
    subst e1
    exact ⟨i, r1, k _ G1 M1 H1 m1 s1 q⟩
theorem ef_cutL {lo hi : Option Expr} {p2 : Pos} {Q : List D → Store → Prop} (ha : Ev L ρ M a (fun d M1 => EvP L ρ M1 lo (fun l M2 => EvP L ρ M2 hi (fun u M3 => ∃ ds, (d = .lst ds ∨ d = .seq ds) ∧ Q (cutD ds l u) M3) E) E) E) : EvF L ρ M (.Subscript a (.Slice lo hi none p2) pos) Q E := fun X ci B σ G H R f s k x =>
  wp_of (pe_slice (sl_list (X := X)) pe_wp po_wp po_wp) (ha X ci B σ G H _ f s (fun v d G1 M1 H1 m1 s1 r1 h1 => wpO_of h1 ci (f.move m1) s1 (fun l G2 M2 H2 m2 s2 h2 => wpO_of h2 ci ((f.move m1).move m2) s2 (fun u G3 M3 H3 m3 s3 ⟨ds, hd, q⟩ => by
    have r3 := (r1.mono m2.g).mono m3.g
    obtain ⟨p, vs, rfl, hs, hr⟩ : ∃ p vs, v = .ref p ∧ SqL L.g.K G3.h p vs ∧ Reps L.g G3 ds vs := by
      rcases hd with hd | hd
      · subst hd; obtain ⟨p, vs, e, hh, hr⟩ := r3; exact ⟨p, vs, e, SqL.of hh, hr⟩
      · subst hd; exact r3
    refine ⟨p, vs, rfl, by rw [ci.K]; exact ex_l s3.ex hs, fun q' nq => ?_⟩
    exact k.laid ((m1.trans s1 m2).trans s2 m3) s3 nq (hr.cut l u) q) ((x.move s1 m1).move s2 m2)) (x.move s1 m1)) x)

/-! ### calls of the text's own defs -/
def spO (g : Gx) (fn : List D → Store → Out D) : Sp := fun vs H Q E => ∃ G M ds, Sta g G H M ∧ Reps g G ds vs ∧ fn ds M ≠ .bad ∧ KD g G H (Res (fn ds M)) Q ∧ (∀ C G' M' H', Mv G H G' H' → Sta g G' H' M' → fn ds M = .ex C M' → E (.ref (g.ca C)) none H')
/-- the module's name x holds a def that does what fn tells -/
structure Fn (g : Gx) (x : Str) (k : Nat) (fn : List D → Store → Out D) : Prop where
  ex : ∃ f fd ps, g.mg x = some (.ref f) ∧ PySem.W.keepIn g.K (.ref f) = true ∧ Binds g.K fd ps [] ∧ FnOk g.P g.w g.K g.mg g.base (L2.CX g.P g.w) k f fd ps (spO g fn)
theorem ev_call {x : Str} {k : Nat} {fn : List D → Store → Out D} {es : List Expr} (F : Fn L.g x k fn) (hk : k ≤ L.n) (hg : L.sc.names.lookup x = some .globalImplicit)
    (hs : ∀ env, starEach (a :: es) env = (false, eval a env) :: starEach es env) (hpl : ∀ env, (backTo pos (starEach es env)).any (·.1) = false) (h : EvA L ρ M (a :: es) (fun ds M1 => fn ds M1 ≠ .bad ∧ (∀ d M2, fn ds M1 = .ok d M2 → Q d M2) ∧ ∀ C M2, fn ds M1 = .ex C M2 → E C M2) E)
    (hdb : (x == ("__debug__" : Str)) = false) : Ev L ρ M (.Call (.Name x p) (a :: es) [] pos) Q E := fun X ci B σ G H R f s kk kx => by
  obtain ⟨ff, fd, ps, hm, hkp, hb, F⟩ := F.ex
  have F' : FnOk X.prog X.w X.K X.mg X.base (L2.CX X.prog X.w) k ff fd ps (spO L.g fn) := by rw [ci.prog, ci.w, ci.K, ci.mg, ci.base]; exact F
  refine wp_of (pe_callS F' (ci.room.mono hk) (ci.gl hg) (by rw [ci.mg]; exact hm) (by rw [ci.K]; exact hkp) (by rw [ci.K]; exact hb) (fun σ => passAt (takesT X) σ) (pa_wp (es := a :: es)) hdb (hs X.env) (hpl X.env)) ?_
  refine h X ci B σ G H _ f s (fun vs ds G1 M1 H1 m1 s1 r1 ⟨n, q1, q2⟩ => ?_) kx
  exact ⟨G1, M1, ds, s1, r1, n, fun v d G' M' H' m' s' r' e => (kk.move s1 m1) v d G' M' H' m' s' r' (q1 d M' e), fun C G' M' H' m' s' e => ⟨_, rfl, rfl, kx C G' M' H' (m1.trans s1 m') s' (q2 C M' e)⟩⟩
theorem ev_call0 {x : Str} {k : Nat} {fn : List D → Store → Out D} (F : Fn L.g x k fn) (hk : k ≤ L.n) (hg : L.sc.names.lookup x = some .globalImplicit)
    (n : fn [] M ≠ .bad) (q1 : ∀ d M2, fn [] M = .ok d M2 → Q d M2) (q2 : ∀ C M2, fn [] M = .ex C M2 → E C M2)
    (hdb : (x == ("__debug__" : Str)) = false) : Ev L ρ M (.Call (.Name x p) [] [] pos) Q E := fun X ci B σ G H R f s kk kx pins st I => by
  obtain ⟨ff, fd, ps, hm, hkp, hb, F⟩ := F.ex
  have F' : FnOk X.prog X.w X.K X.mg X.base (L2.CX X.prog X.w) k ff fd ps (spO L.g fn) := by rw [ci.prog, ci.w, ci.K, ci.mg, ci.base]; exact F
  refine wpAny_Call_Name_kw (ld_glob I (ci.gl hg) (by rw [ci.mg]; exact hm) ?_ hdb)
  refine PySem.W.callWith_K0 I.kIn (by rw [ci.K]; exact hkp) (run_fnS (us := []) (vs := []) F' (ci.room.mono hk) (by rw [ci.K]; exact hb) (passAt (takesT X) σ) I .nil ?_)
  exact ⟨G, M, [], s, Reps.nil, n, fun v d G' M' H' m' s' r' e => kk v d G' M' H' m' s' r' (q1 d M' e), fun C G' M' H' m' s' e => ⟨_, rfl, rfl, kx C G' M' H' m' s' (q2 C M' e)⟩⟩

/-! ### calls of built-ins -/
def OC (L : Lx) (r : Cx → List V → Hp → VK → Prop) (ds : List D) (M : Store) (Q : D → Store → Prop) : Prop :=
  ∀ X, CI L X → ∀ G H vs (R : VK), Sta L.g G H M → Reps L.g G ds vs → KD L.g G H Q R → r X vs H R
theorem ev_callB {r : Cx → List V → Hp → VK → Prop} {id : String} {x : Str} {es : List Expr} (hc : ∀ X, CI L X → CallR X (.builtin id) (r X)) (hg : L.sc.names.lookup x = some .globalImplicit) (hm : L.g.mg x = none) (hv : bootBuiltins x = some (.builtin id)) (hn : x ≠ "__name__") (hdb : (x == ("__debug__" : Str)) = false)
    (hs : ∀ env, starEach (a :: es) env = (false, eval a env) :: starEach es env) (hpl : ∀ env, (backTo pos (starEach es env)).any (·.1) = false) (h : EvA L ρ M (a :: es) (fun ds M1 => OC L r ds M1 Q) E) : Ev L ρ M (.Call (.Name x p) (a :: es) [] pos) Q E := fun X ci B σ G H R f s k kx =>
  wp_of (pe_callB (hc X ci) (ci.gl hg) (by rw [ci.mg]; exact hm) hv (pa_wp (es := a :: es)) hn hdb (hs X.env) (hpl X.env)) (h X ci B σ G H _ f s (fun vs ds G1 M1 H1 m1 s1 r1 q1 => q1 X ci G1 H1 vs R s1 r1 (k.move s1 m1)) kx)
theorem ev_callTy {r : Cx → List V → Hp → VK → Prop} {T : String} {x : Str} {es : List Expr} (hc : ∀ X, CI L X → CallR X (.type T) (r X)) (hg : L.sc.names.lookup x = some .globalImplicit) (hm : L.g.mg x = none) (hv : bootBuiltins x = some (.type T)) (hn : x ≠ "__name__") (hdb : (x == ("__debug__" : Str)) = false)
    (hs : ∀ env, starEach (a :: es) env = (false, eval a env) :: starEach es env) (hpl : ∀ env, (backTo pos (starEach es env)).any (·.1) = false) (h : EvA L ρ M (a :: es) (fun ds M1 => OC L r ds M1 Q) E) : Ev L ρ M (.Call (.Name x p) (a :: es) [] pos) Q E := fun X ci B σ G H R f s k kx =>
  wp_of (pe_callTy (hc X ci) (ci.gl hg) (by rw [ci.mg]; exact hm) hv (pa_wp (es := a :: es)) hn hdb (hs X.env) (hpl X.env)) (h X ci B σ G H _ f s (fun vs ds G1 M1 H1 m1 s1 r1 q1 => q1 X ci G1 H1 vs R s1 r1 (k.move s1 m1)) kx)
theorem oc_flat {r : Cx → List V → Hp → VK → Prop} {ds : List D} {z : D} {vz : V} (hf : ∀ G, Rep L.g G z vz) (h : ∀ X, CI L X → ∀ G H vs (R : VK), Sta L.g G H M → Reps L.g G ds vs → R vz H → r X vs H R) (q : Q z M) : OC L r ds M Q := fun X ci G H vs R s r1 k =>
  h X ci G H vs R s r1 (k _ _ G M H (.refl ..) s (hf G) q)
/-- a new list by a call of a built-in -/
def OF (L : Lx) (r : Cx → List V → Hp → VK → Prop) (ds : List D) (M : Store) (Q : List D → Store → Prop) : Prop :=
  ∀ X, CI L X → ∀ G H vs (R : VK), Sta L.g G H M → Reps L.g G ds vs → KF L.g G H Q R → r X vs H R
theorem KF.move {g : Gx} {G G1 : Gh} {H H1 : Hp} {M1 : Store} {Q : List D → Store → Prop} {R : VK} (k : KF g G H Q R) (s1 : Sta g G1 H1 M1) (m : Mv G H G1 H1) : KF g G1 H1 Q R := fun p vs ds G' M' H' m' s' n nG nA hp r q => k p vs ds G' M' H' (m.trans s1 m') s' (by
  cases e : H p with
  | none => rfl
  | some o => exact absurd n (m.dom p (by rw [e]; intro z; cases z))) nG nA hp r q
theorem ef_callTy {r : Cx → List V → Hp → VK → Prop} {T : String} {x : Str} {es : List Expr} {Q : List D → Store → Prop} (hc : ∀ X, CI L X → CallR X (.type T) (r X)) (hg : L.sc.names.lookup x = some .globalImplicit) (hm : L.g.mg x = none) (hv : bootBuiltins x = some (.type T)) (hn : x ≠ "__name__") (hdb : (x == ("__debug__" : Str)) = false)
    (hs : ∀ env, starEach (a :: es) env = (false, eval a env) :: starEach es env) (hpl : ∀ env, (backTo pos (starEach es env)).any (·.1) = false) (h : EvA L ρ M (a :: es) (fun ds M1 => OF L r ds M1 Q) E) : EvF L ρ M (.Call (.Name x p) (a :: es) [] pos) Q E := fun X ci B σ G H R f s k kx =>
  wp_of (pe_callTy (hc X ci) (ci.gl hg) (by rw [ci.mg]; exact hm) hv (pa_wp (es := a :: es)) hn hdb (hs X.env) (hpl X.env)) (h X ci B σ G H _ f s (fun vs ds G1 M1 H1 m1 s1 r1 q1 => q1 X ci G1 H1 vs R s1 r1 (k.move s1 m1)) kx)
theorem ef_callB {r : Cx → List V → Hp → VK → Prop} {id : String} {x : Str} {es : List Expr} {Q : List D → Store → Prop} (hc : ∀ X, CI L X → CallR X (.builtin id) (r X)) (hg : L.sc.names.lookup x = some .globalImplicit) (hm : L.g.mg x = none) (hv : bootBuiltins x = some (.builtin id)) (hn : x ≠ "__name__") (hdb : (x == ("__debug__" : Str)) = false)
    (hs : ∀ env, starEach (a :: es) env = (false, eval a env) :: starEach es env) (hpl : ∀ env, (backTo pos (starEach es env)).any (·.1) = false) (h : EvA L ρ M (a :: es) (fun ds M1 => OF L r ds M1 Q) E) : EvF L ρ M (.Call (.Name x p) (a :: es) [] pos) Q E := fun X ci B σ G H R f s k kx =>
  wp_of (pe_callB (hc X ci) (ci.gl hg) (by rw [ci.mg]; exact hm) hv (pa_wp (es := a :: es)) hn hdb (hs X.env) (hpl X.env)) (h X ci B σ G H _ f s (fun vs ds G1 M1 H1 m1 s1 r1 q1 => q1 X ci G1 H1 vs R s1 r1 (k.move s1 m1)) kx)
end
end PI
set_option Elab.async false
set_option linter.all false
set_option maxRecDepth 100000
set_option maxHeartbeats 4000000
/-! PE: targets, what is walked, comprehensions. -/
namespace PI
open PySem L2
abbrev Glo (L : Lx) (x : Str) : Prop := L.sc.names.lookup x = some NameKind.globalImplicit
/-! ### targets -/
structure NameOk (L : Lx) (e : Expr) (j : Nat) : Prop where
  ex : ∃ x p, e = .Name x p ∧ L.N[j]? = some x ∧ Loc L.sc x ∧ (L.fn x = true ∨ L.sc.names.lookup x = some .local)
def NamesOk (L : Lx) : List Expr → List Nat → Prop
  | [], [] => True
  | e :: es, j :: js => NameOk L e j ∧ NamesOk L es js
  | _, _ => False
def PatOk (L : Lx) (tg : Expr) : Pat → Prop
  | .nm j => NameOk L tg j
  | .tp js => ∃ es k p, tg = .Tuple es k p ∧ NamesOk L es js
def gNames : List Nat → TGs
  | [] => gNil
  | j :: js => gCons (gName j) (gNames js)
def gP (K : PySem.W.Frag) : Pat → TG
  | .nm j => gName j
  | .tp js => gTup K js.length (gNames js)
theorem NameOk.pg {L : Lx} {e : Expr} {j : Nat} (h : NameOk L e j) {X : Cx} (ci : CI L X) : PG X e (gName j) := by
  obtain ⟨x, p, rfl, h1, h2, h3⟩ := h.ex
  exact pg_name (X := X) (by rw [ci.N]; exact ci.nd) (by rw [ci.N]; exact h1) (by rw [ci.sc]; exact h2) (by rw [ci.fn, ci.sc]; exact h3)
theorem NamesOk.each {L : Lx} : ∀ {es : List Expr} {js : List Nat}, NamesOk L es js → ∀ env, (assignEach es env).length = js.length ∧ (assignEach es env).findIdx? (·.1) = none
  | [], [], _, env => ⟨rfl, rfl⟩
  | e :: es, j :: js, h, env => by
    obtain ⟨h1, h2⟩ := h
    obtain ⟨x, p, rfl, _⟩ := h1.ex
    obtain ⟨a, b⟩ := NamesOk.each h2 env
    refine ⟨by show (assignEach es env).length + 1 = js.length + 1; rw [a], ?_⟩
    show ((false, assign (.Name x p) env) :: assignEach es env).findIdx? (·.1) = none
    rw [List.findIdx?_cons, b]; rfl
  | [], _ :: _, h, _ => h.elim
  | _ :: _, [], h, _ => h.elim
theorem NamesOk.pgs {L : Lx} : ∀ {es : List Expr} {js : List Nat}, NamesOk L es js → ∀ {X : Cx}, CI L X → PGs X es (gNames js)
  | [], [], _, X, ci => pgs_nil
  | e :: es, j :: js, h, X, ci => pgs_cons (h.1.pg ci) (NamesOk.pgs h.2 ci) (by obtain ⟨x, p, rfl, _⟩ := h.1.ex; rfl)
  | [], _ :: _, h, _, _ => h.elim
  | _ :: _, [], h, _, _ => h.elim
theorem PatOk.pg {L : Lx} {tg : Expr} {pt : Pat} (h : PatOk L tg pt) {X : Cx} (ci : CI L X) : PG X tg (gP L.g.K pt) := by
  cases pt with
  | nm j => exact NameOk.pg h ci
  | tp js =>
    obtain ⟨es, k, p, rfl, h⟩ := h
    obtain ⟨a, b⟩ := h.each X.env
    have := pg_tup (X := X) (k := k) (pos := p) ci.calm (h.pgs ci) (n := js.length) a b
    rw [ci.K] at this
    exact this
/-! ### the block's own names forgotten -/
section
variable {X X' : Cx} {g : Gx} {B : Bs} {G : Gh} {H : Hp} {σ τ : L2.St} {ρ ρ' : Ro} {vs0 : List Nat}
theorem Frm.wipe (h : Frm X g B G H σ ρ) : ∀ vs : List Nat, Frm X g B G H (L2.wipe σ vs) (wipeR ρ vs)
  | [] => h
  | v :: vs => (Frm.wipe h vs).unset
def unLam : Slot → Slot
  | .lam _ => .un
  | s => s
theorem noLam_eq (ρ : Ro) : noLam ρ = ρ.map unLam := by
  unfold noLam
  congr 1
/-- in another context, the functions forgotten -/
theorem Frm.noLam (h : Frm X g B G H σ ρ) : Frm X' g B G H σ (noLam ρ) := by
  rw [noLam_eq]
  refine ⟨by rw [List.length_map]; exact h.len, fun i s hs => ?_, fun i j s t a ij hi hj so to ei ej => ?_⟩
  · rw [List.getElem?_map] at hs
    cases q : ρ[i]? with
    | none => rw [q] at hs; cases hs
    | some u =>
      rw [q] at hs
      cases hs
      have := h.at_ i u q
      cases u with
      | un => trivial
      | v d => exact this
      | own ds => exact this
      | ob c ns ds => exact this
      | dc ks us => exact this
      | lam ks => trivial
  · rw [List.getElem?_map] at hi hj
    have key : ∀ {k : Nat} {u : Slot}, (ρ[k]?).map unLam = some u → u.isOwn = true → ∃ w, ρ[k]? = some w ∧ w.isOwn = true := fun {k u} e o => by
      cases q : ρ[k]? with
      | none => rw [q] at e; cases e
      | some w =>
        rw [q] at e
        refine ⟨w, rfl, ?_⟩
        have e : unLam w = u := Option.some.inj e
        subst e
        cases w <;> first | exact o | cases o
    obtain ⟨w1, a1, a2⟩ := key hi so
    obtain ⟨w2, b1, b2⟩ := key hj to
    exact h.sep i j w1 w2 a ij a1 b1 a2 b2 ei ej
theorem wipe_in {σ : L2.St} {i : Nat} : ∀ {vs : List Nat}, i ∈ vs → (L2.wipe σ vs)[i]? = if i < σ.length then some none else none
  | v :: vs, h => by
    show ((L2.wipe σ vs).set v none)[i]? = _
    by_cases hv : v = i
    · subst hv
      by_cases hl : v < σ.length
      · rw [List.getElem?_set_self (by rw [wipe_length]; exact hl), if_pos hl]
      · rw [if_neg hl]; exact List.getElem?_eq_none (by rw [List.length_set, wipe_length]; omega)
    · rw [List.getElem?_set_ne hv]
      exact wipe_in (by rcases List.mem_cons.mp h with e | e; exact absurd e.symm hv; exact e)
theorem wipe_eq {σ τ : L2.St} {vs : List Nat} (hl : σ.length = τ.length) (h : ∀ i, i ∉ vs → σ[i]? = τ[i]?) : L2.wipe σ vs = L2.wipe τ vs := by
  refine List.ext_getElem? fun i => ?_
  by_cases hi : i ∈ vs
  · rw [wipe_in hi, wipe_in hi, hl]
  · rw [wipe_out hi, wipe_out hi]; exact h i hi
theorem wipe_set {σ τ : L2.St} {vs : List Nat} {j : Nat} {x : Option V} (hj : j ∈ vs) (h : L2.wipe σ vs = L2.wipe τ vs) : L2.wipe (σ.set j x) vs = L2.wipe τ vs := by
  rw [← h]
  exact wipe_eq (by simp) fun i hi => List.getElem?_set_ne (fun e => hi (by rw [← e]; exact hj))
theorem wipe_wipe (σ : L2.St) (vs : List Nat) : L2.wipe (L2.wipe σ vs) vs = L2.wipe σ vs := wipe_eq (wipe_length σ vs) fun i hi => wipe_out hi
/-- a target's reading -/
theorem setAll_read : ∀ {js : List Nat} {ds : List D} {vs : List V} {σ : L2.St} {ρ : Ro} {R : L2.St → Hp → Prop}, (∀ j ∈ js, j ∈ vs0) → ds.length = js.length → Reps g G ds vs → Frm X g B G H σ ρ → L2.wipe σ vs0 = L2.wipe τ vs0 →
    (∀ σ', Frm X g B G H σ' (setAll ρ js ds) → L2.wipe σ' vs0 = L2.wipe τ vs0 → R σ' H) → gNames js vs σ H R
  | [], [], _, σ, ρ, R, _, _, hr, f, hw, k => by
    have hr : _ = [] := hr
    exact ⟨hr, k σ f hw⟩
  | j :: js, d :: ds, _, σ, ρ, R, hj, hl, hr, f, hw, k => by
    obtain ⟨v, ws, rfl, h1, h2⟩ := hr
    refine ⟨v, ws, rfl, ?_⟩
    show gNames js ws (σ.set j (some v)) H R
    exact setAll_read (ρ := ρ.set j (.v d)) (fun i hi => hj i (List.mem_cons_of_mem _ hi)) (by simpa using hl) h2 (f.set h1) (wipe_set (hj j List.mem_cons_self) hw) k
  | [], _ :: _, _, _, _, _, _, hl, _, _, _, _ => by simp at hl
  | _ :: _, [], _, _, _, _, _, hl, _, _, _, _ => by simp at hl
theorem pat_read {pt : Pat} {d : D} {v : V} {R : L2.St → Hp → Prop} (ha : asg pt ρ d = some ρ') (hj : ∀ j ∈ pt.js, j ∈ vs0) (r : Rep g G d v) (e : Same G.h H) (f : Frm X g B G H σ ρ) (hw : L2.wipe σ vs0 = L2.wipe τ vs0)
    (k : ∀ σ', Frm X g B G H σ' ρ' → L2.wipe σ' vs0 = L2.wipe τ vs0 → R σ' H) : gP g.K pt v σ H R := by
  cases pt with
  | nm j =>
    have ha : some (ρ.set j (.v d)) = some ρ' := by cases d <;> exact ha
    cases ha
    exact k _ (f.set r) (wipe_set (hj j List.mem_cons_self) hw)
  | tp js =>
    cases d with
    | tup ds =>
      have ha : (if ds.length = js.length then some (setAll ρ js ds) else none) = some ρ' := ha
      split at ha
      · rename_i hl
        cases ha
        obtain ⟨a, vs, rfl, h1, h2⟩ := r
        exact ⟨a, vs, rfl, ex_t e h1, by rw [h2.length, hl], setAll_read hj hl h2 f hw k⟩
      · cases ha
    | _ => cases ha
end

theorem map_set {ρ : Ro} {j : Nat} {s : Slot} : (ρ.set j s).map unLam = (ρ.map unLam).set j (unLam s) := by rw [List.map_set]
theorem noLam_wipe {ρ : Ro} : ∀ {vs : List Nat}, noLam (wipeR (noLam ρ) vs) = wipeR (noLam ρ) vs
  | [] => by
    show noLam (noLam ρ) = noLam ρ
    rw [noLam_eq, noLam_eq, List.map_map]
    congr 1
    funext s
    cases s <;> rfl
  | v :: vs => by
    show noLam ((wipeR (noLam ρ) vs).set v .un) = (wipeR (noLam ρ) vs).set v .un
    have := noLam_wipe (ρ := ρ) (vs := vs)
    rw [noLam_eq] at this ⊢
    rw [map_set, this]; rfl
theorem noLam_setAll : ∀ {js : List Nat} {ds : List D} {ρ : Ro}, noLam ρ = ρ → noLam (setAll ρ js ds) = setAll ρ js ds
  | [], ds, ρ, h => by cases ds <;> exact h
  | j :: js, [], ρ, h => h
  | j :: js, d :: ds, ρ, h => noLam_setAll (js := js) (ds := ds) (ρ := ρ.set j (.v d)) (by rw [noLam_eq] at h ⊢; rw [map_set, h]; rfl)
theorem noLam_asg {pt : Pat} {ρ ρ' : Ro} {d : D} (h : noLam ρ = ρ) (ha : asg pt ρ d = some ρ') : noLam ρ' = ρ' := by
  cases pt with
  | nm j =>
    have ha : some (ρ.set j (.v d)) = some ρ' := by cases d <;> exact ha
    cases ha
    rw [noLam_eq] at h ⊢; rw [map_set, h]; rfl
  | tp js =>
    cases d with
    | tup ds =>
      have ha : (if ds.length = js.length then some (setAll ρ js ds) else none) = some ρ' := ha
      split at ha
      · cases ha; exact noLam_setAll h
      · cases ha
    | _ => cases ha
/-! ### what is walked -/
structure Serves (g : Gx) (G1 : Gh) (J : It) (ds : List D) : Prop where
  go : ∀ i d, ds[i]? = some d → ∀ G' H' M, G1.le G' → Sta g G' H' M → J.go i H' ∧ ∀ x H'', J.yld i H' x H'' → ∃ G'', Sta g G'' H'' M ∧ Mv G' H' G'' H'' ∧ Rep g G'' d x
  stop : ∀ G' H' M, G1.le G' → Sta g G' H' M → J.stop ds.length H'
def WpI (X : Cx) (tg iter : Expr) : TI := fun σ H R => ∀ pins s, Inv X pins σ H s → wpAny (model X.prog X.w) X.A (eval iter X.env) (fun v s1 => wpAny (model X.prog X.w) X.A (pyIter v) (PIE X pins σ tg R) X.xe s1) X.xe s
theorem pi_wp {X : Cx} {tg iter : Expr} : PI X tg iter (WpI X tg iter) := ⟨fun pins s _ _ _ I h => h pins s I⟩
theorem wpI_of {X : Cx} {tg iter : Expr} {wi : TI} {σ : L2.St} {H : Hp} {R : It → Hp → Prop} (h : PI X tg iter wi) (q : wi σ H R) : WpI X tg iter σ H R := fun pins s I => h.run pins s σ H R I q
def Src (L : Lx) (ρ : Ro) (M : Store) (tg iter : Expr) (Q : List D → Store → Prop) (E : Nat → Store → Prop) : Prop :=
  ∀ X, CI L X → ∀ B σ G H (R : It → Hp → Prop), Frm X L.g B G H σ ρ → Sta L.g G H M → (∀ J ds G1 M1 H1, Mv G H G1 H1 → Sta L.g G1 H1 M1 → Serves L.g G1 J ds → Q ds M1 → R J H1) → KX L.g X σ G H E → WpI X tg iter σ H R
def SrcO (L : Lx) (ρ : Ro) (M : Store) (tg iter : Expr) (o : Out (List D)) : Prop := o ≠ .bad → Src L ρ M tg iter (fun ds M' => o = .ok ds M') (ResX o)
theorem Src.mono {L : Lx} {ρ : Ro} {M : Store} {tg iter : Expr} {Q Q' : List D → Store → Prop} {E E' : Nat → Store → Prop} (h : Src L ρ M tg iter Q E) (hq : ∀ ds M', Q ds M' → Q' ds M') (he : ∀ C M', E C M' → E' C M') : Src L ρ M tg iter Q' E' := fun X ci B σ G H R f s k x =>
  h X ci B σ G H R f s (fun J ds G1 M1 H1 m1 s1 sv q => k J ds G1 M1 H1 m1 s1 sv (hq _ _ q)) (fun C G' M' H' m s' q => x C G' M' H' m s' (he _ _ q))
theorem SrcO.step {L : Lx} {ρ : Ro} {M : Store} {tg iter : Expr} {oa : Out (List D)} {β : Type} {k : List D → Store → Out β} (h : SrcO L ρ M tg iter oa) (n : oa.bind k ≠ .bad) : Src L ρ M tg iter (fun x M1 => oa = .ok x M1 ∧ k x M1 ≠ .bad ∧ oa.bind k = k x M1) (fun C M1 => oa.bind k = .ex C M1) :=
  (h (Out.nb n)).mono (fun x M1 q => ⟨q, by rw [q] at n; exact n, by rw [q]; rfl⟩) fun C M1 q => by rw [q]; rfl
section
variable {L : Lx} {ρ : Ro} {M : Store} {E : Nat → Store → Prop} {tg a b c : Expr} {pos p : Pos} {Q : List D → Store → Prop} {oa : Out D}
theorem serves_list {g : Gx} {G1 : Gh} {q : Addr} {vs : List V} {ds : List D} (h1 : SqL g.K G1.h q vs) (h2 : Reps g G1 ds vs) : Serves g G1 (Itl g.K q) ds where
  go := fun i d hd G' H' M e s => by
    obtain ⟨v, hv, r⟩ := h2.get hd
    have h1' := ex_l s.ex (ex_l e.h h1)
    refine ⟨⟨vs, v, h1', hv⟩, fun x H'' ⟨e1, e2⟩ => ?_⟩
    subst e1
    refine ⟨G', s, .refl .., ?_⟩
    have ex : vs[i]? = some x := e2 vs h1'
    rw [hv] at ex
    cases ex
    exact r.mono e
  stop := fun G' H' M e s => ⟨vs, ex_l s.ex (ex_l e.h h1), by rw [h2.length]; exact Nat.le_refl _⟩
theorem serves_tup {g : Gx} {G1 : Gh} {q : Addr} {vs : List V} {ds : List D} (h1 : SqT g.K G1.h q vs) (h2 : Reps g G1 ds vs) : Serves g G1 (Itt g.K q) ds where
  go := fun i d hd G' H' M e s => by
    obtain ⟨v, hv, r⟩ := h2.get hd
    have h1' := ex_t s.ex (ex_t e.h h1)
    refine ⟨⟨vs, v, h1', hv⟩, fun x H'' ⟨e1, e2⟩ => ?_⟩
    subst e1
    refine ⟨G', s, .refl .., ?_⟩
    have ex : vs[i]? = some x := e2 vs h1'
    rw [hv] at ex
    cases ex
    exact r.mono e
  stop := fun G' H' M e s => ⟨vs, ex_t s.ex (ex_t e.h h1), by rw [h2.length]; exact Nat.le_refl _⟩
theorem rangeD_at {i j : Int} {t : Nat} {d : D} (h : (rangeD i j)[t]? = some d) : t < (j - i).toNat ∧ d = .int (i + (t : Int)) := by
  unfold rangeD at h
  rw [List.getElem?_map] at h
  by_cases ht : t < (j - i).toNat
  · rw [List.getElem?_range ht] at h
    exact ⟨ht, (Option.some.inj h).symm⟩
  · rw [List.getElem?_eq_none (by simpa using ht)] at h; cases h
theorem rangeD_len {i j : Int} : (rangeD i j).length = (j - i).toNat := by unfold rangeD; simp
theorem serves_range {g : Gx} {G1 : Gh} (i j : Int) : Serves g G1 (Itr i (j - i).toNat) (rangeD i j) where
  go := fun t d hd G' H' M e s => by
    obtain ⟨ht, rfl⟩ := rangeD_at hd
    exact ⟨ht, fun x H'' ⟨e1, e2⟩ => by subst e1; subst e2; exact ⟨G', s, .refl .., rep_int⟩⟩
  stop := fun G' H' M e s => by rw [rangeD_len]; exact Nat.le_refl _
theorem enumD_at {ds : List D} {t : Nat} {d : D} (h : (enumD ds)[t]? = some d) : ∃ x, ds[t]? = some x ∧ d = .tup [.int (t : Int), x] := by
  unfold enumD at h
  rw [List.getElem?_map] at h
  by_cases ht : t < ds.length
  · rw [List.getElem?_range ht] at h
    refine ⟨ds[t], List.getElem?_eq_getElem ht, ?_⟩
    have h := Option.some.inj h
    rw [← h]
    show D.tup [D.int (t : Int), ds.getD t .non] = _
    rw [List.getD_eq_getElem?_getD, List.getElem?_eq_getElem ht]; rfl
  · rw [List.getElem?_eq_none (by simpa using ht)] at h; cases h
theorem enumD_len {ds : List D} : (enumD ds).length = ds.length := by unfold enumD; simp
theorem serves_enum {g : Gx} {G1 : Gh} {q : Addr} {vs : List V} {ds : List D} (h1 : SqL g.K G1.h q vs) (h2 : Reps g G1 ds vs) : Serves g G1 (Ite g.K q) (enumD ds) where
  go := fun i d hd G' H' M e s => by
    obtain ⟨x0, hx, rfl⟩ := enumD_at hd
    obtain ⟨v, hv, r⟩ := h2.get hx
    have h1' := ex_l s.ex (ex_l e.h h1)
    refine ⟨⟨vs, v, h1', hv⟩, fun w H'' ⟨T, x, ew, nT, eH, e2⟩ => ?_⟩
    subst ew; subst eH
    have ex : vs[i]? = some x := e2 vs h1'
    rw [hv] at ex
    cases ex
    obtain ⟨s', m'⟩ := s.newG (o := .tup [.int (i : Nat), v]) nT (fun ps z => by cases z)
    exact ⟨_, s', m', T, _, rfl, SqT.of upd_same, .cons rep_int (.one ((r.mono e).mono m'.g))⟩
  stop := fun G' H' M e s => ⟨vs, ex_l s.ex (ex_l e.h h1), by rw [h2.length, enumD_len]; exact Nat.le_refl _⟩
theorem zipD_at : ∀ {xs ys : List D} {t : Nat} {d : D}, (zipD xs ys)[t]? = some d → ∃ x y, xs[t]? = some x ∧ ys[t]? = some y ∧ d = .tup [x, y]
  | [], _, _, _, h => by simp [zipD] at h
  | _ :: _, [], _, _, h => by simp [zipD] at h
  | x :: xs, y :: ys, 0, d, h => by
    simp [zipD] at h
    exact ⟨x, y, rfl, rfl, h.symm⟩
  | x :: xs, y :: ys, t + 1, d, h => by
    obtain ⟨x', y', h1, h2, h3⟩ := zipD_at (xs := xs) (ys := ys) (t := t) (by simpa [zipD] using h)
    exact ⟨x', y', by simpa using h1, by simpa using h2, h3⟩
theorem zipD_len : ∀ {xs ys : List D}, (zipD xs ys).length = min xs.length ys.length
  | [], ys => by simp [zipD]
  | _ :: _, [] => by simp [zipD]
  | x :: xs, y :: ys => by simp [zipD, zipD_len (xs := xs) (ys := ys)]
theorem serves_zipL {g : Gx} {G1 : Gh} {q q' : Addr} {vs us : List V} {xs ys : List D} (h1 : SqL g.K G1.h q vs) (h2 : Reps g G1 xs vs) (h3 : SqL g.K G1.h q' us) (h4 : Reps g G1 ys us) : Serves g G1 (Itz g.K q q') (zipD xs ys) where
  go := fun i d hd G' H' M e s => by
    obtain ⟨x0, y0, hx, hy, rfl⟩ := zipD_at hd
    obtain ⟨v, hv, r⟩ := h2.get hx
    obtain ⟨u, hu, r'⟩ := h4.get hy
    have h1' := ex_l s.ex (ex_l e.h h1)
    have h3' := ex_l s.ex (ex_l e.h h3)
    refine ⟨⟨vs, us, v, u, h1', h3', hv, hu⟩, fun w H'' ⟨T, x, y, ew, nT, eH, e2, e3⟩ => ?_⟩
    subst ew; subst eH
    have ex : vs[i]? = some x := e2 vs h1'
    have ey : us[i]? = some y := e3 us h3'
    rw [hv] at ex; rw [hu] at ey
    cases ex; cases ey
    obtain ⟨s', m'⟩ := s.newG (o := .tup [v, u]) nT (fun ps z => by cases z)
    exact ⟨_, s', m', T, _, rfl, SqT.of upd_same, .cons ((r.mono e).mono m'.g) (.one ((r'.mono e).mono m'.g))⟩
  stop := fun G' H' M e s => ⟨vs, us, ex_l s.ex (ex_l e.h h1), ex_l s.ex (ex_l e.h h3), by rw [h2.length, h4.length, zipD_len]; omega⟩
theorem serves_zipT {g : Gx} {G1 : Gh} {q q' : Addr} {vs us : List V} {xs ys : List D} (h1 : SqT g.K G1.h q vs) (h2 : Reps g G1 xs vs) (h3 : SqT g.K G1.h q' us) (h4 : Reps g G1 ys us) : Serves g G1 (RZ.ItzT g.K q q') (zipD xs ys) where
  go := fun i d hd G' H' M e s => by
    obtain ⟨x0, y0, hx, hy, rfl⟩ := zipD_at hd
    obtain ⟨v, hv, r⟩ := h2.get hx
    obtain ⟨u, hu, r'⟩ := h4.get hy
    have h1' := ex_t s.ex (ex_t e.h h1)
    have h3' := ex_t s.ex (ex_t e.h h3)
    refine ⟨⟨vs, us, v, u, h1', h3', hv, hu⟩, fun w H'' ⟨T, x, y, ew, nT, eH, e2, e3⟩ => ?_⟩
    subst ew; subst eH
    have ex : vs[i]? = some x := e2 vs h1'
    have ey : us[i]? = some y := e3 us h3'
    rw [hv] at ex; rw [hu] at ey
    cases ex; cases ey
    obtain ⟨s', m'⟩ := s.newG (o := .tup [v, u]) nT (fun ps z => by cases z)
    exact ⟨_, s', m', T, _, rfl, SqT.of upd_same, .cons ((r.mono e).mono m'.g) (.one ((r'.mono e).mono m'.g))⟩
  stop := fun G' H' M e s => ⟨vs, us, ex_t s.ex (ex_t e.h h1), ex_t s.ex (ex_t e.h h3), by rw [h2.length, h4.length, zipD_len]; omega⟩
theorem rep_lst {g : Gx} {G : Gh} {d : D} {ds : List D} {v : V} (hd : d = .lst ds ∨ d = .seq ds) (r : Rep g G d v) : ∃ p vs, v = .ref p ∧ SqL g.K G.h p vs ∧ Reps g G ds vs := by
  rcases hd with hd | hd
  · subst hd; obtain ⟨p, vs, e, hh, hr⟩ := r; exact ⟨p, vs, e, SqL.of hh, hr⟩
  · subst hd; exact r
theorem src_list (h : Ev L ρ M a (fun d M1 => ∃ ds, (d = .lst ds ∨ d = .seq ds) ∧ Q ds M1) E) : Src L ρ M tg a Q E := fun X ci B σ G H R f s k x =>
  wpI_of (pi_list pe_wp) (h X ci B σ G H _ f s (fun v d G1 M1 H1 m1 s1 r1 ⟨ds, hd, q⟩ => by
    obtain ⟨p, vs, rfl, hs, hr⟩ := rep_lst hd r1
    refine ⟨p, rfl, ⟨vs, by rw [ci.K]; exact ex_l s1.ex hs⟩, ?_⟩
    rw [ci.K]
    exact k _ _ G1 M1 H1 m1 s1 (serves_list hs hr) q) x)
theorem src_tup (h : Ev L ρ M a (fun d M1 => ∃ ds, d = .tup ds ∧ Q ds M1) E) : Src L ρ M tg a Q E := fun X ci B σ G H R f s k x =>
  wpI_of (pi_tup pe_wp) (h X ci B σ G H _ f s (fun v d G1 M1 H1 m1 s1 r1 ⟨ds, hd, q⟩ => by
    subst hd
    obtain ⟨p, vs, rfl, hs, hr⟩ := r1
    refine ⟨p, rfl, ⟨vs, by rw [ci.K]; exact ex_t s1.ex hs⟩, ?_⟩
    rw [ci.K]
    exact k _ _ G1 M1 H1 m1 s1 (serves_tup hs hr) q) x)
theorem sno_seq (h : EvO L ρ M a oa) : SrcO L ρ M tg a (oa.bind fun x M => optO (seqF x) M) := fun n => by
  cases oa with
  | bad => exact absurd rfl n
  | ex C M1 => exact src_list ((h (fun z => by cases z)).mono (fun d M' z => by cases z) fun C' M' z => by cases z; rfl)
  | ok d M1 =>
    have h := h (fun z => by cases z)
    cases d with
    | tup ds => exact src_tup (h.mono (fun d M' z => by cases z; exact ⟨ds, rfl, rfl⟩) fun C' M' z => by cases z)
    | lst ds => exact src_list (h.mono (fun d M' z => by cases z; exact ⟨ds, .inl rfl, rfl⟩) fun C' M' z => by cases z)
    | seq ds => exact src_list (h.mono (fun d M' z => by cases z; exact ⟨ds, .inr rfl, rfl⟩) fun C' M' z => by cases z)
    | _ => exact absurd rfl n
theorem okR_iff {i : Int} (h : okR i = true) : -(2 ^ 62) ≤ i ∧ i < 2 ^ 62 := by
  unfold okR at h
  simp only [Bool.and_eq_true, decide_eq_true_eq] at h
  omega
theorem src_range1 (hg : Glo L "range") (hm : L.g.mg "range" = none) (hs : ∀ env, starEach [a] env = (false, eval a env) :: starEach [] env) (h : Ev L ρ M a (fun d M1 => ∃ n : Int, d = .int n ∧ okR n = true ∧ Q (rangeD 0 n) M1) E) : Src L ρ M tg (.Call (.Name "range" p) [a] [] pos) Q E := fun X ci B σ G H R f s k x =>
  wpI_of (pi_range1 (X := X) (ci.gl hg) (by rw [ci.mg]; exact hm) pa_wp (hs X.env)) (ea_cons (Q := fun ds M1 => ∃ n : Int, ds = [.int n] ∧ okR n = true ∧ Q (rangeD 0 n) M1) hs (h.mono (fun d M1 ⟨n, e, h1, q⟩ => ea_nil (E := E) ⟨n, by rw [e], h1, q⟩) fun _ _ z => z) X ci B σ G H _ f s (fun vs ds G1 M1 H1 m1 s1 r1 ⟨n, e, h1, q⟩ => by
    subst e
    obtain ⟨u, rfl, r2⟩ := r1.of_one
    have r2 : u = .int n := r2
    subst r2
    obtain ⟨b1, b2⟩ := okR_iff h1
    have sv := serves_range (g := L.g) (G1 := G1) 0 n
    rw [show n - 0 = n by omega] at sv
    exact ⟨n, rfl, b1, b2, k _ _ G1 M1 H1 m1 s1 sv q⟩) x)
theorem src_range2 (hg : Glo L "range") (hm : L.g.mg "range" = none) (hs : ∀ env, starEach [a, b] env = (false, eval a env) :: starEach [b] env) (hs2 : ∀ env, starEach [b] env = (false, eval b env) :: starEach [] env)
    (h : Ev L ρ M a (fun d M1 => Ev L ρ M1 b (fun e M2 => ∃ i j : Int, d = .int i ∧ e = .int j ∧ (okR i && okR j) = true ∧ Q (rangeD i j) M2) E) E) : Src L ρ M tg (.Call (.Name "range" p) [a, b] [] pos) Q E := fun X ci B σ G H R f s k x =>
  wpI_of (pi_range2 (X := X) (ci.gl hg) (by rw [ci.mg]; exact hm) pa_wp (by rw [hs, hs2]; rfl) (by rw [hs2]; rfl)) (ea_cons (Q := fun ds M1 => ∃ i j : Int, ds = [.int i, .int j] ∧ (okR i && okR j) = true ∧ Q (rangeD i j) M1) hs (h.mono (fun d M1 h => ea_cons (E := E) hs2 (h.mono (fun e M2 ⟨i, j, e1, e2, h1, q⟩ => ea_nil (E := E) ⟨i, j, by rw [e1, e2], h1, q⟩) fun _ _ z => z)) fun _ _ z => z) X ci B σ G H _ f s (fun vs ds G1 M1 H1 m1 s1 r1 ⟨i, j, e, h1, q⟩ => by
    subst e
    obtain ⟨u, u2, rfl, r3, r2⟩ := r1.of_two
    have r3 : u = .int i := r3
    have r2 : u2 = .int j := r2
    subst r3; subst r2
    obtain ⟨b1, b2⟩ := Bool.and_eq_true_iff.mp h1
    obtain ⟨c1, c2⟩ := okR_iff b1
    obtain ⟨c3, c4⟩ := okR_iff b2
    exact ⟨i, j, rfl, ⟨c1, c2, c3, c4⟩, k _ _ G1 M1 H1 m1 s1 (serves_range i j) q⟩) x)
theorem src_enum {elts : List Expr} {kk : Nat} {tpos : Pos} (hg : Glo L "enumerate") (hm : L.g.mg "enumerate" = none) (hs : ∀ env, starEach [a] env = (false, eval a env) :: starEach [] env) (h : Ev L ρ M a (fun d M1 => ∃ ds, (d = .lst ds ∨ d = .seq ds) ∧ Q (enumD ds) M1) E) : Src L ρ M (.Tuple elts kk tpos) (.Call (.Name "enumerate" p) [a] [] pos) Q E := fun X ci B σ G H R f s k x =>
  wpI_of (pi_enum (X := X) (ci.gl hg) (by rw [ci.mg]; exact hm) pa_wp (hs X.env)) (ea_cons (Q := fun es M1 => ∃ d ds, es = [d] ∧ (d = .lst ds ∨ d = .seq ds) ∧ Q (enumD ds) M1) hs (h.mono (fun d M1 ⟨ds, hd, q⟩ => ea_nil (E := E) ⟨d, ds, rfl, hd, q⟩) fun _ _ z => z) X ci B σ G H _ f s (fun vs es G1 M1 H1 m1 s1 r1 ⟨d, ds, e, hd, q⟩ => by
    subst e
    obtain ⟨u, rfl, r2⟩ := r1.of_one
    obtain ⟨p, vs, rfl, hs, hr⟩ := rep_lst hd r2
    refine ⟨p, vs, rfl, by rw [ci.K]; exact ex_l s1.ex hs, ?_⟩
    rw [ci.K]
    exact k _ _ G1 M1 H1 m1 s1 (serves_enum hs hr) q) x)
theorem src_zip {elts : List Expr} {kk : Nat} {tpos : Pos} (hg : Glo L "zip") (hm : L.g.mg "zip" = none) (hs : ∀ env, starEach [a, b] env = (false, eval a env) :: starEach [b] env) (hs2 : ∀ env, starEach [b] env = (false, eval b env) :: starEach [] env)
    (h : Ev L ρ M a (fun d M1 => Ev L ρ M1 b (fun e M2 => ∃ xs ys, (((d = .lst xs ∨ d = .seq xs) ∧ (e = .lst ys ∨ e = .seq ys)) ∨ (d = .tup xs ∧ e = .tup ys)) ∧ Q (zipD xs ys) M2) E) E) : Src L ρ M (.Tuple elts kk tpos) (.Call (.Name "zip" p) [a, b] [] pos) Q E := fun X ci B σ G H R f s k x =>
  wpI_of (RZ.pi_zipA (X := X) (ci.gl hg) (by rw [ci.mg]; exact hm) pa_wp (hs X.env) (by rw [hs2]; rfl)) (ea_cons (Q := fun es M1 => ∃ d e xs ys, es = [d, e] ∧ (((d = .lst xs ∨ d = .seq xs) ∧ (e = .lst ys ∨ e = .seq ys)) ∨ (d = .tup xs ∧ e = .tup ys)) ∧ Q (zipD xs ys) M1) hs
    (h.mono (fun d M1 h => ea_cons (E := E) hs2 (h.mono (fun e M2 ⟨xs, ys, h1, q⟩ => ea_nil (E := E) ⟨d, e, xs, ys, rfl, h1, q⟩) fun _ _ z => z)) fun _ _ z => z) X ci B σ G H _ f s (fun vs es G1 M1 H1 m1 s1 r1 ⟨d, e, xs, ys, ee, h1, q⟩ => by
    subst ee
    obtain ⟨u, u2, rfl, r3, r2⟩ := r1.of_two
    rcases h1 with ⟨hd, he⟩ | ⟨hd, he⟩
    · obtain ⟨p, vs, rfl, hs, hr⟩ := rep_lst hd r3
      obtain ⟨p', us, rfl, hs', hr'⟩ := rep_lst he r2
      refine ⟨p, p', vs, us, rfl, .inl ⟨by rw [ci.K]; exact ex_l s1.ex hs, by rw [ci.K]; exact ex_l s1.ex hs', ?_⟩⟩
      rw [ci.K]
      exact k _ _ G1 M1 H1 m1 s1 (serves_zipL hs hr hs' hr') q
    · subst hd; subst he
      obtain ⟨p, vs, rfl, hs, hr⟩ := r3
      obtain ⟨p', us, rfl, hs', hr'⟩ := r2
      refine ⟨p, p', vs, us, rfl, .inr ⟨by rw [ci.K]; exact ex_t s1.ex hs, by rw [ci.K]; exact ex_t s1.ex hs', ?_⟩⟩
      rw [ci.K]
      exact k _ _ G1 M1 H1 m1 s1 (serves_zipT hs hr hs' hr') q) x)
end

/-! ### comprehensions -/
def Lx.blk (L : Lx) (scope : Scope) : Lx := ⟨L.g, L.N, relS scope L.sc, L.n, fun x => scope.names.lookup x == some .cell, L.cd, false⟩
theorem CI.blk {L : Lx} {X : Cx} (ci : CI L X) (scope : Scope) (s : Shared) (H : Hp) (C : Addr) (cl : List (Str × Addr)) (fp : List Addr) : CI (L.blk scope) (X.blk s H scope (compEnvC scope cl C X.env) fp) where
  prog := ci.prog
  w := ci.w
  K := ci.K
  mg := ci.mg
  base := ci.base
  N := ci.N
  sc := by
    show relS scope X.env.scope = relS scope L.sc
    rw [ci.sc]
  nd := ci.nd
  calm := ci.calm
  room := ci.room
  own := PassesOwn.never
  fn := rfl
  code := ci.code
  top := fun z => by cases z
def tts (X : Cx) (ifs : List Expr) : TT := match ifs with
  | [] => tYes
  | [c] => WpT X c
  | _ => fun _ _ _ => False
theorem pts_wp {X : Cx} {ifs : List Expr} : PTs X ifs (tts X ifs) := match ifs with
  | [] => pts_nil
  | [c] => pts_one pt_wp
  | _ :: _ :: _ => ⟨fun _ _ _ _ _ _ h => h.elim⟩
def EvIfs (L : Lx) (ρ : Ro) (M : Store) (ifs : List Expr) (o : Out D) : Prop := match ifs with
  | [] => o = .ok (.bl true) M
  | [c] => EvTO L ρ M c o
  | _ => False
theorem tts_of {L : Lx} {ρ : Ro} {M : Store} {ifs : List Expr} {o : Out D} (h : EvIfs L ρ M ifs o) {b : Bool} {M' : Store} (ho : o = .ok (.bl b) M') {X : Cx} (ci : CI L X) {B : Bs} {σ : L2.St} {G : Gh} {H : Hp} {R : Bool → Hp → Prop} (f : Frm X L.g B G H σ ρ) (s : Sta L.g G H M) (k : ∀ G' H', Mv G H G' H' → Sta L.g G' H' M' → R b H') : tts X ifs σ H R :=
  match ifs, h with
  | [], h => by
    have h : o = .ok (.bl true) M := h
    rw [ho] at h; cases h
    exact k G H (.refl ..) s
  | [c], h => (h : EvTO L ρ M c o) (show IsB o from ⟨(by rw [ho]; intro z; cases z), (fun d M1 e => by rw [ho] at e; cases e; exact ⟨_, rfl⟩)⟩) X ci B σ G H R f s (fun b' G' M1 H' m' s' e => by rw [ho] at e; cases e; exact k G' H' m' s') fun C G' M1 H' m' s' e => by rw [ho] at e; cases e
  | _ :: _ :: _, h => h.elim
/-- one turn of a comprehension, told by its parts -/
structure LcTurn (L : Lx) (ρ : Ro) (pt : Pat) (elt : Expr) (ifs : List Expr) (oi oe : Ro → Store → Out D) : Prop where
  ifs : ∀ ρ' M', EvIfs L ρ' M' ifs (oi ρ' M')
  elt : ∀ ρ' M', EvO L ρ' M' elt (oe ρ' M')
theorem lcStep_ok {pt : Pat} {ρ0 : Ro} {oi oe : Ro → Store → Out D} {d : D} {M M' : Store} {ys : List D} (h : lcStep pt ρ0 oi oe d M = .ok ys M') :
    ∃ (ρ' : Ro) (b : Bool) (M1 : Store), asg pt ρ0 d = some ρ' ∧ oi ρ' M = .ok (.bl b) M1 ∧ ((b = true ∧ ∃ y, oe ρ' M1 = .ok y M' ∧ ys = [y]) ∨ (b = false ∧ M1 = M' ∧ ys = [])) := by
  unfold lcStep at h
  cases ha : asg pt ρ0 d with
  | none => rw [ha] at h; cases h
  | some ρ' =>
    rw [ha] at h
    have h : (oi ρ' M).bind (lcK oe ρ') = .ok ys M' := h
    cases q : oi ρ' M with
    | bad => rw [q] at h; cases h
    | ex C M1 => rw [q] at h; cases h
    | ok t M1 =>
      rw [q] at h
      have h : lcK oe ρ' t M1 = .ok ys M' := h
      cases t with
      | bl b =>
        cases b with
        | true =>
          refine ⟨ρ', true, M1, rfl, q, .inl ⟨rfl, ?_⟩⟩
          have h : ((oe ρ' M1).bind fun y M => Out.ok [y] M) = .ok ys M' := h
          cases q2 : oe ρ' M1 with
          | bad => rw [q2] at h; cases h
          | ex C M2 => rw [q2] at h; cases h
          | ok y M2 =>
            rw [q2] at h
            cases h
            exact ⟨y, rfl, rfl⟩
        | false => cases h; exact ⟨ρ', false, _, rfl, q, .inr ⟨rfl, rfl, rfl⟩⟩
      | _ => cases h
theorem lcGo_cons {step : D → Store → Out (List D)} {d : D} {ds : List D} {M M' : Store} {zs : List D} (h : lcGo step (d :: ds) M = .ok zs M') : ∃ ys M1 ws, step d M = .ok ys M1 ∧ lcGo step ds M1 = .ok ws M' ∧ zs = ys ++ ws := by
  unfold lcGo at h
  cases q : step d M with
  | bad => rw [q] at h; cases h
  | ex C M1 => rw [q] at h; cases h
  | ok ys M1 =>
    rw [q] at h
    have h : ((lcGo step ds M1).bind fun zs M2 => Out.ok (ys ++ zs) M2) = .ok zs M' := h
    cases q2 : lcGo step ds M1 with
    | bad => rw [q2] at h; cases h
    | ex C M2 => rw [q2] at h; cases h
    | ok ws M2 =>
      rw [q2] at h
      cases h
      exact ⟨ys, M1, ws, rfl, q2, rfl⟩
theorem drop_cons {α : Type} {xs : List α} {i : Nat} (h : i < xs.length) : ∃ d, xs[i]? = some d ∧ xs.drop i = d :: xs.drop (i + 1) := ⟨xs[i], List.getElem?_eq_getElem h, List.drop_eq_getElem_cons h⟩
theorem lcGo_len {pt : Pat} {ρ0 : Ro} {oi oe : Ro → Store → Out D} : ∀ {xs : List D} {M M' : Store} {zs : List D}, lcGo (lcStep pt ρ0 oi oe) xs M = .ok zs M' → zs.length ≤ xs.length
  | [], M, M', zs, h => by
    cases h
    exact Nat.le_refl _
  | d :: xs, M, M', zs, h => by
    obtain ⟨ys, M1, ws, h1, h2, rfl⟩ := lcGo_cons h
    have := lcGo_len h2
    obtain ⟨_, _, _, _, _, h3⟩ := lcStep_ok h1
    rcases h3 with ⟨_, y, _, rfl⟩ | ⟨_, _, rfl⟩
    · simp; omega
    · simp; omega
section
variable {L : Lx} {ρ : Ro} {M : Store} {elt tg iter : Expr} {ifs : List Expr} {scope : Scope} {own : List (Str × Nat)} {pt : Pat} {pos : Pos} {os : Out (List D)} {oi oe : Ro → Store → Out D}
theorem noEx_some {α : Type} {x : Out α} (n : noEx x ≠ .bad) : ∃ a M, x = .ok a M := by
  cases x with
  | ok a M => exact ⟨a, M, rfl⟩
  | ex C M => exact absurd rfl n
  | bad => exact absurd rfl n
theorem lc_read (hj : ∀ j ∈ pt.js, j ∈ own.map (·.2)) (hsrc : SrcO L ρ M tg iter os) (T : LcTurn (L.blk scope) (wipeR (noLam ρ) (own.map (·.2))) pt elt ifs oi oe) (n : lcRun pt (wipeR (noLam ρ) (own.map (·.2))) os oi oe ≠ .bad) {Q : List D → Store → Prop} {E : Nat → Store → Prop} (hQ : ∀ ds M', lcRun pt (wipeR (noLam ρ) (own.map (·.2))) os oi oe = .ok ds M' → Q ds M') (hE : ∀ C M', lcRun pt (wipeR (noLam ρ) (own.map (·.2))) os oi oe = .ex C M' → E C M')
    {X : Cx} (ci : CI L X) {B : Bs} {σ : L2.St} {G : Gh} {H : Hp} {R : VK} (fr : Frm X L.g B G H σ ρ) (s : Sta L.g G H M) (k : KF L.g G H Q R) (x : KX L.g X σ G H E) :
    tLc (WpI X tg iter) (gP L.g.K pt) (fun σ H Q => ∀ s H0 C cl fp, tts (X.blk s H0 scope (compEnvC scope cl C X.env) fp) ifs σ H Q) (fun σ H Q => ∀ s H0 C cl fp, Wp (X.blk s H0 scope (compEnvC scope cl C X.env) fp) elt σ H Q) (own.map (·.2)) σ H R := by
  refine (hsrc.step n) X ci B σ G H _ fr s (fun J xs G1 M1 H1 m1 s1 sv ⟨_, n1, e1⟩ => ?_) fun C G' M' H' m' s' e => x C G' M' H' m' s' (hE C M' e)
  have hlen : xs.length ≤ 50000 := by
    by_cases hl : xs.length ≤ 50000
    · exact hl
    · rw [if_neg hl] at n1; exact absurd rfl n1
  rw [if_pos hlen] at n1 e1
  obtain ⟨zs0, Mf, hgo⟩ := noEx_some n1
  have efin : lcRun pt (wipeR (noLam ρ) (own.map (·.2))) os oi oe = .ok zs0 Mf := by unfold lcRun; rw [e1, hgo]; rfl
  have hz0 := lcGo_len hgo
  intro Dl hD
  obtain ⟨s1', m1'⟩ := s1.newU (o := .lst []) hD
  have fr1 := fr.move m1
  refine ⟨fun i m H' => m = xs.length - i ∧ i ≤ xs.length ∧ ∃ G' M' out zs vs, Sta L.g G' H' M' ∧ Mv G1 H1 G' H' ∧ G'.h Dl = none ∧ Dl ∉ G'.A ∧ H' Dl = some (.lst vs) ∧ Reps L.g G' out vs ∧ lcGo (lcStep pt (wipeR (noLam ρ) (own.map (·.2))) oi oe) (xs.drop i) M' = .ok zs Mf ∧ out ++ zs = zs0,
    ⟨xs.length, by simp, Nat.zero_le _, G1, M1, [], zs0, [], s1', m1', s1.free hD, s1.notin hD, upd_same, Reps.nil, by simpa using hgo, rfl⟩, ?_⟩
  rintro i m H' ⟨rfl, hi, G', M', out, zs, vs, s', m', nG', nA', hDl, rO, hg, he⟩
  by_cases hlt : i < xs.length
  · obtain ⟨d, hd, edrop⟩ := drop_cons hlt
    rw [edrop] at hg
    obtain ⟨ys, M2, ws, hstep, hgo2, rfl⟩ := lcGo_cons hg
    obtain ⟨ρ', b, M3, ha, hoi, hb⟩ := lcStep_ok hstep
    obtain ⟨go, yl⟩ := sv.go i d hd G' H' M' m'.g s'
    refine .inr ⟨go, fun H2 => ∃ G2 M2' out2 zs2 vs2, Sta L.g G2 H2 M2' ∧ Mv G1 H1 G2 H2 ∧ G2.h Dl = none ∧ Dl ∉ G2.A ∧ H2 Dl = some (.lst vs2) ∧ Reps L.g G2 out2 vs2 ∧ lcGo (lcStep pt (wipeR (noLam ρ) (own.map (·.2))) oi oe) (xs.drop (i + 1)) M2' = .ok zs2 Mf ∧ out2 ++ zs2 = zs0, fun H2 q => ⟨xs.length - (i + 1), by omega, rfl, hlt, q⟩, fun w H2 hy => ?_⟩
    have ow : Ow ⟨G1, H1, none⟩ G' Dl := ⟨hD, nG', nA'⟩
    have hne : H' Dl ≠ none := by rw [hDl]; intro z; cases z
    have keepD : ∀ {Ga Gb : Gh} {Ha Hb : Hp}, Mv Ga Ha Gb Hb → Ow ⟨G1, H1, none⟩ Ga Dl → Ha Dl = some (.lst vs) → Ow ⟨G1, H1, none⟩ Gb Dl ∧ Hb Dl = some (.lst vs) := fun {Ga Gb Ha Hb} mv o e => ⟨o.move mv (by rw [e]; intro z; cases z), mv.keep _ _ e (fun ps z => by cases z) o.A⟩
    obtain ⟨G2, s2, m2, r2⟩ := yl w H2 hy
    obtain ⟨ow2, hD2⟩ := keepD m2 ow hDl
    have m12 := m'.trans s' m2
    have f1 : Frm X L.g B G2 H2 σ (noLam ρ) := (fr1.move m12).noLam
    refine pat_read (X := X) (τ := σ) ha hj r2 s2.ex (f1.wipe _) (wipe_wipe _ _) fun σ2 f2 hw => ⟨hw, ?_⟩
    have nl : noLam ρ' = ρ' := noLam_asg noLam_wipe ha
    intro ss H0 C cl fp
    have fb : ∀ X' : Cx, Frm X' L.g B G2 H2 σ2 ρ' := fun X' => by
      have := f2.noLam (X' := X')
      rw [nl] at this; exact this
    refine tts_of (T.ifs ρ' M') hoi (ci.blk scope ss H0 C cl fp) (fb _) s2 fun G3 H3 m3 s3 => ?_
    obtain ⟨ow3, hD3⟩ := keepD m3 ow2 hD2
    have m13 := m12.trans s2 m3
    have r3 := (rO.mono m2.g).mono m3.g
    rcases hb with ⟨rfl, y, hoe, rfl⟩ | ⟨rfl, rfl, rfl⟩
    · rw [if_pos rfl]
      intro ss4 H04 C4 cl4 fp4
      refine T.elt ρ' M3 (by rw [hoe]; intro z; cases z) _ (ci.blk scope ss4 H04 C4 cl4 fp4) B σ2 G3 H3 _ ((fb _).move m3) s3 (fun yv d4 G4 M4 H4 m4 s4 r4 e4 => ?_) (fun C G' M' H' m s e => by rw [hoe] at e; cases e)
      rw [hoe] at e4
      cases e4
      obtain ⟨ow4, hD4⟩ := keepD m4 ow3 hD3
      have m14 := m13.trans s3 m4
      obtain ⟨s5, m5⟩ := s4.putOwn (B := ⟨G1, H1, none⟩) (o := .lst (vs ++ [yv])) ow4 hD4 (fun ps z => by cases z) m14
      have r4' := r3.mono m4.g
      have el : vs.length = out.length := rO.length
      refine ⟨vs, hD4, ?_, G4, M2, out ++ [y], ws, vs ++ [yv], s5, m5, ow4.g, ow4.A, upd_same, r4'.append (.one r4), hgo2, by rw [← he]; simp⟩
      rw [el]
      have : out.length ≤ zs0.length := by rw [← he]; simp
      exact Nat.lt_of_le_of_lt (Nat.le_trans this (Nat.le_trans hz0 hlen)) (by decide)
    · rw [if_neg Bool.false_ne_true]
      exact ⟨G3, M3, out, ws, vs, s3, m13, ow3.g, ow3.A, hD3, r3, hgo2, by rw [← he]; simp⟩
  · have e : i = xs.length := by omega
    subst e
    rw [List.drop_length] at hg
    cases hg
    rw [List.append_nil] at he
    subst he
    refine .inl ⟨sv.stop G' H' _ m'.g s', ?_⟩
    refine k Dl vs out G' _ H' (m1.trans s1 m') s' ?_ nG' nA' hDl rO (hQ _ _ efin)
    cases q : H Dl with
    | none => rfl
    | some o => exact absurd hD (m1.dom Dl (by rw [q]; intro z; cases z))
theorem ef_lc {Q : List D → Store → Prop} {E : Nat → Store → Prop} (hp : PatOk (L.blk scope) tg pt) (hb : blkC L.N L.sc scope own = true) (hj : ∀ j ∈ pt.js, j ∈ own.map (·.2)) (hs : ∀ env x, foldedSetIterable iter env x = pure x) (hsrc : SrcO L ρ M tg iter os) (T : LcTurn (L.blk scope) (wipeR (noLam ρ) (own.map (·.2))) pt elt ifs oi oe)
    (n : lcRun pt (wipeR (noLam ρ) (own.map (·.2))) os oi oe ≠ .bad) (hQ : ∀ ds M', lcRun pt (wipeR (noLam ρ) (own.map (·.2))) os oi oe = .ok ds M' → Q ds M') (hE : ∀ C M', lcRun pt (wipeR (noLam ρ) (own.map (·.2))) os oi oe = .ex C M' → E C M') : EvF L ρ M (.ListComp elt [⟨tg, iter, ifs, 0⟩] scope pos) Q E := fun X ci B σ G H R f s k x => by
  refine wp_of (pe_lc (X := X) (own := own) (wi := WpI X tg iter) (g := gP L.g.K pt) (tt := fun σ H Q => ∀ s H0 C cl fp, tts (X.blk s H0 scope (compEnvC scope cl C X.env) fp) ifs σ H Q) (te := fun σ H Q => ∀ s H0 C cl fp, Wp (X.blk s H0 scope (compEnvC scope cl C X.env) fp) elt σ H Q)
    ci.calm (by rw [ci.N]; exact ci.nd) pi_wp (by rw [ci.N, ci.sc]; exact blkOk_by hb) (fun s H C cl fp => hp.pg (ci.blk scope s H C cl fp)) (fun s H C cl fp => ⟨fun pins s' σ' H' Q' I h => (pts_wp (X := X.blk s H scope (compEnvC scope cl C X.env) fp) (ifs := ifs)).run pins s' σ' H' Q' I (h s H C cl fp)⟩) (fun s H C cl fp => ⟨fun pins s' σ' H' Q' I h => h s H C cl fp pins s' I⟩) (hs X.env)) ?_
  exact lc_read hj hsrc T n hQ hE ci f s k x
end
end PI
set_option Elab.async false
set_option linter.all false
set_option maxRecDepth 100000
set_option maxHeartbeats 4000000
/-! PEt: enumerate over a tuple. -/
namespace PySem
open Sem (wp)
open AutoSeq1 (wpAny_loadPart')
/-- enumerate(v), v told by how its iterator begins -/
theorem enumB_meets {v : Value} {ob : Obj} {Hc : Heap → Prop} (B : Begins v ob Hc) :
    Meets (Builtin.«enumerate.__new__» ⟨[.type "enumerate", v], []⟩) (fun _ R s => Hc s.heap ∧
      R (.ok (.ret (.ref (s.heap.push ob).objs.size))) { s with heap := (s.heap.push ob).push { cls := .type "enumerate", data := .fields #[.none, .bool false, .ref s.heap.objs.size, rawInt 0, .none, .none] } }) :=
  .of_wp fun prog w A R s h => by
    obtain ⟨hp, g, d, tk, os⟩ := s
    obtain ⟨h1, h⟩ := h
    have hsub := sub_enumerate
    have goes : ∀ {A' : Around} {E : Value → Shared → Prop} {Q : Value → Shared → Prop}, Q (.ref hp.objs.size) ⟨hp.push ob, g, d, tk, os⟩ → wpAny (model prog w) A' (pyIter v) Q E ⟨hp, g, d, tk, os⟩ := fun q => B.iter prog w _ _ ⟨hp, g, d, tk, os⟩ _ h1 q
    wp_walk using goes
    refine wpAny_stack_any fun st => wpAny_pure ?_
    split
    · rename_i c _ _ _ _ _
      cases (c == Value.type "enumerate")
      · wp_walk using goes
        exact ⟨_, rfl, h⟩
      · wp_walk using goes
        exact ⟨_, rfl, h⟩
    · wp_walk using goes
      exact ⟨_, rfl, h⟩
theorem enumB_call {prog : Program} {w : World} {A : Around} {E : Value → Shared → Prop} {s : Shared} {v : Value} {ob : Obj} {Hc : Heap → Prop} {Q : Value → Shared → Prop} (B : Begins v ob Hc) (h1 : Hc s.heap)
    (h : ∀ h', IsEnum h' (s.heap.objs.size + 1) s.heap.objs.size 0 .none → h'.get? s.heap.objs.size = some ob → (∀ b o, s.heap.get? b = some o → h'.get? b = some o) → Q (.ref (s.heap.objs.size + 1)) { s with heap := h' }) :
    wpAny (model prog w) A (call (.type "enumerate") [v]) Q E s := by
  refine callType_new F.called_enumerate (by decide) (F.typeCall_enumerate_1 _) (F.newCall_enumerate_1 _) (fun obj => F.args_object_init_2 obj _) F.entry_enumerate_new (enumB_meets B) ⟨h1, ?_⟩
  have hz : (s.heap.push ob).objs.size = s.heap.objs.size + 1 := Heap.size_push ..
  show _ ∧ _
  rw [hz]
  have he : IsEnum ((s.heap.push ob).push { cls := .type "enumerate", data := .fields #[.none, .bool false, .ref s.heap.objs.size, rawInt 0, .none, .none] }) (s.heap.objs.size + 1) s.heap.objs.size 0 .none := by
    have q := Heap.get?_push_size (s.heap.push ob) (o := { cls := .type "enumerate", data := .fields #[.none, .bool false, .ref s.heap.objs.size, rawInt 0, .none, .none] }) rfl
    rw [hz] at q; exact q
  exact ⟨⟨_, he, rfl⟩, h _ he (Heap.get?_push_of_some _ (Heap.get?_push_size _ B.free)) fun b o x => Heap.get?_push_of_some _ (Heap.get?_push_of_some _ x)⟩
end PySem
namespace PI
open PySem PySem.Spec PyProof.Rows L2
/-- the tuple at a, its items in new pairs with their places -/
def IteT (K : PySem.W.Frag) (a : Addr) : It :=
  ⟨fun i H => ∃ (xs : List V) (x : V), SqT K H a xs ∧ xs[i]? = some x, fun i H v H' => ∃ T x, v = .ref T ∧ H T = none ∧ H' = upd H T (.tup [.int (i : Nat), x]) ∧ ∀ xs, SqT K H a xs → xs[i]? = some x, fun i H => ∃ xs : List V, SqT K H a xs ∧ xs.length = i⟩
theorem turn_enumT {P : Program} {w : World} {K : PySem.W.Frag} {elts : List Expr} {kk : Nat} {tpos : Pos} (a e it : Addr) :
    Turn P w K (.Tuple elts kk tpos) (IteT K a) [e, it] e (fun i h => (∃ old, IsEnum h e it ((i : Nat) : Int) old) ∧ h.IsTupleIter it a i ∧ e ≠ it) where
  mem := by simp
  obj := fun i h st b hb => by
    obtain ⟨⟨old, he⟩, ⟨o, ho, hc, hd⟩, _⟩ := st
    rcases (show b = e ∨ b = it by simpa using hb) with z | z
    · rw [z]; exact ⟨_, he, fun v q => nomatch q⟩
    · rw [z]; exact ⟨o, ho, fun v q => by rw [hd] at q; cases q⟩
  keep := fun i h h' st k => let ⟨⟨old, he⟩, hi, hne⟩ := st; ⟨⟨old, k e (by simp) _ he⟩, hi.at fun o q => k it (by simp) o q, hne⟩
  item := by
    intro X hP hw hK hc i pins s σ H E I hf st hg
    subst hP hw hK
    obtain ⟨⟨old, he⟩, hit, hne⟩ := st
    obtain ⟨xs, x, hq, hx⟩ := hg
    obtain ⟨its, rv, p, hz⟩ := I.tuple hq
    have p : s.heap.IsTuple a its.toArray := p
    obtain ⟨u, hu, ru⟩ := rv.get hx
    obtain ⟨oa, hoa, hca, _⟩ := id p
    obtain ⟨oi, hoi, hci, _⟩ := id hit
    have hai : a ≠ it := fun z => by
      rw [z, hoi] at hoa
      rw [← Option.some.inj hoa, hci] at hca
      injection hca with q
      exact absurd q (by decide)
    have hea : e ≠ a := fun z => by
      have he' := he
      unfold IsEnum at he'
      rw [z, hoa] at he'
      rw [Option.some.inj he'] at hca
      injection hca with q
      exact absurd q (by decide)
    have hil : i < its.toArray.size := by
      have : i < its.length := (List.getElem?_eq_some_iff.mp hu).1
      simpa using this
    have dr := Draws.tuple (prog := X.prog) (w := X.w) (A := X.A.in1) (I.ok.hd hc) it a hai its.toArray
    refine wpAny_pyNext_enum_itemC dr he ⟨hit, p⟩ hil hne (by simp [hne, hea]) fun x' h' tk hx' ho hst' hT hsz hk => ?_
    have hxu : x' = u := by
      have hx' : its.toArray[i]? = some x' := hx'
      rw [show its.toArray[i]? = some u by simpa using hu] at hx'
      exact (Option.some.inj hx').symm
    subst hxu
    refine ⟨_, rfl, wpAny_letOwnedTupleGo_enum (s := { s with heap := h', toks := tk + 1 }) ho fun h'' he' sb => ?_⟩
    have hel : e < s.heap.objs.size := Heap.lt_size he
    have hT2 : h''.get? s.heap.objs.size = some { cls := .type "tuple", data := .seq #[.int i tk, x'] } := (sb.2 _ (Nat.ne_of_gt hel)).trans hT
    have fresh : ObjOk X.prog X.w (upd H s.heap.objs.size (.tup [.int (i : Nat), x])) h'' s.heap.objs.size (.tup [.int (i : Nat), x]) :=
      ⟨by show 2 ≤ sizeLine; decide, [.int i tk, x'], .cons ⟨_, rfl⟩ (.cons ru .nil), ⟨_, hT2, rfl, _, rfl⟩⟩
    have I1 : Inv X pins σ (upd H s.heap.objs.size (.tup [.int (i : Nat), x])) { s with heap := h'', toks := tk + 1 } :=
      I.turnedNew (ch := [e, it]) (fun b ob hb q => (sb.2 b (fun z => hb (by simp [z]))).trans (hk b ob (fun z => hb (by simp [z])) (fun z => hb (by simp [z])) q)) hf (Nat.le_refl _) fresh
    refine ⟨.ref s.heap.objs.size, _, I1, rfl, ⟨_, x, rfl, I.hok.fresh (Nat.le_refl _), rfl, fun ys hy => by rw [I.tuple_inj hy hq]; exact hx⟩, ⟨⟨x', ?_⟩, hst'.1.at fun o q => (sb.2 it (Ne.symm hne)).trans q, hne⟩, fun b hb => ?_⟩
    · rw [show ((i + 1 : Nat) : Int) = (i : Int) + 1 by omega]; exact he'
    · have hlt : b < s.heap.objs.size := by
        rcases (show b = e ∨ b = it by simpa using hb) with z | z
        · rw [z]; exact hel
        · rw [z]; exact Heap.lt_size hoi
      rw [upd_ne (Nat.ne_of_lt hlt)]
      exact (hf b hb).1
  done := by
    intro X hP hw hK hc i pins s σ H E I hf st hg
    subst hP hw hK
    obtain ⟨⟨old, he⟩, hit, hne⟩ := st
    obtain ⟨xs, hq, hx⟩ := hg
    obtain ⟨its, rv, p, hz⟩ := I.tuple hq
    have p : s.heap.IsTuple a its.toArray := p
    obtain ⟨oa, hoa, hca, _⟩ := id p
    obtain ⟨oi, hoi, hci, _⟩ := id hit
    have hai : a ≠ it := fun z => by
      rw [z, hoi] at hoa
      rw [← Option.some.inj hoa, hci] at hca
      injection hca with q
      exact absurd q (by decide)
    have dr := Draws.tuple (prog := X.prog) (w := X.w) (A := X.A.in1) (I.ok.hd hc) it a hai its.toArray
    obtain ⟨f0, f1, f2, f3, f4, f5⟩ := hf it (by simp)
    have hl := rv.length
    have ei : i = its.toArray.size := by simp; omega
    subst ei
    exact wpAny_pyNext_enum_endD dr he ⟨hit, p⟩ fun h' eb => ⟨rfl, I.turned (t' := s.toks) (fun b o hb q => eb b o hb q) f0 f1 f3 f4 f5⟩
  self := fun A i s Q E st h => let ⟨⟨_, he⟩, _⟩ := st; wpAny_pyIter_enum he h
def iEnumT (K : PySem.W.Frag) (ta : TA) : TI := fun σ H R => ta σ H fun vs H1 => ∃ a xs, vs = [.ref a] ∧ ((SqL K H1 a xs ∧ R (Ite K a) H1) ∨ (SqT K H1 a xs ∧ R (IteT K a) H1))
theorem pi_enumT {X : Cx} {e : Expr} {ta : TA} {p pos tpos : Pos} {elts : List Expr} {kk : Nat} (hg : Gl X "enumerate") (hm : X.mg "enumerate" = none) (ha : PA X [e] ta) (hs : starEach [e] X.env = [(false, eval e X.env)]) :
    PI X (.Tuple elts kk tpos) (.Call (.Name "enumerate" p) [e] [] pos) (iEnumT X.K ta) := by
  refine ⟨fun pins s σ H R I h => ?_⟩
  refine Call_ (ld_blt I hg hm boot_enumerate (PyProof.Rows.callWith_type1 (thn (ha.run pos pins s σ H _ I h) fun us s1 ⟨vs, H1, I1, r1, a, xs, ex, q⟩ => ?_) hs rfl))
  subst ex
  obtain rfl := Vals.ref1 r1
  have fresh : ∀ b ∈ [s1.heap.objs.size + 1, s1.heap.objs.size], FpOk X pins H1 b := fun b hb => by
    have hle : s1.heap.objs.size ≤ b := by
      rcases (show b = s1.heap.objs.size + 1 ∨ b = s1.heap.objs.size by simpa using hb) with z | z
      · rw [z]; exact Nat.le_add_right _ _
      · rw [z]; exact Nat.le_refl _
    exact I1.fpOk hle (I1.hok.fresh hle)
  rcases q with ⟨hq, q⟩ | ⟨hq, q⟩
  · obtain ⟨its, rv, p', hz⟩ := I1.list hq
    refine call_enumerate_list p'.isList fun h' he hit hsz hk => wpAny_pyIter_enum he ?_
    exact ⟨s1.heap.objs.size + 1, [s1.heap.objs.size + 1, s1.heap.objs.size], _, _, H1, rfl, I1.kept (t' := s1.toks) hk, turn_enum a (s1.heap.objs.size + 1) s1.heap.objs.size, ⟨⟨.none, he⟩, hit, Nat.succ_ne_self _⟩, fresh, q⟩
  · obtain ⟨its, rv, p', hz⟩ := I1.tuple hq
    refine enumB_call (begins_tuple a its.toArray) (show s1.heap.IsTuple a its.toArray from p') fun h' he hit hk => wpAny_pyIter_enum he ?_
    exact ⟨s1.heap.objs.size + 1, [s1.heap.objs.size + 1, s1.heap.objs.size], _, _, H1, rfl, I1.kept (t' := s1.toks) hk, turn_enumT a (s1.heap.objs.size + 1) s1.heap.objs.size, ⟨⟨.none, he⟩, ⟨_, hit, rfl, rfl⟩, Nat.succ_ne_self _⟩, fresh, q⟩
theorem serves_enumT {g : Gx} {G1 : Gh} {q : Addr} {vs : List V} {ds : List D} (h1 : SqT g.K G1.h q vs) (h2 : Reps g G1 ds vs) : Serves g G1 (IteT g.K q) (enumD ds) where
  go := fun i d hd G' H' M e s => by
    obtain ⟨x0, hx, rfl⟩ := enumD_at hd
    obtain ⟨v, hv, r⟩ := h2.get hx
    have h1' := ex_t s.ex (ex_t e.h h1)
    refine ⟨⟨vs, v, h1', hv⟩, fun w H'' ⟨T, x, ew, nT, eH, e2⟩ => ?_⟩
    subst ew; subst eH
    have ex : vs[i]? = some x := e2 vs h1'
    rw [hv] at ex
    cases ex
    obtain ⟨s', m'⟩ := s.newG (o := .tup [.int (i : Nat), v]) nT (fun ps z => by cases z)
    exact ⟨_, s', m', T, _, rfl, SqT.of upd_same, .cons rep_int (.one ((r.mono e).mono m'.g))⟩
  stop := fun G' H' M e s => ⟨vs, ex_t s.ex (ex_t e.h h1), by rw [h2.length, enumD_len]⟩
section
variable {L : Lx} {ρ : Ro} {M : Store} {a : Expr} {p pos : Pos} {Q : List D → Store → Prop} {E : Nat → Store → Prop}
theorem src_enumT {elts : List Expr} {kk : Nat} {tpos : Pos} (hg : Glo L "enumerate") (hm : L.g.mg "enumerate" = none) (hs : ∀ env, starEach [a] env = (false, eval a env) :: starEach [] env) (h : Ev L ρ M a (fun d M1 => ∃ ds, (d = .lst ds ∨ d = .seq ds ∨ d = .tup ds) ∧ Q (enumD ds) M1) E) : Src L ρ M (.Tuple elts kk tpos) (.Call (.Name "enumerate" p) [a] [] pos) Q E := fun X ci B σ G H R f s k x =>
  wpI_of (pi_enumT (X := X) (ci.gl hg) (by rw [ci.mg]; exact hm) pa_wp (hs X.env)) (ea_cons (Q := fun es M1 => ∃ d ds, es = [d] ∧ (d = .lst ds ∨ d = .seq ds ∨ d = .tup ds) ∧ Q (enumD ds) M1) hs (h.mono (fun d M1 ⟨ds, hd, q⟩ => ea_nil (E := E) ⟨d, ds, rfl, hd, q⟩) fun _ _ z => z) X ci B σ G H _ f s (fun vs es G1 M1 H1 m1 s1 r1 ⟨d, ds, e, hd, q⟩ => by
    subst e
    obtain ⟨u, rfl, r2⟩ := r1.of_one
    have hd' : (d = .lst ds ∨ d = .seq ds) ∨ d = .tup ds := by rcases hd with h | h | h <;> simp [h]
    rcases hd' with hd | hd
    · obtain ⟨p, vs, rfl, hs, hr⟩ := rep_lst hd r2
      refine ⟨p, vs, rfl, .inl ⟨by rw [ci.K]; exact ex_l s1.ex hs, ?_⟩⟩
      rw [ci.K]
      exact k _ _ G1 M1 H1 m1 s1 (serves_enum hs hr) q
    · subst hd
      obtain ⟨p, vs, rfl, hs, hr⟩ := r2
      refine ⟨p, vs, rfl, .inr ⟨by rw [ci.K]; exact ex_t s1.ex hs, ?_⟩⟩
      rw [ci.K]
      exact k _ _ G1 M1 H1 m1 s1 (serves_enumT hs hr) q) x)
end
end PI
set_option Elab.async false
set_option linter.all false
set_option maxRecDepth 100000
set_option maxHeartbeats 4000000
/-! PF: statements. -/
namespace PI
open PySem L2
abbrev posto (o : SO) : Post := { nx := fun ρ' M' => o = .nx ρ' M', rt := fun d M' => o = .rt d M', bk := fun ρ' M' => o = .bk ρ' M', ct := fun ρ' M' => o = .ct ρ' M', ex := fun C ρ' M' => o = .ex C ρ' M' }
def StmO (L : Lx) (ρ : Ro) (M : Store) (st : Stmt) (o : SO) : Prop := o ≠ .bad → Stm L ρ M st (posto o)
def RunO (L : Lx) (ρ : Ro) (M : Store) (ss : List Stmt) (o : SO) : Prop := o ≠ .bad → Run L ρ M ss (posto o)
section
variable {L : Lx} {ρ : Ro} {M : Store} {P P' : Post} {st : Stmt} {ss rest : List Stmt} {e a b c tg : Expr} {pos p px : Pos} {i j : Nat} {x : Str}
theorem KS.nxs {g : Gx} {X : Cx} {B : Bs} {Gl : Gh} {P P' : Post} {Dn Dn' : Ends} (k : KS g X B Gl P Dn) (h1 : ∀ σ' ρ' G' M' H', Gl.le G' → Frm X g B G' H' σ' ρ' → Mv B.G B.H G' H' → Sta g G' H' M' → P'.nx ρ' M' → Dn'.nx σ' H') (hr : ∀ d M', P'.rt d M' → P.rt d M') (he : ∀ C ρ' M', P'.ex C ρ' M' → P.ex C ρ' M') (hb : ∀ ρ' M', P'.bk ρ' M' → P.bk ρ' M') (hc : ∀ ρ' M', P'.ct ρ' M' → P.ct ρ' M')
    (dr : Dn'.rt = Dn.rt) (db : Dn'.bk = Dn.bk) (dc : Dn'.ct = Dn.ct) : KS g X B Gl P' Dn' :=
  ⟨h1, by rw [dr]; exact fun v d G' M' H' m s r q => k.rt v d G' M' H' m s r (hr _ _ q), by rw [db]; exact fun σ' ρ' G' M' H' l f m s q => k.bk σ' ρ' G' M' H' l f m s (hb _ _ q), by rw [dc]; exact fun σ' ρ' G' M' H' l f m s q => k.ct σ' ρ' G' M' H' l f m s (hc _ _ q), fun C σ' ρ' G' M' H' l f m s q => k.ex C σ' ρ' G' M' H' l f m s (he _ _ _ q)⟩
theorem run_nil (q : P.nx ρ M) : Run L ρ M [] P := fun X ci B σ G H Dn f mb s k => wpSs_of pss_nil (k.nx σ ρ G M H (.refl _) f mb s q)
theorem run_cons (h : Stm L ρ M st { P with nx := fun ρ' M' => Run L ρ' M' rest P }) : Run L ρ M (st :: rest) P := fun X ci B σ G H Dn f mb s k =>
  wpSs_of (pss_cons ps_wp pss_wp) (h X ci B σ G H _ f mb s (k.nxs (fun σ' ρ' G' M' H' l' f' m' s' q => q X ci B σ' G' H' Dn f' m' s' (k.wk l')) (fun _ _ z => z) (fun _ _ _ z => z) (fun _ _ z => z) (fun _ _ z => z) rfl rfl rfl))
theorem Stm.mono (h : Stm L ρ M st P) (h1 : ∀ a b, P.nx a b → P'.nx a b) (h2 : ∀ a b, P.rt a b → P'.rt a b) (h3 : ∀ a b, P.bk a b → P'.bk a b) (h4 : ∀ a b, P.ct a b → P'.ct a b) (h5 : ∀ a b c, P.ex a b c → P'.ex a b c) : Stm L ρ M st P' := fun X ci B σ G H Dn f mb s k =>
  h X ci B σ G H Dn f mb s (k.nxs (fun σ' ρ' G' M' H' l' f' m' s' q => k.nx σ' ρ' G' M' H' l' f' m' s' (h1 _ _ q)) h2 h5 h3 h4 rfl rfl rfl)
theorem Run.mono (h : Run L ρ M ss P) (h1 : ∀ a b, P.nx a b → P'.nx a b) (h2 : ∀ a b, P.rt a b → P'.rt a b) (h3 : ∀ a b, P.bk a b → P'.bk a b) (h4 : ∀ a b, P.ct a b → P'.ct a b) (h5 : ∀ a b c, P.ex a b c → P'.ex a b c) : Run L ρ M ss P' := fun X ci B σ G H Dn f mb s k =>
  h X ci B σ G H Dn f mb s (k.nxs (fun σ' ρ' G' M' H' l' f' m' s' q => k.nx σ' ρ' G' M' H' l' f' m' s' (h1 _ _ q)) h2 h5 h3 h4 rfl rfl rfl)
/-- an own list is told to change no more -/
theorem Frm.freeze {X : Cx} {g : Gx} {B : Bs} {G : Gh} {H : Hp} {σ : L2.St} {ds : List D} (f : Frm X g B G H σ ρ) (mb : Mv B.G B.H G H) (s : Sta g G H M) (hi : ρ[i]? = some (.own ds)) :
    ∃ G', Frm X g B G' H σ (ρ.set i (.v (.lst ds))) ∧ Mv B.G B.H G' H ∧ Sta g G' H M ∧ G.le G' := by
  obtain ⟨a, ea, ow, vs, hv, hr⟩ := f.at_ i _ hi
  obtain ⟨s2, m2, l2⟩ := s.freeze ow hv (fun ps z => by cases z) mb
  have hil : i < ρ.length := (List.getElem?_eq_some_iff.mp hi).1
  refine ⟨_, ⟨by rw [List.length_set]; exact f.len, fun j t ht => ?_, fun j k t u b jk hj hk ot ou ej ek => ?_⟩, m2, s2, l2⟩
  · by_cases hj : i = j
    · subst hj
      rw [List.getElem?_set_self hil] at ht
      cases ht
      exact ⟨.ref a, ea, a, vs, rfl, upd_same, hr.mono l2⟩
    · rw [List.getElem?_set_ne hj] at ht
      have := f.at_ j t ht
      have own : ∀ b, t.isOwn = true → σ[j]? = some (some (.ref b)) → Ow B G b → OwOk B g G H b t → Ow B (G.add a (.lst vs)) b ∧ OwOk B g (G.add a (.lst vs)) H b t := fun b ot e w q => by
        have hne : b ≠ a := fun z => f.sep i j _ t a hj hi ht rfl ot ea (by rw [← z]; exact e)
        exact ⟨⟨w.b, by show upd G.h a (.lst vs) b = none; rw [upd_ne hne]; exact w.g, w.A⟩, q.mono l2 fun o e _ => e⟩
      cases t with
      | un => trivial
      | v d => obtain ⟨v, e, r⟩ := this; exact ⟨v, e, r.mono l2⟩
      | lam ks => obtain ⟨v, e, p', vs', r1, r2, r3⟩ := this; exact ⟨v, e, p', vs', r1, l2.h _ _ r2, r3.mono l2⟩
      | own es => obtain ⟨b, e, w, q⟩ := this; exact ⟨b, e, own b rfl e w q⟩
      | ob c ns es => obtain ⟨b, e, w, q⟩ := this; exact ⟨b, e, own b rfl e w q⟩
      | dc ks us => obtain ⟨b, e, w, q⟩ := this; exact ⟨b, e, own b rfl e w q⟩
  · by_cases e1 : i = j
    · subst e1
      rw [List.getElem?_set_self hil] at hj
      cases hj; cases ot
    · by_cases e2 : i = k
      · subst e2
        rw [List.getElem?_set_self hil] at hk
        cases hk; cases ou
      · rw [List.getElem?_set_ne e1] at hj
        rw [List.getElem?_set_ne e2] at hk
        exact f.sep j k t u b jk hj hk ot ou ej ek
theorem run_frz {ds : List D} (hi : ρ[i]? = some (.own ds)) (h : Run L (ρ.set i (.v (.lst ds))) M ss P) : Run L ρ M ss P := fun X ci B σ G H Dn f mb s k => by
  obtain ⟨G', f', m', s', l'⟩ := f.freeze mb s hi
  exact h X ci B σ G' H Dn f' m' s' (k.wk l')

/-! ### stores -/
theorem stm_set (hn : NameOk L (.Name x px) i) (hs : ∀ env : PySem.Env, env.scope = L.sc → swapsWith e (some (.Name x px)) pos.line env = pure false) (h : Ev L ρ M e (fun d M' => P.nx (ρ.set i (.v d)) M') (fun C M' => P.ex C ρ M')) : Stm L ρ M (.Assign [.Name x px] e pos) P := fun X ci B σ G H Dn f mb s k => by
  obtain ⟨y, p, ey, h1, h2, h3⟩ := hn.ex
  cases ey
  refine wpS_of (ps_set (X := X) (i := i) (by rw [ci.N]; exact ci.nd) (by rw [ci.N]; exact h1) (by rw [ci.sc]; exact h2) pe_wp (hs X.env ci.sc) (by rw [ci.fn, ci.sc]; exact h3)) ?_
  exact h X ci B σ G H _ f s (fun v d G' M' H' m' s' r q => k.nx _ _ G' M' H' m'.g ((f.move m').set r) (mb.trans s m') s' q) (k.xe f mb s)
/-- a statement that stores a new list at slot i -/
def StF (L : Lx) (ρ : Ro) (M : Store) (st : Stmt) (i : Nat) (Q : List D → Store → Prop) (E : Nat → Store → Prop) : Prop :=
  ∀ X, CI L X → ∀ B σ G H (Dn : Ends), Frm X L.g B G H σ ρ → Sta L.g G H M → KF L.g G H Q (fun v H1 => Dn.nx (σ.set i (some v)) H1) → KX L.g X σ G H E → WpS X st Dn σ H
theorem stF_set {Q : List D → Store → Prop} {E : Nat → Store → Prop} (hn : NameOk L (.Name x px) i) (hs : ∀ env : PySem.Env, env.scope = L.sc → swapsWith e (some (.Name x px)) pos.line env = pure false) (h : EvF L ρ M e Q E) : StF L ρ M (.Assign [.Name x px] e pos) i Q E := fun X ci B σ G H Dn f s k kx => by
  obtain ⟨y, p, ey, h1, h2, h3⟩ := hn.ex
  cases ey
  refine wpS_of (ps_set (X := X) (i := i) (by rw [ci.N]; exact ci.nd) (by rw [ci.N]; exact h1) (by rw [ci.sc]; exact h2) pe_wp (hs X.env ci.sc) (by rw [ci.fn, ci.sc]; exact h3)) ?_
  exact h X ci B σ G H _ f s k kx
theorem stF_lc {Q : List D → Store → Prop} {E : Nat → Store → Prop} {lpos : Pos} {elt ltg iter : Expr} {ifs : List Expr} {scope : Scope} {own : List (Str × Nat)} {pt : Pat} {os : Out (List D)} {oi oe : Ro → Store → Out D} (hN : L.N[i]? = some x) (hl : L.sc.names.lookup x = some .local) (hp : PatOk (L.blk scope) ltg pt) (hb : blkC L.N L.sc scope own = true) (hj : ∀ j ∈ pt.js, j ∈ own.map (·.2)) (hs : ∀ env x, foldedSetIterable iter env x = pure x)
    (hk : L.sc.kind = .function) (hln : (px.line == lpos.line) = true) (hno : (scope.names.any fun (n, k) => n == x && (k == .local || k == .cell)) = false)
    (hsrc : SrcO L ρ M ltg iter os) (T : LcTurn (L.blk scope) (wipeR (noLam ρ) (own.map (·.2))) pt elt ifs oi oe)
    (n : lcRun pt (wipeR (noLam ρ) (own.map (·.2))) os oi oe ≠ .bad) (hQ : ∀ ds M', lcRun pt (wipeR (noLam ρ) (own.map (·.2))) os oi oe = .ok ds M' → Q ds M') (hE : ∀ C M', lcRun pt (wipeR (noLam ρ) (own.map (·.2))) os oi oe = .ex C M' → E C M') : StF L ρ M (.Assign [.Name x px] (.ListComp elt [⟨ltg, iter, ifs, 0⟩] scope lpos) pos) i Q E := fun X ci B σ G H Dn f s k kx => by
  refine wpS_of (ps_setLc (X := X) (i := i) (own := own) (wi := WpI X ltg iter) (g := gP L.g.K pt) (tt := fun σ H Q => ∀ s H0 C cl fp, tts (X.blk s H0 scope (compEnvC scope cl C X.env) fp) ifs σ H Q) (te := fun σ H Q => ∀ s H0 C cl fp, Wp (X.blk s H0 scope (compEnvC scope cl C X.env) fp) elt σ H Q)
    ci.calm (by rw [ci.N]; exact ci.nd) (by rw [ci.N]; exact hN) (by rw [ci.sc]; exact hl) (sw_true (by rw [ci.sc]; exact hk) (by rw [ci.sc]; exact hl) hln hno) pi_wp (by rw [ci.N, ci.sc]; exact blkOk_by hb) (fun s H C cl fp => hp.pg (ci.blk scope s H C cl fp))
    (fun s H C cl fp => ⟨fun pins s' σ' H' Q' I h => (pts_wp (X := X.blk s H scope (compEnvC scope cl C X.env) fp) (ifs := ifs)).run pins s' σ' H' Q' I (h s H C cl fp)⟩) (fun s H C cl fp => ⟨fun pins s' σ' H' Q' I h => h s H C cl fp pins s' I⟩) (hs X.env)) ?_
  exact lc_read (R := fun v H1 => gName i v σ H1 Dn.nx) hj hsrc T n hQ hE ci f s k kx
/-- the new list is frozen at once -/
theorem stm_setF (h : StF L ρ M st i (fun ds M' => P.nx (ρ.set i (.v (.lst ds))) M') (fun C M' => P.ex C ρ M')) : Stm L ρ M st P := fun X ci B σ G H Dn f mb s k =>
  h X ci B σ G H Dn f s (fun q vs ds G' M' H' m' s' n nG nA hp r hq => by
    have ow : Ow ⟨G, H, none⟩ G' q := ⟨n, nG, nA⟩
    obtain ⟨s2, m2, l2⟩ := s'.freeze ow hp (fun ps z => by cases z) m'
    exact k.nx _ _ _ M' H' m2.g ((f.move m2).set (d := .lst ds) ⟨q, vs, rfl, upd_same, r.mono l2⟩) (mb.trans s m2) s2 hq) (k.xe f mb s)
/-- it is the frame's own -/
theorem stm_setO (h : StF L ρ M st i (fun ds M' => P.nx (ρ.set i (.own ds)) M') (fun C M' => P.ex C ρ M')) : Stm L ρ M st P := fun X ci B σ G H Dn f mb s k =>
  h X ci B σ G H Dn f s (fun q vs ds G' M' H' m' s' n nG nA hp r hq => by
    have nb : B.H q = none := by
      cases e : B.H q with
      | none => rfl
      | some o => exact absurd n (mb.dom q (by rw [e]; intro z; cases z))
    refine k.nx _ _ _ M' H' m'.g ((f.move m').put (s := .own ds) ⟨q, rfl, ⟨nb, nG, nA⟩, vs, hp, r⟩ fun _ j t a hj ht ot ej z => ?_) (mb.trans s m') s' hq
    obtain ⟨a', e', _, w⟩ := Slot.own_at ot (f.at_ j t ht)
    rw [ej] at e'
    cases e'
    have z : V.ref q = V.ref a := Option.some.inj z
    cases z
    exact w.ne n) (k.xe f mb s)
/-- a target of several names, a tuple's value -/
theorem stm_un {pt : Pat} (hp : PatOk L tg pt) (hs : ∀ env, swapsWithSole [tg] e pos.line env = pure false) (hw : ∀ env : PySem.Env, env.scope = L.sc → swappedStores [tg] e env = pure none) (h1 : ∀ env, (assignEach [tg] env).map (·.2) = [assign tg env])
    (h : Ev L ρ M e (fun d M' => ∃ ρ', asg pt ρ d = some ρ' ∧ P.nx ρ' M') (fun C M' => P.ex C ρ M')) : Stm L ρ M (.Assign [tg] e pos) P := fun X ci B σ G H Dn f mb s k => by
  refine wpS_of (ps_asg (X := X) pe_wp (hp.pg ci) (hs X.env) (hw X.env ci.sc) (h1 X.env)) ?_
  refine h X ci B σ G H _ f s (fun v d G' M' H' m' s' r ⟨ρ', ha, q⟩ => ?_) (k.xe f mb s)
  exact pat_read (vs0 := pt.js) (τ := σ) ha (fun _ z => z) r s'.ex (f.move m') rfl fun σ' f' _ => k.nx σ' ρ' G' M' H' m'.g f' (mb.trans s m') s' q
/-- a, b = a list of two .. -/
theorem stm_unL {es : List Expr} {kt : Nat} {pt2 : Pos} {js : List Nat} (hp : NamesOk L es js) (hs : ∀ env, swapsWithSole [.Tuple es kt pt2] e pos.line env = pure false) (hw : ∀ env : PySem.Env, env.scope = L.sc → swappedStores [.Tuple es kt pt2] e env = pure none)
    (h : Ev L ρ M e (fun d M' => ∃ ds, d = .lst ds ∧ ds.length = js.length ∧ P.nx (setAll ρ js ds) M') (fun C M' => P.ex C ρ M')) : Stm L ρ M (.Assign [.Tuple es kt pt2] e pos) P := fun X ci B σ G H Dn f mb s k => by
  obtain ⟨e1, e2⟩ := hp.each X.env
  refine wpS_of (ps_asg (X := X) pe_wp (pg_lst (k := kt) (pos := pt2) ci.calm (hp.pgs ci) e1 e2) (hs X.env) (hw X.env ci.sc) (by rfl)) ?_
  refine h X ci B σ G H _ f s (fun v d G' M' H' m' s' r ⟨ds, hd, hl, q⟩ => ?_) (k.xe f mb s)
  subst hd
  obtain ⟨a, vs, rfl, h1, h2⟩ := r
  exact ⟨a, vs, rfl, by rw [ci.K]; exact SqL.of (s'.ex _ _ h1), by rw [h2.length, hl], setAll_read (vs0 := js) (τ := σ) (fun _ z => z) hl h2 (f.move m') rfl fun σ' f' _ => k.nx σ' _ G' M' H' m'.g f' (mb.trans s m') s' q⟩
/-- a, b = x, y, local names: stored from the right -/
theorem stm_par {y : Str} {py pt : Pos} {kt k2 : Nat} {pt2 : Pos} (hi : L.N[i]? = some x) (hj : L.N[j]? = some y) (hij : i ≠ j) (hx : L.sc.names.lookup x = some .local) (hy : L.sc.names.lookup y = some .local)
    (hw : ∀ env : PySem.Env, env.scope = L.sc → swappedStores [.Tuple [.Name x px, .Name y py] kt pt] (.Tuple [a, b] k2 pt2) env = pure (some [x, y]))
    (h : EvA L ρ M [a, b] (fun ds M' => ∃ d d', ds = [d, d'] ∧ P.nx ((ρ.set i (.v d)).set j (.v d')) M') (fun C M' => P.ex C ρ M')) : Stm L ρ M (.Assign [.Tuple [.Name x px, .Name y py] kt pt] (.Tuple [a, b] k2 pt2) pos) P := fun X ci B σ G H Dn f mb s k => by
  refine wpS_of (ps_par (X := X) ci.calm (by rw [ci.N]; exact ci.nd) (by rw [ci.N]; exact hi) (by rw [ci.N]; exact hj) hij (by rw [ci.sc]; exact hx) (by rw [ci.sc]; exact hy) pa_wp (hw X.env ci.sc) (by rfl)) ?_
  refine h X ci B σ G H _ f s (fun vs ds G' M' H' m' s' r ⟨d, d', e, q⟩ => ?_) (k.xe f mb s)
  subst e
  obtain ⟨v, u, rfl, r1, r2⟩ := r.of_two
  exact ⟨v, u, rfl, k.nx _ _ G' M' H' m'.g (((f.move m').set r1).set r2) (mb.trans s m') s' q⟩
theorem stm_par3 {y z : Str} {l : Nat} {py pz pt : Pos} {kt k2 : Nat} {pt2 : Pos} (hi : L.N[i]? = some x) (hj : L.N[j]? = some y) (hl : L.N[l]? = some z) (hij : i ≠ j) (hil : i ≠ l) (hjl : j ≠ l) (hx : L.sc.names.lookup x = some .local) (hy : L.sc.names.lookup y = some .local) (hz : L.sc.names.lookup z = some .local)
    (hw : ∀ env : PySem.Env, env.scope = L.sc → swappedStores [.Tuple [.Name x px, .Name y py, .Name z pz] kt pt] (.Tuple [a, b, c] k2 pt2) env = pure (some [x, y, z]))
    (h : EvA L ρ M [a, b, c] (fun ds M' => ∃ d d' d'', ds = [d, d', d''] ∧ P.nx (((ρ.set i (.v d)).set j (.v d')).set l (.v d'')) M') (fun C M' => P.ex C ρ M')) : Stm L ρ M (.Assign [.Tuple [.Name x px, .Name y py, .Name z pz] kt pt] (.Tuple [a, b, c] k2 pt2) pos) P := fun X ci B σ G H Dn f mb s k => by
  refine wpS_of (ps_par3 (X := X) ci.calm (by rw [ci.N]; exact ci.nd) (by rw [ci.N]; exact hi) (by rw [ci.N]; exact hj) (by rw [ci.N]; exact hl) hij hil hjl (by rw [ci.sc]; exact hx) (by rw [ci.sc]; exact hy) (by rw [ci.sc]; exact hz) pa_wp (hw X.env ci.sc) (by rfl)) ?_
  refine h X ci B σ G H _ f s (fun vs ds G' M' H' m' s' r ⟨d, d', d'', e, q⟩ => ?_) (k.xe f mb s)
  subst e
  obtain ⟨v, ws, rfl, r1, r2⟩ := r
  obtain ⟨u, w, rfl, r2, r3⟩ := r2.of_two
  exact ⟨v, u, w, rfl, k.nx _ _ G' M' H' m'.g ((((f.move m').set r1).set r2).set r3) (mb.trans s m') s' q⟩
/-- how o[i] = v runs -/
def SubA (a b : Expr) (ptx : Pos) : Prop := ∀ env v, assign (.Subscript a b ptx) env v = (do
      let ov ← holding [v] (eval a env)
      let iv ← holding [v, ov] (eval b env)
      standAt ptx
      holding [v, ov, iv] (setItem ov iv v)
      release [v, ov, iv] [])
/-- o[i] = v, o a list of the store -/
theorem stm_put {ptx : Pos} (hs : ∀ env, swapsWithSole [.Subscript a b ptx] e pos.line env = pure false) (hw : ∀ env, swappedStores [.Subscript a b ptx] e env = pure none) (h1 : ∀ env, (assignEach [.Subscript a b ptx] env).map (·.2) = [assign (.Subscript a b ptx) env])
    (ha : SubA a b ptx)
    (h : Ev L ρ M e (fun d M1 => Ev L ρ M1 a (fun o M2 => Ev L ρ M2 b (fun i M3 => ∃ (p : Nat) (k : Int) (ds : List D) (n : Nat), o = .ref p ∧ i = .int k ∧ M3[p]? = some (.lst ds) ∧ ixN ds.length k = some n ∧ P.nx ρ (M3.set p (.lst (ds.set n d)))) (fun C M' => P.ex C ρ M')) (fun C M' => P.ex C ρ M')) (fun C M' => P.ex C ρ M')) : Stm L ρ M (.Assign [.Subscript a b ptx] e pos) P := fun X ci B σ G H Dn f mb s k => by
  refine wpS_of (ps_asg (X := X) pe_wp (pg_sub (X := X) pe_wp pe_wp set_list (ha X.env)) (hs X.env) (hw X.env) (h1 X.env)) ?_
  have kx := k.xe f mb s
  refine h X ci B σ G H _ f s (fun v d G1 M1 H1 m1 s1 r1 q1 => ?_) kx
  refine q1 X ci B σ G1 H1 _ (f.move m1) s1 (fun o dO G2 M2 H2 m2 s2 r2 q2 => ?_) (kx.move s1 m1)
  refine q2 X ci B σ G2 H2 _ ((f.move m1).move m2) s2 (fun ix dI G3 M3 H3 m3 s3 r3 ⟨pp, kk, ds, n, eo, ei, hm, hn, q⟩ => ?_) ((kx.move s1 m1).move s2 m2)
  subst eo; subst ei
  obtain ⟨adr, eo, hA⟩ := r2
  have r3 : ix = .int kk := r3
  subst eo; subst r3
  obtain ⟨adr', hA', _, vs, h1, h2⟩ := s3.at hm
  have eA : adr' = adr := by
    have z := m3.g.A _ _ hA
    rw [hA'] at z; exact Option.some.inj z
  subst eA
  obtain ⟨s4, m4⟩ := s3.put (m' := .lst (ds.set n d)) (o := .lst (vs.set n v)) hm hA' (fun ps z => by cases z) fun H' e => ⟨_, e, h2.set ((r1.mono m2.g).mono m3.g) n⟩
  have m14 := ((m1.trans s1 m2).trans s2 m3).trans s3 m4
  exact ⟨adr', vs, kk, n, rfl, rfl, h1, by rw [h2.length]; exact hn, k.nx σ ρ _ _ _ m14.g (f.move m14) (mb.trans s m14) s4 q⟩
/-! ### own lists changed -/
theorem Frm.putOw {X : Cx} {g : Gx} {B : Bs} {G : Gh} {H : Hp} {σ : L2.St} {a : Addr} {o : HO} {s s' : Slot} (f : Frm X g B G H σ ρ) (hi : ρ[i]? = some s) (so : s.isOwn = true) (ea : σ[i]? = some (some (.ref a))) (so' : s'.isOwn = true) (hs : Ow B G a → OwOk B g G (upd H a o) a s') : Frm X g B G (upd H a o) σ (ρ.set i s') := by
  have hil : i < ρ.length := (List.getElem?_eq_some_iff.mp hi).1
  obtain ⟨a', ea', ow, _⟩ := Slot.own_at so (f.at_ i _ hi)
  rw [ea] at ea'; cases ea'
  refine ⟨by rw [List.length_set]; exact f.len, fun j t ht => ?_, fun j k t u b jk hj hk ot ou ej ek => ?_⟩
  · by_cases hj : i = j
    · subst hj
      rw [List.getElem?_set_self hil] at ht
      cases ht
      have := hs ow
      cases s' with
      | own ds => exact ⟨a, ea, ow, this⟩
      | ob c ns ds => exact ⟨a, ea, ow, this⟩
      | dc ks us => exact ⟨a, ea, ow, this⟩
      | _ => cases so'
    · rw [List.getElem?_set_ne hj] at ht
      have := f.at_ j t ht
      have own : ∀ b, t.isOwn = true → σ[j]? = some (some (.ref b)) → OwOk B g G H b t → OwOk B g G (upd H a o) b t := fun b ot e q => by
        have hne : b ≠ a := fun z => f.sep i j _ t a hj hi ht so ot ea (by rw [← z]; exact e)
        exact q.mono (.refl _) fun o e _ => by rw [upd_ne hne]; exact e
      cases t with
      | un => trivial
      | v d => exact this
      | lam ks => exact this
      | own es => obtain ⟨b, e, w, q⟩ := this; exact ⟨b, e, w, own b rfl e q⟩
      | ob c ns es => obtain ⟨b, e, w, q⟩ := this; exact ⟨b, e, w, own b rfl e q⟩
      | dc ks us => obtain ⟨b, e, w, q⟩ := this; exact ⟨b, e, w, own b rfl e q⟩
  · have key : ∀ {k : Nat} {t : Slot}, (ρ.set i s')[k]? = some t → t.isOwn = true → ∃ w, ρ[k]? = some w ∧ w.isOwn = true := fun {k t} e o => by
      by_cases e1 : i = k
      · subst e1; exact ⟨_, hi, so⟩
      · rw [List.getElem?_set_ne e1] at e; exact ⟨t, e, o⟩
    obtain ⟨w1, a1, a2⟩ := key hj ot
    obtain ⟨w2, b1, b2⟩ := key hk ou
    exact f.sep j k w1 w2 b jk a1 b1 a2 b2 ej ek
theorem Frm.putOwn {X : Cx} {g : Gx} {B : Bs} {G : Gh} {H : Hp} {σ : L2.St} {ds ds' : List D} {a : Addr} {vs' : List V} (f : Frm X g B G H σ ρ) (hi : ρ[i]? = some (.own ds)) (ea : σ[i]? = some (some (.ref a))) (r : Reps g G ds' vs') : Frm X g B G (upd H a (.lst vs')) σ (ρ.set i (.own ds')) :=
  f.putOw hi rfl ea rfl fun _ => ⟨vs', upd_same, r⟩
/-- found.append(e) -/
theorem stm_appO {apos xp np : Pos} {ds0 : List D} (hN : L.N[i]? = some x) (hv : Vis L.sc x) (hx : (x == ("__debug__" : Str)) = false) (hcd : (x == ("__classdict__" : Str)) = false) (hbase : ∀ env, attributeBase (.Name x np) "append" env (eval (.Name x np) env) = eval (.Name x np) env)
    (hfew : ∀ env, ((backTo xp (starEach [b] env)).all (fun x => !x.1) && (backToKw xp (keywordEach [] env)).all (fun x => x.1.isSome) && decide ([b].length + ([] : List Keyword).length + (if ([] : List Keyword).isEmpty then 0 else 1) < 30)) = true)
    (hline : (apos.endLine == xp.line) = true) (hs : ∀ env, starEach [b] env = (false, eval b env) :: starEach [] env) (hi : ρ[i]? = some (.own ds0))
    (h : Ev L ρ M b (fun d M1 => ds0.length < 100000 ∧ P.nx (ρ.set i (.own (ds0 ++ [d]))) M1) (fun C M' => P.ex C ρ M')) : Stm L ρ M (.Expr (.Call (.Attribute (.Name x np) "append" apos) [b] [] xp) pos) P := fun X ci B σ G H Dn f mb s k => by
  refine wpS_of (ps_expr (X := X) (pe_bm (X := X) PySem.F.plainAttrs_list PySem.F.slot_list_append PySem.F.type_list_append mt_append (pe_var (X := X) (i := i) (by rw [ci.N]; exact hN) (ci.vis hv) hx hcd) (pa_wp (es := [b])) (hbase X.env) (hfew X.env) hline (hs X.env) (by rfl)) (by rfl)) ?_
  obtain ⟨a, ea, ow, vs0, hv0, hr0⟩ := f.at_ i _ hi
  refine ⟨.ref a, ea, ?_⟩
  refine ⟨.inl ⟨rfl, vs0, SqL.of hv0⟩, ?_⟩
  refine ea_cons (L := L) (Q := fun es M2 => ∃ d, es = [d] ∧ ds0.length < 100000 ∧ P.nx (ρ.set i (.own (ds0 ++ [d]))) M2) hs (h.mono (fun d M2 q => ea_nil (E := fun C M' => P.ex C ρ M') ⟨d, rfl, q⟩) fun _ _ z => z) X ci B σ G H _ f s (fun vs es G2 M2 H2 m2 s2 r2 ⟨d, e1, hz, q⟩ => ?_) (k.xe f mb s)
  subst e1
  obtain ⟨u, rfl, r3⟩ := r2.of_one
  have f2 := f.move m2
  have mb2 := mb.trans s m2
  obtain ⟨a', ea', ow2, vs2, hv2, hr2⟩ := f2.at_ i _ hi
  rw [ea] at ea'; cases ea'
  obtain ⟨s3, m3⟩ := s2.putOwn (o := .lst (vs2 ++ [u])) ow2 hv2 (fun ps z => by cases z) mb2
  refine ⟨a, vs2, u, rfl, rfl, hv2, by rw [hr2.length]; exact Nat.lt_of_lt_of_le hz (by decide), ?_⟩
  exact k.nx σ _ G2 _ _ m2.g (f2.putOwn hi ea (hr2.append (.one r3))) m3 s3 q
/-- found[k] = e -/
theorem stm_putO {ptx np : Pos} {x : Str} {ds0 : List D} (hN : L.N[i]? = some x) (hv : Vis L.sc x) (hx : (x == ("__debug__" : Str)) = false) (hcd : (x == ("__classdict__" : Str)) = false) (hs : ∀ env, swapsWithSole [.Subscript (.Name x np) b ptx] e pos.line env = pure false) (hw : ∀ env, swappedStores [.Subscript (.Name x np) b ptx] e env = pure none) (h1 : ∀ env, (assignEach [.Subscript (.Name x np) b ptx] env).map (·.2) = [assign (.Subscript (.Name x np) b ptx) env])
    (ha : SubA (.Name x np) b ptx) (hi : ρ[i]? = some (.own ds0))
    (h : Ev L ρ M e (fun d M1 => Ev L ρ M1 b (fun j M3 => ∃ (k : Int) (n : Nat), j = .int k ∧ ixN ds0.length k = some n ∧ P.nx (ρ.set i (.own (ds0.set n d))) M3) (fun C M' => P.ex C ρ M')) (fun C M' => P.ex C ρ M')) : Stm L ρ M (.Assign [.Subscript (.Name x np) b ptx] e pos) P := fun X ci B σ G H Dn f mb s k => by
  refine wpS_of (ps_asg (X := X) pe_wp (pg_sub (X := X) (pe_var (X := X) (i := i) (by rw [ci.N]; exact hN) (ci.vis hv) hx hcd) pe_wp set_list (ha X.env)) (hs X.env) (hw X.env) (h1 X.env)) ?_
  have kx := k.xe f mb s
  refine h X ci B σ G H _ f s (fun v d G1 M1 H1 m1 s1 r1 q1 => ?_) kx
  have f1 := f.move m1
  obtain ⟨a, ea, _⟩ := f1.at_ i _ hi
  refine ⟨.ref a, ea, ?_⟩
  refine q1 X ci B σ G1 H1 _ f1 s1 (fun ix dI G3 M3 H3 m3 s3 r3 ⟨kk, n, ei, hn, q⟩ => ?_) (kx.move s1 m1)
  subst ei
  have r3 : ix = .int kk := r3
  subst r3
  have f3 := f1.move m3
  have mb3 := (mb.trans s m1).trans s1 m3
  obtain ⟨a', ea', ow, vs, hv3, hr3⟩ := f3.at_ i _ hi
  rw [ea] at ea'; cases ea'
  obtain ⟨s4, m4⟩ := s3.putOwn (o := .lst (vs.set n v)) ow hv3 (fun ps z => by cases z) mb3
  exact ⟨a, vs, kk, n, rfl, rfl, hv3, by rw [hr3.length]; exact hn, k.nx σ _ _ _ _ (m1.g.trans m3.g) (f3.putOwn hi ea (hr3.set (r1.mono m3.g) n)) m4 s4 q⟩
/-- len(found), found[k] -/
theorem ev_lenO {Q : D → Store → Prop} {E : Nat → Store → Prop} {np : Pos} {ds0 : List D} (hN : L.N[i]? = some x) (hv : Vis L.sc x) (hx : (x == ("__debug__" : Str)) = false) (hcd : (x == ("__classdict__" : Str)) = false) (hg : Glo L "len") (hm : L.g.mg "len" = none) (hi : ρ[i]? = some (.own ds0)) (q : Q (.int ds0.length) M) : Ev L ρ M (.Call (.Name "len" p) [.Name x np] [] pos) Q E := fun X ci B σ G H R f s k kx => by
  refine wp_of (pe_callB call_len_seq (ci.gl hg) (by rw [ci.mg]; exact hm) PySem.boot_len (pa_cons (pe_var (X := X) (i := i) (by rw [ci.N]; exact hN) (ci.vis hv) hx hcd) pa_nil)) ?_
  obtain ⟨a, ea, ow, vs0, hv0, hr0⟩ := f.at_ i _ hi
  refine ⟨.ref a, ea, a, vs0, rfl, .inl (SqL.of hv0), ?_⟩
  rw [hr0.length]
  exact k _ _ G M H (.refl ..) s rep_int q
theorem ev_ixO {Q : D → Store → Prop} {E : Nat → Store → Prop} {np : Pos} {ds0 : List D} (hp : PlainIx b) (hN : L.N[i]? = some x) (hv : Vis L.sc x) (hx : (x == ("__debug__" : Str)) = false) (hcd : (x == ("__classdict__" : Str)) = false) (hi : ρ[i]? = some (.own ds0)) (h : Ev L ρ M b (fun j M1 => ∃ k d, j = .int k ∧ atD ds0 k = some d ∧ Q d M1) E) : Ev L ρ M (.Subscript (.Name x np) b pos) Q E := fun X ci B σ G H R f s k kx => by
  refine wp_of (pe_ix ix_list (pe_var (X := X) (i := i) (by rw [ci.N]; exact hN) (ci.vis hv) hx hcd) pe_wp hp) ?_
  obtain ⟨a, ea, _⟩ := f.at_ i _ hi
  refine ⟨.ref a, ea, ?_⟩
  refine h X ci B σ G H _ f s (fun ix dI G1 M1 H1 m1 s1 r1 ⟨kk, d, ei, hd, q⟩ => ?_) kx
  subst ei
  have r1 : ix = .int kk := r1
  subst r1
  obtain ⟨a', ea', ow, vs, hv1, hr1⟩ := (f.move m1).at_ i _ hi
  rw [ea] at ea'; cases ea'
  obtain ⟨w, hw, rw'⟩ := hr1.atI hd
  exact ⟨a, vs, kk, w, rfl, rfl, SqL.of hv1, hw, k w d G1 M1 H1 m1 s1 rw' q⟩
/-! ### expressions dropped, if, while, for, return, raise -/
theorem stm_expr (hs : ∀ env, swapsWith e none pos.line env = pure false) (h : Ev L ρ M e (fun _ M' => P.nx ρ M') (fun C M' => P.ex C ρ M')) : Stm L ρ M (.Expr e pos) P := fun X ci B σ G H Dn f mb s k =>
  wpS_of (ps_expr (X := X) pe_wp (hs X.env)) (h X ci B σ G H _ f s (fun v d G' M' H' m' s' r q => k.nx σ ρ G' M' H' m'.g (f.move m') (mb.trans s m') s' q) (k.xe f mb s))
theorem stm_doc {z : Str} {jj : Nat} (q : P.nx ρ M) : Stm L ρ M (.Expr (.Constant (.str z) jj p) pos) P := fun X ci B σ G H Dn f mb s k => wpS_of ps_doc (k.nx σ ρ G M H (.refl _) f mb s q)
theorem stm_if {aa bb : List Stmt} (h : EvT L ρ M c (fun t M1 => if t = true then Run L ρ M1 aa P else Run L ρ M1 bb P) (fun C M' => P.ex C ρ M')) : Stm L ρ M (.If c aa bb pos) P := fun X ci B σ G H Dn f mb s k =>
  wpS_of (ps_if (X := X) pt_wp pss_wp pss_wp) (h X ci B σ G H _ f s (fun t G1 M1 H1 m1 s1 q => by
    cases t with
    | true =>
      rw [if_pos rfl] at q
      rw [if_pos rfl]
      exact q X ci B σ G1 H1 Dn (f.move m1) (mb.trans s m1) s1 (k.wk m1.g)
    | false =>
      rw [if_neg Bool.false_ne_true] at q
      rw [if_neg Bool.false_ne_true]
      exact q X ci B σ G1 H1 Dn (f.move m1) (mb.trans s m1) s1 (k.wk m1.g)) (k.xe f mb s))
theorem stm_ret (h : Ev L ρ M e P.rt (fun C M' => P.ex C ρ M')) : Stm L ρ M (.Return (some e) pos) P := fun X ci B σ G H Dn f mb s k => wpS_of (ps_ret (X := X) pe_wp) (h X ci B σ G H _ f s (k.ret s mb) (k.xe f mb s))
theorem stm_retN (q : P.rt .non M) : Stm L ρ M (.Return none pos) P := fun X ci B σ G H Dn f mb s k => wpS_of (ps_retN (X := X)) (k.rt _ _ G M H mb s rep_non q)
theorem stm_pass (q : P.nx ρ M) : Stm L ρ M (.Pass pos) P := fun X ci B σ G H Dn f mb s k => wpS_of ps_pass (k.nx σ ρ G M H (.refl _) f mb s q)
theorem stm_break (q : P.bk ρ M) : Stm L ρ M (.Break pos) P := fun X ci B σ G H Dn f mb s k => wpS_of ps_break (k.bk σ ρ G M H (.refl _) f mb s q)
theorem stm_cont (q : P.ct ρ M) : Stm L ρ M (.Continue pos) P := fun X ci B σ G H Dn f mb s k => wpS_of ps_continue (k.ct σ ρ G M H (.refl _) f mb s q)
theorem stm_while {body : List Stmt} (I : Nat → Ro → Store → Prop) (m0 : Nat) (h0 : I m0 ρ M) (hs : ∀ m ρ' M', I m ρ' M' → EvT L ρ' M' c (fun t M1 => if t = true then Run L ρ' M1 body { P with nx := fun ρ2 M2 => ∃ m', m' < m ∧ I m' ρ2 M2, ct := fun ρ2 M2 => ∃ m', m' < m ∧ I m' ρ2 M2, bk := P.nx } else P.nx ρ' M1) (fun C M2 => P.ex C ρ' M2)) : Stm L ρ M (.While c body [] pos) P := fun X ci B σ G H Dn f mb s k => by
  refine wpS_of (ps_while (X := X) ci.own pt_wp pss_wp) ?_
  refine ⟨fun m σ' H' => ∃ G' ρ' M', G.le G' ∧ Frm X L.g B G' H' σ' ρ' ∧ Mv B.G B.H G' H' ∧ Sta L.g G' H' M' ∧ I m ρ' M', ⟨m0, G, ρ, M, .refl _, f, mb, s, h0⟩, ?_⟩
  rintro m σ1 H1 ⟨G1, ρ1, M1, l1, f1, m1, s1, i1⟩
  refine hs m ρ1 M1 i1 X ci B σ1 G1 H1 _ f1 s1 (fun t G2 M2 H2 m2 s2 q => ?_) ((k.wk l1).xe f1 m1 s1)
  have m12 := m1.trans s1 m2
  have l2 := l1.trans m2.g
  have k := k.wk l2
  cases t with
  | true =>
    rw [if_pos rfl] at q
    rw [if_pos rfl]
    refine ⟨fun σ' H' => ∃ m', m' < m ∧ ∃ G' ρ' M', G.le G' ∧ Frm X L.g B G' H' σ' ρ' ∧ Mv B.G B.H G' H' ∧ Sta L.g G' H' M' ∧ I m' ρ' M', fun _ _ z => z, ?_⟩
    refine q X ci B σ1 G2 H2 _ (f1.move m2) m12 s2 ⟨?_, k.rt, ?_, ?_, k.ex⟩
    · rintro σ' ρ' G' M' H' l' f' m' s' ⟨mm, hm, ii⟩
      exact ⟨mm, hm, G', ρ', M', l2.trans l', f', m', s', ii⟩
    · exact fun σ' ρ' G' M' H' l' f' m' s' q' => k.nx σ' ρ' G' M' H' l' f' m' s' q'
    · rintro σ' ρ' G' M' H' l' f' m' s' ⟨mm, hm, ii⟩
      exact ⟨mm, hm, G', ρ', M', l2.trans l', f', m', s', ii⟩
  | false =>
    rw [if_neg Bool.false_ne_true] at q
    rw [if_neg Bool.false_ne_true]
    exact k.nx σ1 ρ1 G2 M2 H2 (.refl _) (f1.move m2) m12 s2 q
theorem stm_for {body : List Stmt} {iter : Expr} {pt : Pat} (hp : PatOk L tg pt) (hf : ∀ env x, foldedSetIterable iter env x = pure x)
    (h : Src L ρ M tg iter (fun ds M1 => ∃ I : Nat → Ro → Store → Prop, I 0 ρ M1 ∧ (∀ i d, ds[i]? = some d → ∀ ρ' M', I i ρ' M' → ∃ ρ2, asg pt ρ' d = some ρ2 ∧ Run L ρ2 M' body { P with nx := I (i + 1), ct := I (i + 1), bk := P.nx }) ∧ ∀ ρ' M', I ds.length ρ' M' → P.nx ρ' M') (fun C M' => P.ex C ρ M')) : Stm L ρ M (.For tg iter body [] pos) P := fun X ci B σ G H Dn f mb s k => by
  refine wpS_of (ps_for (X := X) ci.own ci.calm pi_wp (hp.pg ci) pss_wp (hf X.env)) ?_
  refine h X ci B σ G H _ f s (fun J ds G1 M1 H1 m1 s1 sv ⟨I, i0, turn, fin⟩ => ?_) (k.xe f mb s)
  have f1 := f.move m1
  have mb1 := mb.trans s m1
  refine ⟨fun i m σ' H' => m = ds.length - i ∧ i ≤ ds.length ∧ ∃ G' ρ' M', Frm X L.g B G' H' σ' ρ' ∧ Mv B.G B.H G' H' ∧ G1.le G' ∧ Sta L.g G' H' M' ∧ I i ρ' M', ⟨ds.length, by simp, Nat.zero_le _, G1, ρ, M1, f1, mb1, .refl _, s1, i0⟩, ?_⟩
  rintro i m σ2 H2 ⟨rfl, hi, G2, ρ2, M2, f2, m2, l2, s2, ii⟩
  by_cases hlt : i < ds.length
  · have hd : ds[i]? = some ds[i] := List.getElem?_eq_getElem hlt
    obtain ⟨go, yl⟩ := sv.go i _ hd G2 H2 M2 l2 s2
    refine .inr ⟨go, fun σ' H' => ∃ G' ρ' M', Frm X L.g B G' H' σ' ρ' ∧ Mv B.G B.H G' H' ∧ G1.le G' ∧ Sta L.g G' H' M' ∧ I (i + 1) ρ' M', fun σ' H' q => ⟨ds.length - (i + 1), by omega, rfl, hlt, q⟩, fun w H3 hy => ?_⟩
    obtain ⟨G3, s3, m3, r3⟩ := yl w H3 hy
    have m23 := m2.trans s2 m3
    obtain ⟨ρ3, ha, body⟩ := turn i _ hd ρ2 M2 ii
    refine pat_read (vs0 := pt.js) (τ := σ2) ha (fun _ z => z) r3 s3.ex (f2.move m3) rfl fun σ3 f3 _ => ?_
    have l3 : G1.le G3 := l2.trans m3.g
    have k3 := k.wk (m1.g.trans l3)
    refine body X ci B σ3 G3 H3 _ f3 m23 s3 ⟨?_, k3.rt, ?_, ?_, k3.ex⟩
    · exact fun σ' ρ' G' M' H' l' f' m' s' q => ⟨G', ρ', M', f', m', l3.trans l', s', q⟩
    · exact fun σ' ρ' G' M' H' l' f' m' s' q' => k3.nx σ' ρ' G' M' H' l' f' m' s' q'
    · exact fun σ' ρ' G' M' H' l' f' m' s' q => ⟨G', ρ', M', f', m', l3.trans l', s', q⟩
  · have e : i = ds.length := by omega
    subst e
    exact .inl ⟨sv.stop G2 H2 M2 l2 s2, (k.wk (m1.g.trans l2)).nx σ2 ρ2 G2 M2 H2 (.refl _) f2 m2 s2 (fin ρ2 M2 ii)⟩
/-- an own class of error: what the written part tells of it -/
structure ExcC (g : Gx) (x : Str) (C : Addr) : Prop where
  m : g.mg x = some (.ref C)
  kp : PySem.W.keepIn g.K (.ref C) = true
  ex : PySem.W.excIn g.K C [.type "ValueError", .type "Exception", .type "BaseException", .type "object"] "ValueError.__new__" = true
  sub : PySem.W.subIn g.K (.ref C) (.type "BaseException") = some true
  ty : PySem.W.typeIn g.K (.ref C) = some (.type "type")
theorem stm_raise {C : Nat} {m : Str} {jj : Nat} {p2 p3 : Pos} (K : ExcC L.g x (L.g.ca C)) (hg : Glo L x) (q : P.ex C ρ M) (hdb : (x == ("__debug__" : Str)) = false) : Stm L ρ M (.Raise (some (.Call (.Name x p) [.Constant (.str m) jj p2] [] p3)) none pos) P := fun X ci B σ G H Dn f mb s k =>
  wpS_of (ps_raise (X := X) ci.calm (takesT X) (pmk_own (X := X) PySem.F.excBase_ValueError (by rw [ci.K]; exact K.ex) (by rw [ci.mg]; exact K.m) (by rw [ci.K]; exact K.kp) (raises_own (by rw [ci.K]; exact K.sub) (by rw [ci.K]; exact K.ty)) (ci.gl hg) hdb)) ⟨_, rfl, rfl, k.ex C σ ρ G M H (.refl _) f mb s q⟩
end
end PI
set_option Elab.async false
set_option linter.all false
set_option maxRecDepth 100000
set_option maxHeartbeats 4000000
/-! DH: generator expressions, their elements in a context of their own. -/
namespace PI
open PySem PySem.Spec PyProof.Rows L2 GenW
/-- the context of a generator expression's block -/
abbrev gxOf (X : Cx) (Ng : List Str) (A : Around) (s : Shared) (H : Hp) (ce : PySem.Env) (fp : List Addr) (pn : List (Addr × Obj)) : Cx :=
  { X with A := A.deeper ce, N := Ng, s_0 := s, H_0 := H, env := ce, outer := X.stack, stack := ce :: X.stack, ex := fp, fn := fun x => ce.scope.names.lookup x == some .cell, calm := true, pn := pn, xe := fun _ _ => False }
theorem over_genLoop {A : Around} {elt tg iter : Expr} {ifs : List Expr} {scope : Scope} {pos : Pos} {it acc : Value} {ce : PySem.Env} :
    A.over (.compLoop (.GeneratorExp elt [⟨tg, iter, ifs, 0⟩] scope pos) 0 it acc ce) [] = A.deeper ce := by
  first
    | rfl
    | (obtain ⟨hd, d, fr, gs, u⟩ := A; simp [Around.over, Around.deeper, marksOver, frameCount, unitsOf, envsOf, guardsOf, pushEnvs, pushGuards, Code.envs, Code.env?, Code.isFrame, Code.guards, Code.isGuard, Code.weight, Code.frames, Code.isCreation, Code.isCaller, Code.cUnits])
theorem over_genStart {A : Around} {elt tg iter : Expr} {ifs : List Expr} {scope : Scope} {pos : Pos} {it acc : Value} {ce : PySem.Env} :
    A.over (.compStart (.GeneratorExp elt [⟨tg, iter, ifs, 0⟩] scope pos) 0 it acc ce) [] = A.deeper ce := by
  first
    | rfl
    | (obtain ⟨hd, d, fr, gs, u⟩ := A; simp [Around.over, Around.deeper, marksOver, frameCount, unitsOf, envsOf, guardsOf, pushEnvs, pushGuards, Code.envs, Code.env?, Code.isFrame, Code.guards, Code.isGuard, Code.weight, Code.frames, Code.isCreation, Code.isCaller, Code.cUnits])
section
variable {X : Cx} {A : Around} {elt tg iter : Expr} {ifs : List Expr} {scope : Scope} {pos : Pos} {it S : Addr} {fp : List Addr} {tn : Nat → Heap → Prop} {J : It} {g : TG} {tt : TT} {te : TE} {vs : List Nat} {σ0 : L2.St}
/-- the turns of a generator expression in its own context X -/
theorem seg_gturns (hA : X.A = A.deeper X.env) (hc : X.calm = true) (hxe : X.xe = fun _ _ => False) (hex : X.ex = fp) (hco : X.env.scope.isCoroutine = false) (hpn : ∀ p ∈ X.pn, p.1 ≠ S) (hpf : ∀ p ∈ X.pn, p.1 ∉ fp) (hSf : S ∉ fp) (hAp : Apart X S)
    (T : Turn X.prog X.w X.K tg J fp it tn) (hg : PG X tg g) (ht : PTs X ifs tt) (he : PE X elt te) (Fin : List V → Hp → Prop) (W : Nat → Nat → List V → Hp → Prop)
    (turn : ∀ i m ys H, W i m ys H → (J.stop i H ∧ Fin ys H) ∨ (J.go i H ∧ ∃ Nx : List V → Hp → Prop, (∀ ys' H', Nx ys' H' → ∃ m', m' < m ∧ W (i + 1) m' ys' H') ∧ ∀ x H', J.yld i H x H' → g x σ0 H' fun σ2 H2 => wipe σ2 vs = σ0 ∧ tt σ2 H2 fun b H3 =>
      if b = true then te σ2 H3 fun y H4 => ys.length < sizeLine ∧ Nx (ys ++ [y]) H4 else Nx ys H3)) :
    ∀ (m i n : Nat) (ys : List V) (s₀ s : Shared) (H : Hp), W i m ys H → n + ys.length = sizeLine → GI X S [] ys σ0 H s → tn i s.heap → (∀ b ∈ fp, H b = none) →
      Seg (model X.prog X.w) A (fun n _ r s1 => r = .ok .next ∧ ∃ ys H', n + ys.length = sizeLine ∧ GI X S [] ys σ0 H' s1 ∧ Fin ys H') (GY X S) n s₀
        (.compLoop (.GeneratorExp elt [⟨tg, iter, ifs, 0⟩] scope pos) 0 (.ref it) .none X.env) ((model X.prog X.w).den (.compLoop (.GeneratorExp elt [⟨tg, iter, ifs, 0⟩] scope pos) 0 (.ref it) .none X.env)) [] s := by
  have thx : ∀ {α : Type} {t : Sem α} {Q Q' : α → Shared → Prop} {E : Value → Shared → Prop} {s : Shared}, wpAny (model X.prog X.w) X.A t Q X.xe s → (∀ a s, Q a s → Q' a s) → wpAny (model X.prog X.w) X.A t Q' E s := fun h hQ =>
    wpAny_mono h hQ fun _ _ z => by rw [hxe] at z; exact z.elim
  intro m
  induction m using Nat.strongRecOn with
  | _ m ih =>
  intro i n ys s₀ s H w hn hI st nfp
  have hAo : A.over (.compLoop (.GeneratorExp elt [⟨tg, iter, ifs, 0⟩] scope pos) 0 (.ref it) .none X.env) [] = X.A := by rw [hA]; exact over_genLoop
  show Seg _ A _ _ _ s₀ _ ((compTurn (.GeneratorExp elt [⟨tg, iter, ifs, 0⟩] scope pos) 0 (.ref it) .none X.env).onRaise (leaving X.env)) [] s
  rw [compTurn_gen, Sem.onRaise_eq_wrap]
  refine seg_bind_wrap (wpAny_standAt ?_)
  obtain ⟨acc, c, rv, I⟩ := hI
  have stat : ∀ {σ' : L2.St} {H' : Hp} {s' : Shared}, Inv X [(S, lstObj acc c)] σ' H' s' → (∀ b ∈ fp, H' b = none) → ∀ b ∈ fp, FpOk X [(S, lstObj acc c)] H' b := fun {σ' H' s'} I' hn b hb => by
    have hb' : b ∈ X.ex := by rw [hex]; exact hb
    refine ⟨hn b hb, (I'.ok.exf b hb').1, I'.ok.exfs b hb', .inl hb', fun x c e => (I'.ok.exf b hb').2 x c e, fun p hp => ?_⟩
    rcases List.mem_append.mp hp with hp | hp
    · intro z; exact hpf p hp (by rw [z]; exact hb)
    · rw [List.mem_singleton.mp hp]
      intro z; exact hSf (by rw [show S = b from z]; exact hb)
  rcases turn i m ys H w with ⟨stop, fin⟩ | ⟨go, Nx, hNx, step⟩
  · refine seg_bind_wrap ?_
    rw [hAo]
    have td := T.done X rfl rfl rfl hc i [(S, lstObj acc c)] s _ H (fun _ _ => False) I (stat I nfp) st stop
    refine thnF td fun r s1 ⟨hr, I1⟩ => ?_
    subst hr
    exact seg_end (.ok .next) ⟨rfl, ys, H, hn, ⟨acc, c, rv, I1⟩, fin⟩
  · refine seg_bind_wrap ?_
    rw [hAo]
    have ti := T.item X rfl rfl rfl hc i [(S, lstObj acc c)] s _ H (fun _ _ => False) I (stat I nfp) st go
    refine thnF ti fun r s1 ⟨u, hr, h6⟩ => ?_
    subst hr
    refine seg_bind_wrap ?_
    rw [hAo]
    refine thnF h6 fun _ s7 ⟨x, H7, I7, r7, y7, st7, n7⟩ => ?_
    have I7' := I7.pinned (stat I7 n7) (T.obj _ _ st7)
    have hipS : ∀ p ∈ pinsAt fp s7.heap, p.1 ≠ S := fun p hp z => hSf (by rw [← z]; exact (of_pinsAt hp).1)
    refine seg_bind_wrap ?_
    rw [hAo]
    refine thx (hg.run _ s7 _ H7 x u _ I7' r7 (step x H7 y7)) fun _ s8 ⟨σ8, H8, I8, hw8, q8⟩ => ?_
    refine seg_bind_wrap ?_
    rw [hAo]
    refine thx (ht.run _ s8 σ8 H8 _ I8 q8) fun b s9 ⟨H9, I9, q9⟩ => ?_
    -- the turn's end
    have again_ : ∀ {s' : Shared} {H' : Hp} {ys' : List V} {n' : Nat} {s0' : Shared}, GI X S (pinsAt fp s7.heap) ys' σ8 H' s' → n' + ys'.length = sizeLine → Nx ys' H' →
        Seg (model X.prog X.w) A (fun n _ r s1 => r = .ok .next ∧ ∃ ys H', n + ys.length = sizeLine ∧ GI X S [] ys σ0 H' s1 ∧ Fin ys H') (GY X S) n' s0'
          (.compLoop (.GeneratorExp elt [⟨tg, iter, ifs, 0⟩] scope pos) 0 (.ref it) .none X.env) ((model X.prog X.w).den (.compLoop (.GeneratorExp elt [⟨tg, iter, ifs, 0⟩] scope pos) 0 (.ref it) .none X.env)) [] s' := by
      intro s' H' ys' n' s0' hI' hn' nx
      obtain ⟨acc', c', rv', I'⟩ := hI'
      obtain ⟨m', hm, w'⟩ := hNx ys' H' nx
      have pin' : ∀ b ∈ fp, ∀ o, s7.heap.get? b = some o → s'.heap.get? b = some o ∧ H' b = none := fun b hb o e =>
        let z := I'.pin (b, o) (List.mem_append_right _ (List.mem_cons_of_mem _ (mem_pinsAt hb e)))
        ⟨z.1, z.2.1⟩
      have I0 : Inv X [(S, lstObj acc' c')] σ8 H' s' := I'.pins_of fun p hp => I'.pin p (List.mem_append_right _ (by rw [List.mem_singleton.mp hp]; exact List.mem_cons_self))
      have hl : σ0.length = σ8.length := by rw [← hw8, wipe_length]
      refine ih m' hm (i + 1) n' ys' s0' s' H' w' hn' ⟨acc', c', rv', I0.weak hl (fun j v e => ?_)⟩ (T.keep _ _ _ st7 fun b hb o e => (pin' b hb o e).1) fun b hb => ?_
      · rw [← hw8] at e
        exact (wipe_some e).1
      · obtain ⟨o, e, _⟩ := T.obj _ _ st7 b hb
        exact (pin' b hb o e).2
    cases b with
    | false =>
      simp only [Bool.false_eq_true, if_false] at q9 ⊢
      exact seg_again rfl (again_ ⟨acc, c, rv, I9⟩ hn q9)
    | true =>
      simp only [if_true] at q9 ⊢
      have hy : ∀ v, yieldOut X.env v = yieldValue v := fun v => by simp only [yieldOut, hco, Bool.false_eq_true, if_false]
      simp only [hy]
      rw [Sem.bind_eq_wrap', Sem.bind_eq_wrap', Sem.wrap_wrap, Sem.wrap_wrap]
      refine seg_wrap ?_
      rw [hAo]
      refine thx (he.run _ s9 σ8 H9 _ I9 q9) fun z s10 ⟨yv, H10, I10, r10, hlt, nx⟩ => ?_
      obtain ⟨n, rfl⟩ : ∃ k, n = k + 1 := ⟨n - 1, by omega⟩
      refine seg_at (seg_yield rfl rfl rfl ?_)
      have G10 : GI X S (pinsAt fp s7.heap) ys σ8 H10 s10 := ⟨acc, c, rv, I10⟩
      refine ⟨ys, yv, _, σ8, H10, hn, r10, G10, fun s' z => ?_⟩
      refine seg_again rfl (again_ (G10.woken hpn hipS hAp r10 z) ?_ nx)
      rw [List.length_append, List.length_singleton]; omega
end
end PI
set_option Elab.async false
set_option linter.all false
set_option maxRecDepth 100000
set_option maxHeartbeats 4000000
/-! DI: a generator expression is made; tuple of it. -/
namespace PI
open PySem PySem.Spec PyProof.Rows L2 GenW
/-- a generator expression's names: Ng; where each free one comes from -/
structure GScp (N : List Str) (sc scope : Scope) (Ng : List Str) (src : List (Option Nat)) : Prop where
  kind : scope.kind = .function
  co : scope.isCoroutine = false
  cell : ∀ y ∈ scope.names, y.2 ≠ .cell
  dot : scope.names.lookup (".0" : Str) = some NameKind.local
  free : ∀ y ∈ scope.names, y.2 = .free → sc.names.lookup y.1 = some .cell ∨ sc.names.lookup y.1 = some .free
  nd : Ng.Nodup
  len : src.length = Ng.length
  at_ : ∀ (j i : Nat), src[j]? = some (some i) → ∃ y, Ng[j]? = some y ∧ N[i]? = some y ∧ scope.names.lookup y = some .free
def gscp (N : List Str) (sc scope : Scope) (Ng : List Str) (src : List (Option Nat)) : Bool :=
  decide (scope.kind = .function) && !scope.isCoroutine && scope.names.all (fun y => !decide (y.2 = .cell)) && decide (scope.names.lookup (".0" : Str) = some NameKind.local) &&
  scope.names.all (fun y => !decide (y.2 = .free) || decide (sc.names.lookup y.1 = some .cell) || decide (sc.names.lookup y.1 = some .free)) && decide Ng.Nodup && decide (src.length = Ng.length) &&
  (List.range src.length).all fun j => match src[j]? with
    | some (some i) => (match Ng[j]? with | some y => decide (N[i]? = some y) && decide (scope.names.lookup y = some .free) | none => false)
    | _ => true
theorem gscp_ok {N : List Str} {sc scope : Scope} {Ng : List Str} {src : List (Option Nat)} (h : gscp N sc scope Ng src = true) : GScp N sc scope Ng src := by
  unfold gscp at h
  simp only [Bool.and_eq_true, decide_eq_true_eq, Bool.not_eq_true', List.all_eq_true, Bool.or_eq_true, decide_eq_false_iff_not] at h
  obtain ⟨⟨⟨⟨⟨⟨⟨h1, h2⟩, h3⟩, h4⟩, h5⟩, h6⟩, h7⟩, h8⟩ := h
  refine ⟨h1, h2, fun y hy => h3 y hy, h4, fun y hy e => ?_, h6, h7, fun j i e => ?_⟩
  · rcases h5 y hy with (z | z) | z
    · exact absurd e z
    · exact .inl z
    · exact .inr z
  · have hj : j ∈ List.range src.length := List.mem_range.mpr (List.getElem?_eq_some_iff.mp e).1
    have q := h8 j hj
    rw [e] at q
    simp only at q
    cases hy : Ng[j]? with
    | none => rw [hy] at q; cases q
    | some y =>
      rw [hy] at q
      simp only [Bool.and_eq_true, decide_eq_true_eq] at q
      exact ⟨y, rfl, q.1, q.2⟩
def sigG (src : List (Option Nat)) (σ : L2.St) : L2.St := src.map fun o => match o with
  | none => none
  | some i => (σ[i]?).join
theorem sigG_some {src : List (Option Nat)} {σ : L2.St} {j : Nat} {v : V} (h : (sigG src σ)[j]? = some (some v)) : ∃ i, src[j]? = some (some i) ∧ σ[i]? = some (some v) := by
  unfold sigG at h
  rw [List.getElem?_map] at h
  cases q : src[j]? with
  | none => rw [q] at h; cases h
  | some o =>
    rw [q] at h
    cases o with
    | none => cases h
    | some i =>
      refine ⟨i, rfl, ?_⟩
      have h : (σ[i]?).join = some v := Option.some.inj h
      cases e : σ[i]? with
      | none => rw [e] at h; cases h
      | some u => rw [e] at h; exact congrArg some h
section
variable {X : Cx} {pins : List (Addr × Obj)} {σ : L2.St} {H : Hp} {sc s2 : Shared} {scope : Scope} {Ng : List Str} {src : List (Option Nat)} {fp : List Addr} {pn pins' : List (Addr × Obj)} {A : Around} {code : Value} {k : Nat}
/-- the generator's frame, ahead of its first turn -/
theorem inv_gstart (I : Inv X pins σ H sc) (S : GScp X.N X.env.scope scope Ng src) (hfp : ∀ b ∈ fp, FpOk X pins H b ∧ b < sc.heap.objs.size) (hr : Room (k + 1) A) (hfr : A.frames = some X.stack)
    (kp : ∀ b o, sc.heap.get? b = some o → s2.heap.get? b = some o) (os : s2.os = sc.os) (hb : AllBare s2.gens) {m0 : Str → Option Value} (hn : s2.heap.Ns sc.heap.objs.size m0)
    (hp : ∀ p ∈ pn ++ pins', s2.heap.get? p.1 = some p.2 ∧ H p.1 = none ∧ p.1 ≠ sc.heap.objs.size ∧ p.1 ∉ frs X.stack ∧ ∀ v, p.2.data ≠ .cell v) :
    Inv (gxOf X Ng A sc H (genEnv scope (cloFrom X.env.cells scope.names []) sc.heap.objs.size code builtinsNs X.env) fp pn) pins' (sigG src σ) H s2 := by
  have hfree : ∀ y ∈ scope.names, y.2 = .free → ∃ c, X.env.cells.lookup y.1 = some c := fun y hy e => by
    rcases S.free y hy e with k | k
    · exact I.ok.has _ (.inl k)
    · exact I.ok.has _ (.inr k)
  have cm : ∀ {y c}, (cloFrom X.env.cells scope.names []).lookup y = some c → X.env.cells.lookup y = some c ∧ c < sc.heap.objs.size := fun {y c} hm => by
    rcases cloFrom_mem (PySem.mem_of_lookup hm) with hm | ⟨h1, rfl⟩
    · cases hm
    · obtain ⟨c, hc⟩ := hfree _ h1 rfl
      have e : (X.env.cells.lookup y).getD 0 = c := by rw [show X.env.cells.lookup y = some c from hc]; rfl
      rw [e]
      obtain ⟨w, z⟩ := I.cell _ _ hc
      exact ⟨hc, z.lt⟩
  have look : ∀ {y}, scope.names.lookup y = some .free → ∃ c, (cloFrom X.env.cells scope.names []).lookup y = some c := fun {y} hl =>
    mem_lookup (cloFrom_has (cells := X.env.cells) (acc := []) (PySem.mem_of_lookup hl))
  refine ⟨⟨I.ok.mod, S.kind, I.ok.glob, rfl, Nat.le_refl _, fun y z c e1 e2 => I.ok.inj y z c (cm e1).1 (cm e2).1, fun y hy => ?_, fun y c z e => ?_, fun _ => (hr.deeper _).hd, Around.frames_deeper hfr, .inr ⟨rfl, rfl⟩, fun b hb' => ⟨?_, fun y c e z => ?_⟩, I.bs, Nat.le_trans I.ok.bsz I.sz, fun b o e hb' => ?_, fun b hb' z => ?_, I.stack, I.stkFree⟩,
    os, hb, Un.kept kp, ⟨m0, hn, fun i y av e1 e2 e3 => ?_⟩, fun y c e => ?_, I.hok.fresh (Nat.le_refl _), fun y c e => I.freeC y c (cm e).1, hp, I.hok.kept kp, by unfold sigG; rw [List.length_map]; exact S.len⟩
  · rcases hy with hy | hy
    · exact absurd rfl (S.cell _ (PySem.mem_of_lookup (show scope.names.lookup y = some .cell from hy)))
    · exact look hy
  · have z : (scope.names.lookup y == some NameKind.cell) = true := z
    have z : scope.names.lookup y = some .cell := by simpa using z
    exact absurd rfl (S.cell _ (PySem.mem_of_lookup z))
  · exact Nat.ne_of_lt (hfp b hb').2
  · exact (hfp b hb').1.2.2.2.2.1 y c (cm e).1 z
  · rcases (hfp b hb').1.2.2.2.1 with z | z
    · exact I.ok.noex b o e z
    · exact absurd (Nat.lt_of_lt_of_le (Heap.lt_size e) (Nat.le_trans I.ok.bsz z)) (Nat.lt_irrefl _)
  · rcases List.mem_cons.mp (I.stkSub b z) with z | z
    · exact (hfp b hb').1.2.1 z
    · exact (hfp b hb').1.2.2.1 z
  · obtain ⟨i', h1, h2⟩ := sigG_some e2
    obtain ⟨y', n1, n2, n3⟩ := S.at_ i i' h1
    have ey : y' = y := by rw [show Ng[i]? = some y from e1] at n1; exact (Option.some.inj n1).symm
    subst ey
    obtain ⟨m, hm, hl⟩ := I.loc
    have fr := S.free _ (PySem.mem_of_lookup n3) rfl
    obtain ⟨w, r, q⟩ := hl i' y' av n2 h2 (fr.elim (fun k => .inr (.inl k)) fun k => .inr (.inr k))
    obtain ⟨c, hc⟩ := look n3
    refine ⟨w, r, .inr ⟨.inr n3, c, hc, ?_⟩⟩
    rcases q with ⟨k, _⟩ | ⟨_, c', e', z⟩
    · have k : X.env.scope.names.lookup y' = some .local := k
      rcases fr with k' | k' <;> rw [show X.env.scope.names.lookup y' = _ from k'] at k <;> cases k
    · rw [(cm hc).1] at e'; cases e'
      exact z.keeps kp
  · obtain ⟨w, z⟩ := I.cell y c (cm e).1
    exact ⟨w, z.keeps kp⟩
end
/-- a generator expression's reading -/
def tGx (P : Addr) (wi : TI) (g : TG) (tt : TT) (te : TE) (src : List (Option Nat)) (vs : List Nat) : TGen := fun σ H cont => wi σ H fun J H1 => GxR.TabG H1 P ∧ ∀ H2, GxR.Tabbed P H1 H2 → ∃ W : Nat → Nat → List V → Hp → Prop, (∃ m, W 0 m [] H2) ∧
  ∀ i m ys H, W i m ys H → (J.stop i H ∧ cont ys H) ∨ (J.go i H ∧ ∃ Nx : List V → Hp → Prop, (∀ ys' H', Nx ys' H' → ∃ m', m' < m ∧ W (i + 1) m' ys' H') ∧ ∀ x H', J.yld i H x H' → g x (wipe (sigG src σ) vs) H' fun σ2 H2 => wipe σ2 vs = wipe (sigG src σ) vs ∧ tt σ2 H2 fun b H3 =>
      if b = true then te σ2 H3 fun y H4 => ys.length < sizeLine ∧ Nx (ys ++ [y]) H4 else Nx ys H3)
section
variable {X : Cx} {elt tg iter : Expr} {ifs : List Expr} {scope : Scope} {Ng : List Str} {src : List (Option Nat)} {vs : List Nat} {pos : Pos} {c P : Addr} {k : Nat} {wi : TI} {g : TG} {tt : TT} {te : TE}
theorem pgen_gexp {E : XK} (hr : Room 0 X.A) (TB : GxR.TabB X.base X.mg c P) (hcode : X.env.code = .ref c) (S : GScp X.N X.env.scope scope Ng src) (hi : PI X tg iter wi)
    (hg : ∀ A s H cl C code fp pn, Room k (A.deeper (genEnv scope cl C code builtinsNs X.env)) → PG (gxOf X Ng A s H (genEnv scope cl C code builtinsNs X.env) fp pn) tg g) (ht : ∀ A s H cl C code fp pn, Room k (A.deeper (genEnv scope cl C code builtinsNs X.env)) → PTs (gxOf X Ng A s H (genEnv scope cl C code builtinsNs X.env) fp pn) ifs tt)
    (he : ∀ A s H cl C code fp pn, Room k (A.deeper (genEnv scope cl C code builtinsNs X.env)) → PE (gxOf X Ng A s H (genEnv scope cl C code builtinsNs X.env) fp pn) elt te) (hs : ∀ x, genFold iter X.env x = pure x) :
    PGen X (k + 1) (.GeneratorExp elt [⟨tg, iter, ifs, 0⟩] scope pos) (tGx P wi g tt te src vs) E := by
  refine ⟨fun pins s σ H cont I h => ?_⟩
  have hfree : ∀ y ∈ scope.names, y.2 = .free → ∃ c, X.env.cells.lookup y.1 = some c := fun y hy e => by
    rcases S.free y hy e with k | k
    · exact I.ok.has _ (.inl k)
    · exact I.ok.has _ (.inr k)
  refine wpAny_GeneratorExp_make S.co (closure_ok hfree) S.cell S.dot S.kind (by have := hr.dp; omega) (thn (hi.run pins s σ H _ I h) fun xv s1 hx => thn hx fun itv s2 h2 => ?_) hs
  obtain ⟨it, fp, tn, J, H1, rfl, I1, T, st, hf, ⟨ps, hP, htr⟩, hT⟩ := h2
  refine ⟨I1.nolimit, ?_⟩
  have hPs : s2.heap.get? P = some { cls := .none, data := .fields ps } := I1.hok P _ hP
  have hcd : PySem.W.CodeHd s2.heap c P := TB.code.keeps fun b u e => I1.bk b u e
  have hPfp : P ∉ fp := fun z => by rw [(hf P z).1] at hP; cases hP
  have fin : ∀ (code : Value) (s3 : Shared) (H2 : Hp), Inv X pins σ H2 s3 → GxR.Tabbed P H1 H2 → (∀ b, b ≠ P → ∀ o, s2.heap.get? b = some o → s3.heap.get? b = some o) →
      wpAny (model X.prog X.w) X.A (builtinsFor X.env.globals X.env.builtins) (fun bi s₄ => ∀ h', h'.Ns s₄.heap.objs.size (fun y => if y = ".0" then some (.ref it) else none) → Heap.SameBut s₄.heap.objs.size (s₄.heap.push { cls := .type "frame", data := .dict #[] }) h' →
        ∃ H1 sc ex, Inv X pins σ H1 sc ∧ ExOk X pins ex ∧ GMade X.prog X.w (k + 1) X.stack H1 sc ex cont E (.ref h'.objs.size) { s₄ with
            gens := s₄.gens.push (.fresh (.compStart (.GeneratorExp elt [⟨tg, iter, ifs, 0⟩] scope pos) 0 (.ref it) .none (genEnv scope (cloFrom X.env.cells scope.names []) s₄.heap.objs.size code bi X.env))),
            toks := s₄.toks + 1 + 1 + 1,
            heap := h'.push { cls := .type "generator", data := .fields #[.int s₄.gens.size 0, .str "<genexpr>" (s₄.toks + 1), .str (X.env.qual ++ "<genexpr>") (s₄.toks + 1 + 1)] } }) X.xe s3 := by
    intro code s3 H2 I3 tb kp3
    obtain ⟨bm, ob, e1, e2, e3, e4, e5, e6, e7, e8⟩ := TB.bm
    refine wpAny_builtinsFor (m := X.mg) (by rw [I3.ok.glob]; exact I3.mod.glob.keeps I3.bk) e1 e2 (I3.bk _ _ e5) e6 e7 e8 ?_
    intro h' hns hsb
    have sz' : h'.objs.size = s3.heap.objs.size + 1 := by rw [hsb.1, Heap.size_push]
    have kp' : ∀ b o, s3.heap.get? b = some o → h'.get? b = some o := fun b o e => hsb.extBut b o (Nat.ne_of_lt (Heap.lt_size e)) (Heap.get?_push_of_some _ e)
    have st3 : tn 0 s3.heap := T.keep _ _ _ st fun b hb o e => kp3 b (fun z => hPfp (z ▸ hb)) o e
    have nfp : ∀ b ∈ fp, H2 b = none := fun b hb => by
      rw [tb.2 b (fun z => hPfp (z ▸ hb))]; exact (hf b hb).1
    have hf3 : ∀ b ∈ fp, FpOk X pins H2 b ∧ b < s3.heap.objs.size := fun b hb => by
      obtain ⟨o, e, _⟩ := T.obj _ _ st3 b hb
      exact ⟨⟨nfp b hb, (hf b hb).2⟩, Heap.lt_size e⟩
    generalize hgo : ({ cls := .type "generator", data := .fields #[.int s3.gens.size 0, .str "<genexpr>" (s3.toks + 1), .str (X.env.qual ++ "<genexpr>") (s3.toks + 1 + 1)] } : Obj) = go
    have gpush : ∀ h : Heap, (h.push go).get? h.objs.size = some go := fun h => Heap.get?_push_size _ (by rw [← hgo]; rfl)
    have isg : ∀ h : Heap, h.get? h'.objs.size = some go → h.IsGen h'.objs.size s3.gens.size := fun h e => by
      refine ⟨go, .str "<genexpr>" (s3.toks + 1), .str (X.env.qual ++ "<genexpr>") (s3.toks + 1 + 1), e, ?_, ?_, ?_⟩ <;> rw [← hgo]
    have god : ∀ v, go.data ≠ .cell v := fun v z => by rw [← hgo] at z; cases z
    have kpp : ∀ b o, s3.heap.get? b = some o → (h'.push go).get? b = some o := fun b o e => Heap.get?_push_of_some _ (kp' b o e)
    refine ⟨H2, s3, fp, I3, fun b hb => ?_, ⟨h'.objs.size, s3.gens.size, _, rfl, by rw [sz']; omega, ?_, isg _ (gpush _), Array.getElem?_push_size .., rfl, I3.bare.push rfl, I3.nolimit.keeps kpp, kpp, ?_⟩⟩
    · obtain ⟨f, _⟩ := hf3 b hb
      exact ⟨f.2.2.2.1, f.2.1, f.2.2.2.2.1, f.2.2.2.2.2⟩
    · show _ < (h'.push go).objs.size
      rw [Heap.size_push]; exact Nat.lt_succ_self _
    intro A Sx s4 hrA hfrA hSx hk4 hSo os4 b4
    obtain ⟨W, ⟨m0, w0⟩, turn⟩ := hT H2 tb
    obtain ⟨cS, heS⟩ := hSo
    have hSx : h'.objs.size < Sx := by
      have z : (h'.push go).objs.size ≤ Sx := hSx
      rw [Heap.size_push] at z; exact z
    have kp4 : ∀ b o, s3.heap.get? b = some o → s4.heap.get? b = some o := fun b o e => hk4 b o (kpp b o e)
    have hns4 : s4.heap.Ns s3.heap.objs.size (fun y => if y = ".0" then some (.ref it) else none) := hns.keeps fun b o e => hk4 b o (Heap.get?_push_of_some _ e)
    have young : ∀ b, s3.heap.objs.size < b → H2 b = none ∧ b ≠ s3.heap.objs.size ∧ b ∉ frs X.stack := fun b hb => ⟨I3.hok.fresh (Nat.le_of_lt hb), Nat.ne_of_gt hb, fun z => by
      rcases List.mem_cons.mp (I3.stkSub b z) with z | z
      · exact absurd (Nat.lt_trans hb (by rw [z]; exact I3.lt)) (Nat.lt_irrefl _)
      · exact I3.nofs (Nat.le_of_lt hb) z⟩
    have sS : s3.heap.objs.size < Sx := Nat.lt_trans (by rw [sz']; exact Nat.lt_succ_self _) hSx
    have ya := young h'.objs.size (by rw [sz']; exact Nat.lt_succ_self _)
    have yS := young Sx sS
    have hSn : Sx ∉ fp := fun z => absurd (Nat.lt_trans (hf3 _ z).2 sS) (Nat.lt_irrefl _)
    have I4 : Inv (gxOf X Ng A s3 H2 (genEnv scope (cloFrom X.env.cells scope.names []) s3.heap.objs.size code builtinsNs X.env) fp [(h'.objs.size, go)]) [(Sx, lstObj #[] cS)] (sigG src σ) H2 s4 :=
      inv_gstart I3 S hf3 hrA hfrA kp4 os4 b4 hns4 fun p hp => by
        rcases List.mem_append.mp hp with z | z
        · rw [List.mem_singleton.mp z]
          exact ⟨hk4 _ _ (gpush _), ya.1, ya.2.1, ya.2.2, god⟩
        · rw [List.mem_singleton.mp z]
          exact ⟨heS, yS.1, yS.2.1, yS.2.2, fun v q => by cases q⟩
    have I5 := I4.weak (σ' := wipe (sigG src σ) vs) (wipe_length _ _) fun i v e => (wipe_some e).1
    have hAp : Apart (gxOf X Ng A s3 H2 (genEnv scope (cloFrom X.env.cells scope.names []) s3.heap.objs.size code builtinsNs X.env) fp [(h'.objs.size, go)]) Sx := by
      refine ⟨Nat.le_of_lt sS, yS.2.1, fun y c e z => ?_⟩
      obtain ⟨w, q⟩ := I4.cell y c e
      have hc : c < s3.heap.objs.size := by
        have e : (cloFrom X.env.cells scope.names []).lookup y = some c := e
        rcases cloFrom_mem (PySem.mem_of_lookup e) with hm | ⟨h1, rfl⟩
        · cases hm
        · obtain ⟨c, hc⟩ := hfree _ h1 rfl
          rw [show X.env.cells.lookup y = some c from hc]
          obtain ⟨w, z⟩ := I3.cell _ _ hc
          exact z.lt
      exact absurd (Nat.lt_trans (by rw [← z]; exact hc) sS) (Nat.lt_irrefl _)
    have hr1 : Room k (A.deeper (genEnv scope (cloFrom X.env.cells scope.names []) s3.heap.objs.size code builtinsNs X.env)) := hrA.deeper _
    have st4 : tn 0 s4.heap := T.keep _ _ _ st3 fun b _ o e => kp4 b o e
    have hpnS : ∀ p ∈ [(h'.objs.size, go)], p.1 ≠ Sx := fun p hp => by rw [List.mem_singleton.mp hp]; exact Nat.ne_of_lt hSx
    have hpnf : ∀ p ∈ [(h'.objs.size, go)], p.1 ∉ fp := fun p hp z => by
      rw [List.mem_singleton.mp hp] at z
      have q : h'.objs.size < s3.heap.objs.size := (hf3 _ z).2
      rw [sz'] at q
      exact absurd (Nat.lt_of_succ_lt q) (Nat.lt_irrefl _)
    have loop := seg_gturns (X := gxOf X Ng A s3 H2 (genEnv scope (cloFrom X.env.cells scope.names []) s3.heap.objs.size code builtinsNs X.env) fp [(h'.objs.size, go)]) (A := A) (elt := elt) (tg := tg) (iter := iter) (ifs := ifs) (scope := scope) (pos := pos) (S := Sx) (vs := vs) rfl rfl rfl rfl S.co
      hpnS hpnf hSn hAp T (hg A s3 H2 _ _ code fp _ hr1) (ht A s3 H2 _ _ code fp _ hr1) (he A s3 H2 _ _ code fp _ hr1) cont W turn m0 0 sizeLine [] s4 s4 H2 w0 (Nat.add_zero _) ⟨#[], cS, .nil, I5⟩ st4 nfp
    have pinned : ∀ {ip : List (Addr × Obj)} {ys : List V} {s' : Shared} {σ' : L2.St} {H' : Hp}, GI (gxOf X Ng A s3 H2 (genEnv scope (cloFrom X.env.cells scope.names []) s3.heap.objs.size code builtinsNs X.env) fp [(h'.objs.size, go)]) Sx ip ys σ' H' s' → s'.heap.IsGen h'.objs.size s3.gens.size := fun {ip ys s' σ' H'} hI => by
      obtain ⟨acc, cc, _, J⟩ := hI
      exact isg _ (J.pin (h'.objs.size, go) (List.mem_append_left _ (List.mem_singleton.mpr rfl))).1
    refine seg_imp (R := fun n _ r s1 => r = .ok .next ∧ ∃ ys H', n + ys.length = sizeLine ∧ GI (gxOf X Ng A s3 H2 (genEnv scope (cloFrom X.env.cells scope.names []) s3.heap.objs.size code builtinsNs X.env) fp [(h'.objs.size, go)]) Sx [] ys (wipe (sigG src σ) vs) H' s1 ∧ cont ys H')
      (Y := GY (gxOf X Ng A s3 H2 (genEnv scope (cloFrom X.env.cells scope.names []) s3.heap.objs.size code builtinsNs X.env) fp [(h'.objs.size, go)]) Sx) (fun n s₀ r s1' hR => ?_) (fun n s₀ v s1' kap kap' hkk hY => ?_) sizeLine ?_
    · obtain ⟨rfl, ys, H', hn, hI, hQ⟩ := hR
      obtain ⟨a1, _, _, acc, cc, ra, ea⟩ := hI.at
      obtain ⟨_, _, _, J⟩ := hI
      exact .inl ⟨.inr rfl, H', ys, acc, cc, J.os, J.bare, J.base, J.hok, a1, ea, ra, by omega, hQ⟩
    · obtain ⟨ys, xx, ip, σ', H', hn, h2, hI, h3⟩ := hY
      obtain ⟨_, _, _, acc, cc, ra, ea⟩ := hI.at
      have hg := pinned hI
      obtain ⟨_, _, _, J⟩ := hI
      have hsz : acc.size = ys.length := by
        have e1 := ra.length
        have e2 : acc.toList.length = acc.size := by simp
        omega
      exact ⟨J.os, J.bare, J.nolimit, hg, ⟨acc, cc, ea, by rw [hsz]; exact hn⟩, fun s' z => hkk _ _ (h3 s' z)⟩
    · show Seg _ A _ _ sizeLine s4 _ ((compStart (.GeneratorExp elt [⟨tg, iter, ifs, 0⟩] scope pos) 0 (.ref it) .none (genEnv scope (cloFrom X.env.cells scope.names []) s3.heap.objs.size code builtinsNs X.env)).onRaise (leaving (genEnv scope (cloFrom X.env.cells scope.names []) s3.heap.objs.size code builtinsNs X.env))) [] s4
      unfold compStart
      rw [Sem.onRaise_eq_wrap]
      show Seg _ A _ _ sizeLine s4 _ ((ask >>= _).wrap _ _ _ _) [] s4
      refine seg_bind_wrap (wpAny_askSetting ?_)
      split
      · exact seg_again rfl loop
      · first
          | exact seg_bind_wrap (wpAny_rule (seg_bind_wrap (wpAny_standAt (seg_bind_wrap (T.self _ 0 s4 _ _ st4 (seg_again rfl loop))))))
          | (refine seg_bind_wrap (wpAny_rule ?_); show Seg _ A _ _ sizeLine s4 _ ((standAt iter.pos >>= _).wrap _ _ _ _) [] s4; exact seg_bind_wrap (wpAny_standAt (seg_bind_wrap (T.self _ 0 s4 _ _ st4 (seg_again rfl loop)))))
  cases hfd : codeAmong pos ps.toList with
  | none =>
    refine wpAny_genexprCodeX hcode (hcd.code hPs htr) (hcd.tab hPs) hfd fun c' h3 tk hx hge hlt hco' _ htab' _ => ?_
    obtain ⟨o1, vs1, f1, tf, fl, tg1, inF, tx, t1, op, _, _, _, _, _, _, _, _, _, htr', _⟩ := hco'
    refine fin _ _ (upd H1 P (.tbl (ps ++ #[rawInt pos.line, rawInt pos.col, .ref c']))) ?_ ⟨⟨_, upd_same, htr'⟩, fun b hb => upd_ne hb⟩ fun b hb o e => hx b o hb e
    exact GxR.inv_tab (g' := s2.gens) (d' := s2.drawn) (t' := tk) I1 hP (fun b o hb e => hx b o hb e) htab'.2 I1.bare
  | some cv =>
    refine wpAny_genexprCode_hit hcode (hcd.code hPs htr) hfd ?_
    exact fin cv s2 H1 I1 ⟨⟨ps, hP, htr⟩, fun b _ => rfl⟩ fun b _ o e => e
end
end PI
set_option Elab.async false
set_option linter.all false
set_option maxRecDepth 100000
set_option maxHeartbeats 4000000
/-! DJ: tuple of a generator expression. -/
namespace PI
open PySem PySem.Spec PyProof.Rows L2 GenW
section
variable {P : Program} {w : World} {outer : List PySem.Env} {H : Hp} {sc s : Shared} {ex : List Addr} {Q : List V → Hp → Prop} {A : Around} {k : Nat} {u : Value}
/-- no exception leaves the generator -/
abbrev NX : XK := fun _ _ _ => False
theorem collect_gm {Q' : List Value → Shared → Prop} {E : Value → Shared → Prop} (hr : Room (k + 3) A) (hfr : A.frames = some outer) (h : GMade P w k outer H sc ex Q NX u s)
    (hQ : ∀ (s' : Shared) (acc : List Value) (H' : Hp) (ys : List V), Vals ys acc → ys.length ≤ sizeLine → s'.os = sc.os → AllBare s'.gens → Un (frs outer) ex H H' sc.heap s'.heap → HOk P w H' s'.heap → Q ys H' → Q' acc s') : wpAny (model P w) A (collect u) Q' E s := by
  obtain ⟨a, g, c, rfl, ha1, ha2, hg, hgs, hos, hb, hl, hkp, wake⟩ := h
  have hSa : s.heap.objs.size ≠ a := Nat.ne_of_gt ha2
  have hcl : cStatics < s.heap.objs.size := let ⟨_, hn, _⟩ := hl; hn.lt
  have hSc : s.heap.objs.size ≠ cStatics := Nat.ne_of_gt hcl
  unfold collect
  refine wpAny_bind (wpAny_runValue (codeAny_builtin F.entry_proto_collect ?_))
  rw [Around.under_plainId F.plain_proto_collect _]
  show wpAny _ A.in1 (newList [] >>= fun l => again (.builtin "list.__iadd__" ⟨[l, .ref a], []⟩)) _ _ s
  refine wpAny_bind (wpAny_newObj_type ?_ (by show 0 ≤ sizeLine; decide))
  refine wpAny_pure ⟨plainId_quiet F.plain_list_iadd _, codeAny_builtin F.entry_list_iadd ?_⟩
  rw [Around.under_plainId F.plain_list_iadd _]
  generalize hs1 : ({ s with heap := s.heap.push { cls := .type "list", data := .seq ([] : List Value).toArray } } : Shared) = s1
  have h1 : s1.heap = s.heap.push { cls := .type "list", data := .seq ([] : List Value).toArray } := by rw [← hs1]
  have os1 : s1.os = s.os := by rw [← hs1]
  have gn1 : s1.gens = s.gens := by rw [← hs1]
  have k1 : ∀ b o, s.heap.get? b = some o → s1.heap.get? b = some o := fun b o e => by rw [h1]; exact Heap.get?_push_of_some _ e
  have hS1 : s1.heap.get? s.heap.objs.size = some { cls := .type "list", data := .seq ([] : List Value).toArray } := by rw [h1]; exact Heap.get?_push_size _ rfl
  have gty : ∀ {h : Heap}, (∀ b o, s.heap.get? b = some o → h.get? b = some o) → h.IsGen a g := fun {h} q => hg.keeps q
  show wpAny _ A.in1 (Builtin.List.listExtendWith (.ref s.heap.objs.size) (.ref a) (.ref s.heap.objs.size)) _ _ s1
  unfold Builtin.List.listExtendWith
  refine wpAny_bind (wpAny_typeOf (gty k1).typeIs ?_)
  have q1 : Builtin.List.listSameRef (.ref s.heap.objs.size) (.ref a) = false := by simp [Builtin.List.listSameRef, hSa]
  have q2 : (Value.type "generator" == Value.type "list") = false := by decide
  have q3 : (Value.type "generator" == Value.type "tuple") = false := by decide
  simp only [q1, q2, q3, Bool.or_false, Bool.false_eq_true, if_false]
  refine wpAny_bind (wpAny_pyIter_gen (gty k1) ?_)
  refine wpAny_bind (wpAny_holding ?_)
  unfold Builtin.List.listLengthHint
  refine wpAny_bind (wpAny_specialOf (gty k1).typeIs F.gen_no_len ?_)
  show wpAny _ A.in1 (specialOf (Value.ref a) (Str.ofString "__length_hint__") >>= _) _ _ _
  refine wpAny_bind (wpAny_specialOf (gty k1).typeIs F.gen_no_hint ?_)
  refine wpAny_pure ?_
  show wpAny _ A.in1 (rule "list.extend.makes-room" >>= fun _ => Builtin.List.listTouch (.ref s.heap.objs.size) >>= fun _ =>
    again (.builtin "list.extend.loop" ⟨[.ref s.heap.objs.size, .ref a, .ref s.heap.objs.size], []⟩)) _ _ _
  refine wpAny_bind (wpAny_rule ?_)
  refine wpAny_bind ?_
  show wpAny _ A.in1 (updateSeq s.heap.objs.size (·.push .none) >>= fun _ => updateSeq s.heap.objs.size (·.pop)) _ _ _
  refine wpAny_bind (wpAny_updateSeq hS1 rfl ?_)
  have hS2 := Heap.get?_update_self (Obj.mapSeq (·.push Value.none)) hS1 rfl
  refine wpAny_updateSeq (hz := by seq_fits) hS2 rfl ?_
  have hS3 := Heap.get?_update_self (Obj.mapSeq (·.pop)) hS2 rfl
  have up : ∀ (h : Heap) (f : Obj → Obj), (∀ b o, s.heap.get? b = some o → h.get? b = some o) → ∀ b o, s.heap.get? b = some o → (h.update s.heap.objs.size f).get? b = some o := fun h f q b o e =>
    (Heap.get?_update_other _ _ (Ne.symm (Nat.ne_of_lt (Heap.lt_size e)))).trans (q b o e)
  have k3 := up _ (Obj.mapSeq (·.pop)) (up _ (Obj.mapSeq (·.push Value.none)) k1)
  refine wpAny_pure ⟨plainId_quiet F.plain_extend_loop _, ?_⟩
  refine drain (P := P) (w := w) (outer := outer) (H := H) (sc := sc) (ex := ex) (Q := Q) (EX := NX) (A := A) (g := g) hr.hd (by have := hr.dp; omega) hSa hSc
    (fun s' acc c H' ys r1 r2 r3 r4 r5 r6 r7 r8 r9 => ?_) (fun e s' hc => ?_) sizeLine _ (gty k3) (hl.keeps k3) ⟨.fresh c, by show s1.gens[g]? = _; rw [gn1]; exact hgs, rfl, ?_⟩
  · show wpAny _ A (load s.heap.objs.size >>= _) _ _ s'
    refine wpAny_bind (wpAny_load r1 ?_)
    exact wpAny_pure (hQ s' acc.toList H' ys r2 r3 r4 r5 r6 r7 r9)
  · obtain ⟨_, _, _, _, _, _, _, _, _, _, _, _, z⟩ := hc
    exact z.elim
  · refine wake _ _ _ ⟨hr.hd, ?_, ?_⟩ hfr (Nat.le_refl _) k3 ⟨_, hS3⟩ (os1.trans hos) (allBare_setGen (s := { s1 with heap := _ }) (by show AllBare s1.gens; rw [gn1]; exact hb) rfl)
    · have := hr.dp
      show A.depth + 3 * k + 5 < _
      omega
    · have := hr.un
      show A.units + 1 + 1 + 16 * k + 200 < _
      omega
/-- tuple(g) -/
theorem call_tuple_gm {Q' : Value → Shared → Prop} {E : Value → Shared → Prop} (hr : Room (k + 4) A) (hfr : A.frames = some outer) (h : GMade P w k outer H sc ex Q NX u s)
    (hQ : ∀ (s' : Shared) (acc : List Value) (H' : Hp) (ys : List V), Vals ys acc → ys.length ≤ sizeLine → s'.os = sc.os → AllBare s'.gens → Un (frs outer) ex H H' sc.heap s'.heap → HOk P w H' s'.heap → Q ys H' → Q' (.ref s'.heap.objs.size) { s' with heap := s'.heap.push { cls := .type "tuple", data := .seq acc.toArray } }) :
    wpAny (model P w) A (call (.type "tuple") [u]) Q' E s := by
  have hu : ∃ a g, u = .ref a ∧ s.heap.IsGen a g := by
    obtain ⟨a, g, c, rfl, _, _, hg, _⟩ := h
    exact ⟨a, g, rfl, hg⟩
  obtain ⟨a, g, rfl, hg⟩ := hu
  have hTI : s.TypeIs (.ref a) "generator" := hg.typeIs
  refine callType_codes (Q₁ := fun obj s₁ => s₁.TypeIs obj "tuple" ∧ Q' obj s₁) F.called_tuple (F.typeCall_tuple_1 _) F.entry_object_init ?_ fun obj s₁ h₁ => ?_
  · refine codeAny_of_tree ?_
    show wpAny _ A.in1.in1 (do checkBuiltinCall "tuple.__new__" ⟨[.type "tuple", .ref a], []⟩; again (.builtin "tuple.__new__" ⟨[.type "tuple", .ref a], []⟩)) _ _ s
    refine wpAny_bind (wpAny_of_eq (F.newCall_tuple_1 _) (wpAny_pure ⟨plainId_quiet F.plain_tuple_new _, codeAny_builtin F.entry_tuple_new ?_⟩))
    rw [Around.under_plainId F.plain_tuple_new _]
    have hsub := sub_tuple_self
    have hinit := init_tuple_lookup
    have hmh := madeHere_tuple
    have hr1 : Room (k + 3) A.in1.in1 := ⟨hr.hd, by have := hr.dp; show A.depth + 3 * (k + 3) + 5 < _; omega, by have := hr.un; show A.units + 1 + 1 + 16 * (k + 3) + 200 < _; omega⟩
    wp_walk using wpAny_typeOf hTI, collect_gm (A := A.in1.in1) hr1 hfr h
    intro s' acc H' ys r2 r3 r4 r5 r6 r7 r9
    show wpAny _ _ (Builtin.Tuple.tupleExact acc.toArray >>= fun v => ret v) _ _ _
    unfold Builtin.Tuple.tupleExact
    have hl : acc.length = ys.length := r2.length.symm
    refine wpAny_bind (wpAny_newObj_type ?_ (by show acc.toArray.size ≤ sizeLine; rw [List.size_toArray, hl]; exact r3))
    exact wpAny_pure ⟨⟨_, Heap.get?_push_size _ rfl, rfl⟩, hQ s' acc H' ys r2 r3 r4 r5 r6 r7 r9⟩
  · exact ⟨h₁.1, F.args_object_init_2 obj _, object_init_meets F.called_tuple.init.lookup F.called_tuple.made (by decide) P w A.in1 _ s₁ ⟨h₁.1, rfl, h₁.2⟩⟩
end
/-- tuple(g), read -/
def tTupG (tg : TGen) : TE := fun σ H Q => tg σ H fun out H2 => ∀ q, H2 q = none → Q (.ref q) (upd H2 q (.tup out))
section
variable {X : Cx} {k : Nat} {e : Expr} {tg : TGen} {nm : Str} {p pos : Pos}
theorem pe_tupG (h : PGen X k e tg NX) (hr : Room (k + 4) X.A) (hg : Gl X nm) (hmg : X.mg nm = none) (hv : bootBuiltins nm = some (.type "tuple")) (hnm : nm ≠ "__name__" := by decide) (hdb : (nm == ("__debug__" : Str)) = false := by decide)
    (he : starEach [e] X.env = (false, eval e X.env) :: starEach [] X.env := by rfl) : PE X (.Call (.Name nm p) [e] [] pos) (tTupG tg) := by
  refine ⟨fun pins s σ H Q I hq => ?_⟩
  refine wpAny_Call_Name_kw (ld_blt I hg hmg hv ?_ hnm hdb)
  refine PyProof.Rows.callWith_type1 ?_ he rfl
  rw [he]
  show wpAny _ _ (spliced ((false, eval e X.env) :: backTo pos (starEach [] X.env))) _ _ s
  refine Calls.spliced_cons (thn (h.run pins s σ H _ I hq) fun u s1 ⟨H1, sc, ex, I1, hex, hG⟩ => ?_)
  refine Calls.spliced_nil ?_
  refine call_tuple_gm hr I1.ok.frames hG fun s' acc H' ys r2 r3 r4 r5 r6 r7 r9 => ?_
  have I2 : Inv X pins σ H' s' := I1.call' (ch := ex) r4 r6 r7 r5 hex
  refine ⟨.ref s'.heap.objs.size, upd H' s'.heap.objs.size (.tup ys), ?_, rfl, r9 _ (I2.hok.fresh (Nat.le_refl _))⟩
  refine I2.laid (t' := s'.toks) (fun b u q => Heap.get?_push_of_some _ q) (Nat.le_refl _) ⟨r3, acc, r2, ?_⟩
  exact ⟨_, Heap.get?_push_size _ (by rfl), rfl, _, rfl⟩
end
end PI
set_option Elab.async false
set_option linter.all false
set_option maxRecDepth 100000
set_option maxHeartbeats 4000000
/-! DO: generator expressions whose items are known ahead (truths, numbers), for consumers that keep no list of them. -/
namespace PI
open PySem PySem.Spec PyProof.Rows L2 GenW
/-- while the generator sleeps, its consumer may change its own objects at Sl -/
structure Slept2 (Sl : List Addr) (s s' : Shared) : Prop where
  os : s'.os = s.os
  bare : AllBare s'.gens
  keep : ∀ b o, b ∉ Sl → s.heap.get? b = some o → s'.heap.get? b = some o
  own : ∀ b ∈ Sl, ∃ o, s'.heap.get? b = some o ∧ ∀ v, o.data ≠ .cell v
def GI2 (X : Cx) (Sl : List Addr) (ip : List (Addr × Obj)) (σ : L2.St) (H : Hp) (s : Shared) : Prop :=
  ∃ pl : List (Addr × Obj), pl.map (·.1) = Sl ∧ Inv X (pl ++ ip) σ H s
theorem GI2.woken {X : Cx} {Sl : List Addr} {ip : List (Addr × Obj)} {σ : L2.St} {H : Hp} {s s' : Shared} (hpn : ∀ p ∈ X.pn, p.1 ∉ Sl) (hip : ∀ p ∈ ip, p.1 ∉ Sl) (hA : ∀ b ∈ Sl, Apart X b) (h : GI2 X Sl ip σ H s) (z : Slept2 Sl s s') : GI2 X Sl ip σ H s' := by
  obtain ⟨pl, hpl, I⟩ := h
  have pS : ∀ b ∈ Sl, H b = none ∧ b ≠ X.env.locals ∧ b ∉ X.fs := fun b hb => by
    rw [← hpl] at hb
    obtain ⟨p, hp, rfl⟩ := List.mem_map.mp hb
    obtain ⟨_, h2, h3, h4, _⟩ := I.pin p (List.mem_append_right _ (List.mem_append_left _ hp))
    exact ⟨h2, h3, h4⟩
  have I0 : Inv X ip σ H s := I.pins_of fun p hp => I.pin p (List.mem_append_right _ (List.mem_append_right _ hp))
  have nt : ∀ b u, H b = some u → b ∉ Sl := fun b u q hb => by rw [(pS b hb).1] at q; cases q
  obtain ⟨z1, z2, z3, z4⟩ := z
  obtain ⟨hh, g, d, t, o⟩ := s'
  have ho : o = s.os := z1
  subst ho
  have J : Inv X ip σ H { s with heap := hh, gens := g, drawn := d, toks := t } := by
    refine I0.step (g' := g) (t' := t) (d' := d) (ch := Sl) (fun b hb => ?_)
      (fun b ob _ _ hc q _ => z3 b ob hc q) (fun b ob _ _ hc q _ => ⟨ob.slots, z3 b ob hc q⟩) (fun _ _ _ _ n => n) (fun b ob hc q => ⟨ob, z3 b ob hc q⟩)
      (fun _ _ q => q) (fun _ _ _ q => q) (fun b ps q => ⟨#[], by rw [q]; simp⟩) (fun m hm => ?_) (fun b u q => ?_) z2
    · refine ⟨.inr (hA b hb).1, (hA b hb).2.1, (hA b hb).2.2, fun p hp e => ?_⟩
      rcases List.mem_append.mp hp with hp | hp
      · exact hpn p hp (by rw [e]; exact hb)
      · exact hip p hp (by rw [e]; exact hb)
    · obtain ⟨ob, es, ep, ho, r⟩ := hm
      exact ⟨ob, es, ep, z3 _ ob (fun hb => (pS _ hb).2.1 rfl) ho, r⟩
    · refine (I0.hok b u q).stay (fun c v hc y => z3 c v ?_ y) (fun _ y => y) fun _ _ y => y
      rcases hc with y | y
      · rw [y]; exact nt b u q
      · exact nt c _ y
  refine ⟨pl.map fun p => (p.1, (hh.get? p.1).getD default), ?_, J.pins_of fun p hp => ?_⟩
  · rw [List.map_map, ← hpl]; rfl
  · rcases List.mem_append.mp hp with hp | hp
    · obtain ⟨p0, hp0, rfl⟩ := List.mem_map.mp hp
      have hb : p0.1 ∈ Sl := by rw [← hpl]; exact List.mem_map.mpr ⟨p0, hp0, rfl⟩
      obtain ⟨ob, e1, e2⟩ := z4 p0.1 hb
      have e1 : hh.get? p0.1 = some ob := e1
      refine ⟨?_, (pS _ hb).1, (pS _ hb).2.1, (pS _ hb).2.2, fun v => ?_⟩
      · show hh.get? p0.1 = some ((hh.get? p0.1).getD default)
        rw [e1]; rfl
      · show ((hh.get? p0.1).getD default).data ≠ _
        rw [e1]; exact e2 v
    · exact J.pin p (List.mem_append_right _ hp)
/-- at a turn's item: Er holds of the heap then; what stood at Sl at the last waking stands still -/
def GY2 (X : Cx) (Sl : List Addr) (f : Nat → V) (gn : Nat → Bool) (Er : Nat → Hp → Prop) : Protocol := fun n s₀ v s kap =>
  ∃ j ip σ H, n + 1 + j = sizeLine ∧ RelV (f j) v ∧ GI2 X Sl ip σ H s ∧ Er (j + 1) H ∧ (∀ b ∈ Sl, ∀ o, s₀.heap.get? b = some o → s.heap.get? b = some o) ∧ ∀ s', gn j = true → Slept2 Sl s s' → kap (.send .none) s'
section
variable {X : Cx} {A : Around} {elt tg iter : Expr} {ifs : List Expr} {scope : Scope} {pos : Pos} {it : Addr} {Sl fp : List Addr} {tn : Nat → Heap → Prop} {J : It} {g : TG} {tt : TT} {te : TE} {vs : List Nat} {σ0 : L2.St} {f : Nat → V} {gn : Nat → Bool} {Er : Nat → Hp → Prop}
theorem seg_gturns2 (hA : X.A = A.deeper X.env) (hc : X.calm = true) (hxe : X.xe = fun _ _ => False) (hex : X.ex = fp) (hco : X.env.scope.isCoroutine = false) (hpn : ∀ p ∈ X.pn, p.1 ∉ Sl) (hpf : ∀ p ∈ X.pn, p.1 ∉ fp) (hSf : ∀ b ∈ Sl, b ∉ fp) (hAp : ∀ b ∈ Sl, Apart X b)
    (T : Turn X.prog X.w X.K tg J fp it tn) (hg : PG X tg g) (ht : PTs X ifs tt) (he : PE X elt te) (Fin : Nat → Hp → Prop) (W : Nat → Nat → Nat → Hp → Prop)
    (turn : ∀ i m j H, W i m j H → (J.stop i H ∧ Fin j H) ∨ (J.go i H ∧ ∃ Nx : Nat → Hp → Prop, (∀ j' H', Nx j' H' → ∃ m', m' < m ∧ W (i + 1) m' j' H') ∧ ∀ x H', J.yld i H x H' → g x σ0 H' fun σ2 H2 => wipe σ2 vs = σ0 ∧ tt σ2 H2 fun b H3 =>
      if b = true then te σ2 H3 fun y H4 => y = f j ∧ j < sizeLine ∧ Er (j + 1) H4 ∧ (gn j = true → Nx (j + 1) H4) else Nx j H3)) :
    ∀ (m i n j : Nat) (s₀ s : Shared) (H : Hp), W i m j H → n + j = sizeLine → (∀ b ∈ Sl, ∀ o, s₀.heap.get? b = some o → s.heap.get? b = some o) → GI2 X Sl [] σ0 H s → tn i s.heap → (∀ b ∈ fp, H b = none) →
      Seg (model X.prog X.w) A (fun n s0_ r s1 => r = .ok .next ∧ ∃ j H', n + j = sizeLine ∧ GI2 X Sl [] σ0 H' s1 ∧ (∀ b ∈ Sl, ∀ o, s0_.heap.get? b = some o → s1.heap.get? b = some o) ∧ Fin j H') (GY2 X Sl f gn Er) n s₀
        (.compLoop (.GeneratorExp elt [⟨tg, iter, ifs, 0⟩] scope pos) 0 (.ref it) .none X.env) ((model X.prog X.w).den (.compLoop (.GeneratorExp elt [⟨tg, iter, ifs, 0⟩] scope pos) 0 (.ref it) .none X.env)) [] s := by
  have thx : ∀ {α : Type} {t : Sem α} {Q Q' : α → Shared → Prop} {E : Value → Shared → Prop} {s : Shared}, wpAny (model X.prog X.w) X.A t Q X.xe s → (∀ a s, Q a s → Q' a s) → wpAny (model X.prog X.w) X.A t Q' E s := fun h hQ =>
    wpAny_mono h hQ fun _ _ z => by rw [hxe] at z; exact z.elim
  intro m
  induction m using Nat.strongRecOn with
  | _ m ih =>
  intro i n j s₀ s H w hn hk hI st nfp
  have hAo : A.over (.compLoop (.GeneratorExp elt [⟨tg, iter, ifs, 0⟩] scope pos) 0 (.ref it) .none X.env) [] = X.A := by rw [hA]; exact over_genLoop
  show Seg _ A _ _ _ s₀ _ ((compTurn (.GeneratorExp elt [⟨tg, iter, ifs, 0⟩] scope pos) 0 (.ref it) .none X.env).onRaise (leaving X.env)) [] s
  rw [compTurn_gen, Sem.onRaise_eq_wrap]
  refine seg_bind_wrap (wpAny_standAt ?_)
  obtain ⟨pl, hpl, I⟩ := hI
  rw [List.append_nil] at I
  have plS : ∀ p ∈ pl, p.1 ∈ Sl := fun p hp => by rw [← hpl]; exact List.mem_map.mpr ⟨p, hp, rfl⟩
  have still : ∀ {σ1 σ2 : L2.St} {H1 H2 : Hp} {s1 s2 : Shared} {ip1 ip2 : List (Addr × Obj)}, Inv X (pl ++ ip1) σ1 H1 s1 → Inv X (pl ++ ip2) σ2 H2 s2 → ∀ b ∈ Sl, ∀ o, s1.heap.get? b = some o → s2.heap.get? b = some o := fun {σ1 σ2 H1 H2 s1 s2 ip1 ip2} J1 J2 b hb o e => by
    rw [← hpl] at hb
    obtain ⟨p, hp, rfl⟩ := List.mem_map.mp hb
    have a1 := (J1.pin p (List.mem_append_right _ (List.mem_append_left _ hp))).1
    have a2 := (J2.pin p (List.mem_append_right _ (List.mem_append_left _ hp))).1
    rw [a1] at e
    rw [a2]; exact e
  have stat : ∀ {σ' : L2.St} {H' : Hp} {s' : Shared}, Inv X pl σ' H' s' → (∀ b ∈ fp, H' b = none) → ∀ b ∈ fp, FpOk X pl H' b := fun {σ' H' s'} I' hn b hb => by
    have hb' : b ∈ X.ex := by rw [hex]; exact hb
    refine ⟨hn b hb, (I'.ok.exf b hb').1, I'.ok.exfs b hb', .inl hb', fun x c e => (I'.ok.exf b hb').2 x c e, fun p hp => ?_⟩
    rcases List.mem_append.mp hp with hp | hp
    · intro z; exact hpf p hp (by rw [z]; exact hb)
    · intro z; exact hSf p.1 (plS p hp) (by rw [z]; exact hb)
  rcases turn i m j H w with ⟨stop, fin⟩ | ⟨go, Nx, hNx, step⟩
  · refine seg_bind_wrap ?_
    rw [hAo]
    have td := T.done X rfl rfl rfl hc i pl s _ H (fun _ _ => False) I (stat I nfp) st stop
    refine thnF td fun r s1 ⟨hr, I1⟩ => ?_
    subst hr
    have hk1 : ∀ b ∈ Sl, ∀ o, s₀.heap.get? b = some o → s1.heap.get? b = some o := fun b hb o e => still (ip1 := []) (ip2 := []) (by rw [List.append_nil]; exact I) (by rw [List.append_nil]; exact I1) b hb o (hk b hb o e)
    exact seg_end (.ok .next) ⟨rfl, j, H, hn, ⟨pl, hpl, by rw [List.append_nil]; exact I1⟩, hk1, fin⟩
  · refine seg_bind_wrap ?_
    rw [hAo]
    have ti := T.item X rfl rfl rfl hc i pl s _ H (fun _ _ => False) I (stat I nfp) st go
    refine thnF ti fun r s1 ⟨u, hr, h6⟩ => ?_
    subst hr
    refine seg_bind_wrap ?_
    rw [hAo]
    refine thnF h6 fun _ s7 ⟨x, H7, I7, r7, y7, st7, n7⟩ => ?_
    have I7' := I7.pinned (stat I7 n7) (T.obj _ _ st7)
    have hipS : ∀ p ∈ pinsAt fp s7.heap, p.1 ∉ Sl := fun p hp z => hSf p.1 z (of_pinsAt hp).1
    refine seg_bind_wrap ?_
    rw [hAo]
    refine thx (hg.run _ s7 _ H7 x u _ I7' r7 (step x H7 y7)) fun _ s8 ⟨σ8, H8, I8, hw8, q8⟩ => ?_
    refine seg_bind_wrap ?_
    rw [hAo]
    refine thx (ht.run _ s8 σ8 H8 _ I8 q8) fun b s9 ⟨H9, I9, q9⟩ => ?_
    have again_ : ∀ {s' : Shared} {H' : Hp} {j' : Nat} {n' : Nat} {s0' : Shared}, GI2 X Sl (pinsAt fp s7.heap) σ8 H' s' → n' + j' = sizeLine → (∀ b ∈ Sl, ∀ o, s0'.heap.get? b = some o → s'.heap.get? b = some o) → Nx j' H' →
        Seg (model X.prog X.w) A (fun n s0_ r s1 => r = .ok .next ∧ ∃ j H', n + j = sizeLine ∧ GI2 X Sl [] σ0 H' s1 ∧ (∀ b ∈ Sl, ∀ o, s0_.heap.get? b = some o → s1.heap.get? b = some o) ∧ Fin j H') (GY2 X Sl f gn Er) n' s0'
          (.compLoop (.GeneratorExp elt [⟨tg, iter, ifs, 0⟩] scope pos) 0 (.ref it) .none X.env) ((model X.prog X.w).den (.compLoop (.GeneratorExp elt [⟨tg, iter, ifs, 0⟩] scope pos) 0 (.ref it) .none X.env)) [] s' := by
      intro s' H' j' n' s0' hI' hn' hk' nx
      obtain ⟨pl', hpl', I'⟩ := hI'
      obtain ⟨m', hm, w'⟩ := hNx j' H' nx
      have pin' : ∀ b ∈ fp, ∀ o, s7.heap.get? b = some o → s'.heap.get? b = some o ∧ H' b = none := fun b hb o e =>
        let z := I'.pin (b, o) (List.mem_append_right _ (List.mem_append_right _ (mem_pinsAt hb e)))
        ⟨z.1, z.2.1⟩
      have I0 : Inv X (pl' ++ []) σ8 H' s' := I'.pins_of fun p hp => I'.pin p (List.mem_append_right _ (List.mem_append_left _ (by rw [List.append_nil] at hp; exact hp)))
      have hl : σ0.length = σ8.length := by rw [← hw8, wipe_length]
      refine ih m' hm (i + 1) n' j' s0' s' H' w' hn' hk' ⟨pl', hpl', I0.weak hl (fun jj v e => ?_)⟩ (T.keep _ _ _ st7 fun b hb o e => (pin' b hb o e).1) fun b hb => ?_
      · rw [← hw8] at e
        exact (wipe_some e).1
      · obtain ⟨o, e, _⟩ := T.obj _ _ st7 b hb
        exact (pin' b hb o e).2
    cases b with
    | false =>
      simp only [Bool.false_eq_true, if_false] at q9 ⊢
      exact seg_again rfl (again_ ⟨pl, hpl, I9⟩ hn (fun b hb o e => still (ip1 := []) (by rw [List.append_nil]; exact I) I9 b hb o (hk b hb o e)) q9)
    | true =>
      simp only [if_true] at q9 ⊢
      have hy : ∀ v, yieldOut X.env v = yieldValue v := fun v => by simp only [yieldOut, hco, Bool.false_eq_true, if_false]
      simp only [hy]
      rw [Sem.bind_eq_wrap', Sem.bind_eq_wrap', Sem.wrap_wrap, Sem.wrap_wrap]
      refine seg_wrap ?_
      rw [hAo]
      refine thx (he.run _ s9 σ8 H9 _ I9 q9) fun z s10 ⟨yv, H10, I10, r10, ey, hlt, er, nx⟩ => ?_
      subst ey
      obtain ⟨n, rfl⟩ : ∃ k, n = k + 1 := ⟨n - 1, by omega⟩
      refine seg_at (seg_yield rfl rfl rfl ?_)
      have G10 : GI2 X Sl (pinsAt fp s7.heap) σ8 H10 s10 := ⟨pl, hpl, I10⟩
      refine ⟨j, _, σ8, H10, by omega, r10, G10, er, fun b hb o e => still (ip1 := []) (by rw [List.append_nil]; exact I) I10 b hb o (hk b hb o e), fun s' hgn z => ?_⟩
      exact seg_again rfl (again_ (G10.woken hpn hipS hAp z) (by omega) (fun _ _ _ e => e) (nx hgn))
end
end PI
set_option Elab.async false
set_option linter.all false
set_option maxRecDepth 100000
set_option maxHeartbeats 4000000
/-! DP: such a generator expression is made; any, all of it. -/
namespace PI
open PySem PySem.Spec PyProof.Rows L2 GenW
def REnd2 (P : Program) (w : World) (outer : List PySem.Env) (H : Hp) (s : Shared) (ex Sl : List Addr) (Q : Nat → Hp → Prop) : GenEnd := fun n s₀ r s1 =>
  ((r = .ok (.ret .none) ∨ r = .ok .next) ∧ (∃ H' j, n + j = sizeLine ∧ s1.os = s.os ∧ AllBare s1.gens ∧ Un (frs outer) ex H H' s.heap s1.heap ∧ HOk P w H' s1.heap ∧ (∀ b ∈ Sl, H' b = none) ∧ (∀ b ∈ Sl, ∀ o, s₀.heap.get? b = some o → s1.heap.get? b = some o) ∧ Q j H')) ∨ ∃ e, r = .error e ∧ False
def YItem2 (P : Program) (w : World) (outer : List PySem.Env) (H : Hp) (s : Shared) (ex Sl : List Addr) (a : Addr) (g : Nat) (f : Nat → V) (gn : Nat → Bool) (Er : Nat → Hp → Prop) : Protocol := fun n s₀ v s1 kap =>
  ∃ j H', n + 1 + j = sizeLine ∧ s1.os = s.os ∧ AllBare s1.gens ∧ s1.heap.NoLimit ∧ s1.heap.IsGen a g ∧ RelV (f j) v ∧ Un (frs outer) ex H H' s.heap s1.heap ∧ HOk P w H' s1.heap ∧ (∀ b ∈ Sl, H' b = none) ∧ (∀ b ∈ Sl, ∀ o, s₀.heap.get? b = some o → s1.heap.get? b = some o) ∧ Er (j + 1) H' ∧ ∀ s', gn j = true → Slept2 Sl s1 s' → kap (.send .none) s'
/-- a generator that has not begun; its items f 0, f 1, .. -/
def GMade2 (P : Program) (w : World) (k : Nat) (outer : List PySem.Env) (H : Hp) (s : Shared) (ex : List Addr) (f : Nat → V) (gn : Nat → Bool) (Er Q : Nat → Hp → Prop) (u : Value) (s' : Shared) : Prop :=
  ∃ (a : Addr) (g : Nat) (c : Code), u = .ref a ∧ s.heap.objs.size ≤ a ∧ a < s'.heap.objs.size ∧ s'.heap.IsGen a g ∧ s'.gens[g]? = some (.fresh c) ∧ s'.os = s.os ∧ AllBare s'.gens ∧ s'.heap.NoLimit ∧ (∀ b o, s.heap.get? b = some o → s'.heap.get? b = some o) ∧
    ∀ (A : Around) (Sl : List Addr) (s2 : Shared), Room k A → A.frames = some outer → (∀ b ∈ Sl, s'.heap.objs.size ≤ b) → (∀ b o, s'.heap.get? b = some o → s2.heap.get? b = some o) → (∀ b ∈ Sl, ∃ o, s2.heap.get? b = some o ∧ ∀ v, o.data ≠ .cell v) → s2.os = s.os → AllBare s2.gens →
      Seg (model P w) A (REnd2 P w outer H s ex Sl Q) (YItem2 P w outer H s ex Sl a g f gn Er) sizeLine s2 c ((model P w).den c) [] s2
abbrev TGen2 := L2.St → Hp → (Nat → V) → (Nat → Bool) → (Nat → Hp → Prop) → (Nat → Hp → Prop) → Prop
structure PGen2 (X : Cx) (k : Nat) (e : Expr) (tg : TGen2) : Prop where
  run : ∀ (pins : List (Addr × Obj)) (s : Shared) (σ : L2.St) (H : Hp) (f : Nat → V) (gn : Nat → Bool) (Er cont : Nat → Hp → Prop), Inv X pins σ H s → tg σ H f gn Er cont → wpAny (model X.prog X.w) X.A (eval e X.env)
    (fun u s' => ∃ H1 sc ex, Inv X pins σ H1 sc ∧ ExOk X pins ex ∧ GMade2 X.prog X.w k X.stack H1 sc ex f gn Er cont u s') X.xe s
def tGx2 (P : Addr) (wi : TI) (g : TG) (tt : TT) (te : TE) (src : List (Option Nat)) (vs : List Nat) : TGen2 := fun σ H f gn Er cont => wi σ H fun J H1 => GxR.TabG H1 P ∧ ∀ H2, GxR.Tabbed P H1 H2 → ∃ W : Nat → Nat → Nat → Hp → Prop, (∃ m, W 0 m 0 H2) ∧
  ∀ i m j H, W i m j H → (J.stop i H ∧ cont j H) ∨ (J.go i H ∧ ∃ Nx : Nat → Hp → Prop, (∀ j' H', Nx j' H' → ∃ m', m' < m ∧ W (i + 1) m' j' H') ∧ ∀ x H', J.yld i H x H' → g x (wipe (sigG src σ) vs) H' fun σ2 H2 => wipe σ2 vs = wipe (sigG src σ) vs ∧ tt σ2 H2 fun b H3 =>
      if b = true then te σ2 H3 fun y H4 => y = f j ∧ j < sizeLine ∧ Er (j + 1) H4 ∧ (gn j = true → Nx (j + 1) H4) else Nx j H3)
section
variable {X : Cx} {elt tg iter : Expr} {ifs : List Expr} {scope : Scope} {Ng : List Str} {src : List (Option Nat)} {vs : List Nat} {pos : Pos} {c P : Addr} {k : Nat} {wi : TI} {g : TG} {tt : TT} {te : TE}
theorem pgen_gexp2 (hr : Room 0 X.A) (TB : GxR.TabB X.base X.mg c P) (hcode : X.env.code = .ref c) (S : GScp X.N X.env.scope scope Ng src) (hi : PI X tg iter wi)
    (hg : ∀ A s H cl C code fp pn, Room k (A.deeper (genEnv scope cl C code builtinsNs X.env)) → PG (gxOf X Ng A s H (genEnv scope cl C code builtinsNs X.env) fp pn) tg g) (ht : ∀ A s H cl C code fp pn, Room k (A.deeper (genEnv scope cl C code builtinsNs X.env)) → PTs (gxOf X Ng A s H (genEnv scope cl C code builtinsNs X.env) fp pn) ifs tt)
    (he : ∀ A s H cl C code fp pn, Room k (A.deeper (genEnv scope cl C code builtinsNs X.env)) → PE (gxOf X Ng A s H (genEnv scope cl C code builtinsNs X.env) fp pn) elt te) (hs : ∀ x, genFold iter X.env x = pure x) :
    PGen2 X (k + 1) (.GeneratorExp elt [⟨tg, iter, ifs, 0⟩] scope pos) (tGx2 P wi g tt te src vs) := by
  refine ⟨fun pins s σ H f gn Er cont I h => ?_⟩
  have hfree : ∀ y ∈ scope.names, y.2 = .free → ∃ c, X.env.cells.lookup y.1 = some c := fun y hy e => by
    rcases S.free y hy e with k | k
    · exact I.ok.has _ (.inl k)
    · exact I.ok.has _ (.inr k)
  refine wpAny_GeneratorExp_make S.co (closure_ok hfree) S.cell S.dot S.kind (by have := hr.dp; omega) (thn (hi.run pins s σ H _ I h) fun xv s1 hx => thn hx fun itv s2 h2 => ?_) hs
  obtain ⟨it, fp, tn, J, H1, rfl, I1, T, st, hf, ⟨ps, hP, htr⟩, hT⟩ := h2
  refine ⟨I1.nolimit, ?_⟩
  have hPs : s2.heap.get? P = some { cls := .none, data := .fields ps } := I1.hok P _ hP
  have hcd : PySem.W.CodeHd s2.heap c P := TB.code.keeps fun b u e => I1.bk b u e
  have hPfp : P ∉ fp := fun z => by rw [(hf P z).1] at hP; cases hP
  have fin : ∀ (code : Value) (s3 : Shared) (H2 : Hp), Inv X pins σ H2 s3 → GxR.Tabbed P H1 H2 → (∀ b, b ≠ P → ∀ o, s2.heap.get? b = some o → s3.heap.get? b = some o) →
      wpAny (model X.prog X.w) X.A (builtinsFor X.env.globals X.env.builtins) (fun bi s₄ => ∀ h', h'.Ns s₄.heap.objs.size (fun y => if y = ".0" then some (.ref it) else none) → Heap.SameBut s₄.heap.objs.size (s₄.heap.push { cls := .type "frame", data := .dict #[] }) h' →
        ∃ H1 sc ex, Inv X pins σ H1 sc ∧ ExOk X pins ex ∧ GMade2 X.prog X.w (k + 1) X.stack H1 sc ex f gn Er cont (.ref h'.objs.size) { s₄ with
            gens := s₄.gens.push (.fresh (.compStart (.GeneratorExp elt [⟨tg, iter, ifs, 0⟩] scope pos) 0 (.ref it) .none (genEnv scope (cloFrom X.env.cells scope.names []) s₄.heap.objs.size code bi X.env))),
            toks := s₄.toks + 1 + 1 + 1,
            heap := h'.push { cls := .type "generator", data := .fields #[.int s₄.gens.size 0, .str "<genexpr>" (s₄.toks + 1), .str (X.env.qual ++ "<genexpr>") (s₄.toks + 1 + 1)] } }) X.xe s3 := by
    intro code s3 H2 I3 tb kp3
    obtain ⟨bm, ob, e1, e2, e3, e4, e5, e6, e7, e8⟩ := TB.bm
    refine wpAny_builtinsFor (m := X.mg) (by rw [I3.ok.glob]; exact I3.mod.glob.keeps I3.bk) e1 e2 (I3.bk _ _ e5) e6 e7 e8 ?_
    intro h' hns hsb
    have sz' : h'.objs.size = s3.heap.objs.size + 1 := by rw [hsb.1, Heap.size_push]
    have kp' : ∀ b o, s3.heap.get? b = some o → h'.get? b = some o := fun b o e => hsb.extBut b o (Nat.ne_of_lt (Heap.lt_size e)) (Heap.get?_push_of_some _ e)
    have st3 : tn 0 s3.heap := T.keep _ _ _ st fun b hb o e => kp3 b (fun z => hPfp (z ▸ hb)) o e
    have nfp : ∀ b ∈ fp, H2 b = none := fun b hb => by
      rw [tb.2 b (fun z => hPfp (z ▸ hb))]; exact (hf b hb).1
    have hf3 : ∀ b ∈ fp, FpOk X pins H2 b ∧ b < s3.heap.objs.size := fun b hb => by
      obtain ⟨o, e, _⟩ := T.obj _ _ st3 b hb
      exact ⟨⟨nfp b hb, (hf b hb).2⟩, Heap.lt_size e⟩
    generalize hgo : ({ cls := .type "generator", data := .fields #[.int s3.gens.size 0, .str "<genexpr>" (s3.toks + 1), .str (X.env.qual ++ "<genexpr>") (s3.toks + 1 + 1)] } : Obj) = go
    have gpush : ∀ h : Heap, (h.push go).get? h.objs.size = some go := fun h => Heap.get?_push_size _ (by rw [← hgo]; rfl)
    have isg : ∀ h : Heap, h.get? h'.objs.size = some go → h.IsGen h'.objs.size s3.gens.size := fun h e => by
      refine ⟨go, .str "<genexpr>" (s3.toks + 1), .str (X.env.qual ++ "<genexpr>") (s3.toks + 1 + 1), e, ?_, ?_, ?_⟩ <;> rw [← hgo]
    have god : ∀ v, go.data ≠ .cell v := fun v z => by rw [← hgo] at z; cases z
    have kpp : ∀ b o, s3.heap.get? b = some o → (h'.push go).get? b = some o := fun b o e => Heap.get?_push_of_some _ (kp' b o e)
    refine ⟨H2, s3, fp, I3, fun b hb => ?_, ⟨h'.objs.size, s3.gens.size, _, rfl, by rw [sz']; omega, ?_, isg _ (gpush _), Array.getElem?_push_size .., rfl, I3.bare.push rfl, I3.nolimit.keeps kpp, kpp, ?_⟩⟩
    · obtain ⟨f, _⟩ := hf3 b hb
      exact ⟨f.2.2.2.1, f.2.1, f.2.2.2.2.1, f.2.2.2.2.2⟩
    · show _ < (h'.push go).objs.size
      rw [Heap.size_push]; exact Nat.lt_succ_self _
    intro A Sl s4 hrA hfrA hSl hk4 hSo os4 b4
    obtain ⟨W, ⟨m0, w0⟩, turn⟩ := hT H2 tb
    have hSl : ∀ b ∈ Sl, h'.objs.size < b := fun b hb => by
      have z : (h'.push go).objs.size ≤ b := hSl b hb
      rw [Heap.size_push] at z; exact z
    have kp4 : ∀ b o, s3.heap.get? b = some o → s4.heap.get? b = some o := fun b o e => hk4 b o (kpp b o e)
    have hns4 : s4.heap.Ns s3.heap.objs.size (fun y => if y = ".0" then some (.ref it) else none) := hns.keeps fun b o e => hk4 b o (Heap.get?_push_of_some _ e)
    have young : ∀ b, s3.heap.objs.size < b → H2 b = none ∧ b ≠ s3.heap.objs.size ∧ b ∉ frs X.stack := fun b hb => ⟨I3.hok.fresh (Nat.le_of_lt hb), Nat.ne_of_gt hb, fun z => by
      rcases List.mem_cons.mp (I3.stkSub b z) with z | z
      · exact absurd (Nat.lt_trans hb (by rw [z]; exact I3.lt)) (Nat.lt_irrefl _)
      · exact I3.nofs (Nat.le_of_lt hb) z⟩
    have sS : ∀ b ∈ Sl, s3.heap.objs.size < b := fun b hb => Nat.lt_trans (by rw [sz']; exact Nat.lt_succ_self _) (hSl b hb)
    have ya := young h'.objs.size (by rw [sz']; exact Nat.lt_succ_self _)
    have yS : ∀ b ∈ Sl, H2 b = none ∧ b ≠ s3.heap.objs.size ∧ b ∉ frs X.stack := fun b hb => young b (sS b hb)
    have hSn : ∀ b ∈ Sl, b ∉ fp := fun b hb z => absurd (Nat.lt_trans (hf3 _ z).2 (sS b hb)) (Nat.lt_irrefl _)
    have I4 : Inv (gxOf X Ng A s3 H2 (genEnv scope (cloFrom X.env.cells scope.names []) s3.heap.objs.size code builtinsNs X.env) fp [(h'.objs.size, go)]) (Sl.map fun b => (b, (s4.heap.get? b).getD default)) (sigG src σ) H2 s4 :=
      inv_gstart I3 S hf3 hrA hfrA kp4 os4 b4 hns4 fun p hp => by
        rcases List.mem_append.mp hp with z | z
        · rw [List.mem_singleton.mp z]
          exact ⟨hk4 _ _ (gpush _), ya.1, ya.2.1, ya.2.2, god⟩
        · obtain ⟨b, hb, rfl⟩ := List.mem_map.mp z
          obtain ⟨o, e1, e2⟩ := hSo b hb
          refine ⟨?_, (yS b hb).1, (yS b hb).2.1, (yS b hb).2.2, fun v => ?_⟩
          · show s4.heap.get? b = some ((s4.heap.get? b).getD default)
            rw [e1]; rfl
          · show ((s4.heap.get? b).getD default).data ≠ _
            rw [e1]; exact e2 v
    have I5 := I4.weak (σ' := wipe (sigG src σ) vs) (wipe_length _ _) fun i v e => (wipe_some e).1
    have hAp : ∀ b ∈ Sl, Apart (gxOf X Ng A s3 H2 (genEnv scope (cloFrom X.env.cells scope.names []) s3.heap.objs.size code builtinsNs X.env) fp [(h'.objs.size, go)]) b := fun b hb => by
      refine ⟨Nat.le_of_lt (sS b hb), (yS b hb).2.1, fun y c e z => ?_⟩
      have hc : c < s3.heap.objs.size := by
        have e : (cloFrom X.env.cells scope.names []).lookup y = some c := e
        rcases cloFrom_mem (PySem.mem_of_lookup e) with hm | ⟨h1, rfl⟩
        · cases hm
        · obtain ⟨c, hc⟩ := hfree _ h1 rfl
          rw [show X.env.cells.lookup y = some c from hc]
          obtain ⟨w, z⟩ := I3.cell _ _ hc
          exact z.lt
      exact absurd (Nat.lt_trans (by rw [← z]; exact hc) (sS b hb)) (Nat.lt_irrefl _)
    have hr1 : Room k (A.deeper (genEnv scope (cloFrom X.env.cells scope.names []) s3.heap.objs.size code builtinsNs X.env)) := hrA.deeper _
    have st4 : tn 0 s4.heap := T.keep _ _ _ st3 fun b _ o e => kp4 b o e
    have hpnS : ∀ p ∈ [(h'.objs.size, go)], p.1 ∉ Sl := fun p hp z => by rw [List.mem_singleton.mp hp] at z; exact absurd (hSl _ z) (Nat.lt_irrefl _)
    have hpnf : ∀ p ∈ [(h'.objs.size, go)], p.1 ∉ fp := fun p hp z => by
      rw [List.mem_singleton.mp hp] at z
      have q : h'.objs.size < s3.heap.objs.size := (hf3 _ z).2
      rw [sz'] at q
      exact absurd (Nat.lt_of_succ_lt q) (Nat.lt_irrefl _)
    have loop := seg_gturns2 (X := gxOf X Ng A s3 H2 (genEnv scope (cloFrom X.env.cells scope.names []) s3.heap.objs.size code builtinsNs X.env) fp [(h'.objs.size, go)]) (A := A) (elt := elt) (tg := tg) (iter := iter) (ifs := ifs) (scope := scope) (pos := pos) (Sl := Sl) (vs := vs) (f := f) (gn := gn) (Er := Er) rfl rfl rfl rfl S.co
      hpnS hpnf hSn hAp T (hg A s3 H2 _ _ code fp _ hr1) (ht A s3 H2 _ _ code fp _ hr1) (he A s3 H2 _ _ code fp _ hr1) cont W turn m0 0 sizeLine 0 s4 s4 H2 w0 (Nat.add_zero _) (fun _ _ _ e => e) ⟨Sl.map fun b => (b, (s4.heap.get? b).getD default), by rw [List.map_map]; exact List.map_id Sl, by rw [List.append_nil]; exact I5⟩ st4 nfp
    refine seg_imp (R := fun n s0_ r s1 => r = .ok .next ∧ ∃ j H', n + j = sizeLine ∧ GI2 (gxOf X Ng A s3 H2 (genEnv scope (cloFrom X.env.cells scope.names []) s3.heap.objs.size code builtinsNs X.env) fp [(h'.objs.size, go)]) Sl [] (wipe (sigG src σ) vs) H' s1 ∧ (∀ b ∈ Sl, ∀ o, s0_.heap.get? b = some o → s1.heap.get? b = some o) ∧ cont j H')
      (Y := GY2 (gxOf X Ng A s3 H2 (genEnv scope (cloFrom X.env.cells scope.names []) s3.heap.objs.size code builtinsNs X.env) fp [(h'.objs.size, go)]) Sl f gn Er) (fun n s₀ r s1' hR => ?_) (fun n s₀ v s1' kap kap' hkk hY => ?_) sizeLine ?_
    · obtain ⟨rfl, j, H', hn, ⟨pl, hpl, J⟩, hst, hQ⟩ := hR
      refine .inl ⟨.inr rfl, H', j, hn, J.os, J.bare, J.base, J.hok, fun b hb => ?_, hst, hQ⟩
      rw [← hpl] at hb
      obtain ⟨p, hp, rfl⟩ := List.mem_map.mp hb
      exact (J.pin p (List.mem_append_right _ (List.mem_append_left _ hp))).2.1
    · obtain ⟨j, ip, σ', H', hn, rv, ⟨pl, hpl, J⟩, er, hst, h3⟩ := hY
      refine ⟨j, H', hn, J.os, J.bare, J.nolimit, isg _ (J.pin (h'.objs.size, go) (List.mem_append_left _ (List.mem_singleton.mpr rfl))).1, rv, J.base, J.hok, fun b hb => ?_, hst, er, fun s' hgn z => hkk _ _ (h3 s' hgn z)⟩
      rw [← hpl] at hb
      obtain ⟨p, hp, rfl⟩ := List.mem_map.mp hb
      exact (J.pin p (List.mem_append_right _ (List.mem_append_left _ hp))).2.1
    · show Seg _ A _ _ sizeLine s4 _ ((compStart (.GeneratorExp elt [⟨tg, iter, ifs, 0⟩] scope pos) 0 (.ref it) .none (genEnv scope (cloFrom X.env.cells scope.names []) s3.heap.objs.size code builtinsNs X.env)).onRaise (leaving (genEnv scope (cloFrom X.env.cells scope.names []) s3.heap.objs.size code builtinsNs X.env))) [] s4
      unfold compStart
      rw [Sem.onRaise_eq_wrap]
      show Seg _ A _ _ sizeLine s4 _ ((ask >>= _).wrap _ _ _ _) [] s4
      refine seg_bind_wrap (wpAny_askSetting ?_)
      split
      · exact seg_again rfl loop
      · first
          | exact seg_bind_wrap (wpAny_rule (seg_bind_wrap (wpAny_standAt (seg_bind_wrap (T.self _ 0 s4 _ _ st4 (seg_again rfl loop))))))
          | (refine seg_bind_wrap (wpAny_rule ?_); show Seg _ A _ _ sizeLine s4 _ ((standAt iter.pos >>= _).wrap _ _ _ _) [] s4; exact seg_bind_wrap (wpAny_standAt (seg_bind_wrap (T.self _ 0 s4 _ _ st4 (seg_again rfl loop)))))
  cases hfd : codeAmong pos ps.toList with
  | none =>
    refine wpAny_genexprCodeX hcode (hcd.code hPs htr) (hcd.tab hPs) hfd fun c' h3 tk hx hge hlt hco' _ htab' _ => ?_
    obtain ⟨o1, vs1, f1, tf, fl, tg1, inF, tx, t1, op, _, _, _, _, _, _, _, _, _, htr', _⟩ := hco'
    refine fin _ _ (upd H1 P (.tbl (ps ++ #[rawInt pos.line, rawInt pos.col, .ref c']))) ?_ ⟨⟨_, upd_same, htr'⟩, fun b hb => upd_ne hb⟩ fun b hb o e => hx b o hb e
    exact GxR.inv_tab (g' := s2.gens) (d' := s2.drawn) (t' := tk) I1 hP (fun b o hb e => hx b o hb e) htab'.2 I1.bare
  | some cv =>
    refine wpAny_genexprCode_hit hcode (hcd.code hPs htr) hfd ?_
    exact fin cv s2 H1 I1 ⟨⟨ps, hP, htr⟩, fun b _ => rfl⟩ fun b _ o e => e
end
end PI
set_option Elab.async false
set_option linter.all false
set_option maxRecDepth 100000
set_option maxHeartbeats 4000000
/-! PGc: all, any of a generator. -/
namespace PI
open PySem PySem.Spec PyProof.Rows L2 GenW
theorem drain_all {P : Program} {w : World} {outer : List PySem.Env} {H : Hp} {sc : Shared} {ex : List Addr} {f : Nat → V} {tr gn : Nat → Bool} {Er Qe : Nat → Hp → Prop} {A : Around} {R : Result → Shared → Prop} {a : Addr} {g : Nat} (hh : A.handled = none) (hd : A.depth < recursionLimit) (hf : ∀ j, f j = .bl (tr j)) (hgn : ∀ j, tr j = true → gn j = true)
    (hend : ∀ s' j H', s'.os = sc.os → AllBare s'.gens → Un (frs outer) ex H H' sc.heap s'.heap → HOk P w H' s'.heap → Qe j H' → R (.ok (.ret (.bool true))) s')
    (hstop : ∀ s' j H', s'.os = sc.os → AllBare s'.gens → Un (frs outer) ex H H' sc.heap s'.heap → HOk P w H' s'.heap → tr j = false → Er (j + 1) H' → R (.ok (.ret (.bool false))) s') :
    ∀ (m : Nat) (s : Shared), s.heap.IsGen a g → s.heap.NoLimit →
      (∃ gs, s.gens[g]? = some gs ∧ gs.Goes (model P w) A.in1.in1 (REnd2 P w outer H sc ex [] Qe) (YItem2 P w outer H sc ex [] a g f gn Er) m (.send .none) (s.setGen g .running)) → codeAny (model P w) A (.builtin "all.loop" ⟨[.ref a], []⟩) R s := by
  have goes : ∀ {gs : GenState} {B : Around} {n : Nat} {r : Resume} {s : Shared}, gs.Goes (model P w) B (REnd2 P w outer H sc ex [] Qe) (YItem2 P w outer H sc ex [] a g f gn Er) n r s →
      gs.Goes (model P w) B (fun n s₀ r s1 => ((r = .ok (.ret .none) ∨ r = .ok .next) ∧ (∃ H' j, n + j = sizeLine ∧ s1.os = sc.os ∧ AllBare s1.gens ∧ Un (frs outer) ex H H' sc.heap s1.heap ∧ HOk P w H' s1.heap ∧ (∀ b ∈ ([] : List Addr), H' b = none) ∧ (∀ b ∈ ([] : List Addr), ∀ o, s₀.heap.get? b = some o → s1.heap.get? b = some o) ∧ Qe j H')) ∨ ∃ e, r = .error e ∧ False) (YItem2 P w outer H sc ex [] a g f gn Er) n r s := fun h => h
  intro m
  induction m with
  | zero =>
    intro s hg hl ⟨gs, hgs, hgo⟩
    refine codeAny_builtin F.entry_all_loop ?_
    rw [Around.under_plainId F.plain_all_loop _]
    show wpAny _ A.in1 (pyNext (.ref a) >>= _) _ _ s
    refine wpAny_bind (next_genG (A := A.in1) hh hl hd hg hgs (goes hgo) (fun v s₁ gs' hbare hv => ?_) (fun s₁ hp h' hk => ?_) fun e s₁ he => he.elim)
    · obtain ⟨j, H', hn, os1, hb1, hl1, hg1, rv, un, hok, _, _, er, hk⟩ := hv
      rw [hf j] at rv
      obtain rfl : v = Value.bool (tr j) := rv
      refine wpAny_bind (wpAny_holding (wpAny_truthy_bool ?_))
      refine wpAny_bind (wpAny_letGo ?_)
      cases hb : tr j with
      | true => exact (hk s₁ (hgn j hb) ⟨rfl, hb1, fun b o _ q => q, fun b hb => absurd hb (by simp)⟩).elim
      | false =>
        simp only [Bool.false_eq_true, if_true, if_false]
        exact wpAny_bind (wpAny_rule (wpAny_pure (hstop _ j H' os1 (allBare_setGen hb1 hbare) un hok hb er)))
    · obtain ⟨H', j, _, os1, hb1, un, hok, _, _, hQ⟩ := hp
      exact wpAny_bind (wpAny_rule (wpAny_pure (hend _ j H' os1 (allBare_setGen hb1 rfl) (un.trans (Un.kept hk)) (hok.kept hk) hQ)))
  | succ m ih =>
    intro s hg hl ⟨gs, hgs, hgo⟩
    have hgl : g < s.gens.size := (Array.getElem?_eq_some_iff.mp hgs).1
    refine codeAny_builtin F.entry_all_loop ?_
    rw [Around.under_plainId F.plain_all_loop _]
    show wpAny _ A.in1 (pyNext (.ref a) >>= _) _ _ s
    refine wpAny_bind (wpAny_gsz (n := g + 1) hgl (next_genG (A := A.in1) hh hl hd hg hgs (goes hgo) (fun v s₁ gs' hbare hv => ?_) (fun s₁ hp h' hk => ?_) fun e s₁ he => he.elim))
    · intro hsz
      obtain ⟨j, H', hn, os1, hb1, hl1, hg1, rv, un, hok, _, _, er, hk⟩ := hv
      rw [hf j] at rv
      obtain rfl : v = Value.bool (tr j) := rv
      refine wpAny_bind (wpAny_holding (wpAny_truthy_bool ?_))
      refine wpAny_bind (wpAny_letGo ?_)
      have hsz1 : g < s₁.gens.size := by
        have q : (s₁.setGen g gs').gens.size = s₁.gens.size := setGen_size _ _ _
        have hsz' : g + 1 ≤ (s₁.setGen g gs').gens.size := hsz
        omega
      cases hb : tr j with
      | true =>
        simp only [Bool.false_eq_true, if_true, if_false]
        refine wpAny_pure ⟨plainId_quiet F.plain_all_loop _, ih (s₁.setGen g gs') hg1 hl1 ⟨gs', setGen_at hsz1, ?_⟩⟩
        exact hk _ (hgn j hb) ⟨rfl, allBare_setGen (s := s₁.setGen g gs') (allBare_setGen hb1 hbare) rfl, fun b o _ q => q, fun b hb => absurd hb (by simp)⟩
      | false =>
        simp only [Bool.false_eq_true, if_true, if_false]
        exact wpAny_bind (wpAny_rule (wpAny_pure (hstop _ j H' os1 (allBare_setGen hb1 hbare) un hok hb er)))
    · intro hsz
      obtain ⟨H', j, _, os1, hb1, un, hok, _, _, hQ⟩ := hp
      exact wpAny_bind (wpAny_rule (wpAny_pure (hend _ j H' os1 (allBare_setGen hb1 rfl) (un.trans (Un.kept hk)) (hok.kept hk) hQ)))
theorem drain_any {P : Program} {w : World} {outer : List PySem.Env} {H : Hp} {sc : Shared} {ex : List Addr} {f : Nat → V} {tr gn : Nat → Bool} {Er Qe : Nat → Hp → Prop} {A : Around} {R : Result → Shared → Prop} {a : Addr} {g : Nat} (hh : A.handled = none) (hd : A.depth < recursionLimit) (hf : ∀ j, f j = .bl (tr j)) (hgn : ∀ j, tr j = false → gn j = true)
    (hend : ∀ s' j H', s'.os = sc.os → AllBare s'.gens → Un (frs outer) ex H H' sc.heap s'.heap → HOk P w H' s'.heap → Qe j H' → R (.ok (.ret (.bool false))) s')
    (hstop : ∀ s' j H', s'.os = sc.os → AllBare s'.gens → Un (frs outer) ex H H' sc.heap s'.heap → HOk P w H' s'.heap → tr j = true → Er (j + 1) H' → R (.ok (.ret (.bool true))) s') :
    ∀ (m : Nat) (s : Shared), s.heap.IsGen a g → s.heap.NoLimit →
      (∃ gs, s.gens[g]? = some gs ∧ gs.Goes (model P w) A.in1.in1 (REnd2 P w outer H sc ex [] Qe) (YItem2 P w outer H sc ex [] a g f gn Er) m (.send .none) (s.setGen g .running)) → codeAny (model P w) A (.builtin "any.loop" ⟨[.ref a], []⟩) R s := by
  have goes : ∀ {gs : GenState} {B : Around} {n : Nat} {r : Resume} {s : Shared}, gs.Goes (model P w) B (REnd2 P w outer H sc ex [] Qe) (YItem2 P w outer H sc ex [] a g f gn Er) n r s →
      gs.Goes (model P w) B (fun n s₀ r s1 => ((r = .ok (.ret .none) ∨ r = .ok .next) ∧ (∃ H' j, n + j = sizeLine ∧ s1.os = sc.os ∧ AllBare s1.gens ∧ Un (frs outer) ex H H' sc.heap s1.heap ∧ HOk P w H' s1.heap ∧ (∀ b ∈ ([] : List Addr), H' b = none) ∧ (∀ b ∈ ([] : List Addr), ∀ o, s₀.heap.get? b = some o → s1.heap.get? b = some o) ∧ Qe j H')) ∨ ∃ e, r = .error e ∧ False) (YItem2 P w outer H sc ex [] a g f gn Er) n r s := fun h => h
  intro m
  induction m with
  | zero =>
    intro s hg hl ⟨gs, hgs, hgo⟩
    refine codeAny_builtin F.entry_any_loop ?_
    rw [Around.under_plainId F.plain_any_loop _]
    show wpAny _ A.in1 (pyNext (.ref a) >>= _) _ _ s
    refine wpAny_bind (next_genG (A := A.in1) hh hl hd hg hgs (goes hgo) (fun v s₁ gs' hbare hv => ?_) (fun s₁ hp h' hk => ?_) fun e s₁ he => he.elim)
    · obtain ⟨j, H', hn, os1, hb1, hl1, hg1, rv, un, hok, _, _, er, hk⟩ := hv
      rw [hf j] at rv
      obtain rfl : v = Value.bool (tr j) := rv
      refine wpAny_bind (wpAny_holding (wpAny_truthy_bool ?_))
      refine wpAny_bind (wpAny_letGo ?_)
      cases hb : tr j with
      | false => exact (hk s₁ (hgn j hb) ⟨rfl, hb1, fun b o _ q => q, fun b hb => absurd hb (by simp)⟩).elim
      | true =>
        simp only [Bool.false_eq_true, if_true, if_false]
        exact wpAny_bind (wpAny_rule (wpAny_pure (hstop _ j H' os1 (allBare_setGen hb1 hbare) un hok hb er)))
    · obtain ⟨H', j, _, os1, hb1, un, hok, _, _, hQ⟩ := hp
      exact wpAny_bind (wpAny_rule (wpAny_pure (hend _ j H' os1 (allBare_setGen hb1 rfl) (un.trans (Un.kept hk)) (hok.kept hk) hQ)))
  | succ m ih =>
    intro s hg hl ⟨gs, hgs, hgo⟩
    have hgl : g < s.gens.size := (Array.getElem?_eq_some_iff.mp hgs).1
    refine codeAny_builtin F.entry_any_loop ?_
    rw [Around.under_plainId F.plain_any_loop _]
    show wpAny _ A.in1 (pyNext (.ref a) >>= _) _ _ s
    refine wpAny_bind (wpAny_gsz (n := g + 1) hgl (next_genG (A := A.in1) hh hl hd hg hgs (goes hgo) (fun v s₁ gs' hbare hv => ?_) (fun s₁ hp h' hk => ?_) fun e s₁ he => he.elim))
    · intro hsz
      obtain ⟨j, H', hn, os1, hb1, hl1, hg1, rv, un, hok, _, _, er, hk⟩ := hv
      rw [hf j] at rv
      obtain rfl : v = Value.bool (tr j) := rv
      refine wpAny_bind (wpAny_holding (wpAny_truthy_bool ?_))
      refine wpAny_bind (wpAny_letGo ?_)
      have hsz1 : g < s₁.gens.size := by
        have q : (s₁.setGen g gs').gens.size = s₁.gens.size := setGen_size _ _ _
        have hsz' : g + 1 ≤ (s₁.setGen g gs').gens.size := hsz
        omega
      cases hb : tr j with
      | false =>
        simp only [Bool.false_eq_true, if_true, if_false]
        refine wpAny_pure ⟨plainId_quiet F.plain_any_loop _, ih (s₁.setGen g gs') hg1 hl1 ⟨gs', setGen_at hsz1, ?_⟩⟩
        exact hk _ (hgn j hb) ⟨rfl, allBare_setGen (s := s₁.setGen g gs') (allBare_setGen hb1 hbare) rfl, fun b o _ q => q, fun b hb => absurd hb (by simp)⟩
      | true =>
        simp only [Bool.false_eq_true, if_true, if_false]
        exact wpAny_bind (wpAny_rule (wpAny_pure (hstop _ j H' os1 (allBare_setGen hb1 hbare) un hok hb er)))
    · intro hsz
      obtain ⟨H', j, _, os1, hb1, un, hok, _, _, hQ⟩ := hp
      exact wpAny_bind (wpAny_rule (wpAny_pure (hend _ j H' os1 (allBare_setGen hb1 rfl) (un.trans (Un.kept hk)) (hok.kept hk) hQ)))
end PI
set_option Elab.async false
set_option linter.all false
set_option maxRecDepth 100000
set_option maxHeartbeats 4000000
/-! PGd: all(g), any(g). -/
namespace PI
open PySem PySem.Spec PyProof.Rows L2 GenW
theorem call_all_gm {P : Program} {w : World} {outer : List PySem.Env} {H : Hp} {sc s : Shared} {ex : List Addr} {f : Nat → V} {tr gn : Nat → Bool} {Er Qe : Nat → Hp → Prop} {A : Around} {k : Nat} {u : Value} {Q' : Value → Shared → Prop} {E : Value → Shared → Prop} (hr : Room (k + 4) A) (hfr : A.frames = some outer) (h : GMade2 P w k outer H sc ex f gn Er Qe u s) (hf : ∀ j, f j = .bl (tr j)) (hgn : ∀ j, tr j = true → gn j = true)
    (hend : ∀ s' j H', s'.os = sc.os → AllBare s'.gens → Un (frs outer) ex H H' sc.heap s'.heap → HOk P w H' s'.heap → Qe j H' → Q' (.bool true) s')
    (hstop : ∀ s' j H', s'.os = sc.os → AllBare s'.gens → Un (frs outer) ex H H' sc.heap s'.heap → HOk P w H' s'.heap → tr j = false → Er (j + 1) H' → Q' (.bool false) s') : wpAny (model P w) A (call (.builtin "all") [u]) Q' E s := by
  obtain ⟨a, g, c, rfl, ha1, ha2, hg, hgs, hos, hb, hl, hkp, wake⟩ := h
  refine call_function_tree F.kind_all F.plain_all F.entry_all (F.args_all1 _) ?_
  unfold Builtin.«all»
  refine wpAny_bind (m := oneArg "all" _) (wpAny_pure ?_)
  refine wpAny_bind (wpAny_pyIter_gen hg ?_)
  refine wpAny_pure ⟨plainId_quiet F.plain_all_loop _, ?_⟩
  refine drain_all (P := P) (w := w) (outer := outer) (H := H) (sc := sc) (ex := ex) (f := f) (tr := tr) (gn := gn) (Er := Er) (Qe := Qe) (A := A) (g := g) hr.hd (by have := hr.dp; omega) hf hgn (fun s' j H' => hend s' j H') (fun s' j H' => hstop s' j H') sizeLine s hg hl ⟨.fresh c, hgs, rfl, ?_⟩
  refine wake _ [] _ ⟨hr.hd, ?_, ?_⟩ hfr (fun b hb => absurd hb (by simp)) (fun b o q => q) (fun b hb => absurd hb (by simp)) hos (allBare_setGen hb rfl)
  · have := hr.dp
    show A.depth + 3 * k + 5 < _
    omega
  · have := hr.un
    show A.units + 1 + 1 + 16 * k + 200 < _
    omega
theorem call_any_gm {P : Program} {w : World} {outer : List PySem.Env} {H : Hp} {sc s : Shared} {ex : List Addr} {f : Nat → V} {tr gn : Nat → Bool} {Er Qe : Nat → Hp → Prop} {A : Around} {k : Nat} {u : Value} {Q' : Value → Shared → Prop} {E : Value → Shared → Prop} (hr : Room (k + 4) A) (hfr : A.frames = some outer) (h : GMade2 P w k outer H sc ex f gn Er Qe u s) (hf : ∀ j, f j = .bl (tr j)) (hgn : ∀ j, tr j = false → gn j = true)
    (hend : ∀ s' j H', s'.os = sc.os → AllBare s'.gens → Un (frs outer) ex H H' sc.heap s'.heap → HOk P w H' s'.heap → Qe j H' → Q' (.bool false) s')
    (hstop : ∀ s' j H', s'.os = sc.os → AllBare s'.gens → Un (frs outer) ex H H' sc.heap s'.heap → HOk P w H' s'.heap → tr j = true → Er (j + 1) H' → Q' (.bool true) s') : wpAny (model P w) A (call (.builtin "any") [u]) Q' E s := by
  obtain ⟨a, g, c, rfl, ha1, ha2, hg, hgs, hos, hb, hl, hkp, wake⟩ := h
  refine call_function_tree F.kind_any F.plain_any F.entry_any (F.args_any1 _) ?_
  unfold Builtin.«any»
  refine wpAny_bind (m := oneArg "any" _) (wpAny_pure ?_)
  refine wpAny_bind (wpAny_pyIter_gen hg ?_)
  refine wpAny_pure ⟨plainId_quiet F.plain_any_loop _, ?_⟩
  refine drain_any (P := P) (w := w) (outer := outer) (H := H) (sc := sc) (ex := ex) (f := f) (tr := tr) (gn := gn) (Er := Er) (Qe := Qe) (A := A) (g := g) hr.hd (by have := hr.dp; omega) hf hgn (fun s' j H' => hend s' j H') (fun s' j H' => hstop s' j H') sizeLine s hg hl ⟨.fresh c, hgs, rfl, ?_⟩
  refine wake _ [] _ ⟨hr.hd, ?_, ?_⟩ hfr (fun b hb => absurd hb (by simp)) (fun b o q => q) (fun b hb => absurd hb (by simp)) hos (allBare_setGen hb rfl)
  · have := hr.dp
    show A.depth + 3 * k + 5 < _
    omega
  · have := hr.un
    show A.units + 1 + 1 + 16 * k + 200 < _
    omega
/-- all(g), g's items truths tr 0, tr 1, .. -/
def tG_all (tg : TGen2) : TE := fun σ H Q => ∃ (tr : Nat → Bool) (Er Qe : Nat → Hp → Prop), tg σ H (fun j => .bl (tr j)) tr Er Qe ∧ (∀ j H', Qe j H' → Q (.bl true) H') ∧ (∀ j H', tr j = false → Er (j + 1) H' → Q (.bl false) H')
theorem pe_G_all {X : Cx} {k : Nat} {e : Expr} {tg : TGen2} {nm : Str} {p pos : Pos} (h : PGen2 X k e tg) (hr : Room (k + 4) X.A) (hg : Gl X nm) (hmg : X.mg nm = none) (hv : bootBuiltins nm = some (.builtin "all")) (hnm : nm ≠ "__name__") (hdb : (nm == ("__debug__" : Str)) = false)
    (he : starEach [e] X.env = (false, eval e X.env) :: starEach [] X.env) : PE X (.Call (.Name nm p) [e] [] pos) (tG_all tg) := by
  refine ⟨fun pins s σ H Q I ⟨tr, Er, Qe, hq, h1, h2⟩ => ?_⟩
  refine wpAny_Call_Name_kw (ld_blt I hg hmg hv ?_ hnm hdb)
  refine PyProof.Rows.callWith_builtin1 ?_ he rfl
  rw [he]
  show wpAny _ _ (spliced ((false, eval e X.env) :: backTo pos (starEach [] X.env))) _ _ s
  refine Calls.spliced_cons (thn (h.run pins s σ H _ _ _ _ I hq) fun u s1 ⟨H1, sc, ex, I1, hex, hG⟩ => ?_)
  refine Calls.spliced_nil ?_
  exact call_all_gm hr I1.ok.frames hG (fun _ => rfl) (fun _ h => h) (fun s' j H' r4 r5 r6 r7 q => ⟨.bl true, H', I1.call' (ch := ex) r4 r6 r7 r5 hex, rfl, h1 j H' q⟩) fun s' j H' r4 r5 r6 r7 t q => ⟨.bl false, H', I1.call' (ch := ex) r4 r6 r7 r5 hex, rfl, h2 j H' t q⟩
/-- any(g), g's items truths tr 0, tr 1, .. -/
def tG_any (tg : TGen2) : TE := fun σ H Q => ∃ (tr : Nat → Bool) (Er Qe : Nat → Hp → Prop), tg σ H (fun j => .bl (tr j)) (fun j => !tr j) Er Qe ∧ (∀ j H', Qe j H' → Q (.bl false) H') ∧ (∀ j H', tr j = true → Er (j + 1) H' → Q (.bl true) H')
theorem pe_G_any {X : Cx} {k : Nat} {e : Expr} {tg : TGen2} {nm : Str} {p pos : Pos} (h : PGen2 X k e tg) (hr : Room (k + 4) X.A) (hg : Gl X nm) (hmg : X.mg nm = none) (hv : bootBuiltins nm = some (.builtin "any")) (hnm : nm ≠ "__name__") (hdb : (nm == ("__debug__" : Str)) = false)
    (he : starEach [e] X.env = (false, eval e X.env) :: starEach [] X.env) : PE X (.Call (.Name nm p) [e] [] pos) (tG_any tg) := by
  refine ⟨fun pins s σ H Q I ⟨tr, Er, Qe, hq, h1, h2⟩ => ?_⟩
  refine wpAny_Call_Name_kw (ld_blt I hg hmg hv ?_ hnm hdb)
  refine PyProof.Rows.callWith_builtin1 ?_ he rfl
  rw [he]
  show wpAny _ _ (spliced ((false, eval e X.env) :: backTo pos (starEach [] X.env))) _ _ s
  refine Calls.spliced_cons (thn (h.run pins s σ H _ _ _ _ I hq) fun u s1 ⟨H1, sc, ex, I1, hex, hG⟩ => ?_)
  refine Calls.spliced_nil ?_
  exact call_any_gm hr I1.ok.frames hG (fun _ => rfl) (fun _ h => by rw [h]; rfl) (fun s' j H' r4 r5 r6 r7 q => ⟨.bl false, H', I1.call' (ch := ex) r4 r6 r7 r5 hex, rfl, h1 j H' q⟩) fun s' j H' r4 r5 r6 r7 t q => ⟨.bl true, H', I1.call' (ch := ex) r4 r6 r7 r5 hex, rfl, h2 j H' t q⟩
end PI
set_option Elab.async false
set_option linter.all false
set_option maxRecDepth 100000
set_option maxHeartbeats 4000000
/-! PH: generator expressions over data. -/
namespace PI
open PySem L2
/-- a generator's items, all of them; behind it the store -/
def EvG (L : Lx) (ρ : Ro) (M : Store) (k : Nat) (e : Expr) (Q : List D → Store → Prop) (E : Nat → Store → Prop) : Prop :=
  ∀ X, CI L X → ∃ tg, PGen X k e tg NX ∧ ∀ B σ G H (R : List V → Hp → Prop), Frm X L.g B G H σ ρ → Sta L.g G H M → KA L.g G H Q R → KX L.g X σ G H E → tg σ H R
theorem roG_at {src : List (Option Nat)} {ρ : Ro} {j : Nat} {s : Slot} (h : (roG src ρ)[j]? = some s) : s = .un ∨ ∃ i d, src[j]? = some (some i) ∧ ρ[i]? = some (.v d) ∧ s = .v d := by
  unfold roG at h
  rw [List.getElem?_map] at h
  cases q : src[j]? with
  | none => rw [q] at h; cases h
  | some o =>
    rw [q] at h
    have h := Option.some.inj h
    cases o with
    | none => exact .inl h.symm
    | some i =>
      have h : (match ρ[i]? with | some (.v d) => Slot.v d | _ => .un) = s := h
      cases q2 : ρ[i]? with
      | none => rw [q2] at h; exact .inl h.symm
      | some t =>
        rw [q2] at h
        cases t with
        | v d => exact .inr ⟨i, d, rfl, q2, h.symm⟩
        | _ => exact .inl h.symm
theorem Frm.gen {X X' : Cx} {g : Gx} {B : Bs} {G : Gh} {H : Hp} {σ : L2.St} {ρ : Ro} (h : Frm X g B G H σ ρ) (src : List (Option Nat)) : Frm X' g B G H (sigG src σ) (roG src ρ) := by
  refine ⟨by unfold sigG roG; simp, fun j s hs => ?_, fun i j s t a ij hi hj so to ei ej => ?_⟩
  · rcases roG_at hs with rfl | ⟨i, d, e1, e2, rfl⟩
    · trivial
    · obtain ⟨v, h1, h2⟩ := h.get e2
      refine ⟨v, ?_, h2⟩
      unfold sigG
      rw [List.getElem?_map, e1]
      show some ((σ[i]?).join) = _
      rw [h1]; rfl
  · rcases roG_at hi with rfl | ⟨_, _, _, _, rfl⟩ <;> cases so
/-- a table has grown -/
theorem Sta.tabbed {g : Gx} {G : Gh} {H H' : Hp} {M : Store} {P : Addr} (s : Sta g G H M) (hP : (P, none) ∈ g.T) (hu : ∀ q ∈ g.T, q.1 = P → q.2 = none) (t : GxR.Tabbed P H H') : Sta g G H' M ∧ Mv G H G H' := by
  obtain ⟨⟨ps', hp', ht'⟩, keep⟩ := t
  obtain ⟨ps, hp, ht, _⟩ := s.tabs _ hP
  have ne : ∀ b o, H b = some o → (∀ ps, o ≠ .tbl ps) → b ≠ P := fun b o e n z => by
    rw [z] at e
    rw [show H P = some (.tbl ps) from hp] at e
    exact n ps (Option.some.inj e).symm
  have kp : ∀ b o, H b = some o → (∀ ps, o ≠ .tbl ps) → H' b = some o := fun b o e n => by rw [keep b (ne b o e n)]; exact e
  refine ⟨⟨fun b u e => kp b u (s.ex b u e) fun ps z => s.nt b ps (by rw [e, z]), s.len, fun k m a hm ha => ⟨(s.tie k m a hm ha).1, (s.tie k m a hm ha).2.mono (.refl _) fun o e n => kp a o e n⟩, s.nd, fun q hq => ?_, s.nt⟩, ⟨.refl _, fun b o e n _ => kp b o e n, fun b h => h.imp id .inl, fun b h => ?_⟩⟩
  · by_cases hq1 : q.1 = P
    · exact ⟨ps', by rw [hq1]; exact hp', ht', fun x hx => by rw [hu q hq hq1] at hx; cases hx⟩
    · exact (s.tabs q hq).mono (Same.refl _) fun ps e => by rw [keep _ hq1]; exact e
  · by_cases hb : b = P
    · rw [hb, hp']; intro z; cases z
    · rw [keep b hb]; exact h
/-- the generator's own code -/
def Lx.gen (L : Lx) (scope : Scope) (Ng : List Str) (k : Nat) : Lx := ⟨L.g, Ng, scope, k, fun x => scope.names.lookup x == some .cell, none, false⟩
section
variable {L : Lx} {ρ : Ro} {M : Store} {elt tg iter : Expr} {ifs : List Expr} {scope : Scope} {pt : Pat} {pos : Pos} {Ng : List Str} {src : List (Option Nat)} {k : Nat} {P : Addr} {os : Out (List D)} {oi oe : Ro → Store → Out D}
theorem ci_gen {X : Cx} (ci : CI L X) (S : GScp X.N X.env.scope scope Ng src) {A : Around} {s : Shared} {H : Hp} {cl : List (Str × Addr)} {C : Addr} {code : Value} {fp : List Addr} {pn : List (Addr × Obj)} (hr : Room k (A.deeper (genEnv scope cl C code builtinsNs X.env))) :
    CI (L.gen scope Ng k) (gxOf X Ng A s H (genEnv scope cl C code builtinsNs X.env) fp pn) where
  prog := ci.prog
  w := ci.w
  K := ci.K
  mg := ci.mg
  base := ci.base
  N := rfl
  sc := rfl
  nd := S.nd
  calm := rfl
  room := hr
  own := PassesOwn.never
  fn := rfl
  code := CdOk.none
  top := fun z => by cases z
theorem ev_gexp {Q : List D → Store → Prop} {E : Nat → Store → Prop} (Ng : List Str) (src : List (Option Nat)) (hcd : L.cd = some (P, none)) (hS : gscp L.N L.sc scope Ng src = true) (hp : PatOk (L.gen scope Ng k) tg pt) (hk : k + 1 ≤ L.n)
    (hs : ∀ env x, genFold iter env x = pure x) (hsrc : SrcO L ρ M tg iter os) (T : LcTurn (L.gen scope Ng k) (wipeR (roG src ρ) pt.js) pt elt ifs oi oe)
    (n : lcRun pt (wipeR (roG src ρ) pt.js) os oi oe ≠ .bad) (hQ : ∀ ds M', lcRun pt (wipeR (roG src ρ) pt.js) os oi oe = .ok ds M' → Q ds M') (hE : ∀ C M', lcRun pt (wipeR (roG src ρ) pt.js) os oi oe = .ex C M' → E C M') : EvG L ρ M (k + 1) (.GeneratorExp elt [⟨tg, iter, ifs, 0⟩] scope pos) Q E := by
  intro X ci
  obtain ⟨⟨c, hcode, TB⟩, hPT, hu, _⟩ := ci.code P none hcd
  have S : GScp X.N X.env.scope scope Ng src := by rw [ci.N, ci.sc]; exact gscp_ok hS
  refine ⟨tGx P (WpI X tg iter) (gP L.g.K pt) (fun σ H Q => ∀ A s H0 cl C code fp pn, Room k (A.deeper (genEnv scope cl C code builtinsNs X.env)) → tts (gxOf X Ng A s H0 (genEnv scope cl C code builtinsNs X.env) fp pn) ifs σ H Q)
    (fun σ H Q => ∀ A s H0 cl C code fp pn, Room k (A.deeper (genEnv scope cl C code builtinsNs X.env)) → Wp (gxOf X Ng A s H0 (genEnv scope cl C code builtinsNs X.env) fp pn) elt σ H Q) src pt.js, ?_, ?_⟩
  · refine pgen_gexp (k := k) (c := c) ⟨ci.room.hd, ?_, ?_⟩ (by rw [ci.base, ci.mg]; exact TB) hcode S pi_wp (fun A s H cl C code fp pn hr => hp.pg (ci_gen ci S hr)) (fun A s H cl C code fp pn hr => ⟨fun pins s' σ' H' Q' I h => (pts_wp (ifs := ifs)).run pins s' σ' H' Q' I (h A s H cl C code fp pn hr)⟩)
      (fun A s H cl C code fp pn hr => ⟨fun pins s' σ' H' Q' I h => h A s H cl C code fp pn hr pins s' I⟩) (hs X.env)
    · have := ci.room.dp; omega
    · have := ci.room.un; omega
  · intro B σ G H R fr s kk kx
    refine (hsrc.step n) X ci B σ G H _ fr s (fun J xs G1 M1 H1 m1 s1 sv ⟨_, n1, e1⟩ => ?_) fun C G' M' H' m' s' e => kx C G' M' H' m' s' (hE C M' e)
    have hlen : xs.length ≤ 50000 := by
      by_cases hl : xs.length ≤ 50000
      · exact hl
      · rw [if_neg hl] at n1; exact absurd rfl n1
    rw [if_pos hlen] at n1 e1
    obtain ⟨zs0, Mf, hgo⟩ := noEx_some n1
    have efin : lcRun pt (wipeR (roG src ρ) pt.js) os oi oe = .ok zs0 Mf := by unfold lcRun; rw [e1, hgo]; rfl
    have hz0 := lcGo_len hgo
    refine ⟨(let ⟨ps, h1, h2, _⟩ := s1.tabs _ hPT; ⟨ps, h1, h2⟩), fun H2 tb => ?_⟩
    obtain ⟨s2, m2⟩ := s1.tabbed hPT hu tb
    have m12 := m1.trans s1 m2
    refine ⟨fun i m ys H' => m = xs.length - i ∧ i ≤ xs.length ∧ ∃ G' M' out zs, Sta L.g G' H' M' ∧ Mv G1 H2 G' H' ∧ Reps L.g G' out ys ∧ lcGo (lcStep pt (wipeR (roG src ρ) pt.js) oi oe) (xs.drop i) M' = .ok zs Mf ∧ out ++ zs = zs0, ⟨xs.length, by simp, Nat.zero_le _, G1, M1, [], zs0, s2, .refl .., rfl, by simpa using hgo, rfl⟩, ?_⟩
    rintro i m ys H' ⟨rfl, hi, G', M', out, zs, s', m', rO, hg, he⟩
    by_cases hlt : i < xs.length
    · obtain ⟨d, hd, edrop⟩ := drop_cons hlt
      rw [edrop] at hg
      obtain ⟨ys1, M2, ws, hstep, hgo2, rfl⟩ := lcGo_cons hg
      obtain ⟨ρ', b, M3, ha, hoi, hb⟩ := lcStep_ok hstep
      obtain ⟨go, yl⟩ := sv.go i d hd G' H' M' m'.g s'
      refine .inr ⟨go, fun ys' H2' => ∃ G2 M2' out2 zs2, Sta L.g G2 H2' M2' ∧ Mv G1 H2 G2 H2' ∧ Reps L.g G2 out2 ys' ∧ lcGo (lcStep pt (wipeR (roG src ρ) pt.js) oi oe) (xs.drop (i + 1)) M2' = .ok zs2 Mf ∧ out2 ++ zs2 = zs0, fun ys' H2' q => ⟨xs.length - (i + 1), by omega, rfl, hlt, q⟩, fun w H3 hy => ?_⟩
      obtain ⟨G2, s3, m3, r2⟩ := yl w H3 hy
      have m13 := m'.trans s' m3
      have f1 := fr.move (m12.trans s2 m13)
      refine pat_read (X := X) (τ := sigG src σ) ha (fun _ z => z) r2 s3.ex ((f1.gen (X' := X) src).wipe pt.js) (wipe_wipe _ _) fun σ2 f2 hw => ⟨hw, ?_⟩
      have nl0 : noLam (roG src ρ) = roG src ρ := by
        rw [noLam_eq]
        refine List.ext_getElem? fun j => ?_
        rw [List.getElem?_map]
        cases q : (roG src ρ)[j]? with
        | none => rfl
        | some s =>
          rcases roG_at q with rfl | ⟨_, _, _, _, rfl⟩ <;> rfl
      have nl : noLam ρ' = ρ' := noLam_asg (by have := noLam_wipe (ρ := roG src ρ) (vs := pt.js); rw [nl0] at this; exact this) ha
      intro A ss H0 cl C code fp pn hr
      have fb : ∀ X' : Cx, Frm X' L.g B G2 H3 σ2 ρ' := fun X' => by
        have := f2.noLam (X' := X')
        rw [nl] at this; exact this
      refine tts_of (T.ifs ρ' M') hoi (ci_gen ci S hr) (fb _) s3 fun G3 H4 m4 s4 => ?_
      have m14 := m13.trans s3 m4
      have r3 := (rO.mono m3.g).mono m4.g
      rcases hb with ⟨rfl, y, hoe, rfl⟩ | ⟨rfl, rfl, rfl⟩
      · rw [if_pos rfl]
        intro A4 ss4 H04 cl4 C4 code4 fp4 pn4 hr4
        refine T.elt ρ' M3 (by rw [hoe]; intro z; cases z) _ (ci_gen ci S hr4) B σ2 G3 H4 _ ((fb _).move m4) s4 (fun yv d4 G4 M4 H5 m5 s5 r5 e5 => ?_) (fun C G' M' H' m s e => by rw [hoe] at e; cases e)
        rw [hoe] at e5
        cases e5
        have el := rO.length
        refine ⟨?_, G4, M2, out ++ [y], ws, s5, m14.trans s4 m5, (r3.mono m5.g).append (.one r5), hgo2, by rw [← he]; simp⟩
        rw [el]
        have : out.length ≤ zs0.length := by rw [← he]; simp
        exact Nat.lt_of_le_of_lt (Nat.le_trans this (Nat.le_trans hz0 hlen)) (by decide)
      · rw [if_neg Bool.false_ne_true]
        exact ⟨G3, M3, out, ws, s4, m14, r3, hgo2, by rw [← he]; simp⟩
    · have e : i = xs.length := by omega
      subst e
      rw [List.drop_length] at hg
      cases hg
      rw [List.append_nil] at he
      subst he
      exact .inl ⟨sv.stop G' H' _ m'.g s', kk _ _ G' _ H' (m12.trans s2 m') s' rO (hQ _ _ efin)⟩
theorem ev_tupG {Q : D → Store → Prop} {E : Nat → Store → Prop} {e : Expr} {p : Pos} (hm : L.g.mg "tuple" = none) (hg : Glo L "tuple") (hr : k + 4 ≤ L.n) (h : EvG L ρ M k e (fun ds M' => Q (.tup ds) M') E)
    (hs : ∀ env, starEach [e] env = (false, eval e env) :: starEach [] env) : Ev L ρ M (.Call (.Name "tuple" p) [e] [] pos) Q E := fun X ci B σ G H R f s kk x => by
  obtain ⟨tg, pg, rd⟩ := h X ci
  refine wp_of (pe_tupG pg (ci.room.mono hr) (ci.gl hg) (by rw [ci.mg]; exact hm) (by rfl) (he := hs X.env)) ?_
  refine rd B σ G H _ f s (fun vs ds G' M' H' m' s' r q => ?_) x
  intro a na
  obtain ⟨s2, m2⟩ := s'.newG (o := .tup vs) na (fun ps z => by cases z)
  exact kk (.ref a) (.tup ds) _ _ _ (m'.trans s' m2) s2 ⟨a, vs, rfl, SqT.of upd_same, r.mono m2.g⟩ q
end
end PI
set_option Elab.async false
set_option linter.all false
set_option maxRecDepth 100000
set_option maxHeartbeats 4000000
/-! PHq: all, any of a generator expression, over data. -/
namespace PI
open PySem L2
def qTr (st : Bool) (step : D → Store → Out (List D)) : List D → Store → List Bool
  | [], _ => []
  | d :: ds, M => match step d M with
    | .ok [] M1 => qTr st step ds M1
    | .ok [.bl b] M1 => b :: (if b = st then [] else qTr st step ds M1)
    | _ => []
/-- the truths of a whole run -/
def trO (st : Bool) (step : D → Store → Out (List D)) (os : Out (List D)) (j : Nat) : Bool := match os with
  | .ok xs N => (qTr st step xs N).getD j (!st)
  | _ => !st
theorem qTr_cons {st : Bool} {step : D → Store → Out (List D)} {d : D} {ds : List D} {M : Store} : qTr st step (d :: ds) M = match step d M with
    | .ok [] N => qTr st step ds N
    | .ok [.bl b] N => b :: (if b = st then [] else qTr st step ds N)
    | _ => [] := by rw [qTr]
theorem qGo_cons {st : Bool} {step : D → Store → Out (List D)} {d r : D} {ds : List D} {M Mf : Store} (h : qGo st step (d :: ds) M = .ok r Mf) :
    (∃ N, step d M = .ok [] N ∧ qGo st step ds N = .ok r Mf ∧ qTr st step (d :: ds) M = qTr st step ds N) ∨
    (∃ N, step d M = .ok [.bl st] N ∧ r = .bl st ∧ Mf = N ∧ qTr st step (d :: ds) M = [st]) ∨
    (∃ b N, b ≠ st ∧ step d M = .ok [.bl b] N ∧ qGo st step ds N = .ok r Mf ∧ qTr st step (d :: ds) M = b :: qTr st step ds N) := by
  rw [qTr_cons]
  have h : ((step d M).bind fun ys N => match ys with
    | [] => qGo st step ds N
    | [.bl b] => if b = st then .ok (.bl st) N else qGo st step ds N
    | _ => .bad) = .ok r Mf := h
  cases hs : step d M with
  | bad => rw [hs] at h; cases h
  | ex C N => rw [hs] at h; cases h
  | ok ys N =>
    rw [hs] at h
    match ys with
    | [] => exact .inl ⟨N, rfl, h, rfl⟩
    | [.bl b] =>
      have h : (if b = st then Out.ok (.bl st) N else qGo st step ds N) = .ok r Mf := h
      by_cases hb : b = st
      · rw [if_pos hb] at h
        cases h
        subst hb
        exact .inr (.inl ⟨_, rfl, rfl, rfl, by simp⟩)
      · rw [if_neg hb] at h
        exact .inr (.inr ⟨b, N, hb, rfl, h, by simp [hb]⟩)
    | [.non] => exact absurd h (by intro z; cases z)
    | [.int _] => exact absurd h (by intro z; cases z)
    | [.str _] => exact absurd h (by intro z; cases z)
    | [.tup _] => exact absurd h (by intro z; cases z)
    | [.lst _] => exact absurd h (by intro z; cases z)
    | [.seq _] => exact absurd h (by intro z; cases z)
    | [.ref _] => exact absurd h (by intro z; cases z)
    | [.obj _ _ _] => exact absurd h (by intro z; cases z)
    | [.dct _ _] => exact absurd h (by intro z; cases z)
    | a :: b :: t => cases a <;> exact absurd h (by intro z; cases z)
section
variable {L : Lx} {ρ : Ro} {M : Store} {elt tg iter : Expr} {ifs : List Expr} {scope : Scope} {pt : Pat} {pos : Pos} {Ng : List Str} {src : List (Option Nat)} {k : Nat} {P : Addr} {os : Out (List D)} {oi oe : Ro → Store → Out D}
theorem gq_read {st : Bool} {Q : D → Store → Prop} {E : Nat → Store → Prop} (Ng : List Str) (src : List (Option Nat)) (hcd : L.cd = some (P, none)) (hS : gscp L.N L.sc scope Ng src = true) (hp : PatOk (L.gen scope Ng k) tg pt) (hk : k + 1 ≤ L.n)
    (hs : ∀ env x, genFold iter env x = pure x) (hsrc : SrcO L ρ M tg iter os) (T : LcTurn (L.gen scope Ng k) (wipeR (roG src ρ) pt.js) pt elt ifs oi oe)
    (n : qRun st pt (wipeR (roG src ρ) pt.js) os oi oe ≠ .bad) (hQ : ∀ d M', qRun st pt (wipeR (roG src ρ) pt.js) os oi oe = .ok d M' → Q d M') (hE : ∀ C M', qRun st pt (wipeR (roG src ρ) pt.js) os oi oe = .ex C M' → E C M') {X : Cx} (ci : CI L X) :
    ∃ tgn, PGen2 X (k + 1) (.GeneratorExp elt [⟨tg, iter, ifs, 0⟩] scope pos) tgn ∧ ∀ B σ G H (R : VK), Frm X L.g B G H σ ρ → Sta L.g G H M → KD L.g G H Q R → KX L.g X σ G H E →
      ∃ (tr : Nat → Bool) (Er Qe : Nat → Hp → Prop), tgn σ H (fun j => .bl (tr j)) (fun j => tr j != st) Er Qe ∧ (∀ j H', Qe j H' → R (.bl (!st)) H') ∧ (∀ j H', tr j = st → Er (j + 1) H' → R (.bl st) H') := by
  obtain ⟨⟨c, hcode, TB⟩, hPT, hu, _⟩ := ci.code P none hcd
  have S : GScp X.N X.env.scope scope Ng src := by rw [ci.N, ci.sc]; exact gscp_ok hS
  refine ⟨tGx2 P (WpI X tg iter) (gP L.g.K pt) (fun σ H Q => ∀ A s H0 cl C code fp pn, Room k (A.deeper (genEnv scope cl C code builtinsNs X.env)) → tts (gxOf X Ng A s H0 (genEnv scope cl C code builtinsNs X.env) fp pn) ifs σ H Q)
    (fun σ H Q => ∀ A s H0 cl C code fp pn, Room k (A.deeper (genEnv scope cl C code builtinsNs X.env)) → Wp (gxOf X Ng A s H0 (genEnv scope cl C code builtinsNs X.env) fp pn) elt σ H Q) src pt.js, ?_, ?_⟩
  · refine pgen_gexp2 (k := k) (c := c) ⟨ci.room.hd, ?_, ?_⟩ (by rw [ci.base, ci.mg]; exact TB) hcode S pi_wp (fun A s H cl C code fp pn hr => hp.pg (ci_gen ci S hr)) (fun A s H cl C code fp pn hr => ⟨fun pins s' σ' H' Q' I h => (pts_wp (ifs := ifs)).run pins s' σ' H' Q' I (h A s H cl C code fp pn hr)⟩)
      (fun A s H cl C code fp pn hr => ⟨fun pins s' σ' H' Q' I h => h A s H cl C code fp pn hr pins s' I⟩) (hs X.env)
    · have := ci.room.dp; omega
    · have := ci.room.un; omega
  · intro B σ G H R fr s kk kx
    let step := lcStep pt (wipeR (roG src ρ) pt.js) oi oe
    let tr : Nat → Bool := trO st step os
    let Rv : D → Hp → Prop := fun d H' => ∃ G' M', Sta L.g G' H' M' ∧ Mv G H G' H' ∧ qRun st pt (wipeR (roG src ρ) pt.js) os oi oe = .ok d M'
    refine ⟨tr, fun j' H' => tr (j' - 1) = st → Rv (.bl st) H', fun _ H' => Rv (.bl (!st)) H', ?_, fun j H' ⟨G', M', s', m', e⟩ => kk _ _ G' M' H' m' s' rep_bl (hQ _ _ e), fun j H' ht h => ?_⟩
    · refine (hsrc.step n) X ci B σ G H _ fr s (fun J xs G1 M1 H1 m1 s1 sv ⟨e0, n1, e1⟩ => ?_) fun C G' M' H' m' s' e => kx C G' M' H' m' s' (hE C M' e)
      have hlen : xs.length ≤ 50000 := by
        by_cases hl : xs.length ≤ 50000
        · exact hl
        · rw [if_neg hl] at n1; exact absurd rfl n1
      rw [if_pos hlen] at n1 e1
      obtain ⟨d0, Mf, hgo⟩ := noEx_some n1
      have efin : qRun st pt (wipeR (roG src ρ) pt.js) os oi oe = .ok d0 Mf := by unfold qRun; rw [e1, hgo]; rfl
      have etr : ∀ j, tr j = (qTr st step xs M1).getD j (!st) := fun j => by show trO st step os j = _; rw [e0]; rfl
      refine ⟨(let ⟨ps, h1, h2, _⟩ := s1.tabs _ hPT; ⟨ps, h1, h2⟩), fun H2 tb => ?_⟩
      obtain ⟨s2, m2⟩ := s1.tabbed hPT hu tb
      have m12 := m1.trans s1 m2
      refine ⟨fun i m j H' => m = xs.length - i ∧ i ≤ xs.length ∧ j ≤ i ∧ ∃ G' M', Sta L.g G' H' M' ∧ Mv G1 H2 G' H' ∧ qGo st step (xs.drop i) M' = .ok d0 Mf ∧ ∀ t, tr (j + t) = (qTr st step (xs.drop i) M').getD t (!st), ⟨xs.length, by simp, Nat.zero_le _, Nat.le_refl _, G1, M1, s2, .refl .., by simpa using hgo, fun t => by rw [Nat.zero_add]; simpa using etr t⟩, ?_⟩
      rintro i m j H' ⟨rfl, hi, hj, G', M', s', m', hg, ht⟩
      by_cases hlt : i < xs.length
      · obtain ⟨d, hd, edrop⟩ := drop_cons hlt
        rw [edrop] at hg ht
        obtain ⟨ys, M2, hstep⟩ : ∃ ys M2, step d M' = .ok ys M2 := by
          rcases qGo_cons hg with ⟨N, a, _⟩ | ⟨N, a, _⟩ | ⟨b, N, _, a, _⟩ <;> exact ⟨_, _, a⟩
        obtain ⟨ρ', b, M3, ha, hoi, hb⟩ := lcStep_ok hstep
        obtain ⟨go, yl⟩ := sv.go i d hd G' H' M' m'.g s'
        refine .inr ⟨go, fun j' H2' => j' ≤ i + 1 ∧ ∃ G2 M2', Sta L.g G2 H2' M2' ∧ Mv G1 H2 G2 H2' ∧ qGo st step (xs.drop (i + 1)) M2' = .ok d0 Mf ∧ ∀ t, tr (j' + t) = (qTr st step (xs.drop (i + 1)) M2').getD t (!st), fun j' H2' ⟨a, q⟩ => ⟨xs.length - (i + 1), by omega, rfl, hlt, a, q⟩, fun w H3 hy => ?_⟩
        obtain ⟨G2, s3, m3, r2⟩ := yl w H3 hy
        have m13 := m'.trans s' m3
        have f1 := fr.move (m12.trans s2 m13)
        refine pat_read (X := X) (τ := sigG src σ) ha (fun _ z => z) r2 s3.ex ((f1.gen (X' := X) src).wipe pt.js) (wipe_wipe _ _) fun σ2 f2 hw => ⟨hw, ?_⟩
        have nl0 : noLam (roG src ρ) = roG src ρ := by
          rw [noLam_eq]
          refine List.ext_getElem? fun j => ?_
          rw [List.getElem?_map]
          cases q : (roG src ρ)[j]? with
          | none => rfl
          | some s =>
            rcases roG_at q with rfl | ⟨_, _, _, _, rfl⟩ <;> rfl
        have nl : noLam ρ' = ρ' := noLam_asg (by have := noLam_wipe (ρ := roG src ρ) (vs := pt.js); rw [nl0] at this; exact this) ha
        intro A ss H0 cl C code fp pn hr
        have fb : ∀ X' : Cx, Frm X' L.g B G2 H3 σ2 ρ' := fun X' => by
          have := f2.noLam (X' := X')
          rw [nl] at this; exact this
        refine tts_of (T.ifs ρ' M') hoi (ci_gen ci S hr) (fb _) s3 fun G3 H4 m4 s4 => ?_
        have m14 := m13.trans s3 m4
        rcases hb with ⟨rfl, y, hoe, rfl⟩ | ⟨rfl, rfl, rfl⟩
        · rw [if_pos rfl]
          intro A4 ss4 H04 cl4 C4 code4 fp4 pn4 hr4
          refine T.elt ρ' M3 (by rw [hoe]; intro z; cases z) _ (ci_gen ci S hr4) B σ2 G3 H4 _ ((fb _).move m4) s4 (fun yv d4 G4 M4 H5 m5 s5 r5 e5 => ?_) (fun C G' M' H' m s e => by rw [hoe] at e; cases e)
          rw [hoe] at e5
          cases e5
          have m15 := m14.trans s4 m5
          have m05 := m12.trans s2 m15
          rcases qGo_cons hg with ⟨N, a, _⟩ | ⟨N, a, rfl, rfl, eT⟩ | ⟨b, N, hne, a, hgo2, eT⟩
          · rw [hstep] at a; cases a
          · rw [hstep] at a
            cases a
            have t0 : tr j = st := by have := ht 0; rw [eT] at this; simpa using this
            obtain rfl : yv = .bl st := r5
            refine ⟨by show V.bl st = V.bl (tr j); rw [t0], ?_, fun _ => ⟨G4, _, s5, m05, efin⟩, fun h => by
              have h : (tr j != st) = true := h
              rw [t0] at h; simp at h⟩
            exact Nat.lt_of_le_of_lt (Nat.le_trans hj (Nat.le_trans hi hlen)) (by decide)
          · rw [hstep] at a
            cases a
            have t0 : tr j = b := by have := ht 0; rw [eT] at this; simpa using this
            obtain rfl : yv = .bl b := r5
            refine ⟨by show V.bl b = V.bl (tr j); rw [t0], ?_, fun h => absurd (t0.symm.trans h) hne, fun _ => ⟨by omega, G4, _, s5, m15, hgo2, fun t => ?_⟩⟩
            · exact Nat.lt_of_le_of_lt (Nat.le_trans hj (Nat.le_trans hi hlen)) (by decide)
            · have := ht (t + 1)
              rw [eT] at this
              rw [show j + 1 + t = j + (t + 1) by omega, this]; simp
        · rw [if_neg Bool.false_ne_true]
          rcases qGo_cons hg with ⟨N, a, hgo2, eT⟩ | ⟨N, a, _⟩ | ⟨b, N, _, a, _⟩
          · rw [hstep] at a
            cases a
            exact ⟨by omega, G3, _, s4, m14, hgo2, fun t => by rw [ht t, eT]⟩
          · rw [hstep] at a; cases a
          · rw [hstep] at a; cases a
      · have e : i = xs.length := by omega
        subst e
        rw [List.drop_length] at hg
        cases hg
        exact .inl ⟨sv.stop G' H' _ m'.g s', G', _, s', m12.trans s2 m', efin⟩
    · obtain ⟨G', M', s', m', e⟩ := h (by simpa using ht)
      exact kk _ _ G' M' H' m' s' rep_bl (hQ _ _ e)
theorem ev_q_all {Q : D → Store → Prop} {E : Nat → Store → Prop} {p gpos : Pos} (Ng : List Str) (src : List (Option Nat)) (hcd : L.cd = some (P, none)) (hS : gscp L.N L.sc scope Ng src = true) (hp : PatOk (L.gen scope Ng k) tg pt) (hk : k + 5 ≤ L.n) (hm : L.g.mg "all" = none) (hg : Glo L "all")
    (hs : ∀ env x, genFold iter env x = pure x) (hsrc : SrcO L ρ M tg iter os) (T : LcTurn (L.gen scope Ng k) (wipeR (roG src ρ) pt.js) pt elt ifs oi oe)
    (n : qRun false pt (wipeR (roG src ρ) pt.js) os oi oe ≠ .bad) (hQ : ∀ d M', qRun false pt (wipeR (roG src ρ) pt.js) os oi oe = .ok d M' → Q d M') (hE : ∀ C M', qRun false pt (wipeR (roG src ρ) pt.js) os oi oe = .ex C M' → E C M') : Ev L ρ M (.Call (.Name "all" p) [.GeneratorExp elt [⟨tg, iter, ifs, 0⟩] scope gpos] [] pos) Q E := fun X ci B σ G H R f s kk kx => by
  obtain ⟨tgn, pg, rd⟩ := gq_read (pos := gpos) Ng src hcd hS hp (by omega) hs hsrc T n hQ hE ci
  obtain ⟨tr, Er, Qe, h1, h2, h3⟩ := rd B σ G H R f s kk kx
  refine wp_of (pe_G_all pg (ci.room.mono (by omega)) (ci.gl hg) (by rw [ci.mg]; exact hm) (by rfl) (by decide) (by rfl) (by rfl)) ⟨tr, Er, Qe, ?_, h2, h3⟩
  have e : (fun j => tr j != false) = tr := by funext j; cases tr j <;> rfl
  rw [e] at h1; exact h1
theorem ev_q_any {Q : D → Store → Prop} {E : Nat → Store → Prop} {p gpos : Pos} (Ng : List Str) (src : List (Option Nat)) (hcd : L.cd = some (P, none)) (hS : gscp L.N L.sc scope Ng src = true) (hp : PatOk (L.gen scope Ng k) tg pt) (hk : k + 5 ≤ L.n) (hm : L.g.mg "any" = none) (hg : Glo L "any")
    (hs : ∀ env x, genFold iter env x = pure x) (hsrc : SrcO L ρ M tg iter os) (T : LcTurn (L.gen scope Ng k) (wipeR (roG src ρ) pt.js) pt elt ifs oi oe)
    (n : qRun true pt (wipeR (roG src ρ) pt.js) os oi oe ≠ .bad) (hQ : ∀ d M', qRun true pt (wipeR (roG src ρ) pt.js) os oi oe = .ok d M' → Q d M') (hE : ∀ C M', qRun true pt (wipeR (roG src ρ) pt.js) os oi oe = .ex C M' → E C M') : Ev L ρ M (.Call (.Name "any" p) [.GeneratorExp elt [⟨tg, iter, ifs, 0⟩] scope gpos] [] pos) Q E := fun X ci B σ G H R f s kk kx => by
  obtain ⟨tgn, pg, rd⟩ := gq_read (pos := gpos) Ng src hcd hS hp (by omega) hs hsrc T n hQ hE ci
  obtain ⟨tr, Er, Qe, h1, h2, h3⟩ := rd B σ G H R f s kk kx
  refine wp_of (pe_G_any pg (ci.room.mono (by omega)) (ci.gl hg) (by rw [ci.mg]; exact hm) (by rfl) (by decide) (by rfl) (by rfl)) ⟨tr, Er, Qe, ?_, h2, h3⟩
  have e : (fun j => tr j != true) = (fun j => !tr j) := by funext j; cases tr j <;> rfl
  rw [e] at h1; exact h1
end
end PI
set_option Elab.async false
set_option linter.all false
set_option maxRecDepth 100000
set_option maxHeartbeats 4000000
/-! PHo: objects: attributes, methods, making. -/
namespace PI
open PySem PySem.Spec PyProof.Rows L2
/-! ### arguments without a star -/
def notStar : Expr → Bool
  | .Starred _ _ => false
  | _ => true
theorem star_of {a : Expr} (h : notStar a = true) (es : List Expr) (env : PySem.Env) : starEach (a :: es) env = (false, eval a env) :: starEach es env := by
  cases a <;> first | rfl | cases h
theorem star_any : ∀ {es : List Expr}, es.all notStar = true → ∀ (pos : Pos) (env : PySem.Env), (backTo pos (starEach es env)).any (·.1) = false
  | [], _, _, _ => rfl
  | a :: es, h, pos, env => by
    rw [List.all_cons, Bool.and_eq_true] at h
    rw [star_of h.1]
    show (false || (backTo pos (starEach es env)).any (·.1)) = false
    rw [star_any h.2, Bool.or_false]
/-! ### attributes -/
def Inj (an : Nat → Str) : Prop := ∀ i j, an i = an j → i = j
section
variable {g : Gx} {G : Gh} {H : Hp}
theorem look_at (hi : Inj g.an) : ∀ {ns : List Nat} {ds : List D} {vs : List V} {n : Nat} {d : D}, lookF ns ds n = some d → Reps g G ds vs → ∃ v, ((ns.map g.an).zip vs).lookup (g.an n) = some v ∧ Rep g G d v
  | [], ds, vs, n, d, h, r => by cases ds <;> cases h
  | m :: ns, [], vs, n, d, h, r => by cases h
  | m :: ns, e :: ds, vs, n, d, h, r => by
    obtain ⟨v, ws, rfl, h1, h2⟩ := r
    unfold lookF at h
    show ∃ u, List.lookup (g.an n) ((g.an m, v) :: (ns.map g.an).zip ws) = some u ∧ _
    split at h
    · rename_i e'
      cases h
      subst e'
      exact ⟨v, by simp, h1⟩
    · rename_i e'
      obtain ⟨u, hu, hr⟩ := look_at hi h h2
      have : (g.an n == g.an m) = false := beq_eq_false_iff_ne.mpr fun z => e' (hi _ _ z).symm
      exact ⟨u, by rw [List.lookup_cons, this]; exact hu, hr⟩
theorem look_none (hi : Inj g.an) {n : Nat} : ∀ {ns : List Nat} {vs : List V}, n ∉ ns → ((ns.map g.an).zip vs).lookup (g.an n) = none
  | [], vs, h => by simp
  | m :: ns, [], h => by simp
  | m :: ns, v :: vs, h => by
    show List.lookup (g.an n) ((g.an m, v) :: (ns.map g.an).zip vs) = none
    have : (g.an n == g.an m) = false := beq_eq_false_iff_ne.mpr fun z => h (by rw [hi _ _ z]; exact List.mem_cons_self)
    rw [List.lookup_cons, this]
    exact look_none hi fun z => h (List.mem_cons_of_mem _ z)
theorem put_at (hi : Inj g.an) {n : Nat} {d : D} {v : V} (rv : Rep g G d v) : ∀ {ns : List Nat} {ds : List D} {vs : List V}, ns.length = ds.length → Reps g G ds vs →
    ∃ vs', putF (g.an n) v ((ns.map g.an).zip vs) = (((putFn n d ns ds).1.map g.an).zip vs') ∧ (putFn n d ns ds).1.length = (putFn n d ns ds).2.length ∧ Reps g G (putFn n d ns ds).2 vs'
  | [], [], vs, hl, r => by
    have r : vs = [] := r
    subst r
    exact ⟨[v], rfl, rfl, .one rv⟩
  | m :: ns, e :: ds, vs, hl, r => by
    obtain ⟨u, ws, rfl, h1, h2⟩ := r
    show ∃ vs', putF (g.an n) v ((g.an m, u) :: (ns.map g.an).zip ws) = _ ∧ _
    unfold putFn putF
    by_cases e' : m = n
    · subst e'
      rw [if_pos rfl, if_pos rfl]
      exact ⟨v :: ws, rfl, by simpa using hl, .cons rv h2⟩
    · rw [if_neg e', if_neg (fun z => e' (hi _ _ z))]
      obtain ⟨vs', a1, a2, a3⟩ := put_at hi rv (ns := ns) (ds := ds) (vs := ws) (by simpa using hl) h2
      exact ⟨u :: vs', by rw [a1]; rfl, by simp [a2], .cons h1 a3⟩
  | [], _ :: _, _, hl, _ => by simp at hl
  | _ :: _, [], _, hl, _ => by simp at hl
theorem objOf_rd {M : Store} (s : Sta g G H M) {d : D} {cl : Nat} {ns : List Nat} {ds : List D} {v : V} (h : objOf M d = some (cl, ns, ds)) (r : Rep g G d v) : ∃ a dx vs, v = .ref a ∧ H a = some (.ins (g.ca cl) dx ((ns.map g.an).zip vs)) ∧ ns.length = ds.length ∧ Reps g G ds vs := by
  unfold objOf at h
  split at h
  · cases h
    obtain ⟨a, dx, vs, e, h1, h2, h3⟩ := r
    exact ⟨a, dx, vs, e, s.ex _ _ h1, h2, h3⟩
  · obtain ⟨a, e, hA⟩ := r
    split at h
    · cases h
      rename_i hm
      obtain ⟨a', e1, _, dx, vs, e2, e3, e4⟩ := s.at hm
      rw [hA] at e1; cases e1
      exact ⟨a, dx, vs, e, e2, e3, e4⟩
    · cases h
  · cases h
end
/-- where attributeBase is nothing -/
def baseB : Expr → Bool
  | .Call (.Name _ _) [] [] _ => false
  | _ => true
theorem base_of {o : Expr} (h : baseB o = true) (m : Str) (env : PySem.Env) (w : Sem Value) : attributeBase o m env w = w := by
  unfold attributeBase
  split
  · cases h
  · rfl
section
variable {L : Lx} {ρ : Ro} {M : Store} {Q : D → Store → Prop} {E : Nat → Store → Prop} {a b e : Expr} {pos apos p : Pos} {n : Nat}
/-- a class's facts for a field -/
structure FldOk (g : Gx) (cl n : Nat) : Prop where
  cls : Cls g.K (g.ca cl)
  na : NoAttr g.K (g.ca cl) (g.an n)
theorem ev_attr (hi : Inj L.g.an) (hb : baseB a = true) (h : Ev L ρ M a (fun d M1 => ∃ cl ns ds z, objOf M1 d = some (cl, ns, ds) ∧ FldOk L.g cl n ∧ lookF ns ds n = some z ∧ Q z M1) E) : Ev L ρ M (.Attribute a (L.g.an n) pos) Q E := fun X ci B σ G H R f s k x =>
  wp_of (pe_fld pe_wp (base_of hb _ _ _)) (h X ci B σ G H _ f s (fun v d G1 M1 H1 m1 s1 r1 ⟨cl, ns, ds, z, ho, fo, hz, q⟩ => by
    obtain ⟨q', dx, vs, rfl, h1, h2, h3⟩ := objOf_rd s1 ho r1
    obtain ⟨u, hu, hr⟩ := look_at hi hz h3
    exact ⟨q', _, dx, _, u, rfl, h1, by rw [ci.K]; exact fo.cls, by rw [ci.K]; exact fo.na, hu, k u z G1 M1 H1 m1 s1 hr q⟩) x)
/-- self.x in the making of an object -/
theorem ev_attrO {i : Nat} {x : Str} {cl : Nat} {ns : List Nat} {ds : List D} {z : D} (hi : Inj L.g.an) (hN : L.N[i]? = some x) (hv : Vis L.sc x) (hx : (x == ("__debug__" : Str)) = false) (hcd : (x == ("__classdict__" : Str)) = false) (hρ : ρ[i]? = some (.ob cl ns ds)) (fo : FldOk L.g cl n) (hz : lookF ns ds n = some z) (q : Q z M) : Ev L ρ M (.Attribute (.Name x p) (L.g.an n) pos) Q E := fun X ci B σ G H R f s k kx => by
  refine wp_of (pe_fld (pe_var (X := X) (i := i) (by rw [ci.N]; exact hN) (ci.vis hv) hx hcd) (base_of rfl _ _ _)) ?_
  obtain ⟨a, ea, ow, ⟨dx, vs, h1, h2, h3⟩, _⟩ := f.at_ i _ hρ
  obtain ⟨u, hu, hr⟩ := look_at hi hz h3
  exact ⟨.ref a, ea, a, _, dx, _, u, rfl, h1, by rw [ci.K]; exact fo.cls, by rw [ci.K]; exact fo.na, hu, k u z G M H (.refl ..) s hr q⟩
def notCompA : Expr → Bool
  | .ListComp _ _ _ _ => false
  | .SetComp _ _ _ _ => false
  | .DictComp _ _ _ _ _ => false
  | _ => true
theorem swA_of {o : Expr} {f : Str} {p : Pos} {e : Expr} {l : Nat} (env : PySem.Env) : swapsWith e (some (.Attribute o f p)) l env = pure false := by
  cases e <;> rfl
/-- self.x = e in the making of an object -/
theorem stm_attrO {P : Post} {i : Nat} {x : Str} {np ap : Pos} (hi : Inj L.g.an) (hN : L.N[i]? = some x) (hv : Vis L.sc x) (hx : (x == ("__debug__" : Str)) = false) (hcd : (x == ("__classdict__" : Str)) = false)
    (h : Ev L ρ M e (fun d M1 => ∃ cl ns ds, ρ[i]? = some (.ob cl ns ds) ∧ FldOk L.g cl n ∧ ns.length < 900 ∧ P.nx (ρ.set i (.ob cl (putFn n d ns ds).1 (putFn n d ns ds).2)) M1) (fun C M' => P.ex C ρ M')) : Stm L ρ M (.Assign [.Attribute (.Name x np) (L.g.an n) ap] e pos) P := fun X ci B σ G H Dn f mb s k => by
  refine wpS_of (ps_fld (X := X) (pe_var (X := X) (i := i) (by rw [ci.N]; exact hN) (ci.vis hv) hx hcd) pe_wp (swA_of X.env)) ?_
  refine h X ci B σ G H _ f s (fun v d G1 M1 H1 m1 s1 r1 ⟨cl, ns, ds, hρ, fo, hz, q⟩ => ?_) (k.xe f mb s)
  have f1 := f.move m1
  obtain ⟨a, ea, ow, ⟨dx, vs, h1, h2, h3⟩, hs⟩ := f1.at_ i _ hρ
  obtain ⟨vs', e1, e2, e3⟩ := put_at hi r1 h2 h3
  refine ⟨.ref a, ea, a, _, dx, _, rfl, h1, by rw [ci.K]; exact fo.cls, by rw [ci.K]; exact fo.na, ?_, ?_⟩
  · rw [List.length_zip, List.length_map]; omega
  · rw [e1]
    obtain ⟨s3, m3⟩ := s1.putOwn (o := .ins (L.g.ca cl) dx (((putFn n d ns ds).1.map L.g.an).zip vs')) ow h1 (fun ps z => by cases z) (mb.trans s m1)
    exact k.nx σ _ G1 M1 _ m1.g (f1.putOw (s' := .ob cl (putFn n d ns ds).1 (putFn n d ns ds).2) hρ rfl ea rfl fun _ => ⟨⟨dx, vs', upd_same, e2, e3⟩, hs⟩) m3 s3 q
/-- o.x = e, o a thing of the store -/
theorem stm_attrS {P : Post} {ap : Pos} (hi : Inj L.g.an)
    (h : Ev L ρ M e (fun d M1 => Ev L ρ M1 a (fun o M2 => ∃ k cl ns ds, o = .ref k ∧ M2[k]? = some (.ins cl ns ds) ∧ FldOk L.g cl n ∧ ns.length < 900 ∧ P.nx ρ (M2.set k (.ins cl (putFn n d ns ds).1 (putFn n d ns ds).2))) (fun C M' => P.ex C ρ M')) (fun C M' => P.ex C ρ M')) : Stm L ρ M (.Assign [.Attribute a (L.g.an n) ap] e pos) P := fun X ci B σ G H Dn f mb s k => by
  refine wpS_of (ps_fld (X := X) pe_wp pe_wp (swA_of X.env)) ?_
  have kx := k.xe f mb s
  refine h X ci B σ G H _ f s (fun v d G1 M1 H1 m1 s1 r1 q1 => ?_) kx
  refine q1 X ci B σ G1 H1 _ (f.move m1) s1 (fun o dO G2 M2 H2 m2 s2 r2 ⟨kk, cl, ns, ds, eo, hm, fo, hz, q⟩ => ?_) (kx.move s1 m1)
  subst eo
  obtain ⟨adr, rfl, hA⟩ := r2
  obtain ⟨adr', hA', _, dx, vs, h1, h2, h3⟩ := s2.at hm
  rw [hA] at hA'; cases hA'
  obtain ⟨vs', e1, e2, e3⟩ := put_at hi (r1.mono m2.g) h2 h3
  refine ⟨adr, _, dx, _, rfl, h1, by rw [ci.K]; exact fo.cls, by rw [ci.K]; exact fo.na, ?_, ?_⟩
  · rw [List.length_zip, List.length_map]; omega
  · rw [e1]
    obtain ⟨s3, m3⟩ := s2.put (m' := .ins cl (putFn n d ns ds).1 (putFn n d ns ds).2) (o := .ins (L.g.ca cl) dx (((putFn n d ns ds).1.map L.g.an).zip vs')) hm hA (fun ps z => by cases z) fun H' e => ⟨dx, vs', e, e2, e3⟩
    have m13 := (m1.trans s1 m2).trans s2 m3
    exact k.nx σ ρ _ _ _ m13.g (f.move m13) (mb.trans s m13) s3 q
/-! ### methods -/
structure MethOk (g : Gx) (cl n : Nat) (k : Nat) (fn : List D → Store → Out D) : Prop where
  cls : Cls g.K (g.ca cl)
  ex : ∃ f fd ps, Meth g.K (g.ca cl) (g.an n) f ∧ Binds g.K fd ps [] ∧ FnOk g.P g.w g.K g.mg g.base (L2.CX g.P g.w) k f fd ps (spO g fn)
theorem mtree {o : Expr} {m : Str} {es : List Expr} {env : PySem.Env} (hb : baseB o = true) (hp : (apos.endLine == pos.line) = true) (hf : methodCallForm (es.length + ([] : List Keyword).length) (backTo pos (starEach es env)) (backToKw pos (keywordEach [] env)) = true) :
    eval (.Call (.Attribute o m apos) es [] pos) env = (do
      let ov ← eval o env
      standAt apos.atName
      let (f, first) ← holding [ov] (getMethod ov m (plainOf o env))
      callWith pos f first (backTo pos (starEach es env)) (backToKw pos (keywordEach [] env))) :=
  mcall_of (base_of hb _ _ _) fun ov => mcall_line hf hp
theorem form_of {es : List Expr} {env : PySem.Env} (h : es.all notStar = true) (hl : es.length < 30) : methodCallForm (es.length + ([] : List Keyword).length) (backTo pos (starEach es env)) (backToKw pos (keywordEach [] env)) = true := by
  have h1 : (backTo pos (starEach es env)).all (fun x => !x.1) = true := by
    rw [List.all_eq_true]
    intro x hx
    cases q : x.1 with
    | false => rfl
    | true =>
      have := star_any h pos env
      rw [List.any_eq_false] at this
      exact absurd q (this x hx)
  have h2 : (backToKw pos (keywordEach [] env)) = [] := rfl
  unfold methodCallForm
  rw [h1, h2]
  simpa using hl
/-- what a call of a def needs, and what it hands on -/
def CallQ (fn : List D → Store → Out D) (ds : List D) (M : Store) (Q : D → Store → Prop) (E : Nat → Store → Prop) : Prop := fn ds M ≠ .bad ∧ (∀ d M', fn ds M = .ok d M' → Q d M') ∧ ∀ C M', fn ds M = .ex C M' → E C M'
/-- the arguments of a call, told -/
def ArgsQ (L : Lx) (ρ : Ro) (M : Store) (es : List Expr) (Q : List D → Store → Prop) (E : Nat → Store → Prop) : Prop := match es with
  | [] => Q [] M
  | e :: es => EvA L ρ M (e :: es) Q E
theorem ev_meth {es : List Expr} (hi : Inj L.g.an) (hb : baseB a = true) (hp : (apos.endLine == pos.line) = true) (hst : es.all notStar = true) (hl : es.length < 30)
    (h : Ev L ρ M a (fun d M1 => ∃ cl ns ds k fn, objOf M1 d = some (cl, ns, ds) ∧ n ∉ ns ∧ MethOk L.g cl n k fn ∧ k ≤ L.n ∧ ArgsQ L ρ M1 es (fun args M2 => CallQ fn (d :: args) M2 Q E) E) E) : Ev L ρ M (.Call (.Attribute a (L.g.an n) apos) es [] pos) Q E := fun X ci B σ G H R f s kk kx pins st I => by
  refine methcall_of (pl := plainOf a X.env) pe_wp I (h X ci B σ G H _ f s (fun v d G1 M1 H1 m1 s1 r1 ⟨cl, ns, ds, k, fn, ho, hn, mo, hk, q⟩ => ?_) kx) (mtree hb hp (form_of hst hl))
  obtain ⟨q', dx, vs, rfl, h1, h2, h3⟩ := objOf_rd s1 ho r1
  obtain ⟨ff, fd, ps, hme, hbi, F⟩ := mo.ex
  have F' : FnOk X.prog X.w X.K X.mg X.base (L2.CX X.prog X.w) k ff fd ps (spO L.g fn) := by rw [ci.prog, ci.w, ci.K, ci.mg, ci.base]; exact F
  refine ⟨q', _, dx, _, ff, rfl, h1, by rw [ci.K]; exact mo.cls, by rw [ci.K]; exact hme, look_none hi hn, fun st1 I1 => ?_⟩
  have fin : ∀ {us : List Value} {vs : List V} {ds : List D} {G2 : Gh} {H2 : Hp} {M2 : Store} {st2 : Shared}, Mv G1 H1 G2 H2 → Sta L.g G2 H2 M2 → Inv X pins σ H2 st2 → Vals vs us → Reps L.g G2 ds vs → CallQ fn (d :: ds) M2 Q E → wpAny (model X.prog X.w) X.A (call (.ref ff) (.ref q' :: us)) (EP X pins σ R) X.xe st2 := fun m2 s2 I2 rv r2 q2 => by
    have m12 := m1.trans s1 m2
    refine run_fnS (vs := .ref q' :: _) F' (ci.room.mono hk) (by rw [ci.K]; exact hbi) (passAt (takesT X) σ) I2 (.cons rfl rv) ?_
    exact ⟨_, _, _, s2, .cons (r1.mono m2.g) r2, q2.1, fun v d G' M' H' m' s' r' e => (kk.move s2 m12) v d G' M' H' m' s' r' (q2.2.1 d M' e), fun C G' M' H' m' s' e => ⟨_, rfl, rfl, kx C G' M' H' (m12.trans s2 m') s' (q2.2.2 C M' e)⟩⟩
  cases es with
  | nil =>
    have q : CallQ fn [d] M1 Q E := q
    exact PySem.W.callWith_K0 (first := [.ref q']) I1.kIn (by rw [ci.K]; exact hme.kp) (fin (us := []) (.refl ..) s1 I1 .nil Reps.nil q)
  | cons e es =>
    have hq := q X ci B σ G1 H1 (fun vs H2 => ∃ G2 M2 ds, Mv G1 H1 G2 H2 ∧ Sta L.g G2 H2 M2 ∧ Reps L.g G2 ds vs ∧ CallQ fn (d :: ds) M2 Q E) (f.move m1) s1 (fun vs ds G2 M2 H2 m2 s2 r2 q2 => ⟨G2, M2, ds, m2, s2, r2, q2⟩) (kx.move s1 m1)
    have hst' : notStar e = true ∧ es.all notStar = true := by rw [List.all_cons, Bool.and_eq_true] at hst; exact hst
    refine PySem.W.callWith_K (first := [.ref q']) (h₀ := X.base) I1.ok.mod.kin (by rw [ci.K]; exact hme.kp) (thn (pa_wp.run pos pins st1 σ H1 _ I1 hq) fun us s2 ⟨vs, H2, I2, r, G2, M2, ds, m2, s2', r2, q2⟩ => ⟨I2.kIn, ?_⟩) (star_of hst'.1 es X.env) (star_any hst'.2 pos X.env)
    exact fin m2 s2' I2 r r2 q2
end
end PI
set_option Elab.async false
set_option linter.all false
set_option maxRecDepth 100000
set_option maxHeartbeats 4000000
/-! PHm: objects are made. -/
namespace PI
open PySem PySem.Spec PyProof.Rows L2
theorem mkS_run {X : Cx} {pins : List (Addr × Obj)} {σ : L2.St} {H : Hp} {st : Shared} {Q : VK} {us : List Value} {vs : List V} {C f : Addr} {fd : FuncData} {ps : List Str} {sp : Sp} {k : Nat} {E : L2.St → XK}
    (M : Mk X.K C f) (F : FnOk X.prog X.w X.K X.mg X.base (L2.CX X.prog X.w) k f fd ps sp) (hr : Room (k + 1) X.A) (hb : Binds X.K fd ps []) (hx : PassesAt (L2.CX X.prog X.w) X σ (E σ)) (I : Inv X pins σ H st) (r : Vals vs us)
    (h : ∀ x dx, H x = none → H dx = none → dx ≠ x → sp (.ref x :: vs) (upd (upd H dx (.own x)) x (.ins C dx [])) (fun v H2 => v = .non ∧ Q (.ref x) H2) (E σ)) : wpAny (model X.prog X.w) X.A (call (.ref C) us) (EP X pins σ Q) X.xe st := by
  generalize hz : st.heap.objs.size = z
  have J := Inv.made (C := C) I
  rw [hz] at J
  have n0 : H z = none := I.hok.fresh (by rw [hz]; exact Nat.le_refl _)
  have n1 : H (z + 1) = none := I.hok.fresh (by rw [hz]; exact Nat.le_succ _)
  have q := h (z + 1) z n1 n0 (Nat.ne_of_lt (Nat.lt_succ_self _))
  have rr : Vals (V.ref (z + 1) :: vs) (Value.ref (z + 1) :: us) := .cons rfl r
  have len : (Value.ref (z + 1) :: us).length = ps.length := by rw [← rr.length]; exact F.len _ _ _ _ q
  have bb := hb _ (Value.ref (z + 1) :: us) J.kIn (by rw [List.append_nil]; exact len)
  rw [List.append_nil] at bb
  have go := F.run _ X.stack _ _ ⟨Value.ref (z + 1) :: us, []⟩ _ _ _ _ (hr.make C us []) (J.env0.make C us []) bb rr q
  refine wpAny_call (make_map (f := f) I.kIn M.makes M.init (beq_iff_eq.mp M.fn) ?_)
  rw [hz]
  refine codeAny_mono go fun o s' ho => ?_
  cases o with
  | error e => exact hx pins _ _ e s' J ho
  | ok fl =>
    cases fl with
    | ret u =>
      obtain ⟨v, H', J2, rv, ev, q3⟩ := J.after ho
      cases ev
      exact ⟨rv, V.ref (z + 1), H', J2, rfl, q3⟩
    | next => cases ho
    | brk => cases ho
    | cont => cases ho
/-- what an object's making tells -/
def spI (g : Gx) (cl : Nat) (fn : List D → Store → Out D) : Sp := fun vs H Q E => ∃ G M H1 x dx ws ds, vs = .ref x :: ws ∧ H1 x = none ∧ Sta g G H M ∧ Mv G H1 G H ∧ G.h x = none ∧ x ∉ G.A ∧ H x = some (.ins (g.ca cl) dx []) ∧ Reps g G ds ws ∧ fn ds M ≠ .bad ∧
  (∀ cl' ns es G' M' H', Mv G H1 G' H' → Sta g G' H' M' → Ow ⟨G, H1, some x⟩ G' x → MOk g G' H' x (.ins cl' ns es) → fn ds M = .ok (.obj cl' ns es) M' → Q .non H') ∧
  (∀ C G' M' H', Mv G H1 G' H' → Sta g G' H' M' → fn ds M = .ex C M' → E (.ref (g.ca C)) none H')
/-- the module's name x holds a class that makes what fn tells -/
structure MkO (g : Gx) (x : Str) (n : Nat) (fn : List D → Store → Out D) : Prop where
  ex : ∃ cl f, g.mg x = some (.ref (g.ca cl)) ∧ Mk g.K (g.ca cl) f ∧ ((∀ ds M, fn ds M = .bad) ∨ ∃ fd ps k, k + 1 ≤ n ∧ Binds g.K fd ps [] ∧ FnOk g.P g.w g.K g.mg g.base (L2.CX g.P g.w) k f fd ps (spI g cl fn))
/-- an object's data, made known; an object of the store -/
def mkQ (mu : Bool) (fn : List D → Store → Out D) (ds : List D) (M : Store) (Q : D → Store → Prop) (E : Nat → Store → Prop) : Prop := fn ds M ≠ .bad ∧ (∀ cl ns es M', fn ds M = .ok (.obj cl ns es) M' → if mu = true then Q (.ref M'.length) (M' ++ [.ins cl ns es]) else Q (.obj cl ns es) M') ∧ ∀ C M', fn ds M = .ex C M' → E C M'
section
variable {L : Lx} {ρ : Ro} {M : Store} {Q : D → Store → Prop} {E : Nat → Store → Prop} {a b e : Expr} {pos apos p : Pos} {n : Nat}
theorem ev_make {x : Str} {k : Nat} {fn : List D → Store → Out D} {es : List Expr} {mu : Bool} (F : MkO L.g x k fn) (hk : k ≤ L.n) (hg : L.sc.names.lookup x = some .globalImplicit) (hst : es.all notStar = true)
    (h : ArgsQ L ρ M es (fun ds M1 => mkQ mu fn ds M1 Q E) E) (hdb : (x == ("__debug__" : Str)) = false) : Ev L ρ M (.Call (.Name x p) es [] pos) Q E := fun X ci B σ G H R f s kk kx pins st I => by
  obtain ⟨cl, ff, hm, mk, alt⟩ := F.ex
  have fin : ∀ {us : List Value} {vs : List V} {ds : List D} {G2 : Gh} {H2 : Hp} {M2 : Store} {st2 : Shared}, Mv G H G2 H2 → Sta L.g G2 H2 M2 → Inv X pins σ H2 st2 → Vals vs us → Reps L.g G2 ds vs → mkQ mu fn ds M2 Q E → wpAny (model X.prog X.w) X.A (call (.ref (L.g.ca cl)) us) (EP X pins σ R) X.xe st2 := by
    intro us vs ds G2 H2 M2 st2 m2 s2 I2 rv r2 q2
    rcases alt with hbad | ⟨fd, ps, k', hk', hb, F⟩
    · exact absurd (hbad _ _) q2.1
    have F' : FnOk X.prog X.w X.K X.mg X.base (L2.CX X.prog X.w) k' ff fd ps (spI L.g cl fn) := by rw [ci.prog, ci.w, ci.K, ci.mg, ci.base]; exact F
    refine mkS_run (by rw [ci.K]; exact mk) F' (ci.room.mono (Nat.le_trans hk' hk)) (by rw [ci.K]; exact hb) (passAt (takesT X) σ) I2 rv fun x dx nx nd hne => ?_
    obtain ⟨s3, m3⟩ := s2.newU (o := .own x) nd
    have nx' : upd H2 dx (.own x) x = none := by rw [upd_ne (Ne.symm hne)]; exact nx
    obtain ⟨s4, m4⟩ := s3.newU (o := .ins (L.g.ca cl) dx []) nx'
    have m24 := m3.trans s3 m4
    refine ⟨G2, M2, H2, x, dx, vs, ds, rfl, nx, s4, m24, s2.free nx, s2.notin nx, upd_same, r2, q2.1, fun cl' ns es G' M' H' m' s' ow mo e => ⟨rfl, ?_⟩, fun C G' M' H' m' s' e => ⟨_, rfl, rfl, kx C G' M' H' (m2.trans s2 m') s' (q2.2.2 C M' e)⟩⟩
    have q3 := q2.2.1 cl' ns es M' e
    cases mu with
    | true =>
      have q3 : Q (.ref M'.length) (M' ++ [.ins cl' ns es]) := q3
      have s5 := s'.join ow.g ow.A mo
      have m5 := m'.join nx
      refine kk (.ref x) (.ref M'.length) _ _ _ (m2.trans s2 m5) s5 ⟨x, rfl, ?_⟩ q3
      show (G'.A ++ [x])[M'.length]? = some x
      rw [← s'.len]
      simp
    | false =>
      have q3 : Q (.obj cl' ns es) M' := q3
      obtain ⟨dx', vs', h1, h2, h3⟩ := mo
      obtain ⟨s5, m5, l5⟩ := s'.freeze (B := ⟨G2, H2, none⟩) ⟨ow.b, ow.g, ow.A⟩ h1 (fun ps z => by cases z) m'
      exact kk (.ref x) (.obj cl' ns es) _ _ _ (m2.trans s2 m5) s5 ⟨x, dx', vs', rfl, upd_same, h2, h3.mono l5⟩ q3
  cases es with
  | nil =>
    have h : mkQ mu fn [] M Q E := h
    refine wpAny_Call_Name_kw (ld_glob I (ci.gl hg) (by rw [ci.mg]; exact hm) ?_ hdb)
    exact PySem.W.callWith_K0 I.kIn (by rw [ci.K]; exact mk.kp) (fin (us := []) (.refl ..) s I .nil Reps.nil h)
  | cons e es =>
    have hst' : notStar e = true ∧ es.all notStar = true := by rw [List.all_cons, Bool.and_eq_true] at hst; exact hst
    refine wpAny_Call_Name_kw (ld_glob I (ci.gl hg) (by rw [ci.mg]; exact hm) ?_ hdb)
    have hq := h X ci B σ G H (fun vs H2 => ∃ G2 M2 ds, Mv G H G2 H2 ∧ Sta L.g G2 H2 M2 ∧ Reps L.g G2 ds vs ∧ mkQ mu fn ds M2 Q E) f s (fun vs ds G2 M2 H2 m2 s2 r2 q2 => ⟨G2, M2, ds, m2, s2, r2, q2⟩) kx
    refine PySem.W.callWith_K (h₀ := X.base) I.ok.mod.kin (by rw [ci.K]; exact mk.kp) (thn (pa_wp.run pos pins st σ H _ I hq) fun us s2 ⟨vs, H2, I2, r, G2, M2, ds, m2, s2', r2, q2⟩ => ⟨I2.kIn, ?_⟩) (star_of hst'.1 es X.env) (star_any hst'.2 pos X.env)
    exact fin m2 s2' I2 r r2 q2
end
end PI
set_option Elab.async false
set_option linter.all false
set_option maxRecDepth 100000
set_option maxHeartbeats 4000000
/-! PLa: lambdas that capture names: made, and called by a def that got them. -/
namespace PI
open PySem PySem.Spec PyProof.Rows L2
/-- the frame's cells, and what they hold -/
structure Capt (X : Cx) (σ : L2.St) (H : Hp) (h : Heap) : Prop where
  len : σ.length = X.N.length
  free : ∀ x c, X.env.cells.lookup x = some c → H c = none
  cell : ∀ x c, X.env.cells.lookup x = some c → ∃ v, h.IsCell c v
  val : ∀ (i : Nat) (x : Str) (v : V), X.N[i]? = some x → σ[i]? = some (some v) → (X.env.scope.names.lookup x = some .cell ∨ X.env.scope.names.lookup x = some .free) → ∃ u c, RelV v u ∧ X.env.cells.lookup x = some c ∧ h.IsCell c (some u)
section
variable {X : Cx} {pins : List (Addr × Obj)} {σ : L2.St} {H H' : Hp} {s : Shared} {h h' : Heap}
theorem capt_of (I : Inv X pins σ H s) : Capt X σ H s.heap := by
  refine ⟨I.len, I.freeC, I.cell, fun i x v e1 e2 hk => ?_⟩
  obtain ⟨m, _, hl⟩ := I.loc
  obtain ⟨u, r, q⟩ := hl i x v e1 e2 (hk.elim (fun k => .inr (.inl k)) fun k => .inr (.inr k))
  rcases q with ⟨kl, _⟩ | ⟨_, c, e, z⟩
  · have kl : X.env.scope.names.lookup x = some .local := kl
    rcases hk with k | k <;> rw [kl] at k <;> cases k
  · exact ⟨u, c, r, e, z⟩
theorem Capt.un {fs ex : List Addr} (C : Capt X σ H h) (u : Un fs ex H H' h h') (hx : ∀ x c, X.env.cells.lookup x = some c → c ∉ ex) : Capt X σ H' h' := by
  have kp : ∀ {x : Str} {c : Addr} {v : Option Value}, X.env.cells.lookup x = some c → h.IsCell c v → h'.IsCell c v := fun {x c v} e ⟨o, ho, hd⟩ => by
    obtain ⟨sl, q⟩ := u.any ho (C.free x c e) (hx x c e)
    exact ⟨_, q, hd⟩
  refine ⟨C.len, fun x c e => ?_, fun x c e => ?_, fun i x v e1 e2 hk => ?_⟩
  · obtain ⟨v, o, ho, hd⟩ := C.cell x c e
    exact u.free c o ho (C.free x c e) (hx x c e)
  · obtain ⟨v, z⟩ := C.cell x c e
    exact ⟨v, kp e z⟩
  · obtain ⟨w, c, r, e, z⟩ := C.val i x v e1 e2 hk
    exact ⟨w, c, r, e, kp e z⟩
theorem Capt.kept (C : Capt X σ H h) (k : ∀ b o, h.get? b = some o → h'.get? b = some o) : Capt X σ H h' :=
  C.un (fs := []) (ex := []) (Un.kept k) fun _ _ _ => by simp
end
/-- a lambda's names: captured ones and globals -/
theorem clo_look {X : Cx} {scope : Scope} (L : LamX.LamS X.env.scope scope) (ok : X.Ok) {y : Str} {c : Addr} (e : (cloFrom X.env.cells scope.names []).lookup y = some c) : X.env.cells.lookup y = some c := by
  rcases cloFrom_mem (PySem.mem_of_lookup e) with z | ⟨h1, h2⟩
  · cases z
  · obtain ⟨c1, hc⟩ := L.has ok _ h1 rfl
    have hc : X.env.cells.lookup y = some c1 := hc
    rw [hc] at h2
    rw [hc, h2]; rfl
theorem clo_has {X : Cx} {scope : Scope} {y : Str} (hl : scope.names.lookup y = some .free) : ∃ c, (cloFrom X.env.cells scope.names []).lookup y = some c :=
  mem_lookup (cloFrom_has (cells := X.env.cells) (acc := []) (PySem.mem_of_lookup hl))
section
variable {X Y : Cx} {pins : List (Addr × Obj)} {σ : L2.St} {H HZ : Hp} {s s1 : Shared}
/-- the lambda's frame at its start -/
theorem lam_start3 {A : Around} {outer : List PySem.Env} {E : XK} {scope : Scope} {f c' : Addr} {h₁ : Heap} {tk : Nat} (ok : X.Ok) (C : Capt X σ HZ s1.heap) (L : LamX.LamS X.env.scope scope) (e0 : Env0 X.prog X.w X.K X.mg X.base A outer s1 HZ) (hd : A.handled = none)
    (hns : h₁.Ns s1.heap.objs.size fun y => ([] : List (Str × Value)).reverse.lookup y) (kp : ∀ b o, s1.heap.get? b = some o → h₁.get? b = some o) :
    Inv (LamX.lamCx X A outer s1 HZ E scope f c') [] σ HZ { s1 with heap := h₁, toks := tk } := by
  have C1 := C.kept kp
  have noA : ∀ b : Addr, b ∉ (LamX.lamCx X A outer s1 HZ E scope f c').ex := fun b z => absurd (show b ∈ ([] : List Addr) from z) (by simp)
  have lk : ∀ {y : Str} {c : Addr}, (LamX.lamCx X A outer s1 HZ E scope f c').env.cells.lookup y = some c → X.env.cells.lookup y = some c := fun e => clo_look L ok e
  have own : ∀ {y : Str}, scope.names.lookup y = some .local ∨ scope.names.lookup y = some .cell → False := fun hy => by
    rcases hy with hy | hy
    · exact (L.own _ (PySem.mem_of_lookup hy)).1 rfl
    · exact (L.own _ (PySem.mem_of_lookup hy)).2 rfl
  have okL : (LamX.lamCx X A outer s1 HZ E scope f c').Ok := {
    mod := e0.mod
    kind := L.kind
    glob := rfl
    blt := rfl
    above := Nat.le_refl _
    inj := fun y z c e1 e2 => ok.inj y z c (lk e1) (lk e2)
    has := fun y hy => by
      have hy : scope.names.lookup y = some .cell ∨ scope.names.lookup y = some .free := hy
      rcases hy with hy | hy
      · exact (own (.inr hy)).elim
      · exact clo_has hy
    cab := fun y c z _ => by cases (show false = true from z)
    hd := fun _ => hd
    frames := Around.frames_deeper e0.frames
    stk := .inr ⟨rfl, rfl⟩
    exf := fun b z => absurd z (noA b)
    bs := e0.bs
    bsz := e0.bsz
    noex := fun b _ _ => noA b
    exfs := fun b z => absurd z (noA b)
    funs := e0.funs
    frf := e0.frf }
  exact {
    ok := okL
    os := rfl
    bare := e0.bare
    base := Un.kept kp
    loc := ⟨_, hns, fun i y v e1 e2 e3 => by
      have e3 : Vis scope y := e3
      rcases e3 with k | k | k
      · exact (own (.inl k)).elim
      · exact (own (.inr k)).elim
      · obtain ⟨u, c, r, e, z⟩ := C1.val i y v e1 e2 (L.free _ (PySem.mem_of_lookup k) rfl)
        obtain ⟨c2, h2⟩ := clo_has (X := X) k
        have e2' := clo_look L ok h2
        rw [e] at e2'
        cases e2'
        exact ⟨u, r, .inr ⟨.inr k, c, h2, z⟩⟩⟩
    cell := fun y c e => C1.cell y c (lk e)
    free := e0.hok.fresh (Nat.le_refl _)
    freeC := fun y c e => C1.free y c (lk e)
    pin := fun q hq => absurd (show q ∈ ([] : List (Addr × Obj)) ++ [] from hq) (by simp)
    hok := e0.hok.kept kp
    len := C.len }
/-- a call of x in the def told's body (Z): x holds the lambda at f, made by X's frame -/
theorem act {l : LamD} {CXg : CXT} {Eg : XK} {Ng : List Str} {qg : Str} {sg : Scope} {g f c' : Addr} {cdg pm ctv : Value} {k i : Nat} {a : Str} {pn : List (Addr × Obj)} {xe : Value → Shared → Prop} {W : WX} {E : XK} {A0 : Around} {st0 : List PySem.Env} {p1 p2 : Pos}
    (ok : X.Ok) (C : Capt X σ H s.heap) (L : LamX.LamS X.env.scope l.scope)
    (hbind : bindArgs (PySem.W.kla_fn "<lambda>" (lamQ X) l.params l.body l.scope (cloFrom X.env.cells l.scope.names []) pm (.ref c') ctv) ⟨[], []⟩ = pure [])
    (tk : Takes ((cxOf CXg X.prog X.w X.K X.mg X.base Ng qg sg g cdg A0 st0 s H Eg).tr pn xe) W) (hW : ∀ cls d σ' H', E cls d H' → W cls d σ' H') (hr : Room (k + 1) (A0.deeper (envOfC qg sg s.heap.objs.size g cdg)))
    (hN : Ng[i]? = some a) (hv : Vis sg a) (hd : (a == ("__debug__" : Str)) = false) (hcd : (a == ("__classdict__" : Str)) = false) :
    PE ((cxOf CXg X.prog X.w X.K X.mg X.base Ng qg sg g cdg A0 st0 s H Eg).tr pn xe) (.Call (.Name a p1) [] [] p2)
      (fun σZ HZ Q => σZ[i]? = some (some (.ref f)) ∧ HZ c' = some (LamX.CodeO c' (lamQ X)) ∧ HZ f = some (ThatO f (lamO X l pm c' ctv)) ∧
        ∀ (A : Around) (outer : List PySem.Env) (s' : Shared), Room k (A.deeper (LamX.lamEnv X l.scope s'.heap.objs.size f c')) → Wp (LamX.lamCx X A outer s' HZ E l.scope f c') l.body σ HZ Q) := by
  refine ⟨fun pinsZ sZ σZ HZ Q IZ ⟨hs, hc, hf, ht⟩ => ?_⟩
  refine wpAny_Call_Name_kw (thn ((pe_var (pos := p1) (i := i) hN hv hd hcd).run pinsZ sZ σZ HZ (fun v H1 => v = .ref f ∧ H1 = HZ) IZ ⟨.ref f, hs, rfl, rfl⟩) fun u s1 ⟨v, H1, I1, r1, ev, eH⟩ => ?_)
  subst ev
  rw [eH] at I1
  obtain rfl : u = Value.ref f := r1
  have of1 : s1.heap.get? f = some (lamO X l pm c' ctv) := (I1.hok f _ hf).1
  obtain ⟨⟨oc, vs, t, hoc, hdc, hvc⟩, _, _⟩ := I1.hok c' _ hc
  have un : Un (frs st0) [] H HZ s.heap s1.heap := I1.base
  have C1 : Capt X σ HZ s1.heap := C.un un fun _ _ _ => by simp
  refine PySem.W.callWith_F0 ⟨_, _, _, _, of1⟩ ?_
  have rc : codeAny (model X.prog X.w) (A0.deeper (envOfC qg sg s.heap.objs.size g cdg)) (.call (.ref f) ⟨[], []⟩) (CR (L2.CX X.prog X.w) (envOfC qg sg s.heap.objs.size g cdg :: st0) X.prog X.w HZ s1 Q E) s1 := by
    refine PySem.W.kla_callFunE hr.depth of1 rfl L.co L.gen rfl ⟨c', oc, vs, t, rfl, hoc, hdc, hvc⟩ ?_
    rw [hbind]
    refine wpAny_pure (wpAny_newFunctionEnv (fun y hy => (L.own y hy).2) (fun y hy => absurd hy (by simp)) (fun h₁ hns hsb => ⟨I1.nolimit.fresh _ hsb, ?_⟩) L.kind)
    show codeAny _ _ (.expr l.body (LamX.lamEnv X l.scope s1.heap.objs.size f c')) _ _
    have J := lam_start3 (X := X) (f := f) (c' := c') (E := E) (h₁ := h₁) (tk := s1.toks + ([] : List (Str × Value)).length) ok C1 L I1.env0 hr.hd hns fun b o e => hsb.extBut b o (Nat.ne_of_lt (Heap.lt_size e)) (Heap.get?_push_of_some _ e)
    refine PySem.W.kla_codeExpr (wpAny_mono (ht _ _ s1 (hr.deeper _) [] _ J) (fun v s' hq => ?_) fun e s' hq => hq)
    obtain ⟨w', H', J', rv, q⟩ := hq
    exact ⟨w', H', J'.os, J'.bare, J'.base, J'.hok, rv, q⟩
  refine wpAny_call (codeAny_mono rc fun r s' hq => ?_)
  cases r with
  | error e => exact passes_call tk hW pinsZ σZ HZ s1 e s' I1 hq
  | ok fl =>
    cases fl with
    | ret u => exact I1.after hq
    | next => cases hq
    | brk => cases hq
    | cont => cases hq
end
end PI
set_option Elab.async false
set_option linter.all false
set_option maxRecDepth 100000
set_option maxHeartbeats 4000000
/-! PLb: told(lambda: ..): the data. -/
namespace PI
open PySem PySem.Spec PyProof.Rows L2
/-- a new code object stands in a table -/
theorem Sta.newCode {g : Gx} {G : Gh} {H : Hp} {M : Store} {P c : Addr} {q : Str} {ps ps' : Array Value} (s : Sta g G H M) (hP : (P, some q) ∈ g.T) (hu : ∀ p ∈ g.T, p.1 = P → p.2 = some q) (hp : H P = some (.tbl ps)) (n : H c = none) (ht : TriplesOk ps'.toList)
    (hc : ∀ (pos : Pos) (cv : Value), codeAmong pos ps'.toList = some cv → (codeAmong pos ps.toList = some cv) ∨ cv = .ref c) :
    Sta g (G.add c (LamX.CodeO c q)) (upd (upd H P (.tbl ps')) c (LamX.CodeO c q)) M ∧ Mv G H (G.add c (LamX.CodeO c q)) (upd (upd H P (.tbl ps')) c (LamX.CodeO c q)) := by
  have nPc : P ≠ c := ne_of_none hp n
  have nG := s.free n
  have nM := s.notin n
  have ne : ∀ b o, H b = some o → (∀ ps, o ≠ .tbl ps) → b ≠ P := fun b o e n z => by
    rw [z, hp] at e
    exact n ps (Option.some.inj e).symm
  have kp : ∀ b o, H b = some o → (∀ ps, o ≠ .tbl ps) → upd (upd H P (.tbl ps')) c (LamX.CodeO c q) b = some o := fun b o e z => by
    rw [upd_ne (ne_of_none e n), upd_ne (ne b o e z)]; exact e
  refine ⟨⟨fun b u e => ?_, s.len, fun k m a hm ha => ?_, s.nd, fun r hr => ?_, fun a qs e => ?_⟩, ⟨Gh.le_add nG, fun b o e z _ => kp b o e z, fun b h => ?_, fun b h => ?_⟩⟩
  · have e : upd G.h c (LamX.CodeO c q) b = some u := e
    by_cases hb : b = c
    · subst hb; rw [upd_same] at e ⊢; exact e
    · rw [upd_ne hb] at e
      exact kp b u (s.ex b u e) fun qs z => s.nt b qs (by rw [e, z])
  · have hne : a ≠ c := fun z => nM (by rw [← z]; exact List.mem_of_getElem? (show G.A[k]? = some a from ha))
    obtain ⟨a1, a2⟩ := s.tie k m a hm ha
    exact ⟨by show upd G.h c (LamX.CodeO c q) a = none; rw [upd_ne hne]; exact a1, a2.mono (Gh.le_add nG) fun o e z => kp _ _ e z⟩
  · by_cases hr1 : r.1 = P
    · refine ⟨ps', by rw [hr1, upd_ne nPc, upd_same], ht, fun x hx pos cv hcv => ?_⟩
      have e2 := hu r hr hr1
      rw [e2] at hx
      cases hx
      rcases hc pos cv hcv with z | z
      · obtain ⟨ps0, h1, _, h3⟩ := s.tabs _ hP
        have h1 : H P = some (.tbl ps0) := h1
        rw [hp] at h1
        cases h1
        obtain ⟨c0, a1, a2⟩ := h3 _ rfl pos cv z
        exact ⟨c0, a1, same_new nG _ _ a2⟩
      · exact ⟨c, z, upd_same⟩
    · refine (s.tabs r hr).mono (same_new nG) fun qs e => ?_
      rw [upd_ne (ne_of_none e n), upd_ne hr1]; exact e
  · have e : upd G.h c (LamX.CodeO c q) a = some (.tbl qs) := e
    by_cases ha : a = c
    · subst ha; rw [upd_same] at e; exact LamX.codeO_ne qs (Option.some.inj e)
    · rw [upd_ne ha] at e; exact s.nt a qs e
  · by_cases hb : b = c
    · subst hb; exact .inr (.inr n)
    · rcases h with h | h
      · have h : upd G.h c (LamX.CodeO c q) b ≠ none := h
        rw [upd_ne hb] at h; exact .inl h
      · exact .inr (.inl h)
  · by_cases hb : b = c
    · rw [hb, upd_same]; intro z; cases z
    · rw [upd_ne hb]
      by_cases hb2 : b = P
      · rw [hb2, upd_same]; intro z; cases z
      · rw [upd_ne hb2]; exact h
section
variable {L : Lx} {ρ : Ro} {M : Store} {l : LamD} {pos : Pos} {P : Addr} {q : Str}
/-- a lambda is made -/
theorem lam_mk {X : Cx} (ci : CI L X) {pins : List (Addr × Obj)} {σ : L2.St} {G : Gh} {H : Hp} {s : Shared} {Q : Value → Shared → Prop} {E : Value → Shared → Prop} (hcd : L.cd = some (P, some q)) (S : LamX.LamS X.env.scope l.scope) (hdef : defaultsOf l.params X.env = ([], [])) (I : Inv X pins σ H s) (st : Sta L.g G H M)
    (h : ∀ f G1 H1 s', Inv X pins σ H1 s' → Mv G H G1 H1 → Sta L.g G1 H1 M → FnAt X G1.h l f → Q (.ref f) s') : wpAny (model X.prog X.w) X.A (eval (.Lambda l.params l.body l.scope pos) X.env) Q E s := by
  obtain ⟨⟨c, hcode, TB⟩, hPT, hu, hq⟩ := ci.code P (some q) hcd
  have hq := hq q rfl
  subst hq
  have TB : GxR.TabB X.base X.mg c P := by rw [ci.base, ci.mg]; exact TB
  obtain ⟨ps, hP, ht, ha⟩ := st.tabs _ hPT
  have hP : H P = some (.tbl ps) := hP
  have hfree : ∀ y ∈ l.scope.names, y.2 = .free → ∃ c, X.env.cells.lookup y.1 = some c := S.has I.ok
  refine PySem.W.kla_eval hdef ?_
  have bP : s.heap.BuiltinsAt X.mg P := TB.bm.keeps I.bk
  have hP' : s.heap.get? P = some { cls := .none, data := .fields ps } := I.hok P _ hP
  have fin : ∀ (c' : Addr) (pm ctv : Value) (G1 : Gh) (H1 : Hp) (h' : Heap) (tk : Tok), Mv G H G1 H1 → Sta L.g G1 H1 M → G1.h c' = some (LamX.CodeO c' (lamQ X)) → Inv X pins σ H1 { s with heap := h', toks := tk } →
      Q (.ref h'.objs.size) { s with heap := h'.push (lamO X l pm c' ctv), toks := tk } := by
    intro c' pm ctv G1 H1 h' tk m1 s1 hc1 I1
    have nf : H1 h'.objs.size = none := I1.hok.fresh (Nat.le_refl _)
    obtain ⟨s2, m2⟩ := s1.newG (o := ThatO h'.objs.size (lamO X l pm c' ctv)) nf (fun qs z => thatO_ne qs z)
    refine h _ _ _ _ (I1.laid (t' := tk) (fun b u e => Heap.get?_push_of_some _ e) (Nat.le_refl _) ?_) (m1.trans s1 m2) s2 ⟨c', pm, ctv, upd_same, m2.g.h _ _ hc1⟩
    exact ⟨Heap.get?_push_size _ rfl, ⟨_, Heap.get?_push_size _ rfl⟩, fun h1 h2 a k => k _ a⟩
  cases hc : codeAmong pos ps.toList with
  | none =>
    refine PySem.W.kla_makeFunction (mg := X.mg) (c := c) (P := P) (ps := ps) (closure_ok hfree) I.ok.glob (I.mod.glob.keeps I.bk) hcode (TB.code.keeps I.bk) hP' ht hc TB.gP bP fun c' ctv h' tk hx hge hlt hrec htb => ?_
    obtain ⟨c2, oc, vs, t, e2, hoc, hd, hv⟩ := hrec
    cases e2
    have nC : H c' = none := I.hok.fresh hge
    have I1 := LamX.inv_table (t' := tk) (more := #[rawInt pos.line, rawInt pos.col, .ref c']) (h' := h') I hP hx htb hge ⟨oc, vs, t, hoc, hd, hv⟩
    have eL : (ps ++ #[rawInt pos.line, rawInt pos.col, .ref c']).toList = ps.toList ++ [rawInt pos.line, rawInt pos.col, .ref c'] := by simp
    obtain ⟨s1, m1⟩ := st.newCode hPT hu hP nC (ps' := ps ++ #[rawInt pos.line, rawInt pos.col, .ref c']) (by rw [eL]; exact PySem.TriplesOk_snoc _ _ _ _ ht) (fun p' cv hcv => by rw [eL] at hcv; exact LamX.among_app _ ht hcv)
    exact fin c' _ ctv _ _ h' tk m1 s1 upd_same I1
  | some cv =>
    obtain ⟨c', e, hco⟩ := ha _ rfl pos cv hc
    subst e
    refine PySem.W.kla_makeFunctionHit (mg := X.mg) (c := c) (P := P) (ps := ps) (closure_ok hfree) I.ok.glob (I.mod.glob.keeps I.bk) hcode (TB.code.keeps I.bk) hP' ht hc bP fun ctv h' tk hx hsz => ?_
    exact fin c' _ ctv G H h' tk (.refl ..) st hco (I.kept hx)
end
/-- try: return a() / except e: return ret -/
def toldB (st : Stmt) : Option (Str × Str × Str) := match defBody st with
  | [.Try [.Return (some (.Call (.Name a _) [] [] _)) _] [.ExceptHandler (some (.Name e _)) none [.Return (some (.Constant (.str ret) _ _)) _] _] [] [] _] => some (a, e, ret)
  | _ => none
/-- the def told: its parameter a, the exception's class, the text that it hands back -/
structure ToldOk (g : Gx) (x : Str) (CS : Addr) (ret : Str) : Prop where
  ex : ∃ gA fd st a e Ng, Fun g.K x x st gA fd ∧ g.mg x = some (.ref gA) ∧ Binds g.K fd [a] [] ∧ FnScope Ng [a] (defScope st) ∧ toldB st = some (a, e, ret) ∧ (defScope st).names.lookup e = some .globalImplicit ∧ (e == ("__debug__" : Str)) = false ∧ (a == ("__debug__" : Str)) = false ∧ (a == ("__classdict__" : Str)) = false ∧ g.mg e = some (.ref CS)
def Lx.lam (L : Lx) (scope : Scope) (k : Nat) : Lx := ⟨L.g, L.N, scope, k, fun _ => false, none, false⟩
theorem ci_lam {L : Lx} {X : Cx} (ci : CI L X) {k : Nat} {A : Around} {outer : List PySem.Env} {s : Shared} {H : Hp} {EX : XK} {scope : Scope} {f c : Addr} (hr : Room k (A.deeper (LamX.lamEnv X scope s.heap.objs.size f c))) : CI (L.lam scope k) (LamX.lamCx X A outer s H EX scope f c) where
  prog := ci.prog
  w := ci.w
  K := ci.K
  mg := ci.mg
  base := ci.base
  N := ci.N
  sc := rfl
  nd := ci.nd
  calm := rfl
  room := hr
  own := passes_of rfl
  fn := rfl
  code := CdOk.none
  top := fun z => by cases z
section
variable {L : Lx} {ρ : Ro} {M : Store} {l : LamD} {Q : D → Store → Prop} {E : Nat → Store → Prop}
/-- how a lambda of this frame ends: its value, or the text for the error that the def takes -/
def ToldQ (L : Lx) (ρ : Ro) (M : Store) (l : LamD) (k : Nat) (CS : Addr) (ret : List Nat) (Q : D → Store → Prop) : Prop :=
  Ev (L.lam l.scope k) (noLam ρ) M l.body Q fun C M' => PySem.W.exmOne L.g.K (.ref (L.g.ca C)) (.ref CS) = some true ∧ Q (.str ret) M'
theorem told_code {X : Cx} (ci : CI L X) {x : Str} {CS : Addr} {ret : List Nat} (T : ToldOk L.g x CS (mkS ret)) {A : Around} {stk : List PySem.Env} {s : Shared} {H : Hp} {G : Gh} {B : Bs} {σ : L2.St} {f : Addr} {k : Nat} {R : VK} (e0 : Env0 X.prog X.w X.K X.mg X.base A stk s H) (hr : Room (k + 2) A) (ok : X.Ok) (C : Capt X σ H s.heap)
    (S : LamX.LamS X.env.scope l.scope) (hbind : ∀ (q : Str) (cl : List (Str × Addr)) (pm cv ctv : Value), bindArgs (PySem.W.kla_fn "<lambda>" q l.params l.body l.scope cl pm cv ctv) ⟨[], []⟩ = pure []) (FA : FnAt X G.h l f) (fr : Frm X L.g B G H σ ρ) (st : Sta L.g G H M) (kk : KD L.g G H Q R) (h : ToldQ L ρ M l k CS ret Q) :
    ∃ gA, L.g.mg x = some (.ref gA) ∧ PySem.W.keepIn L.g.K (.ref gA) = true ∧ codeAny (model X.prog X.w) A (.call (.ref gA) ⟨[.ref f], []⟩) (CR C8.CX0 stk X.prog X.w H s R C8.E0) s := by
  obtain ⟨gA, fd, sd, a, e, Ng, F, hm, hb, Sg, hbody, hge, hde, had, hac, hme⟩ := T.ex
  obtain ⟨oc, od, kV, doc, pm0, an, cdv, ct, osl, rfl, lk, hcd⟩ := F.ex
  obtain ⟨c', pm, ctv, hf, hc⟩ := FA
  have hf' := st.ex _ _ hf
  have hc' := st.ex _ _ hc
  refine ⟨gA, hm, F.kp, ?_⟩
  have kin : X.K.In s.heap := e0.mod.kin.keeps fun b o e => (e0.bs b o e).1
  have bs := hb s [.ref f] (by rw [← ci.K]; exact kin) rfl
  unfold toldB at hbody
  split at hbody
  · rename_i heq
    cases hbody
    have hNg : Ng[0]? = some a := by
      have := Sg.pre
      cases Ng with
      | nil => cases this
      | cons y ys => have : y = a := (List.cons.inj this).1; subst this; rfl
    have hva : Vis (defScope sd) a := (Sg.par a (by simp)).elim (fun k => .inl k) fun k => .inr (.inl k)
    refine LamX.run_ofS (N := Ng) (ps := [a]) (us := [.ref f]) (vs := [.ref f]) (by rw [ci.K]; exact lk) (by rw [ci.K]; exact hcd) Sg hr e0 bs (.cons rfl .nil) rfl fun hr' => ?_
    rw [heq]
    have hgo : LamX.TTold X.K CS (mkS ret) (fun E HZ Q => HZ f = some (ThatO f (lamO X l pm c' ctv)) ∧ ∀ (A' : Around) (outer : List PySem.Env) (s' : Shared), Room k (A'.deeper (LamX.lamEnv X l.scope s'.heap.objs.size f c')) → Wp (LamX.lamCx X A' outer s' HZ E l.scope f c') l.body σ HZ Q) H R := by
      refine ⟨hf', fun A' outer s' hr2 => ?_⟩
      refine h _ (ci_lam ci hr2) B σ G H R fr.noLam st kk fun C G' M' H' m' s' ⟨ex, q⟩ => ?_
      exact Thr.of (takes_of rfl rfl rfl rfl) ⟨true, by show PySem.W.exmOne X.K _ _ = _; rw [ci.K]; exact ex, fun _ => kk _ (.str ret) G' M' H' m' s' rep_str q, fun z => by cases z⟩
    obtain ⟨t', ht', hq'⟩ := LamX.told_gives (X := { X with A := A, stack := stk }) (Ng := Ng) (x := x) (a := a) (e := e) (q := lamQ X) (ret := mkS ret) (sg := defScope sd) (g := gA) (CS := CS) (cdg := cdv) hge (by rw [ci.mg]; exact hme) hde (fun _ => rfl) f c' s H R _
      (fun W pn xe E p1 p2 tk hW => act (X := X) (A0 := A) (st0 := stk) (i := 0) ok C S (hbind _ _ _ _ _) tk hW hr' hNg hva had hac) hc' hgo
    exact ⟨t', ht'.nox, hq'⟩
  · cases hbody
end
end PI
set_option Elab.async false
set_option linter.all false
set_option maxRecDepth 100000
set_option maxHeartbeats 4000000
/-! PLc: told(lambda: ..); lists of lambdas. -/
namespace PI
open PySem PySem.Spec PyProof.Rows L2
def noPar : Arguments → Bool
  | ⟨[], [], none, [], [], none, []⟩ => true
  | _ => false
theorem noPar_eq {p : Arguments} (h : noPar p = true) : p = ⟨[], [], none, [], [], none, []⟩ := by
  unfold noPar at h
  split at h
  · rfl
  · cases h
theorem noPar_def {p : Arguments} (h : noPar p = true) (env : PySem.Env) : defaultsOf p env = ([], []) := by
  rw [noPar_eq h]; rfl
theorem noPar_bind {p : Arguments} (h : noPar p = true) (body : Expr) (scope : Scope) (q : Str) (cl : List (Str × Addr)) (pm cv ctv : Value) : bindArgs (PySem.W.kla_fn "<lambda>" q p body scope cl pm cv ctv) ⟨[], []⟩ = pure [] := by
  rw [noPar_eq h]; rfl
section
variable {L : Lx} {ρ : Ro} {M : Store} {l : LamD} {Q : D → Store → Prop} {E : Nat → Store → Prop} {P : Addr} {q : Str} {p pos lpos : Pos} {x : Str} {CS : Addr} {ret : List Nat} {k : Nat}
theorem ev_told (T : ToldOk L.g x CS (mkS ret)) (hk : k + 2 ≤ L.n) (hg : L.sc.names.lookup x = some .globalImplicit) (hdb : (x == ("__debug__" : Str)) = false) (hcd : L.cd = some (P, some q)) (S : LamX.LamS L.sc l.scope) (hp : noPar l.params = true) (h : ToldQ L ρ M l k CS ret Q) :
    Ev L ρ M (.Call (.Name x p) [.Lambda l.params l.body l.scope lpos] [] pos) Q E := fun X ci B σ G H R fr st kk kx pins s I => by
  have S' : LamX.LamS X.env.scope l.scope := by rw [ci.sc]; exact S
  have T' := T
  obtain ⟨gA, fd, sd, a, e, Ng, F, hm, _⟩ := T'.ex
  refine wpAny_Call_Name_kw (ld_glob I (ci.gl hg) (by rw [ci.mg]; exact hm) ?_ hdb)
  refine PySem.W.callWith_K (h₀ := X.base) I.ok.mod.kin (by rw [ci.K]; exact F.kp) ?_ (by rfl) (by rfl)
  show wpAny _ _ (spliced ((false, eval (.Lambda l.params l.body l.scope lpos) X.env) :: backTo pos (starEach [] X.env))) _ _ s
  refine Calls.spliced_cons (lam_mk ci hcd S' (noPar_def hp X.env) I st fun f G1 H1 s1 I1 m1 st1 FA => ?_)
  refine Calls.spliced_nil ⟨I1.kIn, ?_⟩
  obtain ⟨gA', hm', _, rc⟩ := told_code ci T I1.env0 (ci.room.mono hk) I1.ok (capt_of I1) S' (noPar_bind hp _ _) FA (fr.move m1) st1 (kk.move st1 m1) h
  rw [hm] at hm'
  cases hm'
  refine wpAny_call (codeAny_mono rc fun r s2 hq => ?_)
  cases r with
  | error e => exact (show False from hq).elim
  | ok fl =>
    cases fl with
    | ret u => exact I1.after hq
    | next => cases hq
    | brk => cases hq
    | cont => cases hq
/-- lambdas, made one by one -/
def LamsX (L : Lx) : List Nat → List Expr → Prop
  | [], [] => True
  | k :: ks, e :: es => (∃ l pos, e = .Lambda l.params l.body l.scope pos ∧ LamX.LamS L.sc l.scope ∧ noPar l.params = true ∧ L.g.lk L.N L.sc k l) ∧ LamsX L ks es
  | _, _ => False
theorem ea_lams (hcd : L.cd = some (P, some q)) {X : Cx} (ci : CI L X) : ∀ {ks : List Nat} {es : List Expr} {σ : L2.St} {G : Gh} {H : Hp} {R : List V → Hp → Prop}, LamsX L ks es → Sta L.g G H M → (∀ vs G' H', Mv G H G' H' → Sta L.g G' H' M → LamsAt X L.g G' ks vs → R vs H') → WpA X es σ H R
  | [], [], σ, G, H, R, _, st, k => wpA_of pa_nil (k [] G H (.refl ..) st rfl)
  | k :: ks, e :: es, σ, G, H, R, hl, st, kk => by
    obtain ⟨⟨l, pos, rfl, S, hp, hlk⟩, hl'⟩ := hl
    have S' : LamX.LamS X.env.scope l.scope := by rw [ci.sc]; exact S
    refine wpA_of (pa_cons (X := X) (pe_wp (e := .Lambda l.params l.body l.scope pos)) (pa_wp (es := es))) ?_
    intro pins s I
    refine lam_mk ci hcd S' (noPar_def hp X.env) I st fun f G1 H1 s1 I1 m1 st1 FA => ?_
    refine ⟨.ref f, H1, I1, rfl, ?_⟩
    refine ea_lams hcd ci hl' st1 fun vs G' H' m' st' h' => ?_
    exact kk _ G' H' (m1.trans st1 m') st' ⟨f, l, vs, rfl, FA.mono fun b o e _ => m'.g.h _ _ e, by rw [ci.N, ci.sc]; exact hlk, h'⟩
  | [], _ :: _, _, _, _, _, h, _, _ => h.elim
  | _ :: _, [], _, _, _, _, h, _, _ => h.elim
theorem lams_list (hcd : L.cd = some (P, some q)) {X : Cx} (ci : CI L X) {ks : List Nat} {es : List Expr} {σ : L2.St} {G : Gh} {H : Hp} {R : VK} (hl : LamsX L ks es) (hz : ks.length ≤ 100000) (st : Sta L.g G H M) (k : ∀ v G' H', Mv G H G' H' → Sta L.g G' H' M → LamOk X L.g G' ks v → R v H') : Wp X (.List es pos) σ H R := by
  refine wp_of (pe_lst pa_wp) (ea_lams hcd ci hl st fun vs G' H' m' st' h' => ⟨by rw [h'.len]; exact sz_of hz, fun a na => ?_⟩)
  obtain ⟨s2, m2⟩ := st'.newG (o := .lst vs) na (fun ps z => by cases z)
  exact k _ _ _ (m'.trans st' m2) s2 ⟨a, vs, rfl, upd_same, h'.mono m2.g⟩
theorem Frm.lam {X : Cx} {g : Gx} {B : Bs} {G : Gh} {H : Hp} {σ : L2.St} {i : Nat} {v : V} {ks : List Nat} (h : Frm X g B G H σ ρ) (r : LamOk X g G ks v) : Frm X g B G H (σ.set i (some v)) (ρ.set i (.lam ks)) := h.put ⟨v, rfl, r⟩ fun z => by cases z
theorem stm_lamSet {P' : Post} {i : Nat} {px : Pos} {es : List Expr} {ks : List Nat} (hn : NameOk L (.Name x px) i) (hs : ∀ env : PySem.Env, env.scope = L.sc → swapsWith (.List es lpos) (some (.Name x px)) pos.line env = pure false) (hcd : L.cd = some (P, some q)) (hl : LamsX L ks es) (hz : ks.length ≤ 100000) (h : P'.nx (ρ.set i (.lam ks)) M) :
    Stm L ρ M (.Assign [.Name x px] (.List es lpos) pos) P' := fun X ci B σ G H Dn f mb s k => by
  obtain ⟨y, p, ey, h1, h2, h3⟩ := hn.ex
  cases ey
  refine wpS_of (ps_set (X := X) (i := i) (by rw [ci.N]; exact ci.nd) (by rw [ci.N]; exact h1) (by rw [ci.sc]; exact h2) pe_wp (hs X.env ci.sc) (by rw [ci.fn, ci.sc]; exact h3)) ?_
  exact lams_list hcd ci hl hz s fun v G' H' m' s' r => k.nx _ _ G' M H' m'.g ((f.move m').lam r) (mb.trans s m') s' h
theorem stm_lamAdd {P' : Post} {i : Nat} {px pv bpos : Pos} {es : List Expr} {js ks : List Nat} (hn : NameOk L (.Name x px) i) (hs : ∀ env : PySem.Env, env.scope = L.sc → swapsWith (.BinOp (.Name x pv) .Add (.List es lpos) bpos) (some (.Name x px)) pos.line env = pure false) (hcc : (x == ("__classdict__" : Str)) = false) (hdb : (x == ("__debug__" : Str)) = false)
    (hcd : L.cd = some (P, some q)) (hl : LamsX L ks es) (hρ : ρ[i]? = some (.lam js)) (hz : js.length + ks.length ≤ 100000) (h : P'.nx (ρ.set i (.lam (js ++ ks))) M) :
    Stm L ρ M (.Assign [.Name x px] (.BinOp (.Name x pv) .Add (.List es lpos) bpos) pos) P' := fun X ci B σ G H Dn f mb s k => by
  obtain ⟨y, p, ey, h1, h2, h3⟩ := hn.ex
  cases ey
  have hvis : Vis X.env.scope x := by rw [ci.sc]; exact h2.elim (fun k => .inl k) fun k => .inr (.inl k)
  refine wpS_of (ps_set (X := X) (i := i) (by rw [ci.N]; exact ci.nd) (by rw [ci.N]; exact h1) (by rw [ci.sc]; exact h2) (pe_op (X := X) op_cat (pe_var (X := X) (i := i) (by rw [ci.N]; exact h1) hvis hdb hcc) (pe_wp (e := .List es lpos))) (hs X.env ci.sc) (by rw [ci.fn, ci.sc]; exact h3)) ?_
  obtain ⟨v, hv, pa, vs, rfl, g1, l1⟩ := f.at_ i _ hρ
  refine ⟨.ref pa, hv, ?_⟩
  refine lams_list hcd ci hl (by omega) s fun v2 G' H' m' s' r => ?_
  obtain ⟨pb, us, rfl, g2, l2⟩ := r
  refine ⟨pa, pb, vs, us, rfl, rfl, s'.ex _ _ (m'.g.h _ _ g1), s'.ex _ _ g2, ?_, fun a na => ?_⟩
  · rw [l1.len, l2.len]; exact sz_of hz
  · obtain ⟨s2, m2⟩ := s'.newG (o := .lst (vs ++ us)) na (fun ps z => by cases z)
    have m12 := m'.trans s' m2
    exact k.nx _ _ _ M _ m12.g ((f.move m12).lam ⟨a, vs ++ us, rfl, upd_same, (l2.app (l1.mono m'.g)).mono m2.g⟩) (mb.trans s m12) s2 h
end
end PI
set_option Elab.async false
set_option linter.all false
set_option maxRecDepth 100000
set_option maxHeartbeats 4000000
/-! PLd: a comprehension whose block knows the maker's frame. -/
namespace PI
open PySem PySem.Spec PyProof.Rows L2
section
variable {X : Cx}
/-- a list comprehension: what stands at the block's start is told to the block's rules -/
theorem lc_told {pinL : List (Addr × Obj)} {ss : Shared} {τ : L2.St} {Hs : Hp} {R : VK} {body tgt it0 : Expr} {tests : List Expr} {scp : Scope} {mine : List (Str × Nat)} {lp : Pos} {wi : TI} {gt : TG} {rt : TT} {re : TE}
    (calm : X.calm = true) (nd : X.N.Nodup) (J0 : Inv X pinL τ Hs ss) (src : PI X tgt it0 wi) (bk : BlkOk X.N X.env.scope scp mine)
    (pgA : ∀ (u : Shared) (U : Hp) (A0 : Addr) (cs : List (Str × Addr)) (its : List Addr), PG (X.blk u U scp (compEnvC scp cs A0 X.env) its) tgt gt)
    (rules : ∀ (u : Shared) (U : Hp) (A0 : Addr) (cs : List (Str × Addr)) (its : List Addr), Inv X pinL τ U u → (∀ b ∈ its, FpOk X pinL U b) → PTs (X.blk u U scp (compEnvC scp cs A0 X.env) its) tests rt ∧ PE (X.blk u U scp (compEnvC scp cs A0 X.env) its) body re)
    (nofold : ∀ v, foldedSetIterable it0 X.env v = pure v) (rd : tLc wi gt rt re (mine.map (·.2)) τ Hs R) : wpAny (model X.prog X.w) X.A (eval (.ListComp body [⟨tgt, it0, tests, 0⟩] scp lp) X.env) (EP X pinL τ R) X.xe ss := by
  have caps : ∀ z ∈ scp.names, z.2 = .free → ∃ c, X.env.cells.lookup z.1 = some c := fun z hz ez => (bk.free z hz ez).elim (fun q => J0.ok.has _ (.inl q)) fun q => J0.ok.has _ (.inr q)
  rw [eval_ListComp]
  refine wpAny_comprehension_free (use := none) rfl nofold (closure_ok caps) bk.kind (fun z hz ez => by rw [bk.uniq z hz, ez]) (thn (src.run pinL ss τ Hs _ J0 rd) fun _ _ h1 => thn h1 fun _ u2 h2 => ?_)
  obtain ⟨ia, its, tn, G0, U2, rfl, J2, TT, at0, fr2, rd2⟩ := h2
  refine wpAny_newObj_type (newEnv_comp ?_) (by show 0 ≤ sizeLine; decide)
  generalize eD : u2.heap.objs.size = dL
  have nD : U2 dL = none := J2.hok.fresh (Nat.le_of_eq eD)
  obtain ⟨Wt, ⟨k0, start0⟩, turn⟩ := rd2 dL nD
  generalize e3 : ({ u2 with heap := u2.heap.push { cls := .type "list", data := .seq ([] : List Value).toArray } } : Shared) = u3
  have hp3 : u3.heap = u2.heap.push { cls := .type "list", data := .seq ([] : List Value).toArray } := by rw [← e3]
  generalize eU : upd U2 dL (.lst []) = U3 at start0
  have J3 : Inv X pinL τ U3 u3 := by
    rw [← e3, ← eU]
    refine J2.laid (t' := u2.toks) (fun _ _ q => Heap.get?_push_of_some _ q) (Nat.le_of_eq eD) ⟨Nat.zero_le _, [], 0, .nil, ?_⟩
    rw [← eD]; exact Heap.get?_push_size _ rfl
  have fr3 : ∀ b ∈ its, FpOk X pinL U3 b ∧ b < u3.heap.objs.size := fun b hb => by
    obtain ⟨o, q, _⟩ := TT.obj _ _ at0 b hb
    have lt := Heap.lt_size q
    refine ⟨⟨?_, (fr2 b hb).2⟩, by rw [hp3, Heap.size_push]; exact Nat.lt_succ_of_lt lt⟩
    rw [← eU, upd_ne (by rw [← eD]; exact Nat.ne_of_lt lt)]
    exact (fr2 b hb).1
  have at3 : tn 0 u3.heap := TT.keep _ _ _ at0 fun _ _ _ q => by rw [hp3]; exact Heap.get?_push_of_some _ q
  have J4 := block_start J3 bk nd fr3
  have no3 : ∀ b ∈ its, U3 b = none := fun b hb => (fr3 b hb).1.1
  have rg := pgA u3 U3 u3.heap.objs.size (cellsFrom (u3.heap.objs.size + 1) scp.names (cloFrom X.env.cells scp.names [])) its
  have rr := rules u3 U3 u3.heap.objs.size (cellsFrom (u3.heap.objs.size + 1) scp.names (cloFrom X.env.cells scp.names [])) its J3 fun b hb => (fr3 b hb).1
  show codeAny _ _ (.compStart (.ListComp body [⟨tgt, it0, tests, 0⟩] scp lp) 0 (.ref ia) (.ref dL) (compEnvC scp (cellsFrom (u3.heap.objs.size + 1) scp.names (cloFrom X.env.cells scp.names [])) u3.heap.objs.size X.env)) (compPost (model X.prog X.w) X.A X.xe none (EP X pinL τ R) (.ref dL) u3.heap.objs.size) { u3 with heap := pushCells (u3.heap.push { cls := .type "dict", data := .dict #[] }) scp.names }
  generalize eE : compEnvC scp (cellsFrom (u3.heap.objs.size + 1) scp.names (cloFrom X.env.cells scp.names [])) u3.heap.objs.size X.env = ev at J4 rg rr ⊢
  have loc0 : ev.locals = u3.heap.objs.size := by subst eE; rfl
  generalize e4 : ({ u3 with heap := pushCells (u3.heap.push { cls := .type "dict", data := .dict #[] }) scp.names } : Shared) = u4 at J4 ⊢
  have at4 : tn 0 u4.heap := TT.keep _ _ _ at3 fun _ _ _ q => by rw [← e4]; exact pushCells_keeps _ _ _ _ (Heap.get?_push_of_some _ q)
  have fps : ∀ {τ' : L2.St} {U : Hp} {u : Shared}, Inv (X.blk u3 U3 scp ev its) [] τ' U u → (∀ b ∈ its, U b = none) → ∀ b ∈ its, FpOk (X.blk u3 U3 scp ev its) [] U b := fun JJ none' b hb =>
    ⟨none' b hb, (JJ.ok.exf b hb).1, JJ.ok.exfs b hb, .inl hb, fun x c q => (JJ.ok.exf b hb).2 x c q, fun p hp => absurd (show p ∈ ([] : List (Addr × Obj)) ++ [] from hp) (by simp)⟩
  have round : codeAny (model X.prog X.w) X.A (.compLoop (.ListComp body [⟨tgt, it0, tests, 0⟩] scp lp) 0 (.ref ia) (.ref dL) ev) (compPost (model X.prog X.w) X.A X.xe none (EP X pinL τ R) (.ref dL) u3.heap.objs.size) u4 := by
    refine compLoop_any (fun m u => ∃ j U, Inv (X.blk u3 U3 scp ev its) [] (wipe τ (mine.map (·.2))) U u ∧ tn j u.heap ∧ (∀ b ∈ its, U b = none) ∧ Wt j m U) ?_ k0 ⟨0, U3, J4, at4, no3, start0⟩
    rintro m u5 ⟨j, U5, J5, at5, no5, w5⟩
    rcases turn j m U5 w5 with ⟨halt, ends⟩ | ⟨goes, Nx, hNx, next⟩
    · refine thnF (TT.done (X.blk u3 U3 scp ev its) rfl rfl rfl calm j [] u5 _ U5 (fun _ _ => False) J5 (fps J5 no5) at5 halt) fun r u6 ⟨hr, J6⟩ => ?_
      subst hr
      have J7 : Inv X pinL τ U5 u6 := J3.call' (ch := its) J6.os J6.base J6.hok J6.bare fun b hb => ⟨(fr3 b hb).1.2.2.2.1, (fr3 b hb).1.2.1, (fr3 b hb).1.2.2.2.2.1, (fr3 b hb).1.2.2.2.2.2⟩
      have nloc : U5 u3.heap.objs.size = none := by rw [← loc0]; exact J6.free
      obtain ⟨mp, hns, _⟩ := J6.loc
      have hns : u6.heap.Ns ev.locals mp := hns
      rw [loc0] at hns
      refine ⟨mp, hns, fun h'' sb => ?_⟩
      obtain ⟨f0, f1, f2, f3, f4, f5⟩ := J3.fpOk (Nat.le_refl _) nloc
      exact ⟨.ref dL, U5, J7.turned (t' := u6.toks) (fun b o hb q => (sb.2 b hb).trans q) f0 f1 f3 f4 f5, rfl, ends⟩
    · refine thnF (TT.item (X.blk u3 U3 scp ev its) rfl rfl rfl calm j [] u5 _ U5 (fun _ _ => False) J5 (fps J5 no5) at5 goes) fun r u6 ⟨val, hr, h6⟩ => ?_
      subst hr
      refine thnF h6 fun _ u7 ⟨x, U7, J7, rel, yl, at7, no7⟩ => ?_
      refine thnF (rg.run _ u7 _ U7 x val _ (J7.pinned (fps J7 no7) (TT.obj _ _ at7)) rel (next x U7 yl)) fun _ u8 ⟨τ8, U8, J8, same8, q8⟩ => ?_
      have again : ∀ {u : Shared} {U : Hp}, Inv (X.blk u3 U3 scp ev its) ([] ++ pinsAt its u7.heap) τ8 U u → Nx U → ∃ n, n < m ∧ ∃ j U, Inv (X.blk u3 U3 scp ev its) [] (wipe τ (mine.map (·.2))) U u ∧ tn j u.heap ∧ (∀ b ∈ its, U b = none) ∧ Wt j n U := fun {u U} JJ nx => by
        obtain ⟨n, lt, w⟩ := hNx U nx
        have stays : ∀ b ∈ its, ∀ o, u7.heap.get? b = some o → u.heap.get? b = some o ∧ U b = none := fun b hb o q => ⟨(JJ.pin (b, o) (List.mem_append_right _ (List.mem_append_right _ (mem_pinsAt hb q)))).1, (JJ.pin (b, o) (List.mem_append_right _ (List.mem_append_right _ (mem_pinsAt hb q)))).2.1⟩
        refine ⟨n, lt, j + 1, U, (JJ.unpinned (pins := [])).weak (by rw [← same8, wipe_length]) (fun i v q => by rw [← same8] at q; exact (wipe_some q).1), TT.keep _ _ _ at7 fun b hb o q => (stays b hb o q).1, fun b hb => ?_, w⟩
        obtain ⟨o, q, _⟩ := TT.obj _ _ at7 b hb
        exact (stays b hb o q).2
      refine thnF (rr.1.run _ u8 τ8 U8 _ J8 q8) fun yes u9 ⟨U9, J9, q9⟩ => ?_
      cases yes with
      | false =>
        simp only [Bool.false_eq_true, if_false] at q9 ⊢
        exact again J9 q9
      | true =>
        simp only [if_true] at q9 ⊢
        refine thnF (rr.2.run _ u9 τ8 U9 _ J9 q9) fun w u10 ⟨yv, U10, J10, rel10, acc, isL, sz, nx⟩ => ?_
        exact app_ok (X := X.blk u3 U3 scp ev its) J10 isL sz rel10 fun u11 J11 => again J11 nx
  exact codeAny_compStart_list round (TT.self X.A 0 _ _ _ at4 round)
end
end PI
set_option Elab.async false
set_option linter.all false
set_option maxRecDepth 100000
set_option maxHeartbeats 4000000
/-! PLe: [k for k, f in enumerate(bad) if told(f) != x]. -/
namespace PI
open PySem PySem.Spec PyProof.Rows L2
section
variable {L : Lx} {ρ : Ro} {M : Store} {Q : D → Store → Prop} {E : Nat → Store → Prop} {c : Cn} {xb xk xf xt : Str} {CS : Addr} {i ik jf kk : Nat} {x : List Nat} {scope : Scope} {p0 p1 p2 p3 p4 p5 p6 p7 p8 p9 pa pos : Pos} {j k2 : Nat}
/-- what the test's rule asks at a turn -/
def rtT (L : Lx) (X : Cx) (c : Cn) (ρ : Ro) (B : Bs) (τ : L2.St) (kk : Nat) (CS : Addr) (jf : Nat) (x : List Nat) : TT := fun σ2 U2 R => kk + 2 ≤ L.n ∧ ∃ a l k G2 M2, σ2[jf]? = some (some (.ref a)) ∧ FnAt X G2.h l a ∧ Frm X L.g B G2 U2 τ ρ ∧ Sta L.g G2 U2 M2 ∧ LamX.LamS X.env.scope l.scope ∧ noPar l.params = true ∧
  ToldQ L ρ M2 l kk CS c.rt (fun d M' => toldO c k ρ M2 = .ok d M') ∧ (∀ d G' M' H', Mv G2 U2 G' H' → Sta L.g G' H' M' → toldO c k ρ M2 = .ok d M' → D.sh 40 d = true ∧ R (!D.eqv d (.str x)) H')
theorem bads_rules {X : Cx} (ci : CI L X) (T : ToldOk L.g xt CS (mkS c.rt)) (hx : PyData.strOk (mkS x) = true) {B : Bs} {τ : L2.St} {pinL : List (Addr × Obj)}
    (hN : L.N[jf]? = some xf) (hv : Vis (relS scope L.sc) xf) (hd : (xf == ("__debug__" : Str)) = false) (hcd : (xf == ("__classdict__" : Str)) = false) (hg : (relS scope L.sc).names.lookup xt = some .globalImplicit) (hdt : (xt == ("__debug__" : Str)) = false)
    {u : Shared} {U : Hp} {A0 : Addr} {cs : List (Str × Addr)} {its : List Addr} (J : Inv X pinL τ U u) (hits : ∀ b ∈ its, FpOk X pinL U b) :
    PTs (X.blk u U scope (compEnvC scope cs A0 X.env) its) [.Compare (.Call (.Name xt p5) [.Name xf p6] [] p7) [.NotEq] [.Constant (.str (mkS x)) j p8] p9] (rtT L X c ρ B τ kk CS jf x) := by
  have cb := ci.blk scope u U A0 cs its
  refine pts_one ⟨fun pins s σ2 U2 R I h => ?_⟩
  obtain ⟨hk, a, l, k, G2, M2, hσ, FA, fr, st, S, hp, hq, hR⟩ := h
  have hop : OpR (X.blk u U scope (compEnvC scope cs A0 X.env) its) (compareOp .NotEq) (rNeD X.K) := op_neD cb.u64
  refine (pt_cmpR (X := X.blk u U scope (compEnvC scope cs A0 X.env) its) (pos := p9) hop (pe_wp (e := .Call (.Name xt p5) [.Name xf p6] [] p7)) (pe_str (X := X.blk u U scope (compEnvC scope cs A0 X.env) its) (x := mkS x)) rfl).run pins s σ2 U2 R I ?_
  intro pins' s' I'
  have T' := T
  obtain ⟨gA, fd, sd, ap, e, Ng, F, hm, _⟩ := T'.ex
  refine wpAny_Call_Name_kw (ld_glob I' (cb.gl hg) (by rw [ci.mg]; exact hm) ?_ hdt)
  refine PySem.W.callWith_K (h₀ := X.base) I'.ok.mod.kin (by rw [ci.K]; exact F.kp) ?_ (by rfl) (by rfl)
  have arg : PA (X.blk u U scope (compEnvC scope cs A0 X.env) its) [.Name xf p6] (tCons (tVar jf) tNil) := pa_cons (pe_var (i := jf) (by show X.N[jf]? = _; rw [ci.N]; exact hN) (cb.vis hv) hd hcd) pa_nil
  refine thn (arg.run p7 pins' s' σ2 U2 (fun vs H1 => vs = [V.ref a] ∧ H1 = U2) I' ⟨_, hσ, rfl, rfl⟩) fun us s1 ⟨vs, H1, I1, r1, ev, eH⟩ => ?_
  subst ev
  rw [eH] at I1
  obtain rfl := Vals.ref1 r1
  refine ⟨I1.kIn, ?_⟩
  have C0 : Capt X τ U u.heap := capt_of J
  have C1 : Capt X τ U2 s1.heap := C0.un I1.base fun y c0 e0 z => (hits c0 z).2.2.2.2.1 y c0 e0 rfl
  have kd : KD L.g G2 U2 (fun d M' => toldO c k ρ M2 = .ok d M') (fun w H' => tC (V.str (mkS x)) σ2 H' fun y H2 => rNeD X.K w y H2 fun z H' => ∃ b, z = V.bl b ∧ R b H') := fun w d G' M' H' m' s' r' e => by
    obtain ⟨hs, hr⟩ := hR d G' M' H' m' s' e
    refine ⟨d.py, .str (mkS x), ?_, .str _, sh_ok (by decide) hs, sh_ok (d := .str x) (n := 40) (by decide) hx, _, rfl, hr⟩
    rw [ci.K]; exact Rep.dp s'.ex hs r'
  obtain ⟨gA', hm', _, rc⟩ := told_code ci T I1.env0 (cb.room.mono hk) J.ok C1 S (noPar_bind hp _ _) FA fr st kd hq
  rw [hm] at hm'
  cases hm'
  refine wpAny_call (codeAny_mono rc fun r s2 hq => ?_)
  cases r with
  | error e => exact (show False from hq).elim
  | ok fl =>
    cases fl with
    | ret u => exact I1.after hq
    | next => cases hq
    | brk => cases hq
    | cont => cases hq
/-- the comprehension -/
theorem ev_bads (T : ToldOk L.g xt CS (mkS c.rt)) {ks : List Nat} {kn : Nat} {tpos : Pos}
    (hlk : ∀ k l M1, k ∈ ks → L.g.lk L.N L.sc k l → toldO c k ρ M1 ≠ .bad → kk + 2 ≤ L.n ∧ LamX.LamS L.sc l.scope ∧ noPar l.params = true ∧ ToldQ L ρ M1 l kk CS c.rt (fun d M' => toldO c k ρ M1 = .ok d M'))
    (hρ : ρ[i]? = some (.lam ks)) (hNi : L.N[i]? = some xb) (hvi : Vis L.sc xb) (hdi : (xb == ("__debug__" : Str)) = false) (hci : (xb == ("__classdict__" : Str)) = false) (hge : L.sc.names.lookup ("enumerate" : Str) = some .globalImplicit) (hme : L.g.mg "enumerate" = none)
    (hb : blkC L.N L.sc scope [(xk, ik), (xf, jf)] = true) (hij : ik ≠ jf) (nk : NameOk (L.blk scope) (.Name xk p1) ik) (nf : NameOk (L.blk scope) (.Name xf p2) jf)
    (hvk : Vis (relS scope L.sc) xk) (hdk : (xk == ("__debug__" : Str)) = false) (hck : (xk == ("__classdict__" : Str)) = false) (hNk : L.N[ik]? = some xk)
    (hN : L.N[jf]? = some xf) (hv : Vis (relS scope L.sc) xf) (hd : (xf == ("__debug__" : Str)) = false) (hcd : (xf == ("__classdict__" : Str)) = false) (hg : (relS scope L.sc).names.lookup xt = some .globalImplicit) (hdt : (xt == ("__debug__" : Str)) = false)
    (n : badsO c ρ i x M ≠ .bad) (hQ : ∀ d M', badsO c ρ i x M = .ok d M' → Q d M') :
    Ev L ρ M (.ListComp (.Name xk p0) [⟨.Tuple [.Name xk p1, .Name xf p2] kn tpos, .Call (.Name "enumerate" p3) [.Name xb p4] [] pa, [.Compare (.Call (.Name xt p5) [.Name xf p6] [] p7) [.NotEq] [.Constant (.str (mkS x)) j p8] p9], 0⟩] scope pos) Q E := fun X ci B σ G H R fr st kd kx pins s I => by
  have hO : badsO c ρ i x M = if (decide (ks.length ≤ 50000) && PyData.strOk (mkS x)) = true then (noEx (badsGo c ρ x ks 0 M)).bind fun ys M => .ok (.lst ys) M else .bad := by
    unfold badsO getL
    rw [hρ]
  rw [hO] at n
  by_cases hcnd : (decide (ks.length ≤ 50000) && PyData.strOk (mkS x)) = true
  rotate_left
  · rw [if_neg hcnd] at n; exact absurd rfl n
  rw [if_pos hcnd] at n hO
  obtain ⟨hlen, hx⟩ := Bool.and_eq_true_iff.mp hcnd
  have hlen := of_decide_eq_true hlen
  obtain ⟨ys0, Mf, hgo⟩ := noEx_some (Out.nb n)
  have efin : badsO c ρ i x M = .ok (.lst ys0) Mf := by rw [hO, hgo]; rfl
  obtain ⟨vb, hvb, pb, vs, rfl, gb, lb⟩ := fr.at_ i _ hρ
  have hsq : ∀ {G' : Gh} {H' : Hp} {M' : Store}, G.le G' → Sta L.g G' H' M' → SqL L.g.K H' pb vs := fun e s' => SqL.of (s'.ex _ _ (e.h _ _ gb))
  have lσ : σ.length = X.N.length := I.len
  have iσ : ik < σ.length := by rw [lσ, ci.N]; exact (List.getElem?_eq_some_iff.mp hNk).1
  have jσ : jf < σ.length := by rw [lσ, ci.N]; exact (List.getElem?_eq_some_iff.mp hN).1
  refine lc_told (mine := [(xk, ik), (xf, jf)]) (wi := WpI X (.Tuple [.Name xk p1, .Name xf p2] kn tpos) (.Call (.Name "enumerate" p3) [.Name xb p4] [] pa)) (gt := gP L.g.K (.tp [ik, jf])) (rt := rtT L X c ρ B σ kk CS jf x) (re := tVar ik) ci.calm (by rw [ci.N]; exact ci.nd) I pi_wp (by rw [ci.N, ci.sc]; exact blkOk_by hb)
    (fun u U A0 cs its => (show PatOk (L.blk scope) (.Tuple [.Name xk p1, .Name xf p2] kn tpos) (.tp [ik, jf]) from ⟨_, _, _, rfl, nk, nf, trivial⟩).pg (ci.blk scope u U A0 cs its))
    (fun u U A0 cs its J hits => ⟨bads_rules ci T hx hN hv hd hcd hg hdt J hits, pe_var (i := ik) (by show X.N[ik]? = _; rw [ci.N]; exact hNk) ((ci.blk scope u U A0 cs its).vis hvk) hdk hck⟩) (fun v => rfl) ?_
  refine wpI_of (pi_enum (X := X) (ci.gl hge) (by rw [ci.mg]; exact hme) (pa_cons (pe_var (X := X) (i := i) (by rw [ci.N]; exact hNi) (ci.vis hvi) hdi hci) pa_nil)) ?_
  refine ⟨.ref pb, hvb, pb, vs, rfl, by rw [ci.K]; exact hsq (.refl _) st, ?_⟩
  rw [ci.K]
  intro Dl hD
  obtain ⟨st0, mv0⟩ := st.newU (o := .lst []) hD
  have lvs : vs.length = ks.length := lb.len
  refine ⟨fun t m H' => m = vs.length - t ∧ t ≤ vs.length ∧ ∃ G' M' out zs ws, Sta L.g G' H' M' ∧ Mv G H G' H' ∧ G'.h Dl = none ∧ Dl ∉ G'.A ∧ H' Dl = some (.lst ws) ∧ Reps L.g G' out ws ∧ badsGo c ρ x (ks.drop t) t M' = .ok zs Mf ∧ out ++ zs = ys0 ∧ out.length ≤ t,
    ⟨vs.length, by simp, Nat.zero_le _, G, M, [], ys0, [], st0, mv0, st.free hD, st.notin hD, upd_same, Reps.nil, by simpa using hgo, rfl, Nat.zero_le _⟩, ?_⟩
  rintro t m H' ⟨rfl, ht, G', M', out, zs, ws, s', m', nG', nA', hDl, rO, hg', he, ho⟩
  by_cases hlt : t < vs.length
  · obtain ⟨k, hkt, edrop⟩ := drop_cons (xs := ks) (i := t) (by omega)
    rw [edrop] at hg'
    unfold badsGo at hg'
    obtain ⟨a, l, hva, FA, hl⟩ := lb.get hkt
    rw [ci.N, ci.sc] at hl
    cases htd : toldO c k ρ M' with
    | bad => rw [htd] at hg'; cases hg'
    | ex C M2 => rw [htd] at hg'; cases hg'
    | ok d M2 =>
      rw [htd] at hg'
      have hg' : (if D.sh 40 d = true then (badsGo c ρ x (ks.drop (t + 1)) (t + 1) M2).bind fun ys M => .ok (if D.eqv d (.str x) = true then ys else .int (t : Int) :: ys) M else .bad) = .ok zs Mf := hg'
      by_cases hsh : D.sh 40 d = true
      rotate_left
      · rw [if_neg hsh] at hg'; cases hg'
      rw [if_pos hsh] at hg'
      cases hrest : badsGo c ρ x (ks.drop (t + 1)) (t + 1) M2 with
      | bad => rw [hrest] at hg'; cases hg'
      | ex C M3 => rw [hrest] at hg'; cases hg'
      | ok zr Mr =>
        rw [hrest] at hg'
        have hg' : (Out.ok (if D.eqv d (.str x) = true then zr else .int (t : Int) :: zr) Mr : Out (List D)) = .ok zs Mf := hg'
        injection hg' with ez eM
        subst eM
        obtain ⟨hk, S, hnp, hq⟩ := hlk k l M' (List.mem_of_getElem? hkt) hl (by rw [htd]; intro z; cases z)
        refine .inr ⟨⟨vs, .ref a, hsq m'.g s', hva⟩, fun H2 => ∃ G2 M2' out2 zs2 ws2, Sta L.g G2 H2 M2' ∧ Mv G H G2 H2 ∧ G2.h Dl = none ∧ Dl ∉ G2.A ∧ H2 Dl = some (.lst ws2) ∧ Reps L.g G2 out2 ws2 ∧ badsGo c ρ x (ks.drop (t + 1)) (t + 1) M2' = .ok zs2 Mr ∧ out2 ++ zs2 = ys0 ∧ out2.length ≤ t + 1, fun H2 q => ⟨vs.length - (t + 1), by omega, rfl, hlt, q⟩, fun w H2 hy => ?_⟩
        obtain ⟨Ta, x2, rfl, nT, rfl, ex⟩ := hy
        have ex := ex vs (hsq m'.g s')
        rw [hva] at ex
        cases ex
        obtain ⟨s2, m2⟩ := s'.newG (o := .tup [.int (t : Nat), .ref a]) nT (fun ps z => by cases z)
        have keepD : ∀ {Ga Gb : Gh} {Ha Hb : Hp}, Mv Ga Ha Gb Hb → Ow ⟨G, H, none⟩ Ga Dl → Ha Dl = some (.lst ws) → Ow ⟨G, H, none⟩ Gb Dl ∧ Hb Dl = some (.lst ws) := fun {Ga Gb Ha Hb} mv o e => ⟨o.move mv (by rw [e]; intro z; cases z), mv.keep _ _ e (fun ps z => by cases z) o.A⟩
        obtain ⟨ow2, hD2⟩ := keepD m2 ⟨hD, nG', nA'⟩ hDl
        have m12 := m'.trans s' m2
        refine ⟨Ta, [.int (t : Nat), .ref a], rfl, SqT.of upd_same, rfl, .int (t : Nat), [.ref a], rfl, .ref a, [], rfl, rfl, ?_⟩
        refine ⟨wipe_set (τ := σ) (by simp) (wipe_set (τ := σ) (by simp) (wipe_wipe _ _)), ?_⟩
        have lw : (wipe σ [ik, jf]).length = σ.length := wipe_length _ _
        refine ⟨hk, a, l, k, _, M', by rw [List.getElem?_set_self (by simp [lw, jσ])], FA.mono fun b o q _ => m12.g.h _ _ q, fr.move m12, s2, by rw [ci.sc]; exact S, hnp, hq, fun d3 G3 M3 H3 m3 s3 e3 => ?_⟩
        rw [htd] at e3
        injection e3 with e4 e5
        subst e4
        subst e5
        refine ⟨hsh, ?_⟩
        obtain ⟨ow3, hD3⟩ := keepD m3 ow2 hD2
        have m13 := m12.trans s2 m3
        have r3 := (rO.mono m2.g).mono m3.g
        by_cases heq : D.eqv d (.str x) = true
        · rw [heq]
          rw [if_pos heq] at ez
          subst ez
          rw [if_neg (by simp)]
          exact ⟨G3, M2, out, zr, ws, s3, m13, ow3.g, ow3.A, hD3, r3, hrest, he, by omega⟩
        · have hf : D.eqv d (.str x) = false := by simpa using heq
          rw [hf]
          rw [if_neg heq] at ez
          subst ez
          rw [if_pos (by rfl)]
          refine ⟨.int (t : Nat), by rw [List.getElem?_set_ne (Ne.symm hij), List.getElem?_set_self (by rw [wipe_length]; exact iσ)], ws, hD3, ?_, ?_⟩
          · rw [rO.length]
            exact Nat.lt_of_le_of_lt (Nat.le_trans ho (Nat.le_trans (Nat.le_of_lt hlt) (by rw [lvs]; exact hlen))) (by decide)
          · obtain ⟨s5, m5⟩ := s3.putOwn (B := ⟨G, H, none⟩) (o := .lst (ws ++ [.int (t : Nat)])) ow3 hD3 (fun ps z => by cases z) m13
            exact ⟨G3, M2, out ++ [.int (t : Int)], zr, ws ++ [.int (t : Nat)], s5, m5, ow3.g, ow3.A, upd_same, r3.append (.one rep_int), hrest, by rw [← he]; simp, by simp; omega⟩
  · have e : t = vs.length := by omega
    subst e
    rw [lvs, List.drop_length] at hg'
    cases hg'
    rw [List.append_nil] at he
    subst he
    refine .inl ⟨⟨vs, hsq m'.g s', Nat.le_refl _⟩, ?_⟩
    obtain ⟨s5, m5, l5⟩ := s'.freeze (B := ⟨G, H, none⟩) ⟨hD, nG', nA'⟩ hDl (fun ps z => by cases z) m'
    exact kd (.ref Dl) (.lst out) _ _ _ m5 s5 ⟨Dl, ws, rfl, upd_same, rO.mono l5⟩ (hQ _ _ efin)
end
end PI
set_option Elab.async false
set_option linter.all false
set_option maxRecDepth 100000
set_option maxHeartbeats 4000000
/-! PJ: what is looked at in the text; the run tells what the code does: expressions. -/
namespace PI
open PySem L2
/-! ### looks -/
def notSlice : Expr → Bool
  | .Slice _ _ _ _ => false
  | _ => true
theorem plain_of {b : Expr} (h : notSlice b = true) : PlainIx b := fun o i => by
  cases b <;> first | rfl | cases h
def notSet : Expr → Bool
  | .Set _ _ _ => false
  | _ => true
theorem fold_of {b : Expr} (h : notSet b = true) (env : PySem.Env) (x : Value) : foldedSetIterable b env x = pure x := by
  cases b <;> first | rfl | cases h
def notSetL : Expr → Bool
  | .Set _ _ _ => false
  | .List _ _ => false
  | _ => true
theorem gfold_of {b : Expr} (h : notSetL b = true) (env : PySem.Env) (x : Value) : genFold b env x = pure x := by
  cases b <;> first | rfl | cases h
def isTup : Expr → Bool
  | .Tuple _ _ _ => true
  | _ => false
def isPlainT : Expr → Bool
  | .UnaryOp .Not _ _ => false
  | .BoolOp _ _ _ => false
  | .IfExp _ _ _ _ => false
  | .Compare _ _ _ _ => false
  | _ => true
theorem plainT {a : Expr} (h : isPlainT a = true) (env : PySem.Env) (whole : Sem Value) : isTrue a env whole = (do let v ← whole; standAt a.pos; holding [v] (truthy v)) := by
  cases a with
  | UnaryOp op x p => cases op <;> first | rfl | cases h
  | _ => first | rfl | cases h
/-- what is looked at within one code: its names, its scope -/
structure Sx where
  N : List Str
  sc : Scope
  fn : Str → Bool
  gen : Bool
  top : Bool
  lam : Bool
/-- the module's names of what a text's run calls by number -/
structure Nm where
  fn : Nat → Option Str
  gl : Nat → Option Str
  ex : Nat → Option Str
  at_ : Nat → Option Str := fun _ => none
  mkr : Nat → Option Str := fun _ => none
  td : Option Str := none
  lc : List Str → Scope → Nat → LamD → Bool := fun _ _ _ _ => false
def visB (sc : Scope) (x : Str) : Bool := match sc.names.lookup x with
  | some .local => true
  | some .cell => true
  | some .free => true
  | _ => false
def gloB (sc : Scope) (x : Str) : Bool := decide (sc.names.lookup x = some .globalImplicit) && !(x == ("__debug__" : Str))
def varB (S : Sx) (i : Nat) (x : Str) : Bool := decide (S.N[i]? = some x) && visB S.sc x && !(x == ("__debug__" : Str)) && !(x == ("__classdict__" : Str))
def locB (S : Sx) (j : Nat) (x : Str) : Bool := decide (S.N[j]? = some x) && (match S.sc.names.lookup x with
  | some .local => true
  | some .cell => S.fn x
  | _ => false)
def nameT (S : Sx) : Expr → Nat → Bool
  | .Name x _, j => locB S j x
  | _, _ => false
def namesT (S : Sx) : List Expr → List Nat → Bool
  | [], [] => true
  | e :: es, j :: js => nameT S e j && namesT S es js
  | _, _ => false
def patB (S : Sx) (tg : Expr) : Pat → Bool
  | .nm j => nameT S tg j
  | .tp js => match tg with
    | .Tuple es _ _ => namesT S es js
    | _ => false
def biName : BI → Str
  | .len => "len" | .abs => "abs" | .int => "int" | .sum => "sum" | .tuple => "tuple" | .list => "list" | .min => "min" | .max => "max" | .sorted => "sorted"
def Sx.blk (S : Sx) (scope : Scope) : Sx := ⟨S.N, relS scope S.sc, fun x => scope.names.lookup x == some .cell, S.gen, false, false⟩
def Sx.gn (S : Sx) (scope : Scope) (Ng : List Str) : Sx := ⟨Ng, scope, fun x => scope.names.lookup x == some .cell, false, false, false⟩
/-- the names of a generator expression's slots -/
def tgNames : Expr → List Str
  | .Name x _ => [x]
  | .Tuple es _ _ => es.filterMap fun e => match e with
    | .Name x _ => some x
    | _ => none
  | _ => []
def genNames (N : List Str) (tg : Expr) (pt : Pat) (src : List (Option Nat)) : List Str := (List.range src.length).map fun j => match src[j]? with
  | some (some i) => N.getD i (mkS [])
  | _ => ((pt.js.zip (tgNames tg)).lookup j).getD (mkS [])
def ownNames (N : List Str) (own : List Nat) : List (Str × Nat) := own.map fun j => (N.getD j (mkS []), j)
def nonE : E → Bool
  | .non => true
  | _ => false
def isCmpNon : COp → Bool
  | .isN => true
  | .isNN => true
  | _ => false
def qName (st : Bool) : Str := if st = true then "any" else "all"
section
variable (nm : Nm)
mutual
def ckE (S : Sx) : E → Expr → Bool
  | .non, py => match py with
    | .Constant .none _ _ => true
    | _ => false
  | .bl b, py => match py with
    | .Constant (.bool c) _ _ => b == c
    | _ => false
  | .int i, py => match py with
    | .Constant (.int j) _ _ => decide (i = j)
    | _ => false
  | .str x, py => match py with
    | .Constant (.str s) _ _ => decide (mkS x = s)
    | _ => false
  | .v i, py => match py with
    | .Name x _ => varB S i x
    | _ => false
  | .g k, py => match py with
    | .Name x _ => decide (nm.gl k = some x) && gloB S.sc x
    | _ => false
  | .neg a, py => match py with
    | .UnaryOp .USub p _ => ckE S a p
    | _ => false
  | .not a, py => match py with
    | .UnaryOp .Not p _ => ckE S a p
    | _ => false
  | .bin o a b, py => match py with
    | .BinOp p op q _ => decide (pyB o = op) && (ckE S a p && ckE S b q)
    | _ => false
  | .cmp o a b, py => match py with
    | .Compare p [op] [q] _ => decide (pyC o = op) && (!behindInMarks op q && ((!isCmpNon o || nonE b) && (ckE S a p && ckE S b q)))
    | _ => false
  | .chain o o' a b c, py => match py with
    | .Compare p [op, op'] [q, r] _ => decide (pyC o = op) && (decide (pyC o' = op') && (!lastMarks [op, op'] [q, r] && ((!isCmpNon o && !isCmpNon o') && (ckE S a p && (ckE S b q && ckE S c r)))))
    | _ => false
  | .and es, py => match py with
    | .BoolOp .And ps _ => ckEs S es ps && decide (2 ≤ ps.length)
    | _ => false
  | .or es, py => match py with
    | .BoolOp .Or ps _ => ckEs S es ps && decide (2 ≤ ps.length)
    | _ => false
  | .ite t a b, py => match py with
    | .IfExp p q r _ => ckE S t p && (ckE S a q && ckE S b r)
    | _ => false
  | .tup es, py => match py with
    | .Tuple ps _ _ => ckEs S es ps && ps.all notStar
    | _ => false
  | .lst es, py => match py with
    | .List ps _ => ckEs S es ps && ps.all notStar
    | _ => false
  | .ix a b, py => match py with
    | .Subscript p q _ => notSlice q && (ckE S a p && ckE S b q)
    | _ => false
  | .sl a lo hi, py => match py with
    | .Subscript p (.Slice l h none _) _ => ckE S a p && (ckEo S lo l && ckEo S hi h)
    | _ => false
  | .call f es, py => match py with
    | .Call (.Name x _) ps [] _ => decide (nm.fn f = some x) && (gloB S.sc x && (ckEs S es ps && ps.all notStar))
    | _ => false
  | .bi b es, py => match py with
    | .Call (.Name x _) ps [] _ => decide (biName b = x) && (gloB S.sc x && (ckEs S es ps && (ps.all notStar && decide (1 ≤ ps.length))))
    | _ => false
  | .lc own pt it elt ifs, py => match py with
    | .ListComp pe [⟨tg, iter, pifs, a⟩] scope _ => decide (a = 0) && (blkC S.N S.sc scope (ownNames S.N own) && (pt.js.all (own.contains ·) && (notSet iter && (patB (S.blk scope) tg pt && (ckI S (isTup tg) it iter && (ckE (S.blk scope) elt pe && ckIf (S.blk scope) ifs pifs))))))
    | _ => false
  | .tupG src pt it elt ifs, py => match py with
    | .Call (.Name x _) [.GeneratorExp pe [⟨tg, iter, pifs, a⟩] scope _] [] _ => decide (a = 0) && (decide (x = ("tuple" : Str)) && (gloB S.sc x && (S.gen && (gscp S.N S.sc scope (genNames S.N tg pt src) src && (notSetL iter && (patB (S.gn scope (genNames S.N tg pt src)) tg pt && (ckI S (isTup tg) it iter &&
      (ckE (S.gn scope (genNames S.N tg pt src)) elt pe && ckIf (S.gn scope (genNames S.N tg pt src)) ifs pifs))))))))
    | _ => false
  | .lenO i, py => match py with
    | .Call (.Name x _) [.Name y _] [] _ => decide (x = ("len" : Str)) && (gloB S.sc x && varB S i y)
    | _ => false
  | .ixO i e, py => match py with
    | .Subscript (.Name x _) q _ => notSlice q && (varB S i x && ckE S e q)
    | _ => false
  | .attr a n, py => match py with
    | .Attribute p x _ => decide (nm.at_ n = some x) && (baseB p && ckE S a p)
    | _ => false
  | .attrO i n, py => match py with
    | .Attribute (.Name y _) x _ => decide (nm.at_ n = some x) && varB S i y
    | _ => false
  | .meth a n es, py => match py with
    | .Call (.Attribute p x ap) ps [] pos => decide (nm.at_ n = some x) && (baseB p && ((ap.endLine == pos.line) && (ps.all notStar && (decide (ps.length < 30) && (ckE S a p && ckEs S es ps)))))
    | _ => false
  | .make mu f es, py => match py with
    | .Call (.Name x _) ps [] _ => decide (nm.mkr f = some x) && (gloB S.sc x && (ckEs S es ps && ps.all notStar))
    | _ => false
  | .mlst es, py => match py with
    | .List ps _ => ckEs S es ps && ps.all notStar
    | _ => false
  | .qG st src pt it elt ifs, py => match py with
    | .Call (.Name x _) [.GeneratorExp pe [⟨tg, iter, pifs, a⟩] scope _] [] _ => decide (a = 0) && (decide (qName st = x) && (gloB S.sc x && (S.gen && (gscp S.N S.sc scope (genNames S.N tg pt src) src && (notSetL iter && (patB (S.gn scope (genNames S.N tg pt src)) tg pt && (ckI S (isTup tg) it iter &&
      (ckE (S.gn scope (genNames S.N tg pt src)) elt pe && ckIf (S.gn scope (genNames S.N tg pt src)) ifs pifs))))))))
    | _ => false
  | .told k, py => match py with
    | .Call (.Name x _) [.Lambda ps body sc _] [] _ => decide (nm.td = some x) && (gloB S.sc x && (S.lam && nm.lc S.N S.sc k ⟨ps, body, sc⟩))
    | _ => false
  | .bads i ik jf x, py => match py with
    | .ListComp (.Name xk _) [⟨.Tuple [.Name xk' p1, .Name xf p2] _ _, .Call (.Name en _) [.Name xb _] [] _, [.Compare (.Call (.Name xt _) [.Name xf' _] [] _) [.NotEq] [.Constant (.str s) _ _] _], a⟩] scope _ =>
      decide (a = 0) && (decide (xk' = xk) && (decide (xf' = xf) && (decide (en = ("enumerate" : Str)) && (gloB S.sc en && (varB S i xb && (decide (mkS x = s) && (blkC S.N S.sc scope [(xk, ik), (xf, jf)] && (decide (ik ≠ jf) &&
      (nameT (S.blk scope) (.Name xk p1) ik && (nameT (S.blk scope) (.Name xf p2) jf && (varB (S.blk scope) ik xk && (varB (S.blk scope) jf xf && (decide (nm.td = some xt) && gloB (S.blk scope).sc xt)))))))))))))
    | _ => false
def ckEs (S : Sx) : Es → List Expr → Bool
  | .nil, [] => true
  | .cons e es, p :: ps => ckE S e p && ckEs S es ps
  | _, _ => false
def ckEo (S : Sx) : Eo → Option Expr → Bool
  | .no, none => true
  | .so e, some p => ckE S e p
  | _, _ => false
def ckIf (S : Sx) : Eo → List Expr → Bool
  | .no, [] => true
  | .so e, [p] => ckE S e p
  | _, _ => false
def ckI (S : Sx) (tup : Bool) : I → Expr → Bool
  | .range1 a, py => match py with
    | .Call (.Name x _) [p] [] _ => decide (x = ("range" : Str)) && (gloB S.sc x && (notStar p && ckE S a p))
    | _ => false
  | .range2 a b, py => match py with
    | .Call (.Name x _) [p, q] [] _ => decide (x = ("range" : Str)) && (gloB S.sc x && (notStar p && (notStar q && (ckE S a p && ckE S b q))))
    | _ => false
  | .enum a, py => match py with
    | .Call (.Name x _) [p] [] _ => tup && (decide (x = ("enumerate" : Str)) && (gloB S.sc x && (notStar p && ckE S a p)))
    | _ => false
  | .zip a b, py => match py with
    | .Call (.Name x _) [p, q] [] _ => tup && (decide (x = ("zip" : Str)) && (gloB S.sc x && (notStar p && (notStar q && (ckE S a p && ckE S b q)))))
    | _ => false
  | .seq e, py => ckE S e py
end
end
end PI
set_option Elab.async false
set_option linter.all false
set_option maxRecDepth 100000
set_option maxHeartbeats 4000000
/-! PK: the run of an expression tells what the code does. -/
namespace PI
open PySem L2
def bNames : List Str := ["len", "abs", "int", "sum", "tuple", "list", "min", "max", "sorted", "any", "all", "range", "enumerate", "zip"]
structure Hyp (nm : Nm) (c : Cn) (g : Gx) (m : Nat) : Prop where
  fn : ∀ f x, nm.fn f = some x → Fn g x m (c.Φ f)
  gl : ∀ k x d, nm.gl k = some x → c.gl k = some d → KRep g x d
  bu : ∀ x ∈ bNames, g.mg x = none
  ex : ∀ C x, nm.ex C = some x → ExcC g x (g.ca C)
  at_ : ∀ n x, nm.at_ n = some x → g.an n = x
  inj : Inj g.an
  fld : ∀ cl n, c.fl cl n = true → FldOk g cl n
  mth : ∀ cl n f, c.mt cl n = some f → MethOk g cl n m (c.Φ f)
  mkr : ∀ f x, nm.mkr f = some x → MkO g x m (c.Φ f)
  td : ∀ x, nm.td = some x → ∃ CS, ToldOk g x CS (mkS c.rt) ∧ ∀ C, c.ct C = true → PySem.W.exmOne g.K (.ref (g.ca C)) (.ref CS) = some true
  lk : ∀ N sc k l, nm.lc N sc k l = true → g.lk N sc k l ∧ LamX.LamS sc l.scope ∧ noPar l.params = true
  lam : ∀ N sc k l, g.lk N sc k l → ∀ ρ M, c.Λ k ρ M ≠ .bad → 2 ≤ m ∧ LamX.LamS sc l.scope ∧ noPar l.params = true ∧ ∀ L : Lx, L.g = g → L.N = N → L.sc = l.scope → L.fn = (fun _ => false) → m - 2 ≤ L.n → EvO L ρ M l.body (c.Λ k ρ M)
structure LOk (nm : Nm) (c : Cn) (m : Nat) (S : Sx) (L : Lx) : Prop where
  N : L.N = S.N
  sc : L.sc = S.sc
  fn : L.fn = S.fn
  hy : Hyp nm c L.g m
  lv : m ≤ L.n
  cd : S.gen = true → (∃ P, L.cd = some (P, none)) ∧ m + 5 ≤ L.n
  cl : S.lam = true → ∃ P q, L.cd = some (P, some q)
section
variable {nm : Nm} {c : Cn} {m : Nat} {S : Sx} {L : Lx} {ρ : Ro} {M : Store} {a b e py : Expr} {pos p : Pos} {oa : Out D}
theorem LOk.blk (h : LOk nm c m S L) (scope : Scope) : LOk nm c m (S.blk scope) (L.blk scope) := ⟨h.N, by show relS scope L.sc = relS scope S.sc; rw [h.sc], rfl, h.hy, h.lv, h.cd, (fun z => by cases z)⟩
theorem LOk.gn (h : LOk nm c m S L) (scope : Scope) (Ng : List Str) : LOk nm c m (S.gn scope Ng) (L.gen scope Ng m) := ⟨rfl, rfl, rfl, h.hy, Nat.le_refl _, (fun z => by cases z), (fun z => by cases z)⟩
theorem LOk.glo (h : LOk nm c m S L) {x : Str} (hg : gloB S.sc x = true) : L.sc.names.lookup x = some .globalImplicit ∧ (x == ("__debug__" : Str)) = false := by
  unfold gloB at hg
  simp only [Bool.and_eq_true, decide_eq_true_eq, Bool.not_eq_true'] at hg
  rw [h.sc]; exact hg
theorem vis_of {sc : Scope} {x : Str} (h : visB sc x = true) : Vis sc x := by
  unfold visB at h
  split at h
  · rename_i e; exact .inl e
  · rename_i e; exact .inr (.inl e)
  · rename_i e; exact .inr (.inr e)
  · cases h
theorem LOk.var (h : LOk nm c m S L) {i : Nat} {x : Str} (hv : varB S i x = true) : L.N[i]? = some x ∧ Vis L.sc x ∧ (x == ("__debug__" : Str)) = false ∧ (x == ("__classdict__" : Str)) = false := by
  unfold varB at hv
  simp only [Bool.and_eq_true, decide_eq_true_eq, Bool.not_eq_true'] at hv
  rw [h.N, h.sc]
  exact ⟨hv.1.1.1, vis_of hv.1.1.2, hv.1.2, hv.2⟩
theorem LOk.name (h : LOk nm c m S L) {e : Expr} {j : Nat} (hn : nameT S e j = true) : NameOk L e j := by
  cases e with
  | Name x p =>
    have hn : locB S j x = true := hn
    unfold locB at hn
    simp only [Bool.and_eq_true, decide_eq_true_eq] at hn
    refine ⟨x, p, rfl, by rw [h.N]; exact hn.1, ?_, ?_⟩
    · have := hn.2
      rw [h.sc]
      split at this
      · rename_i e; exact .inl e
      · rename_i e; exact .inr e
      · cases this
    · have := hn.2
      rw [h.sc, h.fn]
      split at this
      · rename_i e; exact .inr e
      · exact .inl this
      · cases this
  | _ => cases hn
theorem LOk.names (h : LOk nm c m S L) : ∀ {es : List Expr} {js : List Nat}, namesT S es js = true → NamesOk L es js
  | [], [], _ => trivial
  | e :: es, j :: js, hn => by
    have hn : (nameT S e j && namesT S es js) = true := hn
    rw [Bool.and_eq_true] at hn
    exact ⟨h.name hn.1, h.names hn.2⟩
  | [], _ :: _, hn => by cases hn
  | _ :: _, [], hn => by cases hn
theorem LOk.pat (h : LOk nm c m S L) {tg : Expr} {pt : Pat} (hp : patB S tg pt = true) : PatOk L tg pt := by
  cases pt with
  | nm j => exact h.name hp
  | tp js =>
    cases tg with
    | Tuple es k p => exact ⟨_, _, _, rfl, h.names hp⟩
    | _ => cases hp
theorem getS_some {i : Nat} {d : D} (h : getS ρ i = some d) : ρ[i]? = some (.v d) := by
  unfold getS at h
  split at h
  · rename_i e; cases h; exact e
  · cases h
theorem getO_some {i : Nat} {d : List D} (h : getO ρ i = some d) : ρ[i]? = some (.own d) := by
  unfold getO at h
  split at h
  · rename_i e; cases h; exact e
  · cases h
/-- a plain expression as a test -/
theorem tval (hp : isPlainT py = true) (h : EvO L ρ M py oa) : EvTO L ρ M py oa := fun n => et_val (plainT hp) ((h n.1).mono (fun d M1 e => by obtain ⟨b, rfl⟩ := n.2 _ _ e; exact ⟨b, rfl, e⟩) fun _ _ z => z)
theorem isB_bind {k : D → Store → Out D} (n : oa.bind k ≠ .bad) (h : ∀ d M, k d M ≠ .bad → ∃ b, d = .bl b) : IsB oa := ⟨Out.nb n, fun d M e => h d M (by rw [e] at n; exact n)⟩
theorem EvTO.step {β : Type} {k : D → Store → Out β} (h : EvTO L ρ M e oa) (n : oa.bind k ≠ .bad) (hb : ∀ d M, k d M ≠ .bad → ∃ b, d = .bl b) : EvT L ρ M e (fun b M1 => oa = .ok (.bl b) M1 ∧ k (.bl b) M1 ≠ .bad ∧ oa.bind k = k (.bl b) M1) (fun C M1 => oa.bind k = .ex C M1) :=
  (h ⟨Out.nb n, fun d M e => hb d M (by rw [e] at n; exact n)⟩).mono (fun x M1 q => ⟨q, by rw [q] at n; exact n, by rw [q]; rfl⟩) fun C M1 q => by rw [q]; rfl
/-- IfExp as a test -/
theorem et_ite {t x y : Expr} {QB : Bool → Store → Prop} {E : Nat → Store → Prop} (h : EvT L ρ M t (fun k M1 => if k = true then EvT L ρ M1 x QB E else EvT L ρ M1 y QB E) E) : EvT L ρ M (.IfExp t x y pos) QB E := fun X ci B σ G H R f s k kx pins st I => by
  show wpAny _ _ (do if ← isTrue t X.env (eval t X.env) then isTrue x X.env (eval x X.env) else isTrue y X.env (eval y X.env)) _ _ _
  refine wpAny_bind (thn (h X ci B σ G H (fun kk H1 => ∃ G1 M1, Mv G H G1 H1 ∧ Sta L.g G1 H1 M1 ∧ (if kk = true then EvT L ρ M1 x QB E else EvT L ρ M1 y QB E)) f s (fun kk G' M' H' m' s' q => ⟨G', M', m', s', q⟩) kx pins st I) fun kk s1 ⟨H1, I1, G1, M1, m1, s1', q⟩ => ?_)
  cases kk with
  | true =>
    rw [if_pos rfl] at q
    exact q X ci B σ G1 H1 R (f.move m1) s1' (k.move s1' m1) (kx.move s1' m1) pins s1 I1
  | false =>
    rw [if_neg Bool.false_ne_true] at q
    exact q X ci B σ G1 H1 R (f.move m1) s1' (k.move s1' m1) (kx.move s1' m1) pins s1 I1
/-! ### built-ins -/
theorem one_ex {g : Gx} {G : Gh} {d : D} {vs : List V} (h : Reps g G [d] vs) : ∃ v, vs = [v] ∧ Rep g G d v := h.of_one
def rLen2 (X : Cx) : List V → Hp → VK → Prop := fun xs H Q => (∃ p ys, xs = [.ref p] ∧ (SqL X.K H p ys ∨ SqT X.K H p ys) ∧ Q (.int ys.length) H) ∨ (∃ x, xs = [.str x] ∧ x.length ≤ sizeLine ∧ Q (.int x.length) H)
theorem call_len2 {X : Cx} : CallR X (.builtin "len") (rLen2 X) := call_len_seq.or call_len_str
theorem oc_len {ds : List D} {z : D} {Q : D → Store → Prop} (h : biLen M ds = some z) (q : Q z M) : OC L rLen2 ds M Q := fun X ci G H vs R s r k => by
  unfold biLen at h
  split at h
  · obtain ⟨hb, rfl⟩ := grd_some h
    obtain ⟨v, rfl, rv⟩ := one_ex r
    rename_i x
    have rv : v = .str (mkS x) := rv
    subst rv
    refine .inr ⟨mkS x, rfl, by rw [mkS_len]; exact sz_of (of_decide_eq_true hb), ?_⟩
    rw [mkS_len]
    exact k _ _ G M H (.refl ..) s rep_int q
  · split at h
    · rename_i ds hs
      cases h
      obtain ⟨v, rfl, rv⟩ := one_ex r
      obtain ⟨p, us, rfl, h1, h2⟩ := seqOf_rd s hs rv
      refine .inl ⟨p, us, rfl, by rw [ci.K]; exact h1, ?_⟩
      rw [h2.length]
      exact k _ _ G M H (.refl ..) s rep_int q
    · cases h
  · cases h
def rAbs (_ : Cx) : List V → Hp → VK → Prop := fun xs H Q => ∃ i, xs = [.int i] ∧ Q (.int (if i < 0 then -i else i)) H
theorem oc_abs {ds : List D} {z : D} {Q : D → Store → Prop} (h : biAbs ds = some z) (q : Q z M) : OC L rAbs ds M Q := fun X ci G H vs R s r k => by
  unfold biAbs at h
  split at h
  · cases h
    obtain ⟨v, rfl, rv⟩ := one_ex r
    rename_i i
    have rv : v = .int i := rv
    subst rv
    exact ⟨i, rfl, k _ _ G M H (.refl ..) s rep_int q⟩
  · cases h
def rInt (_ : Cx) : List V → Hp → VK → Prop := fun xs H Q => (∃ i, xs = [.int i] ∧ Q (.int i) H) ∨ ∃ k, xs = [.bl k] ∧ Q (.int (if k then 1 else 0)) H
theorem oc_int {ds : List D} {z : D} {Q : D → Store → Prop} (h : biInt ds = some z) (q : Q z M) : OC L rInt ds M Q := fun X ci G H vs R s r k => by
  unfold biInt at h
  split at h
  · cases h
    obtain ⟨v, rfl, rv⟩ := one_ex r
    rename_i i
    have rv : v = .int i := rv
    subst rv
    exact .inl ⟨i, rfl, k _ _ G M H (.refl ..) s rep_int q⟩
  · cases h
    obtain ⟨v, rfl, rv⟩ := one_ex r
    rename_i i
    have rv : v = .bl i := rv
    subst rv
    refine .inr ⟨i, rfl, ?_⟩
    exact k _ (.int (bI i)) G M H (.refl ..) s rep_int q
  · cases h
theorem intsOf_eq : ∀ {ds : List D} {is : List Int}, intsOf ds = some is → ds = is.map D.int
  | [], is, h => by cases h; rfl
  | .int i :: ds, is, h => by
    unfold intsOf at h
    split at h
    · rename_i is' e
      cases h
      rw [intsOf_eq e]; rfl
    · cases h
  | .non :: _, _, h => by cases h
  | .bl _ :: _, _, h => by cases h
  | .str _ :: _, _, h => by cases h
  | .tup _ :: _, _, h => by cases h
  | .lst _ :: _, _, h => by cases h
  | .seq _ :: _, _, h => by cases h
  | .ref _ :: _, _, h => by cases h
  | .obj _ _ _ :: _, _, h => by cases h
  | .dct _ _ :: _, _, h => by cases h
theorem Reps.ints {g : Gx} {G : Gh} : ∀ {ns : List Int} {vs : List V}, Reps g G (ns.map D.int) vs → vs = ns.map V.int
  | [], _, h => h
  | n :: ns, _, h => by
    obtain ⟨v, ws, rfl, h1, h2⟩ := h
    have h1 : v = .int n := h1
    rw [h1, Reps.ints h2]; rfl
theorem oc_sum {ds : List D} {z : D} {Q : D → Store → Prop} (h : biSum ds = some z) (q : Q z M) : OC L (fun X => rSum X.K) ds M Q := fun X ci G H vs R s r k => by
  unfold biSum at h
  split at h
  · split at h
    · rename_i ds is hi
      cases h
      obtain ⟨v, rfl, q', us, rfl, h1, h2⟩ := one_ex r
      have e := intsOf_eq hi
      subst e
      exact ⟨q', is, rfl, by rw [ci.K, ← h2.ints]; exact SqL.of (s.ex _ _ h1), k _ _ G M H (.refl ..) s rep_int q⟩
    · cases h
  · cases h
def rTup : Cx → List V → Hp → VK → Prop := fun X xs H Q => ∃ p ys, xs = [.ref p] ∧ ((SqL X.K H p ys ∧ ∀ l, H l = none → Q (.ref l) (upd H l (.tup ys))) ∨ (SqT X.K H p ys ∧ Q (.ref p) H))
theorem oc_tuple {ds : List D} {z : D} {Q : D → Store → Prop} (h : biTuple M ds = some z) (q : Q z M) : OC L rTup ds M Q := fun X ci G H vs R s r k => by
  unfold biTuple at h
  split at h
  · split at h
    · rename_i d _ es hs
      cases h
      obtain ⟨v, rfl, rv⟩ := one_ex r
      have aux : ∀ p us, SqL L.g.K H p us → Reps L.g G es us → rTup X [.ref p] H R := fun p us h1 h2 => by
        refine ⟨p, us, rfl, .inl ⟨by rw [ci.K]; exact h1, fun l nl => ?_⟩⟩
        obtain ⟨s', m'⟩ := s.newG (o := .tup us) nl (fun ps z => by cases z)
        exact k _ (.tup es) _ M _ m' s' ⟨l, us, rfl, SqT.of upd_same, h2.mono m'.g⟩ q
      cases d with
      | tup ds =>
        cases hs
        obtain ⟨p, us, rfl, h1, h2⟩ := rv
        exact ⟨p, us, rfl, .inr ⟨by rw [ci.K]; exact ex_t s.ex h1, k _ (.tup _) G M H (.refl ..) s ⟨p, us, rfl, h1, h2⟩ q⟩⟩
      | lst ds =>
        cases hs
        obtain ⟨p, us, rfl, h1, h2⟩ := rv
        exact aux p us (SqL.of (s.ex _ _ h1)) h2
      | seq ds =>
        cases hs
        obtain ⟨p, us, rfl, h1, h2⟩ := rv
        exact aux p us (ex_l s.ex h1) h2
      | ref j =>
        obtain ⟨p, rfl, hA⟩ := rv
        have hs : (match M[j]? with | some (.lst ds) => some ds | _ => none) = some es := hs
        split at hs
        · cases hs
          rename_i hm
          obtain ⟨a', e1, _, us, e2, e3⟩ := s.at hm
          rw [hA] at e1; cases e1
          exact aux p us (SqL.of e2) e3
        · cases hs
      | _ => cases hs
    · cases h
  · cases h
def rList : Cx → List V → Hp → VK → Prop := fun X xs H Q => ∃ p ys, xs = [.ref p] ∧ (SqL X.K H p ys ∨ SqT X.K H p ys) ∧ ∀ l, H l = none → Q (.ref l) (upd H l (.lst ys))
theorem of_list {ds es : List D} {Q : List D → Store → Prop} (h : biList M ds = some (.lst es)) (q : Q es M) : OF L rList ds M Q := fun X ci G H vs R s r k => by
  unfold biList at h
  split at h
  · split at h
    · rename_i d es' hs
      cases h
      obtain ⟨v, rfl, rv⟩ := one_ex r
      obtain ⟨p, us, rfl, h1, h2⟩ := seqOf_rd s hs rv
      exact ⟨p, us, rfl, by rw [ci.K]; exact h1, fun l nl => k.laid (.refl ..) s nl h2 q⟩
    · cases h
  · cases h
theorem list_shape {ds : List D} {z : D} (h : biList M ds = some z) : ∃ es, z = .lst es := by
  unfold biList at h
  split at h
  · split at h
    · cases h; exact ⟨_, rfl⟩
    · cases h
  · cases h
def rMinA (X : Cx) : List V → Hp → VK → Prop := fun xs H Q => (∃ i j, xs = [.int i, .int j] ∧ Q (.int (if j < i then j else i)) H) ∨ rMin X.K xs H Q
def rMaxA (X : Cx) : List V → Hp → VK → Prop := fun xs H Q => (∃ i j, xs = [.int i, .int j] ∧ Q (.int (if j > i then j else i)) H) ∨ rMax X.K xs H Q
theorem foldMin_le : ∀ {is : List Int} {i : Int}, foldMin i is ≤ i ∧ (∀ j ∈ is, foldMin i is ≤ j) ∧ (foldMin i is = i ∨ foldMin i is ∈ is)
  | [], i => ⟨Int.le_refl i, by simp, .inl rfl⟩
  | j :: js, i => by
    have := foldMin_le (is := js) (i := if j < i then j else i)
    unfold foldMin
    obtain ⟨h1, h2, h3⟩ := this
    by_cases hj : j < i
    · rw [if_pos hj] at h1 h2 h3 ⊢
      refine ⟨by omega, fun k hk => ?_, ?_⟩
      · rcases List.mem_cons.mp hk with rfl | hk
        · exact h1
        · exact h2 k hk
      · rcases h3 with h3 | h3
        · exact .inr (by rw [h3]; exact List.mem_cons_self)
        · exact .inr (List.mem_cons_of_mem _ h3)
    · rw [if_neg hj] at h1 h2 h3 ⊢
      refine ⟨h1, fun k hk => ?_, ?_⟩
      · rcases List.mem_cons.mp hk with rfl | hk
        · omega
        · exact h2 k hk
      · rcases h3 with h3 | h3
        · exact .inl h3
        · exact .inr (List.mem_cons_of_mem _ h3)
theorem foldMax_ge : ∀ {is : List Int} {i : Int}, i ≤ foldMax i is ∧ (∀ j ∈ is, j ≤ foldMax i is) ∧ (foldMax i is = i ∨ foldMax i is ∈ is)
  | [], i => ⟨Int.le_refl i, by simp, .inl rfl⟩
  | j :: js, i => by
    have := foldMax_ge (is := js) (i := if i < j then j else i)
    unfold foldMax
    obtain ⟨h1, h2, h3⟩ := this
    by_cases hj : i < j
    · rw [if_pos hj] at h1 h2 h3 ⊢
      refine ⟨by omega, fun k hk => ?_, ?_⟩
      · rcases List.mem_cons.mp hk with rfl | hk
        · exact h1
        · exact h2 k hk
      · rcases h3 with h3 | h3
        · exact .inr (by rw [h3]; exact List.mem_cons_self)
        · exact .inr (List.mem_cons_of_mem _ h3)
    · rw [if_neg hj] at h1 h2 h3 ⊢
      refine ⟨h1, fun k hk => ?_, ?_⟩
      · rcases List.mem_cons.mp hk with rfl | hk
        · omega
        · exact h2 k hk
      · rcases h3 with h3 | h3
        · exact .inl h3
        · exact .inr (List.mem_cons_of_mem _ h3)
theorem oc_min {ds : List D} {z : D} {Q : D → Store → Prop} (h : biMin ds = some z) (q : Q z M) : OC L rMinA ds M Q := fun X ci G H vs R s r k => by
  unfold biMin at h
  split at h
  · cases h
    obtain ⟨v, u, rfl, r1, r2⟩ := r.of_two
    exact .inl ⟨_, _, by rw [r1, r2], k _ _ G M H (.refl ..) s rep_int q⟩
  · split at h
    · rename_i ds i is hi
      cases h
      obtain ⟨v, rfl, q', us, rfl, h1, h2⟩ := one_ex r
      have e := intsOf_eq hi
      subst e
      refine .inr ⟨q', i :: is, rfl, by rw [ci.K, ← h2.ints]; exact SqL.of (s.ex _ _ h1), by simp, fun m hm hle => ?_⟩
      obtain ⟨a1, a2, a3⟩ := foldMin_le (is := is) (i := i)
      have e : m = foldMin i is := by
        have b1 : m ≤ foldMin i is := by
          rcases a3 with a3 | a3
          · rw [a3]; exact hle i List.mem_cons_self
          · exact hle _ (List.mem_cons_of_mem _ a3)
        have b2 : foldMin i is ≤ m := by
          rcases List.mem_cons.mp hm with rfl | hm
          · exact a1
          · exact a2 m hm
        omega
      rw [e]
      exact k _ _ G M H (.refl ..) s rep_int q
    · cases h
  · cases h
theorem oc_max {ds : List D} {z : D} {Q : D → Store → Prop} (h : biMax ds = some z) (q : Q z M) : OC L rMaxA ds M Q := fun X ci G H vs R s r k => by
  unfold biMax at h
  split at h
  · cases h
    obtain ⟨v, u, rfl, r1, r2⟩ := r.of_two
    exact .inl ⟨_, _, by rw [r1, r2], k _ _ G M H (.refl ..) s rep_int q⟩
  · split at h
    · rename_i ds i is hi
      cases h
      obtain ⟨v, rfl, q', us, rfl, h1, h2⟩ := one_ex r
      have e := intsOf_eq hi
      subst e
      refine .inr ⟨q', i :: is, rfl, by rw [ci.K, ← h2.ints]; exact SqL.of (s.ex _ _ h1), by simp, fun m hm hle => ?_⟩
      obtain ⟨a1, a2, a3⟩ := foldMax_ge (is := is) (i := i)
      have e : m = foldMax i is := by
        have b1 : foldMax i is ≤ m := by
          rcases a3 with a3 | a3
          · rw [a3]; exact hle i List.mem_cons_self
          · exact hle _ (List.mem_cons_of_mem _ a3)
        have b2 : m ≤ foldMax i is := by
          rcases List.mem_cons.mp hm with rfl | hm
          · exact a1
          · exact a2 m hm
        omega
      rw [e]
      exact k _ _ G M H (.refl ..) s rep_int q
    · cases h
  · cases h
theorem insI_perm (i : Int) : ∀ js : List Int, (insI i js).Perm (i :: js)
  | [] => .refl _
  | j :: js => by
    unfold insI
    split
    · exact .refl _
    · exact ((insI_perm i js).cons j).trans (.swap i j js)
theorem isortI_perm : ∀ is : List Int, (isortI is).Perm is
  | [] => .refl _
  | i :: is => (insI_perm i _).trans ((isortI_perm is).cons i)
theorem insI_sorted (i : Int) : ∀ {js : List Int}, js.Pairwise (· ≤ ·) → (insI i js).Pairwise (· ≤ ·)
  | [], _ => by simp [insI]
  | j :: js, h => by
    have h' := List.pairwise_cons.mp h
    unfold insI
    split
    · rename_i hij
      refine List.pairwise_cons.mpr ⟨fun k hk => ?_, h⟩
      rcases List.mem_cons.mp hk with rfl | hk
      · exact hij
      · exact Int.le_trans hij (h'.1 k hk)
    · rename_i hij
      refine List.pairwise_cons.mpr ⟨fun k hk => ?_, insI_sorted i h'.2⟩
      rcases List.mem_cons.mp ((insI_perm i js).mem_iff.mp hk) with rfl | hk
      · omega
      · exact h'.1 k hk
theorem isortI_sorted : ∀ is : List Int, (isortI is).Pairwise (· ≤ ·)
  | [] => .nil
  | i :: is => insI_sorted i (isortI_sorted is)
theorem isortI_eq {is js : List Int} (h : js.Perm is) (hs : js.Pairwise (· ≤ ·)) : js = isortI is :=
  List.Perm.eq_of_pairwise (fun a b _ _ h1 h2 => Int.le_antisymm h1 h2) hs (isortI_sorted is) (h.trans (isortI_perm is).symm)
theorem reps_ints {g : Gx} {G : Gh} : ∀ ns : List Int, Reps g G (ns.map D.int) (ns.map V.int)
  | [] => rfl
  | n :: ns => ⟨.int n, ns.map V.int, rfl, rfl, reps_ints ns⟩
theorem of_sorted {ds es : List D} {Q : List D → Store → Prop} (h : biSorted ds = some (.lst es)) (q : Q es M) : OF L (fun X => rSortedI X.K) ds M Q := fun X ci G H vs R s r k => by
  unfold biSorted at h
  split at h
  · split at h
    · rename_i ds is hi
      cases h
      obtain ⟨v, rfl, q', us, rfl, h1, h2⟩ := one_ex r
      have e := intsOf_eq hi
      subst e
      refine ⟨q', is, rfl, by rw [ci.K, ← h2.ints]; exact SqL.of (s.ex _ _ h1), fun ns' p hp hs np => ?_⟩
      rw [isortI_eq hp hs]
      exact k.laid (.refl ..) s np (reps_ints _) q
    · cases h
  · cases h
theorem sorted_shape {ds : List D} {z : D} (h : biSorted ds = some z) : ∃ es, z = .lst es := by
  unfold biSorted at h
  split at h
  · split at h
    · cases h; exact ⟨_, rfl⟩
    · cases h
  · cases h
end
end PI
set_option Elab.async false
set_option linter.all false
set_option maxRecDepth 100000
set_option maxHeartbeats 8000000
/-! PL: the run of an expression tells what the code does: all of it. -/
namespace PI
open PySem L2
def freshB : E → Bool
  | .lst _ => true
  | .lc _ _ _ _ _ => true
  | .bi .list _ => true
  | .bi .sorted _ => true
  | .sl _ _ _ => true
  | _ => false
def EvFO (L : Lx) (ρ : Ro) (M : Store) (e : Expr) (o : Out D) : Prop := o ≠ .bad → EvF L ρ M e (fun ds M' => o = .ok (.lst ds) M') (ResX o)
theorem EvFO.ev {L : Lx} {ρ : Ro} {M : Store} {e : Expr} {o : Out D} (h : EvFO L ρ M e o) : EvO L ρ M e o := fun n => (h n).ev
section
variable (nm : Nm) (c : Cn) (m : Nat)
def SndE (e : E) : Prop := ∀ S py, ckE nm S e py = true → ∀ L, LOk nm c m S L → ∀ ρ M, EvO L ρ M py (evE c e ρ M) ∧ EvTO L ρ M py (evE c e ρ M) ∧ (freshB e = true → EvFO L ρ M py (evE c e ρ M))
def SndEs (es : Es) : Prop := ∀ S ps, ckEs nm S es ps = true → ∀ L, LOk nm c m S L → ∀ ρ M, (ps.all notStar = true → EvAO L ρ M ps (evEs c es ρ M)) ∧ (ps ≠ [] → ∀ pos, EvO L ρ M (.BoolOp .And ps pos) (evAnd c es ρ M) ∧ EvWO L ρ M (.BoolOp .And ps pos) (evAnd c es ρ M) ∧ EvO L ρ M (.BoolOp .Or ps pos) (evOr c es ρ M) ∧ EvWO L ρ M (.BoolOp .Or ps pos) (evOr c es ρ M))
def SndEo (eo : Eo) : Prop := (∀ S po, ckEo nm S eo po = true → ∀ L, LOk nm c m S L → ∀ ρ M, evEo c eo ρ M ≠ .bad → EvP L ρ M po (fun o M' => evEo c eo ρ M = .ok o M') (ResX (evEo c eo ρ M))) ∧ (∀ S ps, ckIf nm S eo ps = true → ∀ L, LOk nm c m S L → ∀ ρ M, EvIfs L ρ M ps (evIf c eo ρ M))
def SndI (it : I) : Prop := ∀ S tg py, ckI nm S (isTup tg) it py = true → ∀ L, LOk nm c m S L → ∀ ρ M, SrcO L ρ M tg py (evI c it ρ M)
end
section
variable {nm : Nm} {c : Cn} {m : Nat} {S : Sx} {L : Lx} {ρ : Ro} {M : Store} {py p q r : Expr} {ps : List Expr} {pos : Pos}
theorem all3 (h : EvO L ρ M py oa) (hp : isPlainT py = true) (hf : freshB e = false) : EvO L ρ M py oa ∧ EvTO L ρ M py oa ∧ (freshB e = true → EvFO L ρ M py oa) := ⟨h, tval hp h, fun z => by rw [hf] at z; cases z⟩
theorem all3F (h : EvFO L ρ M py oa) (hp : isPlainT py = true) : EvO L ρ M py oa ∧ EvTO L ρ M py oa ∧ (freshB e = true → EvFO L ρ M py oa) := ⟨h.ev, tval hp h.ev, fun _ => h⟩
theorem bl_of {α : Type} {f g h : α} {P : α → Prop} {d : D} : True := trivial
/-- the kinds of and, or, not's continuations -/
def kAnd (x : Store → Out D) : D → Store → Out D := fun d M => match d with
  | .bl true => x M
  | .bl false => .ok (.bl false) M
  | _ => .bad
def kOr (x : Store → Out D) : D → Store → Out D := fun d M => match d with
  | .bl false => x M
  | .bl true => .ok (.bl true) M
  | _ => .bad
def kNot : D → Store → Out D := fun d M => match d with
  | .bl b => .ok (.bl (!b)) M
  | _ => .bad
def kNeg : D → Store → Out D := fun d M => match d with
  | .int i => .ok (.int (-i)) M
  | _ => .bad
def kIte (x y : Store → Out D) : D → Store → Out D := fun d M => match d with
  | .bl true => x M
  | .bl false => y M
  | _ => .bad
theorem kAnd_bl {x : Store → Out D} {d : D} {M : Store} (n : kAnd x d M ≠ .bad) : ∃ b, d = .bl b := by cases d <;> first | exact ⟨_, rfl⟩ | exact absurd rfl n
theorem kOr_bl {x : Store → Out D} {d : D} {M : Store} (n : kOr x d M ≠ .bad) : ∃ b, d = .bl b := by cases d <;> first | exact ⟨_, rfl⟩ | exact absurd rfl n
theorem kNot_bl {d : D} {M : Store} (n : kNot d M ≠ .bad) : ∃ b, d = .bl b := by cases d <;> first | exact ⟨_, rfl⟩ | exact absurd rfl n
theorem kNeg_int {d : D} {M : Store} (n : kNeg d M ≠ .bad) : ∃ i, d = .int i := by cases d <;> first | exact ⟨_, rfl⟩ | exact absurd rfl n
theorem kIte_bl {x y : Store → Out D} {d : D} {M : Store} (n : kIte x y d M ≠ .bad) : ∃ b, d = .bl b := by cases d <;> first | exact ⟨_, rfl⟩ | exact absurd rfl n
theorem evAnd2 {e e' : E} {es : Es} : evAnd c (.cons e (.cons e' es)) ρ M = (evE c e ρ M).bind (kAnd fun M => evAnd c (.cons e' es) ρ M) := by
  rw [evAnd]
  · congr 1
  · intro z; cases z
theorem evOr2 {e e' : E} {es : Es} : evOr c (.cons e (.cons e' es)) ρ M = (evE c e ρ M).bind (kOr fun M => evOr c (.cons e' es) ρ M) := by
  rw [evOr]
  · congr 1
  · intro z; cases z
theorem evNot1 {a : E} : evE c (.not a) ρ M = (evE c a ρ M).bind kNot := by
  rw [evE]; congr 1
theorem evNeg1 {a : E} : evE c (.neg a) ρ M = (evE c a ρ M).bind kNeg := by
  rw [evE]; congr 1
theorem evIte1 {t a b : E} : evE c (.ite t a b) ρ M = (evE c t ρ M).bind (kIte (fun M => evE c a ρ M) (fun M => evE c b ρ M)) := by
  rw [evE]; congr 1
theorem snd_not {oa : Out D} (h : EvO L ρ M p oa) (ht : EvTO L ρ M p oa) : EvO L ρ M (.UnaryOp .Not p pos) (oa.bind kNot) ∧ EvTO L ρ M (.UnaryOp .Not p pos) (oa.bind kNot) := by
  refine ⟨fun n => ev_not ((h.step n).mono (fun d M1 ⟨_, n1, e1⟩ => ?_) fun _ _ z => z), fun n => et_not ((ht.step n.1 (fun d M n => kNot_bl n)).mono (fun b M1 ⟨_, _, e1⟩ => e1) fun _ _ z => z)⟩
  obtain ⟨b, rfl⟩ := kNot_bl n1
  exact ⟨b, rfl, e1⟩
theorem snd_and1 {oa : Out D} (h : EvO L ρ M p oa) (ht : EvTO L ρ M p oa) : EvO L ρ M (.BoolOp .And [p] pos) oa ∧ EvWO L ρ M (.BoolOp .And [p] pos) oa := ⟨fun n => ev_one (h n), fun n => ew_and1 (ht n)⟩
theorem snd_or1 {oa : Out D} (h : EvO L ρ M p oa) (ht : EvTO L ρ M p oa) : EvO L ρ M (.BoolOp .Or [p] pos) oa ∧ EvWO L ρ M (.BoolOp .Or [p] pos) oa := ⟨fun n => ev_one (h n), fun n => ew_or1 (ht n)⟩
theorem snd_and {oa : Out D} {x : Store → Out D} (h : EvO L ρ M p oa) (ht : EvTO L ρ M p oa) (h2 : ∀ M1, EvO L ρ M1 (.BoolOp .And (q :: ps) pos) (x M1)) (ht2 : ∀ M1, EvWO L ρ M1 (.BoolOp .And (q :: ps) pos) (x M1)) :
    EvO L ρ M (.BoolOp .And (p :: q :: ps) pos) (oa.bind (kAnd x)) ∧ EvWO L ρ M (.BoolOp .And (p :: q :: ps) pos) (oa.bind (kAnd x)) := by
  refine ⟨fun n => ev_and ((h.step n).mono (fun d M1 ⟨_, n1, e1⟩ => ?_) fun _ _ z => z), fun n => ew_and ((ht.step n.1 (fun d M n => kAnd_bl n)).mono (fun b M1 ⟨_, n1, e1⟩ => ?_) fun _ _ z => z)⟩
  · obtain ⟨b, rfl⟩ := kAnd_bl n1
    refine ⟨b, rfl, ?_⟩
    cases b with
    | true =>
      rw [if_pos rfl]
      exact (h2 M1 n1).mono (fun d M2 e2 => e1.trans e2) fun C M2 e2 => e1.trans e2
    | false =>
      rw [if_neg Bool.false_ne_true]
      exact e1
  · cases b with
    | true =>
      rw [if_pos rfl]
      refine (ht2 M1 ⟨n1, fun d M2 e2 => ?_⟩).mono (fun d M2 e2 => e1.trans e2) fun C M2 e2 => e1.trans e2
      exact n.2 d M2 (e1.trans e2)
    | false =>
      rw [if_neg Bool.false_ne_true]
      exact e1
theorem snd_or {oa : Out D} {x : Store → Out D} (h : EvO L ρ M p oa) (ht : EvTO L ρ M p oa) (h2 : ∀ M1, EvO L ρ M1 (.BoolOp .Or (q :: ps) pos) (x M1)) (ht2 : ∀ M1, EvWO L ρ M1 (.BoolOp .Or (q :: ps) pos) (x M1)) :
    EvO L ρ M (.BoolOp .Or (p :: q :: ps) pos) (oa.bind (kOr x)) ∧ EvWO L ρ M (.BoolOp .Or (p :: q :: ps) pos) (oa.bind (kOr x)) := by
  refine ⟨fun n => ev_or ((h.step n).mono (fun d M1 ⟨_, n1, e1⟩ => ?_) fun _ _ z => z), fun n => ew_or ((ht.step n.1 (fun d M n => kOr_bl n)).mono (fun b M1 ⟨_, n1, e1⟩ => ?_) fun _ _ z => z)⟩
  · obtain ⟨b, rfl⟩ := kOr_bl n1
    refine ⟨b, rfl, ?_⟩
    cases b with
    | false =>
      rw [if_neg Bool.false_ne_true]
      exact (h2 M1 n1).mono (fun d M2 e2 => e1.trans e2) fun C M2 e2 => e1.trans e2
    | true =>
      rw [if_pos rfl]
      exact e1
  · cases b with
    | false =>
      rw [if_neg Bool.false_ne_true]
      refine (ht2 M1 ⟨n1, fun d M2 e2 => ?_⟩).mono (fun d M2 e2 => e1.trans e2) fun C M2 e2 => e1.trans e2
      exact n.2 d M2 (e1.trans e2)
    | true =>
      rw [if_pos rfl]
      exact e1
theorem snd_ite {ot : Out D} {x y : Store → Out D} (ht : EvTO L ρ M p ot) (h1 : ∀ M1, EvO L ρ M1 q (x M1) ∧ EvTO L ρ M1 q (x M1)) (h2 : ∀ M1, EvO L ρ M1 r (y M1) ∧ EvTO L ρ M1 r (y M1)) :
    EvO L ρ M (.IfExp p q r pos) (ot.bind (kIte x y)) ∧ EvTO L ρ M (.IfExp p q r pos) (ot.bind (kIte x y)) := by
  refine ⟨fun n => ev_if ((ht.step n (fun d M n => kIte_bl n)).mono (fun b M1 ⟨_, n1, e1⟩ => ?_) fun _ _ z => z), fun n => et_ite ((ht.step n.1 (fun d M n => kIte_bl n)).mono (fun b M1 ⟨_, n1, e1⟩ => ?_) fun _ _ z => z)⟩
  · cases b with
    | true =>
      rw [if_pos rfl]
      exact ((h1 M1).1 n1).mono (fun d M2 e2 => e1.trans e2) fun C M2 e2 => e1.trans e2
    | false =>
      rw [if_neg Bool.false_ne_true]
      exact ((h2 M1).1 n1).mono (fun d M2 e2 => e1.trans e2) fun C M2 e2 => e1.trans e2
  · cases b with
    | true =>
      rw [if_pos rfl]
      exact ((h1 M1).2 ⟨n1, fun d M2 e2 => n.2 d M2 (e1.trans e2)⟩).mono (fun d M2 e2 => e1.trans e2) fun C M2 e2 => e1.trans e2
    | false =>
      rw [if_neg Bool.false_ne_true]
      exact ((h2 M1).2 ⟨n1, fun d M2 e2 => n.2 d M2 (e1.trans e2)⟩).mono (fun d M2 e2 => e1.trans e2) fun C M2 e2 => e1.trans e2
/-- chains -/
def kCh (p : COp) (y : D) (z : Store → Out D) : D → Store → Out D := fun t M => match t with
  | .bl true => (z M).bind fun z M => optO (cmpO M p y z) M
  | .bl false => .ok (.bl false) M
  | _ => .bad
theorem kCh_bl {o : COp} {y : D} {z : Store → Out D} {d : D} {M : Store} (n : kCh o y z d M ≠ .bad) : ∃ b, d = .bl b := by cases d <;> first | exact ⟨_, rfl⟩ | exact absurd rfl n
theorem cmp_notN {o : COp} (h : isCmpNon o = false) (y : D) : cmpNon o y := fun z => by rcases z with rfl | rfl <;> cases h
theorem grd_bl {b t : Bool} {z : D} (h : grd b (.bl t) = some z) : ∃ b, z = .bl b := ⟨t, (grd_some h).2⟩
theorem mapB_bl {f : Bool → Bool} {o : Option Bool} {z : D} (h : mapB f o = some z) : ∃ b, z = .bl b := by
  obtain ⟨b, _, e⟩ := mapB_some h
  exact ⟨_, e⟩
theorem cmpO_bl {M : Store} {o : COp} {x y z : D} (h : cmpO M o x y = some z) : ∃ b, z = .bl b := by
  unfold cmpO at h
  split at h <;> first | exact ⟨_, (Option.some.inj h).symm⟩ | exact grd_bl h | exact mapB_bl h | cases h
theorem snd_chain {o o' : COp} {oa : Out D} {ob : Store → Out D} {od : Store → Out D} (hm : lastMarks [pyC o, pyC o'] [q, r] = false) (ho : isCmpNon o = false) (ho' : isCmpNon o' = false) (ha : EvO L ρ M p oa) (hb : ∀ M1, EvO L ρ M1 q (ob M1)) (hd : ∀ M1, EvO L ρ M1 r (od M1)) :
    EvO L ρ M (.Compare p [pyC o, pyC o'] [q, r] pos) (oa.bind fun x M1 => (ob M1).bind fun y M2 => (optO (cmpO M2 o x y) M2).bind (kCh o' y od)) ∧ EvTO L ρ M (.Compare p [pyC o, pyC o'] [q, r] pos) (oa.bind fun x M1 => (ob M1).bind fun y M2 => (optO (cmpO M2 o x y) M2).bind (kCh o' y od)) := by
  refine ⟨fun n => ev_chain (r := rCmp o) (r' := rCmp o') (fun X ci => opCmp o X ci) (fun X ci => opCmp o' X ci) hm ((ha.step n).mono (fun x M1 ⟨_, n1, e1⟩ => ((hb M1).step n1).mono (fun y M2 ⟨_, n2, e2⟩ => ?_) fun C M2 e2 => e1.trans e2) fun _ _ z => z),
    fun n => et_chain (r := rCmp o) (r' := rCmp o') (fun X ci => opCmp o X ci) (fun X ci => opCmp o' X ci) hm ((ha.step n.1).mono (fun x M1 ⟨_, n1, e1⟩ => ((hb M1).step n1).mono (fun y M2 ⟨_, n2, e2⟩ => ?_) fun C M2 e2 => e1.trans e2) fun _ _ z => z)⟩
  · obtain ⟨z, hz, ez⟩ := optO_nb (Out.nb n2)
    obtain ⟨b, rfl⟩ := cmpO_bl hz
    rw [ez] at n2
    have e3 := (e1.trans e2).trans (by rw [ez]; rfl : _ = kCh o' y od (.bl b) M2)
    refine o2_cmp hz (cmp_notN ho y) ⟨b, rfl, ?_⟩
    cases b with
    | true =>
      rw [if_pos rfl]
      refine ((hd M2).step (show ((od M2).bind fun z M => optO (cmpO M o' y z) M) ≠ .bad from n2)).mono (fun z M3 ⟨_, n4, e4⟩ => ?_) fun C M3 e4 => e3.trans e4
      obtain ⟨z', hz', ez'⟩ := optO_nb n4
      exact o2_cmp hz' (cmp_notN ho' z) ((e3.trans e4).trans ez')
    | false =>
      rw [if_neg Bool.false_ne_true]
      exact e3
  · obtain ⟨z, hz, ez⟩ := optO_nb (Out.nb n2)
    obtain ⟨b, rfl⟩ := cmpO_bl hz
    rw [ez] at n2
    have e3 := (e1.trans e2).trans (by rw [ez]; rfl : _ = kCh o' y od (.bl b) M2)
    refine o2_cmp hz (cmp_notN ho y) ⟨b, rfl, ?_⟩
    cases b with
    | true =>
      rw [if_pos rfl]
      refine ((hd M2).step (show ((od M2).bind fun z M => optO (cmpO M o' y z) M) ≠ .bad from n2)).mono (fun z M3 ⟨_, n4, e4⟩ => ?_) fun C M3 e4 => e3.trans e4
      obtain ⟨z', hz', ez'⟩ := optO_nb n4
      obtain ⟨b', rfl⟩ := cmpO_bl hz'
      exact o2_cmp hz' (cmp_notN ho' z) ⟨b', rfl, (e3.trans e4).trans ez'⟩
    | false =>
      rw [if_neg Bool.false_ne_true]
      exact e3
theorem evChain1 {o p : COp} {a b d : E} : evE c (.chain o p a b d) ρ M = (evE c a ρ M).bind fun x M => (evE c b ρ M).bind fun y M => (optO (cmpO M o x y) M).bind (kCh p y fun M => evE c d ρ M) := by
  rw [evE]
  congr 1
theorem snd_tup {oa : Out (List D)} {k2 : Nat} (h : EvAO L ρ M ps oa) : EvO L ρ M (.Tuple ps k2 pos) (oa.bind fun ds M => if ds.length ≤ 100000 then .ok (.tup ds) M else .bad) := fun n => ev_tup ((h.step n).mono (fun ds M1 ⟨_, n1, e1⟩ => by
  by_cases hl : ds.length ≤ 100000
  · rw [if_pos hl] at e1; exact ⟨hl, e1⟩
  · rw [if_neg hl] at n1; exact absurd rfl n1) fun _ _ z => z)
theorem snd_lst {oa : Out (List D)} (h : EvAO L ρ M ps oa) : EvFO L ρ M (.List ps pos) (oa.bind fun ds M => if ds.length ≤ 100000 then .ok (.lst ds) M else .bad) := fun n => ef_lst ((h.step n).mono (fun ds M1 ⟨_, n1, e1⟩ => by
  by_cases hl : ds.length ≤ 100000
  · rw [if_pos hl] at e1; exact ⟨hl, e1⟩
  · rw [if_neg hl] at n1; exact absurd rfl n1) fun _ _ z => z)
end
end PI
set_option Elab.async false
set_option linter.all false
set_option maxRecDepth 100000
set_option maxHeartbeats 8000000
/-! PM: expressions, the induction. -/
namespace PI
open PySem L2
section
variable {nm : Nm} {c : Cn} {m : Nat} {S : Sx} {L : Lx} {ρ : Ro} {M : Store} {py p q r : Expr} {ps : List Expr} {pos pos' : Pos}
theorem allT {p : Expr} {ps : List Expr} (h : (p :: ps).all notStar = true) : notStar p = true ∧ ps.all notStar = true := by
  rw [List.all_cons, Bool.and_eq_true] at h; exact h
theorem snd_call (lo : LOk nm c m S L) {f : Nat} {x : Str} (hf : nm.fn f = some x) (hg : gloB S.sc x = true) {es : Es} (hE : ckEs nm S es ps = true) (hs : ps.all notStar = true) (h : EvAO L ρ M ps (evEs c es ρ M)) : EvO L ρ M (.Call (.Name x pos') ps [] pos) ((evEs c es ρ M).bind fun ds M => c.Φ f ds M) := fun n => by
  have F := lo.hy.fn f x hf
  obtain ⟨g1, g2⟩ := lo.glo hg
  cases ps with
  | nil =>
    cases es with
    | cons e es => cases hE
    | nil =>
      have e0 : (evEs c .nil ρ M) = .ok [] M := by rw [evEs]
      rw [e0] at n ⊢
      exact ev_call0 F lo.lv g1 n (fun d M2 e => e) (fun C M2 e => e) g2
  | cons p ps =>
    obtain ⟨h1, h2⟩ := allT hs
    exact ev_call F lo.lv g1 (star_of h1 ps) (star_any h2 _) ((h.step n).mono (fun ds M1 ⟨_, n1, e1⟩ => ⟨n1, fun d M2 e => e1.trans e, fun C M2 e => e1.trans e⟩) fun _ _ z => z) g2
theorem LOk.bu (lo : LOk nm c m S L) {x : Str} (h : x ∈ bNames) : L.g.mg x = none := lo.hy.bu x h
theorem snd_bi (lo : LOk nm c m S L) {b : BI} (hb : b ≠ .list ∧ b ≠ .sorted) (hg : gloB S.sc (biName b) = true) {oa : Out (List D)} (hs : (p :: ps).all notStar = true) (h : EvAO L ρ M (p :: ps) oa) : EvO L ρ M (.Call (.Name (biName b) pos') (p :: ps) [] pos) (oa.bind fun ds M => optO (biO M b ds) M) := fun n => by
  obtain ⟨g1, g2⟩ := lo.glo hg
  obtain ⟨h1, h2⟩ := allT hs
  have go : ∀ {r : Cx → List V → Hp → VK → Prop}, (∀ ds M1, ∀ z, biO M1 b ds = some z → (oa.bind fun ds M => optO (biO M b ds) M) = .ok z M1 → OC L r ds M1 (Res (oa.bind fun ds M => optO (biO M b ds) M))) → EvA L ρ M (p :: ps) (fun ds M1 => OC L r ds M1 (Res (oa.bind fun ds M => optO (biO M b ds) M))) (ResX (oa.bind fun ds M => optO (biO M b ds) M)) := fun hr =>
    (h.step n).mono (fun ds M1 ⟨_, n1, e1⟩ => by
      obtain ⟨z, hz, ez⟩ := optO_nb n1
      exact hr ds M1 z hz (e1.trans ez)) fun _ _ z => z
  cases b with
  | len => exact ev_callB (r := rLen2) (fun _ _ => call_len2) g1 (lo.bu (by decide +kernel)) PySem.boot_len (by decide +kernel) g2 (star_of h1 ps) (star_any h2 _) (go fun ds M1 z hz ez => oc_len hz ez)
  | abs => exact ev_callB (r := rAbs) (fun _ _ => call_abs) g1 (lo.bu (by decide +kernel)) (by decide +kernel) (by decide +kernel) g2 (star_of h1 ps) (star_any h2 _) (go fun ds M1 z hz ez => oc_abs hz ez)
  | int => exact ev_callTy (r := rInt) (fun _ _ => call_int1) g1 (lo.bu (by decide +kernel)) (by decide +kernel) (by decide +kernel) g2 (star_of h1 ps) (star_any h2 _) (go fun ds M1 z hz ez => oc_int hz ez)
  | sum => exact ev_callB (r := fun X => rSum X.K) (fun _ ci => cr_sum ci.calm) g1 (lo.bu (by decide +kernel)) (by decide +kernel) (by decide +kernel) g2 (star_of h1 ps) (star_any h2 _) (go fun ds M1 z hz ez => oc_sum hz ez)
  | tuple => exact ev_callTy (r := rTup) (fun _ _ => call_tuple_of) g1 (lo.bu (by decide +kernel)) (by decide +kernel) (by decide +kernel) g2 (star_of h1 ps) (star_any h2 _) (go fun ds M1 z hz ez => oc_tuple hz ez)
  | list => exact absurd rfl hb.1
  | sorted => exact absurd rfl hb.2
  | min => exact ev_callB (r := rMinA) (fun _ ci => (call_min2 ci.calm).or (cr_min ci.calm)) g1 (lo.bu (by decide +kernel)) (by decide +kernel) (by decide +kernel) g2 (star_of h1 ps) (star_any h2 _) (go fun ds M1 z hz ez => oc_min hz ez)
  | max => exact ev_callB (r := rMaxA) (fun _ ci => (call_max2 ci.calm).or (cr_max ci.calm)) g1 (lo.bu (by decide +kernel)) (by decide +kernel) (by decide +kernel) g2 (star_of h1 ps) (star_any h2 _) (go fun ds M1 z hz ez => oc_max hz ez)
theorem snd_list (lo : LOk nm c m S L) (hg : gloB S.sc "list" = true) {oa : Out (List D)} (hs : (p :: ps).all notStar = true) (h : EvAO L ρ M (p :: ps) oa) : EvFO L ρ M (.Call (.Name "list" pos') (p :: ps) [] pos) (oa.bind fun ds M => optO (biO M .list ds) M) := fun n => by
  obtain ⟨g1, g2⟩ := lo.glo hg
  obtain ⟨h1, h2⟩ := allT hs
  refine ef_callTy (r := rList) (fun _ _ => call_list_of) g1 (lo.bu (by decide +kernel)) (by decide +kernel) (by decide +kernel) g2 (star_of h1 ps) (star_any h2 _) ((h.step n).mono (fun ds M1 ⟨_, n1, e1⟩ => ?_) fun _ _ z => z)
  obtain ⟨z, hz, ez⟩ := optO_nb n1
  obtain ⟨es, rfl⟩ := list_shape (M := M1) hz
  exact of_list hz (e1.trans ez)
theorem snd_sorted (lo : LOk nm c m S L) (hg : gloB S.sc "sorted" = true) {oa : Out (List D)} (hs : (p :: ps).all notStar = true) (h : EvAO L ρ M (p :: ps) oa) : EvFO L ρ M (.Call (.Name "sorted" pos') (p :: ps) [] pos) (oa.bind fun ds M => optO (biO M .sorted ds) M) := fun n => by
  obtain ⟨g1, g2⟩ := lo.glo hg
  obtain ⟨h1, h2⟩ := allT hs
  refine ef_callB (r := fun X => rSortedI X.K) (fun _ _ => cr_sortedI) g1 (lo.bu (by decide +kernel)) (by decide +kernel) (by decide +kernel) g2 (star_of h1 ps) (star_any h2 _) ((h.step n).mono (fun ds M1 ⟨_, n1, e1⟩ => ?_) fun _ _ z => z)
  obtain ⟨z, hz, ez⟩ := optO_nb n1
  obtain ⟨es, rfl⟩ := sorted_shape hz
  exact of_sorted hz (e1.trans ez)
theorem own_map {N : List Str} {own : List Nat} : (ownNames N own).map (·.2) = own := by
  unfold ownNames
  rw [List.map_map]
  have : ((fun x : Str × Nat => x.2) ∘ fun j => (N.getD j (mkS []), j)) = id := by funext j; rfl
  rw [this, List.map_id]
theorem snd_lc (lo : LOk nm c m S L) {own : List Nat} {pt : Pat} {tg iter elt : Expr} {pifs : List Expr} {scope : Scope} {os : Out (List D)} {oi oe : Ro → Store → Out D} (hb : blkC S.N S.sc scope (ownNames S.N own) = true) (hj : pt.js.all (own.contains ·) = true) (hf : notSet iter = true) (hp : patB (S.blk scope) tg pt = true)
    (hsrc : SrcO L ρ M tg iter os) (T : ∀ ρ0, LcTurn (L.blk scope) ρ0 pt elt pifs oi oe) : EvFO L ρ M (.ListComp elt [⟨tg, iter, pifs, 0⟩] scope pos) ((lcRun pt (wipeR (noLam ρ) own) os oi oe).bind fun ys M => .ok (.lst ys) M) := fun n => by
  have hb' : blkC L.N L.sc scope (ownNames S.N own) = true := by rw [lo.N, lo.sc]; exact hb
  refine ef_lc (own := ownNames S.N own) (pt := pt) ((lo.blk scope).pat hp) hb' (fun j hjm => ?_) (fold_of hf) hsrc (T _) ?_ (fun ds M' e => ?_) fun C M' e => ?_
  · rw [own_map]
    have := List.all_eq_true.mp hj j hjm
    simpa using this
  · rw [own_map]; exact Out.nb n
  · rw [own_map] at e; rw [e]; rfl
  · rw [own_map] at e; rw [e]; rfl
theorem snd_tupG (lo : LOk nm c m S L) {src : List (Option Nat)} {pt : Pat} {tg iter elt : Expr} {pifs : List Expr} {scope : Scope} {os : Out (List D)} {oi oe : Ro → Store → Out D} {Ng : List Str} (hg : gloB S.sc "tuple" = true) (hgen : S.gen = true) (hS : gscp S.N S.sc scope Ng src = true) (hf : notSetL iter = true) (hp : patB (S.gn scope Ng) tg pt = true)
    (hsrc : SrcO L ρ M tg iter os) (T : ∀ ρ0, LcTurn (L.gen scope Ng m) ρ0 pt elt pifs oi oe) : EvO L ρ M (.Call (.Name "tuple" pos') [.GeneratorExp elt [⟨tg, iter, pifs, 0⟩] scope pos] [] pos2) ((lcRun pt (wipeR (roG src ρ) pt.js) os oi oe).bind fun ys M => .ok (.tup ys) M) := fun n => by
  obtain ⟨g1, g2⟩ := lo.glo hg
  obtain ⟨⟨P, hcd⟩, hlv⟩ := lo.cd hgen
  have hS' : gscp L.N L.sc scope Ng src = true := by rw [lo.N, lo.sc]; exact hS
  refine ev_tupG (k := m + 1) (lo.bu (by decide +kernel)) g1 (by omega) (ev_gexp (P := P) (k := m) Ng src hcd hS' ((lo.gn scope Ng).pat hp) (by omega) (gfold_of hf) hsrc (T _) (Out.nb n) (fun ds M' e => by rw [e]; rfl) fun C M' e => by rw [e]; rfl) fun env => rfl
theorem snd_qG (lo : LOk nm c m S L) {st : Bool} {src : List (Option Nat)} {pt : Pat} {tg iter elt : Expr} {pifs : List Expr} {scope : Scope} {os : Out (List D)} {oi oe : Ro → Store → Out D} {Ng : List Str} (hg : gloB S.sc (qName st) = true) (hgen : S.gen = true) (hS : gscp S.N S.sc scope Ng src = true) (hf : notSetL iter = true) (hp : patB (S.gn scope Ng) tg pt = true)
    (hsrc : SrcO L ρ M tg iter os) (T : ∀ ρ0, LcTurn (L.gen scope Ng m) ρ0 pt elt pifs oi oe) : EvO L ρ M (.Call (.Name (qName st) pos') [.GeneratorExp elt [⟨tg, iter, pifs, 0⟩] scope pos] [] pos2) (qRun st pt (wipeR (roG src ρ) pt.js) os oi oe) := fun n => by
  obtain ⟨g1, g2⟩ := lo.glo hg
  obtain ⟨⟨P, hcd⟩, hlv⟩ := lo.cd hgen
  have hS' : gscp L.N L.sc scope Ng src = true := by rw [lo.N, lo.sc]; exact hS
  cases st with
  | false => exact ev_q_all (P := P) (k := m) Ng src hcd hS' ((lo.gn scope Ng).pat hp) (by omega) (lo.bu (by decide +kernel)) g1 (gfold_of hf) hsrc (T _) n (fun d M' e => e) (fun C M' e => e)
  | true => exact ev_q_any (P := P) (k := m) Ng src hcd hS' ((lo.gn scope Ng).pat hp) (by omega) (lo.bu (by decide +kernel)) g1 (gfold_of hf) hsrc (T _) n (fun d M' e => e) (fun C M' e => e)
theorem snd_sl {oa : Out D} {l h : Option Expr} {p2 : Pos} {ol oh : Store → Out (Option Int)} (ha : EvO L ρ M p oa) (hl : ∀ M1, ol M1 ≠ .bad → EvP L ρ M1 l (fun o M' => ol M1 = .ok o M') (ResX (ol M1))) (hh : ∀ M1, oh M1 ≠ .bad → EvP L ρ M1 h (fun o M' => oh M1 = .ok o M') (ResX (oh M1))) :
    EvFO L ρ M (.Subscript p (.Slice l h none p2) pos) (oa.bind fun x M => (ol M).bind fun lo M => (oh M).bind fun hi M => match x with
    | .lst ds => .ok (.lst (cutD ds lo hi)) M
    | .seq ds => .ok (.lst (cutD ds lo hi)) M
    | _ => .bad) := fun n => by
  have mono : ∀ {po : Option Expr} {M1 : Store} {Q Q' : Option Int → Store → Prop} {E E' : Nat → Store → Prop}, EvP L ρ M1 po Q E → (∀ o M', Q o M' → Q' o M') → (∀ C M', E C M' → E' C M') → EvP L ρ M1 po Q' E' := fun {po M1 Q Q' E E'} h h1 h2 => by
    cases po with
    | none => exact h1 _ _ h
    | some e => exact Ev.mono h (fun d M' ⟨i, e, q⟩ => ⟨i, e, h1 _ _ q⟩) h2
  refine ef_cutL ((ha.step n).mono (fun x M1 ⟨_, n1, e1⟩ => mono (hl M1 (Out.nb n1)) (fun lo M2 e2 => ?_) fun C M2 e2 => e1.trans (by rw [e2]; rfl)) fun _ _ z => z)
  rw [e2] at n1
  have e1' := e1.trans (by rw [e2]; rfl : _ = (oh M2).bind fun hi M => match x with
    | .lst ds => .ok (.lst (cutD ds lo hi)) M
    | .seq ds => .ok (.lst (cutD ds lo hi)) M
    | _ => .bad)
  have n1' : ((oh M2).bind fun hi M => (match x with
    | .lst ds => .ok (.lst (cutD ds lo hi)) M
    | .seq ds => .ok (.lst (cutD ds lo hi)) M
    | _ => .bad : Out D)) ≠ .bad := n1
  refine mono (hh M2 (Out.nb n1')) (fun hi M3 e3 => ?_) fun C M3 e3 => e1'.trans (by rw [e3]; rfl)
  rw [e3] at n1' e1'
  cases x with
  | lst ds => exact ⟨ds, .inl rfl, e1'⟩
  | seq ds => exact ⟨ds, .inr rfl, e1'⟩
  | _ => exact absurd rfl n1'
theorem cons_of {ps : List Expr} (h : decide (1 ≤ ps.length) = true) : ∃ p qs, ps = p :: qs := by
  cases ps with
  | nil => cases h
  | cons p qs => exact ⟨p, qs, rfl⟩
theorem toldO_nb {k : Nat} {ρ : Ro} {M : Store} (n : toldO c k ρ M ≠ .bad) : c.Λ k (noLam ρ) M ≠ .bad := fun z => n (by unfold toldO; rw [z])
theorem told_q (hy : Hyp nm c L.g m) {CS : Addr} (hct : ∀ C, c.ct C = true → PySem.W.exmOne L.g.K (.ref (L.g.ca C)) (.ref CS) = some true) {k : Nat} {l : LamD} (hl : L.g.lk L.N L.sc k l) {ρ : Ro} {M : Store} (n : toldO c k ρ M ≠ .bad) :
    2 ≤ m ∧ LamX.LamS L.sc l.scope ∧ noPar l.params = true ∧ ToldQ L ρ M l (m - 2) CS c.rt (fun d M' => toldO c k ρ M = .ok d M') := by
  obtain ⟨h2, S, hp, h⟩ := hy.lam _ _ _ _ hl (noLam ρ) M (toldO_nb n)
  refine ⟨h2, S, hp, ((h (L.lam l.scope (m - 2)) rfl rfl rfl rfl (Nat.le_refl _)) (toldO_nb n)).mono (fun d M' e => ?_) fun C M' e => ?_⟩
  · unfold toldO; rw [e]
  · have e : c.Λ k (noLam ρ) M = .ex C M' := e
    unfold toldO at n ⊢
    rw [e] at n ⊢
    by_cases hc : c.ct C = true
    · simp only [if_pos hc]
      exact ⟨hct C hc, trivial⟩
    · simp only [if_neg hc] at n
      exact absurd rfl n
theorem ev_mlst {Q : D → Store → Prop} {E : Nat → Store → Prop} (h : EvF L ρ M py (fun ds M1 => Q (.ref M1.length) (M1 ++ [.lst ds])) E) : Ev L ρ M py Q E := fun X ci B σ G H R f s k x =>
  h X ci B σ G H R f s (fun p vs ds G' M' H' m' s' n nG nA hp r q => by
    have s5 := s'.join (m := .lst ds) nG nA ⟨vs, hp, r⟩
    refine k _ (.ref M'.length) _ _ H' (m'.join n) s5 ⟨p, rfl, ?_⟩ q
    show (G'.A ++ [p])[M'.length]? = some p
    rw [← s'.len]
    simp) x
theorem argsQ {es : Es} {Q : List D → Store → Prop} {E : Nat → Store → Prop} (hE : ckEs nm S es ps = true) (h : EvAO L ρ M ps (evEs c es ρ M)) {k : List D → Store → Out D} (n : (evEs c es ρ M).bind k ≠ .bad)
    (hq : ∀ ds M1, k ds M1 ≠ .bad → (evEs c es ρ M).bind k = k ds M1 → Q ds M1) (he : ∀ C M1, (evEs c es ρ M).bind k = .ex C M1 → E C M1) : ArgsQ L ρ M ps Q E := by
  cases ps with
  | nil =>
    cases es with
    | cons e es => cases hE
    | nil =>
      have e0 : (evEs c .nil ρ M) = .ok [] M := by rw [evEs]
      rw [e0] at n hq
      exact hq [] M n rfl
  | cons p ps => exact (h.step n).mono (fun ds M1 ⟨_, n1, e1⟩ => hq ds M1 n1 e1) he
theorem fldO_some {fl : FlT} {d z : D} {n : Nat} (h : fldO fl M d n = some z) : ∃ cl ns ds, objOf M d = some (cl, ns, ds) ∧ fl cl n = true ∧ lookF ns ds n = some z := by
  unfold fldO at h
  split at h
  · rename_i cl ns ds e
    by_cases hf : fl cl n = true
    · rw [if_pos hf] at h; exact ⟨cl, ns, ds, e, hf, h⟩
    · rw [if_neg hf] at h; cases h
  · cases h
theorem slO_some {fl : FlT} {z : D} {i n : Nat} (h : slO fl ρ i n = some z) : ∃ cl ns ds, ρ[i]? = some (.ob cl ns ds) ∧ fl cl n = true ∧ lookF ns ds n = some z := by
  unfold slO at h
  split at h
  · rename_i cl ns ds e
    by_cases hf : fl cl n = true
    · rw [if_pos hf] at h; exact ⟨cl, ns, ds, e, hf, h⟩
    · rw [if_neg hf] at h; cases h
  · cases h
theorem mthO_some {mt : Nat → Nat → Option Nat} {d : D} {n f : Nat} (h : mthO mt M d n = some f) : ∃ cl ns ds, objOf M d = some (cl, ns, ds) ∧ n ∉ ns ∧ mt cl n = some f := by
  unfold mthO at h
  split at h
  · rename_i cl ns ds e
    by_cases hf : n ∈ ns
    · rw [if_pos hf] at h; cases h
    · rw [if_neg hf] at h; exact ⟨cl, ns, ds, e, hf, h⟩
  · cases h
theorem mkO_Q {mu : Bool} {fn : List D → Store → Out D} {ds : List D} {o : Out D} (n : mkO mu (fn ds M) ≠ .bad) (e : o = mkO mu (fn ds M)) : mkQ mu fn ds M (Res o) (ResX o) := by
  subst e
  refine ⟨fun z => n (by rw [z]; rfl), fun cl ns es M' q => ?_, fun C M' q => ?_⟩
  · cases mu with
    | true => show mkO true (fn ds M) = _; rw [q]; rfl
    | false => show mkO false (fn ds M) = _; rw [q]; rfl
  · show mkO mu (fn ds M) = _; rw [q]; rfl
theorem sno_enum {elts : List Expr} {kk : Nat} {tpos p1 : Pos} {oa : Out D} (hg : Glo L "enumerate") (hm : L.g.mg "enumerate" = none) (hs : ∀ env, starEach [p] env = (false, eval p env) :: starEach [] env) (h : EvO L ρ M p oa) :
    SrcO L ρ M (.Tuple elts kk tpos) (.Call (.Name "enumerate" p1) [p] [] pos) (oa.bind fun x M => optO (enumO x) M) := fun n => by
  refine src_enumT hg hm hs ((h.step n).mono (fun d M1 ⟨_, n1, e1⟩ => ?_) fun _ _ z => z)
  obtain ⟨z, hz, ez⟩ := optO_nb n1
  have e3 := e1.trans ez
  cases d with
  | lst ds => cases hz; exact ⟨ds, .inl rfl, e3⟩
  | seq ds => cases hz; exact ⟨ds, .inr (.inl rfl), e3⟩
  | tup ds => cases hz; exact ⟨ds, .inr (.inr rfl), e3⟩
  | _ => cases hz
theorem zipO_some {x y : D} {z : List D} (h : zipO x y = some z) : ∃ xs ys, (((x = .lst xs ∨ x = .seq xs) ∧ (y = .lst ys ∨ y = .seq ys)) ∨ (x = .tup xs ∧ y = .tup ys)) ∧ z = zipD xs ys := by
  cases x with
  | lst xs => cases y with
    | lst ys => cases h; exact ⟨xs, ys, .inl ⟨.inl rfl, .inl rfl⟩, rfl⟩
    | seq ys => cases h; exact ⟨xs, ys, .inl ⟨.inl rfl, .inr rfl⟩, rfl⟩
    | _ => cases h
  | seq xs => cases y with
    | lst ys => cases h; exact ⟨xs, ys, .inl ⟨.inr rfl, .inl rfl⟩, rfl⟩
    | seq ys => cases h; exact ⟨xs, ys, .inl ⟨.inr rfl, .inr rfl⟩, rfl⟩
    | _ => cases h
  | tup xs => cases y with
    | tup ys => cases h; exact ⟨xs, ys, .inr ⟨rfl, rfl⟩, rfl⟩
    | _ => cases h
  | _ => cases h
theorem sno_zip {elts : List Expr} {kk : Nat} {tpos p1 : Pos} {oa : Out D} {ob : Store → Out D} (hg : Glo L "zip") (hm : L.g.mg "zip" = none) (hs : ∀ env, starEach [p, q] env = (false, eval p env) :: starEach [q] env) (hs2 : ∀ env, starEach [q] env = (false, eval q env) :: starEach [] env) (h : EvO L ρ M p oa) (h2 : ∀ (x : D) M1, EvO L ρ M1 q (ob M1)) :
    SrcO L ρ M (.Tuple elts kk tpos) (.Call (.Name "zip" p1) [p, q] [] pos) (oa.bind fun x M => (ob M).bind fun y M => optO (zipO x y) M) := fun n => by
  refine src_zip hg hm hs hs2 ((h.step n).mono (fun d M1 ⟨_, n1, e1⟩ => ((h2 d M1).step n1).mono (fun d2 M2 ⟨_, n2, e2⟩ => ?_) fun C M2 e2 => e1.trans e2) fun _ _ z => z)
  obtain ⟨z, hz, ez⟩ := optO_nb n2
  obtain ⟨xs, ys, hk, rfl⟩ := zipO_some hz
  exact ⟨xs, ys, hk, (e1.trans e2).trans ez⟩
theorem and2 {a b : Bool} (h : (a && b) = true) : a = true ∧ b = true := Bool.and_eq_true_iff.mp h
theorem not1 {a : Bool} (h : (!a) = true) : a = false := by cases a <;> first | rfl | cases h
end
section
variable (nm : Nm) (c : Cn) (m : Nat)
mutual
theorem sndE : ∀ e : E, SndE nm c m e
  | .non => fun S py h L lo ρ M => by
    unfold ckE at h
    split at h
    · rw [evE]; exact all3 (fun n => ev_non rfl) rfl rfl
    · cases h
  | .bl b => fun S py h L lo ρ M => by
    unfold ckE at h
    split at h
    · rw [evE]
      obtain rfl := beq_iff_eq.mp h
      exact all3 (fun n => ev_bl rfl) rfl rfl
    · cases h
  | .int b => fun S py h L lo ρ M => by
    unfold ckE at h
    split at h
    · rw [evE]
      obtain rfl := of_decide_eq_true h
      exact all3 (fun n => ev_int rfl) rfl rfl
    · cases h
  | .str b => fun S py h L lo ρ M => by
    unfold ckE at h
    split at h
    · rw [evE]
      obtain rfl := of_decide_eq_true h
      exact all3 (fun n => ev_str rfl) rfl rfl
    · cases h
  | .v i => fun S py h L lo ρ M => by
    unfold ckE at h
    split at h
    · rw [evE]
      obtain ⟨h1, h2, h3, h4⟩ := lo.var h
      refine all3 (fun n => ?_) rfl rfl
      obtain ⟨d, hd, ed⟩ := optO_nb n
      exact ev_var (getS_some hd) h1 h2 ed h3 h4
    · cases h
  | .g k => fun S py h L lo ρ M => by
    unfold ckE at h
    split at h
    · rw [evE]
      obtain ⟨h1, h2⟩ := and2 h
      obtain ⟨g1, g2⟩ := lo.glo h2
      refine all3 (fun n => ?_) rfl rfl
      obtain ⟨d, hd, ed⟩ := optO_nb n
      exact ev_glob (lo.hy.gl k _ d (of_decide_eq_true h1) hd) g1 ed g2
    · cases h
  | .neg a => fun S py h L lo ρ M => by
    unfold ckE at h
    split at h
    · rw [evNeg1]
      refine all3 (fun n => ev_neg ((((sndE a S _ h L lo ρ M).1).step n).mono (fun d M1 ⟨_, n1, e1⟩ => ?_) fun _ _ z => z)) rfl rfl
      obtain ⟨i, rfl⟩ := kNeg_int n1
      exact ⟨i, rfl, e1⟩
    · cases h
  | .not a => fun S py h L lo ρ M => by
    unfold ckE at h
    split at h
    · rw [evNot1]
      have ih := sndE a S _ h L lo ρ M
      obtain ⟨a1, a2⟩ := snd_not ih.1 ih.2.1
      exact ⟨a1, a2, fun z => by cases z⟩
    · cases h
  | .bin o a b => fun S py h L lo ρ M => by
    unfold ckE at h
    split at h
    · rw [evE]
      obtain ⟨h1, h2⟩ := and2 h
      obtain ⟨h2, h3⟩ := and2 h2
      obtain rfl := of_decide_eq_true h1
      exact all3 (snd_bin (sndE a S _ h2 L lo ρ M).1 fun x M1 _ => (sndE b S _ h3 L lo ρ M1).1) rfl rfl
    · cases h
  | .cmp o a b => fun S py h L lo ρ M => by
    unfold ckE at h
    split at h
    · rw [evE]
      obtain ⟨h1, h2⟩ := and2 h
      obtain ⟨h2, h3⟩ := and2 h2
      obtain ⟨h3, h4⟩ := and2 h3
      obtain ⟨h4, h5⟩ := and2 h4
      obtain rfl := of_decide_eq_true h1
      have hn : ∀ (x : D) M1 y M2, evE c b ρ M1 = .ok y M2 → cmpNon o y := fun x M1 y M2 e z => by
        rcases Bool.or_eq_true_iff.mp h3 with k | k
        · exact cmp_notN (not1 k) y z
        · cases b with
          | non => rw [evE] at e; cases e; rfl
          | _ => cases k
      have i1 := (sndE a S _ h4 L lo ρ M).1
      exact ⟨snd_cmp (not1 h2) hn i1 fun x M1 _ => (sndE b S _ h5 L lo ρ M1).1, snt_cmp (not1 h2) hn i1 fun x M1 _ => (sndE b S _ h5 L lo ρ M1).1, fun z => by cases z⟩
    · cases h
  | .chain o o' a b d => fun S py h L lo ρ M => by
    unfold ckE at h
    split at h
    · rw [evChain1]
      obtain ⟨h1, h⟩ := and2 h
      obtain ⟨h2, h⟩ := and2 h
      obtain ⟨h3, h⟩ := and2 h
      obtain ⟨h4, h⟩ := and2 h
      obtain ⟨h5, h⟩ := and2 h
      obtain ⟨h6, h7⟩ := and2 h
      obtain ⟨h8, h9⟩ := and2 h4
      obtain rfl := of_decide_eq_true h1
      obtain rfl := of_decide_eq_true h2
      obtain ⟨a1, a2⟩ := snd_chain (pos := _) (not1 h3) (not1 h8) (not1 h9) (sndE a S _ h5 L lo ρ M).1 (fun M1 => (sndE b S _ h6 L lo ρ M1).1) (fun M1 => (sndE d S _ h7 L lo ρ M1).1)
      exact ⟨a1, a2, fun z => by cases z⟩
    · cases h
  | .and es => fun S py h L lo ρ M => by
    unfold ckE at h
    split at h
    · rw [evE]
      obtain ⟨h1, h2⟩ := and2 h
      have h2 := of_decide_eq_true h2
      obtain ⟨a1, a2, _, _⟩ := (sndEs es S _ h1 L lo ρ M).2 (fun z => by rw [z] at h2; simp at h2) _
      exact ⟨a1, fun n => (a2 n).t, fun z => by cases z⟩
    · cases h
  | .or es => fun S py h L lo ρ M => by
    unfold ckE at h
    split at h
    · rw [evE]
      obtain ⟨h1, h2⟩ := and2 h
      have h2 := of_decide_eq_true h2
      obtain ⟨_, _, a1, a2⟩ := (sndEs es S _ h1 L lo ρ M).2 (fun z => by rw [z] at h2; simp at h2) _
      exact ⟨a1, fun n => (a2 n).t, fun z => by cases z⟩
    · cases h
  | .ite t a b => fun S py h L lo ρ M => by
    unfold ckE at h
    split at h
    · rw [evIte1]
      obtain ⟨h1, h2⟩ := and2 h
      obtain ⟨h2, h3⟩ := and2 h2
      obtain ⟨a1, a2⟩ := snd_ite (pos := _) (sndE t S _ h1 L lo ρ M).2.1 (fun M1 => ⟨(sndE a S _ h2 L lo ρ M1).1, (sndE a S _ h2 L lo ρ M1).2.1⟩) (fun M1 => ⟨(sndE b S _ h3 L lo ρ M1).1, (sndE b S _ h3 L lo ρ M1).2.1⟩)
      exact ⟨a1, a2, fun z => by cases z⟩
    · cases h
  | .tup es => fun S py h L lo ρ M => by
    unfold ckE at h
    split at h
    · rw [evE]
      obtain ⟨h1, h2⟩ := and2 h
      exact all3 (snd_tup ((sndEs es S _ h1 L lo ρ M).1 h2)) rfl rfl
    · cases h
  | .lst es => fun S py h L lo ρ M => by
    unfold ckE at h
    split at h
    · rw [evE]
      obtain ⟨h1, h2⟩ := and2 h
      exact all3F (snd_lst ((sndEs es S _ h1 L lo ρ M).1 h2)) rfl
    · cases h
  | .ix a b => fun S py h L lo ρ M => by
    unfold ckE at h
    split at h
    · rw [evE]
      obtain ⟨h1, h2⟩ := and2 h
      obtain ⟨h2, h3⟩ := and2 h2
      exact all3 (snd_ix (plain_of h1) (sndE a S _ h2 L lo ρ M).1 fun x M1 _ => (sndE b S _ h3 L lo ρ M1).1) rfl rfl
    · cases h
  | .sl a l u => fun S py h L lo ρ M => by
    unfold ckE at h
    split at h
    · rw [evE]
      obtain ⟨h1, h2⟩ := and2 h
      obtain ⟨h2, h3⟩ := and2 h2
      exact all3F (snd_sl (sndE a S _ h1 L lo ρ M).1 (fun M1 n => (sndEo l).1 S _ h2 L lo ρ M1 n) (fun M1 n => (sndEo u).1 S _ h3 L lo ρ M1 n)) rfl
    · cases h
  | .call f es => fun S py h L lo ρ M => by
    unfold ckE at h
    split at h
    · rw [evE]
      obtain ⟨h1, h2⟩ := and2 h
      obtain ⟨h2, h3⟩ := and2 h2
      obtain ⟨h3, h4⟩ := and2 h3
      exact all3 (snd_call lo (of_decide_eq_true h1) h2 h3 h4 ((sndEs es S _ h3 L lo ρ M).1 h4)) rfl rfl
    · cases h
  | .bi b es => fun S py h L lo ρ M => by
    unfold ckE at h
    split at h
    · rw [evE]
      obtain ⟨h1, h⟩ := and2 h
      obtain ⟨h2, h⟩ := and2 h
      obtain ⟨h3, h⟩ := and2 h
      obtain ⟨h4, h5⟩ := and2 h
      obtain rfl := of_decide_eq_true h1
      have ih := (sndEs es S _ h3 L lo ρ M).1 h4
      obtain ⟨p, ps, e⟩ := cons_of h5
      subst e
      by_cases hb : b = .list
      · subst hb
        exact all3F (snd_list lo h2 h4 ih) rfl
      · by_cases hb2 : b = .sorted
        · subst hb2
          exact all3F (snd_sorted lo h2 h4 ih) rfl
        · refine all3 (snd_bi lo ⟨hb, hb2⟩ h2 h4 ih) rfl ?_
          cases b <;> first | rfl | exact absurd rfl hb | exact absurd rfl hb2
    · cases h
  | .lc own pt it elt ifs => fun S py h L lo ρ M => by
    unfold ckE at h
    split at h
    · rw [evE]
      obtain ⟨h0, h⟩ := and2 h
      obtain ⟨h1, h⟩ := and2 h
      obtain ⟨h2, h⟩ := and2 h
      obtain ⟨h3, h⟩ := and2 h
      obtain ⟨h4, h⟩ := and2 h
      obtain ⟨h5, h⟩ := and2 h
      obtain ⟨h6, h7⟩ := and2 h
      obtain rfl := of_decide_eq_true h0
      exact all3F (snd_lc lo h1 h2 h3 h4 (sndI it S _ _ h5 L lo ρ M) fun ρ0 => ⟨fun ρ' M' => (sndEo ifs).2 _ _ h7 _ (lo.blk _) ρ' M', fun ρ' M' => (sndE elt _ _ h6 _ (lo.blk _) ρ' M').1⟩) rfl
    · cases h
  | .tupG src pt it elt ifs => fun S py h L lo ρ M => by
    unfold ckE at h
    split at h
    · rw [evE]
      obtain ⟨h0, h⟩ := and2 h
      obtain ⟨h1, h⟩ := and2 h
      obtain ⟨h2, h⟩ := and2 h
      obtain ⟨h3, h⟩ := and2 h
      obtain ⟨h4, h⟩ := and2 h
      obtain ⟨h5, h⟩ := and2 h
      obtain ⟨h6, h⟩ := and2 h
      obtain ⟨h7, h⟩ := and2 h
      obtain ⟨h8, h9⟩ := and2 h
      obtain rfl := of_decide_eq_true h0
      obtain rfl := of_decide_eq_true h1
      exact all3 (snd_tupG lo h2 h3 h4 h5 h6 (sndI it S _ _ h7 L lo ρ M) fun ρ0 => ⟨fun ρ' M' => (sndEo ifs).2 _ _ h9 _ (lo.gn _ _) ρ' M', fun ρ' M' => (sndE elt _ _ h8 _ (lo.gn _ _) ρ' M').1⟩) rfl rfl
    · cases h
  | .lenO i => fun S py h L lo ρ M => by
    unfold ckE at h
    split at h
    · rw [evE]
      obtain ⟨h0, h⟩ := and2 h
      obtain ⟨h1, h2⟩ := and2 h
      obtain rfl := of_decide_eq_true h0
      obtain ⟨g1, g2⟩ := lo.glo h1
      obtain ⟨a1, a2, a3, a4⟩ := lo.var h2
      refine all3 (fun n => ?_) rfl rfl
      cases q : getO ρ i with
      | none => rw [q] at n; exact absurd rfl n
      | some ds => exact ev_lenO a1 a2 a3 a4 g1 (lo.bu (by decide +kernel)) (getO_some q) rfl
    · cases h
  | .ixO i e => fun S py h L lo ρ M => by
    unfold ckE at h
    split at h
    · rw [evE]
      obtain ⟨h0, h⟩ := and2 h
      obtain ⟨h1, h2⟩ := and2 h
      obtain ⟨a1, a2, a3, a4⟩ := lo.var h1
      refine all3 (fun n => ?_) rfl rfl
      cases q : getO ρ i with
      | none => rw [q] at n; exact absurd rfl n
      | some ds =>
        rw [q] at n
        have n : ((evE c e ρ M).bind fun d M => (match d with
          | .int k => optO (atD ds k) M
          | _ => .bad : Out D)) ≠ .bad := n
        refine ev_ixO (plain_of h0) a1 a2 a3 a4 (getO_some q) (((sndE e S _ h2 L lo ρ M).1.step n).mono (fun d M1 ⟨_, n1, e1⟩ => ?_) fun _ _ z => z)
        cases d with
        | int k =>
          obtain ⟨z, hz, ez⟩ := optO_nb (show optO (atD ds k) M1 ≠ .bad from n1)
          exact ⟨k, z, rfl, hz, e1.trans ez⟩
        | _ => exact absurd rfl n1
    · cases h
  | .attr a n => fun S py h L lo ρ M => by
    unfold ckE at h
    split at h
    · rw [evE]
      obtain ⟨h1, h⟩ := and2 h
      obtain ⟨h2, h3⟩ := and2 h
      obtain rfl := lo.hy.at_ _ _ (of_decide_eq_true h1)
      refine all3 (fun n => ?_) rfl rfl
      refine ev_attr lo.hy.inj h2 (((sndE a S _ h3 L lo ρ M).1.step n).mono (fun d M1 ⟨_, n1, e1⟩ => ?_) fun _ _ z => z)
      obtain ⟨z, hz, ez⟩ := optO_nb n1
      obtain ⟨cl, ns, ds, ho, hf, hl⟩ := fldO_some hz
      exact ⟨cl, ns, ds, z, ho, lo.hy.fld _ _ hf, hl, e1.trans ez⟩
    · cases h
  | .attrO i n => fun S py h L lo ρ M => by
    unfold ckE at h
    split at h
    · rw [evE]
      obtain ⟨h1, h2⟩ := and2 h
      obtain rfl := lo.hy.at_ _ _ (of_decide_eq_true h1)
      obtain ⟨v1, v2, v3, v4⟩ := lo.var h2
      refine all3 (fun n => ?_) rfl rfl
      obtain ⟨z, hz, ez⟩ := optO_nb n
      obtain ⟨cl, ns, ds, ho, hf, hl⟩ := slO_some hz
      exact ev_attrO lo.hy.inj v1 v2 v3 v4 ho (lo.hy.fld _ _ hf) hl ez
    · cases h
  | .meth a n es => fun S py h L lo ρ M => by
    unfold ckE at h
    split at h
    · rw [evE]
      obtain ⟨h1, h⟩ := and2 h
      obtain ⟨h2, h⟩ := and2 h
      obtain ⟨h3, h⟩ := and2 h
      obtain ⟨h4, h⟩ := and2 h
      obtain ⟨h5, h⟩ := and2 h
      obtain ⟨h6, h7⟩ := and2 h
      obtain rfl := lo.hy.at_ _ _ (of_decide_eq_true h1)
      refine all3 (fun nb => ?_) rfl rfl
      refine ev_meth lo.hy.inj h2 h3 h4 (of_decide_eq_true h5) (((sndE a S _ h6 L lo ρ M).1.step nb).mono (fun d M1 ⟨_, n1, e1⟩ => ?_) fun _ _ z => z)
      unfold kMeth at n1 e1
      cases hm : mthO c.mt M1 d n with
      | none => rw [hm] at n1; exact absurd rfl n1
      | some f =>
        simp only [hm] at n1 e1
        obtain ⟨cl, ns, ds, ho, hn, hf⟩ := mthO_some hm
        refine ⟨cl, ns, ds, _, _, ho, hn, lo.hy.mth _ _ _ hf, lo.lv, ?_⟩
        refine argsQ h7 ((sndEs es S _ h7 L lo ρ M1).1 h4) n1 (fun ds M2 n2 e2 => ?_) (fun C M2 e2 => e1.trans e2)
        exact ⟨n2, fun r M3 e3 => (e1.trans e2).trans e3, fun C M3 e3 => (e1.trans e2).trans e3⟩
    · cases h
  | .make mu f es => fun S py h L lo ρ M => by
    unfold ckE at h
    split at h
    · rw [evE]
      obtain ⟨h1, h⟩ := and2 h
      obtain ⟨h2, h⟩ := and2 h
      obtain ⟨h3, h4⟩ := and2 h
      obtain ⟨g1, g2⟩ := lo.glo h2
      refine all3 (fun n => ?_) rfl rfl
      refine ev_make (mu := mu) (lo.hy.mkr _ _ (of_decide_eq_true h1)) lo.lv g1 h4 ?_ g2
      exact argsQ h3 ((sndEs es S _ h3 L lo ρ M).1 h4) n (fun ds M2 n2 e2 => mkO_Q n2 e2) (fun C M2 e2 => e2)
    · cases h
  | .mlst es => fun S py h L lo ρ M => by
    unfold ckE at h
    split at h
    · rw [evE]
      obtain ⟨h1, h2⟩ := and2 h
      refine all3 (fun n => ?_) rfl rfl
      refine ev_mlst (ef_lst ((((sndEs es S _ h1 L lo ρ M).1 h2).step n).mono (fun ds M1 ⟨_, n1, e1⟩ => ?_) fun _ _ z => z))
      by_cases hl : ds.length ≤ 100000
      · rw [if_pos hl] at e1; exact ⟨hl, e1⟩
      · rw [if_neg hl] at n1; exact absurd rfl n1
    · cases h
  | .qG st src pt it elt ifs => fun S py h L lo ρ M => by
    unfold ckE at h
    split at h
    · rw [evE]
      obtain ⟨h0, h⟩ := and2 h
      obtain ⟨h1, h⟩ := and2 h
      obtain ⟨h2, h⟩ := and2 h
      obtain ⟨h3, h⟩ := and2 h
      obtain ⟨h4, h⟩ := and2 h
      obtain ⟨h5, h⟩ := and2 h
      obtain ⟨h6, h⟩ := and2 h
      obtain ⟨h7, h⟩ := and2 h
      obtain ⟨h8, h9⟩ := and2 h
      obtain rfl := of_decide_eq_true h0
      obtain rfl := of_decide_eq_true h1
      exact all3 (snd_qG lo h2 h3 h4 h5 h6 (sndI it S _ _ h7 L lo ρ M) fun ρ0 => ⟨fun ρ' M' => (sndEo ifs).2 _ _ h9 _ (lo.gn _ _) ρ' M', fun ρ' M' => (sndE elt _ _ h8 _ (lo.gn _ _) ρ' M').1⟩) rfl rfl
    · cases h
  | .told k => fun S py h L lo ρ M => by
    unfold ckE at h
    split at h
    · rw [evE]
      obtain ⟨h1, h⟩ := and2 h
      obtain ⟨h2, h⟩ := and2 h
      obtain ⟨h3, h4⟩ := and2 h
      obtain ⟨g1, g2⟩ := lo.glo h2
      obtain ⟨CS, T, hct⟩ := lo.hy.td _ (of_decide_eq_true h1)
      obtain ⟨P, q, hcd⟩ := lo.cl h3
      refine all3 (fun n => ?_) rfl rfl
      have hlk := (lo.hy.lk _ _ _ _ h4).1
      rw [← lo.N, ← lo.sc] at hlk
      obtain ⟨h2', S', hp, hq⟩ := told_q lo.hy hct hlk n
      have hk2 : m - 2 + 2 ≤ L.n := by have := lo.lv; omega
      exact ev_told (l := LamD.mk _ _ _) (k := m - 2) T hk2 g1 g2 hcd S' hp hq
    · cases h
  | .bads i ik jf x => fun S py h L lo ρ M => by
    unfold ckE at h
    split at h
    · rw [evE]
      obtain ⟨h0, h⟩ := and2 h
      obtain ⟨h1, h⟩ := and2 h
      obtain ⟨h2, h⟩ := and2 h
      obtain ⟨h3, h⟩ := and2 h
      obtain ⟨h4, h⟩ := and2 h
      obtain ⟨h5, h⟩ := and2 h
      obtain ⟨h6, h⟩ := and2 h
      obtain ⟨h7, h⟩ := and2 h
      obtain ⟨h8, h⟩ := and2 h
      obtain ⟨h9, h⟩ := and2 h
      obtain ⟨h10, h⟩ := and2 h
      obtain ⟨h11, h⟩ := and2 h
      obtain ⟨h12, h⟩ := and2 h
      obtain ⟨h13, h14⟩ := and2 h
      obtain rfl := of_decide_eq_true h0
      obtain rfl := of_decide_eq_true h1
      obtain rfl := of_decide_eq_true h2
      obtain rfl := of_decide_eq_true h3
      obtain rfl := of_decide_eq_true h6
      obtain ⟨e1, e2⟩ := lo.glo h4
      obtain ⟨v1, v2, v3, v4⟩ := lo.var h5
      have lb := lo.blk
      refine all3 (fun n => ?_) rfl rfl
      obtain ⟨CS, T, hct⟩ := lo.hy.td _ (of_decide_eq_true h13)
      obtain ⟨a1, a2, a3, a4⟩ := (lb _).var h11
      obtain ⟨b1, b2, b3, b4⟩ := (lb _).var h12
      obtain ⟨t1, t2⟩ := (lb _).glo h14
      have hρ : ∃ ks, ρ[i]? = some (.lam ks) := by
        cases q : getL ρ i with
        | none => exact absurd (by unfold badsO; rw [q]) n
        | some ks =>
          unfold getL at q
          split at q
          · rename_i e; cases q; exact ⟨_, e⟩
          · cases q
      obtain ⟨ks, hρ⟩ := hρ
      exact ev_bads T (kk := m - 2) (fun k l M1 _ hlk nb => by
        obtain ⟨c1, c2⟩ := told_q lo.hy hct hlk nb
        exact ⟨by have := lo.lv; omega, c2⟩) hρ v1 v2 v3 v4 e1 (lo.bu (by decide +kernel)) (by rw [lo.N, lo.sc]; exact h7) (of_decide_eq_true h8) ((lb _).name h9) ((lb _).name h10) a2 a3 a4 a1 b1 b2 b3 b4 t1 t2 n (fun d M' e => e)
    · cases h
theorem sndEs : ∀ es : Es, SndEs nm c m es
  | .nil => fun S ps h L lo ρ M => by
    cases ps with
    | nil => exact ⟨fun _ n => by rw [evEs]; exact ea_nil rfl, fun z => absurd rfl z⟩
    | cons p ps => cases h
  | .cons e es => fun S ps h L lo ρ M => by
    cases ps with
    | nil => cases h
    | cons p ps =>
      have h : (ckE nm S e p && ckEs nm S es ps) = true := h
      obtain ⟨h1, h2⟩ := and2 h
      have ih := sndE e S p h1 L lo ρ M
      refine ⟨fun hs n => ?_, fun _ pos => ?_⟩
      · obtain ⟨s1, s2⟩ := allT hs
        rw [evEs] at n ⊢
        refine ea_cons (star_of s1 ps) ((ih.1.step n).mono (fun d M1 ⟨_, n1, e1⟩ => ?_) fun _ _ z => z)
        exact (((sndEs es S ps h2 L lo ρ M1).1 s2).step n1).mono (fun ds M2 ⟨_, _, e2⟩ => e1.trans e2) fun C M2 e2 => e1.trans e2
      · cases es with
        | nil =>
          cases ps with
          | cons q ps => cases h2
          | nil =>
            have e1 : evAnd c (.cons e .nil) ρ M = evE c e ρ M := by rw [evAnd]
            have e2 : evOr c (.cons e .nil) ρ M = evE c e ρ M := by rw [evOr]
            rw [e1, e2]
            obtain ⟨a1, a2⟩ := snd_and1 (pos := pos) ih.1 ih.2.1
            obtain ⟨b1, b2⟩ := snd_or1 (pos := pos) ih.1 ih.2.1
            exact ⟨a1, a2, b1, b2⟩
        | cons e' es' =>
          cases ps with
          | nil => cases h2
          | cons q ps =>
            rw [evAnd2, evOr2]
            have ih2 := fun M1 => (sndEs (.cons e' es') S (q :: ps) h2 L lo ρ M1).2 (fun z => by cases z) pos
            obtain ⟨a1, a2⟩ := snd_and (pos := pos) ih.1 ih.2.1 (fun M1 => (ih2 M1).1) (fun M1 => (ih2 M1).2.1)
            obtain ⟨b1, b2⟩ := snd_or (pos := pos) ih.1 ih.2.1 (fun M1 => (ih2 M1).2.2.1) (fun M1 => (ih2 M1).2.2.2)
            exact ⟨a1, a2, b1, b2⟩
theorem sndEo : ∀ eo : Eo, SndEo nm c m eo
  | .no => by
    refine ⟨fun S po h L lo ρ M n => ?_, fun S ps h L lo ρ M => ?_⟩
    · cases po with
      | none => rw [evEo]; rfl
      | some e => cases h
    · cases ps with
      | nil => rw [evIf]; rfl
      | cons p ps => cases h
  | .so e => by
    refine ⟨fun S po h L lo ρ M n => ?_, fun S ps h L lo ρ M => ?_⟩
    · cases po with
      | none => cases h
      | some p =>
        have h : ckE nm S e p = true := h
        rw [evEo] at n ⊢
        refine Ev.mono ((sndE e S p h L lo ρ M).1.step n) (fun d M1 ⟨_, n1, e1⟩ => ?_) fun _ _ z => z
        cases d with
        | int i => exact ⟨i, rfl, e1⟩
        | _ => exact absurd rfl n1
    · cases ps with
      | nil => cases h
      | cons p ps =>
        cases ps with
        | cons q ps => cases h
        | nil =>
          have h : ckE nm S e p = true := h
          rw [evIf]
          exact (sndE e S p h L lo ρ M).2.1
theorem sndI : ∀ it : I, SndI nm c m it
  | .seq e => fun S tg py h L lo ρ M => by
    have h : ckE nm S e py = true := h
    rw [evI]
    exact sno_seq (sndE e S py h L lo ρ M).1
  | .range1 a => fun S tg py h L lo ρ M => by
    unfold ckI at h
    split at h
    · rw [evI]
      obtain ⟨h0, h⟩ := and2 h
      obtain ⟨h1, h⟩ := and2 h
      obtain ⟨h2, h3⟩ := and2 h
      obtain rfl := of_decide_eq_true h0
      obtain ⟨g1, g2⟩ := lo.glo h1
      intro n
      refine src_range1 g1 (lo.bu (by decide +kernel)) (star_of h2 []) (((sndE a S _ h3 L lo ρ M).1.step n).mono (fun d M1 ⟨_, n1, e1⟩ => ?_) fun _ _ z => z)
      cases d with
      | int i =>
        by_cases hr : okR i = true
        · refine ⟨i, rfl, hr, e1.trans ?_⟩
          show (if okR i = true then _ else _) = _
          rw [if_pos hr]
        · exact absurd (show (if okR i = true then Out.ok (rangeD 0 i) M1 else .bad) = .bad by rw [if_neg hr]) n1
      | _ => exact absurd rfl n1
    · cases h
  | .range2 a b => fun S tg py h L lo ρ M => by
    unfold ckI at h
    split at h
    · rw [evI]
      obtain ⟨h0, h⟩ := and2 h
      obtain ⟨h1, h⟩ := and2 h
      obtain ⟨h2, h⟩ := and2 h
      obtain ⟨h3, h⟩ := and2 h
      obtain ⟨h4, h5⟩ := and2 h
      obtain rfl := of_decide_eq_true h0
      obtain ⟨g1, g2⟩ := lo.glo h1
      intro n
      refine src_range2 g1 (lo.bu (by decide +kernel)) (star_of h2 _) (star_of h3 []) (((sndE a S _ h4 L lo ρ M).1.step n).mono (fun d M1 ⟨_, n1, e1⟩ => ((sndE b S _ h5 L lo ρ M1).1.step n1).mono (fun d2 M2 ⟨_, n2, e2⟩ => ?_) fun C M2 e2 => e1.trans e2) fun _ _ z => z)
      cases d with
      | int i =>
        cases d2 with
        | int j =>
          by_cases hr : (okR i && okR j) = true
          · refine ⟨i, j, rfl, rfl, hr, (e1.trans e2).trans ?_⟩
            show (if (okR i && okR j) = true then _ else _) = _
            rw [if_pos hr]
          · exact absurd (show (if (okR i && okR j) = true then Out.ok (rangeD i j) M2 else .bad) = .bad by rw [if_neg hr]) n2
        | _ => exact absurd rfl n2
      | _ => exact absurd rfl n2
    · cases h
  | .enum a => fun S tg py h L lo ρ M => by
    unfold ckI at h
    split at h
    · rw [evI]
      obtain ⟨ht, h⟩ := and2 h
      obtain ⟨h0, h⟩ := and2 h
      obtain ⟨h1, h⟩ := and2 h
      obtain ⟨h2, h3⟩ := and2 h
      obtain rfl := of_decide_eq_true h0
      obtain ⟨g1, g2⟩ := lo.glo h1
      intro n
      cases tg with
      | Tuple elts kk tpos =>
        exact sno_enum g1 (lo.bu (by decide +kernel)) (star_of h2 []) (sndE a S _ h3 L lo ρ M).1 n
      | _ => cases ht
    · cases h
  | .zip a b => fun S tg py h L lo ρ M => by
    unfold ckI at h
    split at h
    · rw [evI]
      obtain ⟨ht, h⟩ := and2 h
      obtain ⟨h0, h⟩ := and2 h
      obtain ⟨h1, h⟩ := and2 h
      obtain ⟨h2, h⟩ := and2 h
      obtain ⟨h3, h⟩ := and2 h
      obtain ⟨h4, h5⟩ := and2 h
      obtain rfl := of_decide_eq_true h0
      obtain ⟨g1, g2⟩ := lo.glo h1
      intro n
      cases tg with
      | Tuple elts kk tpos =>
        exact sno_zip g1 (lo.bu (by decide +kernel)) (star_of h2 _) (star_of h3 []) (sndE a S _ h4 L lo ρ M).1 (fun x M1 => (sndE b S _ h5 L lo ρ M1).1) n
      | _ => cases ht
    · cases h
end
end
end PI
set_option Elab.async false
set_option linter.all false
set_option maxRecDepth 100000
set_option maxHeartbeats 8000000
/-! PN: statements, what is looked at in them; the induction. -/
namespace PI
open PySem L2
/-! ### looks -/
/-- whether a comprehension's store is done within it -/
def swB (sc : Scope) (x : Str) (px : Pos) : Expr → Bool
  | .ListComp _ _ s p => decide (sc.names.lookup x = some .local) && (px.line == p.line) && !(s.names.any fun (n, k) => n == x && (k == .local || k == .cell))
  | .SetComp _ _ s p => decide (sc.names.lookup x = some .local) && (px.line == p.line) && !(s.names.any fun (n, k) => n == x && (k == .local || k == .cell))
  | .DictComp _ _ _ s p => decide (sc.names.lookup x = some .local) && (px.line == p.line) && !(s.names.any fun (n, k) => n == x && (k == .local || k == .cell))
  | _ => false
theorem beq_some {o : Option NameKind} : (o == some NameKind.local) = decide (o = some NameKind.local) := by
  cases o with
  | none => rfl
  | some k => cases k <;> rfl
theorem sw_of {sc : Scope} {x : Str} {px : Pos} {e : Expr} {l : Nat} (hk : sc.kind = .function) (env : PySem.Env) (he : env.scope = sc) : swapsWith e (some (.Name x px)) l env = pure (swB sc x px e) := by
  have hb : env.blockKind = .function := by unfold Env.blockKind; rw [he, hk]; rfl
  have hx : env.kindOf x = sc.names.lookup x := by show env.scope.names.lookup x = _; rw [he]
  cases e with
  | ListComp a b s p => unfold swapsWith; simp only [hb, hx, Expr.pos, swB, beq_some]; rfl
  | SetComp a b s p => unfold swapsWith; simp only [hb, hx, Expr.pos, swB, beq_some]; rfl
  | DictComp a b d s p => unfold swapsWith; simp only [hb, hx, Expr.pos, swB, beq_some]; rfl
  | _ => rfl
def notComp : Expr → Bool
  | .ListComp _ _ _ _ => false
  | .SetComp _ _ _ _ => false
  | .DictComp _ _ _ _ _ => false
  | _ => true
theorem swN_of {e : Expr} {l : Nat} (h : notComp e = true) (env : PySem.Env) : swapsWith e none l env = pure false := by
  cases e <;> first | rfl | cases h
theorem swT_of {es : List Expr} {k : Nat} {p : Pos} {e : Expr} {l : Nat} (env : PySem.Env) : swapsWithSole [.Tuple es k p] e l env = pure false := by
  cases e <;> rfl
theorem swS_of {a b : Expr} {p : Pos} {e : Expr} {l : Nat} (env : PySem.Env) : swapsWithSole [.Subscript a b p] e l env = pure false := by
  cases e <;> rfl
theorem stS_of {a b : Expr} {p : Pos} {e : Expr} (env : PySem.Env) : swappedStores [.Subscript a b p] e env = pure none := by
  cases e <;> rfl
theorem sub_of {a b : Expr} {p : Pos} (h : notSlice b = true) : SubA a b p := fun env v => by
  cases b <;> first | rfl | cases h
/-- a tuple's names stored from the right, where both sides are written -/
def nmOf (sc : Scope) (line : Nat) : Expr → Option Str
  | .Name id pos => if sc.names.lookup id == some .local && pos.line == line then some id else none
  | _ => none
def isStar : Expr → Bool
  | .Starred _ _ => true
  | _ => false
def swC (sc : Scope) (ts : List Expr) (v : Expr) : Option (Option (List Str)) := match v with
  | .Tuple vs _ _ =>
    if (!(ts.length == 2 || ts.length == 3) || vs.length != ts.length) = true then some none else
    if (vs.any isStar) = true then some none else
    if ((ts.filterMap (nmOf sc ((ts.head?.map (·.pos.line)).getD 0))).length != ts.length || (ts.filterMap (nmOf sc ((ts.head?.map (·.pos.line)).getD 0))).eraseDups.length != (ts.filterMap (nmOf sc ((ts.head?.map (·.pos.line)).getD 0))).length) = true then some none else
    if (vs.all (foldedForSure 8)) = true then some none else
    if (vs.all (constantsAlone 8)) = true then none else some (some (ts.filterMap (nmOf sc ((ts.head?.map (·.pos.line)).getD 0))))
  | _ => some none
theorem swC_of {sc : Scope} {ts : List Expr} {k : Nat} {p : Pos} {v : Expr} {r : Option (List Str)} (h : swC sc ts v = some r) (hk : sc.kind = .function) (env : PySem.Env) (he : env.scope = sc) : swappedStores [.Tuple ts k p] v env = pure r := by
  have hb : env.blockKind = .function := by unfold Env.blockKind; rw [he, hk]; rfl
  have hx : ∀ x, env.kindOf x = sc.names.lookup x := fun x => by show env.scope.names.lookup x = _; rw [he]
  cases v with
  | Tuple vs k2 p2 =>
    unfold swC at h
    unfold swappedStores
    have hf : (fun x : Expr => match x with
      | .Name id pos => if env.kindOf id == some .local && pos.line == (ts.head?.map (·.pos.line)).getD 0 then some id else none
      | _ => none) = nmOf sc ((ts.head?.map (·.pos.line)).getD 0) := by
      funext x
      cases x <;> first | rfl | (simp only [hx]; rfl)
    have hs : (fun x : Expr => match x with | .Starred _ _ => true | _ => false) = isStar := by
      funext x; cases x <;> rfl
    simp only [hb]
    dsimp only at h
    have ef : (ScopeKind.function != ScopeKind.function) = false := by decide
    rw [ef, Bool.or_false]
    by_cases c1 : (!(ts.length == 2 || ts.length == 3) || vs.length != ts.length) = true
    · rw [if_pos c1] at h
      cases h
      rw [if_pos c1]
    · rw [if_neg c1] at h
      rw [if_neg c1]
      by_cases c2 : vs.any isStar = true
      · rw [if_pos c2] at h
        cases h
        refine if_pos (Eq.trans ?_ c2)
        exact congrArg (vs.any ·) hs
      · rw [if_neg c2] at h
        refine (if_neg (fun z => c2 (Eq.trans ?_ z))).trans ?_
        · exact (congrArg (vs.any ·) hs).symm
        · have hF : ts.filterMap (fun x : Expr => match x with
            | .Name id pos => if env.kindOf id == some .local && pos.line == (ts.head?.map (·.pos.line)).getD 0 then some id else none
            | _ => none) = ts.filterMap (nmOf sc ((ts.head?.map (·.pos.line)).getD 0)) := congrArg (ts.filterMap ·) hf
          generalize ts.filterMap (nmOf sc ((ts.head?.map (·.pos.line)).getD 0)) = ns at h hF
          by_cases c3 : (ns.length != ts.length || ns.eraseDups.length != ns.length) = true
          · rw [if_pos c3] at h
            cases h
            refine if_pos (Eq.trans ?_ c3)
            rw [← hF]; rfl
          · rw [if_neg c3] at h
            refine (if_neg (fun z => c3 (Eq.trans ?_ z))).trans ?_
            · rw [← hF]; rfl
            · by_cases c4 : vs.all (foldedForSure 8) = true
              · rw [if_pos c4] at h
                cases h
                rw [if_pos c4]
              · rw [if_neg c4] at h
                rw [if_neg c4]
                by_cases c5 : vs.all (constantsAlone 8) = true
                · rw [if_pos c5] at h
                  cases h
                · rw [if_neg c5] at h
                  cases h
                  rw [if_neg c5]
                  show (pure (some _) : Sem (Option (List Str))) = _
                  rw [← hF]; rfl
  | _ => cases h; rfl
end PI
set_option Elab.async false
set_option linter.all false
set_option maxRecDepth 100000
set_option maxHeartbeats 8000000
/-! PO: statements, the induction. -/
namespace PI
open PySem L2
section
variable (nm : Nm)
def lamsB (S : Sx) : List Nat → List Expr → Bool
  | [], [] => true
  | k :: ks, .Lambda ps b sc _ :: es => nm.lc S.N S.sc k ⟨ps, b, sc⟩ && lamsB S ks es
  | _, _ => false
mutual
def ckS (S : Sx) : PI.S → Stmt → Bool
  | .set i e, st => match st with
    | .Assign [.Name x px] pe _ => nameT S (.Name x px) i && (ckE nm S e pe && (!swB S.sc x px pe || (match e with | .lc _ _ _ _ _ => true | _ => false)))
    | _ => false
  | .setO i e, st => match st with
    | .Assign [.Name x px] pe _ => nameT S (.Name x px) i && (ckE nm S e pe && (freshB e && (!swB S.sc x px pe || (match e with | .lc _ _ _ _ _ => true | _ => false))))
    | _ => false
  | .un pt e, st => match st with
    | .Assign [.Tuple ts k p] pe _ => patB S (.Tuple ts k p) pt && (ckE nm S e pe && (match swC S.sc ts pe with | some none => true | _ => false))
    | _ => false
  | .unL js e, st => match st with
    | .Assign [.Tuple ts _ _] pe _ => namesT S ts js && (ckE nm S e pe && (match swC S.sc ts pe with | some none => true | _ => false))
    | _ => false
  | .par i j a b, st => match st with
    | .Assign [.Tuple [.Name x px, .Name y py] k1 p1] (.Tuple [p, q] k2 p2) _ => decide (S.N[i]? = some x) && (decide (S.N[j]? = some y) && (decide (i ≠ j) && (decide (S.sc.names.lookup x = some .local) && (decide (S.sc.names.lookup y = some .local) &&
        (decide (swC S.sc [.Name x px, .Name y py] (.Tuple [p, q] k2 p2) = some (some [x, y])) && ((notStar p && notStar q) && (ckE nm S a p && ckE nm S b q)))))))
    | _ => false
  | .par3 i j k a b e, st => match st with
    | .Assign [.Tuple [.Name x px, .Name y py, .Name z pz] k1 p1] (.Tuple [p, q, r] k2 p2) _ => decide (S.N[i]? = some x) && (decide (S.N[j]? = some y) && (decide (S.N[k]? = some z) && (decide (i ≠ j ∧ i ≠ k ∧ j ≠ k) && (decide (S.sc.names.lookup x = some .local) && (decide (S.sc.names.lookup y = some .local) && (decide (S.sc.names.lookup z = some .local) &&
        (decide (swC S.sc [.Name x px, .Name y py, .Name z pz] (.Tuple [p, q, r] k2 p2) = some (some [x, y, z])) && ((notStar p && (notStar q && notStar r)) && (ckE nm S a p && (ckE nm S b q && ckE nm S e r))))))))))
    | _ => false
  | .put a b e, st => match st with
    | .Assign [.Subscript p q _] r _ => notSlice q && (ckE nm S a p && (ckE nm S b q && ckE nm S e r))
    | _ => false
  | .aug i o e, st => match st with
    | .AugAssign (.Name x px) op pe _ => nameT S (.Name x px) i && (ckE nm S e pe && (decide (pyB o = op) && (match o with | .add => true | .sub => true | .mul => true | .div => true | _ => false)))
    | _ => false
  | .appO i e, st => match st with
    | .Expr (.Call (.Attribute (.Name x _) at_ apos) [pe] [] xp) _ => decide (at_ = ("append" : Str)) && (varB S i x && (notStar pe && ((apos.endLine == xp.line) && ckE nm S e pe)))
    | _ => false
  | .putO i b e, st => match st with
    | .Assign [.Subscript (.Name x _) q _] r _ => notSlice q && (varB S i x && (ckE nm S b q && ckE nm S e r))
    | _ => false
  | .expr e, st => match st with
    | .Expr pe _ => notComp pe && ckE nm S e pe
    | _ => false
  | .ret e, st => match st with
    | .Return (some pe) _ => ckE nm S e pe
    | _ => false
  | .retN, st => match st with
    | .Return none _ => true
    | _ => false
  | .ife c t f, st => match st with
    | .If pc pt pf _ => ckE nm S c pc && (ckSs S t pt && ckSs S f pf)
    | _ => false
  | .wh _ c b, st => match st with
    | .While pc pb [] _ => ckE nm S c pc && ckSs S b pb
    | _ => false
  | .fr pt it b, st => match st with
    | .For tg iter pb [] _ => patB S tg pt && (notSet iter && (ckI nm S (isTup tg) it iter && ckSs S b pb))
    | _ => false
  | .raise C, st => match st with
    | .Raise (some (.Call (.Name x _) [.Constant (.str _) _ _] [] _)) none _ => decide (nm.ex C = some x) && gloB S.sc x
    | _ => false
  | .pass, st => match st with
    | .Pass _ => true
    | _ => false
  | .brk, st => match st with
    | .Break _ => true
    | _ => false
  | .cont, st => match st with
    | .Continue _ => true
    | _ => false
  | .doc, st => match st with
    | .Expr (.Constant (.str _) _ _) _ => true
    | _ => false
  | .frz _, _ => false
  | .lamSet i ks, st => match st with
    | .Assign [.Name x px] (.List es lp) _ => nameT S (.Name x px) i && (S.lam && (lamsB nm S ks es && !swB S.sc x px (.List es lp)))
    | _ => false
  | .lamAdd i ks, st => match st with
    | .Assign [.Name x px] (.BinOp (.Name y pv) .Add (.List es lp) bp) _ => nameT S (.Name x px) i && (decide (y = x) && (varB S i x && (S.lam && (lamsB nm S ks es && !swB S.sc x px (.BinOp (.Name y pv) .Add (.List es lp) bp)))))
    | _ => false
  | .attrOw i n e, st => match st with
    | .Assign [.Attribute (.Name y _) x _] v _ => decide (nm.at_ n = some x) && (varB S i y && ckE nm S e v)
    | _ => false
  | .attrS a n e, st => match st with
    | .Assign [.Attribute p x _] v _ => decide (nm.at_ n = some x) && (ckE nm S a p && ckE nm S e v)
    | _ => false
def ckSs (S : Sx) : Ss → List Stmt → Bool
  | .nil, ps => ps.isEmpty
  | .cons (.frz _) ss, ps => ckSs S ss ps
  | .cons s ss, ps => match ps with
    | p :: ps => ckS S s p && ckSs S ss ps
    | [] => false
end
end
theorem Out.st_nb {α : Type} {o : Out α} {ρ : Ro} {k : α → Store → SO} (n : o.st ρ k ≠ .bad) : o ≠ .bad := fun z => n (by rw [z]; rfl)
section
variable {nm : Nm} {c : Cn} {m : Nat} {S : Sx} {L : Lx} {ρ : Ro} {M : Store} {py p q r : Expr} {ps : List Expr} {pos : Pos} {oa : Out D}
theorem EvO.st {k : D → Store → SO} (h : EvO L ρ M py oa) (n : oa.st ρ k ≠ .bad) : Ev L ρ M py (fun x M1 => oa = .ok x M1 ∧ k x M1 ≠ .bad ∧ oa.st ρ k = k x M1) (fun C M1 => oa.st ρ k = .ex C ρ M1) :=
  (h (Out.st_nb n)).mono (fun x M1 q => ⟨q, by rw [q] at n; exact n, by rw [q]; rfl⟩) fun C M1 q => by rw [q]; rfl
theorem EvFO.st {k : D → Store → SO} (h : EvFO L ρ M py oa) (n : oa.st ρ k ≠ .bad) : EvF L ρ M py (fun ds M1 => k (.lst ds) M1 ≠ .bad ∧ oa.st ρ k = k (.lst ds) M1) (fun C M1 => oa.st ρ k = .ex C ρ M1) :=
  (h (Out.st_nb n)).mono (fun x M1 q => ⟨by rw [q] at n; exact n, by rw [q]; rfl⟩) fun C M1 q => by rw [q]; rfl
theorem EvTO.st {k : D → Store → SO} (h : EvTO L ρ M py oa) (n : oa.st ρ k ≠ .bad) (hb : ∀ d M, k d M ≠ .bad → ∃ b, d = .bl b) : EvT L ρ M py (fun b M1 => k (.bl b) M1 ≠ .bad ∧ oa.st ρ k = k (.bl b) M1) (fun C M1 => oa.st ρ k = .ex C ρ M1) :=
  (h ⟨Out.st_nb n, fun d M e => hb d M (by rw [e] at n; exact n)⟩).mono (fun x M1 q => ⟨by rw [q] at n; exact n, by rw [q]; rfl⟩) fun C M1 q => by rw [q]; rfl
theorem SrcO.st {tg : Expr} {oa : Out (List D)} {k : List D → Store → SO} (h : SrcO L ρ M tg py oa) (n : oa.st ρ k ≠ .bad) : Src L ρ M tg py (fun x M1 => k x M1 ≠ .bad ∧ oa.st ρ k = k x M1) (fun C M1 => oa.st ρ k = .ex C ρ M1) :=
  (h (Out.st_nb n)).mono (fun x M1 q => ⟨by rw [q] at n; exact n, by rw [q]; rfl⟩) fun C M1 q => by rw [q]; rfl
/-- name = [..], either way -/
theorem set_lc (lo : LOk nm c m S L) (hk : S.sc.kind = .function) {own : List Nat} {pt : Pat} {it : I} {elt : E} {ifs : Eo} {i : Nat} {x : Str} {px p2 : Pos} (hn : nameT S (.Name x px) i = true) (hc : ckE nm S (.lc own pt it elt ifs) py = true) (hs : swB S.sc x px py = true) {k : List D → Store → SO}
    (n : ((evE c (.lc own pt it elt ifs) ρ M).st ρ fun d M => match d with
    | .lst ds => k ds M
    | _ => .bad) ≠ .bad) : StF L ρ M (.Assign [.Name x px] py pos) i (fun ds M1 => k ds M1 ≠ .bad ∧ ((evE c (.lc own pt it elt ifs) ρ M).st ρ fun d M => match d with
    | .lst ds => k ds M
    | _ => .bad) = k ds M1) (fun C M1 => ((evE c (.lc own pt it elt ifs) ρ M).st ρ fun d M => match d with
    | .lst ds => k ds M
    | _ => .bad) = .ex C ρ M1) := by
  unfold ckE at hc
  split at hc
  · rw [evE] at n ⊢
    obtain ⟨h0, h⟩ := and2 hc
    obtain ⟨h1, h⟩ := and2 h
    obtain ⟨h2, h⟩ := and2 h
    obtain ⟨h3, h⟩ := and2 h
    obtain ⟨h4, h⟩ := and2 h
    obtain ⟨h5, h⟩ := and2 h
    obtain ⟨h6, h7⟩ := and2 h
    obtain rfl := of_decide_eq_true h0
    unfold swB at hs
    simp only [Bool.and_eq_true, decide_eq_true_eq, Bool.not_eq_true'] at hs
    obtain ⟨⟨hs1, hs2⟩, hs3⟩ := hs
    obtain ⟨y, p', ey, hN, _, _⟩ := (lo.name hn).ex
    cases ey
    have hb' : ∀ {scope : Scope}, blkC S.N S.sc scope (ownNames S.N own) = true → blkC L.N L.sc scope (ownNames S.N own) = true := fun h => by rw [lo.N, lo.sc]; exact h
    refine stF_lc (own := ownNames S.N own) (pt := pt) (os := evI c it ρ M) (oi := fun ρ M => evIf c ifs ρ M) (oe := fun ρ M => evE c elt ρ M) hN (by rw [lo.sc]; exact hs1) ((lo.blk _).pat h4) (hb' h1) (fun j hjm => ?_) (fold_of h3) (by rw [lo.sc]; exact hk) hs2 hs3 (sndI nm c m it S _ _ h5 L lo ρ M)
      ⟨fun ρ' M' => (sndEo nm c m ifs).2 _ _ h7 _ (lo.blk _) ρ' M', fun ρ' M' => (sndE nm c m elt _ _ h6 _ (lo.blk _) ρ' M').1⟩ ?_ (fun ds M' e => ?_) fun C M' e => ?_
    · rw [own_map]
      have := List.all_eq_true.mp h2 j hjm
      simpa using this
    · rw [own_map]; exact Out.nb (Out.st_nb n)
    · rw [own_map] at e
      rw [e] at n ⊢
      exact ⟨n, rfl⟩
    · rw [own_map] at e; rw [e]; rfl
  · cases hc
theorem swB_cases {b : Bool} {x : Bool} (h : (!b || x) = true) : b = false ∨ (b = true ∧ x = true) := by cases b <;> simp_all
end
section
variable (nm : Nm) (c : Cn) (m : Nat)
def SndS (s : PI.S) : Prop := ∀ S st, ckS nm S s st = true → S.sc.kind = .function → ∀ L, LOk nm c m S L → ∀ ρ M, StmO L ρ M st (evS c s ρ M)
def SndSs (ss : Ss) : Prop := ∀ S ps, ckSs nm S ss ps = true → S.sc.kind = .function → ∀ L, LOk nm c m S L → ∀ ρ M, RunO L ρ M ps (evSs c ss ρ M)
end
section
variable {nm : Nm} {c : Cn} {m : Nat} {S : Sx} {L : Lx} {ρ : Ro} {M : Store} {py p q r : Expr} {ps : List Expr} {pos : Pos} {oa : Out D} {i : Nat} {e : E}
theorem s_set (h : ckS nm S (.set i e) st = true) (hk : S.sc.kind = .function) (lo : LOk nm c m S L) : StmO L ρ M st (evS c (.set i e) ρ M) := fun n => by
  unfold ckS at h
  split at h
  · rw [evS] at n ⊢
    obtain ⟨h1, h⟩ := and2 h
    obtain ⟨h2, h3⟩ := and2 h
    rcases swB_cases h3 with hs | ⟨hs, hl⟩
    · exact stm_set (lo.name h1) (fun env he => (sw_of (by rw [lo.sc]; exact hk) env he).trans (by rw [lo.sc, hs])) (((sndE nm c m e S _ h2 L lo ρ M).1.st n).mono (fun d M1 ⟨_, _, e1⟩ => e1) fun _ _ z => z)
    · cases e with
      | lc own pt it elt ifs =>
        have hcont : ∀ o : Out D, (∀ d M', o = .ok d M' → ∃ ds, d = .lst ds) → (o.st ρ fun d M => .nx (ρ.set i (.v d)) M) = o.st ρ fun d M => match d with
            | .lst ds => .nx (ρ.set i (.v (.lst ds))) M
            | _ => .bad := fun o ho => by
          cases o with
          | ok d M' => obtain ⟨ds, rfl⟩ := ho d M' rfl; rfl
          | ex C M' => rfl
          | bad => rfl
        have shape : ∀ d M', evE c (.lc own pt it elt ifs) ρ M = .ok d M' → ∃ ds, d = .lst ds := fun d M' e => by
          rw [evE] at e
          cases q : lcRun pt (wipeR (noLam ρ) own) (evI c it ρ M) (fun ρ M => evIf c ifs ρ M) (fun ρ M => evE c elt ρ M) with
          | ok ys M2 => rw [q] at e; cases e; exact ⟨ys, rfl⟩
          | ex C M2 => rw [q] at e; cases e
          | bad => rw [q] at e; cases e
        rw [hcont _ shape] at n ⊢
        have := fun pos => set_lc (pos := pos) (p2 := ⟨0, 0, 0, 0⟩) (k := fun ds M => .nx (ρ.set i (.v (.lst ds))) M) lo hk h1 h2 hs n
        exact stm_setF fun X ci B σ G H Dn f s kf kx => this _ X ci B σ G H Dn f s (fun p vs ds G' M' H' m' s' a1 a2 a3 a4 a5 ⟨_, q⟩ => kf p vs ds G' M' H' m' s' a1 a2 a3 a4 a5 q) kx
      | _ => cases hl
  · cases h
theorem s_setO (h : ckS nm S (.setO i e) st = true) (hk : S.sc.kind = .function) (lo : LOk nm c m S L) : StmO L ρ M st (evS c (.setO i e) ρ M) := fun n => by
  unfold ckS at h
  split at h
  · rw [evS] at n ⊢
    obtain ⟨h1, h⟩ := and2 h
    obtain ⟨h2, h⟩ := and2 h
    obtain ⟨hf, h3⟩ := and2 h
    rcases swB_cases h3 with hs | ⟨hs, hl⟩
    · refine stm_setO (stF_set (lo.name h1) (fun env he => (sw_of (by rw [lo.sc]; exact hk) env he).trans (by rw [lo.sc, hs])) ((((sndE nm c m e S _ h2 L lo ρ M).2.2 hf).st n).mono (fun d M1 ⟨_, e1⟩ => e1) fun _ _ z => z))
    · cases e with
      | lc own pt it elt ifs =>
        have := fun pos => set_lc (pos := pos) (p2 := ⟨0, 0, 0, 0⟩) (k := fun ds M => .nx (ρ.set i (.own ds)) M) lo hk h1 h2 hs n
        exact stm_setO fun X ci B σ G H Dn f s kf kx => this _ X ci B σ G H Dn f s (fun p vs ds G' M' H' m' s' a1 a2 a3 a4 a5 ⟨_, q⟩ => kf p vs ds G' M' H' m' s' a1 a2 a3 a4 a5 q) kx
      | _ => cases hl
  · cases h
theorem swC_n {sc : Scope} {ts : List Expr} {pe : Expr} (h : (match swC sc ts pe with | some none => true | _ => false) = true) : swC sc ts pe = some none := by
  split at h
  · assumption
  · cases h
theorem s_un {pt : Pat} (h : ckS nm S (.un pt e) st = true) (hk : S.sc.kind = .function) (lo : LOk nm c m S L) : StmO L ρ M st (evS c (.un pt e) ρ M) := fun n => by
  unfold ckS at h
  split at h
  · rw [evS] at n ⊢
    obtain ⟨h1, h⟩ := and2 h
    obtain ⟨h2, h3⟩ := and2 h
    refine stm_un (pt := pt) (lo.pat h1) (fun env => swT_of env) (fun env he => swC_of (swC_n h3) hk env (he.trans lo.sc)) (fun env => by rfl) (((sndE nm c m e S _ h2 L lo ρ M).1.st n).mono (fun d M1 ⟨_, n1, e1⟩ => ?_) fun _ _ z => z)
    cases q : asg pt ρ d with
    | none => rw [q] at n1; exact absurd rfl n1
    | some ρ' => rw [q] at e1; exact ⟨ρ', rfl, e1⟩
  · cases h
theorem s_unL {js : List Nat} (h : ckS nm S (.unL js e) st = true) (hk : S.sc.kind = .function) (lo : LOk nm c m S L) : StmO L ρ M st (evS c (.unL js e) ρ M) := fun n => by
  unfold ckS at h
  split at h
  · rw [evS] at n ⊢
    obtain ⟨h1, h⟩ := and2 h
    obtain ⟨h2, h3⟩ := and2 h
    refine stm_unL (lo.names h1) (fun env => swT_of env) (fun env he => swC_of (swC_n h3) hk env (he.trans lo.sc)) (((sndE nm c m e S _ h2 L lo ρ M).1.st n).mono (fun d M1 ⟨_, n1, e1⟩ => ?_) fun _ _ z => z)
    cases d with
    | lst ds =>
      by_cases hl : ds.length = js.length
      · refine ⟨ds, rfl, hl, e1.trans ?_⟩
        show (if ds.length = js.length then _ else _) = _
        rw [if_pos hl]
      · exact absurd (show (if ds.length = js.length then SO.nx (setAll ρ js ds) M1 else .bad) = .bad by rw [if_neg hl]) n1
    | _ => exact absurd rfl n1
  · cases h
theorem s_par {j : Nat} {a b : E} (h : ckS nm S (.par i j a b) st = true) (hk : S.sc.kind = .function) (lo : LOk nm c m S L) : StmO L ρ M st (evS c (.par i j a b) ρ M) := fun n => by
  unfold ckS at h
  split at h
  · rw [evS] at n ⊢
    obtain ⟨h1, h⟩ := and2 h
    obtain ⟨h2, h⟩ := and2 h
    obtain ⟨h3, h⟩ := and2 h
    obtain ⟨h4, h⟩ := and2 h
    obtain ⟨h5, h⟩ := and2 h
    obtain ⟨h6, h⟩ := and2 h
    obtain ⟨h7, h⟩ := and2 h
    obtain ⟨h8, h9⟩ := and2 h
    obtain ⟨s1, s2⟩ := and2 h7
    refine stm_par (i := i) (j := j) (by rw [lo.N]; exact of_decide_eq_true h1) (by rw [lo.N]; exact of_decide_eq_true h2) (of_decide_eq_true h3) (by rw [lo.sc]; exact of_decide_eq_true h4) (by rw [lo.sc]; exact of_decide_eq_true h5) (fun env he => swC_of (of_decide_eq_true h6) hk env (he.trans lo.sc)) ?_
    refine ea_cons (star_of s1 _) (((sndE nm c m a S _ h8 L lo ρ M).1.st n).mono (fun d M1 ⟨_, n1, e1⟩ => ea_cons (star_of s2 []) (((sndE nm c m b S _ h9 L lo ρ M1).1.st n1).mono (fun d2 M2 ⟨_, n2, e2⟩ => ea_nil ⟨d, d2, rfl, e1.trans e2⟩) fun C M2 e2 => e1.trans e2)) fun _ _ z => z)
  · cases h
theorem s_par3 {j k : Nat} {a b d : E} (h : ckS nm S (.par3 i j k a b d) st = true) (hk : S.sc.kind = .function) (lo : LOk nm c m S L) : StmO L ρ M st (evS c (.par3 i j k a b d) ρ M) := fun n => by
  unfold ckS at h
  split at h
  · rw [evS] at n ⊢
    obtain ⟨h1, h⟩ := and2 h
    obtain ⟨h2, h⟩ := and2 h
    obtain ⟨h3, h⟩ := and2 h
    obtain ⟨h4, h⟩ := and2 h
    obtain ⟨h5, h⟩ := and2 h
    obtain ⟨h6, h⟩ := and2 h
    obtain ⟨h7, h⟩ := and2 h
    obtain ⟨h8, h⟩ := and2 h
    obtain ⟨h9, h⟩ := and2 h
    obtain ⟨h10, h⟩ := and2 h
    obtain ⟨h11, h12⟩ := and2 h
    obtain ⟨s1, s2⟩ := and2 h9
    obtain ⟨s2, s3⟩ := and2 s2
    have h4 := of_decide_eq_true h4
    refine stm_par3 (i := i) (j := j) (l := k) (by rw [lo.N]; exact of_decide_eq_true h1) (by rw [lo.N]; exact of_decide_eq_true h2) (by rw [lo.N]; exact of_decide_eq_true h3) h4.1 h4.2.1 h4.2.2 (by rw [lo.sc]; exact of_decide_eq_true h5) (by rw [lo.sc]; exact of_decide_eq_true h6) (by rw [lo.sc]; exact of_decide_eq_true h7) (fun env he => swC_of (of_decide_eq_true h8) hk env (he.trans lo.sc)) ?_
    refine ea_cons (star_of s1 _) (((sndE nm c m a S _ h10 L lo ρ M).1.st n).mono (fun x M1 ⟨_, n1, e1⟩ => ea_cons (star_of s2 _) (((sndE nm c m b S _ h11 L lo ρ M1).1.st n1).mono (fun y M2 ⟨_, n2, e2⟩ => ea_cons (star_of s3 []) (((sndE nm c m d S _ h12 L lo ρ M2).1.st n2).mono (fun z M3 ⟨_, n3, e3⟩ => ea_nil ⟨x, y, z, rfl, (e1.trans e2).trans e3⟩) fun C M3 e3 => (e1.trans e2).trans e3)) fun C M2 e2 => e1.trans e2)) fun _ _ z => z)
  · cases h
theorem s_put {a b : E} (h : ckS nm S (.put a b e) st = true) (lo : LOk nm c m S L) : StmO L ρ M st (evS c (.put a b e) ρ M) := fun n => by
  unfold ckS at h
  split at h
  · rw [evS] at n ⊢
    obtain ⟨h1, h⟩ := and2 h
    obtain ⟨h2, h⟩ := and2 h
    obtain ⟨h3, h4⟩ := and2 h
    refine stm_put (fun env => swS_of env) (fun env => stS_of env) (fun env => by rfl) (sub_of h1) (((sndE nm c m e S _ h4 L lo ρ M).1.st n).mono (fun d M1 ⟨_, n1, e1⟩ => ((sndE nm c m a S _ h2 L lo ρ M1).1.st n1).mono (fun o M2 ⟨_, n2, e2⟩ => ((sndE nm c m b S _ h3 L lo ρ M2).1.st n2).mono (fun ii M3 ⟨_, n3, e3⟩ => ?_) fun C M3 e3 => (e1.trans e2).trans e3) fun C M2 e2 => e1.trans e2) fun _ _ z => z)
    have et := (e1.trans e2).trans e3
    cases o with
    | ref p =>
      cases ii with
      | int k =>
        cases hm : M3[p]? with
        | none => simp only [hm] at n3; exact absurd rfl n3
        | some mo =>
          cases mo with
          | lst ds =>
            cases hx : ixN' ds.length k with
            | none => simp only [hm, hx] at n3; exact absurd rfl n3
            | some nn => exact ⟨p, k, ds, nn, rfl, rfl, hm, hx, et.trans (by simp only [hm, hx])⟩
          | _ => simp only [hm] at n3; exact absurd rfl n3
      | _ => exact absurd rfl n3
    | _ => exact absurd rfl n3
  · cases h
theorem slPut_some {fl : FlT} {ρ ρ' : Ro} {i n : Nat} {d : D} (h : slPut fl ρ i n d = some ρ') : ∃ cl ns ds, ρ[i]? = some (.ob cl ns ds) ∧ fl cl n = true ∧ ns.length < 900 ∧ ρ' = ρ.set i (.ob cl (putFn n d ns ds).1 (putFn n d ns ds).2) := by
  unfold slPut at h
  split at h
  · rename_i cl ns ds e
    by_cases hf : (fl cl n && decide (ns.length < 900)) = true
    · rw [if_pos hf] at h
      rw [Bool.and_eq_true] at hf
      exact ⟨cl, ns, ds, e, hf.1, of_decide_eq_true hf.2, (Option.some.inj h).symm⟩
    · rw [if_neg hf] at h; cases h
  · cases h
theorem stPut_some {fl : FlT} {M M' : Store} {o : D} {n : Nat} {d : D} (h : stPut fl M o n d = some M') : ∃ k cl ns ds, o = .ref k ∧ M[k]? = some (.ins cl ns ds) ∧ fl cl n = true ∧ ns.length < 900 ∧ M' = M.set k (.ins cl (putFn n d ns ds).1 (putFn n d ns ds).2) := by
  unfold stPut at h
  split at h
  · rename_i k
    split at h
    · rename_i cl ns ds e
      by_cases hf : (fl cl n && decide (ns.length < 900)) = true
      · rw [if_pos hf] at h
        rw [Bool.and_eq_true] at hf
        exact ⟨k, cl, ns, ds, rfl, e, hf.1, of_decide_eq_true hf.2, (Option.some.inj h).symm⟩
      · rw [if_neg hf] at h; cases h
    · cases h
  · cases h
theorem s_attrOw {n : Nat} (h : ckS nm S (.attrOw i n e) st = true) (lo : LOk nm c m S L) : StmO L ρ M st (evS c (.attrOw i n e) ρ M) := fun nb => by
  unfold ckS at h
  split at h
  · rw [evS] at nb ⊢
    obtain ⟨h1, h⟩ := and2 h
    obtain ⟨h2, h3⟩ := and2 h
    obtain rfl := lo.hy.at_ _ _ (of_decide_eq_true h1)
    obtain ⟨v1, v2, v3, v4⟩ := lo.var h2
    refine stm_attrO lo.hy.inj v1 v2 v3 v4 (((sndE nm c m e S _ h3 L lo ρ M).1.st nb).mono (fun d M1 ⟨_, n1, e1⟩ => ?_) fun _ _ z => z)
    cases q : slPut c.fl ρ i n d with
    | none => rw [q] at n1; exact absurd rfl n1
    | some ρ' =>
      rw [q] at e1
      obtain ⟨cl, ns, ds, hρ, hf, hl, rfl⟩ := slPut_some q
      exact ⟨cl, ns, ds, hρ, lo.hy.fld _ _ hf, hl, e1⟩
  · cases h
theorem s_attrS {n : Nat} {a : E} (h : ckS nm S (.attrS a n e) st = true) (lo : LOk nm c m S L) : StmO L ρ M st (evS c (.attrS a n e) ρ M) := fun nb => by
  unfold ckS at h
  split at h
  · rw [evS] at nb ⊢
    obtain ⟨h1, h⟩ := and2 h
    obtain ⟨h2, h3⟩ := and2 h
    obtain rfl := lo.hy.at_ _ _ (of_decide_eq_true h1)
    refine stm_attrS lo.hy.inj (((sndE nm c m e S _ h3 L lo ρ M).1.st nb).mono (fun d M1 ⟨_, n1, e1⟩ => ((sndE nm c m a S _ h2 L lo ρ M1).1.st n1).mono (fun o M2 ⟨_, n2, e2⟩ => ?_) fun C M2 e2 => e1.trans e2) fun _ _ z => z)
    cases q : stPut c.fl M2 o n d with
    | none => rw [q] at n2; exact absurd rfl n2
    | some M' =>
      rw [q] at e2
      obtain ⟨k, cl, ns, ds, ho, hm, hf, hl, rfl⟩ := stPut_some q
      exact ⟨k, cl, ns, ds, ho, hm, lo.hy.fld _ _ hf, hl, e1.trans e2⟩
  · cases h
theorem lamsX_of (lo : LOk nm c m S L) : ∀ {ks : List Nat} {es : List Expr}, lamsB nm S ks es = true → LamsX L ks es
  | [], [], _ => trivial
  | k :: ks, e :: es, h => by
    unfold lamsB at h
    split at h
    · rename_i h1 h2; cases h2
    · rename_i k' ks' ps b sc p es' h1 h2
      cases h1; cases h2
      obtain ⟨a1, a2⟩ := and2 h
      obtain ⟨b1, b2, b3⟩ := lo.hy.lk _ _ _ _ a1
      exact ⟨⟨⟨ps, b, sc⟩, p, rfl, by rw [lo.sc]; exact b2, b3, by rw [lo.N, lo.sc]; exact b1⟩, lamsX_of lo a2⟩
    · cases h
  | [], _ :: _, h => by simp [lamsB] at h
  | _ :: _, [], h => by simp [lamsB] at h
theorem s_lamSet {ks : List Nat} (h : ckS nm S (.lamSet i ks) st = true) (hk : S.sc.kind = .function) (lo : LOk nm c m S L) : StmO L ρ M st (evS c (.lamSet i ks) ρ M) := fun n => by
  unfold ckS at h
  split at h
  · rw [evS] at n ⊢
    obtain ⟨h1, h⟩ := and2 h
    obtain ⟨h2, h⟩ := and2 h
    obtain ⟨h3, h4⟩ := and2 h
    obtain ⟨P, q, hcd⟩ := lo.cl h2
    by_cases hl : ks.length ≤ 100000
    · rw [if_pos hl]
      exact stm_lamSet (lo.name h1) (fun env he => (sw_of (by rw [lo.sc]; exact hk) env he).trans (by rw [lo.sc, not1 h4])) hcd (lamsX_of lo h3) hl rfl
    · rw [if_neg hl] at n; exact absurd rfl n
  · cases h
theorem s_lamAdd {ks : List Nat} (h : ckS nm S (.lamAdd i ks) st = true) (hk : S.sc.kind = .function) (lo : LOk nm c m S L) : StmO L ρ M st (evS c (.lamAdd i ks) ρ M) := fun n => by
  unfold ckS at h
  split at h
  · rw [evS] at n ⊢
    obtain ⟨h1, h⟩ := and2 h
    obtain ⟨h2, h⟩ := and2 h
    obtain ⟨h3, h⟩ := and2 h
    obtain ⟨h4, h⟩ := and2 h
    obtain ⟨h5, h6⟩ := and2 h
    obtain rfl := of_decide_eq_true h2
    obtain ⟨P, q, hcd⟩ := lo.cl h4
    obtain ⟨v1, v2, v3, v4⟩ := lo.var h3
    cases hx : getL ρ i with
    | none => rw [hx] at n; exact absurd rfl n
    | some js =>
      rw [hx] at n
      have hρ : ρ[i]? = some (.lam js) := by
        unfold getL at hx
        split at hx
        · rename_i e; cases hx; exact e
        · cases hx
      have n : (if js.length + ks.length ≤ 100000 then SO.nx (ρ.set i (.lam (js ++ ks))) M else .bad) ≠ .bad := n
      show Stm L ρ M _ (posto (if js.length + ks.length ≤ 100000 then SO.nx (ρ.set i (.lam (js ++ ks))) M else .bad))
      by_cases hl : js.length + ks.length ≤ 100000
      · rw [if_pos hl]
        exact stm_lamAdd (lo.name h1) (fun env he => (sw_of (by rw [lo.sc]; exact hk) env he).trans (by rw [lo.sc, not1 h6])) v4 v3 hcd (lamsX_of lo h5) hρ hl rfl
      · rw [if_neg hl] at n; exact absurd rfl n
  · cases h
end
end PI
set_option Elab.async false
set_option linter.all false
set_option maxRecDepth 100000
set_option maxHeartbeats 8000000
/-! PP: statements, the rest; blocks. -/
namespace PI
open PySem L2
section
variable {nm : Nm} {c : Cn} {m : Nat} {S : Sx} {L : Lx} {ρ : Ro} {M : Store} {py p q r : Expr} {ps : List Expr} {pos : Pos} {oa : Out D} {i : Nat} {e : E} {st : Stmt}
/-- ints, under a condition -/
def ipC (C : Int → Int → Prop) (f : Int → Int → Int) : TIp := fun x y H Q => ∃ i j, x = .int i ∧ y = .int j ∧ C i j ∧ Q (.int (f i j)) H
theorem ip_addC {X : Cx} : PIp X .Add (ipC (fun _ _ => True) fun i j => i + j) := fun pins s σ H x y v u Q I r1 r2 ⟨i, j, e1, e2, _, q⟩ => ip_add pins s σ H x y v u Q I r1 r2 ⟨i, j, e1, e2, q⟩
theorem ip_subC {X : Cx} : PIp X .Sub (ipC (fun _ _ => True) fun i j => i - j) := fun pins s σ H x y v u Q I r1 r2 ⟨i, j, e1, e2, _, q⟩ => ip_sub pins s σ H x y v u Q I r1 r2 ⟨i, j, e1, e2, q⟩
theorem ip_mulC {X : Cx} : PIp X .Mult (ipC (fun i j => mulB i j = true) fun i j => i * j) := by
  rintro pins s σ H x y v u Q I r1 r2 ⟨i, j, rfl, rfl, c, q⟩
  obtain ⟨t, rfl⟩ := r1
  obtain ⟨t', rfl⟩ := r2
  exact PyProof.Rows.imul_int ⟨.int _, H, I.tok _, ⟨_, rfl⟩, q⟩ (mulOk_of c)
theorem ip_divC {X : Cx} : PIp X .FloorDiv (ipC (fun i j => divB j = true) fun i j => i.fdiv j) := by
  rintro pins s σ H x y v u Q I r1 r2 ⟨i, j, rfl, rfl, c, q⟩
  obtain ⟨t, rfl⟩ := r1
  obtain ⟨t', rfl⟩ := r2
  unfold divB at c
  simp only [Bool.and_eq_true, Bool.or_eq_true, decide_eq_true_eq] at c
  rcases c.2 with h | ⟨h1, h2⟩
  · exact PyProof.Rows.ifloordiv_int c.1 ⟨.int _, H, I.tok _, ⟨_, rfl⟩, q⟩ (.inl (PyProof.noPylong_small h))
  · exact PyProof.Rows.ifloordiv_int c.1 ⟨.int _, H, I.tok _, ⟨_, rfl⟩, q⟩ (.inl (PyProof.noPylong_of_log2 h2))
theorem stm_aug {x : Str} {px : Pos} {op : Operator} {P : Post} {C : Int → Int → Prop} {f : Int → Int → Int} {k : Int} (ho : ∀ X, PIp X op (ipC C f)) (hn : NameOk L (.Name x px) i) (hi : ρ[i]? = some (.v (.int k))) (h : Ev L ρ M py (fun d M' => ∃ j, d = .int j ∧ C k j ∧ P.nx (ρ.set i (.v (.int (f k j)))) M') (fun C M' => P.ex C ρ M')) : Stm L ρ M (.AugAssign (.Name x px) op py pos) P := fun X ci B σ G H Dn fr mb s ks => by
  obtain ⟨y, p, ey, h1, h2, h3⟩ := hn.ex
  cases ey
  refine wpS_of (ps_aug (X := X) (i := i) (by rw [ci.N]; exact ci.nd) (by rw [ci.N]; exact h1) (by rw [ci.sc]; exact h2) pe_wp (ho X) (by rw [ci.fn, ci.sc]; exact h3)) ?_
  obtain ⟨v, e1, r⟩ := fr.get hi
  have r : v = .int k := r
  subst r
  refine ⟨.int k, e1, ?_⟩
  refine h X ci B σ G H _ fr s (fun v d G' M' H' m' s' r ⟨j, ej, hc, q⟩ => ?_) (ks.xe fr mb s)
  subst ej
  have r : v = .int j := r
  subst r
  exact ⟨k, j, rfl, rfl, hc, ks.nx _ _ G' M' H' m'.g ((fr.move m').set (d := .int (f k j)) rfl) (mb.trans s m') s' q⟩
theorem getI_some {k : Int} (h : getI ρ i = some k) : ρ[i]? = some (.v (.int k)) := by
  unfold getI at h
  split at h
  · rename_i e; cases h; exact e
  · cases h
theorem s_aug {o : BOp} (h : ckS nm S (.aug i o e) st = true) (lo : LOk nm c m S L) : StmO L ρ M st (evS c (.aug i o e) ρ M) := fun n => by
  unfold ckS at h
  split at h
  · rw [evS] at n ⊢
    obtain ⟨h1, h⟩ := and2 h
    obtain ⟨h2, h⟩ := and2 h
    obtain ⟨h3, h4⟩ := and2 h
    obtain rfl := of_decide_eq_true h3
    cases hx : getI ρ i with
    | none => rw [hx] at n; exact absurd rfl n
    | some k =>
      rw [hx] at n
      have n : (evE c e ρ M).st ρ (augK ρ i o k) ≠ .bad := n
      show Stm L ρ M _ (posto ((evE c e ρ M).st ρ (augK ρ i o k)))
      have key := (sndE nm c m e S _ h2 L lo ρ M).1.st n
      cases o with
      | add =>
        refine stm_aug (f := fun i j => i + j) (fun X => ip_addC) (lo.name h1) (getI_some hx) (key.mono (fun d M1 ⟨_, n1, e1⟩ => ?_) fun _ _ z => z)
        cases d with
        | int j => exact ⟨j, rfl, trivial, e1⟩
        | _ => exact absurd rfl n1
      | sub =>
        refine stm_aug (f := fun i j => i - j) (fun X => ip_subC) (lo.name h1) (getI_some hx) (key.mono (fun d M1 ⟨_, n1, e1⟩ => ?_) fun _ _ z => z)
        cases d with
        | int j => exact ⟨j, rfl, trivial, e1⟩
        | _ => exact absurd rfl n1
      | mul =>
        refine stm_aug (f := fun i j => i * j) (fun X => ip_mulC) (lo.name h1) (getI_some hx) (key.mono (fun d M1 ⟨_, n1, e1⟩ => ?_) fun _ _ z => z)
        cases d with
        | int j =>
          by_cases hc : mulB k j = true
          · refine ⟨j, rfl, hc, e1.trans ?_⟩
            simp only [augK, augI, if_pos hc]
          · exact absurd (by simp only [augK, augI, if_neg hc]) n1
        | _ => exact absurd rfl n1
      | div =>
        refine stm_aug (f := fun i j => i.fdiv j) (fun X => ip_divC) (lo.name h1) (getI_some hx) (key.mono (fun d M1 ⟨_, n1, e1⟩ => ?_) fun _ _ z => z)
        cases d with
        | int j =>
          by_cases hc : divB j = true
          · refine ⟨j, rfl, hc, e1.trans ?_⟩
            simp only [augK, augI, if_pos hc]
          · exact absurd (by simp only [augK, augI, if_neg hc]) n1
        | _ => exact absurd rfl n1
      | _ => cases h4
  · cases h
theorem s_appO (h : ckS nm S (.appO i e) st = true) (lo : LOk nm c m S L) : StmO L ρ M st (evS c (.appO i e) ρ M) := fun n => by
  unfold ckS at h
  split at h
  · rw [evS] at n ⊢
    obtain ⟨h1, h⟩ := and2 h
    obtain ⟨h2, h⟩ := and2 h
    obtain ⟨h3, h⟩ := and2 h
    obtain ⟨h4, h5⟩ := and2 h
    obtain rfl := of_decide_eq_true h1
    obtain ⟨a1, a2, a3, a4⟩ := lo.var h2
    cases hx : getO ρ i with
    | none => rw [hx] at n; exact absurd rfl n
    | some ds =>
      rw [hx] at n
      have n : ((evE c e ρ M).st ρ fun d M => if ds.length < 100000 then .nx (ρ.set i (.own (ds ++ [d]))) M else .bad) ≠ .bad := n
      refine stm_appO a1 a2 a3 a4 (fun env => by rfl) (fun env => by rw [star_of h3]; rfl) h4 (star_of h3 []) (getO_some hx) (((sndE nm c m e S _ h5 L lo ρ M).1.st n).mono (fun d M1 ⟨_, n1, e1⟩ => ?_) fun _ _ z => z)
      by_cases hl : ds.length < 100000
      · rw [if_pos hl] at e1; exact ⟨hl, e1⟩
      · rw [if_neg hl] at n1; exact absurd rfl n1
  · cases h
theorem s_putO {b : E} (h : ckS nm S (.putO i b e) st = true) (lo : LOk nm c m S L) : StmO L ρ M st (evS c (.putO i b e) ρ M) := fun n => by
  unfold ckS at h
  split at h
  · rw [evS] at n ⊢
    obtain ⟨h1, h⟩ := and2 h
    obtain ⟨h2, h⟩ := and2 h
    obtain ⟨h3, h4⟩ := and2 h
    obtain ⟨a1, a2, a3, a4⟩ := lo.var h2
    cases hx : getO ρ i with
    | none => rw [hx] at n; exact absurd rfl n
    | some ds =>
      rw [hx] at n
      refine stm_putO a1 a2 a3 a4 (fun env => swS_of env) (fun env => stS_of env) (fun env => by rfl) (sub_of h1) (getO_some hx) (((sndE nm c m e S _ h4 L lo ρ M).1.st n).mono (fun d M1 ⟨_, n1, e1⟩ => ((sndE nm c m b S _ h3 L lo ρ M1).1.st n1).mono (fun ii M3 ⟨_, n3, e3⟩ => ?_) fun C M3 e3 => e1.trans e3) fun _ _ z => z)
      cases ii with
      | int k =>
        cases hy : ixN' ds.length k with
        | none => simp only [hy] at n3; exact absurd rfl n3
        | some nn => exact ⟨k, nn, rfl, hy, (e1.trans e3).trans (by simp only [hy])⟩
      | _ => exact absurd rfl n3
  · cases h
theorem s_expr (h : ckS nm S (.expr e) st = true) (lo : LOk nm c m S L) : StmO L ρ M st (evS c (.expr e) ρ M) := fun n => by
  unfold ckS at h
  split at h
  · rw [evS] at n ⊢
    obtain ⟨h1, h2⟩ := and2 h
    exact stm_expr (swN_of h1) (((sndE nm c m e S _ h2 L lo ρ M).1.st n).mono (fun d M1 ⟨_, _, e1⟩ => e1) fun _ _ z => z)
  · cases h
theorem s_ret (h : ckS nm S (.ret e) st = true) (lo : LOk nm c m S L) : StmO L ρ M st (evS c (.ret e) ρ M) := fun n => by
  unfold ckS at h
  split at h
  · rw [evS] at n ⊢
    exact stm_ret (((sndE nm c m e S _ h L lo ρ M).1.st n).mono (fun d M1 ⟨_, _, e1⟩ => e1) fun _ _ z => z)
  · cases h
theorem ifK_bl {x y : Store → SO} {d : D} {M : Store} (n : ifK x y d M ≠ .bad) : ∃ b, d = .bl b := by cases d <;> first | exact ⟨_, rfl⟩ | exact absurd rfl n
theorem run_of {ss : List Stmt} {o o' : SO} (h : RunO L ρ M ss o) (n : o ≠ .bad) (e : o' = o) : Run L ρ M ss (posto o') := by rw [e]; exact h n
theorem s_ife {t : E} {a b : Ss} {x y : Store → SO} {pa pb : List Stmt} (ht : EvTO L ρ M p oa) (ha : ∀ M1, RunO L ρ M1 pa (x M1)) (hb : ∀ M1, RunO L ρ M1 pb (y M1)) : StmO L ρ M (.If p pa pb pos) (oa.st ρ (ifK x y)) := fun n =>
  stm_if ((ht.st n (fun d M n => ifK_bl n)).mono (fun b M1 ⟨n1, e1⟩ => by
    cases b with
    | true => rw [if_pos rfl]; exact run_of (ha M1) n1 e1
    | false => rw [if_neg Bool.false_ne_true]; exact run_of (hb M1) n1 e1) fun _ _ z => z)
theorem SO.turn_eq {x : SO} {k : Ro → Store → SO} (n : x.turn k ≠ .bad) : x ≠ .bad := fun z => n (by rw [z]; rfl)
theorem s_wh {test : Ro → Store → Out D} {body : Ro → Store → SO} {pb : List Stmt} (ht : ∀ ρ M, EvTO L ρ M p (test ρ M)) (hb : ∀ ρ M, RunO L ρ M pb (body ρ M)) (k : Nat) : StmO L ρ M (.While p pb [] pos) (whGo test body k ρ M) := fun n => by
  refine stm_while (fun f ρ' M' => whGo test body f ρ' M' = whGo test body k ρ M) k rfl fun f ρ' M' ef => ?_
  rw [← ef] at n
  cases f with
  | zero => exact absurd rfl n
  | succ f =>
    rw [← ef]
    have n : (test ρ' M').st ρ' (ifK (fun M => (body ρ' M).turn fun ρ M => whGo test body f ρ M) (fun M => .nx ρ' M)) ≠ .bad := n
    refine ((ht ρ' M').st n (fun d M n => ifK_bl n)).mono (fun b M1 ⟨n1, e1⟩ => ?_) fun _ _ z => z
    have e1 : whGo test body (f + 1) ρ' M' = ifK (fun M => (body ρ' M).turn fun ρ M => whGo test body f ρ M) (fun M => .nx ρ' M) (.bl b) M1 := e1
    cases b with
    | false => rw [if_neg Bool.false_ne_true]; exact e1
    | true =>
      rw [if_pos rfl]
      have e1 : whGo test body (f + 1) ρ' M' = (body ρ' M1).turn fun ρ M => whGo test body f ρ M := e1
      have n1 : ((body ρ' M1).turn fun ρ M => whGo test body f ρ M) ≠ .bad := n1
      refine (hb ρ' M1 (SO.turn_eq n1)).mono (fun ρ2 M2 e2 => ?_) (fun d M2 e2 => ?_) (fun ρ2 M2 e2 => ?_) (fun ρ2 M2 e2 => ?_) (fun C ρ2 M2 e2 => ?_)
      · exact ⟨f, Nat.lt_succ_self f, by rw [e1, e2]; rfl⟩
      · show whGo test body (f + 1) ρ' M' = _; rw [e1, e2]; rfl
      · show whGo test body (f + 1) ρ' M' = _; rw [e1, e2]; rfl
      · exact ⟨f, Nat.lt_succ_self f, by rw [e1, e2]; rfl⟩
      · show whGo test body (f + 1) ρ' M' = _; rw [e1, e2]; rfl
theorem s_fr {tg iter : Expr} {pt : Pat} {os : Out (List D)} {body : Ro → Store → SO} {pb : List Stmt} (hp : PatOk L tg pt) (hf : notSet iter = true) (hs : SrcO L ρ M tg iter os) (hb : ∀ ρ M, RunO L ρ M pb (body ρ M)) : StmO L ρ M (.For tg iter pb [] pos) (os.st ρ fun xs M => frGo pt body xs ρ M) := fun n => by
  refine stm_for hp (fold_of hf) ((hs.st n).mono (fun xs M1 ⟨n1, e1⟩ => ?_) fun _ _ z => z)
  refine ⟨fun i ρ' M' => frGo pt body (xs.drop i) ρ' M' = frGo pt body xs ρ M1, (by show frGo pt body (xs.drop 0) ρ M1 = _; rw [List.drop_zero]), fun i d hd ρ' M' ei => ?_, fun ρ' M' ei => ?_⟩
  · have hl := (List.getElem?_eq_some_iff.mp hd).1
    obtain ⟨d', hd', ed⟩ := drop_cons hl
    rw [hd] at hd'
    cases hd'
    have ei : frGo pt body (xs.drop i) ρ' M' = frGo pt body xs ρ M1 := ei
    rw [ed] at ei
    have ei : (match asg pt ρ' d with
      | none => SO.bad
      | some ρ => (body ρ M').turn fun ρ M => frGo pt body (xs.drop (i + 1)) ρ M) = frGo pt body xs ρ M1 := ei
    cases ha : asg pt ρ' d with
    | none => rw [ha] at ei; exact absurd ei.symm n1
    | some ρ2 =>
      rw [ha] at ei
      have ei : ((body ρ2 M').turn fun ρ M => frGo pt body (xs.drop (i + 1)) ρ M) = frGo pt body xs ρ M1 := ei
      refine ⟨ρ2, rfl, ?_⟩
      rw [← ei] at n1
      rw [e1, ← ei]
      refine (hb ρ2 M' (SO.turn_eq n1)).mono (fun ρ3 M2 e2 => ?_) (fun d M2 e2 => ?_) (fun ρ3 M2 e2 => ?_) (fun ρ3 M2 e2 => ?_) (fun C ρ3 M2 e2 => ?_)
      · show frGo pt body (xs.drop (i + 1)) ρ3 M2 = _
        rw [e2]; rfl
      · show SO.turn _ _ = _; rw [e2]; rfl
      · show SO.turn _ _ = _; rw [e2]; rfl
      · show frGo pt body (xs.drop (i + 1)) ρ3 M2 = _
        rw [e2]; rfl
      · show SO.turn _ _ = _; rw [e2]; rfl
  · have ei : frGo pt body (xs.drop xs.length) ρ' M' = frGo pt body xs ρ M1 := ei
    rw [List.drop_length] at ei
    exact e1.trans ei.symm
end
section
variable (nm : Nm) (c : Cn) (m : Nat)
mutual
theorem sndS : ∀ s : PI.S, SndS nm c m s
  | .set i e => fun S st h hk L lo ρ M => s_set h hk lo
  | .setO i e => fun S st h hk L lo ρ M => s_setO h hk lo
  | .un pt e => fun S st h hk L lo ρ M => s_un h hk lo
  | .unL js e => fun S st h hk L lo ρ M => s_unL h hk lo
  | .par i j a b => fun S st h hk L lo ρ M => s_par h hk lo
  | .par3 i j k a b e => fun S st h hk L lo ρ M => s_par3 h hk lo
  | .put a b e => fun S st h hk L lo ρ M => s_put h lo
  | .aug i o e => fun S st h hk L lo ρ M => s_aug h lo
  | .appO i e => fun S st h hk L lo ρ M => s_appO h lo
  | .putO i b e => fun S st h hk L lo ρ M => s_putO h lo
  | .expr e => fun S st h hk L lo ρ M => s_expr h lo
  | .ret e => fun S st h hk L lo ρ M => s_ret h lo
  | .retN => fun S st h hk L lo ρ M => by
    unfold ckS at h
    split at h
    · rw [evS]; exact fun _ => stm_retN rfl
    · cases h
  | .ife t a b => fun S st h hk L lo ρ M => by
    unfold ckS at h
    split at h
    · rw [evS]
      obtain ⟨h1, h⟩ := and2 h
      obtain ⟨h2, h3⟩ := and2 h
      exact s_ife (t := t) (a := a) (b := b) (sndE nm c m t S _ h1 L lo ρ M).2.1 (fun M1 => sndSs a S _ h2 hk L lo ρ M1) (fun M1 => sndSs b S _ h3 hk L lo ρ M1)
    · cases h
  | .wh k t b => fun S st h hk L lo ρ M => by
    unfold ckS at h
    split at h
    · rw [evS]
      obtain ⟨h1, h2⟩ := and2 h
      exact s_wh (fun ρ M => (sndE nm c m t S _ h1 L lo ρ M).2.1) (fun ρ M => sndSs b S _ h2 hk L lo ρ M) k
    · cases h
  | .fr pt it b => fun S st h hk L lo ρ M => by
    unfold ckS at h
    split at h
    · rw [evS]
      obtain ⟨h1, h⟩ := and2 h
      obtain ⟨h2, h⟩ := and2 h
      obtain ⟨h3, h4⟩ := and2 h
      exact s_fr (lo.pat h1) h2 (sndI nm c m it S _ _ h3 L lo ρ M) (fun ρ M => sndSs b S _ h4 hk L lo ρ M)
    · cases h
  | .raise C => fun S st h hk L lo ρ M => by
    unfold ckS at h
    split at h
    · rw [evS]
      obtain ⟨h1, h2⟩ := and2 h
      obtain ⟨g1, g2⟩ := lo.glo h2
      exact fun _ => stm_raise (lo.hy.ex C _ (of_decide_eq_true h1)) g1 rfl g2
    · cases h
  | .pass => fun S st h hk L lo ρ M => by
    unfold ckS at h
    split at h
    · rw [evS]; exact fun _ => stm_pass rfl
    · cases h
  | .brk => fun S st h hk L lo ρ M => by
    unfold ckS at h
    split at h
    · rw [evS]; exact fun _ => stm_break rfl
    · cases h
  | .cont => fun S st h hk L lo ρ M => by
    unfold ckS at h
    split at h
    · rw [evS]; exact fun _ => stm_cont rfl
    · cases h
  | .doc => fun S st h hk L lo ρ M => by
    unfold ckS at h
    split at h
    · rw [evS]; exact fun _ => stm_doc rfl
    · cases h
  | .lamSet i ks => fun S st h hk L lo ρ M => s_lamSet h hk lo
  | .lamAdd i ks => fun S st h hk L lo ρ M => s_lamAdd h hk lo
  | .attrOw i n e => fun S st h hk L lo ρ M => s_attrOw h lo
  | .attrS a n e => fun S st h hk L lo ρ M => s_attrS h lo
  | .frz i => fun S st h => by
    unfold ckS at h
    cases h
theorem sndSs : ∀ ss : Ss, SndSs nm c m ss
  | .nil => fun S ps h hk L lo ρ M => by
    cases ps with
    | nil => rw [evSs]; exact fun _ => run_nil rfl
    | cons p ps => cases h
  | .cons (.frz i) ss => fun S ps h hk L lo ρ M => by
    have h : ckSs nm S ss ps = true := h
    rw [evSs, evS]
    intro n
    cases hx : getO ρ i with
    | none => rw [hx] at n; exact absurd rfl n
    | some ds =>
      rw [hx] at n
      exact run_frz (getO_some hx) (sndSs ss S ps h hk L lo _ M n)
  | .cons s ss => fun S ps h hk L lo ρ M => by
    cases hz : (match s with | .frz _ => true | _ => false) with
    | true =>
      cases s with
      | frz i =>
        have h : ckSs nm S ss ps = true := h
        rw [evSs, evS]
        intro n
        cases hx : getO ρ i with
        | none => rw [hx] at n; exact absurd rfl n
        | some ds =>
          rw [hx] at n
          exact run_frz (getO_some hx) (sndSs ss S ps h hk L lo _ M n)
      | _ => cases hz
    | false =>
      cases ps with
      | nil => cases s <;> first | cases h | cases hz
      | cons p ps =>
        have h : (ckS nm S s p && ckSs nm S ss ps) = true := by cases s <;> first | exact h | cases hz
        obtain ⟨h1, h2⟩ := and2 h
        rw [evSs]
        intro n
        have n1 : evS c s ρ M ≠ .bad := fun z => n (by rw [z]; rfl)
        refine run_cons ((sndS s S p h1 hk L lo ρ M n1).mono (fun ρ' M' e => ?_) (fun d M' e => ?_) (fun ρ' M' e => ?_) (fun ρ' M' e => ?_) (fun C ρ' M' e => ?_))
        · rw [e] at n ⊢
          exact sndSs ss S ps h2 hk L lo ρ' M' n
        · show SO.seq _ _ = _; rw [e]; rfl
        · show SO.seq _ _ = _; rw [e]; rfl
        · show SO.seq _ _ = _; rw [e]; rfl
        · show SO.seq _ _ = _; rw [e]; rfl
end
end
end PI
set_option Elab.async false
set_option linter.all false
set_option maxRecDepth 100000
set_option maxHeartbeats 8000000
/-! PQ: defs; a whole text. -/
namespace PI
open PySem L2
theorem ci_def {g : Gx} {N ps : List Str} {qual : Str} {sc : Scope} {f : Addr} {cd : Value} {A : Around} {outer : List PySem.Env} {s : Shared} {H : Hp} {E : XK} {k : Nat} {tb : Option (Addr × Option Str)} (S : FnScope N ps sc) (hc : CdOk g cd (qual ++ ".<locals>.") tb) (hr : Room k (A.deeper (PyProof.Rows.envOfC qual sc s.heap.objs.size f cd))) :
    CI ⟨g, N, sc, k, fun _ => true, tb, true⟩ (cxOf (L2.CX g.P g.w) g.P g.w g.K g.mg g.base N qual sc f cd A outer s H E) where
  prog := rfl
  w := rfl
  K := rfl
  mg := rfl
  base := rfl
  N := rfl
  sc := rfl
  nd := S.nd
  calm := rfl
  room := hr
  own := passes_of rfl
  fn := rfl
  code := hc
  top := fun _ => ⟨rfl, rfl⟩
def start0 (n : Nat) (ds : List D) : Ro := ds.map Slot.v ++ List.replicate (n - ds.length) .un
theorem start_at {n : Nat} {ds : List D} {i : Nat} {s : Slot} (h : (start0 n ds)[i]? = some s) : s = .un ∨ ∃ d, ds[i]? = some d ∧ s = .v d := by
  unfold start0 at h
  by_cases hi : i < ds.length
  · rw [List.getElem?_append_left (by simpa using hi), List.getElem?_map] at h
    cases q : ds[i]? with
    | none => rw [q] at h; cases h
    | some e => rw [q] at h; exact .inr ⟨e, rfl, (Option.some.inj h).symm⟩
  · rw [List.getElem?_append_right (by simpa using Nat.le_of_not_lt hi), List.getElem?_replicate] at h
    split at h
    · exact .inl (Option.some.inj h).symm
    · cases h
theorem start_frm {X : Cx} {g : Gx} {B : Bs} {G : Gh} {H : Hp} {N : List Str} {ds : List D} {vs : List V} (r : Reps g G ds vs) : Frm X g B G H (L2.start N vs) (start0 N.length ds) := by
  refine ⟨by unfold L2.start start0; simp [r.length], fun i s hs => ?_, fun i j s t a ij hi hj so to ei ej => ?_⟩
  · rcases start_at hs with rfl | ⟨d, hd, rfl⟩
    · trivial
    · obtain ⟨v, h1, h2⟩ := r.get hd
      have hi : i < vs.length := (List.getElem?_eq_some_iff.mp h1).1
      refine ⟨v, ?_, h2⟩
      unfold L2.start
      rw [List.getElem?_append_left (by simpa using hi), List.getElem?_map, h1]; rfl
  · rcases start_at hi with rfl | ⟨_, _, rfl⟩ <;> cases so
/-- a def's core: its code, its parameters; its code's table, where one is told -/
structure Dk (g : Gx) (x qual : Str) (st : Stmt) (ps : List Str) (tb : Option (Addr × Option Str)) (f : Addr) (fd : FuncData) : Prop where
  fn : Fun g.K x qual st f fd
  bi : Binds g.K fd ps []
  cd : CdOk g fd.code (qual ++ ".<locals>.") tb
section
variable {g : Gx} {x qual : Str} {st : Stmt} {N ps : List Str} {k : Nat} {fn : List D → Store → Out D} {tb : Option (Addr × Option Str)} {f : Addr} {fd : FuncData}
theorem fnk_mk (F : Dk g x qual st ps tb f fd) (S : FnScope N ps (defScope st)) (len : ∀ ds M, fn ds M ≠ .bad → ds.length = ps.length)
    (body : ∀ ds M, fn ds M ≠ .bad → Run ⟨g, N, defScope st, k, fun _ => true, tb, true⟩ (start0 N.length ds) M (defBody st) { nx := fun _ M' => fn ds M = .ok .non M', rt := fun d M' => fn ds M = .ok d M', ex := fun C _ M' => fn ds M = .ex C M' }) : FnOk g.P g.w g.K g.mg g.base (L2.CX g.P g.w) (k + 1) f fd ps (spO g fn) := by
  have hc := F.cd
  obtain ⟨oc, od, kV, doc, pm, an, cdv, ct, osl, rfl, lk, hcd⟩ := F.fn.ex
  refine fn_of lk hcd S (fun vs H Q E h => ?_) fun A outer s H vs Q E hr h => ?_
  · obtain ⟨G, M, ds, _, r, h, _⟩ := h
    rw [r.length]
    exact len ds M h
  · obtain ⟨G, M, ds, st', r, h, kd, kx⟩ := h
    refine ⟨_, pss_wp, ?_⟩
    refine body ds M h _ (ci_def S hc hr) ⟨G, H, none⟩ _ G H _ (start_frm r) (.refl ..) st' ⟨fun σ' ρ' G' M' H' _ _ m' s' q => kd _ _ G' M' H' m' s' rep_non q, kd, fun _ _ _ _ _ _ _ _ _ z => z.elim, fun _ _ _ _ _ _ _ _ _ z => z.elim, fun C σ' ρ' G' M' H' _ _ m' s' q => ?_⟩
    exact Thr.of (takes_of rfl rfl rfl rfl) (kx C G' M' H' m' s' q)
theorem fnk_bad {k : Nat} (h : ∀ ds M, fn ds M = .bad) : FnOk g.P g.w g.K g.mg g.base (L2.CX g.P g.w) k f fd ps (spO g fn) :=
  ⟨fun vs H Q E z => by obtain ⟨G, M, ds, _, _, n, _⟩ := z; exact absurd (h ds M) n, fun A outer s H args us vs Q E hr he hbt hv z => by obtain ⟨G, M, ds, _, _, n, _⟩ := z; exact absurd (h ds M) n⟩
/-- an object's first slot, the arguments behind it -/
def start1 (cl n : Nat) (ds : List D) : Ro := (.ob cl [] []) :: (ds.map Slot.v ++ List.replicate (n - 1 - ds.length) .un)
theorem start1_frm {X : Cx} {G : Gh} {H H1 : Hp} {N : List Str} {ds : List D} {ws : List V} {y dx : Addr} {cl : Nat} (r : Reps g G ds ws) (h0 : 1 ≤ N.length) (n1 : H1 y = none) (nG : G.h y = none) (nA : y ∉ G.A) (hy : H y = some (.ins (g.ca cl) dx [])) : Frm X g ⟨G, H1, some y⟩ G H (L2.start N (.ref y :: ws)) (start1 cl N.length ds) := by
  have e : L2.start N (.ref y :: ws) = some (.ref y) :: (ws.map some ++ List.replicate (N.length - 1 - ws.length) none) := by
    unfold L2.start
    rw [List.map_cons, List.length_cons, show N.length - (ws.length + 1) = N.length - 1 - ws.length by omega]; rfl
  rw [e]
  have base := r.length
  refine ⟨by unfold start1; simp [r.length], fun i s hs => ?_, fun i j s t a ij hi hj so to ei ej => ?_⟩
  · cases i with
    | zero =>
      have hs : some (Slot.ob cl [] []) = some s := hs
      cases hs
      exact ⟨y, rfl, ⟨n1, nG, nA⟩, ⟨dx, [], hy, rfl, Reps.nil⟩, rfl⟩
    | succ i =>
      have hs : (start0 (N.length - 1) ds)[i]? = some s := hs
      rcases start_at hs with rfl | ⟨d, hd, rfl⟩
      · trivial
      · obtain ⟨v, h1, h2⟩ := r.get hd
        have hi : i < ws.length := (List.getElem?_eq_some_iff.mp h1).1
        refine ⟨v, ?_, h2⟩
        show (ws.map some ++ List.replicate (N.length - 1 - ws.length) none)[i]? = _
        rw [List.getElem?_append_left (by simpa using hi), List.getElem?_map, h1]; rfl
  · have key : ∀ (k : Nat) (u : Slot), k ≠ 0 → (start1 cl N.length ds)[k]? = some u → u.isOwn = true → False := fun k u hk hu ou => by
      cases k with
      | zero => exact hk rfl
      | succ k =>
        have hu : (start0 (N.length - 1) ds)[k]? = some u := hu
        rcases start_at hu with rfl | ⟨_, _, rfl⟩ <;> cases ou
    cases i with
    | zero => exact key j t (Ne.symm ij) hj to
    | succ i => exact key (i + 1) s (Nat.succ_ne_zero i) hi so
theorem ini_mk {cl : Nat} (F : Dk g x qual st ps tb f fd) (S : FnScope N ps (defScope st)) (h0 : 1 ≤ N.length) (len : ∀ ds M, fn ds M ≠ .bad → ds.length + 1 = ps.length)
    (body : ∀ ds M, fn ds M ≠ .bad → Run ⟨g, N, defScope st, k, fun _ => true, tb, true⟩ (start1 cl N.length ds) M (defBody st) { nx := fun ρ' M' => ∃ cl' ns es, ρ'[(0 : Nat)]? = some (Slot.ob cl' ns es) ∧ fn ds M = .ok (.obj cl' ns es) M', rt := fun _ _ => False, ex := fun C _ M' => fn ds M = .ex C M' }) : FnOk g.P g.w g.K g.mg g.base (L2.CX g.P g.w) (k + 1) f fd ps (spI g cl fn) := by
  have hc := F.cd
  obtain ⟨oc, od, kV, doc, pm, an, cdv, ct, osl, rfl, lk, hcd⟩ := F.fn.ex
  refine fn_of lk hcd S (fun vs H Q E h => ?_) fun A outer s H vs Q E hr h => ?_
  · obtain ⟨G, M, H1, y, dx, ws, ds, rfl, _, _, _, _, _, _, r, h, _⟩ := h
    rw [List.length_cons, r.length]
    exact len ds M h
  · obtain ⟨G, M, H1, y, dx, ws, ds, rfl, n1, st', mv, nG, nA, hy, r, h, kd, kx⟩ := h
    refine ⟨_, pss_wp, ?_⟩
    refine body ds M h _ (ci_def S hc hr) ⟨G, H1, some y⟩ _ G H _ (start1_frm r h0 n1 nG nA hy) mv st' ⟨fun σ' ρ' G' M' H' _ fr m' s' ⟨cl', ns, es, hρ, q⟩ => ?_, fun _ _ _ _ _ _ _ _ z => z.elim, fun _ _ _ _ _ _ _ _ _ z => z.elim, fun _ _ _ _ _ _ _ _ _ z => z.elim, fun C σ' ρ' G' M' H' _ _ m' s' q => ?_⟩
    · obtain ⟨a, _, ow, mo, hs⟩ := fr.at_ 0 _ hρ
      cases hs
      exact kd cl' ns es G' M' H' m' s' ow mo q
    · exact Thr.of (takes_of rfl rfl rfl rfl) (kx C G' M' H' m' s' q)
end
theorem runs_sub (p : Px) : ∀ (n k : Nat), runs p n k = runs p (n - k) 0
  | 0, k => by rw [Nat.zero_sub]; rfl
  | n + 1, 0 => rfl
  | n + 1, k + 1 => by
    show runs p n k = _
    rw [runs_sub p n k, Nat.succ_sub_succ]
/-- a def's entry: where it stands, its names -/
structure En where
  x : Str
  qual : Str
  st : Stmt
  ps : List Str
  N : List Str
  gen : Bool
  lam : Bool
  fd : Fd
def scB (N ps : List Str) (sc : Scope) : Bool := decide (sc.kind = .function) && (!sc.isCoroutine && (!sc.isGenerator && (decide N.Nodup && (decide (N.take ps.length = ps) && (ps.all (fun x => decide (sc.names.lookup x = some .local) || decide (sc.names.lookup x = some .cell)) && sc.names.all (fun y => !decide (y.2 = .free)))))))
theorem sc_of {N ps : List Str} {sc : Scope} (h : scB N ps sc = true) : FnScope N ps sc := by
  unfold scB at h
  simp only [Bool.and_eq_true, decide_eq_true_eq, Bool.not_eq_true', List.all_eq_true, Bool.or_eq_true, decide_eq_false_iff_not] at h
  obtain ⟨h1, h2, h3, h4, h5, h6, h7⟩ := h
  exact ⟨h1, h2, h3, h4, h5, h6, h7⟩
def ckEn (nm : Nm) (e : En) : Bool := scB e.N e.ps (defScope e.st) && ((match e.fd.ini with
  | none => decide (e.fd.np = e.ps.length)
  | some _ => decide (e.fd.np + 1 = e.ps.length) && (decide (1 ≤ e.N.length) && decide (1 ≤ e.fd.cost))) && (decide (e.fd.N = e.N.length) && ((!e.gen || decide (6 ≤ e.fd.cost)) && ckSs nm ⟨e.N, defScope e.st, fun _ => true, e.gen, true, e.lam⟩ e.fd.body (defBody e.st))))
/-- a def's facts, its check -/
structure D3 (nm : Nm) (g : Gx) (e : En) (tb : Option (Addr × Option Str)) (a : Addr) (fd : FuncData) : Prop where
  dk : Dk g e.x e.qual e.st e.ps tb a fd
  kp : PySem.W.keepIn g.K (.ref a) = true
  gn : e.gen = true → ∃ P, tb = some (P, none)
  ln : e.lam = true → ∃ P q, tb = some (P, some q)
  ck : ckEn nm e = true
/-- a text's facts: its defs, its constants, its classes -/
structure TextOk (nm : Nm) (p : Px) (g : Gx) : Prop where
  fn : ∀ f x, nm.fn f = some x → ∃ e tb a fd, p.fs f = some e.fd ∧ e.fd.ini = none ∧ g.mg x = some (.ref a) ∧ D3 nm g e tb a fd
  mt : ∀ cl n f, p.mt cl n = some f → ∃ e tb a fd, p.fs f = some e.fd ∧ e.fd.ini = none ∧ Cls g.K (g.ca cl) ∧ Meth g.K (g.ca cl) (g.an n) a ∧ D3 nm g e tb a fd
  mkr : ∀ f x, nm.mkr f = some x → ∃ e tb a fd cl, p.fs f = some e.fd ∧ e.fd.ini = some cl ∧ g.mg x = some (.ref (g.ca cl)) ∧ Mk g.K (g.ca cl) a ∧ D3 nm g e tb a fd
  gl : ∀ k x d, nm.gl k = some x → p.gl k = some d → KRep g x d
  bu : ∀ x ∈ bNames, g.mg x = none
  ex : ∀ C x, nm.ex C = some x → ExcC g x (g.ca C)
  at_ : ∀ n x, nm.at_ n = some x → g.an n = x
  inj : Inj g.an
  fld : ∀ cl n, p.fl cl n = true → FldOk g cl n
  td : ∀ x, nm.td = some x → ∃ CS, ToldOk g x CS (mkS p.rt) ∧ ∀ C, p.ct C = true → PySem.W.exmOne g.K (.ref (g.ca C)) (.ref CS) = some true
  lk : ∀ N sc k l, g.lk N sc k l ↔ nm.lc N sc k l = true
  lc : ∀ N sc k l, nm.lc N sc k l = true → LamX.LamS sc l.scope ∧ noPar l.params = true ∧ ∃ e, p.lm k = some e ∧ ckE { nm with lc := fun _ _ _ _ => false } ⟨N, l.scope, fun _ => false, false, false, false⟩ e l.body = true
theorem SO.out_nb {x : SO} (n : x.out ≠ .bad) : x ≠ .bad := fun z => n (by rw [z]; rfl)
theorem SO.outI_nb {x : SO} (n : x.outI ≠ .bad) : x ≠ .bad := fun z => n (by rw [z]; rfl)
theorem outI_nx {ρ : Ro} {M : Store} (n : (SO.nx ρ M).outI ≠ .bad) : ∃ cl ns es, ρ[(0 : Nat)]? = some (Slot.ob cl ns es) ∧ (SO.nx ρ M).outI = .ok (.obj cl ns es) M := by
  cases q : ρ[(0 : Nat)]? with
  | none => exact absurd (by show (match (ρ[(0 : Nat)]? : Option Slot) with | some (.ob cl ns ds) => Out.ok (D.obj cl ns ds) M | _ => .bad) = .bad; rw [q]) n
  | some s =>
    cases s with
    | ob cl ns es => exact ⟨cl, ns, es, rfl, by show (match (ρ[(0 : Nat)]? : Option Slot) with | some (.ob cl ns ds) => Out.ok (D.obj cl ns ds) M | _ => .bad) = _; rw [q]⟩
    | _ => exact absurd (by show (match (ρ[(0 : Nat)]? : Option Slot) with | some (.ob cl ns ds) => Out.ok (D.obj cl ns ds) M | _ => .bad) = .bad; rw [q]) n
theorem runs_eq (p : Px) (n f : Nat) {fd : Fd} (hf : p.fs f = some fd) (ds : List D) (M : Store) : runs p (n + 1) 0 f ds M = if ds.length = fd.np ∧ fd.cost ≤ n then (match fd.ini with
    | none => (evSs (p.cn n fd.cost (runs p n)) fd.body (PI.start fd ds) M).out
    | some cl => (evSs (p.cn n fd.cost (runs p n)) fd.body (startI fd cl ds) M).outI) else .bad := by
  show body1 p n (runs p n) f ds M = _
  unfold body1
  simp only [hf]
  all_goals (cases fd.ini <;> rfl)
theorem cn_sub (p : Px) {n k : Nat} (h : k ≤ n) : p.cn n k (runs p n) = p.cn (n - k) 0 (runs p (n - k)) := by
  have e1 := runs_sub p n k
  have e2 := runs_sub p n (k + 2)
  have e3 := runs_sub p (n - k) 2
  have e4 : n - (k + 2) = n - k - 2 := by omega
  rw [e4, ← e3] at e2
  unfold Px.cn
  rw [e1, e2]
  have e5 : (k + 2 ≤ n) = (0 + 2 ≤ n - k) := propext ⟨fun z => by omega, fun z => by omega⟩
  simp only [e5]
section
variable {nm : Nm} {p : Px} {g : Gx}
theorem fn_core {n : Nat} (ih : ∀ m, m < n → Hyp nm (p.cn m 0 (runs p m)) g m) {f : Nat} {e : En} {tb : Option (Addr × Option Str)} {a : Addr} {fd : FuncData} (hf : p.fs f = some e.fd) (hi : e.fd.ini = none) (D : D3 nm g e tb a fd) : FnOk g.P g.w g.K g.mg g.base (L2.CX g.P g.w) n a fd e.ps (spO g (runs p n 0 f)) := by
  cases n with
  | zero => exact fnk_bad fun ds M => rfl
  | succ n =>
    have ck := D.ck
    unfold ckEn at ck
    rw [hi] at ck
    obtain ⟨h1, h⟩ := and2 ck
    obtain ⟨h2, h⟩ := and2 h
    obtain ⟨h3, h⟩ := and2 h
    obtain ⟨h4, h5⟩ := and2 h
    have S := sc_of h1
    have h2 := of_decide_eq_true h2
    have h3 := of_decide_eq_true h3
    have eb : ∀ ds M, runs p (n + 1) 0 f ds M = if ds.length = e.fd.np ∧ e.fd.cost ≤ n then (evSs (p.cn n e.fd.cost (runs p n)) e.fd.body (PI.start e.fd ds) M).out else .bad := fun ds M => by
      rw [runs_eq p n f hf, hi]
    have cond : ∀ ds M, runs p (n + 1) 0 f ds M ≠ .bad → ds.length = e.fd.np ∧ e.fd.cost ≤ n := fun ds M nb => by
      by_cases hc : ds.length = e.fd.np ∧ e.fd.cost ≤ n
      · exact hc
      · rw [eb, if_neg hc] at nb; exact absurd rfl nb
    refine fnk_mk D.dk S (fun ds M nb => by rw [(cond ds M nb).1, h2]) fun ds M nb => ?_
    obtain ⟨c1, c2⟩ := cond ds M nb
    have e1 : runs p (n + 1) 0 f ds M = (evSs (p.cn n e.fd.cost (runs p n)) e.fd.body (PI.start e.fd ds) M).out := by rw [eb, if_pos ⟨c1, c2⟩]
    rw [e1] at nb ⊢
    have est : PI.start e.fd ds = start0 e.N.length ds := by unfold PI.start start0; rw [h3]
    rw [est] at nb ⊢
    have hy : Hyp nm (p.cn n e.fd.cost (runs p n)) g (n - e.fd.cost) := by
      have := ih (n - e.fd.cost) (by omega)
      rw [← cn_sub p c2] at this
      exact this
    have lo : LOk nm (p.cn n e.fd.cost (runs p n)) (n - e.fd.cost) ⟨e.N, defScope e.st, fun _ => true, e.gen, true, e.lam⟩ ⟨g, e.N, defScope e.st, n, fun _ => true, tb, true⟩ := by
      refine ⟨rfl, rfl, rfl, hy, Nat.sub_le _ _, fun hge => ⟨D.gn hge, ?_⟩, D.ln⟩
      have hge : e.gen = true := hge
      rw [hge] at h4
      have h4 : (6 : Nat) ≤ e.fd.cost := by simpa using h4
      show n - e.fd.cost + 5 ≤ n
      omega
    refine (sndSs nm (p.cn n e.fd.cost (runs p n)) (n - e.fd.cost) e.fd.body _ _ h5 S.kind _ lo (start0 e.N.length ds) M (SO.out_nb nb)).mono (fun ρ' M' q => ?_) (fun d M' q => ?_) (fun ρ' M' q => ?_) (fun ρ' M' q => ?_) (fun C ρ' M' q => ?_)
    · show SO.out _ = _; rw [q]; rfl
    · show SO.out _ = _; rw [q]; rfl
    · exact nb (by rw [q]; rfl)
    · exact nb (by rw [q]; rfl)
    · show SO.out _ = _; rw [q]; rfl
theorem ini_core {n : Nat} (ih : ∀ m, m < n → Hyp nm (p.cn m 0 (runs p m)) g m) {f cl : Nat} {e : En} {tb : Option (Addr × Option Str)} {a : Addr} {fd : FuncData} (hf : p.fs f = some e.fd) (hi : e.fd.ini = some cl) (D : D3 nm g e tb a fd) :
    (∀ ds M, runs p n 0 f ds M = .bad) ∨ ∃ k, k + 1 ≤ n ∧ FnOk g.P g.w g.K g.mg g.base (L2.CX g.P g.w) k a fd e.ps (spI g cl (runs p n 0 f)) := by
  cases n with
  | zero => exact .inl fun ds M => rfl
  | succ n =>
    have ck := D.ck
    unfold ckEn at ck
    rw [hi] at ck
    obtain ⟨h1, h⟩ := and2 ck
    obtain ⟨h2, h⟩ := and2 h
    obtain ⟨h3, h⟩ := and2 h
    obtain ⟨h4, h5⟩ := and2 h
    obtain ⟨h2, h6⟩ := and2 h2
    obtain ⟨h6, h7⟩ := and2 h6
    have S := sc_of h1
    have h2 := of_decide_eq_true h2
    have h3 := of_decide_eq_true h3
    have h6 := of_decide_eq_true h6
    have h7 := of_decide_eq_true h7
    have eb : ∀ ds M, runs p (n + 1) 0 f ds M = if ds.length = e.fd.np ∧ e.fd.cost ≤ n then (evSs (p.cn n e.fd.cost (runs p n)) e.fd.body (startI e.fd cl ds) M).outI else .bad := fun ds M => by
      rw [runs_eq p n f hf, hi]
    have cond : ∀ ds M, runs p (n + 1) 0 f ds M ≠ .bad → ds.length = e.fd.np ∧ e.fd.cost ≤ n := fun ds M nb => by
      by_cases hc : ds.length = e.fd.np ∧ e.fd.cost ≤ n
      · exact hc
      · rw [eb, if_neg hc] at nb; exact absurd rfl nb
    cases n with
    | zero => exact .inl fun ds M => by rw [eb, if_neg (by omega)]
    | succ n =>
      refine .inr ⟨n + 1, by omega, ini_mk (k := n) D.dk S h6 (fun ds M nb => by rw [(cond ds M nb).1, h2]) fun ds M nb => ?_⟩
      obtain ⟨c1, c2⟩ := cond ds M nb
      have e1 : runs p (n + 1 + 1) 0 f ds M = (evSs (p.cn (n + 1) e.fd.cost (runs p (n + 1))) e.fd.body (startI e.fd cl ds) M).outI := by rw [eb, if_pos ⟨c1, c2⟩]
      rw [e1] at nb ⊢
      have est : startI e.fd cl ds = start1 cl e.N.length ds := by unfold startI start1; rw [h3]
      rw [est] at nb ⊢
      have hy : Hyp nm (p.cn (n + 1) e.fd.cost (runs p (n + 1))) g (n + 1 - e.fd.cost) := by
        have := ih (n + 1 - e.fd.cost) (by omega)
        rw [← cn_sub p c2] at this
        exact this
      have lo : LOk nm (p.cn (n + 1) e.fd.cost (runs p (n + 1))) (n + 1 - e.fd.cost) ⟨e.N, defScope e.st, fun _ => true, e.gen, true, e.lam⟩ ⟨g, e.N, defScope e.st, n, fun _ => true, tb, true⟩ := by
        refine ⟨rfl, rfl, rfl, hy, by show n + 1 - e.fd.cost ≤ n; omega, fun hge => ⟨D.gn hge, ?_⟩, D.ln⟩
        have hge : e.gen = true := hge
        rw [hge] at h4
        have h4 : (6 : Nat) ≤ e.fd.cost := by simpa using h4
        show n + 1 - e.fd.cost + 5 ≤ n
        omega
      refine (sndSs nm (p.cn (n + 1) e.fd.cost (runs p (n + 1))) (n + 1 - e.fd.cost) e.fd.body _ _ h5 S.kind _ lo (start1 cl e.N.length ds) M (SO.outI_nb nb)).mono (fun ρ' M' q => ?_) (fun d M' q => ?_) (fun ρ' M' q => ?_) (fun ρ' M' q => ?_) (fun C ρ' M' q => ?_)
      · rw [q] at nb
        obtain ⟨cl', ns, es, a1, a2⟩ := outI_nx nb
        exact ⟨cl', ns, es, a1, by rw [q]; exact a2⟩
      · exact nb (by rw [q]; rfl)
      · exact nb (by rw [q]; rfl)
      · exact nb (by rw [q]; rfl)
      · show SO.outI _ = _; rw [q]; rfl
theorem hyp_all (T : TextOk nm p g) (n : Nat) : Hyp nm (p.cn n 0 (runs p n)) g n := by
  induction n using Nat.strongRecOn with
  | _ n ih =>
  refine ⟨fun f x hx => ?_, T.gl, T.bu, T.ex, T.at_, T.inj, T.fld, fun cl m f hm => ?_, fun f x hx => ?_, T.td, fun N sc k l h => ?_, fun N sc k l h ρ M nb => ?_⟩
  · obtain ⟨e, tb, a, fd, hf, hi, hm, D⟩ := T.fn f x hx
    exact ⟨a, fd, e.ps, hm, D.kp, D.dk.bi, fn_core ih hf hi D⟩
  · obtain ⟨e, tb, a, fd, hf, hi, hc, hme, D⟩ := T.mt cl m f hm
    exact ⟨hc, a, fd, e.ps, hme, D.dk.bi, fn_core ih hf hi D⟩
  · obtain ⟨e, tb, a, fd, cl, hf, hi, hm, hmk, D⟩ := T.mkr f x hx
    refine ⟨cl, a, hm, hmk, ?_⟩
    rcases ini_core ih hf hi D with h | ⟨k, hk, F⟩
    · exact .inl h
    · exact .inr ⟨fd, e.ps, k, hk, D.dk.bi, F⟩
  · obtain ⟨a1, a2, _⟩ := T.lc _ _ _ _ h
    exact ⟨(T.lk _ _ _ _).mpr h, a1, a2⟩
  · obtain ⟨a1, a2, e, he, hck⟩ := T.lc _ _ _ _ ((T.lk _ _ _ _).mp h)
    have eΛ : (p.cn n 0 (runs p n)).Λ k ρ M = if 0 + 2 ≤ n then p.lamF (runs p n (0 + 2)) k ρ M else .bad := rfl
    rw [eΛ] at nb
    by_cases h2 : 0 + 2 ≤ n
    rotate_left
    · rw [if_neg h2] at nb; exact absurd rfl nb
    refine ⟨by omega, a1, a2, fun L eg eN es ef hl => ?_⟩
    rw [eΛ]
    simp only [if_pos h2] at nb ⊢
    have H2 := ih (n - 2) (by omega)
    have eΦ : runs p n (0 + 2) = runs p (n - 2) 0 := by rw [runs_sub p n (0 + 2)]
    have eF : p.lamF (runs p n (0 + 2)) k ρ M = evE ⟨runs p (n - 2) 0, p.gl, p.mt, p.fl, fun _ _ _ => .bad, p.ct, p.rt⟩ e ρ M := by
      unfold Px.lamF
      rw [he, eΦ]
    rw [eF]
    have H0 : Hyp { nm with lc := fun _ _ _ _ => false } ⟨runs p (n - 2) 0, p.gl, p.mt, p.fl, fun _ _ _ => .bad, p.ct, p.rt⟩ g (n - 2) :=
      ⟨H2.fn, H2.gl, H2.bu, H2.ex, H2.at_, H2.inj, H2.fld, H2.mth, H2.mkr, H2.td, (fun _ _ _ _ z => by cases z), fun _ _ _ _ _ _ _ z => absurd rfl z⟩
    subst eg
    exact (sndE _ _ (n - 2) e _ _ hck L ⟨eN, es, ef, H0, hl, (fun z => by cases z), (fun z => by cases z)⟩ ρ M).1
theorem fn_all (T : TextOk nm p g) (n : Nat) : ∀ f x, nm.fn f = some x → Fn g x n (runs p n 0 f) := (hyp_all T n).fn
end
end PI
set_option Elab.async false
set_option linter.all false
set_option maxRecDepth 100000
set_option maxHeartbeats 4000000
/-! PR: a text's facts out of the head. -/
namespace PI
open PySem PySem.Spec PyProof.Rows L2
/-- the parameters take so many values in their order -/
def BindsP (x qual : Str) (params : Arguments) (ps : List Str) : Prop := ∀ (body : List Stmt) (scope : Scope) (kV doc pm : Value) (an : Option Addr) (cdv ct : Value) (us : List Value), us.length = ps.length → bindArgs (PySem.W.fnOf x qual params body scope .none kV doc pm an cdv ct) ⟨us, []⟩ = pure (ps.zip us)
theorem fun_of {K : PySem.W.Frag} {x q : Str} {st : Stmt} {f : Addr} {fd : FuncData} (F : FunD K x q (defArgs st) (defBody st) (defScope st) [] [] f fd) : Fun K x q st f fd := by
  obtain ⟨oc, od, dV, kV, doc, pm, an, cdv, ct, osl, e, lk, cd, dv, kw⟩ := F.ex
  rcases dv with ⟨_, rfl⟩ | ⟨z, _⟩
  · exact ⟨⟨oc, od, kV, doc, pm, an, cdv, ct, osl, e, lk, cd⟩, F.kp⟩
  · exact absurd rfl z
/-- a def's entry: its number, where it stands -/
structure Ent where
  num : Nat
  at_ : Str × Option Str
  en : En
def Ent.dd (e : Ent) : He.DefD := ⟨e.at_, e.en.x, e.en.qual, defArgs e.en.st, defBody e.en.st, defScope e.en.st, [], []⟩
def Ent.tb (e : Ent) : Bool := e.en.gen || e.en.lam
def Ent.kd (e : Ent) : Option Str := if e.en.lam = true then some ((e.en.qual ++ ".<locals>.") ++ "<lambda>") else none
structure Tx where
  p : Px
  es : List Ent
  cn : List (Nat × Str)
  xs : List Nat
  ats : List Str
  mts : List (Nat × Nat × Nat)
  fls : List (Nat × Nat)
  cts : List Nat
  gls : List (Nat × Str)
  tst : Stmt
  ta : Str
  te : Str
  tN : List Str
  more : PySem.W.Frag → Bool
  fmore : List He.Fa
def tdN : Str := "_law_told"
namespace Tx
variable (t : Tx)
def an (n : Nat) : Str := match t.ats[n]? with
  | some x => x
  | none => mkS (List.replicate (n + 1) 1)
def nm0 : Nm where
  fn := fun f => (t.es.find? fun e => e.num == f && (e.en.fd.ini.isNone && e.at_.2.isNone)).map (·.en.x)
  gl := fun k => t.gls.lookup k
  ex := fun C => if t.xs.contains C = true then t.cn.lookup C else none
  at_ := fun n => t.ats[n]?
  mkr := fun f => (t.es.find? fun e => e.num == f && e.en.fd.ini.isSome).map (·.at_.1)
  td := some tdN
  lc := fun _ _ _ _ => false
def lcB (N : List Str) (sc : Scope) (k : Nat) (l : LamD) : Bool := LamX.lamSB sc l.scope && (noPar l.params && (match t.p.lm k with
  | some e => ckE t.nm0 ⟨N, l.scope, fun _ => false, false, false, false⟩ e l.body
  | none => false))
def nm : Nm := { t.nm0 with lc := t.lcB }
def ca (K : PySem.W.Frag) (C : Nat) : Addr := match t.cn.lookup C with
  | some x => He.ga K x
  | none => 0
def tes : List Ent := t.es.filter (·.tb)
def tfs : List He.Defn := t.tes.map (·.at_)
def T (K : PySem.W.Frag) : List (Addr × Option Str) := t.tes.map fun e => ((He.cT K e.at_).2, e.kd)
def gx (P : Program) (w : World) (K : PySem.W.Frag) (mg : Str → Option Value) (base : Heap) : Gx := ⟨P, w, K, mg, base, t.T K, t.ca K, t.an, fun N sc k l => t.lcB N sc k l = true⟩
def tdD : He.DefD := ⟨(tdN, none), tdN, tdN, defArgs t.tst, defBody t.tst, defScope t.tst, [], []⟩
def fns : List He.DefD := t.es.map Ent.dd ++ [t.tdD]
def fa1 : List He.Fa := t.es.flatMap fun e => match e.at_.2 with
  | none => [.glo e.en.x]
  | some m => if e.en.fd.ini.isSome = true then [.glo e.at_.1, .mkr e.at_.1, .cls e.at_.1] else [.cls e.at_.1, .meth e.at_.1 m]
def cna (C : Nat) : Str := (t.cn.lookup C).getD (mkS [])
def fa2 : List He.Fa := t.fls.flatMap fun q => [.cls (t.cna q.1), .noat (t.cna q.1) (t.an q.2)]
def fa3 : List He.Fa := t.xs.flatMap fun C => [.glo (t.cna C), .exc (t.cna C)]
def fa4 : List He.Fa := [.glo tdN, .glo t.te] ++ t.cts.map fun C => .exm (t.cna C) t.te true
def fas : List He.Fa := t.fa1 ++ (t.fa2 ++ (t.fa3 ++ (t.fa4 ++ (bNames.map .free ++ t.fmore))))
def exb (K : PySem.W.Frag) : Bool := decide (t.tes.map fun e => (He.cT K e.at_).2).Nodup && t.more K
def entB (e : Ent) : Bool := !(e.en.gen && e.en.lam) && ((match e.at_.2 with
  | none => decide (e.at_.1 = e.en.x) && e.en.fd.ini.isNone
  | some m => match e.en.fd.ini with
    | none => true
    | some cl => decide (m = ("__init__" : Str)) && decide (t.cn.lookup cl = some e.at_.1)))
def mtB (q : Nat × Nat × Nat) : Bool := (t.ats[q.2.1]?).isSome && t.es.any fun e => e.num == q.2.2 && (e.en.fd.ini.isNone && (decide (t.cn.lookup q.1 = some e.at_.1) && decide (e.at_.2 = some (t.an q.2.1))))
def ats1 : Bool := decide t.ats.Nodup && t.ats.all fun x => !(x.cps.toList.head? == some 1)
def tdB : Bool := decide (toldB t.tst = some (t.ta, t.te, mkS t.p.rt)) && (scB t.tN [t.ta] (defScope t.tst) && (gloB (defScope t.tst) t.te && (!(t.ta == ("__debug__" : Str)) && !(t.ta == ("__classdict__" : Str)))))
def okB : Bool := t.ats1 && (t.es.all t.entB && (t.mts.all t.mtB && ((t.fls.all fun q => (t.cn.lookup q.1).isSome) && ((t.xs.all fun C => (t.cn.lookup C).isSome) && ((t.cts.all fun C => (t.cn.lookup C).isSome) && t.tdB)))))
end Tx
structure TxOk (t : Tx) : Prop where
  b : t.okB = true
  ck : ∀ e ∈ t.es, ckEn t.nm e.en = true
  bd : ∀ e ∈ t.es, BindsP e.en.x e.en.qual (defArgs e.en.st) e.en.ps
  bt : BindsP tdN tdN (defArgs t.tst) [t.ta]
  fs : t.es.map (fun e => t.p.fs e.num) = t.es.map fun e => some e.en.fd
  mt : ∀ cl n f, t.p.mt cl n = some f → (cl, n, f) ∈ t.mts
  fl : ∀ cl n, t.p.fl cl n = true → (cl, n) ∈ t.fls
  ct : ∀ C, t.p.ct C = true → C ∈ t.cts
theorem nd_inj {α : Type} {l : List α} (h : l.Nodup) {i j : Nat} (hi : i < l.length) (hj : j < l.length) (e : l[i] = l[j]) : i = j := by
  have h := List.pairwise_iff_getElem.mp h
  rcases Nat.lt_trichotomy i j with lt | eq | gt
  · exact absurd e (h i j hi hj lt)
  · exact eq
  · exact absurd e.symm (h j i hj hi gt)
theorem map_at {α β : Type} {f g : α → β} : ∀ {l : List α}, l.map f = l.map g → ∀ a ∈ l, f a = g a
  | [], _, _, h => by cases h
  | x :: l, e, a, h => by
    rw [List.map_cons, List.map_cons] at e
    obtain ⟨e1, e2⟩ := List.cons.inj e
    rcases List.mem_cons.mp h with rfl | h
    · exact e1
    · exact map_at e2 a h
theorem an_inj {t : Tx} (h : t.ats1 = true) : Inj t.an := fun i j e => by
  unfold Tx.ats1 at h
  obtain ⟨h1, h2⟩ := and2 h
  have h1 := of_decide_eq_true h1
  have key : ∀ (n m : Nat) (x : Str), t.ats[n]? = some x → x ≠ mkS (List.replicate (m + 1) 1) := fun n m x hx z => by
    have := List.all_eq_true.mp h2 x (List.mem_of_getElem? hx)
    subst z
    simp [List.replicate_succ] at this
  unfold Tx.an at e
  cases hi : t.ats[i]? with
  | none =>
    cases hj : t.ats[j]? with
    | none =>
      rw [hi, hj] at e
      have e : mkS (List.replicate (i + 1) 1) = mkS (List.replicate (j + 1) 1) := e
      have e2 : (mkS (List.replicate (i + 1) 1)).cps.size = (mkS (List.replicate (j + 1) 1)).cps.size := by rw [e]
      simpa using e2
    | some y =>
      rw [hi, hj] at e
      exact absurd e.symm (key j i y hj)
  | some x =>
    cases hj : t.ats[j]? with
    | none =>
      rw [hi, hj] at e
      exact absurd e (key i j x hi)
    | some y =>
      rw [hi, hj] at e
      have e : x = y := e
      subst e
      have h3 := (List.getElem?_eq_some_iff.mp hi)
      have h4 := (List.getElem?_eq_some_iff.mp hj)
      obtain ⟨a1, a2⟩ := h3
      obtain ⟨b1, b2⟩ := h4
      exact nd_inj h1 a1 b1 (a2.trans b2.symm)
section
variable {t : Tx} {prog : Program} {w : World} {K : PySem.W.Frag} {mg : Str → Option Value} {base h : Heap}
theorem cd_of {e : Ent} {fd : FuncData} (ht : e.tb = true) (hm : e ∈ t.es) (ng : (e.en.gen && e.en.lam) = false) (nd : (t.tes.map fun e => (He.cT K e.at_).2).Nodup) (F : FunD K e.en.x e.en.qual (defArgs e.en.st) (defBody e.en.st) (defScope e.en.st) [] [] (He.fAd K e.at_) fd) (TB : LamX.TabB base mg (He.cT K e.at_).1 (He.cT K e.at_).2) :
    CdOk (t.gx prog w K mg base) fd.code (e.en.qual ++ ".<locals>.") (some ((He.cT K e.at_).2, e.kd)) := by
  intro P' k' eq
  cases eq
  obtain ⟨oc, od, dV, kV, doc, pm, an, cdv, ct, osl, e1, lk, cd, dv, kw⟩ := F.ex
  obtain ⟨c, hc⟩ := He.codeIn_ref cd
  have e2 : fd.code = .ref c := by rw [e1]; exact hc
  have e3 : (He.cT K e.at_).1 = c := He.codeOf_eq lk e2
  have hin : e ∈ t.tes := List.mem_filter.mpr ⟨hm, ht⟩
  refine ⟨⟨c, e2, ?_⟩, List.mem_map.mpr ⟨e, hin, rfl⟩, fun q hq eqq => ?_, fun q hq => ?_⟩
  · rw [← e3]
    exact ⟨TB.code, TB.bm, TB.gP⟩
  · obtain ⟨e', he', rfl⟩ := List.mem_map.mp hq
    have : e' = e := by
      obtain ⟨i, hi, hi2⟩ := List.mem_iff_getElem.mp he'
      obtain ⟨j, hj, hj2⟩ := List.mem_iff_getElem.mp hin
      have : i = j := nd_inj (l := t.tes.map fun e => (He.cT K e.at_).2) nd (by simpa using hi) (by simpa using hj) (by
        rw [List.getElem_map, List.getElem_map, hi2, hj2]
        exact eqq)
      subst this
      exact hi2.symm.trans hj2
    rw [this]
  · unfold Ent.kd at hq
    split at hq
    · exact (Option.some.inj hq).symm
    · cases hq
theorem d3_of (O : TxOk t) {e : Ent} (hm : e ∈ t.es) (c : He.SaysD t.fas t.fns K) (nd : (t.tes.map fun e => (He.cT K e.at_).2).Nodup) : ∃ fd, Binds K fd e.en.ps [] ∧ (∀ s' u, [u].length = e.en.ps.length → BindsTo s' fd ⟨[u], []⟩ (e.en.ps.zip [u])) ∧ ∀ base, (∀ p ∈ t.tfs.map (He.cT K), LamX.TabB base mg p.1 p.2) → ∃ tb, D3 t.nm (t.gx prog w K mg base) e.en tb (He.fAd K e.at_) fd := by
  have hb := O.b
  unfold Tx.okB at hb
  obtain ⟨_, hb⟩ := and2 hb
  obtain ⟨hb, _⟩ := and2 hb
  have hb := List.all_eq_true.mp hb e hm
  unfold Tx.entB at hb
  obtain ⟨hb2, _⟩ := and2 hb
  obtain ⟨fd, F⟩ := c.defs (d := e.dd) (List.mem_append_left _ (List.mem_map.mpr ⟨e, hm, rfl⟩))
  have F : FunD K e.en.x e.en.qual (defArgs e.en.st) (defBody e.en.st) (defScope e.en.st) [] [] (He.fAd K e.at_) fd := F
  refine ⟨fd, F.bindsN (O.bd e hm _ _), fun s' u hu => F.bindsA (O.bd e hm _ _) s' [u] hu, fun base TB => ?_⟩
  cases ht : e.tb with
  | false =>
    refine ⟨none, ⟨⟨fun_of F, F.bindsN (O.bd e hm _ _), CdOk.none⟩, F.kp, fun z => ?_, fun z => ?_, O.ck e hm⟩⟩
    · unfold Ent.tb at ht; rw [z] at ht; cases ht
    · unfold Ent.tb at ht; rw [z, Bool.or_true] at ht; cases ht
  | true =>
    have ng : (e.en.gen && e.en.lam) = false := by rw [Bool.not_eq_true'] at hb2; exact hb2
    have hin : He.cT K e.at_ ∈ t.tfs.map (He.cT K) := List.mem_map.mpr ⟨e.at_, List.mem_map.mpr ⟨e, List.mem_filter.mpr ⟨hm, ht⟩, rfl⟩, rfl⟩
    refine ⟨_, ⟨⟨fun_of F, F.bindsN (O.bd e hm _ _), cd_of ht hm ng nd F (TB _ hin)⟩, F.kp, fun z => ⟨(He.cT K e.at_).2, ?_⟩, fun z => ⟨(He.cT K e.at_).2, (e.en.qual ++ ".<locals>.") ++ "<lambda>", ?_⟩, O.ck e hm⟩⟩
    · unfold Ent.kd
      rw [z] at ng
      have : e.en.lam = false := by simpa using ng
      rw [this]; rfl
    · unfold Ent.kd
      rw [z]; rfl
theorem cna_of {C : Nat} {x : Str} (e : t.cn.lookup C = some x) : t.cna C = x := by
  unfold Tx.cna; rw [e]; rfl
theorem ca_of {C : Nat} {x : Str} (e : t.cn.lookup C = some x) : t.ca K C = He.ga K x := by
  unfold Tx.ca; rw [e]
theorem an_of {n : Nat} {x : Str} (e : t.ats[n]? = some x) : t.an n = x := by
  unfold Tx.an; rw [e]
theorem text_ok (O : TxOk t) (X : K.In h) (G : h.Ns mainGlobals mg) (s : He.SaysX t.fas t.fns [] t.tfs t.exb w h K) (TB : ∀ p ∈ t.tfs.map (He.cT K), LamX.TabB base mg p.1 p.2)
    (hgl : ∀ k x d, t.nm.gl k = some x → t.p.gl k = some d → KRep (t.gx prog w K mg base) x d) : TextOk t.nm t.p (t.gx prog w K mg base) := by
  have c := s.t.d
  have hb := O.b
  unfold Tx.okB at hb
  obtain ⟨hats, hb⟩ := and2 hb
  obtain ⟨hent, hb⟩ := and2 hb
  obtain ⟨hmts, hb⟩ := and2 hb
  obtain ⟨hfls, hb⟩ := and2 hb
  obtain ⟨hxs, hb⟩ := and2 hb
  obtain ⟨hcts, htd⟩ := and2 hb
  have hx := s.more
  unfold Tx.exb at hx
  obtain ⟨nd, _⟩ := and2 hx
  have nd := of_decide_eq_true nd
  have f1 : ∀ {f}, f ∈ t.fa1 → f.ok K = true := fun hf => c.facts (List.mem_append_left _ hf)
  have f2 : ∀ {f}, f ∈ t.fa2 → f.ok K = true := fun hf => c.facts (List.mem_append_right _ (List.mem_append_left _ hf))
  have f3 : ∀ {f}, f ∈ t.fa3 → f.ok K = true := fun hf => c.facts (List.mem_append_right _ (List.mem_append_right _ (List.mem_append_left _ hf)))
  have f4 : ∀ {f}, f ∈ t.fa4 → f.ok K = true := fun hf => c.facts (List.mem_append_right _ (List.mem_append_right _ (List.mem_append_right _ (List.mem_append_left _ hf))))
  have f5 : ∀ {x}, x ∈ bNames → (He.Fa.free x).ok K = true := fun hf => c.facts (List.mem_append_right _ (List.mem_append_right _ (List.mem_append_right _ (List.mem_append_right _ (List.mem_append_left _ (List.mem_map.mpr ⟨_, hf, rfl⟩))))))
  have ent : ∀ e ∈ t.es, t.entB e = true := List.all_eq_true.mp hent
  have d3 : ∀ e ∈ t.es, ∃ tb fd, D3 t.nm (t.gx prog w K mg base) e.en tb (He.fAd K e.at_) fd := fun e he => by
    obtain ⟨fd, _, _, D⟩ := d3_of (prog := prog) (w := w) (mg := mg) O he c nd
    obtain ⟨tb, D⟩ := D base TB
    exact ⟨tb, fd, D⟩
  refine ⟨fun f x hf => ?_, fun cl n f hf => ?_, fun f x hf => ?_, hgl, fun x hx => He.free_ok X G (f5 hx), fun C x hC => ?_, fun n x hn => an_of hn, an_inj hats, fun cl n hf => ?_, fun x hx => ?_, fun N sc k l => Iff.rfl, fun N sc k l hl => ?_⟩
  · obtain ⟨e, hfe, rfl⟩ := Option.map_eq_some_iff.mp hf
    have hm := List.mem_of_find?_eq_some hfe
    have hp := List.find?_some hfe
    obtain ⟨p1, p2⟩ := and2 hp
    obtain ⟨p2, p3⟩ := and2 p2
    obtain ⟨tb, fd, D⟩ := d3 e hm
    have hent := ent e hm
    unfold Tx.entB at hent
    obtain ⟨_, hent⟩ := and2 hent
    have p3 : e.at_.2 = none := by simpa using p3
    rw [p3] at hent
    obtain ⟨q1, _⟩ := and2 hent
    have q1 := of_decide_eq_true q1
    have ef : e.num = f := by simpa using p1
    refine ⟨e.en, tb, _, fd, by rw [← ef]; exact map_at O.fs e hm, by simpa using p2, ?_, D⟩
    have := He.glo_ok X G (f1 (List.mem_flatMap.mpr ⟨e, hm, show He.Fa.glo e.en.x ∈ _ by rw [p3]; exact List.mem_cons_self⟩))
    show mg e.en.x = _
    rw [this]
    unfold He.fAd
    rw [p3, q1]
  · have hq := List.all_eq_true.mp hmts _ (O.mt cl n f hf)
    unfold Tx.mtB at hq
    obtain ⟨ha, hq⟩ := and2 hq
    obtain ⟨e, hm, hq⟩ := List.any_eq_true.mp hq
    obtain ⟨q1, hq⟩ := and2 hq
    obtain ⟨q2, hq⟩ := and2 hq
    obtain ⟨q3, q4⟩ := and2 hq
    have q1 : e.num = f := by simpa using q1
    have q2 : e.en.fd.ini = none := by simpa using q2
    have q3 : t.cn.lookup cl = some e.at_.1 := of_decide_eq_true q3
    have q4 : e.at_.2 = some (t.an n) := of_decide_eq_true q4
    obtain ⟨tb, fd, D⟩ := d3 e hm
    have hin : ∀ {g}, g ∈ ([He.Fa.cls e.at_.1, .meth e.at_.1 (t.an n)] : List He.Fa) → g.ok K = true := fun hg => f1 (List.mem_flatMap.mpr ⟨e, hm, by rw [q4]; simp only [q2]; exact hg⟩)
    refine ⟨e.en, tb, _, fd, by rw [← q1]; exact map_at O.fs e hm, q2, ?_, ?_, D⟩
    · show Cls K (t.ca K cl)
      rw [ca_of q3]
      exact He.cls_ok (hin List.mem_cons_self)
    · show Meth K (t.ca K cl) (t.an n) _
      rw [ca_of q3]
      have := He.meth_ok (hin (List.mem_cons_of_mem _ List.mem_cons_self))
      unfold He.fAd
      rw [q4]
      exact this
  · obtain ⟨e, hfe, rfl⟩ := Option.map_eq_some_iff.mp hf
    have hm := List.mem_of_find?_eq_some hfe
    have hp := List.find?_some hfe
    obtain ⟨p1, p2⟩ := and2 hp
    have ef : e.num = f := by simpa using p1
    obtain ⟨cl, hcl⟩ := Option.isSome_iff_exists.mp p2
    obtain ⟨tb, fd, D⟩ := d3 e hm
    have hent := ent e hm
    unfold Tx.entB at hent
    obtain ⟨_, hent⟩ := and2 hent
    cases q4 : e.at_.2 with
    | none =>
      rw [q4] at hent
      obtain ⟨_, z⟩ := and2 hent
      rw [hcl] at z; cases z
    | some m =>
      rw [q4] at hent
      simp only [hcl] at hent
      obtain ⟨z1, z2⟩ := and2 hent
      have z1 := of_decide_eq_true z1
      have z2 := of_decide_eq_true z2
      subst z1
      have hin : ∀ {g}, g ∈ ([He.Fa.glo e.at_.1, .mkr e.at_.1, .cls e.at_.1] : List He.Fa) → g.ok K = true := fun hg => f1 (List.mem_flatMap.mpr ⟨e, hm, by rw [q4]; simp only [hcl]; exact hg⟩)
      refine ⟨e.en, tb, _, fd, cl, by rw [← ef]; exact map_at O.fs e hm, hcl, ?_, ?_, D⟩
      · show mg e.at_.1 = some (.ref (t.ca K cl))
        rw [ca_of z2]
        exact He.glo_ok X G (hin List.mem_cons_self)
      · show Mk K (t.ca K cl) _
        rw [ca_of z2]
        have := He.mkr_ok (hin (List.mem_cons_of_mem _ List.mem_cons_self))
        unfold He.fAd
        rw [q4]
        exact this
  · have hC : (if t.xs.contains C = true then t.cn.lookup C else none) = some x := hC
    split at hC
    · rename_i hc
      have hm : C ∈ t.xs := by simpa using hc
      have hin : ∀ {g}, g ∈ ([He.Fa.glo (t.cna C), .exc (t.cna C)] : List He.Fa) → g.ok K = true := fun hg => f3 (List.mem_flatMap.mpr ⟨C, hm, hg⟩)
      have e0 := cna_of hC
      have h1 := hin List.mem_cons_self
      have h2 := hin (List.mem_cons_of_mem _ List.mem_cons_self)
      rw [e0] at h1 h2
      obtain ⟨e1, e2, e3, e4⟩ := He.exc_ok h2
      have e5 : (t.gx prog w K mg base).ca C = He.ga K x := ca_of hC
      rw [e5]
      exact ⟨He.glo_ok X G h1, e2, e1, e3, e4⟩
    · cases hC
  · have hm := O.fl cl n hf
    have h0 := List.all_eq_true.mp hfls _ hm
    obtain ⟨x, hx⟩ := Option.isSome_iff_exists.mp h0
    have hin : ∀ {g}, g ∈ ([He.Fa.cls (t.cna cl), .noat (t.cna cl) (t.an n)] : List He.Fa) → g.ok K = true := fun hg => f2 (List.mem_flatMap.mpr ⟨(cl, n), hm, hg⟩)
    have h1 := hin List.mem_cons_self
    have h2 := hin (List.mem_cons_of_mem _ List.mem_cons_self)
    rw [cna_of hx] at h1 h2
    have e5 : (t.gx prog w K mg base).ca cl = He.ga K x := ca_of hx
    exact ⟨by rw [e5]; exact He.cls_ok h1, by rw [e5]; exact He.noat_ok h2⟩
  · have hx : some tdN = some x := hx
    cases hx
    unfold Tx.tdB at htd
    obtain ⟨t1, htd⟩ := and2 htd
    obtain ⟨t2, htd⟩ := and2 htd
    obtain ⟨t4, htd⟩ := and2 htd
    obtain ⟨t5, t6⟩ := and2 htd
    obtain ⟨fd, F⟩ := c.defs (d := t.tdD) (List.mem_append_right _ List.mem_cons_self)
    have F : FunD K tdN tdN (defArgs t.tst) (defBody t.tst) (defScope t.tst) [] [] (He.ga K tdN) fd := F
    unfold gloB at t4
    obtain ⟨t4, t7⟩ := and2 t4
    refine ⟨He.ga K t.te, ⟨_, fd, t.tst, t.ta, t.te, t.tN, fun_of F, He.glo_ok X G (f4 List.mem_cons_self), F.bindsN (O.bt _ _), sc_of t2, of_decide_eq_true t1, of_decide_eq_true t4, by simpa using t7, by simpa using t5, by simpa using t6, He.glo_ok X G (f4 (List.mem_cons_of_mem _ List.mem_cons_self))⟩, fun C hC => ?_⟩
    have hm := O.ct C hC
    obtain ⟨y, hy⟩ := Option.isSome_iff_exists.mp (List.all_eq_true.mp hcts _ hm)
    have := He.exm_ok (f4 (List.mem_append_right _ (List.mem_map.mpr ⟨C, hm, rfl⟩)))
    rw [cna_of hy] at this
    have e5 : (t.gx prog w K mg base).ca C = He.ga K y := ca_of hy
    rw [e5]
    exact this
  · have hl : t.lcB N sc k l = true := hl
    unfold Tx.lcB at hl
    obtain ⟨l1, hl⟩ := and2 hl
    obtain ⟨l2, hl⟩ := and2 hl
    refine ⟨LamX.lamS_by l1, l2, ?_⟩
    cases q : t.p.lm k with
    | none => rw [q] at hl; cases hl
    | some e => rw [q] at hl; exact ⟨e, rfl, hl⟩
end
/-! ### the law -/
def noTab (H : Hp) : Hp := fun b => match H b with
  | some (.tbl _) => none
  | o => o
theorem noTab_of {H : Hp} {b : Addr} {o : HO} (h : H b = some o) (n : ∀ ps, o ≠ .tbl ps) : noTab H b = some o := by
  unfold noTab
  rw [h]
  cases o <;> first | rfl | exact absurd rfl (n _)
theorem of_noTab {H : Hp} {b : Addr} {o : HO} (h : noTab H b = some o) : H b = some o ∧ ∀ ps, o ≠ .tbl ps := by
  unfold noTab at h
  cases q : H b with
  | none => rw [q] at h; cases h
  | some u =>
    rw [q] at h
    cases u <;> first | (cases h; exact ⟨rfl, fun ps z => by cases z⟩) | cases h
theorem sta_first {g : Gx} {H : Hp} (h : ∀ p ∈ g.T, H p.1 = some (.tbl #[])) : Sta g ⟨noTab H, []⟩ H [] where
  ex := fun b u e => (of_noTab e).1
  len := rfl
  tie := fun k m a hk => by simp at hk
  nd := List.nodup_nil
  tabs := fun p hp => ⟨#[], h p hp, True.intro, fun q _ pos cv hc => by
    have hc : codeAmong pos [] = some cv := hc
    simp [codeAmong] at hc⟩
  nt := fun a ps e => (of_noTab e).2 ps rfl
theorem reps_ints0 {g : Gx} {G : Gh} : ∀ ns : List Int, Reps g G (ns.map D.int) (ns.map V.int)
  | [] => rfl
  | n :: ns => ⟨.int n, ns.map V.int, rfl, rfl, reps_ints0 ns⟩
theorem seq_noTab {K : PySem.W.Frag} {H : Hp} {a : Addr} {xs : List V} (h : SqL K H a xs) : SqL K (noTab H) a xs := by
  refine h.imp (fun z => ?_) id
  rcases z with z | ⟨o, z⟩
  · exact .inl (noTab_of z fun ps q => by cases q)
  · exact .inr ⟨o, noTab_of z fun ps q => by cases q⟩
/-- the scripts that the law is asked at -/
def Scr (ns : List Int) : Prop := ns.length ≤ 63 ∧ ∀ z ∈ ns, Builtin.Int.intBits z ≤ 1048576
section
variable {t : Tx} {l : PySem.W.OpenLaw} {w : World} {K : PySem.W.Frag} {mg : Str → Option Value} {h : Heap}
theorem law_at {n : Nat} {e : Ent} (O : TxOk t) (hm : e ∈ t.es) (hat : e.at_ = (("law" : Str), (none : Option Str))) (hps : e.en.ps = [("script" : Str)]) (hin : e.en.fd.ini = none) (hlaw : ∀ ns, Scr ns → ∃ M, run t.p n e.num [.seq (ns.map D.int)] [] = .ok (.bl true) M)
    (X : K.In h) (G : h.Ns mainGlobals mg) {fa : Addr} (hfa : mg ("law" : Str) = some (.ref fa)) (s : He.SaysX t.fas t.fns [] t.tfs t.exb w h K)
    (hgl : ∀ g : Gx, g.K = K → g.mg = mg → ∀ k x d, t.nm.gl k = some x → t.p.gl k = some d → KRep g x d) : LamX.LawAtS l w K (L2.CX l.prog w) n 63 "script" mg fa h := by
  have c := s.t.d
  have hx := s.more
  unfold Tx.exb at hx
  obtain ⟨nd, _⟩ := and2 hx
  have nd := of_decide_eq_true nd
  obtain ⟨fd, F1, F2, F3⟩ := d3_of (prog := l.prog) (w := w) (mg := mg) O hm c nd
  have hx : e.en.x = ("law" : Str) := by
    have hb := O.b
    unfold Tx.okB at hb
    obtain ⟨_, hb⟩ := and2 hb
    obtain ⟨hb, _⟩ := and2 hb
    have hb := List.all_eq_true.mp hb e hm
    unfold Tx.entB at hb
    obtain ⟨_, hb⟩ := and2 hb
    rw [hat] at hb
    obtain ⟨q, _⟩ := and2 hb
    exact (of_decide_eq_true q).symm
  have efa : fa = He.fAd K e.at_ := by
    have h1 := He.glo_ok X G (c.facts (f := .glo e.en.x) (List.mem_append_left _ (List.mem_flatMap.mpr ⟨e, hm, by rw [hat]; exact List.mem_cons_self⟩)))
    rw [hx] at h1
    have h2 := hfa.symm.trans h1
    unfold He.fAd
    rw [hat]
    exact Value.ref.inj (Option.some.inj h2)
  rw [efa]
  have mem : ∀ p ∈ t.tfs.map (He.cT K), ∃ q ∈ t.tfs, p = He.cT K q := fun p hp => by
    obtain ⟨q, hq, rfl⟩ := List.mem_map.mp hp
    exact ⟨q, hq, rfl⟩
  refine ⟨fd, t.tfs.map (He.cT K), fun vs H Q _ => ∃ (a : Addr) (ns : List Int), vs = [.ref a] ∧ SqL K H a (ns.map V.int) ∧ Scr ns ∧ (∀ p ∈ t.tfs.map (He.cT K), H p.2 = some (.tbl #[])) ∧ ∀ H', Q (.bl true) H', fun p hp => ?_, fun p hp => ?_, fun p hp => ?_, fun s' u => ?_, fun H a ns hl hb hT hS => ⟨a, ns, rfl, hS, ⟨hl, hb⟩, hT, fun _ => rfl⟩, fun base Xb Gb TB => ?_⟩
  · obtain ⟨q, hq, rfl⟩ := mem p hp; exact s.empty q hq
  · obtain ⟨q, hq, rfl⟩ := mem p hp; exact s.out q hq
  · obtain ⟨q, hq, rfl⟩ := mem p hp; exact PySem.W.codeHd_of_K X (s.hd q hq)
  · have := F2 s' u (by rw [hps]; rfl)
    rw [hps] at this
    exact this
  · obtain ⟨tb, D9⟩ := F3 base TB
    have TO : TextOk t.nm t.p (t.gx l.prog w K mg base) := text_ok O X G s TB (hgl _ rfl rfl)
    have FF := fn_core (n := n) (fun m _ => hyp_all TO m) (map_at O.fs e hm) hin D9
    rw [hps] at FF
    refine FF.imp fun vs H Q E hsp => ?_
    obtain ⟨a, ns, rfl, hS, hsc, hT, hQ⟩ := hsp
    obtain ⟨M', hr⟩ := hlaw ns hsc
    have hr : runs t.p n 0 e.num [D.seq (List.map D.int ns)] [] = Out.ok (D.bl true) M' := hr
    refine ⟨⟨noTab H, []⟩, [], [.seq (ns.map D.int)], sta_first (fun p hp => ?_), ⟨.ref a, [], rfl, ⟨a, _, rfl, seq_noTab hS, reps_ints0 ns⟩, rfl⟩, ?_, ?_, fun C G' M2 H' _ _ z => ?_⟩
    · obtain ⟨e', he', rfl⟩ := List.mem_map.mp hp
      exact hT _ (List.mem_map.mpr ⟨e'.at_, List.mem_map.mpr ⟨e', he', rfl⟩, rfl⟩)
    · rw [hr]; exact fun z => by cases z
    · intro v d G' M2 H' _ _ r q
      rw [hr] at q
      cases q
      have r : v = .bl true := r
      rw [r]
      exact hQ H'
    · rw [hr] at z; cases z
end
end PI
set_option Elab.async false
set_option linter.all false
set_option maxRecDepth 100000
set_option maxHeartbeats 4000000
/-! QB: what the texts' common defs come to: sizes, rationals, gcd. -/
namespace PI
/-! ### sizes -/
def W (k : Nat) (i : Int) : Prop := i.natAbs < 2 ^ k
theorem W.mono {a b : Nat} {i : Int} (h : W a i) (hab : a ≤ b) : W b i := Nat.lt_of_lt_of_le h (Nat.pow_le_pow_right (by decide) hab)
theorem W.neg {a : Nat} {i : Int} (h : W a i) : W a (-i) := by unfold W; rw [Int.natAbs_neg]; exact h
theorem W.add {a b : Nat} {i j : Int} (h : W a i) (h' : W b j) : W (max a b + 1) (i + j) := by
  have h1 := h.mono (Nat.le_max_left a b)
  have h2 := h'.mono (Nat.le_max_right a b)
  unfold W at *
  have := Int.natAbs_add_le i j
  rw [Nat.pow_succ]; omega
theorem W.sub {a b : Nat} {i j : Int} (h : W a i) (h' : W b j) : W (max a b + 1) (i - j) := by
  rw [Int.sub_eq_add_neg]; exact h.add h'.neg
theorem W.mul {a b : Nat} {i j : Int} (h : W a i) (h' : W b j) : W (a + b) (i * j) := by
  unfold W at *
  rw [Int.natAbs_mul, Nat.pow_add]
  exact Nat.mul_lt_mul'' h h'
theorem W.of_lt {k : Nat} {i : Int} {c : Nat} (h : i.natAbs ≤ c) (hc : c < 2 ^ k) : W k i := Nat.lt_of_le_of_lt h hc
theorem log_le {a : Nat} {n : Nat} (h : n < 2 ^ a) : n.log2 ≤ a := by
  by_cases h0 : n = 0
  · subst h0; simp
  · exact Nat.le_of_lt ((Nat.log2_lt h0).mpr h)
theorem W.mulB {a b : Nat} {i j : Int} (h : W a i) (h' : W b j) (hab : a + b < 100000000) : PI.mulB i j = true := by
  unfold PI.mulB
  exact decide_eq_true (Nat.lt_of_le_of_lt (Nat.add_le_add (log_le h) (log_le h')) hab)
theorem W.divB {a : Nat} {j : Int} (h : W a j) (h0 : j ≠ 0) (ha : a ≤ 30) : PI.divB j = true := by
  unfold PI.divB
  have : j.natAbs < 1073741824 := Nat.lt_of_lt_of_le h (Nat.pow_le_pow_right (n := 2) (by decide) ha)
  simp [h0, this]
theorem W.divP {a : Nat} {j : Int} (h : W a j) (h0 : 0 < j) (ha : a < 9000) : PI.divB j = true := by
  unfold PI.divB
  have : j ≠ 0 := by omega
  have : j.natAbs.log2 < 9000 := Nat.lt_of_le_of_lt (log_le h) ha
  simp [*]
/-! ### rationals in lowest terms -/
def R (q : Rat) : D := .tup [.int q.num, .int q.den]
theorem R_int (i : Int) : D.tup [.int i, .int 1] = R (i : Rat) := rfl
theorem R_zero : D.tup [.int 0, .int 1] = R 0 := rfl
theorem R_inj {p q : Rat} : R p = R q ↔ p = q := by
  constructor
  · intro h
    unfold R at h
    injection h with h
    injection h with h1 h2
    injection h1 with h1
    injection h2 with h2
    injection h2 with h2
    exact Rat.ext h1 (by exact_mod_cast h2)
  · rintro rfl; rfl
theorem gcd_pos {a u : Int} (h : u ≠ 0) : 0 < (Int.gcd a u : Int) := by
  have := Int.gcd_pos_of_ne_zero_right a h
  exact_mod_cast this
theorem fdiv_pos {a u : Int} (h : 0 < u) : D.tup [.int (a.fdiv (Int.gcd a u)), .int (u.fdiv (Int.gcd a u))] = R (Rat.divInt a u) := by
  have g0 := gcd_pos (a := a) (u := u) (by omega)
  unfold R
  rw [Rat.num_divInt, Rat.den_divInt, Int.fdiv_eq_ediv_of_nonneg _ (by omega), Int.fdiv_eq_ediv_of_nonneg _ (by omega), if_neg (by omega), Int.sign_eq_one_of_pos h, Int.one_mul, Int.gcd_comm u a]
  congr 2
  congr 1
  congr 1
  have : (u.natAbs : Int) = u := Int.natAbs_of_nonneg (by omega)
  rw [Int.natCast_ediv, this]
theorem fdiv_negD {a u : Int} (h : u < 0) : D.tup [.int (a.fdiv (-(Int.gcd a u : Int))), .int (u.fdiv (-(Int.gcd a u : Int)))] = R (Rat.divInt a u) := by
  have g0 := gcd_pos (a := a) (u := u) (by omega)
  have e : ∀ z : Int, z.fdiv (-(Int.gcd a u : Int)) = (-z).fdiv (Int.gcd a u) := fun z => by
    have := Int.neg_fdiv_neg (-z) (Int.gcd a u : Int)
    rw [Int.neg_neg] at this
    exact this
  have e2 : Int.gcd a u = Int.gcd (-a) (-u) := by simp [Int.gcd]
  rw [e, e, ← Rat.neg_divInt_neg, e2]
  exact fdiv_pos (by omega)
theorem den_pos (q : Rat) : 0 < (q.den : Int) := by have := q.den_pos; omega
theorem divInt_add (p q : Rat) : Rat.divInt (p.num * q.den + q.num * p.den) (p.den * q.den) = p + q := by
  rw [Rat.add_def', show ((p.den : Int) * q.den) = ((p.den * q.den : Nat) : Int) by simp, Rat.divInt_ofNat]
theorem divInt_mul (p q : Rat) : Rat.divInt (p.num * q.num) (p.den * q.den) = p * q := by
  rw [Rat.mul_def', show ((p.den : Int) * q.den) = ((p.den * q.den : Nat) : Int) by simp, Rat.divInt_ofNat]
/-! ### comparisons by their kinds -/
section
variable (M : Store) (i j : Int) (y : D) (ds : List D) (u v : Bool) (q : Rat)
theorem cmp_lt : cmpO M .lt (.int i) (.int j) = some (.bl (decide (i < j))) := rfl
theorem cmp_le : cmpO M .le (.int i) (.int j) = some (.bl (decide (i ≤ j))) := rfl
theorem cmp_gt : cmpO M .gt (.int i) (.int j) = some (.bl (decide (j < i))) := rfl
theorem cmp_ge : cmpO M .ge (.int i) (.int j) = some (.bl (decide (j ≤ i))) := rfl
theorem cmp_eqI : cmpO M .eq (.int i) (.int j) = some (.bl (decide (i = j))) := rfl
theorem cmp_neI : cmpO M .ne (.int i) (.int j) = some (.bl (!decide (i = j))) := rfl
theorem cmp_eqT : cmpO M .eq (.tup ds) y = mapB id (eqO (.tup ds) y) := rfl
theorem cmp_neT : cmpO M .ne (.tup ds) y = mapB not (eqO (.tup ds) y) := rfl
theorem cmp_eqL : cmpO M .eq (.lst ds) y = mapB id (eqO (.lst ds) y) := rfl
theorem cmp_neL : cmpO M .ne (.lst ds) y = mapB not (eqO (.lst ds) y) := rfl
theorem cmp_eqS (x : List Nat) : cmpO M .eq (.str x) y = mapB id (eqO (.str x) y) := rfl
theorem cmp_neS (x : List Nat) : cmpO M .ne (.str x) y = mapB not (eqO (.str x) y) := rfl
theorem cmp_eqB : cmpO M .eq (.bl u) y = mapB id (eqO (.bl u) y) := rfl
theorem cmp_neB : cmpO M .ne (.bl u) y = mapB not (eqO (.bl u) y) := rfl
theorem cmp_eqN : cmpO M .eq .non y = mapB id (eqO .non y) := rfl
theorem cmp_neN : cmpO M .ne .non y = mapB not (eqO .non y) := rfl
theorem cmp_eqR : cmpO M .eq (R q) y = mapB id (eqO (R q) y) := rfl
theorem cmp_neR : cmpO M .ne (R q) y = mapB not (eqO (R q) y) := rfl
theorem cmp_is (x : D) : cmpO M .isN x y = some (.bl x.isN) := rfl
theorem cmp_isN (x : D) : cmpO M .isNN x y = some (.bl (!x.isN)) := rfl
theorem seqF_t : seqF (.tup ds) = some ds := rfl
theorem seqF_l : seqF (.lst ds) = some ds := rfl
theorem seqF_s : seqF (.seq ds) = some ds := rfl
theorem isN_n : D.isN .non = true := rfl
theorem isN_t : D.isN (.tup ds) = false := rfl
theorem isN_R : D.isN (R q) = false := rfl
theorem isN_i : D.isN (.int i) = false := rfl
end
/-! ### gcd -/
theorem half_mod {x y : Nat} (hy : 0 < y) (h : 0 < x % y) : 2 * (y % (x % y)) < y := by
  have h1 : x % y < y := Nat.mod_lt _ hy
  have h2 : y % (x % y) < x % y := Nat.mod_lt _ h
  have h3 : y = (x % y) * (y / (x % y)) + y % (x % y) := (Nat.div_add_mod y (x % y)).symm
  have h4 : 1 ≤ y / (x % y) := Nat.div_pos (Nat.le_of_lt h1) h
  have h5 : x % y ≤ (x % y) * (y / (x % y)) := Nat.le_mul_of_pos_right _ h4
  omega
end PI
set_option Elab.async false
set_option linter.all false
set_option maxRecDepth 100000
set_option maxHeartbeats 4000000
/-! QC: runs of the texts' common defs. -/
namespace PI
theorem run_pos {p : Px} {n f : Nat} {fd : Fd} (hf : p.fs f = some fd) (ds : List D) (M : Store) (hn : 1 ≤ n) (h0 : fd.cost = 0) (hi : fd.ini = none) (hl : ds.length = fd.np) : runs p n 0 f ds M = (evSs (p.cn (n - 1) 0 (runs p (n - 1))) fd.body (PI.start fd ds) M).out := by
  obtain ⟨m, rfl⟩ : ∃ m, n = m + 1 := ⟨n - 1, by omega⟩
  show body1 p m (runs p m) f ds M = _
  unfold body1
  simp only [hf, hi, h0, hl]
  simp
/-! ### gcd -/
def fdGcd (f : Nat) : Fd := ⟨2, 2, 0, .cons (.ret (.ite (.cmp .eq (.v 1) (.int 0)) (.bi .abs (.cons (.v 0) .nil)) (.call f (.cons (.v 1) (.cons (.bin .mod (.v 0) (.v 1)) .nil))))) .nil, none⟩
section
variable {p : Px} {f : Nat}
theorem gcd_0 (hf : p.fs f = some (fdGcd f)) (n : Nat) (hn : 1 ≤ n) (a : Int) (M : Store) : runs p n 0 f [.int a, .int 0] M = .ok (.int (Int.gcd a 0)) M := by
  rw [run_pos hf _ _ hn rfl rfl rfl]
  simp [evSs, evS, evE, evEs, evI, evIf, evEo, evOr, evAnd, start, startI, getS, getO, seqF_t, seqF_l, seqF_s, atD, L2.atI, L2.ixN, optO, Out.bind, Out.st, SO.out, SO.outI, SO.seq, SO.turn, binO, cmp_lt, cmp_le, cmp_gt, cmp_ge, cmp_eqI, cmp_neI, cmp_eqT, cmp_neT, cmp_eqL, cmp_neL, cmp_eqS, cmp_neS, cmp_eqB, cmp_neB, cmp_eqN, cmp_neN, cmp_eqR, cmp_neR, cmp_is, cmp_isN, isN_n, isN_t, isN_R, isN_i, grd, Px.cn, biO, biSum, biAbs, biInt, intsOf, lcRun, lcGo, lcStep, lcK, rangeD, okR, asg, setAll, noEx, wipeR, noLam, ifK, frGo, mapB, List.range, List.range.loop, PI.ixO, biTuple, seqOf, fdGcd]
  split <;> omega
theorem gcd_s (hf : p.fs f = some (fdGcd f)) (n : Nat) (hn : 1 ≤ n) (a b : Int) (hb : b ≠ 0) (M : Store) : runs p n 0 f [.int a, .int b] M = (runs p (n - 1) 0 f [.int b, .int (a.fmod b)] M) := by
  rw [run_pos hf _ _ hn rfl rfl rfl]
  simp [evSs, evS, evE, evEs, evI, evIf, evEo, evOr, evAnd, start, startI, getS, getO, seqF_t, seqF_l, seqF_s, atD, L2.atI, L2.ixN, optO, Out.bind, Out.st, SO.out, SO.outI, SO.seq, SO.turn, binO, cmp_lt, cmp_le, cmp_gt, cmp_ge, cmp_eqI, cmp_neI, cmp_eqT, cmp_neT, cmp_eqL, cmp_neL, cmp_eqS, cmp_neS, cmp_eqB, cmp_neB, cmp_eqN, cmp_neN, cmp_eqR, cmp_neR, cmp_is, cmp_isN, isN_n, isN_t, isN_R, isN_i, grd, Px.cn, biO, biSum, biAbs, biInt, intsOf, lcRun, lcGo, lcStep, lcK, rangeD, okR, asg, setAll, noEx, wipeR, noLam, ifK, frGo, mapB, List.range, List.range.loop, PI.ixO, biTuple, seqOf, fdGcd, hb]
  cases runs p (n - 1) 0 f [.int b, .int (a.fmod b)] M <;> rfl
theorem gcd_fmod (a b : Int) : Int.gcd b (a.fmod b) = Int.gcd a b := by
  have h : a.fmod b = a - b * (a.fdiv b) := Int.fmod_def a b
  rw [h, Int.gcd_comm a b, Int.gcd_sub_mul_left_right]
theorem fmod_lt (a b : Int) (hb : b ≠ 0) : (a.fmod b).natAbs < b.natAbs := by
  rcases Int.lt_or_gt_of_ne hb with h | h
  · have h1 := Int.neg_fmod_neg (-a) (-b)
    rw [Int.neg_neg, Int.neg_neg] at h1
    rw [h1, Int.natAbs_neg, Int.fmod_eq_emod_of_nonneg _ (by omega)]
    have h2 := Int.emod_nonneg (-a) (show (-b) ≠ 0 by omega)
    have h3 := Int.emod_lt_of_pos (-a) (show 0 < -b by omega)
    omega
  · rw [Int.fmod_eq_emod_of_nonneg _ (by omega)]
    have h2 := Int.emod_nonneg a (show b ≠ 0 by omega)
    have h3 := Int.emod_lt_of_pos a h
    omega
theorem fmod_sgn (a b : Int) (hb : b ≠ 0) : (0 < b → 0 ≤ a.fmod b) ∧ (b < 0 → a.fmod b ≤ 0) := by
  constructor
  · intro h
    rw [Int.fmod_eq_emod_of_nonneg _ (by omega)]
    exact Int.emod_nonneg a (by omega)
  · intro h
    have h1 := Int.neg_fmod_neg (-a) (-b)
    rw [Int.neg_neg, Int.neg_neg] at h1
    rw [h1, Int.fmod_eq_emod_of_nonneg _ (by omega)]
    have h2 := Int.emod_nonneg (-a) (show (-b) ≠ 0 by omega)
    omega
theorem half_fmod (a b : Int) (hb : b ≠ 0) (hr : a.fmod b ≠ 0) : 2 * (b.fmod (a.fmod b)).natAbs < b.natAbs := by
  have key : ∀ b r : Int, 0 < b → 0 < r → r < b → 2 * (b.fmod r).natAbs < b.natAbs := fun b r hb h1 h2 => by
    rw [Int.fmod_eq_emod_of_nonneg _ (by omega)]
    have h3 := Int.emod_nonneg b (show r ≠ 0 by omega)
    have h4 := Int.emod_lt_of_pos b h1
    have h5 : b = r * (b / r) + b % r := (Int.mul_ediv_add_emod b r).symm
    have h6 : 1 ≤ b / r := Int.le_ediv_of_mul_le h1 (by omega)
    have h7 : r * 1 ≤ r * (b / r) := Int.mul_le_mul_of_nonneg_left h6 (by omega)
    omega
  have h1 := fmod_lt a b hb
  have h2 := fmod_sgn a b hb
  rcases Int.lt_or_gt_of_ne hb with h | h
  · have h3 := h2.2 h
    have h4 := Int.neg_fmod_neg (-b) (-(a.fmod b))
    rw [Int.neg_neg, Int.neg_neg] at h4
    have h5 := key (-b) (-(a.fmod b)) (by omega) (by omega) (by omega)
    rw [h4, Int.natAbs_neg]
    omega
  · have h3 := h2.1 h
    exact key b (a.fmod b) h (by omega) (by omega)
theorem run_gcd (hf : p.fs f = some (fdGcd f)) : ∀ (j n : Nat) (a b : Int) (M : Store), W j b → 2 * j + 1 ≤ n → runs p n 0 f [.int a, .int b] M = .ok (.int (Int.gcd a b)) M
  | 0, n, a, b, M, hb, hn => by
    have : b = 0 := by unfold W at hb; omega
    subst this
    exact gcd_0 hf n (by omega) a M
  | j + 1, n, a, b, M, hb, hn => by
    by_cases h0 : b = 0
    · subst h0
      exact gcd_0 hf n (by omega) a M
    · rw [gcd_s hf n (by omega) a b h0]
      by_cases h1 : a.fmod b = 0
      · rw [h1, gcd_0 hf _ (by omega), ← gcd_fmod a b, h1]
      · rw [gcd_s hf _ (by omega) _ _ h1, run_gcd hf j _ _ _ M ?_ (by omega), gcd_fmod, gcd_fmod]
        have := half_fmod a b h0 h1
        unfold W at hb ⊢
        rw [Nat.pow_succ] at hb
        omega
end
/-! ### the other one: a loop -/
def fdCommon (k : Nat) : Fd := ⟨2, 2, 0, .cons (.par 0 1 (.bi .abs (.cons (.v 0) .nil)) (.bi .abs (.cons (.v 1) .nil))) (.cons (.wh k (.cmp .ne (.v 1) (.int 0)) (.cons (.par 0 1 (.v 1) (.bin .mod (.v 0) (.v 1))) .nil)) (.cons (.ret (.v 0)) .nil)), none⟩
theorem wh_0 (c : Cn) (k : Nat) (x : Nat) (M : Store) : whGo (fun ρ M => evE c (.cmp .ne (.v 1) (.int 0)) ρ M) (fun ρ M => evSs c (.cons (.par 0 1 (.v 1) (.bin .mod (.v 0) (.v 1))) .nil) ρ M) (k + 1) [.v (.int x), .v (.int 0)] M = .nx [.v (.int x), .v (.int 0)] M := by
  simp [whGo, evSs, evS, evE, evEs, evI, evIf, evEo, evOr, evAnd, start, startI, getS, getO, seqF_t, seqF_l, seqF_s, atD, L2.atI, L2.ixN, optO, Out.bind, Out.st, SO.out, SO.outI, SO.seq, SO.turn, binO, cmp_lt, cmp_le, cmp_gt, cmp_ge, cmp_eqI, cmp_neI, cmp_eqT, cmp_neT, cmp_eqL, cmp_neL, cmp_eqS, cmp_neS, cmp_eqB, cmp_neB, cmp_eqN, cmp_neN, cmp_eqR, cmp_neR, cmp_is, cmp_isN, isN_n, isN_t, isN_R, isN_i, grd, Px.cn, biO, biSum, biAbs, biInt, intsOf, lcRun, lcGo, lcStep, lcK, rangeD, okR, asg, setAll, noEx, wipeR, noLam, ifK, frGo, mapB, List.range, List.range.loop, PI.ixO, biTuple, seqOf]
theorem wh_s (c : Cn) (k : Nat) (x y : Nat) (hy : y ≠ 0) (M : Store) : whGo (fun ρ M => evE c (.cmp .ne (.v 1) (.int 0)) ρ M) (fun ρ M => evSs c (.cons (.par 0 1 (.v 1) (.bin .mod (.v 0) (.v 1))) .nil) ρ M) (k + 1) [.v (.int x), .v (.int y)] M = whGo (fun ρ M => evE c (.cmp .ne (.v 1) (.int 0)) ρ M) (fun ρ M => evSs c (.cons (.par 0 1 (.v 1) (.bin .mod (.v 0) (.v 1))) .nil) ρ M) k [.v (.int y), .v (.int ((x % y : Nat) : Int))] M := by
  have e : (x : Int).fmod y = ((x % y : Nat) : Int) := by
    rw [Int.fmod_eq_emod_of_nonneg _ (by omega)]; simp
  rw [whGo]
  simp [evSs, evS, evE, evEs, evI, evIf, evEo, evOr, evAnd, start, startI, getS, getO, seqF_t, seqF_l, seqF_s, atD, L2.atI, L2.ixN, optO, Out.bind, Out.st, SO.out, SO.outI, SO.seq, SO.turn, binO, cmp_lt, cmp_le, cmp_gt, cmp_ge, cmp_eqI, cmp_neI, cmp_eqT, cmp_neT, cmp_eqL, cmp_neL, cmp_eqS, cmp_neS, cmp_eqB, cmp_neB, cmp_eqN, cmp_neN, cmp_eqR, cmp_neR, cmp_is, cmp_isN, isN_n, isN_t, isN_R, isN_i, grd, Px.cn, biO, biSum, biAbs, biInt, intsOf, lcRun, lcGo, lcStep, lcK, rangeD, okR, asg, setAll, noEx, wipeR, noLam, ifK, frGo, mapB, List.range, List.range.loop, PI.ixO, biTuple, seqOf, hy, e]
theorem wh_gcd (c : Cn) : ∀ (j k x y : Nat) (M : Store), y < 2 ^ j → 2 * j + 1 ≤ k → whGo (fun ρ M => evE c (.cmp .ne (.v 1) (.int 0)) ρ M) (fun ρ M => evSs c (.cons (.par 0 1 (.v 1) (.bin .mod (.v 0) (.v 1))) .nil) ρ M) k [.v (.int x), .v (.int y)] M = .nx [.v (.int (Nat.gcd x y : Nat)), .v (.int 0)] M
  | 0, k, x, y, M, hy, hk => by
    have : y = 0 := by omega
    subst this
    obtain ⟨k, rfl⟩ : ∃ m, k = m + 1 := ⟨k - 1, by omega⟩
    rw [Nat.gcd_zero_right]
    exact wh_0 c k x M
  | j + 1, k, x, y, M, hy, hk => by
    obtain ⟨k, rfl⟩ : ∃ m, k = m + 2 := ⟨k - 2, by omega⟩
    by_cases h0 : y = 0
    · subst h0
      rw [Nat.gcd_zero_right]
      exact wh_0 c (k + 1) x M
    · rw [wh_s c _ x y h0]
      by_cases h1 : x % y = 0
      · rw [h1]
        have : Nat.gcd x y = y := by rw [Nat.gcd_comm, Nat.gcd_rec, h1, Nat.gcd_zero_left]
        rw [this]
        exact wh_0 c k y M
      · rw [wh_s c _ y (x % y) h1, wh_gcd c j k _ _ M ?_ (by omega)]
        · congr 3
          rw [Nat.gcd_comm x y, Nat.gcd_rec y x, Nat.gcd_rec (x % y) y, Nat.gcd_comm]
        · have := half_mod (Nat.pos_of_ne_zero h0) (Nat.pos_of_ne_zero h1)
          rw [Nat.pow_succ] at hy
          omega
theorem run_common {p : Px} {f K : Nat} (hf : p.fs f = some (fdCommon K)) (j n : Nat) (a b : Int) (M : Store) (hb : W j b) (hj : 2 * j + 1 ≤ K) (hn : 1 ≤ n) : runs p n 0 f [.int a, .int b] M = .ok (.int (Int.gcd a b)) M := by
  rw [run_pos hf _ _ hn rfl rfl rfl]
  have ea : ∀ z : Int, (if z < 0 then -z else z) = (z.natAbs : Int) := fun z => by split <;> omega
  have := fun M => wh_gcd (p.cn (n - 1) 0 (runs p (n - 1))) j K a.natAbs b.natAbs M hb hj
  simp only [fdCommon, evSs, evS, PI.start, evE, evEs]
  simp [evSs, evS, evE, evEs, evI, evIf, evEo, evOr, evAnd, start, startI, getS, getO, seqF_t, seqF_l, seqF_s, atD, L2.atI, L2.ixN, optO, Out.bind, Out.st, SO.out, SO.outI, SO.seq, SO.turn, binO, cmp_lt, cmp_le, cmp_gt, cmp_ge, cmp_eqI, cmp_neI, cmp_eqT, cmp_neT, cmp_eqL, cmp_neL, cmp_eqS, cmp_neS, cmp_eqB, cmp_neB, cmp_eqN, cmp_neN, cmp_eqR, cmp_neR, cmp_is, cmp_isN, isN_n, isN_t, isN_R, isN_i, grd, Px.cn, biO, biSum, biAbs, biInt, intsOf, lcRun, lcGo, lcStep, lcK, rangeD, okR, asg, setAll, noEx, wipeR, noLam, ifK, frGo, mapB, List.range, List.range.loop, PI.ixO, biTuple, seqOf, -Px.cn, ea] at this ⊢
  simp [this, evSs, evS, evE, evEs, evI, evIf, evEo, evOr, evAnd, start, startI, getS, getO, seqF_t, seqF_l, seqF_s, atD, L2.atI, L2.ixN, optO, Out.bind, Out.st, SO.out, SO.outI, SO.seq, SO.turn, binO, cmp_lt, cmp_le, cmp_gt, cmp_ge, cmp_eqI, cmp_neI, cmp_eqT, cmp_neT, cmp_eqL, cmp_neL, cmp_eqS, cmp_neS, cmp_eqB, cmp_neB, cmp_eqN, cmp_neN, cmp_eqR, cmp_neR, cmp_is, cmp_isN, isN_n, isN_t, isN_R, isN_i, grd, Px.cn, biO, biSum, biAbs, biInt, intsOf, lcRun, lcGo, lcStep, lcK, rangeD, okR, asg, setAll, noEx, wipeR, noLam, ifK, frGo, mapB, List.range, List.range.loop, PI.ixO, biTuple, seqOf]
  rfl
end PI
set_option Elab.async false
set_option linter.all false
set_option maxRecDepth 100000
set_option maxHeartbeats 4000000
/-! QD: shares (rationals), dice. -/
namespace PI
def fdPlain (c x : Nat) : Fd := ⟨2, 3, 0, .cons (.ife (.cmp .eq (.v 1) (.int 0)) (.cons (.raise x) .nil) .nil) (.cons (.set 2 (.ite (.cmp .gt (.v 1) (.int 0)) (.call c (.cons (.v 0) (.cons (.v 1) .nil))) (.bin .sub (.int 0) (.call c (.cons (.v 0) (.cons (.v 1) .nil)))))) (.cons (.ret (.tup (.cons (.bin .div (.v 0) (.v 2)) (.cons (.bin .div (.v 1) (.v 2)) .nil)))) .nil)), none⟩
theorem gcd_le {a u : Int} {j : Nat} (hu : W j u) (h0 : u ≠ 0) : W j (Int.gcd a u) := by
  unfold W at *
  have := Nat.le_of_dvd (Int.natAbs_pos.mpr h0) (Int.ofNat_dvd_left.mp (Int.gcd_dvd_right a u))
  simp only [Int.natAbs_natCast]
  omega
/-- the under's size: what a division may be by -/
def Und (j : Nat) (u : Int) : Prop := W j u ∧ u ≠ 0 ∧ (0 < u ∨ j ≤ 30)
theorem run_plain {p : Px} {f c x K : Nat} (hf : p.fs f = some (fdPlain c x)) (hc : p.fs c = some (fdCommon K)) {j : Nat} (n : Nat) {a u : Int} (M : Store) (hu : Und j u) (hj : 2 * j + 1 ≤ K) (h9 : j < 9000) (hn : 2 ≤ n) : runs p n 0 f [.int a, .int u] M = .ok (R (Rat.divInt a u)) M := by
  obtain ⟨hw, h0, hs⟩ := hu
  rw [run_pos hf _ _ (by omega) rfl rfl rfl]
  have e := fun m => run_common hc j (n - 1) a u m hw hj (by omega)
  have gp := gcd_pos (a := a) h0
  by_cases hp : 0 < u
  · have d := (gcd_le (a := a) hw h0).divP gp h9
    simp [evSs, evS, evE, evEs, evI, evIf, evEo, evOr, evAnd, start, startI, getS, getO, seqF_t, seqF_l, seqF_s, atD, L2.atI, L2.ixN, optO, Out.bind, Out.st, SO.out, SO.outI, SO.seq, SO.turn, binO, cmp_lt, cmp_le, cmp_gt, cmp_ge, cmp_eqI, cmp_neI, cmp_eqT, cmp_neT, cmp_eqL, cmp_neL, cmp_eqS, cmp_neS, cmp_eqB, cmp_neB, cmp_eqN, cmp_neN, cmp_eqR, cmp_neR, cmp_is, cmp_isN, isN_n, isN_t, isN_R, isN_i, grd, Px.cn, biO, biSum, biAbs, biInt, intsOf, lcRun, lcGo, lcStep, lcK, rangeD, okR, asg, setAll, noEx, wipeR, noLam, ifK, frGo, mapB, List.range, List.range.loop, PI.ixO, biTuple, seqOf, fdPlain, h0, hp, e, d]
    have := fdiv_pos (a := a) hp
    simpa using this
  · have hl : u < 0 := by omega
    have d := (gcd_le (a := a) hw h0).neg.divB (by omega) (by omega)
    simp [evSs, evS, evE, evEs, evI, evIf, evEo, evOr, evAnd, start, startI, getS, getO, seqF_t, seqF_l, seqF_s, atD, L2.atI, L2.ixN, optO, Out.bind, Out.st, SO.out, SO.outI, SO.seq, SO.turn, binO, cmp_lt, cmp_le, cmp_gt, cmp_ge, cmp_eqI, cmp_neI, cmp_eqT, cmp_neT, cmp_eqL, cmp_neL, cmp_eqS, cmp_neS, cmp_eqB, cmp_neB, cmp_eqN, cmp_neN, cmp_eqR, cmp_neR, cmp_is, cmp_isN, isN_n, isN_t, isN_R, isN_i, grd, Px.cn, biO, biSum, biAbs, biInt, intsOf, lcRun, lcGo, lcStep, lcK, rangeD, okR, asg, setAll, noEx, wipeR, noLam, ifK, frGo, mapB, List.range, List.range.loop, PI.ixO, biTuple, seqOf, fdPlain, h0, hp, e, d]
    have := fdiv_negD (a := a) hl
    simpa using this
theorem run_plain0 {p : Px} {f c x : Nat} (hf : p.fs f = some (fdPlain c x)) (n : Nat) {a : Int} (M : Store) (hn : 1 ≤ n) : runs p n 0 f [.int a, .int 0] M = .ex x M := by
  rw [run_pos hf _ _ (by omega) rfl rfl rfl]
  simp [evSs, evS, evE, evEs, evI, evIf, evEo, evOr, evAnd, start, startI, getS, getO, seqF_t, seqF_l, seqF_s, atD, L2.atI, L2.ixN, optO, Out.bind, Out.st, SO.out, SO.outI, SO.seq, SO.turn, binO, cmp_lt, cmp_le, cmp_gt, cmp_ge, cmp_eqI, cmp_neI, cmp_eqT, cmp_neT, cmp_eqL, cmp_neL, cmp_eqS, cmp_neS, cmp_eqB, cmp_neB, cmp_eqN, cmp_neN, cmp_eqR, cmp_neR, cmp_is, cmp_isN, isN_n, isN_t, isN_R, isN_i, grd, Px.cn, biO, biSum, biAbs, biInt, intsOf, lcRun, lcGo, lcStep, lcK, rangeD, okR, asg, setAll, noEx, wipeR, noLam, ifK, frGo, mapB, List.range, List.range.loop, PI.ixO, biTuple, seqOf, fdPlain]
def fdShare (c : Nat) : Fd := ⟨2, 3, 0, .cons (.set 2 (.bin .mul (.call c (.cons (.v 0) (.cons (.v 1) .nil))) (.ite (.cmp .gt (.v 1) (.int 0)) (.int 1) (.neg (.int 1))))) (.cons (.ret (.tup (.cons (.bin .div (.v 0) (.v 2)) (.cons (.bin .div (.v 1) (.v 2)) .nil)))) .nil), none⟩
theorem W1 : W 1 1 := by unfold W; decide
theorem run_share {p : Px} {f c : Nat} (hf : p.fs f = some (fdShare c)) (hc : p.fs c = some (fdGcd c)) {j : Nat} (n : Nat) {a u : Int} (M : Store) (hu : Und j u) (h9 : j < 9000) (hn : 2 * j + 2 ≤ n) : runs p n 0 f [.int a, .int u] M = .ok (R (Rat.divInt a u)) M := by
  obtain ⟨hw, h0, hs⟩ := hu
  rw [run_pos hf _ _ (by omega) rfl rfl rfl]
  have e := fun m => run_gcd hc j (n - 1) a u m hw (by omega)
  have gp := gcd_pos (a := a) h0
  have gw := gcd_le (a := a) hw h0
  by_cases hp : 0 < u
  · have d := gw.divP gp h9
    have m1 := gw.mulB W1 (by omega)
    simp [evSs, evS, evE, evEs, evI, evIf, evEo, evOr, evAnd, start, startI, getS, getO, seqF_t, seqF_l, seqF_s, atD, L2.atI, L2.ixN, optO, Out.bind, Out.st, SO.out, SO.outI, SO.seq, SO.turn, binO, cmp_lt, cmp_le, cmp_gt, cmp_ge, cmp_eqI, cmp_neI, cmp_eqT, cmp_neT, cmp_eqL, cmp_neL, cmp_eqS, cmp_neS, cmp_eqB, cmp_neB, cmp_eqN, cmp_neN, cmp_eqR, cmp_neR, cmp_is, cmp_isN, isN_n, isN_t, isN_R, isN_i, grd, Px.cn, biO, biSum, biAbs, biInt, intsOf, lcRun, lcGo, lcStep, lcK, rangeD, okR, asg, setAll, noEx, wipeR, noLam, ifK, frGo, mapB, List.range, List.range.loop, PI.ixO, biTuple, seqOf, fdShare, h0, hp, e, d, m1]
    have := fdiv_pos (a := a) hp
    simpa using this
  · have hl : u < 0 := by omega
    have d := gw.neg.divB (by omega) (by omega)
    have m1 := gw.mulB W1.neg (by omega)
    simp [evSs, evS, evE, evEs, evI, evIf, evEo, evOr, evAnd, start, startI, getS, getO, seqF_t, seqF_l, seqF_s, atD, L2.atI, L2.ixN, optO, Out.bind, Out.st, SO.out, SO.outI, SO.seq, SO.turn, binO, cmp_lt, cmp_le, cmp_gt, cmp_ge, cmp_eqI, cmp_neI, cmp_eqT, cmp_neT, cmp_eqL, cmp_neL, cmp_eqS, cmp_neS, cmp_eqB, cmp_neB, cmp_eqN, cmp_neN, cmp_eqR, cmp_neR, cmp_is, cmp_isN, isN_n, isN_t, isN_R, isN_i, grd, Px.cn, biO, biSum, biAbs, biInt, intsOf, lcRun, lcGo, lcStep, lcK, rangeD, okR, asg, setAll, noEx, wipeR, noLam, ifK, frGo, mapB, List.range, List.range.loop, PI.ixO, biTuple, seqOf, fdShare, h0, hp, e, d, m1]
    have := fdiv_negD (a := a) hl
    simpa using this
/-- a rational's size: its under divides u, its upper part is of k bits -/
structure Q (u k : Nat) (q : Rat) : Prop where
  d : q.den ∣ u
  w : W k q.num
theorem Q.den_w {u k j : Nat} {q : Rat} (h : Q u k q) (h0 : 0 < u) (hu : u < 2 ^ j) : W j (q.den : Int) := by
  unfold W
  have := Nat.le_of_dvd h0 h.d
  simp only [Int.natAbs_natCast]
  omega
theorem Q.mono {u k k' : Nat} {q : Rat} (h : Q u k q) (hk : k ≤ k') : Q u k' q := ⟨h.d, h.w.mono hk⟩
theorem num_le_mk {n : Int} {d : Nat} (h : d ≠ 0) : (mkRat n d).num.natAbs ≤ n.natAbs := by
  rw [Rat.num_mkRat, if_neg h, Int.natAbs_ediv_of_dvd]
  · exact Nat.div_le_self _ _
  · exact Int.ofNat_dvd_left.mpr (Nat.gcd_dvd_right _ _)
theorem W.num {k : Nat} {n : Int} {d : Nat} (h : d ≠ 0) (hn : W k n) : W k (mkRat n d).num := by
  unfold W at *
  have := num_le_mk (n := n) h
  omega
theorem den_dvd_mk {n : Int} {d : Nat} (h : d ≠ 0) : (mkRat n d).den ∣ d := by
  rw [Rat.den_mkRat, if_neg h]
  exact Nat.div_dvd_of_dvd (Nat.gcd_dvd_left _ _)
theorem Q.int {k : Nat} {i : Int} (h : W k i) : Q 1 k (i : Rat) := ⟨by simp, by simpa using h⟩
theorem Q.of_divInt {k : Nat} {a u : Int} {v : Nat} (h0 : u ≠ 0) (hu : u.natAbs ∣ v) (hw : W k a) : Q v k (Rat.divInt a u) := by
  refine ⟨Nat.dvd_trans ?_ hu, ?_⟩
  · rw [Rat.den_divInt, if_neg h0]
    exact Nat.div_dvd_of_dvd (by rw [Int.gcd]; exact Nat.gcd_dvd_left _ _)
  · rw [Rat.num_divInt]
    unfold W at *
    have h1 : (u.sign * a / (Int.gcd u a : Int)).natAbs ≤ (u.sign * a).natAbs := Int.natAbs_ediv_le_natAbs _ _
    have h2 : (u.sign * a).natAbs = a.natAbs := by
      rw [Int.natAbs_mul, Int.natAbs_sign_of_ne_zero h0, Nat.one_mul]
    omega
theorem add_den_dvd {p q : Rat} {u : Nat} (hp : p.den ∣ u) (hq : q.den ∣ u) : (p + q).den ∣ u := by
  by_cases h0 : u = 0
  · subst h0; exact Nat.dvd_zero _
  obtain ⟨a, ha⟩ := hp
  obtain ⟨b, hb⟩ := hq
  have e : p + q = mkRat (p.num * a + q.num * b) u := by
    have e1 : p = mkRat (p.num * a) u := by
      rw [ha]
      have := Rat.mkRat_mul_right (n := p.num) (d := p.den) (a := a) (by rintro rfl; simp at ha; exact h0 ha)
      rw [this, Rat.mkRat_self]
    have e2 : q = mkRat (q.num * b) u := by
      rw [hb]
      have := Rat.mkRat_mul_right (n := q.num) (d := q.den) (a := b) (by rintro rfl; simp at hb; exact h0 hb)
      rw [this, Rat.mkRat_self]
    conv => lhs; rw [e1, e2]
    rw [Rat.mkRat_add_mkRat _ _ h0 h0]
    have := Rat.mkRat_mul_right (n := p.num * a + q.num * b) (d := u) (a := u) h0
    rw [← this]
    congr 1
    grind
  rw [e]
  exact den_dvd_mk h0
theorem Q.add {u k j : Nat} {p q : Rat} (hp : Q u k p) (hq : Q u k q) (h0 : 0 < u) (hu : u < 2 ^ j) : Q u (k + j + 1) (p + q) := by
  refine ⟨add_den_dvd hp.d hq.d, ?_⟩
  have hd : p.den * q.den ≠ 0 := Nat.mul_ne_zero p.den_nz q.den_nz
  rw [Rat.add_def']
  refine W.num hd ?_
  have := (hp.w.mul (hq.den_w h0 hu)).add (hq.w.mul (hp.den_w h0 hu))
  exact this.mono (by omega)
theorem Q.mul {u v k l : Nat} {p q : Rat} (hp : Q u k p) (hq : Q v l q) : Q (u * v) (k + l) (p * q) := by
  have hd : p.den * q.den ≠ 0 := Nat.mul_ne_zero p.den_nz q.den_nz
  rw [Rat.mul_def']
  exact ⟨Nat.dvd_trans (den_dvd_mk hd) (Nat.mul_dvd_mul hp.d hq.d), W.num hd (hp.w.mul hq.w)⟩
theorem Q.neg {u k : Nat} {p : Rat} (hp : Q u k p) : Q u k (-p) := ⟨by simpa using hp.d, by simpa using hp.w.neg⟩
def fdAdd (s : Nat) : Fd := ⟨2, 2, 0, .cons (.ret (.call s (.cons (.bin .add (.bin .mul (.ix (.v 0) (.int 0)) (.ix (.v 1) (.int 1))) (.bin .mul (.ix (.v 1) (.int 0)) (.ix (.v 0) (.int 1)))) (.cons (.bin .mul (.ix (.v 0) (.int 1)) (.ix (.v 1) (.int 1))) .nil)))) .nil, none⟩
def fdMul (s : Nat) : Fd := ⟨2, 2, 0, .cons (.ret (.call s (.cons (.bin .mul (.ix (.v 0) (.int 0)) (.ix (.v 1) (.int 0))) (.cons (.bin .mul (.ix (.v 0) (.int 1)) (.ix (.v 1) (.int 1))) .nil)))) .nil, none⟩
/-- a rational that the texts reckon with -/
structure Qs (j : Nat) (q : Rat) : Prop where
  d : W j (q.den : Int)
  w : W 1000000 q.num
theorem Q.s {u k j : Nat} {q : Rat} (h : Q u k q) (h0 : 0 < u) (hu : u < 2 ^ j) (hk : k ≤ 1000000) : Qs j q := ⟨h.den_w h0 hu, h.w.mono hk⟩
theorem und_mul {j : Nat} {p q : Rat} (hp : Qs j p) (hq : Qs j q) : Und (2 * j) ((p.den : Int) * q.den) := by
  have h1 := den_pos p
  have h2 := den_pos q
  have := Int.mul_pos h1 h2
  refine ⟨(hp.d.mul hq.d).mono (by omega), by omega, .inl this⟩
section
variable {p : Px} {f c s K x : Nat} {j : Nat} {a b : Rat}
theorem run_add_ (e : ∀ (m : Nat) (z u : Int) (M : Store), Und (2 * j) u → x ≤ m → runs p m 0 s [.int z, .int u] M = .ok (R (Rat.divInt z u)) M) (hf : p.fs f = some (fdAdd s)) (n : Nat) (M : Store) (ha : Qs j a) (hb : Qs j b) (h9 : j ≤ 4000) (hn : x + 1 ≤ n) : runs p n 0 f [R a, R b] M = .ok (R (a + b)) M := by
  rw [run_pos hf _ _ (by omega) rfl rfl rfl, ← divInt_add]
  have m1 := ha.w.mulB hb.d (by omega)
  have m2 := hb.w.mulB ha.d (by omega)
  have m3 := ha.d.mulB hb.d (by omega)
  have ee := fun M => e (n - 1) (a.num * b.den + b.num * a.den) (a.den * b.den) M (und_mul ha hb) (by omega)
  simp only [R] at ee ⊢
  simp [evSs, evS, evE, evEs, evI, evIf, evEo, evOr, evAnd, start, startI, getS, getO, seqF_t, seqF_l, seqF_s, atD, L2.atI, L2.ixN, optO, Out.bind, Out.st, SO.out, SO.outI, SO.seq, SO.turn, binO, cmp_lt, cmp_le, cmp_gt, cmp_ge, cmp_eqI, cmp_neI, cmp_eqT, cmp_neT, cmp_eqL, cmp_neL, cmp_eqS, cmp_neS, cmp_eqB, cmp_neB, cmp_eqN, cmp_neN, cmp_eqR, cmp_neR, cmp_is, cmp_isN, isN_n, isN_t, isN_R, isN_i, grd, Px.cn, biO, biSum, biAbs, biInt, intsOf, lcRun, lcGo, lcStep, lcK, rangeD, okR, asg, setAll, noEx, wipeR, noLam, ifK, frGo, mapB, List.range, List.range.loop, PI.ixO, biTuple, seqOf, fdAdd, m1, m2, m3, ee]
theorem run_mul_ (e : ∀ (m : Nat) (z u : Int) (M : Store), Und (2 * j) u → x ≤ m → runs p m 0 s [.int z, .int u] M = .ok (R (Rat.divInt z u)) M) (hf : p.fs f = some (fdMul s)) (n : Nat) (M : Store) (ha : Qs j a) (hb : Qs j b) (h9 : j ≤ 4000) (hn : x + 1 ≤ n) : runs p n 0 f [R a, R b] M = .ok (R (a * b)) M := by
  rw [run_pos hf _ _ (by omega) rfl rfl rfl, ← divInt_mul]
  have m1 := ha.w.mulB hb.w (by omega)
  have m3 := ha.d.mulB hb.d (by omega)
  have ee := fun M => e (n - 1) (a.num * b.num) (a.den * b.den) M (und_mul ha hb) (by omega)
  simp only [R] at ee ⊢
  simp [evSs, evS, evE, evEs, evI, evIf, evEo, evOr, evAnd, start, startI, getS, getO, seqF_t, seqF_l, seqF_s, atD, L2.atI, L2.ixN, optO, Out.bind, Out.st, SO.out, SO.outI, SO.seq, SO.turn, binO, cmp_lt, cmp_le, cmp_gt, cmp_ge, cmp_eqI, cmp_neI, cmp_eqT, cmp_neT, cmp_eqL, cmp_neL, cmp_eqS, cmp_neS, cmp_eqB, cmp_neB, cmp_eqN, cmp_neN, cmp_eqR, cmp_neR, cmp_is, cmp_isN, isN_n, isN_t, isN_R, isN_i, grd, Px.cn, biO, biSum, biAbs, biInt, intsOf, lcRun, lcGo, lcStep, lcK, rangeD, okR, asg, setAll, noEx, wipeR, noLam, ifK, frGo, mapB, List.range, List.range.loop, PI.ixO, biTuple, seqOf, fdMul, m1, m3, ee]
/-- the program's own -/
theorem run_added (hf : p.fs f = some (fdAdd s)) (hs : p.fs s = some (fdPlain c x)) (hc : p.fs c = some (fdCommon K)) (n : Nat) (M : Store) (ha : Qs j a) (hb : Qs j b) (h9 : j ≤ 4000) (hK : 4 * j + 1 ≤ K) (hn : 3 ≤ n) : runs p n 0 f [R a, R b] M = .ok (R (a + b)) M :=
  run_add_ (x := 2) (fun m z u M hu hm => run_plain hs hc m M hu (by omega) (by omega) hm) hf n M ha hb h9 hn
theorem run_times (hf : p.fs f = some (fdMul s)) (hs : p.fs s = some (fdPlain c x)) (hc : p.fs c = some (fdCommon K)) (n : Nat) (M : Store) (ha : Qs j a) (hb : Qs j b) (h9 : j ≤ 4000) (hK : 4 * j + 1 ≤ K) (hn : 3 ≤ n) : runs p n 0 f [R a, R b] M = .ok (R (a * b)) M :=
  run_mul_ (x := 2) (fun m z u M hu hm => run_plain hs hc m M hu (by omega) (by omega) hm) hf n M ha hb h9 hn
/-- the law's own -/
theorem run_add (hf : p.fs f = some (fdAdd s)) (hs : p.fs s = some (fdShare c)) (hc : p.fs c = some (fdGcd c)) (n : Nat) (M : Store) (ha : Qs j a) (hb : Qs j b) (h9 : j ≤ 4000) (hn : 4 * j + 3 ≤ n) : runs p n 0 f [R a, R b] M = .ok (R (a + b)) M :=
  run_add_ (x := 4 * j + 2) (fun m z u M hu hm => run_share hs hc m M hu (by omega) (by omega)) hf n M ha hb h9 hn
theorem run_mul (hf : p.fs f = some (fdMul s)) (hs : p.fs s = some (fdShare c)) (hc : p.fs c = some (fdGcd c)) (n : Nat) (M : Store) (ha : Qs j a) (hb : Qs j b) (h9 : j ≤ 4000) (hn : 4 * j + 3 ≤ n) : runs p n 0 f [R a, R b] M = .ok (R (a * b)) M :=
  run_mul_ (x := 4 * j + 2) (fun m z u M hu hm => run_share hs hc m M hu (by omega) (by omega)) hf n M ha hb h9 hn
end
end PI
set_option Elab.async false
set_option linter.all false
set_option maxRecDepth 100000
set_option maxHeartbeats 4000000
/-! QE: the law's dice. -/
namespace PI
structure Dice where
  a : Int
  b : Int
  m : Int
def dD (s : Dice) : MO := .lst [.int s.a, .int s.b, .int s.m]
structure DiceOk (k : Nat) (s : Dice) : Prop where
  a : W 2000000 s.a
  b : s.b.natAbs ≤ k
theorem DiceOk.mono {k l : Nat} {s : Dice} (h : DiceOk k s) (hk : k ≤ l) : DiceOk l s := ⟨h.a, Nat.le_trans h.b hk⟩
def fdDice : Fd := ⟨1, 1, 0, .cons (.ife (.chain .lt .lt (.bin .sub (.int 0) (.int 10)) (.v 0) (.int 10)) (.cons (.ret (.mlst (.cons (.bi .abs (.cons (.v 0) .nil)) (.cons (.int 0) (.cons (.int 2) .nil))))) .nil) .nil) (.cons (.ret (.mlst (.cons (.v 0) (.cons (.bin .add (.int 1) (.bin .mod (.bi .int (.cons (.v 0) .nil)) (.int 1009))) (.cons (.bi .int (.cons (.cmp .ge (.v 0) (.bin .pow (.int 10) (.int 18))) .nil)) .nil))))) .nil), none⟩
theorem W_small {i : Int} {k : Nat} (h : i.natAbs < 1073741824) (hk : 30 ≤ k) : W k i := W.mono (a := 30) (by unfold W; exact h) hk
theorem dice_ok {p : Px} {f : Nat} (hf : p.fs f = some fdDice) (z : Int) (hz : W 2000000 z) : ∃ s, DiceOk 2000 s ∧ ∀ (n : Nat) (M : Store), 1 ≤ n → runs p n 0 f [.int z] M = .ok (.ref M.length) (M ++ [dD s]) := by
  by_cases h : -10 < z ∧ z < 10
  · refine ⟨⟨z.natAbs, 0, 2⟩, ⟨W_small (by simp; omega) (by omega), by simp⟩, fun n M hn => ?_⟩
    rw [run_pos hf _ _ hn rfl rfl rfl]
    have e : (if z < 0 then -z else z) = (z.natAbs : Int) := by split <;> omega
    simp [evSs, evS, evE, evEs, evI, evIf, evEo, evOr, evAnd, start, startI, getS, getO, seqF_t, seqF_l, seqF_s, atD, L2.atI, L2.ixN, optO, Out.bind, Out.st, SO.out, SO.outI, SO.seq, SO.turn, binO, cmp_lt, cmp_le, cmp_gt, cmp_ge, cmp_eqI, cmp_neI, cmp_eqT, cmp_neT, cmp_eqL, cmp_neL, cmp_eqS, cmp_neS, cmp_eqB, cmp_neB, cmp_eqN, cmp_neN, cmp_eqR, cmp_neR, cmp_is, cmp_isN, isN_n, isN_t, isN_R, isN_i, grd, Px.cn, biO, biSum, biAbs, biInt, intsOf, lcRun, lcGo, lcStep, lcK, rangeD, okR, asg, setAll, noEx, wipeR, noLam, ifK, frGo, mapB, List.range, List.range.loop, PI.ixO, biTuple, seqOf, fdDice, evBl, h.1, h.2, e, dD]
  · have e0 : powB 10 18 = true := by decide
    have e1 : Int.toNat 18 = 18 := rfl
    have hb : (z.fmod 1009).natAbs < 1009 := fmod_lt z 1009 (by decide)
    refine ⟨⟨z, 1 + z.fmod 1009, bI (decide (10 ^ 18 ≤ z))⟩, ⟨hz, by show (1 + z.fmod 1009).natAbs ≤ 2000; omega⟩, fun n M hn => ?_⟩
    rw [run_pos hf _ _ hn rfl rfl rfl]
    by_cases h1 : -10 < z
    · have h2 : ¬ z < 10 := fun q => h ⟨h1, q⟩
      simp [evSs, evS, evE, evEs, evI, evIf, evEo, evOr, evAnd, start, startI, getS, getO, seqF_t, seqF_l, seqF_s, atD, L2.atI, L2.ixN, optO, Out.bind, Out.st, SO.out, SO.outI, SO.seq, SO.turn, binO, cmp_lt, cmp_le, cmp_gt, cmp_ge, cmp_eqI, cmp_neI, cmp_eqT, cmp_neT, cmp_eqL, cmp_neL, cmp_eqS, cmp_neS, cmp_eqB, cmp_neB, cmp_eqN, cmp_neN, cmp_eqR, cmp_neR, cmp_is, cmp_isN, isN_n, isN_t, isN_R, isN_i, grd, Px.cn, biO, biSum, biAbs, biInt, intsOf, lcRun, lcGo, lcStep, lcK, rangeD, okR, asg, setAll, noEx, wipeR, noLam, ifK, frGo, mapB, List.range, List.range.loop, PI.ixO, biTuple, seqOf, fdDice, evBl, h1, h2, e0, e1, dD]
    · simp [evSs, evS, evE, evEs, evI, evIf, evEo, evOr, evAnd, start, startI, getS, getO, seqF_t, seqF_l, seqF_s, atD, L2.atI, L2.ixN, optO, Out.bind, Out.st, SO.out, SO.outI, SO.seq, SO.turn, binO, cmp_lt, cmp_le, cmp_gt, cmp_ge, cmp_eqI, cmp_neI, cmp_eqT, cmp_neT, cmp_eqL, cmp_neL, cmp_eqS, cmp_neS, cmp_eqB, cmp_neB, cmp_eqN, cmp_neN, cmp_eqR, cmp_neR, cmp_is, cmp_isN, isN_n, isN_t, isN_R, isN_i, grd, Px.cn, biO, biSum, biAbs, biInt, intsOf, lcRun, lcGo, lcStep, lcK, rangeD, okR, asg, setAll, noEx, wipeR, noLam, ifK, frGo, mapB, List.range, List.range.loop, PI.ixO, biTuple, seqOf, fdDice, evBl, h1, e0, e1, dD]
def fdRounds (d : Nat) : Fd := ⟨2, 4, 0, .cons (.set 2 (.sl (.v 0) .no (.so (.v 1)))) (.cons (.ife (.cmp .eq (.v 2) (.lst .nil)) (.cons (.set 2 (.lst (.cons (.int 0) .nil))) .nil) .nil) (.cons (.ret (.lc [3] (.nm 3) (.seq (.v 2)) (.call d (.cons (.v 3) .nil)) .no)) .nil)), none⟩
theorem rounds_ok {p : Px} {f d : Nat} (hf : p.fs f = some (fdRounds d)) (hd : p.fs d = some fdDice) (ns : List Int) (h : ∀ z ∈ ns, W 2000000 z) : ∃ s, DiceOk 2000 s ∧ ∀ n, 2 ≤ n → runs p n 0 f [.seq (ns.map D.int), .int 1] [] = .ok (.lst [.ref 0]) [dD s] := by
  cases ns with
  | nil =>
    obtain ⟨s, hs, e⟩ := dice_ok hd 0 (W_small (by decide) (by omega))
    refine ⟨s, hs, fun n hn => ?_⟩
    rw [run_pos hf _ _ (by omega) rfl rfl rfl]
    have e := e (n - 1) [] (by omega)
    have q : eqO (.lst []) (.lst []) = some true := rfl
    simp [evSs, evS, evE, evEs, evI, evIf, evEo, evOr, evAnd, start, startI, getS, getO, seqF_t, seqF_l, seqF_s, atD, L2.atI, L2.ixN, optO, Out.bind, Out.st, SO.out, SO.outI, SO.seq, SO.turn, binO, cmp_lt, cmp_le, cmp_gt, cmp_ge, cmp_eqI, cmp_neI, cmp_eqT, cmp_neT, cmp_eqL, cmp_neL, cmp_eqS, cmp_neS, cmp_eqB, cmp_neB, cmp_eqN, cmp_neN, cmp_eqR, cmp_neR, cmp_is, cmp_isN, isN_n, isN_t, isN_R, isN_i, grd, Px.cn, biO, biSum, biAbs, biInt, intsOf, lcRun, lcGo, lcStep, lcK, rangeD, okR, asg, setAll, noEx, wipeR, noLam, ifK, frGo, mapB, List.range, List.range.loop, PI.ixO, biTuple, seqOf, fdRounds, evEo, cutD, HT.sIx, e, q, mapB]
  | cons z ns =>
    obtain ⟨s, hs, e⟩ := dice_ok hd z (h z List.mem_cons_self)
    refine ⟨s, hs, fun n hn => ?_⟩
    rw [run_pos hf _ _ (by omega) rfl rfl rfl]
    have e := e (n - 1) [] (by omega)
    have q : eqO (.lst [.int z]) (.lst []) = some false := rfl
    simp [evSs, evS, evE, evEs, evI, evIf, evEo, evOr, evAnd, start, startI, getS, getO, seqF_t, seqF_l, seqF_s, atD, L2.atI, L2.ixN, optO, Out.bind, Out.st, SO.out, SO.outI, SO.seq, SO.turn, binO, cmp_lt, cmp_le, cmp_gt, cmp_ge, cmp_eqI, cmp_neI, cmp_eqT, cmp_neT, cmp_eqL, cmp_neL, cmp_eqS, cmp_neS, cmp_eqB, cmp_neB, cmp_eqN, cmp_neN, cmp_eqR, cmp_neR, cmp_is, cmp_isN, isN_n, isN_t, isN_R, isN_i, grd, Px.cn, biO, biSum, biAbs, biInt, intsOf, lcRun, lcGo, lcStep, lcK, rangeD, okR, asg, setAll, noEx, wipeR, noLam, ifK, frGo, mapB, List.range, List.range.loop, PI.ixO, biTuple, seqOf, fdRounds, evEo, cutD, HT.sIx, e, q, mapB]
def fdRoll (f : Nat) : Fd := ⟨2, 3, 0, .cons (.ife (.or (.cons (.cmp .eq (.ix (.v 0) (.int 2)) (.int 2)) (.cons (.and (.cons (.cmp .eq (.ix (.v 0) (.int 2)) (.int 1)) (.cons (.cmp .gt (.ix (.v 0) (.int 0)) (.int 0)) .nil))) .nil))) (.cons (.set 2 (.bin .mod (.bi .int (.cons (.ix (.v 0) (.int 0)) .nil)) (.v 1))) (.cons (.put (.v 0) (.int 0) (.bin .div (.ix (.v 0) (.int 0)) (.v 1))) (.cons (.ret (.v 2)) .nil))) .nil) (.cons (.put (.v 0) (.int 2) (.int 0)) (.cons (.ife (.cmp .gt (.v 1) (.int 100000000)) (.cons (.ret (.bin .mod (.bi .int (.cons (.bin .add (.bin .mul (.call f (.cons (.v 0) (.cons (.bin .add (.bin .div (.v 1) (.int 100000000)) (.int 1)) .nil))) (.int 100000000)) (.call f (.cons (.v 0) (.cons (.int 100000000) .nil)))) .nil)) (.v 1))) .nil) .nil) (.cons (.put (.v 0) (.int 0) (.bin .mod (.bi .int (.cons (.bin .add (.bin .add (.bin .mul (.ix (.v 0) (.int 0)) (.int 48271)) (.bin .mul (.ix (.v 0) (.int 1)) (.int 69621))) (.int 11)) .nil)) (.int 2147483647))) (.cons (.put (.v 0) (.int 1) (.bin .add (.ix (.v 0) (.int 1)) (.int 1))) (.cons (.ret (.bin .mod (.bi .int (.cons (.bin .div (.ix (.v 0) (.int 0)) (.int 7)) .nil)) (.v 1))) .nil))))), none⟩
theorem fmod_rng (a : Int) {b : Int} (hb : 0 < b) : 0 ≤ a.fmod b ∧ a.fmod b < b := by
  rw [Int.fmod_eq_emod_of_nonneg _ (by omega)]
  exact ⟨Int.emod_nonneg a (by omega), Int.emod_lt_of_pos a hb⟩
theorem fdiv_le (a : Int) {b : Int} (hb : 0 < b) : (a.fdiv b).natAbs ≤ a.natAbs := by
  rw [Int.fdiv_eq_ediv_of_nonneg _ (by omega)]
  exact Int.natAbs_ediv_le_natAbs _ _
theorem roll_ok {p : Px} {f : Nat} (hf : p.fs f = some (fdRoll f)) {k : Nat} {s : Dice} (hs : DiceOk k s) (hk : k ≤ 1000000) (many : Int) (h1 : 1 ≤ many) (h2 : many ≤ 100000000) : ∃ r s', 0 ≤ r ∧ r < many ∧ DiceOk (k + 1) s' ∧ ∀ n, 1 ≤ n → runs p n 0 f [.ref 0, .int many] [dD s] = .ok (.int r) [dD s'] := by
  have hm := fmod_rng
  have hd : divB many = true := by
    unfold divB
    have : many ≠ 0 := by omega
    have : many.natAbs < 1073741824 := by omega
    simp [*]
  have h0 : many ≠ 0 := by omega
  have h3 : ¬ (100000000 < many) := by omega
  by_cases c : s.m = 2 ∨ (s.m = 1 ∧ 0 < s.a)
  · refine ⟨s.a.fmod many, ⟨s.a.fdiv many, s.b, s.m⟩, (hm s.a (by omega)).1, (hm s.a (by omega)).2, ⟨?_, Nat.le_succ_of_le hs.b⟩, fun n hn => ?_⟩
    · have := fdiv_le s.a (b := many) (by omega)
      have h9 := hs.a
      unfold W at *
      exact Nat.lt_of_le_of_lt this h9
    · rw [run_pos hf _ _ hn rfl rfl rfl]
      rcases c with c | ⟨c1, c2⟩
      · simp [evSs, evS, evE, evEs, evI, evIf, evEo, evOr, evAnd, start, startI, getS, getO, seqF_t, seqF_l, seqF_s, atD, L2.atI, L2.ixN, optO, Out.bind, Out.st, SO.out, SO.outI, SO.seq, SO.turn, binO, cmp_lt, cmp_le, cmp_gt, cmp_ge, cmp_eqI, cmp_neI, cmp_eqT, cmp_neT, cmp_eqL, cmp_neL, cmp_eqS, cmp_neS, cmp_eqB, cmp_neB, cmp_eqN, cmp_neN, cmp_eqR, cmp_neR, cmp_is, cmp_isN, isN_n, isN_t, isN_R, isN_i, grd, Px.cn, biO, biSum, biAbs, biInt, intsOf, lcRun, lcGo, lcStep, lcK, rangeD, okR, asg, setAll, noEx, wipeR, noLam, ifK, frGo, mapB, List.range, List.range.loop, PI.ixO, biTuple, seqOf, fdRoll, evBl, evOr, evAnd, dD, c, h0, hd, ixN']
      · simp [evSs, evS, evE, evEs, evI, evIf, evEo, evOr, evAnd, start, startI, getS, getO, seqF_t, seqF_l, seqF_s, atD, L2.atI, L2.ixN, optO, Out.bind, Out.st, SO.out, SO.outI, SO.seq, SO.turn, binO, cmp_lt, cmp_le, cmp_gt, cmp_ge, cmp_eqI, cmp_neI, cmp_eqT, cmp_neT, cmp_eqL, cmp_neL, cmp_eqS, cmp_neS, cmp_eqB, cmp_neB, cmp_eqN, cmp_neN, cmp_eqR, cmp_neR, cmp_is, cmp_isN, isN_n, isN_t, isN_R, isN_i, grd, Px.cn, biO, biSum, biAbs, biInt, intsOf, lcRun, lcGo, lcStep, lcK, rangeD, okR, asg, setAll, noEx, wipeR, noLam, ifK, frGo, mapB, List.range, List.range.loop, PI.ixO, biTuple, seqOf, fdRoll, evBl, evOr, evAnd, dD, c1, c2, h0, hd, ixN']
  · have w1 : mulB s.a 48271 = true := hs.a.mulB (W_small (k := 30) (by decide) (by omega)) (by omega)
    have w2 : mulB s.b 69621 = true := by
      have : W 30 s.b := W_small (by have := hs.b; omega) (by omega)
      exact this.mulB (W_small (k := 30) (by decide) (by omega)) (by omega)
    have d7 : divB 7 = true := by decide
    refine ⟨(((s.a * 48271 + s.b * 69621 + 11).fmod 2147483647).fdiv 7).fmod many, ⟨(s.a * 48271 + s.b * 69621 + 11).fmod 2147483647, s.b + 1, 0⟩, (hm _ (by omega)).1, (hm _ (by omega)).2, ⟨?_, by have := hs.b; show (s.b + 1).natAbs ≤ k + 1; omega⟩, fun n hn => ?_⟩
    · have := hm (s.a * 48271 + s.b * 69621 + 11) (b := 2147483647) (by decide)
      exact W.mono (a := 31) (by unfold W; show Int.natAbs ((s.a * 48271 + s.b * 69621 + 11).fmod 2147483647) < 2 ^ 31; omega) (by omega)
    · rw [run_pos hf _ _ hn rfl rfl rfl]
      have c0 : s.m ≠ 2 := fun z => c (.inl z)
      by_cases c1 : s.m = 1
      · have c2 : ¬ (0 < s.a) := fun z => c (.inr ⟨c1, z⟩)
        simp [evSs, evS, evE, evEs, evI, evIf, evEo, evOr, evAnd, start, startI, getS, getO, seqF_t, seqF_l, seqF_s, atD, L2.atI, L2.ixN, optO, Out.bind, Out.st, SO.out, SO.outI, SO.seq, SO.turn, binO, cmp_lt, cmp_le, cmp_gt, cmp_ge, cmp_eqI, cmp_neI, cmp_eqT, cmp_neT, cmp_eqL, cmp_neL, cmp_eqS, cmp_neS, cmp_eqB, cmp_neB, cmp_eqN, cmp_neN, cmp_eqR, cmp_neR, cmp_is, cmp_isN, isN_n, isN_t, isN_R, isN_i, grd, Px.cn, biO, biSum, biAbs, biInt, intsOf, lcRun, lcGo, lcStep, lcK, rangeD, okR, asg, setAll, noEx, wipeR, noLam, ifK, frGo, mapB, List.range, List.range.loop, PI.ixO, biTuple, seqOf, fdRoll, evBl, evOr, evAnd, dD, c0, c1, c2, h0, h3, hd, ixN', w1, w2, d7]
      · simp [evSs, evS, evE, evEs, evI, evIf, evEo, evOr, evAnd, start, startI, getS, getO, seqF_t, seqF_l, seqF_s, atD, L2.atI, L2.ixN, optO, Out.bind, Out.st, SO.out, SO.outI, SO.seq, SO.turn, binO, cmp_lt, cmp_le, cmp_gt, cmp_ge, cmp_eqI, cmp_neI, cmp_eqT, cmp_neT, cmp_eqL, cmp_neL, cmp_eqS, cmp_neS, cmp_eqB, cmp_neB, cmp_eqN, cmp_neN, cmp_eqR, cmp_neR, cmp_is, cmp_isN, isN_n, isN_t, isN_R, isN_i, grd, Px.cn, biO, biSum, biAbs, biInt, intsOf, lcRun, lcGo, lcStep, lcK, rangeD, okR, asg, setAll, noEx, wipeR, noLam, ifK, frGo, mapB, List.range, List.range.loop, PI.ixO, biTuple, seqOf, fdRoll, evBl, evOr, evAnd, dD, c0, c1, h0, h3, hd, ixN', w1, w2, d7]
end PI
set_option Elab.async false
set_option linter.all false
set_option maxRecDepth 100000
set_option maxHeartbeats 4000000
/-! QF: ways (three whole numbers). -/
namespace PI
open PySem L2
structure V3 where
  x : Int
  y : Int
  z : Int
deriving DecidableEq
theorem V3.ext {u v : V3} (h1 : u.x = v.x) (h2 : u.y = v.y) (h3 : u.z = v.z) : u = v := by
  cases u; cases v; simp_all
def vD (v : V3) : D := .tup [.int v.x, .int v.y, .int v.z]
def V3.add (u v : V3) : V3 := ⟨u.x + v.x, u.y + v.y, u.z + v.z⟩
def V3.sub (u v : V3) : V3 := ⟨u.x - v.x, u.y - v.y, u.z - v.z⟩
def V3.smul (u : V3) (t : Int) : V3 := ⟨u.x * t, u.y * t, u.z * t⟩
def V3.dot (u v : V3) : Int := u.x * v.x + u.y * v.y + u.z * v.z
def V3.cross (u v : V3) : V3 := ⟨u.y * v.z - u.z * v.y, u.z * v.x - u.x * v.z, u.x * v.y - u.y * v.x⟩
abbrev V3.o : V3 := ⟨0, 0, 0⟩
structure Vw (k : Nat) (v : V3) : Prop where
  x : W k v.x
  y : W k v.y
  z : W k v.z
theorem Vw.mono {k l : Nat} {v : V3} (h : Vw k v) (hk : k ≤ l) : Vw l v := ⟨h.x.mono hk, h.y.mono hk, h.z.mono hk⟩
theorem Vw.add {a b : Nat} {u v : V3} (h : Vw a u) (h' : Vw b v) : Vw (max a b + 1) (u.add v) := ⟨h.x.add h'.x, h.y.add h'.y, h.z.add h'.z⟩
theorem Vw.sub {a b : Nat} {u v : V3} (h : Vw a u) (h' : Vw b v) : Vw (max a b + 1) (u.sub v) := ⟨h.x.sub h'.x, h.y.sub h'.y, h.z.sub h'.z⟩
theorem Vw.smul {a b : Nat} {u : V3} {t : Int} (h : Vw a u) (h' : W b t) : Vw (a + b) (u.smul t) := ⟨h.x.mul h', h.y.mul h', h.z.mul h'⟩
theorem Vw.dot {a b : Nat} {u v : V3} (h : Vw a u) (h' : Vw b v) : W (a + b + 2) (u.dot v) := ((h.x.mul h'.x).add (h.y.mul h'.y) |>.add (h.z.mul h'.z)).mono (by omega)
theorem Vw.cross {a b : Nat} {u v : V3} (h : Vw a u) (h' : Vw b v) : Vw (a + b + 1) (u.cross v) := by
  refine ⟨((h.y.mul h'.z).sub (h.z.mul h'.y)).mono (by omega), ((h.z.mul h'.x).sub (h.x.mul h'.z)).mono (by omega), ((h.x.mul h'.y).sub (h.y.mul h'.x)).mono (by omega)⟩
theorem dot_pos {v : V3} (h : v ≠ V3.o) : 0 < v.dot v := by
  have h1 : ∀ i : Int, 0 ≤ i * i := fun i => by
    rcases Int.le_total 0 i with q | q
    · exact Int.mul_nonneg q q
    · have := Int.mul_nonneg (show 0 ≤ -i by omega) (show 0 ≤ -i by omega)
      rwa [Int.neg_mul_neg] at this
  have h2 : ∀ i : Int, i ≠ 0 → 0 < i * i := fun i hi => by
    have := h1 i
    have h3 : i * i ≠ 0 := Int.mul_ne_zero hi hi
    omega
  have a := h1 v.x
  have b := h1 v.y
  have c := h1 v.z
  unfold V3.dot
  by_cases hx : v.x = 0
  · by_cases hy : v.y = 0
    · by_cases hz : v.z = 0
      · exact absurd (V3.ext hx hy hz) h
      · have := h2 _ hz; omega
    · have := h2 _ hy; omega
  · have := h2 _ hx; omega
/-! ### looks into data -/
section
variable {M : Store} {v u : V3} {q : Rat} {ds : List D} {i : Int}
theorem tup3 {a b c : Int} : D.tup [.int a, .int b, .int c] = vD ⟨a, b, c⟩ := rfl
theorem ixV0 : PI.ixO M (vD v) (.int 0) = some (.int v.x) := rfl
theorem ixV1 : PI.ixO M (vD v) (.int 1) = some (.int v.y) := rfl
theorem ixV2 : PI.ixO M (vD v) (.int 2) = some (.int v.z) := rfl
theorem ixVa : PI.ixO M (vD v) (.int (-1)) = some (.int v.z) := rfl
theorem ixVb : PI.ixO M (vD v) (.int (-2)) = some (.int v.y) := rfl
theorem ixR0 : PI.ixO M (R q) (.int 0) = some (.int q.num) := rfl
theorem ixR1 : PI.ixO M (R q) (.int 1) = some (.int q.den) := rfl
theorem ixT : PI.ixO M (.tup ds) (.int i) = atD ds i := rfl
theorem ixL : PI.ixO M (.lst ds) (.int i) = atD ds i := rfl
theorem btV : biTuple M [vD v] = some (vD v) := rfl
theorem btL : biTuple M [.lst ds] = some (.tup ds) := rfl
theorem sqV : seqF (vD v) = some [.int v.x, .int v.y, .int v.z] := rfl
theorem zpV : zipO (vD u) (vD v) = some [.tup [.int u.x, .int v.x], .tup [.int u.y, .int v.y], .tup [.int u.z, .int v.z]] := rfl
end
/-! ### == -/
mutual
def D.pl : D → Bool
  | .non => true
  | .int _ => true
  | .tup ds => D.pls ds
  | _ => false
def D.pls : List D → Bool
  | [] => true
  | d :: ds => D.pl d && D.pls ds
end
mutual
theorem eqv_pl : ∀ {x y : D}, x.pl = true → y.pl = true → (PyData.eqv x.py y.py = true ↔ x = y)
  | .non, y, _, hy => by
    cases y <;> simp_all [D.pl, D.py, PyData.eqv]
  | .int i, y, _, hy => by
    cases y <;> simp_all [D.pl, D.py, PyData.eqv]
  | .tup ds, y, hx, hy => by
    cases y with
    | tup es => simp only [D.py, PyData.eqv, D.tup.injEq]; exact eqv_pls (by simpa [D.pl] using hx) (by simpa [D.pl] using hy)
    | _ => simp_all [D.pl, D.py, PyData.eqv]
  | .bl _, _, hx, _ => by cases hx
  | .str _, _, hx, _ => by cases hx
  | .lst _, _, hx, _ => by cases hx
  | .seq _, _, hx, _ => by cases hx
  | .ref _, _, hx, _ => by cases hx
  | .obj _ _ _, _, hx, _ => by cases hx
  | .dct _ _, _, hx, _ => by cases hx
theorem eqv_pls : ∀ {xs ys : List D}, D.pls xs = true → D.pls ys = true → (PyData.eqvAll (D.pys xs) (D.pys ys) = true ↔ xs = ys)
  | [], [], _, _ => by simp [D.pys, PyData.eqvAll]
  | [], _ :: _, _, _ => by simp [D.pys, PyData.eqvAll]
  | _ :: _, [], _, _ => by simp [D.pys, PyData.eqvAll]
  | x :: xs, y :: ys, hx, hy => by
    simp only [D.pls, Bool.and_eq_true] at hx hy
    simp only [D.pys, PyData.eqvAll, Bool.and_eq_true, List.cons.injEq]
    rw [eqv_pl hx.1 hy.1, eqv_pls hx.2 hy.2]
end
open Classical in
theorem eqO_pl {x y : D} (hx : (D.sh 40 x && x.pl) = true) (hy : (D.sh 40 y && y.pl) = true) : eqO x y = some (decide (x = y)) := by
  obtain ⟨h1, h2⟩ := Bool.and_eq_true_iff.mp hx
  obtain ⟨h3, h4⟩ := Bool.and_eq_true_iff.mp hy
  unfold eqO
  rw [h1, h3]
  simp only [Bool.and_self, if_true]
  congr 1
  rw [Bool.eq_iff_iff, decide_eq_true_iff]
  exact eqv_pl h2 h4
theorem vD_inj {u v : V3} : vD u = vD v ↔ u = v := by
  constructor
  · intro h
    simp only [vD, D.tup.injEq, List.cons.injEq, D.int.injEq] at h
    exact V3.ext h.1 h.2.1 h.2.2.1
  · rintro rfl; rfl
theorem cmp_eqV (M : Store) (u : V3) (y : D) : cmpO M .eq (vD u) y = mapB id (eqO (vD u) y) := rfl
theorem cmp_neV (M : Store) (u : V3) (y : D) : cmpO M .ne (vD u) y = mapB not (eqO (vD u) y) := rfl
theorem isN_V (v : V3) : D.isN (vD v) = false := rfl
theorem eqO_V (u v : V3) : eqO (vD u) (vD v) = some (decide (u = v)) := by
  rw [eqO_pl rfl rfl]; simp [vD_inj]
theorem eqO_R (p q : Rat) : eqO (R p) (R q) = some (decide (p = q)) := by
  rw [eqO_pl rfl rfl]; simp [R_inj]
theorem eqO_nn : eqO .non .non = some true := rfl
theorem eqO_nR (q : Rat) : eqO .non (R q) = some false := rfl
theorem eqO_Rn (q : Rat) : eqO (R q) .non = some false := rfl
theorem eqO_nV (q : V3) : eqO .non (vD q) = some false := rfl
theorem eqO_bb (a b : Bool) : eqO (.bl a) (.bl b) = some (a == b) := rfl
theorem eqO_l0 : eqO (.lst []) (.lst []) = some true := rfl
theorem eqO_l1 (d : D) (ds : List D) : eqO (.lst (d :: ds)) (.lst []) = some false := by
  unfold eqO
  split
  · rfl
  · rfl
theorem eqO_isE (ds : List D) : eqO (.lst ds) (.lst []) = some ds.isEmpty := by
  cases ds with
  | nil => rfl
  | cons d ds => exact eqO_l1 d ds
def fdPlus : Fd := ⟨2, 2, 0, .cons (.ret (.tup (.cons (.bin .add (.ix (.v 0) (.int 0)) (.ix (.v 1) (.int 0))) (.cons (.bin .add (.ix (.v 0) (.int 1)) (.ix (.v 1) (.int 1))) (.cons (.bin .add (.ix (.v 0) (.int 2)) (.ix (.v 1) (.int 2))) .nil))))) .nil, none⟩
def fdMinus : Fd := ⟨2, 2, 0, .cons (.ret (.tup (.cons (.bin .sub (.ix (.v 0) (.int 0)) (.ix (.v 1) (.int 0))) (.cons (.bin .sub (.ix (.v 0) (.int 1)) (.ix (.v 1) (.int 1))) (.cons (.bin .sub (.ix (.v 0) (.int 2)) (.ix (.v 1) (.int 2))) .nil))))) .nil, none⟩
def fdStretched : Fd := ⟨2, 2, 0, .cons (.ret (.tup (.cons (.bin .mul (.ix (.v 0) (.int 0)) (.v 1)) (.cons (.bin .mul (.ix (.v 0) (.int 1)) (.v 1)) (.cons (.bin .mul (.ix (.v 0) (.int 2)) (.v 1)) .nil))))) .nil, none⟩
def fdAlong : Fd := ⟨2, 2, 0, .cons (.ret (.bin .add (.bin .add (.bin .mul (.ix (.v 0) (.int 0)) (.ix (.v 1) (.int 0))) (.bin .mul (.ix (.v 0) (.int 1)) (.ix (.v 1) (.int 1)))) (.bin .mul (.ix (.v 0) (.int 2)) (.ix (.v 1) (.int 2))))) .nil, none⟩
def fdAcross : Fd := ⟨2, 3, 0, .cons (.set 2 (.bin .sub (.bin .mul (.ix (.v 0) (.int 1)) (.ix (.v 1) (.int 2))) (.bin .mul (.ix (.v 0) (.int 2)) (.ix (.v 1) (.int 1))))) (.cons (.ret (.tup (.cons (.v 2) (.cons (.bin .sub (.bin .mul (.ix (.v 0) (.int 2)) (.ix (.v 1) (.int 0))) (.bin .mul (.ix (.v 0) (.int 0)) (.ix (.v 1) (.int 2)))) (.cons (.bin .sub (.bin .mul (.ix (.v 0) (.int 0)) (.ix (.v 1) (.int 1))) (.bin .mul (.ix (.v 0) (.int 1)) (.ix (.v 1) (.int 0)))) .nil))))) .nil), none⟩
def fdSquare (s : Nat) : Fd := ⟨1, 1, 0, .cons (.ret (.call s (.cons (.v 0) (.cons (.v 0) .nil)))) .nil, none⟩
def fdOrder : Fd := ⟨2, 4, 0, .cons (.par 2 3 (.bin .mul (.ix (.v 0) (.int 0)) (.ix (.v 1) (.int 1))) (.bin .mul (.ix (.v 1) (.int 0)) (.ix (.v 0) (.int 1)))) (.cons (.ret (.bin .sub (.cmp .gt (.v 2) (.v 3)) (.cmp .lt (.v 2) (.v 3)))) .nil), none⟩
def fdLess : Fd := ⟨2, 2, 0, .cons (.ret (.cmp .lt (.bin .mul (.ix (.v 0) (.int 0)) (.ix (.v 1) (.int 1))) (.bin .mul (.ix (.v 1) (.int 0)) (.ix (.v 0) (.int 1))))) .nil, none⟩
def fdDot : Fd := ⟨2, 3, 0, .cons (.ret (.bi .sum (.cons (.lc [2] (.nm 2) (.range1 (.int 3)) (.bin .mul (.ix (.v 0) (.v 2)) (.ix (.v 1) (.v 2))) .no) .nil))) .nil, none⟩
def fdCross : Fd := ⟨2, 3, 0, .cons (.ret (.bi .tuple (.cons (.lc [2] (.nm 2) (.range1 (.int 3)) (.bin .sub (.bin .mul (.ix (.v 0) (.bin .sub (.v 2) (.int 2))) (.ix (.v 1) (.bin .sub (.v 2) (.int 1)))) (.bin .mul (.ix (.v 0) (.bin .sub (.v 2) (.int 1))) (.ix (.v 1) (.bin .sub (.v 2) (.int 2))))) .no) .nil))) .nil, none⟩
def fdFrom : Fd := ⟨2, 3, 0, .cons (.ret (.bi .tuple (.cons (.lc [2] (.nm 2) (.range1 (.int 3)) (.bin .sub (.ix (.v 0) (.v 2)) (.ix (.v 1) (.v 2))) .no) .nil))) .nil, none⟩
def fdWay (s : Nat) : Fd := ⟨2, 3, 0, .cons (.ret (.bi .tuple (.cons (.lc [2] (.nm 2) (.range1 (.int 3)) (.bin .sub (.call s (.cons (.v 0) (.cons (.bin .add (.bin .mul (.int 2) (.v 1)) (.int 1)) .nil))) (.v 1)) .no) .nil))) .nil, none⟩
def fdSome (s : Nat) : Fd := ⟨2, 3, 0, .cons (.set 2 (.call s (.cons (.v 0) (.cons (.v 1) .nil)))) (.cons (.ret (.ite (.cmp .ne (.v 2) (.tup (.cons (.int 0) (.cons (.int 0) (.cons (.int 0) .nil))))) (.v 2) (.tup (.cons (.int 1) (.cons (.int 0) (.cons (.int 0) .nil)))))) .nil), none⟩
section
variable {p : Px} {f s : Nat} {n : Nat} {M : Store} {u v : V3} {a b : Nat} {t : Int}
theorem run_plus (hf : p.fs f = some fdPlus) (hn : 1 ≤ n) : runs p n 0 f [vD u, vD v] M = .ok (vD (u.add v)) M := by
  rw [run_pos hf _ _ hn rfl rfl rfl]
  simp [evSs, evS, evE, evEs, evI, evIf, evEo, evOr, evAnd, start, startI, getS, getO, seqF_t, seqF_l, seqF_s, atD, L2.atI, L2.ixN, optO, Out.bind, Out.st, SO.out, SO.outI, SO.seq, SO.turn, binO, cmp_lt, cmp_le, cmp_gt, cmp_ge, cmp_eqI, cmp_neI, cmp_eqT, cmp_neT, cmp_eqL, cmp_neL, cmp_eqS, cmp_neS, cmp_eqB, cmp_neB, cmp_eqN, cmp_neN, cmp_eqR, cmp_neR, cmp_is, cmp_isN, isN_n, isN_t, isN_R, isN_i, grd, Px.cn, biO, biSum, biAbs, biInt, intsOf, lcRun, lcGo, lcStep, lcK, rangeD, okR, asg, setAll, noEx, wipeR, noLam, ifK, frGo, mapB, List.range, List.range.loop, fdPlus, ixV0, ixV1, ixV2, tup3, V3.add]
theorem run_minus (hf : p.fs f = some fdMinus) (hn : 1 ≤ n) : runs p n 0 f [vD u, vD v] M = .ok (vD (u.sub v)) M := by
  rw [run_pos hf _ _ hn rfl rfl rfl]
  simp [evSs, evS, evE, evEs, evI, evIf, evEo, evOr, evAnd, start, startI, getS, getO, seqF_t, seqF_l, seqF_s, atD, L2.atI, L2.ixN, optO, Out.bind, Out.st, SO.out, SO.outI, SO.seq, SO.turn, binO, cmp_lt, cmp_le, cmp_gt, cmp_ge, cmp_eqI, cmp_neI, cmp_eqT, cmp_neT, cmp_eqL, cmp_neL, cmp_eqS, cmp_neS, cmp_eqB, cmp_neB, cmp_eqN, cmp_neN, cmp_eqR, cmp_neR, cmp_is, cmp_isN, isN_n, isN_t, isN_R, isN_i, grd, Px.cn, biO, biSum, biAbs, biInt, intsOf, lcRun, lcGo, lcStep, lcK, rangeD, okR, asg, setAll, noEx, wipeR, noLam, ifK, frGo, mapB, List.range, List.range.loop, fdMinus, ixV0, ixV1, ixV2, tup3, V3.sub]
theorem run_stretched (hf : p.fs f = some fdStretched) (hn : 1 ≤ n) (hu : Vw a u) (ht : W b t) (hab : a + b < 100000000) : runs p n 0 f [vD u, .int t] M = .ok (vD (u.smul t)) M := by
  rw [run_pos hf _ _ hn rfl rfl rfl]
  simp [evSs, evS, evE, evEs, evI, evIf, evEo, evOr, evAnd, start, startI, getS, getO, seqF_t, seqF_l, seqF_s, atD, L2.atI, L2.ixN, optO, Out.bind, Out.st, SO.out, SO.outI, SO.seq, SO.turn, binO, cmp_lt, cmp_le, cmp_gt, cmp_ge, cmp_eqI, cmp_neI, cmp_eqT, cmp_neT, cmp_eqL, cmp_neL, cmp_eqS, cmp_neS, cmp_eqB, cmp_neB, cmp_eqN, cmp_neN, cmp_eqR, cmp_neR, cmp_is, cmp_isN, isN_n, isN_t, isN_R, isN_i, grd, Px.cn, biO, biSum, biAbs, biInt, intsOf, lcRun, lcGo, lcStep, lcK, rangeD, okR, asg, setAll, noEx, wipeR, noLam, ifK, frGo, mapB, List.range, List.range.loop, fdStretched, ixV0, ixV1, ixV2, tup3, V3.smul, hu.x.mulB ht hab, hu.y.mulB ht hab, hu.z.mulB ht hab]
theorem run_along (hf : p.fs f = some fdAlong) (hn : 1 ≤ n) (hu : Vw a u) (hv : Vw b v) (hab : a + b < 100000000) : runs p n 0 f [vD u, vD v] M = .ok (.int (u.dot v)) M := by
  rw [run_pos hf _ _ hn rfl rfl rfl]
  simp [evSs, evS, evE, evEs, evI, evIf, evEo, evOr, evAnd, start, startI, getS, getO, seqF_t, seqF_l, seqF_s, atD, L2.atI, L2.ixN, optO, Out.bind, Out.st, SO.out, SO.outI, SO.seq, SO.turn, binO, cmp_lt, cmp_le, cmp_gt, cmp_ge, cmp_eqI, cmp_neI, cmp_eqT, cmp_neT, cmp_eqL, cmp_neL, cmp_eqS, cmp_neS, cmp_eqB, cmp_neB, cmp_eqN, cmp_neN, cmp_eqR, cmp_neR, cmp_is, cmp_isN, isN_n, isN_t, isN_R, isN_i, grd, Px.cn, biO, biSum, biAbs, biInt, intsOf, lcRun, lcGo, lcStep, lcK, rangeD, okR, asg, setAll, noEx, wipeR, noLam, ifK, frGo, mapB, List.range, List.range.loop, fdAlong, ixV0, ixV1, ixV2, tup3, V3.dot, hu.x.mulB hv.x hab, hu.y.mulB hv.y hab, hu.z.mulB hv.z hab]
theorem run_across (hf : p.fs f = some fdAcross) (hn : 1 ≤ n) (hu : Vw a u) (hv : Vw b v) (hab : a + b < 100000000) : runs p n 0 f [vD u, vD v] M = .ok (vD (u.cross v)) M := by
  rw [run_pos hf _ _ hn rfl rfl rfl]
  simp [evSs, evS, evE, evEs, evI, evIf, evEo, evOr, evAnd, start, startI, getS, getO, seqF_t, seqF_l, seqF_s, atD, L2.atI, L2.ixN, optO, Out.bind, Out.st, SO.out, SO.outI, SO.seq, SO.turn, binO, cmp_lt, cmp_le, cmp_gt, cmp_ge, cmp_eqI, cmp_neI, cmp_eqT, cmp_neT, cmp_eqL, cmp_neL, cmp_eqS, cmp_neS, cmp_eqB, cmp_neB, cmp_eqN, cmp_neN, cmp_eqR, cmp_neR, cmp_is, cmp_isN, isN_n, isN_t, isN_R, isN_i, grd, Px.cn, biO, biSum, biAbs, biInt, intsOf, lcRun, lcGo, lcStep, lcK, rangeD, okR, asg, setAll, noEx, wipeR, noLam, ifK, frGo, mapB, List.range, List.range.loop, fdAcross, ixV0, ixV1, ixV2, tup3, V3.cross, hu.x.mulB hv.y hab, hu.x.mulB hv.z hab, hu.y.mulB hv.x hab, hu.y.mulB hv.z hab, hu.z.mulB hv.x hab, hu.z.mulB hv.y hab]
theorem run_square (hf : p.fs f = some (fdSquare s)) (hs : p.fs s = some fdAlong) (hn : 2 ≤ n) (hu : Vw a u) (hab : a + a < 100000000) : runs p n 0 f [vD u] M = .ok (.int (u.dot u)) M := by
  rw [run_pos hf _ _ (by omega) rfl rfl rfl]
  have e := fun M => run_along (n := n - 1) (M := M) hs (by omega) hu hu hab
  simp [evSs, evS, evE, evEs, evI, evIf, evEo, evOr, evAnd, start, startI, getS, getO, seqF_t, seqF_l, seqF_s, atD, L2.atI, L2.ixN, optO, Out.bind, Out.st, SO.out, SO.outI, SO.seq, SO.turn, binO, cmp_lt, cmp_le, cmp_gt, cmp_ge, cmp_eqI, cmp_neI, cmp_eqT, cmp_neT, cmp_eqL, cmp_neL, cmp_eqS, cmp_neS, cmp_eqB, cmp_neB, cmp_eqN, cmp_neN, cmp_eqR, cmp_neR, cmp_is, cmp_isN, isN_n, isN_t, isN_R, isN_i, grd, Px.cn, biO, biSum, biAbs, biInt, intsOf, lcRun, lcGo, lcStep, lcK, rangeD, okR, asg, setAll, noEx, wipeR, noLam, ifK, frGo, mapB, List.range, List.range.loop, fdSquare, e]
theorem run_dot (hf : p.fs f = some fdDot) (hn : 1 ≤ n) (hu : Vw a u) (hv : Vw b v) (hab : a + b < 100000000) : runs p n 0 f [vD u, vD v] M = .ok (.int (u.dot v)) M := by
  rw [run_pos hf _ _ hn rfl rfl rfl]
  simp [evSs, evS, evE, evEs, evI, evIf, evEo, evOr, evAnd, start, startI, getS, getO, seqF_t, seqF_l, seqF_s, atD, L2.atI, L2.ixN, optO, Out.bind, Out.st, SO.out, SO.outI, SO.seq, SO.turn, binO, cmp_lt, cmp_le, cmp_gt, cmp_ge, cmp_eqI, cmp_neI, cmp_eqT, cmp_neT, cmp_eqL, cmp_neL, cmp_eqS, cmp_neS, cmp_eqB, cmp_neB, cmp_eqN, cmp_neN, cmp_eqR, cmp_neR, cmp_is, cmp_isN, isN_n, isN_t, isN_R, isN_i, grd, Px.cn, biO, biSum, biAbs, biInt, intsOf, lcRun, lcGo, lcStep, lcK, rangeD, okR, asg, setAll, noEx, wipeR, noLam, ifK, frGo, mapB, List.range, List.range.loop, fdDot, ixV0, ixV1, ixV2, tup3, V3.dot, hu.x.mulB hv.x hab, hu.y.mulB hv.y hab, hu.z.mulB hv.z hab, Int.add_assoc]
theorem run_cross (hf : p.fs f = some fdCross) (hn : 1 ≤ n) (hu : Vw a u) (hv : Vw b v) (hab : a + b < 100000000) : runs p n 0 f [vD u, vD v] M = .ok (vD (u.cross v)) M := by
  rw [run_pos hf _ _ hn rfl rfl rfl]
  simp [evSs, evS, evE, evEs, evI, evIf, evEo, evOr, evAnd, start, startI, getS, getO, seqF_t, seqF_l, seqF_s, atD, L2.atI, L2.ixN, optO, Out.bind, Out.st, SO.out, SO.outI, SO.seq, SO.turn, binO, cmp_lt, cmp_le, cmp_gt, cmp_ge, cmp_eqI, cmp_neI, cmp_eqT, cmp_neT, cmp_eqL, cmp_neL, cmp_eqS, cmp_neS, cmp_eqB, cmp_neB, cmp_eqN, cmp_neN, cmp_eqR, cmp_neR, cmp_is, cmp_isN, isN_n, isN_t, isN_R, isN_i, grd, Px.cn, biO, biSum, biAbs, biInt, intsOf, lcRun, lcGo, lcStep, lcK, rangeD, okR, asg, setAll, noEx, wipeR, noLam, ifK, frGo, mapB, List.range, List.range.loop, fdCross, ixV0, ixV1, ixV2, ixVa, ixVb, btL, tup3, V3.cross, hu.x.mulB hv.y hab, hu.x.mulB hv.z hab, hu.y.mulB hv.x hab, hu.y.mulB hv.z hab, hu.z.mulB hv.x hab, hu.z.mulB hv.y hab]
theorem run_from (hf : p.fs f = some fdFrom) (hn : 1 ≤ n) : runs p n 0 f [vD u, vD v] M = .ok (vD (u.sub v)) M := by
  rw [run_pos hf _ _ hn rfl rfl rfl]
  simp [evSs, evS, evE, evEs, evI, evIf, evEo, evOr, evAnd, start, startI, getS, getO, seqF_t, seqF_l, seqF_s, atD, L2.atI, L2.ixN, optO, Out.bind, Out.st, SO.out, SO.outI, SO.seq, SO.turn, binO, cmp_lt, cmp_le, cmp_gt, cmp_ge, cmp_eqI, cmp_neI, cmp_eqT, cmp_neT, cmp_eqL, cmp_neL, cmp_eqS, cmp_neS, cmp_eqB, cmp_neB, cmp_eqN, cmp_neN, cmp_eqR, cmp_neR, cmp_is, cmp_isN, isN_n, isN_t, isN_R, isN_i, grd, Px.cn, biO, biSum, biAbs, biInt, intsOf, lcRun, lcGo, lcStep, lcK, rangeD, okR, asg, setAll, noEx, wipeR, noLam, ifK, frGo, mapB, List.range, List.range.loop, fdFrom, ixV0, ixV1, ixV2, btL, tup3, V3.sub]
/-- an order's sign -/
def sgnD (i : Int) : Int := bI (decide (0 < i)) - bI (decide (i < 0))
theorem run_less (hf : p.fs f = some fdLess) (hn : 1 ≤ n) {x y : Rat} {j : Nat} (hx : Qs j x) (hy : Qs j y) (hj : j ≤ 4000) : runs p n 0 f [R x, R y] M = .ok (.bl (decide (x < y))) M := by
  rw [run_pos hf _ _ hn rfl rfl rfl]
  simp [evSs, evS, evE, evEs, evI, evIf, evEo, evOr, evAnd, start, startI, getS, getO, seqF_t, seqF_l, seqF_s, atD, L2.atI, L2.ixN, optO, Out.bind, Out.st, SO.out, SO.outI, SO.seq, SO.turn, binO, cmp_lt, cmp_le, cmp_gt, cmp_ge, cmp_eqI, cmp_neI, cmp_eqT, cmp_neT, cmp_eqL, cmp_neL, cmp_eqS, cmp_neS, cmp_eqB, cmp_neB, cmp_eqN, cmp_neN, cmp_eqR, cmp_neR, cmp_is, cmp_isN, isN_n, isN_t, isN_R, isN_i, grd, Px.cn, biO, biSum, biAbs, biInt, intsOf, lcRun, lcGo, lcStep, lcK, rangeD, okR, asg, setAll, noEx, wipeR, noLam, ifK, frGo, mapB, List.range, List.range.loop, fdLess, ixR0, ixR1, hx.w.mulB hy.d (by omega), hy.w.mulB hx.d (by omega), Rat.lt_iff]
theorem run_order (hf : p.fs f = some fdOrder) (hn : 1 ≤ n) {x y : Rat} {j : Nat} (hx : Qs j x) (hy : Qs j y) (hj : j ≤ 4000) : runs p n 0 f [R x, R y] M = .ok (.int (bI (decide (y < x)) - bI (decide (x < y)))) M := by
  rw [run_pos hf _ _ hn rfl rfl rfl]
  simp [evSs, evS, evE, evEs, evI, evIf, evEo, evOr, evAnd, start, startI, getS, getO, seqF_t, seqF_l, seqF_s, atD, L2.atI, L2.ixN, optO, Out.bind, Out.st, SO.out, SO.outI, SO.seq, SO.turn, binO, cmp_lt, cmp_le, cmp_gt, cmp_ge, cmp_eqI, cmp_neI, cmp_eqT, cmp_neT, cmp_eqL, cmp_neL, cmp_eqS, cmp_neS, cmp_eqB, cmp_neB, cmp_eqN, cmp_neN, cmp_eqR, cmp_neR, cmp_is, cmp_isN, isN_n, isN_t, isN_R, isN_i, grd, Px.cn, biO, biSum, biAbs, biInt, intsOf, lcRun, lcGo, lcStep, lcK, rangeD, okR, asg, setAll, noEx, wipeR, noLam, ifK, frGo, mapB, List.range, List.range.loop, fdOrder, ixR0, ixR1, hx.w.mulB hy.d (by omega), hy.w.mulB hx.d (by omega), Rat.lt_iff]
/-! ### drawn ways -/
theorem way_ok {k : Nat} {d : Dice} (hf : p.fs f = some (fdWay s)) (hs : p.fs s = some (fdRoll s)) (hd : DiceOk k d) (hk : k ≤ 900000) (t : Int) (h1 : 0 ≤ t) (h2 : t ≤ 1000) : ∃ v d', (v.x.natAbs ≤ t.toNat ∧ v.y.natAbs ≤ t.toNat ∧ v.z.natAbs ≤ t.toNat) ∧ DiceOk (k + 3) d' ∧ ∀ n, 2 ≤ n → runs p n 0 f [.ref 0, .int t] [dD d] = .ok (vD v) [dD d'] := by
  obtain ⟨r1, d1, a1, b1, c1, e1⟩ := roll_ok hs hd (by omega) (2 * t + 1) (by omega) (by omega)
  obtain ⟨r2, d2, a2, b2, c2, e2⟩ := roll_ok hs c1 (by omega) (2 * t + 1) (by omega) (by omega)
  obtain ⟨r3, d3, a3, b3, c3, e3⟩ := roll_ok hs c2 (by omega) (2 * t + 1) (by omega) (by omega)
  refine ⟨⟨r1 - t, r2 - t, r3 - t⟩, d3, ⟨by dsimp only; omega, by dsimp only; omega, by dsimp only; omega⟩, c3, fun n hn => ?_⟩
  rw [run_pos hf _ _ (by omega) rfl rfl rfl]
  have e1 := e1 (n - 1) (by omega)
  have e2 := e2 (n - 1) (by omega)
  have e3 := e3 (n - 1) (by omega)
  have m : mulB 2 t = true := (W_small (i := 2) (k := 30) (by decide) (by omega)).mulB (W_small (i := t) (k := 30) (by omega) (by omega)) (by omega)
  simp [evSs, evS, evE, evEs, evI, evIf, evEo, evOr, evAnd, start, startI, getS, getO, seqF_t, seqF_l, seqF_s, atD, L2.atI, L2.ixN, optO, Out.bind, Out.st, SO.out, SO.outI, SO.seq, SO.turn, binO, cmp_lt, cmp_le, cmp_gt, cmp_ge, cmp_eqI, cmp_neI, cmp_eqT, cmp_neT, cmp_eqL, cmp_neL, cmp_eqS, cmp_neS, cmp_eqB, cmp_neB, cmp_eqN, cmp_neN, cmp_eqR, cmp_neR, cmp_is, cmp_isN, isN_n, isN_t, isN_R, isN_i, grd, Px.cn, biO, biSum, biAbs, biInt, intsOf, lcRun, lcGo, lcStep, lcK, rangeD, okR, asg, setAll, noEx, wipeR, noLam, ifK, frGo, mapB, List.range, List.range.loop, fdWay, btL, tup3, m, e1, e2, e3]
theorem some_ok {k g : Nat} {d : Dice} (hf : p.fs f = some (fdSome g)) (hg : p.fs g = some (fdWay s)) (hs : p.fs s = some (fdRoll s)) (hd : DiceOk k d) (hk : k ≤ 900000) (t : Int) (h1 : 1 ≤ t) (h2 : t ≤ 1000) : ∃ v d', v ≠ V3.o ∧ (v.x.natAbs ≤ t.toNat ∧ v.y.natAbs ≤ t.toNat ∧ v.z.natAbs ≤ t.toNat) ∧ DiceOk (k + 3) d' ∧ ∀ n, 3 ≤ n → runs p n 0 f [.ref 0, .int t] [dD d] = .ok (vD v) [dD d'] := by
  obtain ⟨v, d', hv, hd', e⟩ := way_ok hg hs hd hk t (by omega) h2
  by_cases h0 : v = V3.o
  · refine ⟨⟨1, 0, 0⟩, d', by simp [V3.o], ⟨by dsimp only; omega, by dsimp only; omega, by dsimp only; omega⟩, hd', fun n hn => ?_⟩
    rw [run_pos hf _ _ (by omega) rfl rfl rfl]
    have e := e (n - 1) (by omega)
    simp [evSs, evS, evE, evEs, evI, evIf, evEo, evOr, evAnd, start, startI, getS, getO, seqF_t, seqF_l, seqF_s, atD, L2.atI, L2.ixN, optO, Out.bind, Out.st, SO.out, SO.outI, SO.seq, SO.turn, binO, cmp_lt, cmp_le, cmp_gt, cmp_ge, cmp_eqI, cmp_neI, cmp_eqT, cmp_neT, cmp_eqL, cmp_neL, cmp_eqS, cmp_neS, cmp_eqB, cmp_neB, cmp_eqN, cmp_neN, cmp_eqR, cmp_neR, cmp_is, cmp_isN, isN_n, isN_t, isN_R, isN_i, grd, Px.cn, biO, biSum, biAbs, biInt, intsOf, lcRun, lcGo, lcStep, lcK, rangeD, okR, asg, setAll, noEx, wipeR, noLam, ifK, frGo, mapB, List.range, List.range.loop, fdSome, tup3, e, eqO_V, h0, cmp_neV]
  · refine ⟨v, d', h0, hv, hd', fun n hn => ?_⟩
    rw [run_pos hf _ _ (by omega) rfl rfl rfl]
    have e := e (n - 1) (by omega)
    have h0 : v ≠ ⟨0, 0, 0⟩ := h0
    simp [evSs, evS, evE, evEs, evI, evIf, evEo, evOr, evAnd, start, startI, getS, getO, seqF_t, seqF_l, seqF_s, atD, L2.atI, L2.ixN, optO, Out.bind, Out.st, SO.out, SO.outI, SO.seq, SO.turn, binO, cmp_lt, cmp_le, cmp_gt, cmp_ge, cmp_eqI, cmp_neI, cmp_eqT, cmp_neT, cmp_eqL, cmp_neL, cmp_eqS, cmp_neS, cmp_eqB, cmp_neB, cmp_eqN, cmp_neN, cmp_eqR, cmp_neR, cmp_is, cmp_isN, isN_n, isN_t, isN_R, isN_i, grd, Px.cn, biO, biSum, biAbs, biInt, intsOf, lcRun, lcGo, lcStep, lcK, rangeD, okR, asg, setAll, noEx, wipeR, noLam, ifK, frGo, mapB, List.range, List.range.loop, fdSome, tup3, e, eqO_V, h0, cmp_neV]
end
end PI
set_option Elab.async false
set_option linter.all false
set_option maxRecDepth 100000
set_option maxHeartbeats 4000000
/-! Q3A: the text as tables. -/
namespace Q3
open PI
def f_plus : Fd := ⟨2, 2, 0, .cons (.ret (.tup (.cons (.bin .add (.ix (.v 0) (.int 0)) (.ix (.v 1) (.int 0))) (.cons (.bin .add (.ix (.v 0) (.int 1)) (.ix (.v 1) (.int 1))) (.cons (.bin .add (.ix (.v 0) (.int 2)) (.ix (.v 1) (.int 2))) .nil))))) .nil, none⟩
def f_minus : Fd := ⟨2, 2, 0, .cons (.ret (.tup (.cons (.bin .sub (.ix (.v 0) (.int 0)) (.ix (.v 1) (.int 0))) (.cons (.bin .sub (.ix (.v 0) (.int 1)) (.ix (.v 1) (.int 1))) (.cons (.bin .sub (.ix (.v 0) (.int 2)) (.ix (.v 1) (.int 2))) .nil))))) .nil, none⟩
def f_stretched : Fd := ⟨2, 2, 0, .cons (.ret (.tup (.cons (.bin .mul (.ix (.v 0) (.int 0)) (.v 1)) (.cons (.bin .mul (.ix (.v 0) (.int 1)) (.v 1)) (.cons (.bin .mul (.ix (.v 0) (.int 2)) (.v 1)) .nil))))) .nil, none⟩
def f_along : Fd := ⟨2, 2, 0, .cons (.ret (.bin .add (.bin .add (.bin .mul (.ix (.v 0) (.int 0)) (.ix (.v 1) (.int 0))) (.bin .mul (.ix (.v 0) (.int 1)) (.ix (.v 1) (.int 1)))) (.bin .mul (.ix (.v 0) (.int 2)) (.ix (.v 1) (.int 2))))) .nil, none⟩
def f_across : Fd := ⟨2, 3, 0, .cons (.set 2 (.bin .sub (.bin .mul (.ix (.v 0) (.int 1)) (.ix (.v 1) (.int 2))) (.bin .mul (.ix (.v 0) (.int 2)) (.ix (.v 1) (.int 1))))) (.cons (.ret (.tup (.cons (.v 2) (.cons (.bin .sub (.bin .mul (.ix (.v 0) (.int 2)) (.ix (.v 1) (.int 0))) (.bin .mul (.ix (.v 0) (.int 0)) (.ix (.v 1) (.int 2)))) (.cons (.bin .sub (.bin .mul (.ix (.v 0) (.int 0)) (.ix (.v 1) (.int 1))) (.bin .mul (.ix (.v 0) (.int 1)) (.ix (.v 1) (.int 0)))) .nil))))) .nil), none⟩
def f_square : Fd := ⟨1, 1, 0, .cons (.ret (.call 3 (.cons (.v 0) (.cons (.v 0) .nil)))) .nil, none⟩
def f_common : Fd := ⟨2, 2, 0, .cons (.par 0 1 (.bi .abs (.cons (.v 0) .nil)) (.bi .abs (.cons (.v 1) .nil))) (.cons (.wh 3000 (.cmp .ne (.v 1) (.int 0)) (.cons (.par 0 1 (.v 1) (.bin .mod (.v 0) (.v 1))) .nil)) (.cons (.ret (.v 0)) .nil)), none⟩
def f_plain : Fd := ⟨2, 3, 0, .cons (.ife (.cmp .eq (.v 1) (.int 0)) (.cons (.raise 51) .nil) .nil) (.cons (.set 2 (.ite (.cmp .gt (.v 1) (.int 0)) (.call 6 (.cons (.v 0) (.cons (.v 1) .nil))) (.bin .sub (.int 0) (.call 6 (.cons (.v 0) (.cons (.v 1) .nil)))))) (.cons (.ret (.tup (.cons (.bin .div (.v 0) (.v 2)) (.cons (.bin .div (.v 1) (.v 2)) .nil)))) .nil)), none⟩
def f_order : Fd := ⟨2, 4, 0, .cons (.par 2 3 (.bin .mul (.ix (.v 0) (.int 0)) (.ix (.v 1) (.int 1))) (.bin .mul (.ix (.v 1) (.int 0)) (.ix (.v 0) (.int 1)))) (.cons (.ret (.bin .sub (.cmp .gt (.v 2) (.v 3)) (.cmp .lt (.v 2) (.v 3)))) .nil), none⟩
def f_added : Fd := ⟨2, 2, 0, .cons (.ret (.call 7 (.cons (.bin .add (.bin .mul (.ix (.v 0) (.int 0)) (.ix (.v 1) (.int 1))) (.bin .mul (.ix (.v 1) (.int 0)) (.ix (.v 0) (.int 1)))) (.cons (.bin .mul (.ix (.v 0) (.int 1)) (.ix (.v 1) (.int 1))) .nil)))) .nil, none⟩
def f_times : Fd := ⟨2, 2, 0, .cons (.ret (.call 7 (.cons (.bin .mul (.ix (.v 0) (.int 0)) (.ix (.v 1) (.int 0))) (.cons (.bin .mul (.ix (.v 0) (.int 1)) (.ix (.v 1) (.int 1))) .nil)))) .nil, none⟩
def f_Line_ini : Fd := ⟨2, 3, 1, .cons (.ife (.cmp .eq (.bi .tuple (.cons (.v 2) .nil)) (.g 0)) (.cons (.raise 52) .nil) .nil) (.cons (.attrOw 0 0 (.bi .tuple (.cons (.v 1) .nil))) (.cons (.attrOw 0 1 (.bi .tuple (.cons (.v 2) .nil))) .nil)), some 0⟩
def f_Line_at : Fd := ⟨2, 4, 0, .cons (.setO 2 (.lst .nil)) (.cons (.fr (.nm 3) (.range1 (.int 3)) (.cons (.appO 2 (.call 9 (.cons (.tup (.cons (.ix (.attr (.v 0) 0) (.v 3)) (.cons (.int 1) .nil))) (.cons (.call 10 (.cons (.tup (.cons (.ix (.attr (.v 0) 1) (.v 3)) (.cons (.int 1) .nil))) (.cons (.v 1) .nil))) .nil)))) .nil)) (.cons (.frz 2) (.cons (.ret (.bi .tuple (.cons (.v 2) .nil))) .nil))), none⟩
def f_Line_whole_at : Fd := ⟨2, 2, 0, .cons (.ret (.call 0 (.cons (.attr (.v 0) 0) (.cons (.call 2 (.cons (.attr (.v 0) 1) (.cons (.v 1) .nil))) .nil)))) .nil, none⟩
def f_Line_nearest_to : Fd := ⟨2, 5, 0, .cons (.par 2 3 (.call 1 (.cons (.v 1) (.cons (.attr (.v 0) 0) .nil))) (.call 5 (.cons (.attr (.v 0) 1) .nil))) (.cons (.set 4 (.call 4 (.cons (.v 2) (.cons (.attr (.v 0) 1) .nil)))) (.cons (.ret (.tup (.cons (.call 7 (.cons (.call 3 (.cons (.v 2) (.cons (.attr (.v 0) 1) .nil))) (.cons (.v 3) .nil))) (.cons (.call 7 (.cons (.call 5 (.cons (.v 4) .nil)) (.cons (.v 3) .nil))) .nil)))) .nil)), none⟩
def f_Line_nearest_on : Fd := ⟨2, 4, 0, .cons (.un (.tp [2, 3]) (.meth (.v 0) 2 (.cons (.v 1) .nil))) (.cons (.ife (.cmp .ge (.ix (.v 2) (.int 0)) (.int 0)) (.cons (.ret (.tup (.cons (.v 2) (.cons (.v 3) .nil)))) .nil) .nil) (.cons (.ret (.tup (.cons (.tup (.cons (.int 0) (.cons (.int 1) .nil))) (.cons (.tup (.cons (.call 5 (.cons (.call 1 (.cons (.v 1) (.cons (.attr (.v 0) 0) .nil))) .nil)) (.cons (.int 1) .nil))) .nil)))) .nil)), none⟩
def f_Line_between_lines : Fd := ⟨2, 10, 0, .cons (.set 2 (.call 4 (.cons (.attr (.v 0) 1) (.cons (.attr (.v 1) 1) .nil)))) (.cons (.set 3 (.call 1 (.cons (.attr (.v 1) 0) (.cons (.attr (.v 0) 0) .nil)))) (.cons (.ife (.cmp .eq (.v 2) (.g 0)) (.cons (.un (.tp [4, 5]) (.meth (.v 1) 2 (.cons (.attr (.v 0) 0) .nil))) (.cons (.ret (.tup (.cons (.tup (.cons (.int 0) (.cons (.int 1) .nil))) (.cons (.v 4) (.cons (.v 5) .nil))))) .nil)) .nil) (.cons (.set 6 (.call 5 (.cons (.v 2) .nil))) (.cons (.set 7 (.call 7 (.cons (.call 3 (.cons (.call 4 (.cons (.v 3) (.cons (.attr (.v 1) 1) .nil))) (.cons (.v 2) .nil))) (.cons (.v 6) .nil)))) (.cons (.set 8 (.call 7 (.cons (.call 3 (.cons (.call 4 (.cons (.v 3) (.cons (.attr (.v 0) 1) .nil))) (.cons (.v 2) .nil))) (.cons (.v 6) .nil)))) (.cons (.set 9 (.call 3 (.cons (.v 3) (.cons (.v 2) .nil)))) (.cons (.ret (.tup (.cons (.v 7) (.cons (.v 8) (.cons (.call 7 (.cons (.bin .mul (.v 9) (.v 9)) (.cons (.v 6) .nil))) .nil))))) .nil))))))), none⟩
def f_Line_meets_line : Fd := ⟨2, 8, 0, .cons (.set 2 (.call 4 (.cons (.attr (.v 0) 1) (.cons (.attr (.v 1) 1) .nil)))) (.cons (.ife (.cmp .ne (.v 2) (.g 0)) (.cons (.un (.tp [3, 4, 5]) (.meth (.v 0) 3 (.cons (.v 1) .nil))) (.cons (.ret (.ite (.and (.cons (.cmp .eq (.v 5) (.tup (.cons (.int 0) (.cons (.int 1) .nil)))) (.cons (.cmp .ge (.ix (.v 3) (.int 0)) (.int 0)) (.cons (.cmp .ge (.ix (.v 4) (.int 0)) (.int 0)) .nil)))) (.tup (.cons (.v 3) (.cons (.v 4) .nil))) .non)) .nil)) .nil) (.cons (.un (.tp [6, 5]) (.meth (.v 0) 2 (.cons (.attr (.v 1) 0) .nil))) (.cons (.ife (.cmp .ne (.v 5) (.tup (.cons (.int 0) (.cons (.int 1) .nil)))) (.cons (.ret .non) .nil) .nil) (.cons (.ife (.and (.cons (.cmp .gt (.call 3 (.cons (.attr (.v 0) 1) (.cons (.attr (.v 1) 1) .nil))) (.int 0)) (.cons (.cmp .gt (.ix (.v 6) (.int 0)) (.int 0)) .nil))) (.cons (.ret (.tup (.cons (.v 6) (.cons (.tup (.cons (.int 0) (.cons (.int 1) .nil))) .nil)))) .nil) .nil) (.cons (.set 7 (.ix (.meth (.v 1) 2 (.cons (.attr (.v 0) 0) .nil)) (.int 0))) (.cons (.ret (.ite (.cmp .ge (.ix (.v 7) (.int 0)) (.int 0)) (.tup (.cons (.tup (.cons (.int 0) (.cons (.int 1) .nil))) (.cons (.v 7) .nil))) .non)) .nil)))))), none⟩
def f_Face_ini : Fd := ⟨2, 3, 1, .cons (.ife (.cmp .eq (.bi .tuple (.cons (.v 1) .nil)) (.g 0)) (.cons (.raise 52) .nil) .nil) (.cons (.attrOw 0 4 (.bi .tuple (.cons (.v 1) .nil))) (.cons (.attrOw 0 5 (.v 2)) .nil)), some 1⟩
def f_Face_side : Fd := ⟨2, 3, 0, .cons (.set 2 (.bin .sub (.call 3 (.cons (.attr (.v 0) 4) (.cons (.v 1) .nil))) (.attr (.v 0) 5))) (.cons (.ret (.bin .sub (.cmp .gt (.v 2) (.int 0)) (.cmp .lt (.v 2) (.int 0)))) .nil), none⟩
def f_Face_square_off : Fd := ⟨2, 3, 0, .cons (.set 2 (.bin .sub (.call 3 (.cons (.attr (.v 0) 4) (.cons (.v 1) .nil))) (.attr (.v 0) 5))) (.cons (.ret (.call 7 (.cons (.bin .mul (.v 2) (.v 2)) (.cons (.call 5 (.cons (.attr (.v 0) 4) .nil)) .nil)))) .nil), none⟩
def f_Face_foot : Fd := ⟨2, 7, 0, .cons (.par 2 3 (.bin .sub (.call 3 (.cons (.attr (.v 0) 4) (.cons (.v 1) .nil))) (.attr (.v 0) 5)) (.call 5 (.cons (.attr (.v 0) 4) .nil))) (.cons (.setO 4 (.lst .nil)) (.cons (.fr (.tp [5, 6]) (.zip (.v 1) (.attr (.v 0) 4)) (.cons (.appO 4 (.call 7 (.cons (.bin .sub (.bin .mul (.v 5) (.v 3)) (.bin .mul (.v 6) (.v 2))) (.cons (.v 3) .nil)))) .nil)) (.cons (.frz 4) (.cons (.ret (.bi .tuple (.cons (.v 4) .nil))) .nil)))), none⟩
def f_Face_meets : Fd := ⟨2, 5, 0, .cons (.set 2 (.call 3 (.cons (.attr (.v 0) 4) (.cons (.attr (.v 1) 1) .nil)))) (.cons (.set 3 (.bin .sub (.attr (.v 0) 5) (.call 3 (.cons (.attr (.v 0) 4) (.cons (.attr (.v 1) 0) .nil))))) (.cons (.ife (.cmp .eq (.v 2) (.int 0)) (.cons (.ret (.ite (.cmp .eq (.v 3) (.int 0)) (.tup (.cons (.int 0) (.cons (.int 1) .nil))) .non)) .nil) .nil) (.cons (.set 4 (.call 7 (.cons (.v 3) (.cons (.v 2) .nil)))) (.cons (.ret (.ite (.cmp .ge (.ix (.v 4) (.int 0)) (.int 0)) (.v 4) .non)) .nil)))), none⟩
def f_Face_mirrored_spot : Fd := ⟨2, 7, 0, .cons (.par 2 3 (.bin .sub (.call 3 (.cons (.attr (.v 0) 4) (.cons (.v 1) .nil))) (.attr (.v 0) 5)) (.call 5 (.cons (.attr (.v 0) 4) .nil))) (.cons (.setO 4 (.lst .nil)) (.cons (.fr (.tp [5, 6]) (.zip (.v 1) (.attr (.v 0) 4)) (.cons (.appO 4 (.call 7 (.cons (.bin .sub (.bin .mul (.v 5) (.v 3)) (.bin .mul (.bin .mul (.int 2) (.v 6)) (.v 2))) (.cons (.v 3) .nil)))) .nil)) (.cons (.frz 4) (.cons (.ret (.bi .tuple (.cons (.v 4) .nil))) .nil)))), none⟩
def f_Face_shared_way : Fd := ⟨2, 3, 0, .cons (.set 2 (.call 4 (.cons (.attr (.v 0) 4) (.cons (.attr (.v 1) 4) .nil)))) (.cons (.ret (.ite (.cmp .ne (.v 2) (.g 0)) (.call 25 (.cons (.v 2) .nil)) .non)) .nil), none⟩
def f_shortest : Fd := ⟨1, 4, 0, .cons (.set 1 (.lc [3] (.nm 3) (.seq (.v 0)) (.v 3) (.so (.cmp .ne (.v 3) (.int 0))))) (.cons (.ife (.cmp .eq (.v 1) (.lst .nil)) (.cons (.raise 52) .nil) .nil) (.cons (.set 2 (.bi .abs (.cons (.ix (.v 1) (.int 0)) .nil))) (.cons (.fr (.nm 3) (.seq (.v 1)) (.cons (.set 2 (.call 6 (.cons (.v 2) (.cons (.v 3) .nil)))) .nil)) (.cons (.set 2 (.ite (.cmp .gt (.ix (.v 1) (.int 0)) (.int 0)) (.v 2) (.bin .sub (.int 0) (.v 2)))) (.cons (.ret (.tup (.cons (.bin .div (.ix (.v 0) (.int 0)) (.v 2)) (.cons (.bin .div (.ix (.v 0) (.int 1)) (.v 2)) (.cons (.bin .div (.ix (.v 0) (.int 2)) (.v 2)) .nil))))) .nil))))), none⟩
def f_face_of : Fd := ⟨3, 4, 0, .cons (.set 3 (.call 4 (.cons (.call 1 (.cons (.v 1) (.cons (.v 0) .nil))) (.cons (.call 1 (.cons (.v 2) (.cons (.v 0) .nil))) .nil)))) (.cons (.ife (.cmp .eq (.v 3) (.g 0)) (.cons (.raise 52) .nil) .nil) (.cons (.ret (.make false 18 (.cons (.v 3) (.cons (.call 3 (.cons (.v 3) (.cons (.v 0) .nil))) .nil)))) .nil)), none⟩
def f_three_meet : Fd := ⟨3, 11, 0, .cons (.par3 3 4 5 (.attr (.v 0) 4) (.attr (.v 1) 4) (.attr (.v 2) 4)) (.cons (.set 6 (.tup (.cons (.call 4 (.cons (.v 4) (.cons (.v 5) .nil))) (.cons (.call 4 (.cons (.v 5) (.cons (.v 3) .nil))) (.cons (.call 4 (.cons (.v 3) (.cons (.v 4) .nil))) .nil))))) (.cons (.set 7 (.call 3 (.cons (.attr (.v 0) 4) (.cons (.ix (.v 6) (.int 0)) .nil)))) (.cons (.ife (.cmp .eq (.v 7) (.int 0)) (.cons (.ret .non) .nil) .nil) (.cons (.setO 8 (.lst .nil)) (.cons (.fr (.nm 9) (.range1 (.int 3)) (.cons (.set 10 (.bin .add (.bin .add (.bin .mul (.attr (.v 0) 5) (.ix (.ix (.v 6) (.int 0)) (.v 9))) (.bin .mul (.attr (.v 1) 5) (.ix (.ix (.v 6) (.int 1)) (.v 9)))) (.bin .mul (.attr (.v 2) 5) (.ix (.ix (.v 6) (.int 2)) (.v 9))))) (.cons (.appO 8 (.call 7 (.cons (.v 10) (.cons (.v 7) .nil)))) .nil))) (.cons (.frz 8) (.cons (.ret (.bi .tuple (.cons (.v 8) .nil))) .nil))))))), none⟩
def f_first_of : Fd := ⟨2, 6, 0, .cons (.set 2 .non) (.cons (.fr (.tp [3, 4]) (.enum (.v 0)) (.cons (.set 5 (.meth (.v 4) 6 (.cons (.v 1) .nil))) (.cons (.ife (.and (.cons (.cmp .isNN (.v 5) .non) (.cons (.or (.cons (.cmp .isN (.v 2) .non) (.cons (.cmp .lt (.call 8 (.cons (.v 5) (.cons (.ix (.v 2) (.int 0)) .nil))) (.int 0)) .nil))) .nil))) (.cons (.set 2 (.tup (.cons (.v 5) (.cons (.v 3) .nil)))) .nil) .nil) .nil))) (.cons (.ret (.v 2)) .nil)), none⟩
def f_is_inside : Fd := ⟨2, 2, 6, .cons (.ret (.qG false [none, some 1] (.nm 0) (.seq (.v 0)) (.cmp .le (.meth (.v 0) 7 (.cons (.v 1) .nil)) (.int 0)) .no)) .nil, none⟩
def f__law_dice : Fd := ⟨1, 1, 0, .cons (.ife (.chain .lt .lt (.bin .sub (.int 0) (.int 10)) (.v 0) (.int 10)) (.cons (.ret (.mlst (.cons (.bi .abs (.cons (.v 0) .nil)) (.cons (.int 0) (.cons (.int 2) .nil))))) .nil) .nil) (.cons (.ret (.mlst (.cons (.v 0) (.cons (.bin .add (.int 1) (.bin .mod (.bi .int (.cons (.v 0) .nil)) (.int 1009))) (.cons (.bi .int (.cons (.cmp .ge (.v 0) (.bin .pow (.int 10) (.int 18))) .nil)) .nil))))) .nil), none⟩
def f__law_roll : Fd := ⟨2, 3, 0, .cons (.ife (.or (.cons (.cmp .eq (.ix (.v 0) (.int 2)) (.int 2)) (.cons (.and (.cons (.cmp .eq (.ix (.v 0) (.int 2)) (.int 1)) (.cons (.cmp .gt (.ix (.v 0) (.int 0)) (.int 0)) .nil))) .nil))) (.cons (.set 2 (.bin .mod (.bi .int (.cons (.ix (.v 0) (.int 0)) .nil)) (.v 1))) (.cons (.put (.v 0) (.int 0) (.bin .div (.ix (.v 0) (.int 0)) (.v 1))) (.cons (.ret (.v 2)) .nil))) .nil) (.cons (.put (.v 0) (.int 2) (.int 0)) (.cons (.ife (.cmp .gt (.v 1) (.int 100000000)) (.cons (.ret (.bin .mod (.bi .int (.cons (.bin .add (.bin .mul (.call 31 (.cons (.v 0) (.cons (.bin .add (.bin .div (.v 1) (.int 100000000)) (.int 1)) .nil))) (.int 100000000)) (.call 31 (.cons (.v 0) (.cons (.int 100000000) .nil)))) .nil)) (.v 1))) .nil) .nil) (.cons (.put (.v 0) (.int 0) (.bin .mod (.bi .int (.cons (.bin .add (.bin .add (.bin .mul (.ix (.v 0) (.int 0)) (.int 48271)) (.bin .mul (.ix (.v 0) (.int 1)) (.int 69621))) (.int 11)) .nil)) (.int 2147483647))) (.cons (.put (.v 0) (.int 1) (.bin .add (.ix (.v 0) (.int 1)) (.int 1))) (.cons (.ret (.bin .mod (.bi .int (.cons (.bin .div (.ix (.v 0) (.int 0)) (.int 7)) .nil)) (.v 1))) .nil))))), none⟩
def f__law_rounds : Fd := ⟨2, 4, 0, .cons (.set 2 (.sl (.v 0) .no (.so (.v 1)))) (.cons (.ife (.cmp .eq (.v 2) (.lst .nil)) (.cons (.set 2 (.lst (.cons (.int 0) .nil))) .nil) .nil) (.cons (.ret (.lc [3] (.nm 3) (.seq (.v 2)) (.call 30 (.cons (.v 3) .nil)) .no)) .nil)), none⟩
def f__law_gcd : Fd := ⟨2, 2, 0, .cons (.ret (.ite (.cmp .eq (.v 1) (.int 0)) (.bi .abs (.cons (.v 0) .nil)) (.call 34 (.cons (.v 1) (.cons (.bin .mod (.v 0) (.v 1)) .nil))))) .nil, none⟩
def f__law_plain_share : Fd := ⟨2, 3, 0, .cons (.set 2 (.bin .mul (.call 34 (.cons (.v 0) (.cons (.v 1) .nil))) (.ite (.cmp .gt (.v 1) (.int 0)) (.int 1) (.neg (.int 1))))) (.cons (.ret (.tup (.cons (.bin .div (.v 0) (.v 2)) (.cons (.bin .div (.v 1) (.v 2)) .nil)))) .nil), none⟩
def f__law_add : Fd := ⟨2, 2, 0, .cons (.ret (.call 35 (.cons (.bin .add (.bin .mul (.ix (.v 0) (.int 0)) (.ix (.v 1) (.int 1))) (.bin .mul (.ix (.v 1) (.int 0)) (.ix (.v 0) (.int 1)))) (.cons (.bin .mul (.ix (.v 0) (.int 1)) (.ix (.v 1) (.int 1))) .nil)))) .nil, none⟩
def f__law_mul : Fd := ⟨2, 2, 0, .cons (.ret (.call 35 (.cons (.bin .mul (.ix (.v 0) (.int 0)) (.ix (.v 1) (.int 0))) (.cons (.bin .mul (.ix (.v 0) (.int 1)) (.ix (.v 1) (.int 1))) .nil)))) .nil, none⟩
def f__law_less : Fd := ⟨2, 2, 0, .cons (.ret (.cmp .lt (.bin .mul (.ix (.v 0) (.int 0)) (.ix (.v 1) (.int 1))) (.bin .mul (.ix (.v 1) (.int 0)) (.ix (.v 0) (.int 1))))) .nil, none⟩
def f__law_dot : Fd := ⟨2, 3, 0, .cons (.ret (.bi .sum (.cons (.lc [2] (.nm 2) (.range1 (.int 3)) (.bin .mul (.ix (.v 0) (.v 2)) (.ix (.v 1) (.v 2))) .no) .nil))) .nil, none⟩
def f__law_cross : Fd := ⟨2, 3, 0, .cons (.ret (.bi .tuple (.cons (.lc [2] (.nm 2) (.range1 (.int 3)) (.bin .sub (.bin .mul (.ix (.v 0) (.bin .sub (.v 2) (.int 2))) (.ix (.v 1) (.bin .sub (.v 2) (.int 1)))) (.bin .mul (.ix (.v 0) (.bin .sub (.v 2) (.int 1))) (.ix (.v 1) (.bin .sub (.v 2) (.int 2))))) .no) .nil))) .nil, none⟩
def f__law_from : Fd := ⟨2, 3, 0, .cons (.ret (.bi .tuple (.cons (.lc [2] (.nm 2) (.range1 (.int 3)) (.bin .sub (.ix (.v 0) (.v 2)) (.ix (.v 1) (.v 2))) .no) .nil))) .nil, none⟩
def f__law_way : Fd := ⟨2, 3, 0, .cons (.ret (.bi .tuple (.cons (.lc [2] (.nm 2) (.range1 (.int 3)) (.bin .sub (.call 31 (.cons (.v 0) (.cons (.bin .add (.bin .mul (.int 2) (.v 1)) (.int 1)) .nil))) (.v 1)) .no) .nil))) .nil, none⟩
def f__law_at : Fd := ⟨3, 4, 0, .cons (.ret (.bi .tuple (.cons (.lc [3] (.nm 3) (.range1 (.int 3)) (.call 36 (.cons (.tup (.cons (.ix (.v 0) (.v 3)) (.cons (.int 1) .nil))) (.cons (.call 37 (.cons (.tup (.cons (.ix (.v 1) (.v 3)) (.cons (.int 1) .nil))) (.cons (.v 2) .nil))) .nil))) .no) .nil))) .nil, none⟩
def f__law_gap : Fd := ⟨2, 3, 0, .cons (.ret (.lc [2] (.nm 2) (.range1 (.int 3)) (.call 36 (.cons (.ix (.v 1) (.v 2)) (.cons (.tup (.cons (.neg (.ix (.ix (.v 0) (.v 2)) (.int 0))) (.cons (.ix (.ix (.v 0) (.v 2)) (.int 1)) .nil))) .nil))) .no)) .nil, none⟩
def f__law_sum : Fd := ⟨1, 3, 0, .cons (.set 1 (.tup (.cons (.int 0) (.cons (.int 1) .nil)))) (.cons (.fr (.nm 2) (.seq (.v 0)) (.cons (.set 1 (.call 36 (.cons (.v 1) (.cons (.v 2) .nil)))) .nil)) (.cons (.ret (.v 1)) .nil)), none⟩
def f__law_flat : Fd := ⟨2, 3, 0, .cons (.ret (.call 45 (.cons (.lc [2] (.nm 2) (.range1 (.int 3)) (.call 37 (.cons (.tup (.cons (.ix (.v 0) (.v 2)) (.cons (.int 1) .nil))) (.cons (.ix (.v 1) (.v 2)) .nil))) .no) .nil))) .nil, none⟩
def f__law_some : Fd := ⟨2, 3, 0, .cons (.set 2 (.call 42 (.cons (.v 0) (.cons (.v 1) .nil)))) (.cons (.ret (.ite (.cmp .ne (.v 2) (.tup (.cons (.int 0) (.cons (.int 0) (.cons (.int 0) .nil))))) (.v 2) (.tup (.cons (.int 1) (.cons (.int 0) (.cons (.int 0) .nil)))))) .nil), none⟩
def f__law_plain : Fd := ⟨0, 7, 0, .cons (.par 0 1 (.make false 11 (.cons (.tup (.cons (.int 0) (.cons (.int 0) (.cons (.int 0) .nil)))) (.cons (.tup (.cons (.int 1) (.cons (.int 1) (.cons (.int 0) .nil)))) .nil))) (.make false 18 (.cons (.tup (.cons (.int 0) (.cons (.int 1) (.cons (.int 0) .nil)))) (.cons (.int 5) .nil)))) (.cons (.set 2 (.lst (.cons (.meth (.v 0) 8 (.cons (.tup (.cons (.int 1) (.cons (.int 2) .nil))) .nil)) (.cons (.meth (.v 0) 9 (.cons (.int 3) .nil)) (.cons (.meth (.v 0) 2 (.cons (.tup (.cons (.int 4) (.cons (.int 0) (.cons (.int 3) .nil)))) .nil)) (.cons (.meth (.v 0) 10 (.cons (.tup (.cons (.neg (.int 4)) (.cons (.int 0) (.cons (.int 3) .nil)))) .nil)) .nil)))))) (.cons (.set 2 (.bin .add (.v 2) (.lst (.cons (.meth (.make false 11 (.cons (.tup (.cons (.int 0) (.cons (.int 0) (.cons (.int 0) .nil)))) (.cons (.tup (.cons (.int 1) (.cons (.int 0) (.cons (.int 0) .nil)))) .nil))) 3 (.cons (.make false 11 (.cons (.tup (.cons (.int 5) (.cons (.neg (.int 3)) (.cons (.int 2) .nil)))) (.cons (.tup (.cons (.int 0) (.cons (.int 1) (.cons (.int 0) .nil)))) .nil))) .nil)) (.cons (.meth (.make false 11 (.cons (.tup (.cons (.int 0) (.cons (.int 0) (.cons (.int 0) .nil)))) (.cons (.tup (.cons (.int 1) (.cons (.int 0) (.cons (.int 0) .nil)))) .nil))) 3 (.cons (.make false 11 (.cons (.tup (.cons (.int 5) (.cons (.int 3) (.cons (.int 0) .nil)))) (.cons (.tup (.cons (.int 2) (.cons (.int 0) (.cons (.int 0) .nil)))) .nil))) .nil)) .nil))))) (.cons (.set 2 (.bin .add (.v 2) (.lst (.cons (.meth (.make false 11 (.cons (.tup (.cons (.int 0) (.cons (.int 0) (.cons (.int 0) .nil)))) (.cons (.tup (.cons (.int 1) (.cons (.int 0) (.cons (.int 0) .nil)))) .nil))) 11 (.cons (.make false 11 (.cons (.tup (.cons (.int 5) (.cons (.neg (.int 3)) (.cons (.int 0) .nil)))) (.cons (.tup (.cons (.int 0) (.cons (.int 1) (.cons (.int 0) .nil)))) .nil))) .nil)) (.cons (.meth (.make false 11 (.cons (.tup (.cons (.int 0) (.cons (.int 0) (.cons (.int 0) .nil)))) (.cons (.tup (.cons (.int 1) (.cons (.int 0) (.cons (.int 0) .nil)))) .nil))) 11 (.cons (.make false 11 (.cons (.tup (.cons (.int 5) (.cons (.neg (.int 3)) (.cons (.int 1) .nil)))) (.cons (.tup (.cons (.int 0) (.cons (.int 1) (.cons (.int 0) .nil)))) .nil))) .nil)) .nil))))) (.cons (.set 2 (.bin .add (.v 2) (.lst (.cons (.meth (.make false 11 (.cons (.tup (.cons (.int 0) (.cons (.int 0) (.cons (.int 0) .nil)))) (.cons (.tup (.cons (.int 1) (.cons (.int 0) (.cons (.int 0) .nil)))) .nil))) 11 (.cons (.make false 11 (.cons (.tup (.cons (.int 5) (.cons (.int 0) (.cons (.int 0) .nil)))) (.cons (.tup (.cons (.int 2) (.cons (.int 0) (.cons (.int 0) .nil)))) .nil))) .nil)) (.cons (.meth (.make false 11 (.cons (.tup (.cons (.int 0) (.cons (.int 0) (.cons (.int 0) .nil)))) (.cons (.tup (.cons (.int 1) (.cons (.int 0) (.cons (.int 0) .nil)))) .nil))) 11 (.cons (.make false 11 (.cons (.tup (.cons (.int 5) (.cons (.int 0) (.cons (.int 0) .nil)))) (.cons (.tup (.cons (.neg (.int 1)) (.cons (.int 0) (.cons (.int 0) .nil)))) .nil))) .nil)) .nil))))) (.cons (.set 2 (.bin .add (.v 2) (.lst (.cons (.meth (.make false 11 (.cons (.tup (.cons (.int 0) (.cons (.int 0) (.cons (.int 0) .nil)))) (.cons (.tup (.cons (.int 1) (.cons (.int 0) (.cons (.int 0) .nil)))) .nil))) 11 (.cons (.make false 11 (.cons (.tup (.cons (.neg (.int 5)) (.cons (.int 0) (.cons (.int 0) .nil)))) (.cons (.tup (.cons (.neg (.int 1)) (.cons (.int 0) (.cons (.int 0) .nil)))) .nil))) .nil)) (.cons (.meth (.v 1) 7 (.cons (.tup (.cons (.int 0) (.cons (.int 9) (.cons (.int 0) .nil)))) .nil)) (.cons (.meth (.v 1) 12 (.cons (.tup (.cons (.int 1) (.cons (.int 2) (.cons (.int 3) .nil)))) .nil)) (.cons (.meth (.v 1) 13 (.cons (.tup (.cons (.int 1) (.cons (.int 2) (.cons (.int 3) .nil)))) .nil)) .nil))))))) (.cons (.set 2 (.bin .add (.v 2) (.lst (.cons (.meth (.v 1) 6 (.cons (.make false 11 (.cons (.tup (.cons (.int 0) (.cons (.int 9) (.cons (.int 0) .nil)))) (.cons (.tup (.cons (.int 1) (.cons (.neg (.int 2)) (.cons (.int 0) .nil)))) .nil))) .nil)) (.cons (.meth (.v 1) 6 (.cons (.make false 11 (.cons (.tup (.cons (.int 0) (.cons (.int 9) (.cons (.int 0) .nil)))) (.cons (.tup (.cons (.int 1) (.cons (.int 2) (.cons (.int 0) .nil)))) .nil))) .nil)) (.cons (.meth (.v 1) 6 (.cons (.make false 11 (.cons (.tup (.cons (.int 0) (.cons (.int 5) (.cons (.int 0) .nil)))) (.cons (.tup (.cons (.int 1) (.cons (.int 0) (.cons (.int 0) .nil)))) .nil))) .nil)) .nil)))))) (.cons (.set 2 (.bin .add (.v 2) (.lst (.cons (.meth (.v 1) 14 (.cons (.tup (.cons (.int 1) (.cons (.int 2) (.cons (.int 3) .nil)))) .nil)) (.cons (.meth (.v 1) 15 (.cons (.make false 18 (.cons (.tup (.cons (.int 1) (.cons (.int 0) (.cons (.int 0) .nil)))) (.cons (.int 0) .nil))) .nil)) (.cons (.meth (.v 1) 15 (.cons (.make false 18 (.cons (.tup (.cons (.int 0) (.cons (.int 2) (.cons (.int 0) .nil)))) (.cons (.int 0) .nil))) .nil)) (.cons (.call 25 (.cons (.tup (.cons (.int 0) (.cons (.neg (.int 4)) (.cons (.int 6) .nil)))) .nil)) .nil))))))) (.cons (.set 2 (.bin .add (.v 2) (.lst (.cons (.attr (.call 26 (.cons (.tup (.cons (.int 0) (.cons (.int 0) (.cons (.int 3) .nil)))) (.cons (.tup (.cons (.int 1) (.cons (.int 0) (.cons (.int 3) .nil)))) (.cons (.tup (.cons (.int 0) (.cons (.int 1) (.cons (.int 3) .nil)))) .nil)))) 5) (.cons (.call 27 (.cons (.make false 18 (.cons (.tup (.cons (.int 1) (.cons (.int 0) (.cons (.int 0) .nil)))) (.cons (.int 1) .nil))) (.cons (.make false 18 (.cons (.tup (.cons (.int 0) (.cons (.int 2) (.cons (.int 0) .nil)))) (.cons (.int 3) .nil))) (.cons (.make false 18 (.cons (.tup (.cons (.int 0) (.cons (.int 0) (.cons (.int 1) .nil)))) (.cons (.int 5) .nil))) .nil)))) .nil))))) (.cons (.set 2 (.bin .add (.v 2) (.lst (.cons (.call 27 (.cons (.v 1) (.cons (.v 1) (.cons (.v 1) .nil)))) (.cons (.call 28 (.cons (.tup (.cons (.v 1) (.cons (.make false 18 (.cons (.tup (.cons (.int 0) (.cons (.int 1) (.cons (.int 0) .nil)))) (.cons (.int 7) .nil))) .nil))) (.cons (.make false 11 (.cons (.tup (.cons (.int 0) (.cons (.int 9) (.cons (.int 0) .nil)))) (.cons (.tup (.cons (.int 0) (.cons (.neg (.int 1)) (.cons (.int 0) .nil)))) .nil))) .nil))) (.cons (.call 28 (.cons (.tup .nil) (.cons (.v 0) .nil))) .nil)))))) (.cons (.set 2 (.bin .add (.v 2) (.lst (.cons (.call 29 (.cons (.tup (.cons (.v 1) .nil)) (.cons (.tup (.cons (.int 0) (.cons (.int 4) (.cons (.int 0) .nil)))) .nil))) (.cons (.call 29 (.cons (.tup (.cons (.v 1) .nil)) (.cons (.tup (.cons (.int 0) (.cons (.int 6) (.cons (.int 0) .nil)))) .nil))) .nil))))) (.cons (.lamSet 3 [0, 1, 2, 3]) (.cons (.ife (.cmp .ne (.bads 3 5 6 [76, 105, 110, 101, 69, 114, 114, 111, 114]) (.lst .nil)) (.cons (.ret (.bl false)) .nil) .nil) (.cons (.set 4 (.lst (.cons (.tup (.cons (.tup (.cons (.int 1) (.cons (.int 2) .nil))) (.cons (.tup (.cons (.int 1) (.cons (.int 2) .nil))) (.cons (.tup (.cons (.int 0) (.cons (.int 1) .nil))) .nil)))) (.cons (.tup (.cons (.int 3) (.cons (.int 3) (.cons (.int 0) .nil)))) (.cons (.tup (.cons (.tup (.cons (.int 2) (.cons (.int 1) .nil))) (.cons (.tup (.cons (.int 17) (.cons (.int 1) .nil))) .nil))) (.cons (.tup (.cons (.tup (.cons (.int 0) (.cons (.int 1) .nil))) (.cons (.tup (.cons (.int 25) (.cons (.int 1) .nil))) .nil))) (.cons (.tup (.cons (.tup (.cons (.int 5) (.cons (.int 1) .nil))) (.cons (.tup (.cons (.int 3) (.cons (.int 1) .nil))) (.cons (.tup (.cons (.int 4) (.cons (.int 1) .nil))) .nil)))) (.cons (.tup (.cons (.tup (.cons (.int 0) (.cons (.int 1) .nil))) (.cons (.tup (.cons (.neg (.int 5)) (.cons (.int 2) .nil))) (.cons (.tup (.cons (.int 9) (.cons (.int 1) .nil))) .nil)))) (.cons (.tup (.cons (.tup (.cons (.int 5) (.cons (.int 1) .nil))) (.cons (.tup (.cons (.int 3) (.cons (.int 1) .nil))) .nil))) (.cons .non (.cons (.tup (.cons (.tup (.cons (.int 5) (.cons (.int 1) .nil))) (.cons (.tup (.cons (.int 0) (.cons (.int 1) .nil))) .nil))) (.cons (.tup (.cons (.tup (.cons (.int 0) (.cons (.int 1) .nil))) (.cons (.tup (.cons (.int 5) (.cons (.int 1) .nil))) .nil))) (.cons .non (.cons (.int 1) (.cons (.tup (.cons (.int 9) (.cons (.int 1) .nil))) (.cons (.tup (.cons (.tup (.cons (.int 1) (.cons (.int 1) .nil))) (.cons (.tup (.cons (.int 5) (.cons (.int 1) .nil))) (.cons (.tup (.cons (.int 3) (.cons (.int 1) .nil))) .nil)))) (.cons (.tup (.cons (.int 2) (.cons (.int 1) .nil))) (.cons .non (.cons (.tup (.cons (.int 0) (.cons (.int 1) .nil))) (.cons (.tup (.cons (.tup (.cons (.int 1) (.cons (.int 1) .nil))) (.cons (.tup (.cons (.int 8) (.cons (.int 1) .nil))) (.cons (.tup (.cons (.int 3) (.cons (.int 1) .nil))) .nil)))) (.cons (.tup (.cons (.int 0) (.cons (.int 0) (.cons (.int 1) .nil)))) (.cons .non (.cons (.tup (.cons (.int 0) (.cons (.int 2) (.cons (.neg (.int 3)) .nil)))) (.cons (.int 3) (.cons (.tup (.cons (.tup (.cons (.int 1) (.cons (.int 1) .nil))) (.cons (.tup (.cons (.int 3) (.cons (.int 2) .nil))) (.cons (.tup (.cons (.int 5) (.cons (.int 1) .nil))) .nil)))) (.cons .non (.cons (.tup (.cons (.tup (.cons (.int 2) (.cons (.int 1) .nil))) (.cons (.int 1) .nil))) (.cons .non (.cons (.bl true) (.cons (.bl false) .nil)))))))))))))))))))))))))))))) (.cons (.ret (.cmp .eq (.v 2) (.v 4))) .nil)))))))))))))), none⟩
def f__law_rest : Fd := ⟨6, 21, 0, .cons (.set 6 (.lst (.cons (.v 2) (.cons (.make false 18 (.cons (.call 47 (.cons (.v 0) (.cons (.int 4) .nil))) (.cons (.bin .sub (.call 31 (.cons (.v 0) (.cons (.int 9) .nil))) (.int 4)) .nil))) (.cons (.make false 18 (.cons (.call 47 (.cons (.v 0) (.cons (.int 4) .nil))) (.cons (.bin .sub (.call 31 (.cons (.v 0) (.cons (.int 9) .nil))) (.int 4)) .nil))) .nil))))) (.cons (.set 7 (.meth (.v 2) 15 (.cons (.ix (.v 6) (.int 1)) .nil))) (.cons (.ife (.or (.cons (.cmp .ne (.cmp .isN (.v 7) .non) (.cmp .eq (.call 40 (.cons (.v 5) (.cons (.attr (.ix (.v 6) (.int 1)) 4) .nil))) (.g 0))) (.cons (.and (.cons (.cmp .isNN (.v 7) .non) (.cons (.or (.cons (.cmp .ne (.call 39 (.cons (.v 7) (.cons (.v 5) .nil))) (.int 0)) (.cons (.cmp .ne (.call 39 (.cons (.v 7) (.cons (.attr (.ix (.v 6) (.int 1)) 4) .nil))) (.int 0)) (.cons (.cmp .ne (.call 34 (.cons (.call 34 (.cons (.ix (.v 7) (.int 0)) (.cons (.ix (.v 7) (.int 1)) .nil))) (.cons (.ix (.v 7) (.int 2)) .nil))) (.int 1)) (.cons (.cmp .lt (.ix (.lc [15] (.nm 15) (.seq (.v 7)) (.v 15) (.so (.cmp .ne (.v 15) (.int 0)))) (.int 0)) (.int 0)) .nil))))) .nil))) .nil))) (.cons (.ret (.bl false)) .nil) .nil) (.cons (.set 8 (.call 27 (.cons (.ix (.v 6) (.int 0)) (.cons (.ix (.v 6) (.int 1)) (.cons (.ix (.v 6) (.int 2)) .nil))))) (.cons (.ife (.or (.cons (.cmp .ne (.cmp .isN (.v 8) .non) (.cmp .eq (.call 39 (.cons (.v 5) (.cons (.call 40 (.cons (.attr (.ix (.v 6) (.int 1)) 4) (.cons (.attr (.ix (.v 6) (.int 2)) 4) .nil))) .nil))) (.int 0))) (.cons (.and (.cons (.cmp .isNN (.v 8) .non) (.cons (.cmp .ne (.lc [16] (.nm 16) (.seq (.v 6)) (.v 16) (.so (.cmp .ne (.call 46 (.cons (.attr (.v 16) 4) (.cons (.v 8) .nil))) (.tup (.cons (.attr (.v 16) 5) (.cons (.int 1) .nil)))))) (.lst .nil)) .nil))) .nil))) (.cons (.ret (.bl false)) .nil) .nil) (.cons (.set 9 (.lc [17, 16] (.tp [17, 16]) (.enum (.v 6)) (.tup (.cons (.meth (.v 16) 6 (.cons (.v 3) .nil)) (.cons (.v 17) .nil))) .no)) (.cons (.set 10 (.lc [18, 17] (.tp [18, 17]) (.seq (.v 9)) (.tup (.cons (.v 18) (.cons (.v 17) .nil))) (.so (.cmp .isNN (.v 18) .non)))) (.cons (.set 11 (.lc [19] (.nm 19) (.seq (.v 10)) (.v 19) (.so (.cmp .eq (.lc [18, 17] (.tp [18, 17]) (.seq (.v 10)) (.v 18) (.so (.call 38 (.cons (.v 18) (.cons (.ix (.v 19) (.int 0)) .nil))))) (.lst .nil))))) (.cons (.ife (.or (.cons (.cmp .ne (.call 28 (.cons (.v 6) (.cons (.v 3) .nil))) (.ix (.bin .add (.v 11) (.lst (.cons .non .nil))) (.int 0))) (.cons (.cmp .ne (.call 29 (.cons (.v 6) (.cons (.v 4) .nil))) (.cmp .eq (.lc [16] (.nm 16) (.seq (.v 6)) (.v 16) (.so (.cmp .gt (.meth (.v 16) 7 (.cons (.v 4) .nil)) (.int 0)))) (.lst .nil))) .nil))) (.cons (.ret (.bl false)) .nil) .nil) (.cons (.set 12 (.lc [17] (.nm 17) (.range1 (.int 3)) (.call 42 (.cons (.v 0) (.cons (.v 1) .nil))) .no)) (.cons (.set 13 (.told 4)) (.cons (.set 14 (.cmp .eq (.call 40 (.cons (.call 41 (.cons (.ix (.v 12) (.int 1)) (.cons (.ix (.v 12) (.int 0)) .nil))) (.cons (.call 41 (.cons (.ix (.v 12) (.int 2)) (.cons (.ix (.v 12) (.int 0)) .nil))) .nil))) (.g 0))) (.cons (.ife (.or (.cons (.cmp .ne (.cmp .eq (.v 13) (.str [76, 105, 110, 101, 69, 114, 114, 111, 114])) (.v 14)) (.cons (.and (.cons (.not (.v 14)) (.cons (.cmp .ne (.lc [20] (.nm 20) (.seq (.v 12)) (.v 20) (.so (.cmp .ne (.meth (.call 26 (.cons (.ix (.v 12) (.int 0)) (.cons (.ix (.v 12) (.int 1)) (.cons (.ix (.v 12) (.int 2)) .nil)))) 7 (.cons (.v 20) .nil)) (.int 0)))) (.lst .nil)) .nil))) .nil))) (.cons (.ret (.bl false)) .nil) .nil) (.cons (.ret (.bl true)) .nil))))))))))))), none⟩
def f_law : Fd := ⟨1, 30, 0, .cons (.fr (.nm 1) (.seq (.call 32 (.cons (.v 0) (.cons (.int 1) .nil)))) (.cons (.set 2 (.ix (.lst (.cons (.int 2) (.cons (.int 6) (.cons (.int 30) .nil)))) (.call 31 (.cons (.v 1) (.cons (.int 3) .nil))))) (.cons (.un (.tp [3, 4, 5]) (.tup (.cons (.call 42 (.cons (.v 1) (.cons (.v 2) .nil))) (.cons (.call 47 (.cons (.v 1) (.cons (.v 2) .nil))) (.cons (.call 42 (.cons (.v 1) (.cons (.v 2) .nil))) .nil))))) (.cons (.un (.tp [6, 7]) (.tup (.cons (.make false 11 (.cons (.v 3) (.cons (.v 4) .nil))) (.cons (.make false 11 (.cons (.call 42 (.cons (.v 1) (.cons (.v 2) .nil))) (.cons (.call 47 (.cons (.v 1) (.cons (.v 2) .nil))) .nil))) .nil)))) (.cons (.ife (.cmp .eq (.call 31 (.cons (.v 1) (.cons (.int 3) .nil))) (.int 0)) (.cons (.set 7 (.make false 11 (.cons (.bi .tuple (.cons (.lc [28] (.nm 28) (.range1 (.int 3)) (.bin .sub (.bin .add (.ix (.v 3) (.v 28)) (.bin .mul (.int 2) (.ix (.v 4) (.v 28)))) (.bin .mul (.int 3) (.ix (.attr (.v 7) 1) (.v 28)))) .no) .nil)) (.cons (.attr (.v 7) 1) .nil)))) .nil) .nil) (.cons (.set 8 (.call 35 (.cons (.bin .sub (.call 31 (.cons (.v 1) (.cons (.int 20) .nil))) (.int 10)) (.cons (.bin .add (.int 1) (.call 31 (.cons (.v 1) (.cons (.int 6) .nil)))) .nil)))) (.cons (.un (.tp [9, 10]) (.meth (.v 6) 2 (.cons (.v 5) .nil))) (.cons (.set 11 (.call 44 (.cons (.lc [29] (.nm 29) (.seq (.v 5)) (.tup (.cons (.v 29) (.cons (.int 1) .nil))) .no) (.cons (.call 43 (.cons (.v 3) (.cons (.v 4) (.cons (.v 9) .nil)))) .nil)))) (.cons (.ife (.or (.cons (.cmp .ne (.meth (.v 6) 8 (.cons (.v 8) .nil)) (.call 43 (.cons (.v 3) (.cons (.v 4) (.cons (.v 8) .nil))))) (.cons (.cmp .ne (.meth (.v 6) 9 (.cons (.int 3) .nil)) (.bi .tuple (.cons (.lc [28] (.nm 28) (.range1 (.int 3)) (.bin .add (.ix (.v 3) (.v 28)) (.bin .mul (.int 3) (.ix (.v 4) (.v 28)))) .no) .nil))) (.cons (.cmp .ne (.call 46 (.cons (.v 4) (.cons (.v 11) .nil))) (.tup (.cons (.int 0) (.cons (.int 1) .nil)))) (.cons (.cmp .ne (.v 10) (.call 45 (.cons (.lc [29] (.nm 29) (.seq (.v 11)) (.call 37 (.cons (.v 29) (.cons (.v 29) .nil))) .no) .nil))) .nil))))) (.cons (.ret (.bl false)) .nil) .nil) (.cons (.ife (.cmp .ne (.meth (.v 6) 10 (.cons (.v 5) .nil)) (.ite (.cmp .ge (.ix (.v 9) (.int 0)) (.int 0)) (.tup (.cons (.v 9) (.cons (.v 10) .nil))) (.tup (.cons (.tup (.cons (.int 0) (.cons (.int 1) .nil))) (.cons (.tup (.cons (.call 39 (.cons (.call 41 (.cons (.v 5) (.cons (.v 3) .nil))) (.cons (.call 41 (.cons (.v 5) (.cons (.v 3) .nil))) .nil))) (.cons (.int 1) .nil))) .nil))))) (.cons (.ret (.bl false)) .nil) .nil) (.cons (.un (.tp [12, 13, 14]) (.meth (.v 6) 3 (.cons (.v 7) .nil))) (.cons (.set 11 (.call 44 (.cons (.call 43 (.cons (.v 3) (.cons (.v 4) (.cons (.v 12) .nil)))) (.cons (.call 43 (.cons (.attr (.v 7) 0) (.cons (.attr (.v 7) 1) (.cons (.v 13) .nil)))) .nil)))) (.cons (.ife (.or (.cons (.cmp .ne (.call 46 (.cons (.v 4) (.cons (.v 11) .nil))) (.tup (.cons (.int 0) (.cons (.int 1) .nil)))) (.cons (.cmp .ne (.call 46 (.cons (.attr (.v 7) 1) (.cons (.v 11) .nil))) (.tup (.cons (.int 0) (.cons (.int 1) .nil)))) (.cons (.cmp .ne (.v 14) (.call 45 (.cons (.lc [29] (.nm 29) (.seq (.v 11)) (.call 37 (.cons (.v 29) (.cons (.v 29) .nil))) .no) .nil))) .nil)))) (.cons (.ret (.bl false)) .nil) .nil) (.cons (.par 15 16 (.meth (.v 6) 11 (.cons (.v 7) .nil)) (.cmp .eq (.call 40 (.cons (.v 4) (.cons (.attr (.v 7) 1) .nil))) (.g 0))) (.cons (.ife (.or (.cons (.and (.cons (.cmp .isNN (.v 15) .non) (.cons (.or (.cons (.cmp .ne (.call 43 (.cons (.v 3) (.cons (.v 4) (.cons (.ix (.v 15) (.int 0)) .nil)))) (.call 43 (.cons (.attr (.v 7) 0) (.cons (.attr (.v 7) 1) (.cons (.ix (.v 15) (.int 1)) .nil))))) (.cons (.cmp .lt (.ix (.ix (.v 15) (.int 0)) (.int 0)) (.int 0)) (.cons (.cmp .lt (.ix (.ix (.v 15) (.int 1)) (.int 0)) (.int 0)) .nil)))) .nil))) (.cons (.and (.cons (.not (.v 16)) (.cons (.cmp .ne (.cmp .isN (.v 15) .non) (.or (.cons (.cmp .ne (.v 14) (.tup (.cons (.int 0) (.cons (.int 1) .nil)))) (.cons (.cmp .lt (.ix (.v 12) (.int 0)) (.int 0)) (.cons (.cmp .lt (.ix (.v 13) (.int 0)) (.int 0)) .nil))))) .nil))) .nil))) (.cons (.ret (.bl false)) .nil) .nil) (.cons (.ife (.v 16) (.cons (.set 17 (.lst (.cons (.ix (.meth (.v 6) 2 (.cons (.attr (.v 7) 0) .nil)) (.int 0)) (.cons (.ix (.meth (.v 7) 2 (.cons (.v 3) .nil)) (.int 0)) .nil)))) (.cons (.set 18 (.and (.cons (.cmp .eq (.v 14) (.tup (.cons (.int 0) (.cons (.int 1) .nil)))) (.cons (.or (.cons (.cmp .ge (.ix (.ix (.v 17) (.int 0)) (.int 0)) (.int 0)) (.cons (.cmp .ge (.ix (.ix (.v 17) (.int 1)) (.int 0)) (.int 0)) .nil))) .nil)))) (.cons (.ife (.or (.cons (.cmp .ne (.cmp .isNN (.v 15) .non) (.v 18)) (.cons (.and (.cons (.cmp .isNN (.v 15) .non) (.cons (.cmp .ne (.ix (.v 15) (.int 0)) (.ite (.cmp .ge (.ix (.ix (.v 17) (.int 1)) (.int 0)) (.int 0)) (.tup (.cons (.int 0) (.cons (.int 1) .nil))) (.ix (.v 17) (.int 0)))) .nil))) .nil))) (.cons (.ret (.bl false)) .nil) .nil) .nil))) .nil) (.cons (.un (.tp [19, 20]) (.tup (.cons (.call 47 (.cons (.v 1) (.cons (.int 5) .nil))) (.cons (.bin .sub (.call 31 (.cons (.v 1) (.cons (.int 20) .nil))) (.int 10)) .nil)))) (.cons (.set 21 (.make false 18 (.cons (.v 19) (.cons (.v 20) .nil)))) (.cons (.set 22 (.bin .sub (.call 39 (.cons (.v 19) (.cons (.v 5) .nil))) (.v 20))) (.cons (.un (.tp [23, 24]) (.tup (.cons (.meth (.v 21) 13 (.cons (.v 5) .nil)) (.cons (.meth (.v 21) 14 (.cons (.v 5) .nil)) .nil)))) (.cons (.set 11 (.call 44 (.cons (.lc [29] (.nm 29) (.seq (.v 5)) (.tup (.cons (.v 29) (.cons (.int 1) .nil))) .no) (.cons (.v 23) .nil)))) (.cons (.ife (.or (.cons (.cmp .ne (.meth (.v 21) 7 (.cons (.v 5) .nil)) (.bin .sub (.cmp .gt (.v 22) (.int 0)) (.cmp .lt (.v 22) (.int 0)))) (.cons (.cmp .ne (.call 46 (.cons (.v 19) (.cons (.v 23) .nil))) (.tup (.cons (.v 20) (.cons (.int 1) .nil)))) (.cons (.cmp .ne (.meth (.v 21) 12 (.cons (.v 5) .nil)) (.call 45 (.cons (.lc [29] (.nm 29) (.seq (.v 11)) (.call 37 (.cons (.v 29) (.cons (.v 29) .nil))) .no) .nil))) (.cons (.cmp .ne (.lc [28] (.nm 28) (.range1 (.int 3)) (.v 28) (.so (.cmp .ne (.call 36 (.cons (.tup (.cons (.ix (.v 5) (.v 28)) (.cons (.int 1) .nil))) (.cons (.ix (.v 24) (.v 28)) .nil))) (.call 37 (.cons (.tup (.cons (.int 2) (.cons (.int 1) .nil))) (.cons (.ix (.v 23) (.v 28)) .nil)))))) (.lst .nil)) (.cons (.cmp .ne (.lc [28] (.nm 28) (.range1 (.int 3)) (.v 28) (.so (.cmp .ne (.call 37 (.cons (.ix (.v 11) (.bin .sub (.v 28) (.int 1))) (.cons (.tup (.cons (.ix (.v 19) (.v 28)) (.cons (.int 1) .nil))) .nil))) (.call 37 (.cons (.ix (.v 11) (.v 28)) (.cons (.tup (.cons (.ix (.v 19) (.bin .sub (.v 28) (.int 1))) (.cons (.int 1) .nil))) .nil)))))) (.lst .nil)) .nil)))))) (.cons (.ret (.bl false)) .nil) .nil) (.cons (.par 25 26 (.call 39 (.cons (.v 19) (.cons (.v 4) .nil))) (.bin .sub (.v 20) (.call 39 (.cons (.v 19) (.cons (.v 3) .nil))))) (.cons (.set 27 (.meth (.v 21) 6 (.cons (.v 6) .nil))) (.cons (.ife (.or (.cons (.cmp .ne (.v 27) (.ite (.or (.cons (.and (.cons (.cmp .eq (.v 25) (.int 0)) (.cons (.cmp .ne (.v 26) (.int 0)) .nil))) (.cons (.cmp .lt (.bin .mul (.v 25) (.v 26)) (.int 0)) .nil))) .non (.ite (.cmp .eq (.v 26) (.int 0)) (.tup (.cons (.int 0) (.cons (.int 1) .nil))) (.call 35 (.cons (.v 26) (.cons (.v 25) .nil)))))) (.cons (.and (.cons (.cmp .isNN (.v 27) .non) (.cons (.cmp .ne (.call 46 (.cons (.v 19) (.cons (.meth (.v 6) 8 (.cons (.v 27) .nil)) .nil))) (.tup (.cons (.v 20) (.cons (.int 1) .nil)))) .nil))) .nil))) (.cons (.ret (.bl false)) .nil) .nil) (.cons (.ife (.not (.call 49 (.cons (.v 1) (.cons (.v 2) (.cons (.v 21) (.cons (.v 6) (.cons (.v 5) (.cons (.v 19) .nil)))))))) (.cons (.ret (.bl false)) .nil) .nil) .nil)))))))))))))))))))))))))) (.cons (.ret (.call 48 .nil)) .nil), none⟩
def fs : Nat → Option Fd
  | 0 => some f_plus
  | 1 => some f_minus
  | 2 => some f_stretched
  | 3 => some f_along
  | 4 => some f_across
  | 5 => some f_square
  | 6 => some f_common
  | 7 => some f_plain
  | 8 => some f_order
  | 9 => some f_added
  | 10 => some f_times
  | 11 => some f_Line_ini
  | 12 => some f_Line_at
  | 13 => some f_Line_whole_at
  | 14 => some f_Line_nearest_to
  | 15 => some f_Line_nearest_on
  | 16 => some f_Line_between_lines
  | 17 => some f_Line_meets_line
  | 18 => some f_Face_ini
  | 19 => some f_Face_side
  | 20 => some f_Face_square_off
  | 21 => some f_Face_foot
  | 22 => some f_Face_meets
  | 23 => some f_Face_mirrored_spot
  | 24 => some f_Face_shared_way
  | 25 => some f_shortest
  | 26 => some f_face_of
  | 27 => some f_three_meet
  | 28 => some f_first_of
  | 29 => some f_is_inside
  | 30 => some f__law_dice
  | 31 => some f__law_roll
  | 32 => some f__law_rounds
  | 34 => some f__law_gcd
  | 35 => some f__law_plain_share
  | 36 => some f__law_add
  | 37 => some f__law_mul
  | 38 => some f__law_less
  | 39 => some f__law_dot
  | 40 => some f__law_cross
  | 41 => some f__law_from
  | 42 => some f__law_way
  | 43 => some f__law_at
  | 44 => some f__law_gap
  | 45 => some f__law_sum
  | 46 => some f__law_flat
  | 47 => some f__law_some
  | 48 => some f__law_plain
  | 49 => some f__law_rest
  | 50 => some f_law
  | _ => none
def gl : Nat → Option D
  | 0 => some (.tup [.int 0, .int 0, .int 0])
  | _ => none
def mt : Nat → Nat → Option Nat
  | 0, 8 => some 12
  | 0, 9 => some 13
  | 0, 2 => some 14
  | 0, 10 => some 15
  | 0, 3 => some 16
  | 0, 11 => some 17
  | 1, 7 => some 19
  | 1, 12 => some 20
  | 1, 13 => some 21
  | 1, 6 => some 22
  | 1, 14 => some 23
  | 1, 15 => some 24
  | _, _ => none
def fl : FlT
  | 0, 0 => true
  | 0, 1 => true
  | 1, 4 => true
  | 1, 5 => true
  | _, _ => false
def lm : Nat → Option E
  | 0 => some (.make false 11 (.cons (.tup (.cons (.int 1) (.cons (.int 1) (.cons (.int 1) .nil)))) (.cons (.tup (.cons (.int 0) (.cons (.int 0) (.cons (.int 0) .nil)))) .nil)))
  | 1 => some (.make false 18 (.cons (.tup (.cons (.int 0) (.cons (.int 0) (.cons (.int 0) .nil)))) (.cons (.int 1) .nil)))
  | 2 => some (.call 25 (.cons (.tup (.cons (.int 0) (.cons (.int 0) (.cons (.int 0) .nil)))) .nil))
  | 3 => some (.call 26 (.cons (.tup (.cons (.int 0) (.cons (.int 0) (.cons (.int 0) .nil)))) (.cons (.tup (.cons (.int 1) (.cons (.int 1) (.cons (.int 1) .nil)))) (.cons (.tup (.cons (.int 2) (.cons (.int 2) (.cons (.int 2) .nil)))) .nil))))
  | 4 => some (.attr (.call 26 (.cons (.ix (.v 12) (.int 0)) (.cons (.ix (.v 12) (.int 1)) (.cons (.ix (.v 12) (.int 2)) .nil)))) 5)
  | _ => none
def ct : Nat → Bool
  | 52 => true
  | _ => false
def rt : List Nat := [76, 105, 110, 101, 69, 114, 114, 111, 114]
def px : Px := { fs := fs, gl := gl, mt := mt, fl := fl, lm := lm, ct := ct, rt := rt }
end Q3
set_option Elab.async false
set_option linter.all false
set_option maxRecDepth 100000
set_option maxHeartbeats 4000000
/-! Q3B: lines, faces: what the program's defs come to. -/
namespace PI
theorem runs_down (p : Px) : ∀ (n k : Nat), runs p n k = runs p (n - k) 0
  | 0, k => by rw [Nat.zero_sub]; rfl
  | n + 1, 0 => rfl
  | n + 1, k + 1 => by
    show runs p n k = _
    rw [runs_down p n k, Nat.succ_sub_succ]
theorem run_ini {p : Px} {n f cl : Nat} {fd : Fd} (hf : p.fs f = some fd) (ds : List D) (M : Store) (hn : fd.cost + 1 ≤ n) (hi : fd.ini = some cl) (hl : ds.length = fd.np) : runs p n 0 f ds M = (evSs (p.cn (n - 1) fd.cost (runs p (n - 1))) fd.body (PI.startI fd cl ds) M).outI := by
  obtain ⟨m, rfl⟩ : ∃ m, n = m + 1 := ⟨n - 1, by omega⟩
  show body1 p m (runs p m) f ds M = _
  unfold body1
  have : fd.cost ≤ m := by omega
  simp only [hf, hi, hl]
  simp [this]
theorem run_cost {p : Px} {n f : Nat} {fd : Fd} (hf : p.fs f = some fd) (ds : List D) (M : Store) (hn : fd.cost + 1 ≤ n) (hi : fd.ini = none) (hl : ds.length = fd.np) : runs p n 0 f ds M = (evSs (p.cn (n - 1) fd.cost (runs p (n - 1))) fd.body (PI.start fd ds) M).out := by
  obtain ⟨m, rfl⟩ : ∃ m, n = m + 1 := ⟨n - 1, by omega⟩
  show body1 p m (runs p m) f ds M = _
  unfold body1
  have : fd.cost ≤ m := by omega
  simp only [hf, hi, hl]
  simp [this]
structure Q3 where
  x : Rat
  y : Rat
  z : Rat
def qD (v : Q3) : D := .tup [R v.x, R v.y, R v.z]
theorem qD_inj {u v : Q3} : qD u = qD v ↔ u = v := by
  constructor
  · intro h
    simp only [qD, D.tup.injEq, List.cons.injEq, R_inj] at h
    cases u; cases v; simp_all
  · rintro rfl; rfl
theorem Rfold (q : Rat) : D.tup [.int q.num, .int q.den] = R q := rfl
theorem Qs_int {k j : Nat} {i : Int} (h : W k i) (hk : k ≤ 1000000) (hj : 1 ≤ j) : Qs j (i : Rat) := ⟨by rw [Rat.den_intCast]; exact W1.mono hj, by rw [Rat.num_intCast]; exact h.mono hk⟩
end PI
namespace Q3
open PI
def lnD (s w : V3) : D := .obj 0 [0, 1] [vD s, vD w]
def fcD (u : V3) (m : Int) : D := .obj 1 [4, 5] [vD u, .int m]
section
variable {M : Store} {s w u v : V3} {m : Int}
theorem pf00 : px.fl 0 0 = true := rfl
theorem pf01 : px.fl 0 1 = true := rfl
theorem pf14 : px.fl 1 4 = true := rfl
theorem pf15 : px.fl 1 5 = true := rfl
theorem gl0 : px.gl 0 = some (vD V3.o) := rfl
theorem fl0 : fldO px.fl M (lnD s w) 0 = some (vD s) := rfl
theorem fl1 : fldO px.fl M (lnD s w) 1 = some (vD w) := rfl
theorem fl4 : fldO px.fl M (fcD u m) 4 = some (vD u) := rfl
theorem fl5 : fldO px.fl M (fcD u m) 5 = some (.int m) := rfl
theorem mt2 : mthO px.mt M (lnD s w) 2 = some 14 := rfl
theorem mt3 : mthO px.mt M (lnD s w) 3 = some 16 := rfl
theorem mt6 : mthO px.mt M (fcD u m) 6 = some 22 := rfl
theorem mt7 : mthO px.mt M (fcD u m) 7 = some 19 := rfl
theorem mt8 : mthO px.mt M (lnD s w) 8 = some 12 := rfl
theorem mt9 : mthO px.mt M (lnD s w) 9 = some 13 := rfl
theorem mt10 : mthO px.mt M (lnD s w) 10 = some 15 := rfl
theorem mt11 : mthO px.mt M (lnD s w) 11 = some 17 := rfl
theorem mt12 : mthO px.mt M (fcD u m) 12 = some 20 := rfl
theorem mt13 : mthO px.mt M (fcD u m) 13 = some 21 := rfl
theorem mt14 : mthO px.mt M (fcD u m) 14 = some 23 := rfl
theorem mt15 : mthO px.mt M (fcD u m) 15 = some 24 := rfl
end
section
variable {n : Nat} {M : Store} {s w s2 w2 u v p : V3} {q : Rat} {m : Int}
theorem r_plus (hn : 1 ≤ n) : runs px n 0 0 [vD u, vD v] M = .ok (vD (u.add v)) M := run_plus rfl hn
theorem r_minus (hn : 1 ≤ n) : runs px n 0 1 [vD u, vD v] M = .ok (vD (u.sub v)) M := run_minus rfl hn
theorem r_str (hn : 1 ≤ n) {a b : Nat} (hu : Vw a u) (ht : W b m) (hab : a + b < 100000000) : runs px n 0 2 [vD u, .int m] M = .ok (vD (u.smul m)) M := run_stretched rfl hn hu ht hab
theorem r_along (hn : 1 ≤ n) {a b : Nat} (hu : Vw a u) (hv : Vw b v) (hab : a + b < 100000000) : runs px n 0 3 [vD u, vD v] M = .ok (.int (u.dot v)) M := run_along rfl hn hu hv hab
theorem r_across (hn : 1 ≤ n) {a b : Nat} (hu : Vw a u) (hv : Vw b v) (hab : a + b < 100000000) : runs px n 0 4 [vD u, vD v] M = .ok (vD (u.cross v)) M := run_across rfl hn hu hv hab
theorem r_square (hn : 2 ≤ n) {a : Nat} (hu : Vw a u) (hab : a + a < 100000000) : runs px n 0 5 [vD u] M = .ok (.int (u.dot u)) M := run_square (s := 3) rfl rfl hn hu hab
theorem r_common {j : Nat} (hn : 1 ≤ n) {a b : Int} (hb : W j b) (hj : j ≤ 1000) : runs px n 0 6 [.int a, .int b] M = .ok (.int (Int.gcd a b)) M := run_common (K := 3000) rfl j n a b M hb (by omega) hn
theorem r_plain {j : Nat} (hn : 2 ≤ n) {a b : Int} (hb : Und j b) (hj : j ≤ 1000) : runs px n 0 7 [.int a, .int b] M = .ok (R (Rat.divInt a b)) M := run_plain (c := 6) (x := 51) (K := 3000) rfl rfl n M hb (by omega) (by omega) hn
theorem r_order (hn : 1 ≤ n) {x y : Rat} {j : Nat} (hx : Qs j x) (hy : Qs j y) (hj : j ≤ 4000) : runs px n 0 8 [R x, R y] M = .ok (.int (bI (decide (y < x)) - bI (decide (x < y)))) M := run_order rfl hn hx hy hj
theorem r_added (hn : 3 ≤ n) {x y : Rat} {j : Nat} (hx : Qs j x) (hy : Qs j y) (hj : j ≤ 300) : runs px n 0 9 [R x, R y] M = .ok (R (x + y)) M := run_added (s := 7) (c := 6) (x := 51) (K := 3000) rfl rfl rfl n M hx hy (by omega) (by omega) hn
theorem r_times (hn : 3 ≤ n) {x y : Rat} {j : Nat} (hx : Qs j x) (hy : Qs j y) (hj : j ≤ 300) : runs px n 0 10 [R x, R y] M = .ok (R (x * y)) M := run_times (s := 7) (c := 6) (x := 51) (K := 3000) rfl rfl rfl n M hx hy (by omega) (by omega) hn
theorem r_line (hn : 2 ≤ n) (h : w ≠ V3.o) : runs px n 0 11 [vD s, vD w] M = .ok (lnD s w) M := by
  rw [run_ini (fd := f_Line_ini) (cl := 0) rfl _ _ hn rfl rfl]
  simp [evSs, evS, evE, evEs, evI, evIf, evEo, evOr, evAnd, start, startI, getS, getO, seqF_t, seqF_l, seqF_s, atD, L2.atI, L2.ixN, optO, Out.bind, Out.st, SO.out, SO.outI, SO.seq, SO.turn, binO, cmp_lt, cmp_le, cmp_gt, cmp_ge, cmp_eqI, cmp_neI, cmp_eqT, cmp_neT, cmp_eqL, cmp_neL, cmp_eqS, cmp_neS, cmp_eqB, cmp_neB, cmp_eqN, cmp_neN, cmp_eqR, cmp_neR, cmp_is, cmp_isN, isN_n, isN_t, isN_R, isN_i, grd, Px.cn, biO, biSum, biAbs, biInt, intsOf, lcRun, lcGo, lcStep, lcK, rangeD, okR, asg, setAll, noEx, wipeR, noLam, ifK, frGo, mapB, List.range, List.range.loop, f_Line_ini, startI, btV, gl0, eqO_V, cmp_eqV, h, slPut, pf00, pf01, pf14, pf15, putFn, SO.outI, lnD]
theorem r_line0 (hn : 2 ≤ n) : runs px n 0 11 [vD s, vD V3.o] M = .ex 52 M := by
  rw [run_ini (fd := f_Line_ini) (cl := 0) rfl _ _ hn rfl rfl]
  simp [evSs, evS, evE, evEs, evI, evIf, evEo, evOr, evAnd, start, startI, getS, getO, seqF_t, seqF_l, seqF_s, atD, L2.atI, L2.ixN, optO, Out.bind, Out.st, SO.out, SO.outI, SO.seq, SO.turn, binO, cmp_lt, cmp_le, cmp_gt, cmp_ge, cmp_eqI, cmp_neI, cmp_eqT, cmp_neT, cmp_eqL, cmp_neL, cmp_eqS, cmp_neS, cmp_eqB, cmp_neB, cmp_eqN, cmp_neN, cmp_eqR, cmp_neR, cmp_is, cmp_isN, isN_n, isN_t, isN_R, isN_i, grd, Px.cn, biO, biSum, biAbs, biInt, intsOf, lcRun, lcGo, lcStep, lcK, rangeD, okR, asg, setAll, noEx, wipeR, noLam, ifK, frGo, mapB, List.range, List.range.loop, f_Line_ini, startI, btV, gl0, eqO_V, cmp_eqV, SO.outI]
theorem r_face (hn : 2 ≤ n) (h : u ≠ V3.o) : runs px n 0 18 [vD u, .int m] M = .ok (fcD u m) M := by
  rw [run_ini (fd := f_Face_ini) (cl := 1) rfl _ _ hn rfl rfl]
  simp [evSs, evS, evE, evEs, evI, evIf, evEo, evOr, evAnd, start, startI, getS, getO, seqF_t, seqF_l, seqF_s, atD, L2.atI, L2.ixN, optO, Out.bind, Out.st, SO.out, SO.outI, SO.seq, SO.turn, binO, cmp_lt, cmp_le, cmp_gt, cmp_ge, cmp_eqI, cmp_neI, cmp_eqT, cmp_neT, cmp_eqL, cmp_neL, cmp_eqS, cmp_neS, cmp_eqB, cmp_neB, cmp_eqN, cmp_neN, cmp_eqR, cmp_neR, cmp_is, cmp_isN, isN_n, isN_t, isN_R, isN_i, grd, Px.cn, biO, biSum, biAbs, biInt, intsOf, lcRun, lcGo, lcStep, lcK, rangeD, okR, asg, setAll, noEx, wipeR, noLam, ifK, frGo, mapB, List.range, List.range.loop, f_Face_ini, startI, btV, gl0, eqO_V, cmp_eqV, h, slPut, pf00, pf01, pf14, pf15, putFn, SO.outI, fcD]
theorem r_face0 (hn : 2 ≤ n) : runs px n 0 18 [vD V3.o, .int m] M = .ex 52 M := by
  rw [run_ini (fd := f_Face_ini) (cl := 1) rfl _ _ hn rfl rfl]
  simp [evSs, evS, evE, evEs, evI, evIf, evEo, evOr, evAnd, start, startI, getS, getO, seqF_t, seqF_l, seqF_s, atD, L2.atI, L2.ixN, optO, Out.bind, Out.st, SO.out, SO.outI, SO.seq, SO.turn, binO, cmp_lt, cmp_le, cmp_gt, cmp_ge, cmp_eqI, cmp_neI, cmp_eqT, cmp_neT, cmp_eqL, cmp_neL, cmp_eqS, cmp_neS, cmp_eqB, cmp_neB, cmp_eqN, cmp_neN, cmp_eqR, cmp_neR, cmp_is, cmp_isN, isN_n, isN_t, isN_R, isN_i, grd, Px.cn, biO, biSum, biAbs, biInt, intsOf, lcRun, lcGo, lcStep, lcK, rangeD, okR, asg, setAll, noEx, wipeR, noLam, ifK, frGo, mapB, List.range, List.range.loop, f_Face_ini, startI, btV, gl0, eqO_V, cmp_eqV, SO.outI]
/-- a spot of a line -/
def atQ (s w : V3) (q : Rat) : Q3 := ⟨s.x + w.x * q, s.y + w.y * q, s.z + w.z * q⟩
theorem Qs_add {j l u' k l' : Nat} {x y : Rat} (hx : Q u' k x) (hy : Q u' l' y) (h0 : 0 < u') (hu : u' < 2 ^ j) (hk : max k l' + j + 1 ≤ 1000000) : Qs j (x + y) := ((hx.mono (Nat.le_max_left k l')).add (hy.mono (Nat.le_max_right k l')) h0 hu).s h0 hu hk
theorem q_one {k u : Nat} {i : Int} (h : W k i) : Q u k (i : Rat) := ⟨by simp, by simpa using h⟩
theorem q_up {u v k : Nat} {x : Rat} (h : Q u k x) (hd : u ∣ v) : Q v k x := ⟨Nat.dvd_trans h.d hd, h.w⟩
theorem r_at {j : Nat} (hn : 4 ≤ n) (hs : Vw 1000 s) (hw : Vw 1000 w) (hd : W j (q.den : Int)) (hq : W 10000 q.num) (h1 : 1 ≤ j) (hj : j ≤ 300) : runs px n 0 12 [lnD s w, R q] M = .ok (qD (atQ s w q)) M := by
  rw [run_pos (fd := f_Line_at) rfl _ _ (by omega) rfl rfl rfl]
  have hQ : Q q.den 10000 q := ⟨Nat.dvd_refl _, hq⟩
  have hd2 : q.den < 2 ^ j := by unfold W at hd; simpa using hd
  have h0 : 0 < q.den := q.den_pos
  have t1 : ∀ {i : Int}, W 1000 i → ∀ M, runs px (n - 1) 0 10 [R (i : Rat), R q] M = .ok (R (i * q)) M := fun hi M => r_times (j := j) (by omega) (Qs_int hi (by omega) h1) ⟨hd, hq.mono (by omega)⟩ hj
  have t2 : ∀ {i k : Int}, W 1000 i → W 1000 k → ∀ M, runs px (n - 1) 0 9 [R (k : Rat), R (i * q)] M = .ok (R (k + i * q)) M := fun {i k} hi hk M => by
    have hm : Q q.den (1000 + 10000) ((i : Rat) * q) := by
      have := (q_one (u := 1) hi).mul hQ
      rwa [Nat.one_mul] at this
    exact r_added (j := j) (by omega) (Qs_int hk (by omega) h1) (hm.s h0 hd2 (by omega)) hj
  simp [evSs, evS, evE, evEs, evI, evIf, evEo, evOr, evAnd, start, startI, getS, getO, seqF_t, seqF_l, seqF_s, atD, L2.atI, L2.ixN, optO, Out.bind, Out.st, SO.out, SO.outI, SO.seq, SO.turn, binO, cmp_lt, cmp_le, cmp_gt, cmp_ge, cmp_eqI, cmp_neI, cmp_eqT, cmp_neT, cmp_eqL, cmp_neL, cmp_eqS, cmp_neS, cmp_eqB, cmp_neB, cmp_eqN, cmp_neN, cmp_eqR, cmp_neR, cmp_is, cmp_isN, isN_n, isN_t, isN_R, isN_i, grd, Px.cn, biO, biSum, biAbs, biInt, intsOf, lcRun, lcGo, lcStep, lcK, rangeD, okR, asg, setAll, noEx, wipeR, noLam, ifK, frGo, mapB, List.range, List.range.loop, f_Line_at, fl0, fl1, ixV0, ixV1, ixV2, btL, R_int, t1 hw.x, t1 hw.y, t1 hw.z, t2 hw.x hs.x, t2 hw.y hs.y, t2 hw.z hs.z, qD, atQ]
theorem r_whole (hn : 3 ≤ n) (hw : Vw 1000 w) (hm : W 1000 m) : runs px n 0 13 [lnD s w, .int m] M = .ok (vD (s.add (w.smul m))) M := by
  rw [run_pos (fd := f_Line_whole_at) rfl _ _ (by omega) rfl rfl rfl]
  have e1 := fun M => r_plus (n := n - 1) (u := s) (v := w.smul m) (M := M) (by omega)
  have e2 := fun M => r_str (n := n - 1) (u := w) (m := m) (M := M) (by omega) hw hm (by omega)
  simp [evSs, evS, evE, evEs, evI, evIf, evEo, evOr, evAnd, start, startI, getS, getO, seqF_t, seqF_l, seqF_s, atD, L2.atI, L2.ixN, optO, Out.bind, Out.st, SO.out, SO.outI, SO.seq, SO.turn, binO, cmp_lt, cmp_le, cmp_gt, cmp_ge, cmp_eqI, cmp_neI, cmp_eqT, cmp_neT, cmp_eqL, cmp_neL, cmp_eqS, cmp_neS, cmp_eqB, cmp_neB, cmp_eqN, cmp_neN, cmp_eqR, cmp_neR, cmp_is, cmp_isN, isN_n, isN_t, isN_R, isN_i, grd, Px.cn, biO, biSum, biAbs, biInt, intsOf, lcRun, lcGo, lcStep, lcK, rangeD, okR, asg, setAll, noEx, wipeR, noLam, ifK, frGo, mapB, List.range, List.range.loop, f_Line_whole_at, fl0, fl1, e1, e2]
/-- the nearest share, how far squared -/
def nearS (s w p : V3) : Rat := Rat.divInt ((p.sub s).dot w) (w.dot w)
def nearF (s w p : V3) : Rat := Rat.divInt (((p.sub s).cross w).dot ((p.sub s).cross w)) (w.dot w)
theorem und_dot {k : Nat} (hw : Vw k w) (h : w ≠ V3.o) : Und (k + k + 2) (w.dot w) := ⟨hw.dot hw, by have := dot_pos h; omega, .inl (dot_pos h)⟩
theorem r_near (hn : 4 ≤ n) (hs : Vw 100 s) (hw : Vw 100 w) (hp : Vw 100 p) (h : w ≠ V3.o) : runs px n 0 14 [lnD s w, vD p] M = .ok (.tup [R (nearS s w p), R (nearF s w p)]) M := by
  rw [run_pos (fd := f_Line_nearest_to) rfl _ _ (by omega) rfl rfl rfl]
  have hg : Vw 101 (p.sub s) := hp.sub hs
  have hc : Vw 202 ((p.sub s).cross w) := hg.cross hw
  have hu := und_dot hw h
  have e1 := fun M => r_minus (n := n - 1) (u := p) (v := s) (M := M) (by omega)
  have e2 := fun M => r_square (n := n - 1) (u := w) (M := M) (by omega) hw (by omega)
  have e3 := fun M => r_across (n := n - 1) (u := p.sub s) (v := w) (M := M) (by omega) hg hw (by omega)
  have e4 := fun M => r_along (n := n - 1) (u := p.sub s) (v := w) (M := M) (by omega) hg hw (by omega)
  have e5 := fun M => r_square (n := n - 1) (u := (p.sub s).cross w) (M := M) (by omega) hc (by omega)
  have e6 := fun (a : Int) M => r_plain (n := n - 1) (a := a) (M := M) (by omega) hu (by omega)
  simp [evSs, evS, evE, evEs, evI, evIf, evEo, evOr, evAnd, start, startI, getS, getO, seqF_t, seqF_l, seqF_s, atD, L2.atI, L2.ixN, optO, Out.bind, Out.st, SO.out, SO.outI, SO.seq, SO.turn, binO, cmp_lt, cmp_le, cmp_gt, cmp_ge, cmp_eqI, cmp_neI, cmp_eqT, cmp_neT, cmp_eqL, cmp_neL, cmp_eqS, cmp_neS, cmp_eqB, cmp_neB, cmp_eqN, cmp_neN, cmp_eqR, cmp_neR, cmp_is, cmp_isN, isN_n, isN_t, isN_R, isN_i, grd, Px.cn, biO, biSum, biAbs, biInt, intsOf, lcRun, lcGo, lcStep, lcK, rangeD, okR, asg, setAll, noEx, wipeR, noLam, ifK, frGo, mapB, List.range, List.range.loop, f_Line_nearest_to, fl0, fl1, e1, e2, e3, e4, e5, e6, nearS, nearF]
theorem num_ge (q : Rat) : (0 ≤ q.num) = (0 ≤ q) := propext Rat.num_nonneg
theorem num_lt (q : Rat) : (q.num < 0) = (q < 0) := by
  rw [← Int.not_le, num_ge, Rat.not_le]
theorem num_gt (q : Rat) : (0 < q.num) = (0 < q) := by
  rw [Rat.lt_iff]; simp
def nearOn (s w p : V3) : D := if 0 ≤ nearS s w p then .tup [R (nearS s w p), R (nearF s w p)] else .tup [R 0, R (((p.sub s).dot (p.sub s) : Int) : Rat)]
theorem r_nearOn (hn : 5 ≤ n) (hs : Vw 100 s) (hw : Vw 100 w) (hp : Vw 100 p) (h : w ≠ V3.o) : runs px n 0 15 [lnD s w, vD p] M = .ok (nearOn s w p) M := by
  rw [run_pos (fd := f_Line_nearest_on) rfl _ _ (by omega) rfl rfl rfl]
  have hg : Vw 101 (p.sub s) := hp.sub hs
  have e0 := fun M => r_near (n := n - 1) (M := M) (by omega) hs hw hp h
  have e1 := fun M => r_minus (n := n - 1) (u := p) (v := s) (M := M) (by omega)
  have e2 := fun M => r_square (n := n - 1) (u := p.sub s) (M := M) (by omega) hg (by omega)
  by_cases c : 0 ≤ nearS s w p
  · simp [evSs, evS, evE, evEs, evI, evIf, evEo, evOr, evAnd, start, startI, getS, getO, seqF_t, seqF_l, seqF_s, atD, L2.atI, L2.ixN, optO, Out.bind, Out.st, SO.out, SO.outI, SO.seq, SO.turn, binO, cmp_lt, cmp_le, cmp_gt, cmp_ge, cmp_eqI, cmp_neI, cmp_eqT, cmp_neT, cmp_eqL, cmp_neL, cmp_eqS, cmp_neS, cmp_eqB, cmp_neB, cmp_eqN, cmp_neN, cmp_eqR, cmp_neR, cmp_is, cmp_isN, isN_n, isN_t, isN_R, isN_i, grd, Px.cn, biO, biSum, biAbs, biInt, intsOf, lcRun, lcGo, lcStep, lcK, rangeD, okR, asg, setAll, noEx, wipeR, noLam, ifK, frGo, mapB, List.range, List.range.loop, f_Line_nearest_on, kMeth, mt2, e0, fl0, e1, e2, ixR0, num_ge, c, nearOn]
  · simp [evSs, evS, evE, evEs, evI, evIf, evEo, evOr, evAnd, start, startI, getS, getO, seqF_t, seqF_l, seqF_s, atD, L2.atI, L2.ixN, optO, Out.bind, Out.st, SO.out, SO.outI, SO.seq, SO.turn, binO, cmp_lt, cmp_le, cmp_gt, cmp_ge, cmp_eqI, cmp_neI, cmp_eqT, cmp_neT, cmp_eqL, cmp_neL, cmp_eqS, cmp_neS, cmp_eqB, cmp_neB, cmp_eqN, cmp_neN, cmp_eqR, cmp_neR, cmp_is, cmp_isN, isN_n, isN_t, isN_R, isN_i, grd, Px.cn, biO, biSum, biAbs, biInt, intsOf, lcRun, lcGo, lcStep, lcK, rangeD, okR, asg, setAll, noEx, wipeR, noLam, ifK, frGo, mapB, List.range, List.range.loop, f_Line_nearest_on, kMeth, mt2, e0, fl0, e1, e2, ixR0, num_ge, c, nearOn, R_int]
/-! ### two lines -/
def sideL (w w2 : V3) : V3 := w.cross w2
def btwM (s w s2 w2 : V3) : Rat := if w.cross w2 = V3.o then 0 else Rat.divInt (((s2.sub s).cross w2).dot (w.cross w2)) ((w.cross w2).dot (w.cross w2))
def btwT (s w s2 w2 : V3) : Rat := if w.cross w2 = V3.o then nearS s2 w2 s else Rat.divInt (((s2.sub s).cross w).dot (w.cross w2)) ((w.cross w2).dot (w.cross w2))
def btwA (s w s2 w2 : V3) : Rat := if w.cross w2 = V3.o then nearF s2 w2 s else Rat.divInt (((s2.sub s).dot (w.cross w2)) * ((s2.sub s).dot (w.cross w2))) ((w.cross w2).dot (w.cross w2))
theorem r_btw (hn : 6 ≤ n) (hs : Vw 100 s) (hw : Vw 100 w) (hs2 : Vw 100 s2) (hw2 : Vw 100 w2) (h2 : w2 ≠ V3.o) : runs px n 0 16 [lnD s w, lnD s2 w2] M = .ok (.tup [R (btwM s w s2 w2), R (btwT s w s2 w2), R (btwA s w s2 w2)]) M := by
  rw [run_pos (fd := f_Line_between_lines) rfl _ _ (by omega) rfl rfl rfl]
  have hg : Vw 101 (s2.sub s) := hs2.sub hs
  have hd : Vw 201 (w.cross w2) := hw.cross hw2
  have e1 := fun M => r_across (n := n - 1) (u := w) (v := w2) (M := M) (by omega) hw hw2 (by omega)
  have e2 := fun M => r_minus (n := n - 1) (u := s2) (v := s) (M := M) (by omega)
  by_cases c : w.cross w2 = V3.o
  · have e3 := fun M => r_near (n := n - 1) (M := M) (by omega) hs2 hw2 hs h2
    simp [evSs, evS, evE, evEs, evI, evIf, evEo, evOr, evAnd, start, startI, getS, getO, seqF_t, seqF_l, seqF_s, atD, L2.atI, L2.ixN, optO, Out.bind, Out.st, SO.out, SO.outI, SO.seq, SO.turn, binO, cmp_lt, cmp_le, cmp_gt, cmp_ge, cmp_eqI, cmp_neI, cmp_eqT, cmp_neT, cmp_eqL, cmp_neL, cmp_eqS, cmp_neS, cmp_eqB, cmp_neB, cmp_eqN, cmp_neN, cmp_eqR, cmp_neR, cmp_is, cmp_isN, isN_n, isN_t, isN_R, isN_i, grd, Px.cn, biO, biSum, biAbs, biInt, intsOf, lcRun, lcGo, lcStep, lcK, rangeD, okR, asg, setAll, noEx, wipeR, noLam, ifK, frGo, mapB, List.range, List.range.loop, f_Line_between_lines, fl0, fl1, e1, e2, gl0, cmp_eqV, eqO_V, c, kMeth, mt2, e3, btwM, btwT, btwA, R_zero]
  · have hu := und_dot hd c
    have a1 : Vw 202 ((s2.sub s).cross w2) := hg.cross hw2
    have a2 : Vw 202 ((s2.sub s).cross w) := hg.cross hw
    have e3 := fun M => r_square (n := n - 1) (u := w.cross w2) (M := M) (by omega) hd (by omega)
    have e4 := fun M => r_across (n := n - 1) (u := s2.sub s) (v := w2) (M := M) (by omega) hg hw2 (by omega)
    have e5 := fun M => r_across (n := n - 1) (u := s2.sub s) (v := w) (M := M) (by omega) hg hw (by omega)
    have e6 := fun M => r_along (n := n - 1) (u := (s2.sub s).cross w2) (v := w.cross w2) (M := M) (by omega) a1 hd (by omega)
    have e7 := fun M => r_along (n := n - 1) (u := (s2.sub s).cross w) (v := w.cross w2) (M := M) (by omega) a2 hd (by omega)
    have e8 := fun M => r_along (n := n - 1) (u := s2.sub s) (v := w.cross w2) (M := M) (by omega) hg hd (by omega)
    have e9 := fun (a : Int) M => r_plain (n := n - 1) (a := a) (M := M) (by omega) hu (by omega)
    have m1 := (hg.dot hd).mulB (hg.dot hd) (by omega)
    simp [evSs, evS, evE, evEs, evI, evIf, evEo, evOr, evAnd, start, startI, getS, getO, seqF_t, seqF_l, seqF_s, atD, L2.atI, L2.ixN, optO, Out.bind, Out.st, SO.out, SO.outI, SO.seq, SO.turn, binO, cmp_lt, cmp_le, cmp_gt, cmp_ge, cmp_eqI, cmp_neI, cmp_eqT, cmp_neT, cmp_eqL, cmp_neL, cmp_eqS, cmp_neS, cmp_eqB, cmp_neB, cmp_eqN, cmp_neN, cmp_eqR, cmp_neR, cmp_is, cmp_isN, isN_n, isN_t, isN_R, isN_i, grd, Px.cn, biO, biSum, biAbs, biInt, intsOf, lcRun, lcGo, lcStep, lcK, rangeD, okR, asg, setAll, noEx, wipeR, noLam, ifK, frGo, mapB, List.range, List.range.loop, f_Line_between_lines, fl0, fl1, e1, e2, gl0, cmp_eqV, eqO_V, c, e3, e4, e5, e6, e7, e8, e9, m1, btwM, btwT, btwA]
/-- where rays meet -/
def pairD : Option (Rat × Rat) → D
  | none => .non
  | some (a, b) => .tup [R a, R b]
def metL (s w s2 w2 : V3) : Option (Rat × Rat) :=
  if w.cross w2 ≠ V3.o then (if btwA s w s2 w2 = 0 ∧ 0 ≤ btwM s w s2 w2 ∧ 0 ≤ btwT s w s2 w2 then some (btwM s w s2 w2, btwT s w s2 w2) else none)
  else if nearF s w s2 ≠ 0 then none
  else if 0 < w.dot w2 ∧ 0 < nearS s w s2 then some (nearS s w s2, 0)
  else if 0 ≤ nearS s2 w2 s then some (0, nearS s2 w2 s) else none
theorem r_met (hn : 7 ≤ n) (hs : Vw 100 s) (hw : Vw 100 w) (hs2 : Vw 100 s2) (hw2 : Vw 100 w2) (h : w ≠ V3.o) (h2 : w2 ≠ V3.o) : runs px n 0 17 [lnD s w, lnD s2 w2] M = .ok (pairD (metL s w s2 w2)) M := by
  rw [run_pos (fd := f_Line_meets_line) rfl _ _ (by omega) rfl rfl rfl]
  have e1 := fun M => r_across (n := n - 1) (u := w) (v := w2) (M := M) (by omega) hw hw2 (by omega)
  by_cases c : w.cross w2 = V3.o
  · have e3 := fun M => r_near (n := n - 1) (M := M) (by omega) hs2 hw2 hs h2
    have e4 := fun M => r_near (n := n - 1) (M := M) (by omega) hs hw hs2 h
    have e5 := fun M => r_along (n := n - 1) (u := w) (v := w2) (M := M) (by omega) hw hw2 (by omega)
    by_cases c1 : nearF s w s2 = 0
    · by_cases c2 : 0 < w.dot w2
      · by_cases c3 : 0 < nearS s w s2
        · simp [evSs, evS, evE, evEs, evI, evIf, evEo, evOr, evAnd, start, startI, getS, getO, seqF_t, seqF_l, seqF_s, atD, L2.atI, L2.ixN, optO, Out.bind, Out.st, SO.out, SO.outI, SO.seq, SO.turn, binO, cmp_lt, cmp_le, cmp_gt, cmp_ge, cmp_eqI, cmp_neI, cmp_eqT, cmp_neT, cmp_eqL, cmp_neL, cmp_eqS, cmp_neS, cmp_eqB, cmp_neB, cmp_eqN, cmp_neN, cmp_eqR, cmp_neR, cmp_is, cmp_isN, isN_n, isN_t, isN_R, isN_i, grd, Px.cn, biO, biSum, biAbs, biInt, intsOf, lcRun, lcGo, lcStep, lcK, rangeD, okR, asg, setAll, noEx, wipeR, noLam, ifK, frGo, mapB, List.range, List.range.loop, f_Line_meets_line, fl0, fl1, e1, gl0, cmp_neV, eqO_V, c, kMeth, mt2, mt3, e3, e4, e5, R_zero, eqO_R, c1, c2, c3, ixR0, num_gt, num_ge, ixT, metL, pairD]
        · by_cases c4 : 0 ≤ nearS s2 w2 s
          · simp [evSs, evS, evE, evEs, evI, evIf, evEo, evOr, evAnd, start, startI, getS, getO, seqF_t, seqF_l, seqF_s, atD, L2.atI, L2.ixN, optO, Out.bind, Out.st, SO.out, SO.outI, SO.seq, SO.turn, binO, cmp_lt, cmp_le, cmp_gt, cmp_ge, cmp_eqI, cmp_neI, cmp_eqT, cmp_neT, cmp_eqL, cmp_neL, cmp_eqS, cmp_neS, cmp_eqB, cmp_neB, cmp_eqN, cmp_neN, cmp_eqR, cmp_neR, cmp_is, cmp_isN, isN_n, isN_t, isN_R, isN_i, grd, Px.cn, biO, biSum, biAbs, biInt, intsOf, lcRun, lcGo, lcStep, lcK, rangeD, okR, asg, setAll, noEx, wipeR, noLam, ifK, frGo, mapB, List.range, List.range.loop, f_Line_meets_line, fl0, fl1, e1, gl0, cmp_neV, eqO_V, c, kMeth, mt2, mt3, e3, e4, e5, R_zero, eqO_R, c1, c2, c3, c4, ixR0, num_gt, num_ge, ixT, metL, pairD]
          · simp [evSs, evS, evE, evEs, evI, evIf, evEo, evOr, evAnd, start, startI, getS, getO, seqF_t, seqF_l, seqF_s, atD, L2.atI, L2.ixN, optO, Out.bind, Out.st, SO.out, SO.outI, SO.seq, SO.turn, binO, cmp_lt, cmp_le, cmp_gt, cmp_ge, cmp_eqI, cmp_neI, cmp_eqT, cmp_neT, cmp_eqL, cmp_neL, cmp_eqS, cmp_neS, cmp_eqB, cmp_neB, cmp_eqN, cmp_neN, cmp_eqR, cmp_neR, cmp_is, cmp_isN, isN_n, isN_t, isN_R, isN_i, grd, Px.cn, biO, biSum, biAbs, biInt, intsOf, lcRun, lcGo, lcStep, lcK, rangeD, okR, asg, setAll, noEx, wipeR, noLam, ifK, frGo, mapB, List.range, List.range.loop, f_Line_meets_line, fl0, fl1, e1, gl0, cmp_neV, eqO_V, c, kMeth, mt2, mt3, e3, e4, e5, R_zero, eqO_R, c1, c2, c3, c4, ixR0, num_gt, num_ge, ixT, metL, pairD]
      · by_cases c4 : 0 ≤ nearS s2 w2 s
        · simp [evSs, evS, evE, evEs, evI, evIf, evEo, evOr, evAnd, start, startI, getS, getO, seqF_t, seqF_l, seqF_s, atD, L2.atI, L2.ixN, optO, Out.bind, Out.st, SO.out, SO.outI, SO.seq, SO.turn, binO, cmp_lt, cmp_le, cmp_gt, cmp_ge, cmp_eqI, cmp_neI, cmp_eqT, cmp_neT, cmp_eqL, cmp_neL, cmp_eqS, cmp_neS, cmp_eqB, cmp_neB, cmp_eqN, cmp_neN, cmp_eqR, cmp_neR, cmp_is, cmp_isN, isN_n, isN_t, isN_R, isN_i, grd, Px.cn, biO, biSum, biAbs, biInt, intsOf, lcRun, lcGo, lcStep, lcK, rangeD, okR, asg, setAll, noEx, wipeR, noLam, ifK, frGo, mapB, List.range, List.range.loop, f_Line_meets_line, fl0, fl1, e1, gl0, cmp_neV, eqO_V, c, kMeth, mt2, mt3, e3, e4, e5, R_zero, eqO_R, c1, c2, c4, ixR0, num_gt, num_ge, ixT, metL, pairD]
        · simp [evSs, evS, evE, evEs, evI, evIf, evEo, evOr, evAnd, start, startI, getS, getO, seqF_t, seqF_l, seqF_s, atD, L2.atI, L2.ixN, optO, Out.bind, Out.st, SO.out, SO.outI, SO.seq, SO.turn, binO, cmp_lt, cmp_le, cmp_gt, cmp_ge, cmp_eqI, cmp_neI, cmp_eqT, cmp_neT, cmp_eqL, cmp_neL, cmp_eqS, cmp_neS, cmp_eqB, cmp_neB, cmp_eqN, cmp_neN, cmp_eqR, cmp_neR, cmp_is, cmp_isN, isN_n, isN_t, isN_R, isN_i, grd, Px.cn, biO, biSum, biAbs, biInt, intsOf, lcRun, lcGo, lcStep, lcK, rangeD, okR, asg, setAll, noEx, wipeR, noLam, ifK, frGo, mapB, List.range, List.range.loop, f_Line_meets_line, fl0, fl1, e1, gl0, cmp_neV, eqO_V, c, kMeth, mt2, mt3, e3, e4, e5, R_zero, eqO_R, c1, c2, c4, ixR0, num_gt, num_ge, ixT, metL, pairD]
    · simp [evSs, evS, evE, evEs, evI, evIf, evEo, evOr, evAnd, start, startI, getS, getO, seqF_t, seqF_l, seqF_s, atD, L2.atI, L2.ixN, optO, Out.bind, Out.st, SO.out, SO.outI, SO.seq, SO.turn, binO, cmp_lt, cmp_le, cmp_gt, cmp_ge, cmp_eqI, cmp_neI, cmp_eqT, cmp_neT, cmp_eqL, cmp_neL, cmp_eqS, cmp_neS, cmp_eqB, cmp_neB, cmp_eqN, cmp_neN, cmp_eqR, cmp_neR, cmp_is, cmp_isN, isN_n, isN_t, isN_R, isN_i, grd, Px.cn, biO, biSum, biAbs, biInt, intsOf, lcRun, lcGo, lcStep, lcK, rangeD, okR, asg, setAll, noEx, wipeR, noLam, ifK, frGo, mapB, List.range, List.range.loop, f_Line_meets_line, fl0, fl1, e1, gl0, cmp_neV, eqO_V, c, kMeth, mt2, mt3, e3, e4, e5, R_zero, eqO_R, c1, ixR0, num_gt, num_ge, ixT, metL, pairD]
  · have e3 := fun M => r_btw (n := n - 1) (M := M) (by omega) hs hw hs2 hw2 h2
    by_cases c1 : btwA s w s2 w2 = 0
    · by_cases c2 : 0 ≤ btwM s w s2 w2
      · by_cases c3 : 0 ≤ btwT s w s2 w2
        · simp [evSs, evS, evE, evEs, evI, evIf, evEo, evOr, evAnd, start, startI, getS, getO, seqF_t, seqF_l, seqF_s, atD, L2.atI, L2.ixN, optO, Out.bind, Out.st, SO.out, SO.outI, SO.seq, SO.turn, binO, cmp_lt, cmp_le, cmp_gt, cmp_ge, cmp_eqI, cmp_neI, cmp_eqT, cmp_neT, cmp_eqL, cmp_neL, cmp_eqS, cmp_neS, cmp_eqB, cmp_neB, cmp_eqN, cmp_neN, cmp_eqR, cmp_neR, cmp_is, cmp_isN, isN_n, isN_t, isN_R, isN_i, grd, Px.cn, biO, biSum, biAbs, biInt, intsOf, lcRun, lcGo, lcStep, lcK, rangeD, okR, asg, setAll, noEx, wipeR, noLam, ifK, frGo, mapB, List.range, List.range.loop, f_Line_meets_line, fl0, fl1, e1, gl0, cmp_neV, eqO_V, c, kMeth, mt2, mt3, e3, R_zero, eqO_R, c1, c2, c3, ixR0, num_gt, num_ge, ixT, metL, pairD]
        · simp [evSs, evS, evE, evEs, evI, evIf, evEo, evOr, evAnd, start, startI, getS, getO, seqF_t, seqF_l, seqF_s, atD, L2.atI, L2.ixN, optO, Out.bind, Out.st, SO.out, SO.outI, SO.seq, SO.turn, binO, cmp_lt, cmp_le, cmp_gt, cmp_ge, cmp_eqI, cmp_neI, cmp_eqT, cmp_neT, cmp_eqL, cmp_neL, cmp_eqS, cmp_neS, cmp_eqB, cmp_neB, cmp_eqN, cmp_neN, cmp_eqR, cmp_neR, cmp_is, cmp_isN, isN_n, isN_t, isN_R, isN_i, grd, Px.cn, biO, biSum, biAbs, biInt, intsOf, lcRun, lcGo, lcStep, lcK, rangeD, okR, asg, setAll, noEx, wipeR, noLam, ifK, frGo, mapB, List.range, List.range.loop, f_Line_meets_line, fl0, fl1, e1, gl0, cmp_neV, eqO_V, c, kMeth, mt2, mt3, e3, R_zero, eqO_R, c1, c2, c3, ixR0, num_gt, num_ge, ixT, metL, pairD]
      · simp [evSs, evS, evE, evEs, evI, evIf, evEo, evOr, evAnd, start, startI, getS, getO, seqF_t, seqF_l, seqF_s, atD, L2.atI, L2.ixN, optO, Out.bind, Out.st, SO.out, SO.outI, SO.seq, SO.turn, binO, cmp_lt, cmp_le, cmp_gt, cmp_ge, cmp_eqI, cmp_neI, cmp_eqT, cmp_neT, cmp_eqL, cmp_neL, cmp_eqS, cmp_neS, cmp_eqB, cmp_neB, cmp_eqN, cmp_neN, cmp_eqR, cmp_neR, cmp_is, cmp_isN, isN_n, isN_t, isN_R, isN_i, grd, Px.cn, biO, biSum, biAbs, biInt, intsOf, lcRun, lcGo, lcStep, lcK, rangeD, okR, asg, setAll, noEx, wipeR, noLam, ifK, frGo, mapB, List.range, List.range.loop, f_Line_meets_line, fl0, fl1, e1, gl0, cmp_neV, eqO_V, c, kMeth, mt2, mt3, e3, R_zero, eqO_R, c1, c2, ixR0, num_gt, num_ge, ixT, metL, pairD]
    · simp [evSs, evS, evE, evEs, evI, evIf, evEo, evOr, evAnd, start, startI, getS, getO, seqF_t, seqF_l, seqF_s, atD, L2.atI, L2.ixN, optO, Out.bind, Out.st, SO.out, SO.outI, SO.seq, SO.turn, binO, cmp_lt, cmp_le, cmp_gt, cmp_ge, cmp_eqI, cmp_neI, cmp_eqT, cmp_neT, cmp_eqL, cmp_neL, cmp_eqS, cmp_neS, cmp_eqB, cmp_neB, cmp_eqN, cmp_neN, cmp_eqR, cmp_neR, cmp_is, cmp_isN, isN_n, isN_t, isN_R, isN_i, grd, Px.cn, biO, biSum, biAbs, biInt, intsOf, lcRun, lcGo, lcStep, lcK, rangeD, okR, asg, setAll, noEx, wipeR, noLam, ifK, frGo, mapB, List.range, List.range.loop, f_Line_meets_line, fl0, fl1, e1, gl0, cmp_neV, eqO_V, c, kMeth, mt2, mt3, e3, R_zero, eqO_R, c1, ixR0, num_gt, num_ge, ixT, metL, pairD]
end
end Q3
set_option Elab.async false
set_option linter.all false
set_option maxRecDepth 100000
set_option maxHeartbeats 4000000
/-! Q3C: faces. -/
namespace Q3
open PI
def offF (u : V3) (m : Int) (p : V3) : Int := u.dot p - m
def sgn (i : Int) : Int := bI (decide (0 < i)) - bI (decide (i < 0))
def optR : Option Rat → D
  | none => .non
  | some q => R q
def sqF (u : V3) (m : Int) (p : V3) : Rat := Rat.divInt (offF u m p * offF u m p) (u.dot u)
def footF (u : V3) (m : Int) (p : V3) : Q3 := ⟨Rat.divInt (p.x * u.dot u - u.x * offF u m p) (u.dot u), Rat.divInt (p.y * u.dot u - u.y * offF u m p) (u.dot u), Rat.divInt (p.z * u.dot u - u.z * offF u m p) (u.dot u)⟩
def mirF (u : V3) (m : Int) (p : V3) : Q3 := ⟨Rat.divInt (p.x * u.dot u - 2 * u.x * offF u m p) (u.dot u), Rat.divInt (p.y * u.dot u - 2 * u.y * offF u m p) (u.dot u), Rat.divInt (p.z * u.dot u - 2 * u.z * offF u m p) (u.dot u)⟩
def meetF (u : V3) (m : Int) (s w : V3) : Option Rat := if u.dot w = 0 then (if m - u.dot s = 0 then some 0 else none) else if 0 ≤ Rat.divInt (m - u.dot s) (u.dot w) then some (Rat.divInt (m - u.dot s) (u.dot w)) else none
section
variable {n : Nat} {M : Store} {s w s2 w2 u v p : V3} {q : Rat} {m : Int}
theorem w_off (hu : Vw 50 u) (hp : Vw 100 p) (hm : W 50 m) : W 153 (offF u m p) := ((hu.dot hp).sub hm)
theorem r_side (hn : 2 ≤ n) (hu : Vw 50 u) (hp : Vw 100 p) : runs px n 0 19 [fcD u m, vD p] M = .ok (.int (sgn (offF u m p))) M := by
  rw [run_pos (fd := f_Face_side) rfl _ _ (by omega) rfl rfl rfl]
  have e1 := fun M => r_along (n := n - 1) (u := u) (v := p) (M := M) (by omega) hu hp (by omega)
  simp [evSs, evS, evE, evEs, evI, evIf, evEo, evOr, evAnd, start, startI, getS, getO, seqF_t, seqF_l, seqF_s, atD, L2.atI, L2.ixN, optO, Out.bind, Out.st, SO.out, SO.outI, SO.seq, SO.turn, binO, cmp_lt, cmp_le, cmp_gt, cmp_ge, cmp_eqI, cmp_neI, cmp_eqT, cmp_neT, cmp_eqL, cmp_neL, cmp_eqS, cmp_neS, cmp_eqB, cmp_neB, cmp_eqN, cmp_neN, cmp_eqR, cmp_neR, cmp_is, cmp_isN, isN_n, isN_t, isN_R, isN_i, grd, Px.cn, biO, biSum, biAbs, biInt, intsOf, lcRun, lcGo, lcStep, lcK, rangeD, okR, asg, setAll, noEx, wipeR, noLam, ifK, frGo, mapB, List.range, List.range.loop, f_Face_side, fl4, fl5, e1, sgn, offF]
  all_goals rfl
theorem r_sqoff (hn : 3 ≤ n) (hu : Vw 50 u) (hp : Vw 100 p) (hm : W 50 m) (h : u ≠ V3.o) : runs px n 0 20 [fcD u m, vD p] M = .ok (R (sqF u m p)) M := by
  rw [run_pos (fd := f_Face_square_off) rfl _ _ (by omega) rfl rfl rfl]
  have e1 := fun M => r_along (n := n - 1) (u := u) (v := p) (M := M) (by omega) hu hp (by omega)
  have e2 := fun M => r_square (n := n - 1) (u := u) (M := M) (by omega) hu (by omega)
  have hu2 := und_dot hu h
  have e3 := fun (a : Int) M => r_plain (n := n - 1) (a := a) (M := M) (by omega) hu2 (by omega)
  have m1 := (w_off hu hp hm).mulB (w_off hu hp hm) (by omega)
  simp only [offF] at m1
  simp [evSs, evS, evE, evEs, evI, evIf, evEo, evOr, evAnd, start, startI, getS, getO, seqF_t, seqF_l, seqF_s, atD, L2.atI, L2.ixN, optO, Out.bind, Out.st, SO.out, SO.outI, SO.seq, SO.turn, binO, cmp_lt, cmp_le, cmp_gt, cmp_ge, cmp_eqI, cmp_neI, cmp_eqT, cmp_neT, cmp_eqL, cmp_neL, cmp_eqS, cmp_neS, cmp_eqB, cmp_neB, cmp_eqN, cmp_neN, cmp_eqR, cmp_neR, cmp_is, cmp_isN, isN_n, isN_t, isN_R, isN_i, grd, Px.cn, biO, biSum, biAbs, biInt, intsOf, lcRun, lcGo, lcStep, lcK, rangeD, okR, asg, setAll, noEx, wipeR, noLam, ifK, frGo, mapB, List.range, List.range.loop, f_Face_square_off, fl4, fl5, e1, e2, e3, m1, sqF, offF]
theorem r_foot (hn : 3 ≤ n) (hu : Vw 50 u) (hp : Vw 100 p) (hm : W 50 m) (h : u ≠ V3.o) : runs px n 0 21 [fcD u m, vD p] M = .ok (qD (footF u m p)) M := by
  rw [run_pos (fd := f_Face_foot) rfl _ _ (by omega) rfl rfl rfl]
  have e1 := fun M => r_along (n := n - 1) (u := u) (v := p) (M := M) (by omega) hu hp (by omega)
  have e2 := fun M => r_square (n := n - 1) (u := u) (M := M) (by omega) hu (by omega)
  have hu2 := und_dot hu h
  have e3 := fun (a : Int) M => r_plain (n := n - 1) (a := a) (M := M) (by omega) hu2 (by omega)
  have ho := w_off hu hp hm
  have m1 := hu.x.mulB ho (by omega)
  have m2 := hu.y.mulB ho (by omega)
  have m3 := hu.z.mulB ho (by omega)
  have m4 := hp.x.mulB (hu.dot hu) (by omega)
  have m5 := hp.y.mulB (hu.dot hu) (by omega)
  have m6 := hp.z.mulB (hu.dot hu) (by omega)
  simp only [offF] at m1 m2 m3
  simp [evSs, evS, evE, evEs, evI, evIf, evEo, evOr, evAnd, start, startI, getS, getO, seqF_t, seqF_l, seqF_s, atD, L2.atI, L2.ixN, optO, Out.bind, Out.st, SO.out, SO.outI, SO.seq, SO.turn, binO, cmp_lt, cmp_le, cmp_gt, cmp_ge, cmp_eqI, cmp_neI, cmp_eqT, cmp_neT, cmp_eqL, cmp_neL, cmp_eqS, cmp_neS, cmp_eqB, cmp_neB, cmp_eqN, cmp_neN, cmp_eqR, cmp_neR, cmp_is, cmp_isN, isN_n, isN_t, isN_R, isN_i, grd, Px.cn, biO, biSum, biAbs, biInt, intsOf, lcRun, lcGo, lcStep, lcK, rangeD, okR, asg, setAll, noEx, wipeR, noLam, ifK, frGo, mapB, List.range, List.range.loop, f_Face_foot, fl4, fl5, e1, e2, e3, zpV, btL, m1, m2, m3, m4, m5, m6, footF, qD, offF]
theorem r_mir (hn : 3 ≤ n) (hu : Vw 50 u) (hp : Vw 100 p) (hm : W 50 m) (h : u ≠ V3.o) : runs px n 0 23 [fcD u m, vD p] M = .ok (qD (mirF u m p)) M := by
  rw [run_pos (fd := f_Face_mirrored_spot) rfl _ _ (by omega) rfl rfl rfl]
  have e1 := fun M => r_along (n := n - 1) (u := u) (v := p) (M := M) (by omega) hu hp (by omega)
  have e2 := fun M => r_square (n := n - 1) (u := u) (M := M) (by omega) hu (by omega)
  have hu2 := und_dot hu h
  have e3 := fun (a : Int) M => r_plain (n := n - 1) (a := a) (M := M) (by omega) hu2 (by omega)
  have ho := w_off hu hp hm
  have w2 : W 2 2 := by unfold W; decide
  have n1 := w2.mulB hu.x (by omega)
  have n2 := w2.mulB hu.y (by omega)
  have n3 := w2.mulB hu.z (by omega)
  have m1 := (w2.mul hu.x).mulB ho (by omega)
  have m2 := (w2.mul hu.y).mulB ho (by omega)
  have m3 := (w2.mul hu.z).mulB ho (by omega)
  have m4 := hp.x.mulB (hu.dot hu) (by omega)
  have m5 := hp.y.mulB (hu.dot hu) (by omega)
  have m6 := hp.z.mulB (hu.dot hu) (by omega)
  simp only [offF] at m1 m2 m3
  simp [evSs, evS, evE, evEs, evI, evIf, evEo, evOr, evAnd, start, startI, getS, getO, seqF_t, seqF_l, seqF_s, atD, L2.atI, L2.ixN, optO, Out.bind, Out.st, SO.out, SO.outI, SO.seq, SO.turn, binO, cmp_lt, cmp_le, cmp_gt, cmp_ge, cmp_eqI, cmp_neI, cmp_eqT, cmp_neT, cmp_eqL, cmp_neL, cmp_eqS, cmp_neS, cmp_eqB, cmp_neB, cmp_eqN, cmp_neN, cmp_eqR, cmp_neR, cmp_is, cmp_isN, isN_n, isN_t, isN_R, isN_i, grd, Px.cn, biO, biSum, biAbs, biInt, intsOf, lcRun, lcGo, lcStep, lcK, rangeD, okR, asg, setAll, noEx, wipeR, noLam, ifK, frGo, mapB, List.range, List.range.loop, f_Face_mirrored_spot, fl4, fl5, e1, e2, e3, zpV, btL, n1, n2, n3, m1, m2, m3, m4, m5, m6, mirF, qD, offF]
theorem r_meets (hn : 3 ≤ n) (hu : Vw 14 u) (hs : Vw 100 s) (hw : Vw 8 w) : runs px n 0 22 [fcD u m, lnD s w] M = .ok (optR (meetF u m s w)) M := by
  rw [run_pos (fd := f_Face_meets) rfl _ _ (by omega) rfl rfl rfl]
  have e1 := fun M => r_along (n := n - 1) (u := u) (v := w) (M := M) (by omega) hu hw (by omega)
  have e2 := fun M => r_along (n := n - 1) (u := u) (v := s) (M := M) (by omega) hu hs (by omega)
  by_cases c : u.dot w = 0
  · by_cases c1 : m - u.dot s = 0
    · simp [evSs, evS, evE, evEs, evI, evIf, evEo, evOr, evAnd, start, startI, getS, getO, seqF_t, seqF_l, seqF_s, atD, L2.atI, L2.ixN, optO, Out.bind, Out.st, SO.out, SO.outI, SO.seq, SO.turn, binO, cmp_lt, cmp_le, cmp_gt, cmp_ge, cmp_eqI, cmp_neI, cmp_eqT, cmp_neT, cmp_eqL, cmp_neL, cmp_eqS, cmp_neS, cmp_eqB, cmp_neB, cmp_eqN, cmp_neN, cmp_eqR, cmp_neR, cmp_is, cmp_isN, isN_n, isN_t, isN_R, isN_i, grd, Px.cn, biO, biSum, biAbs, biInt, intsOf, lcRun, lcGo, lcStep, lcK, rangeD, okR, asg, setAll, noEx, wipeR, noLam, ifK, frGo, mapB, List.range, List.range.loop, f_Face_meets, fl0, fl1, fl4, fl5, e1, e2, c, c1, meetF, optR, R_zero]
    · simp [evSs, evS, evE, evEs, evI, evIf, evEo, evOr, evAnd, start, startI, getS, getO, seqF_t, seqF_l, seqF_s, atD, L2.atI, L2.ixN, optO, Out.bind, Out.st, SO.out, SO.outI, SO.seq, SO.turn, binO, cmp_lt, cmp_le, cmp_gt, cmp_ge, cmp_eqI, cmp_neI, cmp_eqT, cmp_neT, cmp_eqL, cmp_neL, cmp_eqS, cmp_neS, cmp_eqB, cmp_neB, cmp_eqN, cmp_neN, cmp_eqR, cmp_neR, cmp_is, cmp_isN, isN_n, isN_t, isN_R, isN_i, grd, Px.cn, biO, biSum, biAbs, biInt, intsOf, lcRun, lcGo, lcStep, lcK, rangeD, okR, asg, setAll, noEx, wipeR, noLam, ifK, frGo, mapB, List.range, List.range.loop, f_Face_meets, fl0, fl1, fl4, fl5, e1, e2, c, c1, meetF, optR, R_zero]
  · have hu2 : Und 24 (u.dot w) := ⟨hu.dot hw, c, .inr (by omega)⟩
    have e3 := fun (a : Int) M => r_plain (n := n - 1) (a := a) (M := M) (by omega) hu2 (by omega)
    by_cases c1 : 0 ≤ Rat.divInt (m - u.dot s) (u.dot w)
    · simp [evSs, evS, evE, evEs, evI, evIf, evEo, evOr, evAnd, start, startI, getS, getO, seqF_t, seqF_l, seqF_s, atD, L2.atI, L2.ixN, optO, Out.bind, Out.st, SO.out, SO.outI, SO.seq, SO.turn, binO, cmp_lt, cmp_le, cmp_gt, cmp_ge, cmp_eqI, cmp_neI, cmp_eqT, cmp_neT, cmp_eqL, cmp_neL, cmp_eqS, cmp_neS, cmp_eqB, cmp_neB, cmp_eqN, cmp_neN, cmp_eqR, cmp_neR, cmp_is, cmp_isN, isN_n, isN_t, isN_R, isN_i, grd, Px.cn, biO, biSum, biAbs, biInt, intsOf, lcRun, lcGo, lcStep, lcK, rangeD, okR, asg, setAll, noEx, wipeR, noLam, ifK, frGo, mapB, List.range, List.range.loop, f_Face_meets, fl0, fl1, fl4, fl5, e1, e2, e3, c, ixR0, num_ge, c1, meetF, optR]
    · simp [evSs, evS, evE, evEs, evI, evIf, evEo, evOr, evAnd, start, startI, getS, getO, seqF_t, seqF_l, seqF_s, atD, L2.atI, L2.ixN, optO, Out.bind, Out.st, SO.out, SO.outI, SO.seq, SO.turn, binO, cmp_lt, cmp_le, cmp_gt, cmp_ge, cmp_eqI, cmp_neI, cmp_eqT, cmp_neT, cmp_eqL, cmp_neL, cmp_eqS, cmp_neS, cmp_eqB, cmp_neB, cmp_eqN, cmp_neN, cmp_eqR, cmp_neR, cmp_is, cmp_isN, isN_n, isN_t, isN_R, isN_i, grd, Px.cn, biO, biSum, biAbs, biInt, intsOf, lcRun, lcGo, lcStep, lcK, rangeD, okR, asg, setAll, noEx, wipeR, noLam, ifK, frGo, mapB, List.range, List.range.loop, f_Face_meets, fl0, fl1, fl4, fl5, e1, e2, e3, c, ixR0, num_ge, c1, meetF, optR]
/-! ### the shortest way -/
def leadV (v : V3) : Int := if v.x ≠ 0 then v.x else if v.y ≠ 0 then v.y else v.z
def gcdV (v : V3) : Nat := Nat.gcd (Nat.gcd v.x.natAbs v.y.natAbs) v.z.natAbs
def byV (v : V3) : Int := if 0 < leadV v then (gcdV v : Int) else -(gcdV v : Int)
def shortV (v : V3) : V3 := ⟨v.x.fdiv (byV v), v.y.fdiv (byV v), v.z.fdiv (byV v)⟩
theorem gcdV_pos (h : v ≠ V3.o) : 0 < gcdV v := by
  refine Nat.pos_of_ne_zero fun z => h ?_
  unfold gcdV at z
  have h1 := Nat.gcd_eq_zero_iff.mp z
  have h2 := Nat.gcd_eq_zero_iff.mp h1.1
  exact V3.ext (Int.natAbs_eq_zero.mp h2.1) (Int.natAbs_eq_zero.mp h2.2) (Int.natAbs_eq_zero.mp h1.2)
theorem gcdV_w {k : Nat} (hv : Vw k v) (h : v ≠ V3.o) : gcdV v < 2 ^ k := by
  have key : ∀ i : Int, W k i → i ≠ 0 → gcdV v ∣ i.natAbs → gcdV v < 2 ^ k := fun i hi h0 hd => Nat.lt_of_le_of_lt (Nat.le_of_dvd (Int.natAbs_pos.mpr h0) hd) hi
  have d1 : gcdV v ∣ v.x.natAbs := Nat.dvd_trans (Nat.gcd_dvd_left _ _) (Nat.gcd_dvd_left _ _)
  have d2 : gcdV v ∣ v.y.natAbs := Nat.dvd_trans (Nat.gcd_dvd_left _ _) (Nat.gcd_dvd_right _ _)
  have d3 : gcdV v ∣ v.z.natAbs := Nat.gcd_dvd_right _ _
  by_cases hx : v.x = 0
  · by_cases hy : v.y = 0
    · by_cases hz : v.z = 0
      · exact absurd (V3.ext hx hy hz) h
      · exact key _ hv.z hz d3
    · exact key _ hv.y hy d2
  · exact key _ hv.x hx d1
theorem r_short0 (hn : 1 ≤ n) : runs px n 0 25 [vD V3.o] M = .ex 52 M := by
  rw [run_pos (fd := f_shortest) rfl _ _ (by omega) rfl rfl rfl]
  simp [evSs, evS, evE, evEs, evI, evIf, evEo, evOr, evAnd, start, startI, getS, getO, seqF_t, seqF_l, seqF_s, atD, L2.atI, L2.ixN, optO, Out.bind, Out.st, SO.out, SO.outI, SO.seq, SO.turn, binO, cmp_lt, cmp_le, cmp_gt, cmp_ge, cmp_eqI, cmp_neI, cmp_eqT, cmp_neT, cmp_eqL, cmp_neL, cmp_eqS, cmp_neS, cmp_eqB, cmp_neB, cmp_eqN, cmp_neN, cmp_eqR, cmp_neR, cmp_is, cmp_isN, isN_n, isN_t, isN_R, isN_i, grd, Px.cn, biO, biSum, biAbs, biInt, intsOf, lcRun, lcGo, lcStep, lcK, rangeD, okR, asg, setAll, noEx, wipeR, noLam, ifK, frGo, mapB, List.range, List.range.loop, f_shortest, sqV, eqO_isE]
theorem divB_by {k : Nat} (hv : Vw k v) (hk : k ≤ 30) (h : v ≠ V3.o) : divB (byV v) = true := by
  have h1 := gcdV_pos h
  have h2 := gcdV_w hv h
  have : W k (byV v) := by unfold W byV; split <;> simp <;> omega
  exact this.divB (by unfold byV; split <;> omega) hk
theorem absN (z : Int) : (if z < 0 then -z else z) = (z.natAbs : Int) := by split <;> omega
theorem r_short (hn : 2 ≤ n) (hv : Vw 30 v) (h : v ≠ V3.o) : runs px n 0 25 [vD v] M = .ok (vD (shortV v)) M := by
  rw [run_pos (fd := f_shortest) rfl _ _ (by omega) rfl rfl rfl]
  have ex := fun (a : Int) M => r_common (n := n - 1) (a := a) (M := M) (by omega) hv.x (by omega)
  have ey := fun (a : Int) M => r_common (n := n - 1) (a := a) (M := M) (by omega) hv.y (by omega)
  have ez := fun (a : Int) M => r_common (n := n - 1) (a := a) (M := M) (by omega) hv.z (by omega)
  have db := divB_by hv (by omega) h
  have g3 : ∀ a b c : Int, Int.gcd (Int.gcd (Int.gcd (a.natAbs : Int) a) b) c = Nat.gcd (Nat.gcd a.natAbs b.natAbs) c.natAbs := fun a b c => by simp [Int.gcd]
  have g2 : ∀ a b : Int, Int.gcd (Int.gcd (a.natAbs : Int) a) b = Nat.gcd a.natAbs b.natAbs := fun a b => by simp [Int.gcd]
  have g1 : ∀ a : Int, Int.gcd (a.natAbs : Int) a = a.natAbs := fun a => by simp [Int.gcd]
  have sp : ∀ (a : Int), (if 0 < a then byV v else byV v) = byV v := fun a => by split <;> rfl
  by_cases hx : v.x = 0
  · by_cases hy : v.y = 0
    · by_cases hz : v.z = 0
      · exact absurd (V3.ext hx hy hz) h
      · have e : byV v = if 0 < v.z then (v.z.natAbs : Int) else -(v.z.natAbs : Int) := by simp [byV, leadV, gcdV, hx, hy]
        by_cases c : 0 < v.z
        · rw [if_pos c] at e
          rw [e] at db
          simp [evSs, evS, evE, evEs, evI, evIf, evEo, evOr, evAnd, start, startI, getS, getO, seqF_t, seqF_l, seqF_s, atD, L2.atI, L2.ixN, optO, Out.bind, Out.st, SO.out, SO.outI, SO.seq, SO.turn, binO, cmp_lt, cmp_le, cmp_gt, cmp_ge, cmp_eqI, cmp_neI, cmp_eqT, cmp_neT, cmp_eqL, cmp_neL, cmp_eqS, cmp_neS, cmp_eqB, cmp_neB, cmp_eqN, cmp_neN, cmp_eqR, cmp_neR, cmp_is, cmp_isN, isN_n, isN_t, isN_R, isN_i, grd, Px.cn, biO, biSum, biAbs, biInt, intsOf, lcRun, lcGo, lcStep, lcK, rangeD, okR, asg, setAll, noEx, wipeR, noLam, ifK, frGo, mapB, List.range, List.range.loop, f_shortest, sqV, eqO_isE, hx, hy, hz, absN, ixL, ex, ey, ez, g1, c, db, ixV0, ixV1, ixV2, tup3, shortV, e]
        · rw [if_neg c] at e
          rw [e] at db
          simp [evSs, evS, evE, evEs, evI, evIf, evEo, evOr, evAnd, start, startI, getS, getO, seqF_t, seqF_l, seqF_s, atD, L2.atI, L2.ixN, optO, Out.bind, Out.st, SO.out, SO.outI, SO.seq, SO.turn, binO, cmp_lt, cmp_le, cmp_gt, cmp_ge, cmp_eqI, cmp_neI, cmp_eqT, cmp_neT, cmp_eqL, cmp_neL, cmp_eqS, cmp_neS, cmp_eqB, cmp_neB, cmp_eqN, cmp_neN, cmp_eqR, cmp_neR, cmp_is, cmp_isN, isN_n, isN_t, isN_R, isN_i, grd, Px.cn, biO, biSum, biAbs, biInt, intsOf, lcRun, lcGo, lcStep, lcK, rangeD, okR, asg, setAll, noEx, wipeR, noLam, ifK, frGo, mapB, List.range, List.range.loop, f_shortest, sqV, eqO_isE, hx, hy, hz, absN, ixL, ex, ey, ez, g1, c, db, ixV0, ixV1, ixV2, tup3, shortV, e]
    · by_cases hz : v.z = 0
      · have e : byV v = if 0 < v.y then (v.y.natAbs : Int) else -(v.y.natAbs : Int) := by simp [byV, leadV, gcdV, hx, hy, hz]
        by_cases c : 0 < v.y
        · rw [if_pos c] at e
          rw [e] at db
          simp [evSs, evS, evE, evEs, evI, evIf, evEo, evOr, evAnd, start, startI, getS, getO, seqF_t, seqF_l, seqF_s, atD, L2.atI, L2.ixN, optO, Out.bind, Out.st, SO.out, SO.outI, SO.seq, SO.turn, binO, cmp_lt, cmp_le, cmp_gt, cmp_ge, cmp_eqI, cmp_neI, cmp_eqT, cmp_neT, cmp_eqL, cmp_neL, cmp_eqS, cmp_neS, cmp_eqB, cmp_neB, cmp_eqN, cmp_neN, cmp_eqR, cmp_neR, cmp_is, cmp_isN, isN_n, isN_t, isN_R, isN_i, grd, Px.cn, biO, biSum, biAbs, biInt, intsOf, lcRun, lcGo, lcStep, lcK, rangeD, okR, asg, setAll, noEx, wipeR, noLam, ifK, frGo, mapB, List.range, List.range.loop, f_shortest, sqV, eqO_isE, hx, hy, hz, absN, ixL, ex, ey, ez, g1, c, db, ixV0, ixV1, ixV2, tup3, shortV, e]
        · rw [if_neg c] at e
          rw [e] at db
          simp [evSs, evS, evE, evEs, evI, evIf, evEo, evOr, evAnd, start, startI, getS, getO, seqF_t, seqF_l, seqF_s, atD, L2.atI, L2.ixN, optO, Out.bind, Out.st, SO.out, SO.outI, SO.seq, SO.turn, binO, cmp_lt, cmp_le, cmp_gt, cmp_ge, cmp_eqI, cmp_neI, cmp_eqT, cmp_neT, cmp_eqL, cmp_neL, cmp_eqS, cmp_neS, cmp_eqB, cmp_neB, cmp_eqN, cmp_neN, cmp_eqR, cmp_neR, cmp_is, cmp_isN, isN_n, isN_t, isN_R, isN_i, grd, Px.cn, biO, biSum, biAbs, biInt, intsOf, lcRun, lcGo, lcStep, lcK, rangeD, okR, asg, setAll, noEx, wipeR, noLam, ifK, frGo, mapB, List.range, List.range.loop, f_shortest, sqV, eqO_isE, hx, hy, hz, absN, ixL, ex, ey, ez, g1, c, db, ixV0, ixV1, ixV2, tup3, shortV, e]
      · have e : byV v = if 0 < v.y then (Nat.gcd v.y.natAbs v.z.natAbs : Int) else -(Nat.gcd v.y.natAbs v.z.natAbs : Int) := by simp [byV, leadV, gcdV, hx, hy, hz]
        by_cases c : 0 < v.y
        · rw [if_pos c] at e
          rw [e] at db
          simp [evSs, evS, evE, evEs, evI, evIf, evEo, evOr, evAnd, start, startI, getS, getO, seqF_t, seqF_l, seqF_s, atD, L2.atI, L2.ixN, optO, Out.bind, Out.st, SO.out, SO.outI, SO.seq, SO.turn, binO, cmp_lt, cmp_le, cmp_gt, cmp_ge, cmp_eqI, cmp_neI, cmp_eqT, cmp_neT, cmp_eqL, cmp_neL, cmp_eqS, cmp_neS, cmp_eqB, cmp_neB, cmp_eqN, cmp_neN, cmp_eqR, cmp_neR, cmp_is, cmp_isN, isN_n, isN_t, isN_R, isN_i, grd, Px.cn, biO, biSum, biAbs, biInt, intsOf, lcRun, lcGo, lcStep, lcK, rangeD, okR, asg, setAll, noEx, wipeR, noLam, ifK, frGo, mapB, List.range, List.range.loop, f_shortest, sqV, eqO_isE, hx, hy, hz, absN, ixL, ex, ey, ez, g2, c, db, ixV0, ixV1, ixV2, tup3, shortV, e]
        · rw [if_neg c] at e
          rw [e] at db
          simp [evSs, evS, evE, evEs, evI, evIf, evEo, evOr, evAnd, start, startI, getS, getO, seqF_t, seqF_l, seqF_s, atD, L2.atI, L2.ixN, optO, Out.bind, Out.st, SO.out, SO.outI, SO.seq, SO.turn, binO, cmp_lt, cmp_le, cmp_gt, cmp_ge, cmp_eqI, cmp_neI, cmp_eqT, cmp_neT, cmp_eqL, cmp_neL, cmp_eqS, cmp_neS, cmp_eqB, cmp_neB, cmp_eqN, cmp_neN, cmp_eqR, cmp_neR, cmp_is, cmp_isN, isN_n, isN_t, isN_R, isN_i, grd, Px.cn, biO, biSum, biAbs, biInt, intsOf, lcRun, lcGo, lcStep, lcK, rangeD, okR, asg, setAll, noEx, wipeR, noLam, ifK, frGo, mapB, List.range, List.range.loop, f_shortest, sqV, eqO_isE, hx, hy, hz, absN, ixL, ex, ey, ez, g2, c, db, ixV0, ixV1, ixV2, tup3, shortV, e]
  · by_cases hy : v.y = 0
    · by_cases hz : v.z = 0
      · have e : byV v = if 0 < v.x then (v.x.natAbs : Int) else -(v.x.natAbs : Int) := by simp [byV, leadV, gcdV, hx, hy, hz]
        by_cases c : 0 < v.x
        · rw [if_pos c] at e
          rw [e] at db
          simp [evSs, evS, evE, evEs, evI, evIf, evEo, evOr, evAnd, start, startI, getS, getO, seqF_t, seqF_l, seqF_s, atD, L2.atI, L2.ixN, optO, Out.bind, Out.st, SO.out, SO.outI, SO.seq, SO.turn, binO, cmp_lt, cmp_le, cmp_gt, cmp_ge, cmp_eqI, cmp_neI, cmp_eqT, cmp_neT, cmp_eqL, cmp_neL, cmp_eqS, cmp_neS, cmp_eqB, cmp_neB, cmp_eqN, cmp_neN, cmp_eqR, cmp_neR, cmp_is, cmp_isN, isN_n, isN_t, isN_R, isN_i, grd, Px.cn, biO, biSum, biAbs, biInt, intsOf, lcRun, lcGo, lcStep, lcK, rangeD, okR, asg, setAll, noEx, wipeR, noLam, ifK, frGo, mapB, List.range, List.range.loop, f_shortest, sqV, eqO_isE, hx, hy, hz, absN, ixL, ex, ey, ez, g1, c, db, ixV0, ixV1, ixV2, tup3, shortV, e]
        · rw [if_neg c] at e
          rw [e] at db
          simp [evSs, evS, evE, evEs, evI, evIf, evEo, evOr, evAnd, start, startI, getS, getO, seqF_t, seqF_l, seqF_s, atD, L2.atI, L2.ixN, optO, Out.bind, Out.st, SO.out, SO.outI, SO.seq, SO.turn, binO, cmp_lt, cmp_le, cmp_gt, cmp_ge, cmp_eqI, cmp_neI, cmp_eqT, cmp_neT, cmp_eqL, cmp_neL, cmp_eqS, cmp_neS, cmp_eqB, cmp_neB, cmp_eqN, cmp_neN, cmp_eqR, cmp_neR, cmp_is, cmp_isN, isN_n, isN_t, isN_R, isN_i, grd, Px.cn, biO, biSum, biAbs, biInt, intsOf, lcRun, lcGo, lcStep, lcK, rangeD, okR, asg, setAll, noEx, wipeR, noLam, ifK, frGo, mapB, List.range, List.range.loop, f_shortest, sqV, eqO_isE, hx, hy, hz, absN, ixL, ex, ey, ez, g1, c, db, ixV0, ixV1, ixV2, tup3, shortV, e]
      · have e : byV v = if 0 < v.x then (Nat.gcd v.x.natAbs v.z.natAbs : Int) else -(Nat.gcd v.x.natAbs v.z.natAbs : Int) := by simp [byV, leadV, gcdV, hx, hy, hz]
        by_cases c : 0 < v.x
        · rw [if_pos c] at e
          rw [e] at db
          simp [evSs, evS, evE, evEs, evI, evIf, evEo, evOr, evAnd, start, startI, getS, getO, seqF_t, seqF_l, seqF_s, atD, L2.atI, L2.ixN, optO, Out.bind, Out.st, SO.out, SO.outI, SO.seq, SO.turn, binO, cmp_lt, cmp_le, cmp_gt, cmp_ge, cmp_eqI, cmp_neI, cmp_eqT, cmp_neT, cmp_eqL, cmp_neL, cmp_eqS, cmp_neS, cmp_eqB, cmp_neB, cmp_eqN, cmp_neN, cmp_eqR, cmp_neR, cmp_is, cmp_isN, isN_n, isN_t, isN_R, isN_i, grd, Px.cn, biO, biSum, biAbs, biInt, intsOf, lcRun, lcGo, lcStep, lcK, rangeD, okR, asg, setAll, noEx, wipeR, noLam, ifK, frGo, mapB, List.range, List.range.loop, f_shortest, sqV, eqO_isE, hx, hy, hz, absN, ixL, ex, ey, ez, g2, c, db, ixV0, ixV1, ixV2, tup3, shortV, e]
        · rw [if_neg c] at e
          rw [e] at db
          simp [evSs, evS, evE, evEs, evI, evIf, evEo, evOr, evAnd, start, startI, getS, getO, seqF_t, seqF_l, seqF_s, atD, L2.atI, L2.ixN, optO, Out.bind, Out.st, SO.out, SO.outI, SO.seq, SO.turn, binO, cmp_lt, cmp_le, cmp_gt, cmp_ge, cmp_eqI, cmp_neI, cmp_eqT, cmp_neT, cmp_eqL, cmp_neL, cmp_eqS, cmp_neS, cmp_eqB, cmp_neB, cmp_eqN, cmp_neN, cmp_eqR, cmp_neR, cmp_is, cmp_isN, isN_n, isN_t, isN_R, isN_i, grd, Px.cn, biO, biSum, biAbs, biInt, intsOf, lcRun, lcGo, lcStep, lcK, rangeD, okR, asg, setAll, noEx, wipeR, noLam, ifK, frGo, mapB, List.range, List.range.loop, f_shortest, sqV, eqO_isE, hx, hy, hz, absN, ixL, ex, ey, ez, g2, c, db, ixV0, ixV1, ixV2, tup3, shortV, e]
    · by_cases hz : v.z = 0
      · have e : byV v = if 0 < v.x then (Nat.gcd v.x.natAbs v.y.natAbs : Int) else -(Nat.gcd v.x.natAbs v.y.natAbs : Int) := by simp [byV, leadV, gcdV, hx, hy, hz]
        by_cases c : 0 < v.x
        · rw [if_pos c] at e
          rw [e] at db
          simp [evSs, evS, evE, evEs, evI, evIf, evEo, evOr, evAnd, start, startI, getS, getO, seqF_t, seqF_l, seqF_s, atD, L2.atI, L2.ixN, optO, Out.bind, Out.st, SO.out, SO.outI, SO.seq, SO.turn, binO, cmp_lt, cmp_le, cmp_gt, cmp_ge, cmp_eqI, cmp_neI, cmp_eqT, cmp_neT, cmp_eqL, cmp_neL, cmp_eqS, cmp_neS, cmp_eqB, cmp_neB, cmp_eqN, cmp_neN, cmp_eqR, cmp_neR, cmp_is, cmp_isN, isN_n, isN_t, isN_R, isN_i, grd, Px.cn, biO, biSum, biAbs, biInt, intsOf, lcRun, lcGo, lcStep, lcK, rangeD, okR, asg, setAll, noEx, wipeR, noLam, ifK, frGo, mapB, List.range, List.range.loop, f_shortest, sqV, eqO_isE, hx, hy, hz, absN, ixL, ex, ey, ez, g2, c, db, ixV0, ixV1, ixV2, tup3, shortV, e]
        · rw [if_neg c] at e
          rw [e] at db
          simp [evSs, evS, evE, evEs, evI, evIf, evEo, evOr, evAnd, start, startI, getS, getO, seqF_t, seqF_l, seqF_s, atD, L2.atI, L2.ixN, optO, Out.bind, Out.st, SO.out, SO.outI, SO.seq, SO.turn, binO, cmp_lt, cmp_le, cmp_gt, cmp_ge, cmp_eqI, cmp_neI, cmp_eqT, cmp_neT, cmp_eqL, cmp_neL, cmp_eqS, cmp_neS, cmp_eqB, cmp_neB, cmp_eqN, cmp_neN, cmp_eqR, cmp_neR, cmp_is, cmp_isN, isN_n, isN_t, isN_R, isN_i, grd, Px.cn, biO, biSum, biAbs, biInt, intsOf, lcRun, lcGo, lcStep, lcK, rangeD, okR, asg, setAll, noEx, wipeR, noLam, ifK, frGo, mapB, List.range, List.range.loop, f_shortest, sqV, eqO_isE, hx, hy, hz, absN, ixL, ex, ey, ez, g2, c, db, ixV0, ixV1, ixV2, tup3, shortV, e]
      · have e : byV v = if 0 < v.x then (Nat.gcd (Nat.gcd v.x.natAbs v.y.natAbs) v.z.natAbs : Int) else -(Nat.gcd (Nat.gcd v.x.natAbs v.y.natAbs) v.z.natAbs : Int) := by simp [byV, leadV, gcdV, hx, hy, hz]
        by_cases c : 0 < v.x
        · rw [if_pos c] at e
          rw [e] at db
          simp [evSs, evS, evE, evEs, evI, evIf, evEo, evOr, evAnd, start, startI, getS, getO, seqF_t, seqF_l, seqF_s, atD, L2.atI, L2.ixN, optO, Out.bind, Out.st, SO.out, SO.outI, SO.seq, SO.turn, binO, cmp_lt, cmp_le, cmp_gt, cmp_ge, cmp_eqI, cmp_neI, cmp_eqT, cmp_neT, cmp_eqL, cmp_neL, cmp_eqS, cmp_neS, cmp_eqB, cmp_neB, cmp_eqN, cmp_neN, cmp_eqR, cmp_neR, cmp_is, cmp_isN, isN_n, isN_t, isN_R, isN_i, grd, Px.cn, biO, biSum, biAbs, biInt, intsOf, lcRun, lcGo, lcStep, lcK, rangeD, okR, asg, setAll, noEx, wipeR, noLam, ifK, frGo, mapB, List.range, List.range.loop, f_shortest, sqV, eqO_isE, hx, hy, hz, absN, ixL, ex, ey, ez, g3, c, db, ixV0, ixV1, ixV2, tup3, shortV, e]
        · rw [if_neg c] at e
          rw [e] at db
          simp [evSs, evS, evE, evEs, evI, evIf, evEo, evOr, evAnd, start, startI, getS, getO, seqF_t, seqF_l, seqF_s, atD, L2.atI, L2.ixN, optO, Out.bind, Out.st, SO.out, SO.outI, SO.seq, SO.turn, binO, cmp_lt, cmp_le, cmp_gt, cmp_ge, cmp_eqI, cmp_neI, cmp_eqT, cmp_neT, cmp_eqL, cmp_neL, cmp_eqS, cmp_neS, cmp_eqB, cmp_neB, cmp_eqN, cmp_neN, cmp_eqR, cmp_neR, cmp_is, cmp_isN, isN_n, isN_t, isN_R, isN_i, grd, Px.cn, biO, biSum, biAbs, biInt, intsOf, lcRun, lcGo, lcStep, lcK, rangeD, okR, asg, setAll, noEx, wipeR, noLam, ifK, frGo, mapB, List.range, List.range.loop, f_shortest, sqV, eqO_isE, hx, hy, hz, absN, ixL, ex, ey, ez, g3, c, db, ixV0, ixV1, ixV2, tup3, shortV, e]
def optV : Option V3 → D
  | none => .non
  | some v => vD v
def shareF (u v : V3) : Option V3 := if u.cross v = V3.o then none else some (shortV (u.cross v))
theorem r_shared {m2 : Int} (hn : 3 ≤ n) (hu : Vw 14 u) (hv : Vw 14 v) : runs px n 0 24 [fcD u m, fcD v m2] M = .ok (optV (shareF u v)) M := by
  rw [run_pos (fd := f_Face_shared_way) rfl _ _ (by omega) rfl rfl rfl]
  have e1 := fun M => r_across (n := n - 1) (u := u) (v := v) (M := M) (by omega) hu hv (by omega)
  by_cases c : u.cross v = V3.o
  · simp [evSs, evS, evE, evEs, evI, evIf, evEo, evOr, evAnd, start, startI, getS, getO, seqF_t, seqF_l, seqF_s, atD, L2.atI, L2.ixN, optO, Out.bind, Out.st, SO.out, SO.outI, SO.seq, SO.turn, binO, cmp_lt, cmp_le, cmp_gt, cmp_ge, cmp_eqI, cmp_neI, cmp_eqT, cmp_neT, cmp_eqL, cmp_neL, cmp_eqS, cmp_neS, cmp_eqB, cmp_neB, cmp_eqN, cmp_neN, cmp_eqR, cmp_neR, cmp_is, cmp_isN, isN_n, isN_t, isN_R, isN_i, grd, Px.cn, biO, biSum, biAbs, biInt, intsOf, lcRun, lcGo, lcStep, lcK, rangeD, okR, asg, setAll, noEx, wipeR, noLam, ifK, frGo, mapB, List.range, List.range.loop, f_Face_shared_way, fl4, fl5, e1, gl0, cmp_neV, eqO_V, c, shareF, optV]
  · have e2 := fun M => r_short (n := n - 1) (M := M) (by omega) ((hu.cross hv).mono (by omega)) c
    simp [evSs, evS, evE, evEs, evI, evIf, evEo, evOr, evAnd, start, startI, getS, getO, seqF_t, seqF_l, seqF_s, atD, L2.atI, L2.ixN, optO, Out.bind, Out.st, SO.out, SO.outI, SO.seq, SO.turn, binO, cmp_lt, cmp_le, cmp_gt, cmp_ge, cmp_eqI, cmp_neI, cmp_eqT, cmp_neT, cmp_eqL, cmp_neL, cmp_eqS, cmp_neS, cmp_eqB, cmp_neB, cmp_eqN, cmp_neN, cmp_eqR, cmp_neR, cmp_is, cmp_isN, isN_n, isN_t, isN_R, isN_i, grd, Px.cn, biO, biSum, biAbs, biInt, intsOf, lcRun, lcGo, lcStep, lcK, rangeD, okR, asg, setAll, noEx, wipeR, noLam, ifK, frGo, mapB, List.range, List.range.loop, f_Face_shared_way, fl4, fl5, e1, gl0, cmp_neV, eqO_V, c, shareF, optV, e2]
end
end Q3
set_option Elab.async false
set_option linter.all false
set_option maxRecDepth 100000
set_option maxHeartbeats 4000000
/-! Q3D: several faces; the law's own sums. -/
namespace Q3
open PI
def meet3 (u1 : V3) (m1 : Int) (u2 : V3) (m2 : Int) (u3 : V3) (m3 : Int) : Option Q3 :=
  if u1.dot (u2.cross u3) = 0 then none else some
    ⟨Rat.divInt (m1 * (u2.cross u3).x + m2 * (u3.cross u1).x + m3 * (u1.cross u2).x) (u1.dot (u2.cross u3)),
     Rat.divInt (m1 * (u2.cross u3).y + m2 * (u3.cross u1).y + m3 * (u1.cross u2).y) (u1.dot (u2.cross u3)),
     Rat.divInt (m1 * (u2.cross u3).z + m2 * (u3.cross u1).z + m3 * (u1.cross u2).z) (u1.dot (u2.cross u3))⟩
def optQ : Option Q3 → D
  | none => .non
  | some v => qD v
/-- the first of many: what is told so far -/
def bestS (b : Option (Rat × Int)) (k : Int) : Option Rat → Option (Rat × Int)
  | none => b
  | some q => match b with
    | none => some (q, k)
    | some (r, i) => if q < r then some (q, k) else some (r, i)
def bestD : Option (Rat × Int) → D
  | none => .non
  | some (q, k) => .tup [R q, .int k]
section
variable {n : Nat} {M : Store} {s w s2 w2 u v p u1 u2 u3 : V3} {q : Rat} {m m1 m2 m3 : Int}
theorem r_three (hn : 3 ≤ n) (h1 : Vw 8 u1) (h2 : Vw 8 u2) (h3 : Vw 8 u3) (n1 : W 50 m1) (n2 : W 50 m2) (n3 : W 50 m3) : runs px n 0 27 [fcD u1 m1, fcD u2 m2, fcD u3 m3] M = .ok (optQ (meet3 u1 m1 u2 m2 u3 m3)) M := by
  rw [run_pos (fd := f_three_meet) rfl _ _ (by omega) rfl rfl rfl]
  have c1 := h2.cross h3
  have c2 := h3.cross h1
  have c3 := h1.cross h2
  have e1 := fun M => r_across (n := n - 1) (u := u2) (v := u3) (M := M) (by omega) h2 h3 (by omega)
  have e2 := fun M => r_across (n := n - 1) (u := u3) (v := u1) (M := M) (by omega) h3 h1 (by omega)
  have e3 := fun M => r_across (n := n - 1) (u := u1) (v := u2) (M := M) (by omega) h1 h2 (by omega)
  have e4 := fun M => r_along (n := n - 1) (u := u1) (v := u2.cross u3) (M := M) (by omega) h1 c1 (by omega)
  by_cases c : u1.dot (u2.cross u3) = 0
  · simp [evSs, evS, evE, evEs, evI, evIf, evEo, evOr, evAnd, start, startI, getS, getO, seqF_t, seqF_l, seqF_s, atD, L2.atI, L2.ixN, optO, Out.bind, Out.st, SO.out, SO.outI, SO.seq, SO.turn, binO, cmp_lt, cmp_le, cmp_gt, cmp_ge, cmp_eqI, cmp_neI, cmp_eqT, cmp_neT, cmp_eqL, cmp_neL, cmp_eqS, cmp_neS, cmp_eqB, cmp_neB, cmp_eqN, cmp_neN, cmp_eqR, cmp_neR, cmp_is, cmp_isN, isN_n, isN_t, isN_R, isN_i, grd, Px.cn, biO, biSum, biAbs, biInt, intsOf, lcRun, lcGo, lcStep, lcK, rangeD, okR, asg, setAll, noEx, wipeR, noLam, ifK, frGo, mapB, List.range, List.range.loop, f_three_meet, fl4, fl5, e1, e2, e3, e4, ixT, c, meet3, optQ]
  · have hu : Und 30 (u1.dot (u2.cross u3)) := ⟨(h1.dot c1).mono (by omega), c, .inr (by omega)⟩
    have e5 := fun (a : Int) M => r_plain (n := n - 1) (a := a) (M := M) (by omega) hu (by omega)
    have a1 := n1.mulB c1.x (by omega)
    have a2 := n1.mulB c1.y (by omega)
    have a3 := n1.mulB c1.z (by omega)
    have b1 := n2.mulB c2.x (by omega)
    have b2 := n2.mulB c2.y (by omega)
    have b3 := n2.mulB c2.z (by omega)
    have d1 := n3.mulB c3.x (by omega)
    have d2 := n3.mulB c3.y (by omega)
    have d3 := n3.mulB c3.z (by omega)
    simp [evSs, evS, evE, evEs, evI, evIf, evEo, evOr, evAnd, start, startI, getS, getO, seqF_t, seqF_l, seqF_s, atD, L2.atI, L2.ixN, optO, Out.bind, Out.st, SO.out, SO.outI, SO.seq, SO.turn, binO, cmp_lt, cmp_le, cmp_gt, cmp_ge, cmp_eqI, cmp_neI, cmp_eqT, cmp_neT, cmp_eqL, cmp_neL, cmp_eqS, cmp_neS, cmp_eqB, cmp_neB, cmp_eqN, cmp_neN, cmp_eqR, cmp_neR, cmp_is, cmp_isN, isN_n, isN_t, isN_R, isN_i, grd, Px.cn, biO, biSum, biAbs, biInt, intsOf, lcRun, lcGo, lcStep, lcK, rangeD, okR, asg, setAll, noEx, wipeR, noLam, ifK, frGo, mapB, List.range, List.range.loop, f_three_meet, fl4, fl5, e1, e2, e3, e4, e5, ixT, ixV0, ixV1, ixV2, btL, a1, a2, a3, b1, b2, b3, d1, d2, d3, c, meet3, optQ, qD]
def nrmF (a b c : V3) : V3 := (b.sub a).cross (c.sub a)
theorem r_faceof (hn : 4 ≤ n) {a b c : V3} (ha : Vw 8 a) (hb : Vw 8 b) (hc : Vw 8 c) (h : nrmF a b c ≠ V3.o) : runs px n 0 26 [vD a, vD b, vD c] M = .ok (fcD (nrmF a b c) ((nrmF a b c).dot a)) M := by
  rw [run_pos (fd := f_face_of) rfl _ _ (by omega) rfl rfl rfl]
  have e1 := fun M => r_minus (n := n - 1) (u := b) (v := a) (M := M) (by omega)
  have e2 := fun M => r_minus (n := n - 1) (u := c) (v := a) (M := M) (by omega)
  have h1 := hb.sub ha
  have h2 := hc.sub ha
  have e3 := fun M => r_across (n := n - 1) (u := b.sub a) (v := c.sub a) (M := M) (by omega) h1 h2 (by omega)
  have e4 := fun M => r_along (n := n - 1) (u := (b.sub a).cross (c.sub a)) (v := a) (M := M) (by omega) (h1.cross h2) ha (by omega)
  unfold nrmF at *
  have e5 := fun M m => r_face (n := n - 1) (M := M) (m := m) (by omega) h
  simp [evSs, evS, evE, evEs, evI, evIf, evEo, evOr, evAnd, start, startI, getS, getO, seqF_t, seqF_l, seqF_s, atD, L2.atI, L2.ixN, optO, Out.bind, Out.st, SO.out, SO.outI, SO.seq, SO.turn, binO, cmp_lt, cmp_le, cmp_gt, cmp_ge, cmp_eqI, cmp_neI, cmp_eqT, cmp_neT, cmp_eqL, cmp_neL, cmp_eqS, cmp_neS, cmp_eqB, cmp_neB, cmp_eqN, cmp_neN, cmp_eqR, cmp_neR, cmp_is, cmp_isN, isN_n, isN_t, isN_R, isN_i, grd, Px.cn, biO, biSum, biAbs, biInt, intsOf, lcRun, lcGo, lcStep, lcK, rangeD, okR, asg, setAll, noEx, wipeR, noLam, ifK, frGo, mapB, List.range, List.range.loop, f_face_of, e1, e2, e3, e4, gl0, cmp_eqV, eqO_V, h, e5, mkO]
  simp [fcD]
theorem r_faceof0 (hn : 4 ≤ n) {a b c : V3} (ha : Vw 8 a) (hb : Vw 8 b) (hc : Vw 8 c) (h : nrmF a b c = V3.o) : runs px n 0 26 [vD a, vD b, vD c] M = .ex 52 M := by
  rw [run_pos (fd := f_face_of) rfl _ _ (by omega) rfl rfl rfl]
  have e1 := fun M => r_minus (n := n - 1) (u := b) (v := a) (M := M) (by omega)
  have e2 := fun M => r_minus (n := n - 1) (u := c) (v := a) (M := M) (by omega)
  have h1 := hb.sub ha
  have h2 := hc.sub ha
  have e3 := fun M => r_across (n := n - 1) (u := b.sub a) (v := c.sub a) (M := M) (by omega) h1 h2 (by omega)
  unfold nrmF at *
  simp [evSs, evS, evE, evEs, evI, evIf, evEo, evOr, evAnd, start, startI, getS, getO, seqF_t, seqF_l, seqF_s, atD, L2.atI, L2.ixN, optO, Out.bind, Out.st, SO.out, SO.outI, SO.seq, SO.turn, binO, cmp_lt, cmp_le, cmp_gt, cmp_ge, cmp_eqI, cmp_neI, cmp_eqT, cmp_neT, cmp_eqL, cmp_neL, cmp_eqS, cmp_neS, cmp_eqB, cmp_neB, cmp_eqN, cmp_neN, cmp_eqR, cmp_neR, cmp_is, cmp_isN, isN_n, isN_t, isN_R, isN_i, grd, Px.cn, biO, biSum, biAbs, biInt, intsOf, lcRun, lcGo, lcStep, lcK, rangeD, okR, asg, setAll, noEx, wipeR, noLam, ifK, frGo, mapB, List.range, List.range.loop, f_face_of, e1, e2, e3, gl0, cmp_eqV, eqO_V, h]
theorem meet_q (hu : Vw 14 u) (hm : W 20 m) (hs : Vw 8 s) (hw : Vw 8 w) (e : meetF u m s w = some q) : Q (if u.dot w = 0 then 1 else (u.dot w).natAbs) 30 q := by
  unfold meetF at e
  split at e
  · rename_i c
    split at e
    · cases e
      rw [if_pos c]
      exact ⟨by decide, by unfold W; decide⟩
    · cases e
  · rename_i c
    rw [if_neg c]
    split at e
    · cases e
      have := (hm.sub (hu.dot hs)).mono (show _ ≤ 30 by omega)
      exact Q.of_divInt c (Nat.dvd_refl _) this
    · cases e
theorem meet_qs (hu : Vw 14 u) (hm : W 20 m) (hs : Vw 8 s) (hw : Vw 8 w) (e : meetF u m s w = some q) : Qs 24 q := by
  have := meet_q hu hm hs hw e
  split at this
  · exact this.s (j := 24) (by omega) (by decide) (by omega)
  · rename_i c
    exact this.s (j := 24) (Int.natAbs_pos.mpr c) (hu.dot hw) (by omega)
def bodyF : Ss := .cons (.set 5 (.meth (.v 4) 6 (.cons (.v 1) .nil))) (.cons (.ife (.and (.cons (.cmp .isNN (.v 5) .non) (.cons (.or (.cons (.cmp .isN (.v 2) .non) (.cons (.cmp .lt (.call 8 (.cons (.v 5) (.cons (.ix (.v 2) (.int 0)) .nil))) (.int 0)) .nil))) .nil))) (.cons (.set 2 (.tup (.cons (.v 5) (.cons (.v 3) .nil)))) .nil) .nil) .nil)
theorem first_eq : f_first_of = ⟨2, 6, 0, .cons (.set 2 .non) (.cons (.fr (.tp [3, 4]) (.enum (.v 0)) bodyF) (.cons (.ret (.v 2)) .nil)), none⟩ := rfl
theorem r_first (hn : 4 ≤ n) (h1 : Vw 14 u1) (h2 : Vw 14 u2) (h3 : Vw 14 u3) (n1 : W 20 m1) (n2 : W 20 m2) (n3 : W 20 m3) (hs : Vw 8 s) (hw : Vw 8 w) : runs px n 0 28 [.lst [fcD u1 m1, fcD u2 m2, fcD u3 m3], lnD s w] M = .ok (bestD (bestS (bestS (bestS none 0 (meetF u1 m1 s w)) 1 (meetF u2 m2 s w)) 2 (meetF u3 m3 s w))) M := by
  rw [run_pos (fd := f_first_of) rfl _ _ (by omega) rfl rfl rfl]
  have e1 := fun M => r_meets (m := m1) (n := n - 1) (M := M) (by omega) h1 (hs.mono (by omega)) hw
  have e2 := fun M => r_meets (m := m2) (n := n - 1) (M := M) (by omega) h2 (hs.mono (by omega)) hw
  have e3 := fun M => r_meets (m := m3) (n := n - 1) (M := M) (by omega) h3 (hs.mono (by omega)) hw
  have q1 := fun q => meet_qs (q := q) h1 n1 hs hw
  have q2 := fun q => meet_qs (q := q) h2 n2 hs hw
  have q3 := fun q => meet_qs (q := q) h3 n3 hs hw
  have o := fun (x y : Rat) (hx : Qs 24 x) (hy : Qs 24 y) M => r_order (n := n - 1) (M := M) (by omega) hx hy (by omega)
  have sg : ∀ x y : Rat, (bI (decide (y < x)) - bI (decide (x < y)) < 0) = (x < y) := fun x y => by
    by_cases h : x < y
    · have : ¬ y < x := by rw [Rat.not_lt]; exact Rat.le_of_lt h
      simp [h, this, bI]
    · by_cases h' : y < x <;> simp [h, h', bI]
  generalize meetF u1 m1 s w = a at *
  generalize meetF u2 m2 s w = b at *
  generalize meetF u3 m3 s w = c at *
  have step : ∀ (b : Option (Rat × Int)) (k : Int) (a : Option Rat) (f l d3 d4 : D) (fm : ∀ M, runs px (n - 1) 0 22 [f, lnD s w] M = .ok (optR a) M) (hm : ∀ M, mthO px.mt M f 6 = some 22) (ha : ∀ q, a = some q → Qs 24 q) (hb : ∀ q i, b = some (q, i) → Qs 24 q) (x3 x4 x5 : Slot) (M : Store), ∃ y5, evSs (px.cn (n - 1) 0 (runs px (n - 1))) bodyF [.v l, .v (lnD s w), .v (bestD b), .v (.int k), .v f, x5] M = .nx [.v l, .v (lnD s w), .v (bestD (bestS b k a)), .v (.int k), .v f, y5] M := by
    intro b k a f l d3 d4 fm hm ha hb x3 x4 x5 M
    cases a with
    | none => exact ⟨.v .non, by simp [bodyF, evSs, evS, evE, evEs, evI, evIf, evEo, evOr, evAnd, start, startI, getS, getO, seqF_t, seqF_l, seqF_s, atD, L2.atI, L2.ixN, optO, Out.bind, Out.st, SO.out, SO.outI, SO.seq, SO.turn, binO, cmp_lt, cmp_le, cmp_gt, cmp_ge, cmp_eqI, cmp_neI, cmp_eqT, cmp_neT, cmp_eqL, cmp_neL, cmp_eqS, cmp_neS, cmp_eqB, cmp_neB, cmp_eqN, cmp_neN, cmp_eqR, cmp_neR, cmp_is, cmp_isN, isN_n, isN_t, isN_R, isN_i, grd, Px.cn, biO, biSum, biAbs, biInt, intsOf, lcRun, lcGo, lcStep, lcK, rangeD, okR, asg, setAll, noEx, wipeR, noLam, ifK, frGo, mapB, List.range, List.range.loop, kMeth, hm, fm, optR, bestS]⟩
    | some q =>
      refine ⟨.v (R q), ?_⟩
      cases b with
      | none => simp [bodyF, evSs, evS, evE, evEs, evI, evIf, evEo, evOr, evAnd, start, startI, getS, getO, seqF_t, seqF_l, seqF_s, atD, L2.atI, L2.ixN, optO, Out.bind, Out.st, SO.out, SO.outI, SO.seq, SO.turn, binO, cmp_lt, cmp_le, cmp_gt, cmp_ge, cmp_eqI, cmp_neI, cmp_eqT, cmp_neT, cmp_eqL, cmp_neL, cmp_eqS, cmp_neS, cmp_eqB, cmp_neB, cmp_eqN, cmp_neN, cmp_eqR, cmp_neR, cmp_is, cmp_isN, isN_n, isN_t, isN_R, isN_i, grd, Px.cn, biO, biSum, biAbs, biInt, intsOf, lcRun, lcGo, lcStep, lcK, rangeD, okR, asg, setAll, noEx, wipeR, noLam, ifK, frGo, mapB, List.range, List.range.loop, kMeth, hm, fm, optR, bestS, bestD]
      | some t =>
        obtain ⟨r, i⟩ := t
        obtain ⟨z, sg, e⟩ : ∃ z : Int, (z < 0 ↔ q < r) ∧ ∀ M, runs px (n - 1) 0 8 [R q, R r] M = .ok (.int z) M := ⟨_, by rw [sg], o q r (ha q rfl) (hb r i rfl)⟩
        by_cases h : q < r
        · simp [bodyF, evSs, evS, evE, evEs, evI, evIf, evEo, evOr, evAnd, start, startI, getS, getO, seqF_t, seqF_l, seqF_s, atD, L2.atI, L2.ixN, optO, Out.bind, Out.st, SO.out, SO.outI, SO.seq, SO.turn, binO, cmp_lt, cmp_le, cmp_gt, cmp_ge, cmp_eqI, cmp_neI, cmp_eqT, cmp_neT, cmp_eqL, cmp_neL, cmp_eqS, cmp_neS, cmp_eqB, cmp_neB, cmp_eqN, cmp_neN, cmp_eqR, cmp_neR, cmp_is, cmp_isN, isN_n, isN_t, isN_R, isN_i, grd, Px.cn, biO, biSum, biAbs, biInt, intsOf, lcRun, lcGo, lcStep, lcK, rangeD, okR, asg, setAll, noEx, wipeR, noLam, ifK, frGo, mapB, List.range, List.range.loop, kMeth, hm, fm, optR, bestS, bestD, ixT, e, sg, h]
        · simp [bodyF, evSs, evS, evE, evEs, evI, evIf, evEo, evOr, evAnd, start, startI, getS, getO, seqF_t, seqF_l, seqF_s, atD, L2.atI, L2.ixN, optO, Out.bind, Out.st, SO.out, SO.outI, SO.seq, SO.turn, binO, cmp_lt, cmp_le, cmp_gt, cmp_ge, cmp_eqI, cmp_neI, cmp_eqT, cmp_neT, cmp_eqL, cmp_neL, cmp_eqS, cmp_neS, cmp_eqB, cmp_neB, cmp_eqN, cmp_neN, cmp_eqR, cmp_neR, cmp_is, cmp_isN, isN_n, isN_t, isN_R, isN_i, grd, Px.cn, biO, biSum, biAbs, biInt, intsOf, lcRun, lcGo, lcStep, lcK, rangeD, okR, asg, setAll, noEx, wipeR, noLam, ifK, frGo, mapB, List.range, List.range.loop, kMeth, hm, fm, optR, bestS, bestD, ixT, e, sg, h]
  have bq : ∀ (b : Option (Rat × Int)) (k : Int) (a : Option Rat), (∀ q, a = some q → Qs 24 q) → (∀ q i, b = some (q, i) → Qs 24 q) → ∀ q i, bestS b k a = some (q, i) → Qs 24 q := by
    intro b k a ha hb q i e
    cases a with
    | none => exact hb q i e
    | some x =>
      cases b with
      | none => simp [bestS] at e; exact ha q (by rw [e.1])
      | some t =>
        obtain ⟨r, j⟩ := t
        simp only [bestS] at e
        split at e
        · cases e; exact ha q rfl
        · cases e; exact hb q i rfl
  have nb : ∀ (q : Rat) (i : Int), (none : Option (Rat × Int)) = some (q, i) → Qs 24 q := fun q i z => by cases z
  have b1 := bq none 0 a q1 nb
  have b2 := bq _ 1 b q2 b1
  have mf : ∀ (u : V3) (m : Int) (M : Store), mthO px.mt M (fcD u m) 6 = some 22 := fun _ _ _ => rfl
  obtain ⟨y1, s1⟩ := step none 0 a (fcD u1 m1) (.lst [fcD u1 m1, fcD u2 m2, fcD u3 m3]) .non .non e1 (mf _ _) q1 nb .un .un .un M
  obtain ⟨y2, s2⟩ := step _ 1 b (fcD u2 m2) (.lst [fcD u1 m1, fcD u2 m2, fcD u3 m3]) .non .non e2 (mf _ _) q2 b1 .un .un y1 M
  obtain ⟨y3, s3⟩ := step _ 2 c (fcD u3 m3) (.lst [fcD u1 m1, fcD u2 m2, fcD u3 m3]) .non .non e3 (mf _ _) q3 b2 .un .un y2 M
  have bn : bestD none = .non := rfl
  rw [bn] at s1
  have e0 : enumO (.lst [fcD u1 m1, fcD u2 m2, fcD u3 m3]) = some [.tup [.int 0, fcD u1 m1], .tup [.int 1, fcD u2 m2], .tup [.int 2, fcD u3 m3]] := rfl
  simp only [Px.cn] at s1 s2 s3
  simp [evSs, evS, evE, evEs, evI, evIf, evEo, evOr, evAnd, start, startI, getS, getO, seqF_t, seqF_l, seqF_s, atD, L2.atI, L2.ixN, optO, Out.bind, Out.st, SO.out, SO.outI, SO.seq, SO.turn, binO, cmp_lt, cmp_le, cmp_gt, cmp_ge, cmp_eqI, cmp_neI, cmp_eqT, cmp_neT, cmp_eqL, cmp_neL, cmp_eqS, cmp_neS, cmp_eqB, cmp_neB, cmp_eqN, cmp_neN, cmp_eqR, cmp_neR, cmp_is, cmp_isN, isN_n, isN_t, isN_R, isN_i, grd, Px.cn, biO, biSum, biAbs, biInt, intsOf, lcRun, lcGo, lcStep, lcK, rangeD, okR, asg, setAll, noEx, wipeR, noLam, ifK, frGo, mapB, List.range, List.range.loop, first_eq, e0, s1, s2, s3]
theorem r_inside (hn : 20 ≤ n) (h1 : Vw 14 u1) (h2 : Vw 14 u2) (h3 : Vw 14 u3) (hp : Vw 100 p) : runs px n 0 29 [.lst [fcD u1 m1, fcD u2 m2, fcD u3 m3], vD p] M = .ok (.bl (decide (sgn (offF u1 m1 p) ≤ 0) && (decide (sgn (offF u2 m2 p) ≤ 0) && decide (sgn (offF u3 m3 p) ≤ 0)))) M := by
  rw [run_cost (fd := f_is_inside) rfl _ _ (by show 6 + 1 ≤ n; omega) rfl rfl]
  have e1 := fun M => r_side (n := n - 1 - 6) (u := u1) (m := m1) (M := M) (by omega) (h1.mono (by omega)) hp
  have e2 := fun M => r_side (n := n - 1 - 6) (u := u2) (m := m2) (M := M) (by omega) (h2.mono (by omega)) hp
  have e3 := fun M => r_side (n := n - 1 - 6) (u := u3) (m := m3) (M := M) (by omega) (h3.mono (by omega)) hp
  generalize sgn (offF u1 m1 p) = a at *
  generalize sgn (offF u2 m2 p) = b at *
  generalize sgn (offF u3 m3 p) = c at *
  have ed : runs px (n - 1) 6 = runs px (n - 1 - 6) 0 := runs_down _ _ _
  by_cases c1 : a ≤ 0 <;> by_cases c2 : b ≤ 0 <;> by_cases c3 : c ≤ 0 <;> simp [evSs, evS, evE, evEs, evI, evIf, evEo, evOr, evAnd, start, startI, getS, getO, seqF_t, seqF_l, seqF_s, atD, L2.atI, L2.ixN, optO, Out.bind, Out.st, SO.out, SO.outI, SO.seq, SO.turn, binO, cmp_lt, cmp_le, cmp_gt, cmp_ge, cmp_eqI, cmp_neI, cmp_eqT, cmp_neT, cmp_eqL, cmp_neL, cmp_eqS, cmp_neS, cmp_eqB, cmp_neB, cmp_eqN, cmp_neN, cmp_eqR, cmp_neR, cmp_is, cmp_isN, isN_n, isN_t, isN_R, isN_i, grd, Px.cn, biO, biSum, biAbs, biInt, intsOf, lcRun, lcGo, lcStep, lcK, rangeD, okR, asg, setAll, noEx, wipeR, noLam, ifK, frGo, mapB, List.range, List.range.loop, f_is_inside, ed, qRun, qGo, roG, Pat.js, kMeth, mt7, e1, e2, e3, c1, c2, c3]
end
end Q3
set_option Elab.async false
set_option linter.all false
set_option maxRecDepth 100000
set_option maxHeartbeats 4000000
/-! Q3E: the law's own reckoning. -/
namespace Q3
open PI
def qL (v : Q3) : D := .lst [R v.x, R v.y, R v.z]
structure Qw (u k : Nat) (v : Q3) : Prop where
  x : Q u k v.x
  y : Q u k v.y
  z : Q u k v.z
def iQ (v : V3) : Q3 := ⟨v.x, v.y, v.z⟩
theorem Rneg (q : Rat) : D.tup [.int (-q.num), .int q.den] = R (-q) := rfl
theorem foldM (x y z : Rat) : D.lst [R x, R y, R z] = qL ⟨x, y, z⟩ := rfl
def subQ (a b : Q3) : Q3 := ⟨a.x + -b.x, a.y + -b.y, a.z + -b.z⟩
def dotQ (w : V3) (a : Q3) : Rat := w.x * a.x + w.y * a.y + w.z * a.z
def sqQ (a : Q3) : Rat := a.x * a.x + a.y * a.y + a.z * a.z
section
variable {M : Store} {a : Q3}
theorem ixQ0 : PI.ixO M (qD a) (.int 0) = some (R a.x) := rfl
theorem ixQ1 : PI.ixO M (qD a) (.int 1) = some (R a.y) := rfl
theorem ixQ2 : PI.ixO M (qD a) (.int 2) = some (R a.z) := rfl
theorem ixM0 : PI.ixO M (qL a) (.int 0) = some (R a.x) := rfl
theorem ixM1 : PI.ixO M (qL a) (.int 1) = some (R a.y) := rfl
theorem ixM2 : PI.ixO M (qL a) (.int 2) = some (R a.z) := rfl
theorem ixMa : PI.ixO M (qL a) (.int (-1)) = some (R a.z) := rfl
theorem sqM : seqF (qL a) = some [R a.x, R a.y, R a.z] := rfl
theorem sqQ_ : seqF (qD a) = some [R a.x, R a.y, R a.z] := rfl
end
theorem Q.s48 {u k : Nat} {q : Rat} (h : Q u k q) (h0 : 0 < u) (hu : u < 2 ^ 48) (hk : k ≤ 1000000) : Qs 48 q := h.s h0 hu hk
section
variable {n : Nat} {M : Store} {s w s2 w2 u v p : V3} {a b : Q3} {x y z : Rat}
theorem r_lgcd (hn : 61 ≤ n) {i j : Int} (hj : W 30 j) : runs px n 0 34 [.int i, .int j] M = .ok (.int (Int.gcd i j)) M := run_gcd rfl 30 n i j M hj (by omega)
theorem r_lshare (hn : 62 ≤ n) {i j : Int} (hj : Und 30 j) : runs px n 0 35 [.int i, .int j] M = .ok (R (Rat.divInt i j)) M := run_share (c := 34) rfl rfl n M hj (by omega) (by omega)
theorem r_ladd (hn : 195 ≤ n) (hx : Qs 48 x) (hy : Qs 48 y) : runs px n 0 36 [R x, R y] M = .ok (R (x + y)) M := run_add (s := 35) (c := 34) rfl rfl rfl n M hx hy (by omega) hn
theorem r_lmul (hn : 195 ≤ n) (hx : Qs 48 x) (hy : Qs 48 y) : runs px n 0 37 [R x, R y] M = .ok (R (x * y)) M := run_mul (s := 35) (c := 34) rfl rfl rfl n M hx hy (by omega) hn
theorem r_less (hn : 1 ≤ n) (hx : Qs 48 x) (hy : Qs 48 y) : runs px n 0 38 [R x, R y] M = .ok (.bl (decide (x < y))) M := run_less rfl hn hx hy (by omega)
theorem r_dot (hn : 1 ≤ n) {a b : Nat} (hu : Vw a u) (hv : Vw b v) (hab : a + b < 100000000) : runs px n 0 39 [vD u, vD v] M = .ok (.int (u.dot v)) M := run_dot rfl hn hu hv hab
theorem r_cross (hn : 1 ≤ n) {a b : Nat} (hu : Vw a u) (hv : Vw b v) (hab : a + b < 100000000) : runs px n 0 40 [vD u, vD v] M = .ok (vD (u.cross v)) M := run_cross rfl hn hu hv hab
theorem r_from (hn : 1 ≤ n) : runs px n 0 41 [vD u, vD v] M = .ok (vD (u.sub v)) M := run_from rfl hn
theorem at_q {d k : Nat} (hs : Vw 8 s) (hw : Vw 8 w) (hq : Q d k x) (h0 : 0 < d) (hd : d < 2 ^ 48) : Qw d (k + 100) (atQ s w x) := by
  have key : ∀ i j : Int, W 8 i → W 8 j → Q d (k + 100) ((i : Rat) + j * x) := fun i j hi hj => by
    have m : Q d (8 + k) ((j : Rat) * x) := by
      have := (q_one (u := 1) hj).mul hq
      rwa [Nat.one_mul] at this
    have := ((q_one (u := d) hi).mono (show 8 ≤ 8 + k by omega)).add m h0 hd
    exact this.mono (by omega)
  exact ⟨key _ _ hs.x hw.x, key _ _ hs.y hw.y, key _ _ hs.z hw.z⟩
theorem r_lat {d k : Nat} (hn : 197 ≤ n) (hs : Vw 8 s) (hw : Vw 8 w) (hq : Q d k x) (h0 : 0 < d) (hd : d < 2 ^ 48) (hk : k ≤ 100000) : runs px n 0 43 [vD s, vD w, R x] M = .ok (qD (atQ s w x)) M := by
  rw [run_pos (fd := f__law_at) rfl _ _ (by omega) rfl rfl rfl]
  have hx : Qs 48 x := hq.s h0 hd (by omega)
  have t1 : ∀ {i : Int}, W 8 i → ∀ M, runs px (n - 1) 0 37 [R (i : Rat), R x] M = .ok (R (i * x)) M := fun hi M => r_lmul (by omega) (Qs_int hi (by omega) (by omega)) hx
  have t2 : ∀ {i j : Int}, W 8 i → W 8 j → ∀ M, runs px (n - 1) 0 36 [R (j : Rat), R (i * x)] M = .ok (R (j + i * x)) M := fun {i j} hi hj M => by
    have m : Q d (8 + k) ((i : Rat) * x) := by
      have := (q_one (u := 1) hi).mul hq
      rwa [Nat.one_mul] at this
    exact r_ladd (by omega) (Qs_int hj (by omega) (by omega)) (m.s h0 hd (by omega))
  simp [evSs, evS, evE, evEs, evI, evIf, evEo, evOr, evAnd, start, startI, getS, getO, seqF_t, seqF_l, seqF_s, atD, L2.atI, L2.ixN, optO, Out.bind, Out.st, SO.out, SO.outI, SO.seq, SO.turn, binO, cmp_lt, cmp_le, cmp_gt, cmp_ge, cmp_eqI, cmp_neI, cmp_eqT, cmp_neT, cmp_eqL, cmp_neL, cmp_eqS, cmp_neS, cmp_eqB, cmp_neB, cmp_eqN, cmp_neN, cmp_eqR, cmp_neR, cmp_is, cmp_isN, isN_n, isN_t, isN_R, isN_i, grd, Px.cn, biO, biSum, biAbs, biInt, intsOf, lcRun, lcGo, lcStep, lcK, rangeD, okR, asg, setAll, noEx, wipeR, noLam, ifK, frGo, mapB, List.range, List.range.loop, f__law_at, ixV0, ixV1, ixV2, btL, R_int, t1 hw.x, t1 hw.y, t1 hw.z, t2 hw.x hs.x, t2 hw.y hs.y, t2 hw.z hs.z, qD, atQ]
theorem gap_q {d k : Nat} (ha : Qw d k a) (hb : Qw d k b) (h0 : 0 < d) (hd : d < 2 ^ 48) : Qw d (k + 49) (subQ b a) := ⟨hb.x.add ha.x.neg h0 hd, hb.y.add ha.y.neg h0 hd, hb.z.add ha.z.neg h0 hd⟩
theorem r_gapM {d k : Nat} (hn : 197 ≤ n) (ha : Qw d k a) (hb : Qw d k b) (h0 : 0 < d) (hd : d < 2 ^ 48) (hk : k ≤ 100000) : runs px n 0 44 [qL a, qD b] M = .ok (qL (subQ b a)) M := by
  rw [run_pos (fd := f__law_gap) rfl _ _ (by omega) rfl rfl rfl]
  have t : ∀ {x y : Rat}, Q d k x → Q d k y → ∀ M, runs px (n - 1) 0 36 [R y, R (-x)] M = .ok (R (y + -x)) M := fun hx hy M => r_ladd (by omega) (hy.s h0 hd (by omega)) (hx.neg.s h0 hd (by omega))
  simp [evSs, evS, evE, evEs, evI, evIf, evEo, evOr, evAnd, start, startI, getS, getO, seqF_t, seqF_l, seqF_s, atD, L2.atI, L2.ixN, optO, Out.bind, Out.st, SO.out, SO.outI, SO.seq, SO.turn, binO, cmp_lt, cmp_le, cmp_gt, cmp_ge, cmp_eqI, cmp_neI, cmp_eqT, cmp_neT, cmp_eqL, cmp_neL, cmp_eqS, cmp_neS, cmp_eqB, cmp_neB, cmp_eqN, cmp_neN, cmp_eqR, cmp_neR, cmp_is, cmp_isN, isN_n, isN_t, isN_R, isN_i, grd, Px.cn, biO, biSum, biAbs, biInt, intsOf, lcRun, lcGo, lcStep, lcK, rangeD, okR, asg, setAll, noEx, wipeR, noLam, ifK, frGo, mapB, List.range, List.range.loop, f__law_gap, ixM0, ixM1, ixM2, ixQ0, ixQ1, ixQ2, ixR0, ixR1, Rneg, t ha.x hb.x, t ha.y hb.y, t ha.z hb.z, foldM, subQ]
theorem r_gapQ {d k : Nat} (hn : 197 ≤ n) (ha : Qw d k a) (hb : Qw d k b) (h0 : 0 < d) (hd : d < 2 ^ 48) (hk : k ≤ 100000) : runs px n 0 44 [qD a, qD b] M = .ok (qL (subQ b a)) M := by
  rw [run_pos (fd := f__law_gap) rfl _ _ (by omega) rfl rfl rfl]
  have t : ∀ {x y : Rat}, Q d k x → Q d k y → ∀ M, runs px (n - 1) 0 36 [R y, R (-x)] M = .ok (R (y + -x)) M := fun hx hy M => r_ladd (by omega) (hy.s h0 hd (by omega)) (hx.neg.s h0 hd (by omega))
  simp [evSs, evS, evE, evEs, evI, evIf, evEo, evOr, evAnd, start, startI, getS, getO, seqF_t, seqF_l, seqF_s, atD, L2.atI, L2.ixN, optO, Out.bind, Out.st, SO.out, SO.outI, SO.seq, SO.turn, binO, cmp_lt, cmp_le, cmp_gt, cmp_ge, cmp_eqI, cmp_neI, cmp_eqT, cmp_neT, cmp_eqL, cmp_neL, cmp_eqS, cmp_neS, cmp_eqB, cmp_neB, cmp_eqN, cmp_neN, cmp_eqR, cmp_neR, cmp_is, cmp_isN, isN_n, isN_t, isN_R, isN_i, grd, Px.cn, biO, biSum, biAbs, biInt, intsOf, lcRun, lcGo, lcStep, lcK, rangeD, okR, asg, setAll, noEx, wipeR, noLam, ifK, frGo, mapB, List.range, List.range.loop, f__law_gap, ixQ0, ixQ1, ixQ2, ixR0, ixR1, Rneg, t ha.x hb.x, t ha.y hb.y, t ha.z hb.z, foldM, subQ]
theorem r_sum3 {d k : Nat} (hn : 196 ≤ n) (hx : Q d k x) (hy : Q d k y) (hz : Q d k z) (h0 : 0 < d) (hd : d < 2 ^ 48) (hk : k ≤ 100000) : runs px n 0 45 [.lst [R x, R y, R z]] M = .ok (R (x + y + z)) M := by
  rw [run_pos (fd := f__law_sum) rfl _ _ (by omega) rfl rfl rfl]
  have q0 : Qs 48 0 := ⟨by unfold W; decide, W.mono (a := 1) (by unfold W; decide) (by omega)⟩
  have t1 := fun M => r_ladd (n := n - 1) (M := M) (by omega) q0 (hx.s h0 hd (by omega))
  have t2 := fun M => r_ladd (n := n - 1) (M := M) (by omega) (hx.s h0 hd (by omega)) (hy.s h0 hd (by omega))
  have t3 := fun M => r_ladd (n := n - 1) (M := M) (by omega) ((hx.add hy h0 hd).s h0 hd (by omega)) (hz.s h0 hd (by omega))
  have t1' : ∀ M, runs px (n - 1) 0 36 [R 0, R x] M = .ok (R x) M := fun M => by rw [t1, Rat.zero_add]
  simp [evSs, evS, evE, evEs, evI, evIf, evEo, evOr, evAnd, start, startI, getS, getO, seqF_t, seqF_l, seqF_s, atD, L2.atI, L2.ixN, optO, Out.bind, Out.st, SO.out, SO.outI, SO.seq, SO.turn, binO, cmp_lt, cmp_le, cmp_gt, cmp_ge, cmp_eqI, cmp_neI, cmp_eqT, cmp_neT, cmp_eqL, cmp_neL, cmp_eqS, cmp_neS, cmp_eqB, cmp_neB, cmp_eqN, cmp_neN, cmp_eqR, cmp_neR, cmp_is, cmp_isN, isN_n, isN_t, isN_R, isN_i, grd, Px.cn, biO, biSum, biAbs, biInt, intsOf, lcRun, lcGo, lcStep, lcK, rangeD, okR, asg, setAll, noEx, wipeR, noLam, ifK, frGo, mapB, List.range, List.range.loop, f__law_sum, R_zero, t1', t2, t3]
theorem mul_w {d k : Nat} {i : Int} (hi : W 14 i) (hx : Q d k x) : Q d (14 + k) ((i : Rat) * x) := by
  have := (q_one (u := 1) hi).mul hx
  rwa [Nat.one_mul] at this
theorem r_flatM {d k : Nat} (hn : 198 ≤ n) (hw : Vw 14 w) (ha : Qw d k a) (h0 : 0 < d) (hd : d < 2 ^ 48) (hk : k ≤ 90000) : runs px n 0 46 [vD w, qL a] M = .ok (R (dotQ w a)) M := by
  rw [run_pos (fd := f__law_flat) rfl _ _ (by omega) rfl rfl rfl]
  have t1 : ∀ {i : Int} {x : Rat}, W 14 i → Q d k x → ∀ M, runs px (n - 1) 0 37 [R (i : Rat), R x] M = .ok (R (i * x)) M := fun hi hx M => r_lmul (by omega) (Qs_int hi (by omega) (by omega)) (hx.s h0 hd (by omega))
  have t2 := fun M => r_sum3 (n := n - 1) (M := M) (by omega) (mul_w hw.x ha.x) (mul_w hw.y ha.y) (mul_w hw.z ha.z) h0 hd (by omega)
  simp [evSs, evS, evE, evEs, evI, evIf, evEo, evOr, evAnd, start, startI, getS, getO, seqF_t, seqF_l, seqF_s, atD, L2.atI, L2.ixN, optO, Out.bind, Out.st, SO.out, SO.outI, SO.seq, SO.turn, binO, cmp_lt, cmp_le, cmp_gt, cmp_ge, cmp_eqI, cmp_neI, cmp_eqT, cmp_neT, cmp_eqL, cmp_neL, cmp_eqS, cmp_neS, cmp_eqB, cmp_neB, cmp_eqN, cmp_neN, cmp_eqR, cmp_neR, cmp_is, cmp_isN, isN_n, isN_t, isN_R, isN_i, grd, Px.cn, biO, biSum, biAbs, biInt, intsOf, lcRun, lcGo, lcStep, lcK, rangeD, okR, asg, setAll, noEx, wipeR, noLam, ifK, frGo, mapB, List.range, List.range.loop, f__law_flat, ixV0, ixV1, ixV2, ixM0, ixM1, ixM2, R_int, t1 hw.x ha.x, t1 hw.y ha.y, t1 hw.z ha.z, t2, dotQ]
theorem r_flatQ {d k : Nat} (hn : 198 ≤ n) (hw : Vw 14 w) (ha : Qw d k a) (h0 : 0 < d) (hd : d < 2 ^ 48) (hk : k ≤ 90000) : runs px n 0 46 [vD w, qD a] M = .ok (R (dotQ w a)) M := by
  rw [run_pos (fd := f__law_flat) rfl _ _ (by omega) rfl rfl rfl]
  have t1 : ∀ {i : Int} {x : Rat}, W 14 i → Q d k x → ∀ M, runs px (n - 1) 0 37 [R (i : Rat), R x] M = .ok (R (i * x)) M := fun hi hx M => r_lmul (by omega) (Qs_int hi (by omega) (by omega)) (hx.s h0 hd (by omega))
  have t2 := fun M => r_sum3 (n := n - 1) (M := M) (by omega) (mul_w hw.x ha.x) (mul_w hw.y ha.y) (mul_w hw.z ha.z) h0 hd (by omega)
  simp [evSs, evS, evE, evEs, evI, evIf, evEo, evOr, evAnd, start, startI, getS, getO, seqF_t, seqF_l, seqF_s, atD, L2.atI, L2.ixN, optO, Out.bind, Out.st, SO.out, SO.outI, SO.seq, SO.turn, binO, cmp_lt, cmp_le, cmp_gt, cmp_ge, cmp_eqI, cmp_neI, cmp_eqT, cmp_neT, cmp_eqL, cmp_neL, cmp_eqS, cmp_neS, cmp_eqB, cmp_neB, cmp_eqN, cmp_neN, cmp_eqR, cmp_neR, cmp_is, cmp_isN, isN_n, isN_t, isN_R, isN_i, grd, Px.cn, biO, biSum, biAbs, biInt, intsOf, lcRun, lcGo, lcStep, lcK, rangeD, okR, asg, setAll, noEx, wipeR, noLam, ifK, frGo, mapB, List.range, List.range.loop, f__law_flat, ixV0, ixV1, ixV2, ixQ0, ixQ1, ixQ2, R_int, t1 hw.x ha.x, t1 hw.y ha.y, t1 hw.z ha.z, t2, dotQ]
end
end Q3
set_option Elab.async false
set_option linter.all false
set_option maxRecDepth 100000
set_option maxHeartbeats 4000000
/-! Q3M: lines, faces in plain numbers. -/
namespace Q3
open PI
theorem cancel {b x y : Rat} (hb : b ≠ 0) (h : b * x = b * y) : x = y := by grind
theorem div_mul {a b : Int} (hb : b ≠ 0) : Rat.divInt a b * (b : Rat) = a := by
  rw [Rat.divInt_eq_div]
  exact Rat.div_mul_cancel (by simpa using hb)
/-- the foot on a line -/
theorem m_foot (wx wy wz sx sy sz px py pz t : Rat) (ht : t * (wx * wx + wy * wy + wz * wz) = (px - sx) * wx + (py - sy) * wy + (pz - sz) * wz) :
    wx * (sx + wx * t + -px) + wy * (sy + wy * t + -py) + wz * (sz + wz * t + -pz) = 0 := by grind
theorem m_far (wx wy wz sx sy sz px py pz t F : Rat) (h0 : wx * wx + wy * wy + wz * wz ≠ 0) (ht : t * (wx * wx + wy * wy + wz * wz) = (px - sx) * wx + (py - sy) * wy + (pz - sz) * wz)
    (hF : F * (wx * wx + wy * wy + wz * wz) = ((py - sy) * wz - (pz - sz) * wy) * ((py - sy) * wz - (pz - sz) * wy) + ((pz - sz) * wx - (px - sx) * wz) * ((pz - sz) * wx - (px - sx) * wz) + ((px - sx) * wy - (py - sy) * wx) * ((px - sx) * wy - (py - sy) * wx)) :
    F = (sx + wx * t + -px) * (sx + wx * t + -px) + (sy + wy * t + -py) * (sy + wy * t + -py) + (sz + wz * t + -pz) * (sz + wz * t + -pz) := by
  refine cancel h0 ?_
  grind
section
variable {s w s2 w2 u v p : V3} {m : Int}
theorem dot_ne (h : w ≠ V3.o) : ((w.dot w : Int) : Rat) ≠ 0 := by
  have := dot_pos h
  intro z
  rw [Rat.intCast_eq_zero_iff] at z
  omega
theorem cast_dot (a b : V3) : ((a.dot b : Int) : Rat) = (a.x : Rat) * b.x + a.y * b.y + a.z * b.z := by
  simp [V3.dot]
theorem near_eq (h : w ≠ V3.o) : nearS s w p * ((w.x : Rat) * w.x + w.y * w.y + w.z * w.z) = ((p.x : Rat) - s.x) * w.x + (p.y - s.y) * w.y + (p.z - s.z) * w.z := by
  have := div_mul (a := (p.sub s).dot w) (b := w.dot w) (by have := dot_pos h; omega)
  rw [cast_dot, cast_dot] at this
  simpa [nearS, V3.sub] using this
theorem nearF_eq (h : w ≠ V3.o) : nearF s w p * ((w.x : Rat) * w.x + w.y * w.y + w.z * w.z) = (((p.y : Rat) - s.y) * w.z - (p.z - s.z) * w.y) * ((p.y - s.y) * w.z - (p.z - s.z) * w.y) + ((p.z - s.z) * w.x - (p.x - s.x) * w.z) * ((p.z - s.z) * w.x - (p.x - s.x) * w.z) + ((p.x - s.x) * w.y - (p.y - s.y) * w.x) * ((p.x - s.x) * w.y - (p.y - s.y) * w.x) := by
  have := div_mul (a := ((p.sub s).cross w).dot ((p.sub s).cross w)) (b := w.dot w) (by have := dot_pos h; omega)
  rw [cast_dot, cast_dot] at this
  simpa [nearF, V3.sub, V3.cross] using this
theorem dd_ne (h : w ≠ V3.o) : ((w.x : Rat) * w.x + w.y * w.y + w.z * w.z) ≠ 0 := by rw [← cast_dot]; exact dot_ne h
theorem m1 (h : w ≠ V3.o) : dotQ w (subQ (atQ s w (nearS s w p)) (iQ p)) = 0 := m_foot _ _ _ _ _ _ _ _ _ _ (near_eq h)
theorem m2 (h : w ≠ V3.o) : nearF s w p = sqQ (subQ (atQ s w (nearS s w p)) (iQ p)) := m_far _ _ _ _ _ _ _ _ _ _ _ (dd_ne h) (near_eq h) (nearF_eq h)
/-! ### two lines -/
theorem b_gen (ax ay az bx by_ bz gx gy gz M T : Rat) (cx cy cz N : Rat) (hcx : cx = ay * bz - az * by_) (hcy : cy = az * bx - ax * bz) (hcz : cz = ax * by_ - ay * bx) (hN : N = cx * cx + cy * cy + cz * cz) (h0 : N ≠ 0)
    (hM : M * N = (gy * bz - gz * by_) * cx + (gz * bx - gx * bz) * cy + (gx * by_ - gy * bx) * cz) (hT : T * N = (gy * az - gz * ay) * cx + (gz * ax - gx * az) * cy + (gx * ay - gy * ax) * cz) :
    (gx + bx * T + -(ax * M)) * N = (gx * cx + gy * cy + gz * cz) * cx ∧ (gy + by_ * T + -(ay * M)) * N = (gx * cx + gy * cy + gz * cz) * cy ∧ (gz + bz * T + -(az * M)) * N = (gx * cx + gy * cy + gz * cz) * cz := by
  subst hcx hcy hcz
  refine ⟨?_, ?_, ?_⟩ <;> grind

theorem cr_ne (c : w.cross w2 ≠ V3.o) : w2 ≠ V3.o ∧ w ≠ V3.o := by
  constructor
  · rintro rfl
    exact c (by simp [V3.cross, V3.o])
  · rintro rfl
    exact c (by simp [V3.cross, V3.o])
/-- the gap of two lines' nearest spots -/
def gapL (s w s2 w2 : V3) : Q3 := subQ (atQ s2 w2 (btwT s w s2 w2)) (atQ s w (btwM s w s2 w2))
theorem gap_gen (c : w.cross w2 ≠ V3.o) : ∃ cx cy cz N h : Rat, cx = (w.y : Rat) * w2.z - w.z * w2.y ∧ cy = (w.z : Rat) * w2.x - w.x * w2.z ∧ cz = (w.x : Rat) * w2.y - w.y * w2.x ∧ N = cx * cx + cy * cy + cz * cz ∧ N ≠ 0 ∧
    (gapL s w s2 w2).x * N = h * cx ∧ (gapL s w s2 w2).y * N = h * cy ∧ (gapL s w s2 w2).z * N = h * cz ∧ btwA s w s2 w2 * N = h * h := by
  have hN : ((w.cross w2).dot (w.cross w2) : Int) ≠ 0 := by have := dot_pos c; omega
  have hM := div_mul (a := ((s2.sub s).cross w2).dot (w.cross w2)) hN
  have hT := div_mul (a := ((s2.sub s).cross w).dot (w.cross w2)) hN
  have hA := div_mul (a := ((s2.sub s).dot (w.cross w2)) * ((s2.sub s).dot (w.cross w2))) hN
  have nM : btwM s w s2 w2 = Rat.divInt (((s2.sub s).cross w2).dot (w.cross w2)) ((w.cross w2).dot (w.cross w2)) := by unfold btwM; rw [if_neg c]
  have nT : btwT s w s2 w2 = Rat.divInt (((s2.sub s).cross w).dot (w.cross w2)) ((w.cross w2).dot (w.cross w2)) := by unfold btwT; rw [if_neg c]
  have nA : btwA s w s2 w2 = Rat.divInt (((s2.sub s).dot (w.cross w2)) * ((s2.sub s).dot (w.cross w2))) ((w.cross w2).dot (w.cross w2)) := by unfold btwA; rw [if_neg c]
  rw [← nM, cast_dot, cast_dot] at hM
  rw [← nT, cast_dot, cast_dot] at hT
  rw [← nA, Rat.intCast_mul, cast_dot, cast_dot] at hA
  simp only [V3.cross, V3.sub, Rat.intCast_sub, Rat.intCast_mul] at hM hT hA
  have h0 := dd_ne c
  simp only [V3.cross, Rat.intCast_sub, Rat.intCast_mul] at h0
  have g := b_gen (w.x : Rat) w.y w.z w2.x w2.y w2.z ((s2.x : Rat) - s.x) ((s2.y : Rat) - s.y) ((s2.z : Rat) - s.z) (btwM s w s2 w2) (btwT s w s2 w2) _ _ _ _ rfl rfl rfl rfl h0 hM hT
  refine ⟨_, _, _, _, ((s2.x : Rat) - s.x) * ((w.y : Rat) * w2.z - w.z * w2.y) + ((s2.y : Rat) - s.y) * ((w.z : Rat) * w2.x - w.x * w2.z) + ((s2.z : Rat) - s.z) * ((w.x : Rat) * w2.y - w.y * w2.x), rfl, rfl, rfl, rfl, h0, ?_, ?_, ?_, hA⟩
  · rw [← g.1]; simp only [gapL, subQ, atQ]; grind
  · rw [← g.2.1]; simp only [gapL, subQ, atQ]; grind
  · rw [← g.2.2]; simp only [gapL, subQ, atQ]; grind
theorem m3_gen (c : w.cross w2 ≠ V3.o) : dotQ w (gapL s w s2 w2) = 0 ∧ dotQ w2 (gapL s w s2 w2) = 0 ∧ btwA s w s2 w2 = sqQ (gapL s w s2 w2) := by
  obtain ⟨cx, cy, cz, N, h, e1, e2, e3, e4, h0, g1, g2, g3, gA⟩ := gap_gen (s := s) (s2 := s2) c
  refine ⟨cancel h0 ?_, cancel h0 ?_, cancel h0 (cancel h0 ?_)⟩
  · unfold dotQ; grind
  · unfold dotQ; grind
  · unfold sqQ; grind
/-! ### lines beside each other -/
/-- w = k w2 -/
theorem par_k (c : w.cross w2 = V3.o) (h2 : w2 ≠ V3.o) : ∃ k : Rat, (w.x : Rat) = k * w2.x ∧ (w.y : Rat) = k * w2.y ∧ (w.z : Rat) = k * w2.z ∧ k * ((w2.x : Rat) * w2.x + w2.y * w2.y + w2.z * w2.z) = (w.x : Rat) * w2.x + w.y * w2.y + w.z * w2.z := by
  have hN : (w2.dot w2 : Int) ≠ 0 := by have := dot_pos h2; omega
  have hk := div_mul (a := w.dot w2) hN
  rw [cast_dot, cast_dot] at hk
  have h0 := dd_ne h2
  have c1 : ((w.y : Rat) * w2.z - w.z * w2.y) = 0 := by
    have := congrArg (fun v : V3 => ((v.x : Int) : Rat)) c
    simpa [V3.cross] using this
  have c2 : ((w.z : Rat) * w2.x - w.x * w2.z) = 0 := by
    have := congrArg (fun v : V3 => ((v.y : Int) : Rat)) c
    simpa [V3.cross] using this
  have c3 : ((w.x : Rat) * w2.y - w.y * w2.x) = 0 := by
    have := congrArg (fun v : V3 => ((v.z : Int) : Rat)) c
    simpa [V3.cross] using this
  refine ⟨Rat.divInt (w.dot w2) (w2.dot w2), cancel h0 ?_, cancel h0 ?_, cancel h0 ?_, hk⟩ <;> grind
theorem par_dot (k x y z a b c : Rat) (h : x * a + y * b + z * c = 0) : k * x * a + k * y * b + k * z * c = 0 := by grind
theorem at0 : atQ s w 0 = iQ s := by unfold atQ iQ; simp [Rat.add_zero]
theorem m3_par (c : w.cross w2 = V3.o) (h2 : w2 ≠ V3.o) : dotQ w (gapL s w s2 w2) = 0 ∧ dotQ w2 (gapL s w s2 w2) = 0 ∧ btwA s w s2 w2 = sqQ (gapL s w s2 w2) := by
  have eM : btwM s w s2 w2 = 0 := by unfold btwM; rw [if_pos c]
  have eT : btwT s w s2 w2 = nearS s2 w2 s := by unfold btwT; rw [if_pos c]
  have eA : btwA s w s2 w2 = nearF s2 w2 s := by unfold btwA; rw [if_pos c]
  have a1 := m1 (s := s2) (p := s) h2
  have a2 := m2 (s := s2) (p := s) h2
  obtain ⟨k, k1, k2, k3, _⟩ := par_k c h2
  unfold gapL
  rw [eM, eT, eA, at0]
  refine ⟨?_, a1, a2⟩
  unfold dotQ at a1 ⊢
  rw [k1, k2, k3]
  exact par_dot _ _ _ _ _ _ _ a1
theorem m3 (h2 : w2 ≠ V3.o) : dotQ w (gapL s w s2 w2) = 0 ∧ dotQ w2 (gapL s w s2 w2) = 0 ∧ btwA s w s2 w2 = sqQ (gapL s w s2 w2) := by
  by_cases c : w.cross w2 = V3.o
  · exact m3_par c h2
  · exact m3_gen c
theorem sq_nn (x : Rat) : 0 ≤ x * x := by
  rcases Rat.le_total (a := 0) (b := x) with h | h
  · exact Rat.mul_nonneg h h
  · have h : 0 ≤ -x := by grind
    have := Rat.mul_nonneg h h
    grind
theorem sq0 {x y z : Rat} (h : x * x + y * y + z * z = 0) : x = 0 ∧ y = 0 ∧ z = 0 := by
  have a := sq_nn x
  have b := sq_nn y
  have c := sq_nn z
  have h1 : x * x = 0 := by grind
  have h2 : y * y = 0 := by grind
  have h3 : z * z = 0 := by grind
  refine ⟨?_, ?_, ?_⟩
  · rcases Rat.mul_eq_zero.mp h1 with h | h <;> exact h
  · rcases Rat.mul_eq_zero.mp h2 with h | h <;> exact h
  · rcases Rat.mul_eq_zero.mp h3 with h | h <;> exact h
/-- the spots where rays meet are one -/
theorem near0 (h : w ≠ V3.o) (e : nearF s w p = 0) : atQ s w (nearS s w p) = iQ p := by
  have := m2 (s := s) (p := p) h
  rw [e] at this
  have := sq0 this.symm
  unfold subQ at this
  dsimp only at this
  obtain ⟨a, b, c⟩ := this
  generalize atQ s w (nearS s w p) = q at *
  cases q
  simp only [iQ] at *
  congr <;> grind
/-- beside: both shares, by k -/
theorem par_sh (c : w.cross w2 = V3.o) (h : w ≠ V3.o) (h2 : w2 ≠ V3.o) (e : nearF s w s2 = 0) : ∃ k : Rat, k ≠ 0 ∧ ((0 < k) ↔ 0 < w.dot w2) ∧ k * nearS s w s2 = -(nearS s2 w2 s) := by
  obtain ⟨k, k1, k2, k3, k4⟩ := par_k c h2
  have hd := dd_ne h2
  have n1 := near0 h e
  have x1 : (s.x : Rat) + w.x * nearS s w s2 = s2.x := congrArg Q3.x n1
  have x2 : (s.y : Rat) + w.y * nearS s w s2 = s2.y := congrArg Q3.y n1
  have x3 : (s.z : Rat) + w.z * nearS s w s2 = s2.z := congrArg Q3.z n1
  have n2 := near_eq (s := s2) (p := s) h2
  refine ⟨k, ?_, ?_, ?_⟩
  · rintro rfl
    apply h
    have y1 : (w.x : Rat) = 0 := by grind
    have y2 : (w.y : Rat) = 0 := by grind
    have y3 : (w.z : Rat) = 0 := by grind
    exact V3.ext (by simpa using y1) (by simpa using y2) (by simpa using y3)
  · have dp : (0 : Rat) < (w2.x : Rat) * w2.x + w2.y * w2.y + w2.z * w2.z := by
      have := dot_pos h2
      rw [← cast_dot]
      exact Rat.intCast_pos.mpr this
    have : (0 < w.dot w2) ↔ (0 : Rat) < (w.x : Rat) * w2.x + w.y * w2.y + w.z * w2.z := by
      rw [← cast_dot]; exact Rat.intCast_pos.symm
    rw [this, ← k4]
    exact (Rat.mul_pos_iff_of_pos_right dp).symm
  · refine cancel hd ?_
    rw [k1] at x1
    rw [k2] at x2
    rw [k3] at x3
    grind
theorem par_F (c : w.cross w2 = V3.o) (h : w ≠ V3.o) (h2 : w2 ≠ V3.o) : nearF s w s2 = 0 → nearF s2 w2 s = 0 := by
  intro e
  obtain ⟨k, k0, _, k5⟩ := par_sh c h h2 e
  obtain ⟨k', k1, k2, k3, k4⟩ := par_k c h2
  have hd := dd_ne h2
  have n1 := near0 h e
  have x1 : (s.x : Rat) + w.x * nearS s w s2 = s2.x := congrArg Q3.x n1
  have x2 : (s.y : Rat) + w.y * nearS s w s2 = s2.y := congrArg Q3.y n1
  have x3 : (s.z : Rat) + w.z * nearS s w s2 = s2.z := congrArg Q3.z n1
  have n2 := nearF_eq (s := s2) (p := s) h2
  rw [k1] at x1
  rw [k2] at x2
  rw [k3] at x3
  refine cancel hd ?_
  grind
theorem cross_sym (c : w.cross w2 = V3.o) : w2.cross w = V3.o := by
  have c1 := congrArg V3.x c
  have c2 := congrArg V3.y c
  have c3 := congrArg V3.z c
  simp only [V3.cross] at c1 c2 c3
  refine V3.ext ?_ ?_ ?_ <;> simp only [V3.cross] <;> grind
theorem par_F' (c : w.cross w2 = V3.o) (h : w ≠ V3.o) (h2 : w2 ≠ V3.o) : nearF s w s2 = 0 ↔ nearF s2 w2 s = 0 := ⟨par_F c h h2, par_F (cross_sym c) h2 h⟩
theorem m5 (h : w ≠ V3.o) (h2 : w2 ≠ V3.o) {a b : Rat} (e : metL s w s2 w2 = some (a, b)) : atQ s w a = atQ s2 w2 b ∧ 0 ≤ a ∧ 0 ≤ b := by
  unfold metL at e
  split at e
  · rename_i c
    split at e
    · rename_i q
      cases e
      obtain ⟨q1, q2, q3⟩ := q
      refine ⟨?_, q2, q3⟩
      have := (m3_gen (s := s) (s2 := s2) c).2.2
      rw [q1] at this
      obtain ⟨a, b, d⟩ := sq0 this.symm
      unfold gapL subQ at a b d
      dsimp only at a b d
      generalize atQ s w (btwM s w s2 w2) = x at *
      generalize atQ s2 w2 (btwT s w s2 w2) = y at *
      cases x; cases y
      congr <;> grind
    · cases e
  · rename_i c
    have c : w.cross w2 = V3.o := Classical.not_not.mp c
    split at e
    · cases e
    · rename_i f
      have f : nearF s w s2 = 0 := Classical.not_not.mp f
      split at e
      · rename_i q
        cases e
        refine ⟨by rw [near0 h f, at0], Rat.le_of_lt q.2, Rat.le_refl⟩
      · split at e
        · rename_i q
          cases e
          refine ⟨by rw [near0 h2 ((par_F' c h h2).mp f), at0], Rat.le_refl, q⟩
        · cases e
theorem m7 (c : w.cross w2 = V3.o) (h : w ≠ V3.o) (h2 : w2 ≠ V3.o) : ((metL s w s2 w2).isSome = true ↔ btwA s w s2 w2 = 0 ∧ (0 ≤ nearS s w s2 ∨ 0 ≤ nearS s2 w2 s)) ∧ ∀ a b, metL s w s2 w2 = some (a, b) → a = if 0 ≤ nearS s2 w2 s then 0 else nearS s w s2 := by
  have eA : btwA s w s2 w2 = nearF s2 w2 s := by unfold btwA; rw [if_pos c]
  rw [eA, ← par_F' c h h2]
  unfold metL
  rw [if_neg (Classical.not_not.mpr c)]
  by_cases f : nearF s w s2 = 0
  · rw [if_neg (Classical.not_not.mpr f)]
    obtain ⟨k, k0, k1, k2⟩ := par_sh c h h2 f
    generalize nearS s w s2 = x at *
    generalize nearS s2 w2 s = y at *
    by_cases q : 0 < w.dot w2 ∧ 0 < x
    · rw [if_pos q]
      have kp := k1.mpr q.1
      have := Rat.mul_pos kp q.2
      have yn : ¬ (0 ≤ y) := by rw [Rat.not_le]; grind
      refine ⟨by simp [f, Rat.le_of_lt q.2], fun a b e => ?_⟩
      cases e
      rw [if_neg yn]
    · rw [if_neg q]
      by_cases yy : 0 ≤ y
      · rw [if_pos yy]
        refine ⟨by simp [f, yy], fun a b e => ?_⟩
        cases e
        rw [if_pos yy]
      · rw [if_neg yy]
        refine ⟨?_, fun a b e => by cases e⟩
        have yl : y < 0 := Rat.not_le.mp yy
        have xn : ¬ (0 ≤ x) := by
          intro hx
          have kx : 0 < k * x := by rw [k2]; grind
          by_cases kp : 0 < k
          · have hx0 : 0 < x := (Rat.mul_pos_iff_of_pos_left kp).mp kx
            exact q ⟨k1.mp kp, hx0⟩
          · have kn : 0 ≤ -k := by have := Rat.not_lt.mp kp; grind
            have := Rat.mul_nonneg kn hx
            grind
        simp [f, xn, yy]
  · rw [if_pos f]
    exact ⟨by simp [f], fun a b e => by cases e⟩
/-! ### faces -/
theorem foot_eq (h : u ≠ V3.o) : (footF u m p).x * ((u.x : Rat) * u.x + u.y * u.y + u.z * u.z) = (p.x : Rat) * ((u.x : Rat) * u.x + u.y * u.y + u.z * u.z) - u.x * (((u.x : Rat) * p.x + u.y * p.y + u.z * p.z) - m) ∧ (footF u m p).y * ((u.x : Rat) * u.x + u.y * u.y + u.z * u.z) = (p.y : Rat) * ((u.x : Rat) * u.x + u.y * u.y + u.z * u.z) - u.y * (((u.x : Rat) * p.x + u.y * p.y + u.z * p.z) - m) ∧ (footF u m p).z * ((u.x : Rat) * u.x + u.y * u.y + u.z * u.z) = (p.z : Rat) * ((u.x : Rat) * u.x + u.y * u.y + u.z * u.z) - u.z * (((u.x : Rat) * p.x + u.y * p.y + u.z * p.z) - m) := by
  have hN : (u.dot u : Int) ≠ 0 := by have := dot_pos h; omega
  have key : ∀ a b : Int, Rat.divInt (a * u.dot u - b * offF u m p) (u.dot u) * ((u.x : Rat) * u.x + u.y * u.y + u.z * u.z) = (a : Rat) * ((u.x : Rat) * u.x + u.y * u.y + u.z * u.z) - b * (((u.x : Rat) * p.x + u.y * p.y + u.z * p.z) - m) := fun a b => by
    have := div_mul (a := a * u.dot u - b * offF u m p) hN
    rw [cast_dot] at this
    rw [this, offF, Rat.intCast_sub, Rat.intCast_mul, Rat.intCast_mul, Rat.intCast_sub, cast_dot, cast_dot]
  exact ⟨key _ _, key _ _, key _ _⟩
theorem mir_eq (h : u ≠ V3.o) : (mirF u m p).x * ((u.x : Rat) * u.x + u.y * u.y + u.z * u.z) = (p.x : Rat) * ((u.x : Rat) * u.x + u.y * u.y + u.z * u.z) - 2 * u.x * (((u.x : Rat) * p.x + u.y * p.y + u.z * p.z) - m) ∧ (mirF u m p).y * ((u.x : Rat) * u.x + u.y * u.y + u.z * u.z) = (p.y : Rat) * ((u.x : Rat) * u.x + u.y * u.y + u.z * u.z) - 2 * u.y * (((u.x : Rat) * p.x + u.y * p.y + u.z * p.z) - m) ∧ (mirF u m p).z * ((u.x : Rat) * u.x + u.y * u.y + u.z * u.z) = (p.z : Rat) * ((u.x : Rat) * u.x + u.y * u.y + u.z * u.z) - 2 * u.z * (((u.x : Rat) * p.x + u.y * p.y + u.z * p.z) - m) := by
  have hN : (u.dot u : Int) ≠ 0 := by have := dot_pos h; omega
  have key : ∀ a b : Int, Rat.divInt (a * u.dot u - 2 * b * offF u m p) (u.dot u) * ((u.x : Rat) * u.x + u.y * u.y + u.z * u.z) = (a : Rat) * ((u.x : Rat) * u.x + u.y * u.y + u.z * u.z) - 2 * b * (((u.x : Rat) * p.x + u.y * p.y + u.z * p.z) - m) := fun a b => by
    have := div_mul (a := a * u.dot u - 2 * b * offF u m p) hN
    rw [cast_dot] at this
    rw [this, offF, Rat.intCast_sub, Rat.intCast_mul, Rat.intCast_mul, Rat.intCast_mul, Rat.intCast_sub, cast_dot, cast_dot]
    rfl
  exact ⟨key _ _, key _ _, key _ _⟩
theorem sqF_eq (h : u ≠ V3.o) : sqF u m p * ((u.x : Rat) * u.x + u.y * u.y + u.z * u.z) = (((u.x : Rat) * p.x + u.y * p.y + u.z * p.z) - m) * (((u.x : Rat) * p.x + u.y * p.y + u.z * p.z) - m) := by
  have hN : (u.dot u : Int) ≠ 0 := by have := dot_pos h; omega
  have := div_mul (a := offF u m p * offF u m p) hN
  rw [cast_dot] at this
  unfold sqF
  rw [this, offF, Rat.intCast_mul, Rat.intCast_sub, cast_dot]
theorem f2 (h : u ≠ V3.o) : dotQ u (footF u m p) = m := by
  obtain ⟨a, b, c⟩ := foot_eq (m := m) (p := p) h
  refine cancel (dd_ne h) ?_
  unfold dotQ
  grind
theorem foot_gap (h : u ≠ V3.o) : ∃ t : Rat, (subQ (footF u m p) (iQ p)).x = t * u.x ∧ (subQ (footF u m p) (iQ p)).y = t * u.y ∧ (subQ (footF u m p) (iQ p)).z = t * u.z ∧ t * ((u.x : Rat) * u.x + u.y * u.y + u.z * u.z) = -(((u.x : Rat) * p.x + u.y * p.y + u.z * p.z) - m) := by
  obtain ⟨a, b, c⟩ := foot_eq (m := m) (p := p) h
  have hN : (u.dot u : Int) ≠ 0 := by have := dot_pos h; omega
  have ht := div_mul (a := -(offF u m p)) hN
  rw [cast_dot, Rat.intCast_neg, offF, Rat.intCast_sub, cast_dot] at ht
  refine ⟨Rat.divInt (-(u.dot p - m)) (u.dot u), cancel (dd_ne h) ?_, cancel (dd_ne h) ?_, cancel (dd_ne h) ?_, ht⟩ <;> simp only [subQ, iQ] <;> grind
theorem f3 (h : u ≠ V3.o) : sqF u m p = sqQ (subQ (footF u m p) (iQ p)) := by
  obtain ⟨t, a, b, c, d⟩ := foot_gap (m := m) (p := p) h
  have e := sqF_eq (m := m) (p := p) h
  refine cancel (dd_ne h) ?_
  unfold sqQ
  rw [a, b, c]
  grind
theorem f4 (h : u ≠ V3.o) : (p.x : Rat) + (mirF u m p).x = 2 * (footF u m p).x ∧ (p.y : Rat) + (mirF u m p).y = 2 * (footF u m p).y ∧ (p.z : Rat) + (mirF u m p).z = 2 * (footF u m p).z := by
  obtain ⟨a, b, c⟩ := foot_eq (m := m) (p := p) h
  obtain ⟨a', b', c'⟩ := mir_eq (m := m) (p := p) h
  refine ⟨cancel (dd_ne h) ?_, cancel (dd_ne h) ?_, cancel (dd_ne h) ?_⟩ <;> grind
theorem f5 (h : u ≠ V3.o) : (subQ (footF u m p) (iQ p)).z * u.x = (subQ (footF u m p) (iQ p)).x * u.z ∧ (subQ (footF u m p) (iQ p)).x * u.y = (subQ (footF u m p) (iQ p)).y * u.x ∧ (subQ (footF u m p) (iQ p)).y * u.z = (subQ (footF u m p) (iQ p)).z * u.y := by
  obtain ⟨t, a, b, c, d⟩ := foot_gap (m := m) (p := p) h
  rw [a, b, c]
  refine ⟨?_, ?_, ?_⟩ <;> grind
/-- what the law wants of where a ray comes through -/
def meetL (steps left : Int) : Option Rat := if (steps = 0 ∧ left ≠ 0) ∨ steps * left < 0 then none else if left = 0 then some 0 else some (Rat.divInt left steps)
theorem div_nn {a b : Int} (hb : b ≠ 0) : (0 ≤ Rat.divInt a b) ↔ 0 ≤ b * a := by
  rcases Int.lt_or_gt_of_ne hb with h | h
  · rw [← Rat.neg_divInt_neg, Rat.divInt_nonneg_iff_of_pos_right (by omega)]
    constructor
    · intro q
      have := Int.mul_nonneg (show 0 ≤ -b by omega) q
      rwa [Int.neg_mul_neg] at this
    · intro q
      refine Classical.byContradiction fun z => ?_
      have h1 : 0 < a := by omega
      have := Int.mul_pos (show 0 < -b by omega) h1
      rw [Int.neg_mul] at this
      omega
  · rw [Rat.divInt_nonneg_iff_of_pos_right h]
    constructor
    · intro q; exact Int.mul_nonneg (by omega) q
    · intro q
      refine Classical.byContradiction fun z => ?_
      have := Int.mul_pos h (show 0 < -a by omega)
      rw [Int.mul_neg] at this
      omega
theorem f6 : meetF u m s w = meetL (u.dot w) (m - u.dot s) := by
  unfold meetF meetL
  generalize u.dot w = a
  generalize m - u.dot s = b
  by_cases ha : a = 0
  · subst ha
    by_cases hb : b = 0 <;> simp [hb]
  · rw [if_neg ha]
    simp only [div_nn ha]
    by_cases hb : b = 0
    · subst hb; simp
    · by_cases q : 0 ≤ a * b
      · rw [if_pos q, if_neg (by rintro (z | z) <;> omega), if_neg hb]
      · rw [if_neg q, if_pos (.inr (by omega))]
theorem f7 {q : Rat} (e : meetF u m s w = some q) : dotQ u (atQ s w q) = m := by
  have key : ∀ t : Rat, t * ((u.x : Rat) * w.x + u.y * w.y + u.z * w.z) = m - ((u.x : Rat) * s.x + u.y * s.y + u.z * s.z) → dotQ u (atQ s w t) = m := fun t ht => by
    unfold dotQ atQ; grind
  unfold meetF at e
  split at e
  · rename_i c
    split at e
    · rename_i d
      cases e
      refine key 0 ?_
      have := congrArg (fun i : Int => (i : Rat)) d
      simp only [Rat.intCast_sub, cast_dot] at this
      grind
    · cases e
  · rename_i c
    split at e
    · cases e
      refine key _ ?_
      have := div_mul (a := m - u.dot s) c
      rw [cast_dot, Rat.intCast_sub, cast_dot] at this
      exact this
    · cases e
/-! ### two, three faces -/
theorem byV_dvd : byV v ∣ v.x ∧ byV v ∣ v.y ∧ byV v ∣ v.z := by
  have d1 : gcdV v ∣ v.x.natAbs := Nat.dvd_trans (Nat.gcd_dvd_left _ _) (Nat.gcd_dvd_left _ _)
  have d2 : gcdV v ∣ v.y.natAbs := Nat.dvd_trans (Nat.gcd_dvd_left _ _) (Nat.gcd_dvd_right _ _)
  have d3 : gcdV v ∣ v.z.natAbs := Nat.gcd_dvd_right _ _
  have key : ∀ i : Int, gcdV v ∣ i.natAbs → byV v ∣ i := fun i h => by
    have := Int.ofNat_dvd_left.mpr h
    unfold byV
    split
    · exact this
    · exact Int.neg_dvd.mpr this
  exact ⟨key _ d1, key _ d2, key _ d3⟩
theorem short_mul (h : v ≠ V3.o) : (shortV v).x * byV v = v.x ∧ (shortV v).y * byV v = v.y ∧ (shortV v).z * byV v = v.z := by
  obtain ⟨a, b, c⟩ := byV_dvd (v := v)
  have key : ∀ i : Int, byV v ∣ i → i.fdiv (byV v) * byV v = i := fun i hi => by
    rw [Int.fdiv_eq_ediv_of_dvd hi]
    exact Int.ediv_mul_cancel hi
  exact ⟨key _ a, key _ b, key _ c⟩
theorem byV_ne (h : v ≠ V3.o) : byV v ≠ 0 := by
  have := gcdV_pos h
  unfold byV; split <;> omega
theorem short_dot (h : v ≠ V3.o) (e : v.dot u = 0) : (shortV v).dot u = 0 := by
  obtain ⟨a, b, c⟩ := short_mul h
  have h0 := byV_ne h
  have : (shortV v).dot u * byV v = 0 := by
    rw [← e]
    unfold V3.dot
    grind
  exact (Int.mul_eq_zero.mp this).resolve_right h0
theorem cross_dot : (u.cross v).dot u = 0 ∧ (u.cross v).dot v = 0 := by
  unfold V3.cross V3.dot
  constructor <;> grind
theorem short_gcd (h : v ≠ V3.o) : Int.gcd (Int.gcd (shortV v).x (shortV v).y) (shortV v).z = 1 := by
  obtain ⟨a, b, c⟩ := short_mul h
  have h0 := gcdV_pos h
  have hb : (byV v).natAbs = gcdV v := by unfold byV; split <;> simp
  have e : Int.gcd (Int.gcd (shortV v).x (shortV v).y) (shortV v).z * gcdV v = gcdV v := by
    have e1 : v.x.natAbs = (shortV v).x.natAbs * gcdV v := by rw [← hb, ← Int.natAbs_mul, a]
    have e2 : v.y.natAbs = (shortV v).y.natAbs * gcdV v := by rw [← hb, ← Int.natAbs_mul, b]
    have e3 : v.z.natAbs = (shortV v).z.natAbs * gcdV v := by rw [← hb, ← Int.natAbs_mul, c]
    have : gcdV v = Nat.gcd (Nat.gcd v.x.natAbs v.y.natAbs) v.z.natAbs := rfl
    conv => rhs; rw [this, e1, e2, e3, Nat.gcd_mul_right, Nat.gcd_mul_right]
    simp [Int.gcd]
  exact Nat.eq_of_mul_eq_mul_right h0 (by rw [e, Nat.one_mul])
theorem short_lead (h : v ≠ V3.o) : 0 < leadV (shortV v) := by
  obtain ⟨a, b, c⟩ := short_mul h
  have h0 := gcdV_pos h
  have hn := byV_ne h
  have z : ∀ i j : Int, i * byV v = j → (i = 0 ↔ j = 0) := fun i j e => by
    constructor
    · rintro rfl; rw [← e, Int.zero_mul]
    · intro q; rw [q] at e; exact (Int.mul_eq_zero.mp e).resolve_right hn
  have hl : leadV (shortV v) * byV v = leadV v := by
    unfold leadV
    by_cases hx : v.x = 0
    · have hx' := (z _ _ a).mpr hx
      by_cases hy : v.y = 0
      · have hy' := (z _ _ b).mpr hy
        simp [hx, hx', hy, hy', c]
      · have hy' : (shortV v).y ≠ 0 := fun q => hy ((z _ _ b).mp q)
        simp [hx, hx', hy, hy', b]
    · have hx' : (shortV v).x ≠ 0 := fun q => hx ((z _ _ a).mp q)
      simp [hx, hx', a]
  have ln : leadV v ≠ 0 := by
    unfold leadV
    intro q
    split at q
    · rename_i hx; exact hx q
    · rename_i hx
      split at q
      · rename_i hy; exact hy q
      · rename_i hy
        exact h (V3.ext (Classical.not_not.mp hx) (Classical.not_not.mp hy) q)
  refine Classical.byContradiction fun hc => ?_
  have hc : leadV (shortV v) ≤ 0 := by omega
  unfold byV at hl
  by_cases q : 0 < leadV v
  · rw [if_pos q] at hl
    have := Int.mul_nonneg (show 0 ≤ -(leadV (shortV v)) by omega) (show (0 : Int) ≤ gcdV v by omega)
    rw [Int.neg_mul] at this
    omega
  · rw [if_neg q] at hl
    have := Int.mul_nonneg (show 0 ≤ -(leadV (shortV v)) by omega) (show (0 : Int) ≤ gcdV v by omega)
    rw [Int.neg_mul] at this
    rw [Int.mul_neg] at hl
    omega
theorem c4 {u1 u2 u3 : V3} {m1 m2 m3 : Int} {x : Q3} (e : meet3 u1 m1 u2 m2 u3 m3 = some x) : dotQ u1 x = m1 ∧ dotQ u2 x = m2 ∧ dotQ u3 x = m3 := by
  unfold meet3 at e
  split at e
  · cases e
  · rename_i c
    cases e
    have key := fun a : Int => div_mul (a := a) c
    have hn : ((u1.dot (u2.cross u3) : Int) : Rat) ≠ 0 := by simpa using c
    have k1 := key (m1 * (u2.cross u3).x + m2 * (u3.cross u1).x + m3 * (u1.cross u2).x)
    have k2 := key (m1 * (u2.cross u3).y + m2 * (u3.cross u1).y + m3 * (u1.cross u2).y)
    have k3 := key (m1 * (u2.cross u3).z + m2 * (u3.cross u1).z + m3 * (u1.cross u2).z)
    simp only [dotQ]
    generalize Rat.divInt (m1 * (u2.cross u3).x + m2 * (u3.cross u1).x + m3 * (u1.cross u2).x) (u1.dot (u2.cross u3)) = x at *
    generalize Rat.divInt (m1 * (u2.cross u3).y + m2 * (u3.cross u1).y + m3 * (u1.cross u2).y) (u1.dot (u2.cross u3)) = y at *
    generalize Rat.divInt (m1 * (u2.cross u3).z + m2 * (u3.cross u1).z + m3 * (u1.cross u2).z) (u1.dot (u2.cross u3)) = z at *
    simp only [cast_dot, V3.cross, Rat.intCast_sub, Rat.intCast_mul, Rat.intCast_add] at k1 k2 k3 hn
    refine ⟨cancel hn ?_, cancel hn ?_, cancel hn ?_⟩ <;> grind
theorem c7 {a b c : V3} : (nrmF a b c).dot a - (nrmF a b c).dot a = 0 ∧ (nrmF a b c).dot b - (nrmF a b c).dot a = 0 ∧ (nrmF a b c).dot c - (nrmF a b c).dot a = 0 := by
  unfold nrmF V3.cross V3.dot V3.sub
  refine ⟨by omega, by grind, by grind⟩
end
end Q3
set_option Elab.async false
set_option linter.all false
set_option maxRecDepth 100000
set_option maxHeartbeats 4000000
/-! Q3F: the law's statements, lines. -/
namespace Q3
open PI
/-- the law's statements -/
def L0 : S := .set 2 (.ix (.lst (.cons (.int 2) (.cons (.int 6) (.cons (.int 30) .nil)))) (.call 31 (.cons (.v 1) (.cons (.int 3) .nil))))
def L1 : S := .un (.tp [3, 4, 5]) (.tup (.cons (.call 42 (.cons (.v 1) (.cons (.v 2) .nil))) (.cons (.call 47 (.cons (.v 1) (.cons (.v 2) .nil))) (.cons (.call 42 (.cons (.v 1) (.cons (.v 2) .nil))) .nil))))
def L2 : S := .un (.tp [6, 7]) (.tup (.cons (.make false 11 (.cons (.v 3) (.cons (.v 4) .nil))) (.cons (.make false 11 (.cons (.call 42 (.cons (.v 1) (.cons (.v 2) .nil))) (.cons (.call 47 (.cons (.v 1) (.cons (.v 2) .nil))) .nil))) .nil)))
def L3 : S := .ife (.cmp .eq (.call 31 (.cons (.v 1) (.cons (.int 3) .nil))) (.int 0)) (.cons (.set 7 (.make false 11 (.cons (.bi .tuple (.cons (.lc [28] (.nm 28) (.range1 (.int 3)) (.bin .sub (.bin .add (.ix (.v 3) (.v 28)) (.bin .mul (.int 2) (.ix (.v 4) (.v 28)))) (.bin .mul (.int 3) (.ix (.attr (.v 7) 1) (.v 28)))) .no) .nil)) (.cons (.attr (.v 7) 1) .nil)))) .nil) .nil
def L4 : S := .set 8 (.call 35 (.cons (.bin .sub (.call 31 (.cons (.v 1) (.cons (.int 20) .nil))) (.int 10)) (.cons (.bin .add (.int 1) (.call 31 (.cons (.v 1) (.cons (.int 6) .nil)))) .nil)))
def L5 : S := .un (.tp [9, 10]) (.meth (.v 6) 2 (.cons (.v 5) .nil))
def L6 : S := .set 11 (.call 44 (.cons (.lc [29] (.nm 29) (.seq (.v 5)) (.tup (.cons (.v 29) (.cons (.int 1) .nil))) .no) (.cons (.call 43 (.cons (.v 3) (.cons (.v 4) (.cons (.v 9) .nil)))) .nil)))
def L7 : S := .ife (.or (.cons (.cmp .ne (.meth (.v 6) 8 (.cons (.v 8) .nil)) (.call 43 (.cons (.v 3) (.cons (.v 4) (.cons (.v 8) .nil))))) (.cons (.cmp .ne (.meth (.v 6) 9 (.cons (.int 3) .nil)) (.bi .tuple (.cons (.lc [28] (.nm 28) (.range1 (.int 3)) (.bin .add (.ix (.v 3) (.v 28)) (.bin .mul (.int 3) (.ix (.v 4) (.v 28)))) .no) .nil))) (.cons (.cmp .ne (.call 46 (.cons (.v 4) (.cons (.v 11) .nil))) (.tup (.cons (.int 0) (.cons (.int 1) .nil)))) (.cons (.cmp .ne (.v 10) (.call 45 (.cons (.lc [29] (.nm 29) (.seq (.v 11)) (.call 37 (.cons (.v 29) (.cons (.v 29) .nil))) .no) .nil))) .nil))))) (.cons (.ret (.bl false)) .nil) .nil
def L8 : S := .ife (.cmp .ne (.meth (.v 6) 10 (.cons (.v 5) .nil)) (.ite (.cmp .ge (.ix (.v 9) (.int 0)) (.int 0)) (.tup (.cons (.v 9) (.cons (.v 10) .nil))) (.tup (.cons (.tup (.cons (.int 0) (.cons (.int 1) .nil))) (.cons (.tup (.cons (.call 39 (.cons (.call 41 (.cons (.v 5) (.cons (.v 3) .nil))) (.cons (.call 41 (.cons (.v 5) (.cons (.v 3) .nil))) .nil))) (.cons (.int 1) .nil))) .nil))))) (.cons (.ret (.bl false)) .nil) .nil
def L9 : S := .un (.tp [12, 13, 14]) (.meth (.v 6) 3 (.cons (.v 7) .nil))
def L10 : S := .set 11 (.call 44 (.cons (.call 43 (.cons (.v 3) (.cons (.v 4) (.cons (.v 12) .nil)))) (.cons (.call 43 (.cons (.attr (.v 7) 0) (.cons (.attr (.v 7) 1) (.cons (.v 13) .nil)))) .nil)))
def L11 : S := .ife (.or (.cons (.cmp .ne (.call 46 (.cons (.v 4) (.cons (.v 11) .nil))) (.tup (.cons (.int 0) (.cons (.int 1) .nil)))) (.cons (.cmp .ne (.call 46 (.cons (.attr (.v 7) 1) (.cons (.v 11) .nil))) (.tup (.cons (.int 0) (.cons (.int 1) .nil)))) (.cons (.cmp .ne (.v 14) (.call 45 (.cons (.lc [29] (.nm 29) (.seq (.v 11)) (.call 37 (.cons (.v 29) (.cons (.v 29) .nil))) .no) .nil))) .nil)))) (.cons (.ret (.bl false)) .nil) .nil
def L12 : S := .par 15 16 (.meth (.v 6) 11 (.cons (.v 7) .nil)) (.cmp .eq (.call 40 (.cons (.v 4) (.cons (.attr (.v 7) 1) .nil))) (.g 0))
def L13 : S := .ife (.or (.cons (.and (.cons (.cmp .isNN (.v 15) .non) (.cons (.or (.cons (.cmp .ne (.call 43 (.cons (.v 3) (.cons (.v 4) (.cons (.ix (.v 15) (.int 0)) .nil)))) (.call 43 (.cons (.attr (.v 7) 0) (.cons (.attr (.v 7) 1) (.cons (.ix (.v 15) (.int 1)) .nil))))) (.cons (.cmp .lt (.ix (.ix (.v 15) (.int 0)) (.int 0)) (.int 0)) (.cons (.cmp .lt (.ix (.ix (.v 15) (.int 1)) (.int 0)) (.int 0)) .nil)))) .nil))) (.cons (.and (.cons (.not (.v 16)) (.cons (.cmp .ne (.cmp .isN (.v 15) .non) (.or (.cons (.cmp .ne (.v 14) (.tup (.cons (.int 0) (.cons (.int 1) .nil)))) (.cons (.cmp .lt (.ix (.v 12) (.int 0)) (.int 0)) (.cons (.cmp .lt (.ix (.v 13) (.int 0)) (.int 0)) .nil))))) .nil))) .nil))) (.cons (.ret (.bl false)) .nil) .nil
def L14 : S := .ife (.v 16) (.cons (.set 17 (.lst (.cons (.ix (.meth (.v 6) 2 (.cons (.attr (.v 7) 0) .nil)) (.int 0)) (.cons (.ix (.meth (.v 7) 2 (.cons (.v 3) .nil)) (.int 0)) .nil)))) (.cons (.set 18 (.and (.cons (.cmp .eq (.v 14) (.tup (.cons (.int 0) (.cons (.int 1) .nil)))) (.cons (.or (.cons (.cmp .ge (.ix (.ix (.v 17) (.int 0)) (.int 0)) (.int 0)) (.cons (.cmp .ge (.ix (.ix (.v 17) (.int 1)) (.int 0)) (.int 0)) .nil))) .nil)))) (.cons (.ife (.or (.cons (.cmp .ne (.cmp .isNN (.v 15) .non) (.v 18)) (.cons (.and (.cons (.cmp .isNN (.v 15) .non) (.cons (.cmp .ne (.ix (.v 15) (.int 0)) (.ite (.cmp .ge (.ix (.ix (.v 17) (.int 1)) (.int 0)) (.int 0)) (.tup (.cons (.int 0) (.cons (.int 1) .nil))) (.ix (.v 17) (.int 0)))) .nil))) .nil))) (.cons (.ret (.bl false)) .nil) .nil) .nil))) .nil
def L15 : S := .un (.tp [19, 20]) (.tup (.cons (.call 47 (.cons (.v 1) (.cons (.int 5) .nil))) (.cons (.bin .sub (.call 31 (.cons (.v 1) (.cons (.int 20) .nil))) (.int 10)) .nil)))
def L16 : S := .set 21 (.make false 18 (.cons (.v 19) (.cons (.v 20) .nil)))
def L17 : S := .set 22 (.bin .sub (.call 39 (.cons (.v 19) (.cons (.v 5) .nil))) (.v 20))
def L18 : S := .un (.tp [23, 24]) (.tup (.cons (.meth (.v 21) 13 (.cons (.v 5) .nil)) (.cons (.meth (.v 21) 14 (.cons (.v 5) .nil)) .nil)))
def L19 : S := .set 11 (.call 44 (.cons (.lc [29] (.nm 29) (.seq (.v 5)) (.tup (.cons (.v 29) (.cons (.int 1) .nil))) .no) (.cons (.v 23) .nil)))
def L20 : S := .ife (.or (.cons (.cmp .ne (.meth (.v 21) 7 (.cons (.v 5) .nil)) (.bin .sub (.cmp .gt (.v 22) (.int 0)) (.cmp .lt (.v 22) (.int 0)))) (.cons (.cmp .ne (.call 46 (.cons (.v 19) (.cons (.v 23) .nil))) (.tup (.cons (.v 20) (.cons (.int 1) .nil)))) (.cons (.cmp .ne (.meth (.v 21) 12 (.cons (.v 5) .nil)) (.call 45 (.cons (.lc [29] (.nm 29) (.seq (.v 11)) (.call 37 (.cons (.v 29) (.cons (.v 29) .nil))) .no) .nil))) (.cons (.cmp .ne (.lc [28] (.nm 28) (.range1 (.int 3)) (.v 28) (.so (.cmp .ne (.call 36 (.cons (.tup (.cons (.ix (.v 5) (.v 28)) (.cons (.int 1) .nil))) (.cons (.ix (.v 24) (.v 28)) .nil))) (.call 37 (.cons (.tup (.cons (.int 2) (.cons (.int 1) .nil))) (.cons (.ix (.v 23) (.v 28)) .nil)))))) (.lst .nil)) (.cons (.cmp .ne (.lc [28] (.nm 28) (.range1 (.int 3)) (.v 28) (.so (.cmp .ne (.call 37 (.cons (.ix (.v 11) (.bin .sub (.v 28) (.int 1))) (.cons (.tup (.cons (.ix (.v 19) (.v 28)) (.cons (.int 1) .nil))) .nil))) (.call 37 (.cons (.ix (.v 11) (.v 28)) (.cons (.tup (.cons (.ix (.v 19) (.bin .sub (.v 28) (.int 1))) (.cons (.int 1) .nil))) .nil)))))) (.lst .nil)) .nil)))))) (.cons (.ret (.bl false)) .nil) .nil
def L21 : S := .par 25 26 (.call 39 (.cons (.v 19) (.cons (.v 4) .nil))) (.bin .sub (.v 20) (.call 39 (.cons (.v 19) (.cons (.v 3) .nil))))
def L22 : S := .set 27 (.meth (.v 21) 6 (.cons (.v 6) .nil))
def L23 : S := .ife (.or (.cons (.cmp .ne (.v 27) (.ite (.or (.cons (.and (.cons (.cmp .eq (.v 25) (.int 0)) (.cons (.cmp .ne (.v 26) (.int 0)) .nil))) (.cons (.cmp .lt (.bin .mul (.v 25) (.v 26)) (.int 0)) .nil))) .non (.ite (.cmp .eq (.v 26) (.int 0)) (.tup (.cons (.int 0) (.cons (.int 1) .nil))) (.call 35 (.cons (.v 26) (.cons (.v 25) .nil)))))) (.cons (.and (.cons (.cmp .isNN (.v 27) .non) (.cons (.cmp .ne (.call 46 (.cons (.v 19) (.cons (.meth (.v 6) 8 (.cons (.v 27) .nil)) .nil))) (.tup (.cons (.v 20) (.cons (.int 1) .nil)))) .nil))) .nil))) (.cons (.ret (.bl false)) .nil) .nil
def L24 : S := .ife (.not (.call 49 (.cons (.v 1) (.cons (.v 2) (.cons (.v 21) (.cons (.v 6) (.cons (.v 5) (.cons (.v 19) .nil)))))))) (.cons (.ret (.bl false)) .nil) .nil
def lbody : Ss := .cons L0 (.cons L1 (.cons L2 (.cons L3 (.cons L4 (.cons L5 (.cons L6 (.cons L7 (.cons L8 (.cons L9 (.cons L10 (.cons L11 (.cons L12 (.cons L13 (.cons L14 (.cons L15 (.cons L16 (.cons L17 (.cons L18 (.cons L19 (.cons L20 (.cons L21 (.cons L22 (.cons L23 (.cons L24 .nil))))))))))))))))))))))))
theorem law_eq : f_law = ⟨1, 30, 0, .cons (.fr (.nm 1) (.seq (.call 32 (.cons (.v 0) (.cons (.int 1) .nil)))) lbody) (.cons (.ret (.call 48 .nil)) .nil), none⟩ := rfl
def partE : E := .ix (.lc [15] (.nm 15) (.seq (.v 7)) (.v 15) (.so (.cmp .ne (.v 15) (.int 0)))) (.int 0)
def T0 : S := .set 6 (.lst (.cons (.v 2) (.cons (.make false 18 (.cons (.call 47 (.cons (.v 0) (.cons (.int 4) .nil))) (.cons (.bin .sub (.call 31 (.cons (.v 0) (.cons (.int 9) .nil))) (.int 4)) .nil))) (.cons (.make false 18 (.cons (.call 47 (.cons (.v 0) (.cons (.int 4) .nil))) (.cons (.bin .sub (.call 31 (.cons (.v 0) (.cons (.int 9) .nil))) (.int 4)) .nil))) .nil))))
def T1 : S := .set 7 (.meth (.v 2) 15 (.cons (.ix (.v 6) (.int 1)) .nil))
def T2 : S := .ife (.or (.cons (.cmp .ne (.cmp .isN (.v 7) .non) (.cmp .eq (.call 40 (.cons (.v 5) (.cons (.attr (.ix (.v 6) (.int 1)) 4) .nil))) (.g 0))) (.cons (.and (.cons (.cmp .isNN (.v 7) .non) (.cons (.or (.cons (.cmp .ne (.call 39 (.cons (.v 7) (.cons (.v 5) .nil))) (.int 0)) (.cons (.cmp .ne (.call 39 (.cons (.v 7) (.cons (.attr (.ix (.v 6) (.int 1)) 4) .nil))) (.int 0)) (.cons (.cmp .ne (.call 34 (.cons (.call 34 (.cons (.ix (.v 7) (.int 0)) (.cons (.ix (.v 7) (.int 1)) .nil))) (.cons (.ix (.v 7) (.int 2)) .nil))) (.int 1)) (.cons (.cmp .lt partE (.int 0)) .nil))))) .nil))) .nil))) (.cons (.ret (.bl false)) .nil) .nil
def T3 : S := .set 8 (.call 27 (.cons (.ix (.v 6) (.int 0)) (.cons (.ix (.v 6) (.int 1)) (.cons (.ix (.v 6) (.int 2)) .nil))))
def T4 : S := .ife (.or (.cons (.cmp .ne (.cmp .isN (.v 8) .non) (.cmp .eq (.call 39 (.cons (.v 5) (.cons (.call 40 (.cons (.attr (.ix (.v 6) (.int 1)) 4) (.cons (.attr (.ix (.v 6) (.int 2)) 4) .nil))) .nil))) (.int 0))) (.cons (.and (.cons (.cmp .isNN (.v 8) .non) (.cons (.cmp .ne (.lc [16] (.nm 16) (.seq (.v 6)) (.v 16) (.so (.cmp .ne (.call 46 (.cons (.attr (.v 16) 4) (.cons (.v 8) .nil))) (.tup (.cons (.attr (.v 16) 5) (.cons (.int 1) .nil)))))) (.lst .nil)) .nil))) .nil))) (.cons (.ret (.bl false)) .nil) .nil
def T5 : S := .set 9 (.lc [17, 16] (.tp [17, 16]) (.enum (.v 6)) (.tup (.cons (.meth (.v 16) 6 (.cons (.v 3) .nil)) (.cons (.v 17) .nil))) .no)
def T6 : S := .set 10 (.lc [18, 17] (.tp [18, 17]) (.seq (.v 9)) (.tup (.cons (.v 18) (.cons (.v 17) .nil))) (.so (.cmp .isNN (.v 18) .non)))
def T7 : S := .set 11 (.lc [19] (.nm 19) (.seq (.v 10)) (.v 19) (.so (.cmp .eq (.lc [18, 17] (.tp [18, 17]) (.seq (.v 10)) (.v 18) (.so (.call 38 (.cons (.v 18) (.cons (.ix (.v 19) (.int 0)) .nil))))) (.lst .nil))))
def T8 : S := .ife (.or (.cons (.cmp .ne (.call 28 (.cons (.v 6) (.cons (.v 3) .nil))) (.ix (.bin .add (.v 11) (.lst (.cons .non .nil))) (.int 0))) (.cons (.cmp .ne (.call 29 (.cons (.v 6) (.cons (.v 4) .nil))) (.cmp .eq (.lc [16] (.nm 16) (.seq (.v 6)) (.v 16) (.so (.cmp .gt (.meth (.v 16) 7 (.cons (.v 4) .nil)) (.int 0)))) (.lst .nil))) .nil))) (.cons (.ret (.bl false)) .nil) .nil
def T9 : S := .set 12 (.lc [17] (.nm 17) (.range1 (.int 3)) (.call 42 (.cons (.v 0) (.cons (.v 1) .nil))) .no)
def T10 : S := .set 13 (.told 4)
def T11 : S := .set 14 (.cmp .eq (.call 40 (.cons (.call 41 (.cons (.ix (.v 12) (.int 1)) (.cons (.ix (.v 12) (.int 0)) .nil))) (.cons (.call 41 (.cons (.ix (.v 12) (.int 2)) (.cons (.ix (.v 12) (.int 0)) .nil))) .nil))) (.g 0))
def T12 : S := .ife (.or (.cons (.cmp .ne (.cmp .eq (.v 13) (.str [76, 105, 110, 101, 69, 114, 114, 111, 114])) (.v 14)) (.cons (.and (.cons (.not (.v 14)) (.cons (.cmp .ne (.lc [20] (.nm 20) (.seq (.v 12)) (.v 20) (.so (.cmp .ne (.meth (.call 26 (.cons (.ix (.v 12) (.int 0)) (.cons (.ix (.v 12) (.int 1)) (.cons (.ix (.v 12) (.int 2)) .nil)))) 7 (.cons (.v 20) .nil)) (.int 0)))) (.lst .nil)) .nil))) .nil))) (.cons (.ret (.bl false)) .nil) .nil
def T13 : S := .ret (.bl true)
theorem rest_eq : f__law_rest = ⟨6, 21, 0, .cons T0 (.cons T1 (.cons T2 (.cons T3 (.cons T4 (.cons T5 (.cons T6 (.cons T7 (.cons T8 (.cons T9 (.cons T10 (.cons T11 (.cons T12 (.cons T13 .nil))))))))))))), none⟩ := rfl
theorem cmp_eqQ (M : Store) (u : Q3) (y : D) : cmpO M .eq (qD u) y = mapB id (eqO (qD u) y) := rfl
theorem cmp_neQ (M : Store) (u : Q3) (y : D) : cmpO M .ne (qD u) y = mapB not (eqO (qD u) y) := rfl
theorem isN_Q (v : Q3) : D.isN (qD v) = false := rfl
open Classical in
theorem eqO_Q (u v : Q3) : eqO (qD u) (qD v) = some (decide (u = v)) := by
  rw [eqO_pl rfl rfl]; simp [qD_inj]
theorem eqO_RR (a b c d : Rat) : eqO (.tup [R a, R b]) (.tup [R c, R d]) = some (decide (a = c ∧ b = d)) := by
  rw [eqO_pl rfl rfl]; simp [R_inj]
/-- a way of so small parts -/
structure Vb (c : Nat) (v : V3) : Prop where
  x : v.x.natAbs ≤ c
  y : v.y.natAbs ≤ c
  z : v.z.natAbs ≤ c
theorem Vb.w {c k : Nat} {v : V3} (h : Vb c v) (hk : c < 2 ^ k) : Vw k v := ⟨W.of_lt h.x hk, W.of_lt h.y hk, W.of_lt h.z hk⟩
section
variable {m : Nat} {M : Store} {z0 z1 z2 z3 z4 z5 z6 z7 z8 z9 z10 z11 z12 z13 z14 z15 z16 z17 z18 z19 z20 z21 z22 z23 z24 z25 z26 z27 z28 z29 : Slot}
theorem r_way {k : Nat} {d : Dice} (hd : DiceOk k d) (hk : k ≤ 900000) {t : Int} (h1 : 0 ≤ t) {c : Nat} (ht : t = c) (h2 : c ≤ 1000) : ∃ v d', Vb c v ∧ DiceOk (k + 3) d' ∧ ∀ n, 2 ≤ n → runs px n 0 42 [.ref 0, .int t] [dD d] = .ok (vD v) [dD d'] := by
  obtain ⟨v, d', hv, hd', e⟩ := way_ok (p := px) (f := 42) (s := 31) rfl rfl hd hk t h1 (by omega)
  exact ⟨v, d', ⟨by omega, by omega, by omega⟩, hd', e⟩
theorem r_some {k : Nat} {d : Dice} (hd : DiceOk k d) (hk : k ≤ 900000) {t : Int} (h1 : 1 ≤ t) {c : Nat} (ht : t = c) (h2 : c ≤ 1000) : ∃ v d', v ≠ V3.o ∧ Vb c v ∧ DiceOk (k + 3) d' ∧ ∀ n, 3 ≤ n → runs px n 0 47 [.ref 0, .int t] [dD d] = .ok (vD v) [dD d'] := by
  obtain ⟨v, d', hv0, hv, hd', e⟩ := some_ok (p := px) (f := 47) (g := 42) (s := 31) rfl rfl rfl hd hk t h1 (by omega)
  exact ⟨v, d', hv0, ⟨by omega, by omega, by omega⟩, hd', e⟩
theorem r_roll {k : Nat} {d : Dice} (hd : DiceOk k d) (hk : k ≤ 1000000) {many : Int} (h1 : 1 ≤ many) (h2 : many ≤ 100000000) : ∃ r d', 0 ≤ r ∧ r < many ∧ DiceOk (k + 1) d' ∧ ∀ n, 1 ≤ n → runs px n 0 31 [.ref 0, .int many] [dD d] = .ok (.int r) [dD d'] := roll_ok rfl hd hk many h1 h2
theorem l0 {k : Nat} {d : Dice} (hm : 220 ≤ m) (hd : DiceOk k d) (hk : k ≤ 100000) : ∃ t c d', t = ((c : Nat) : Int) ∧ 2 ≤ c ∧ c ≤ 30 ∧ DiceOk (k + 1) d' ∧ evS (px.cn m 0 (runs px m)) L0 [z0, .v (.ref 0), z2, z3, z4, z5, z6, z7, z8, z9, z10, z11, z12, z13, z14, z15, z16, z17, z18, z19, z20, z21, z22, z23, z24, z25, z26, z27, z28, z29] [dD d] = .nx [z0, .v (.ref 0), .v (.int t), z3, z4, z5, z6, z7, z8, z9, z10, z11, z12, z13, z14, z15, z16, z17, z18, z19, z20, z21, z22, z23, z24, z25, z26, z27, z28, z29] [dD d'] := by
  obtain ⟨r, d', r0, r1, hd', e⟩ := r_roll hd (by omega) (many := 3) (by omega) (by omega)
  have e := e m (by omega)
  have : r = 0 ∨ r = 1 ∨ r = 2 := by omega
  rcases this with rfl | rfl | rfl
  · exact ⟨2, 2, d', rfl, by omega, by omega, hd', by simp [L0, evSs, evS, evE, evEs, evI, evIf, evEo, evOr, evAnd, start, startI, getS, getO, seqF_t, seqF_l, seqF_s, atD, L2.atI, L2.ixN, optO, Out.bind, Out.st, SO.out, SO.outI, SO.seq, SO.turn, binO, cmp_lt, cmp_le, cmp_gt, cmp_ge, cmp_eqI, cmp_neI, cmp_eqT, cmp_neT, cmp_eqL, cmp_neL, cmp_eqS, cmp_neS, cmp_eqB, cmp_neB, cmp_eqN, cmp_neN, cmp_eqR, cmp_neR, cmp_is, cmp_isN, isN_n, isN_t, isN_R, isN_i, grd, Px.cn, biO, biSum, biAbs, biInt, intsOf, lcRun, lcGo, lcStep, lcK, rangeD, okR, asg, setAll, noEx, wipeR, noLam, ifK, frGo, mapB, List.range, List.range.loop, e, ixL]⟩
  · exact ⟨6, 6, d', rfl, by omega, by omega, hd', by simp [L0, evSs, evS, evE, evEs, evI, evIf, evEo, evOr, evAnd, start, startI, getS, getO, seqF_t, seqF_l, seqF_s, atD, L2.atI, L2.ixN, optO, Out.bind, Out.st, SO.out, SO.outI, SO.seq, SO.turn, binO, cmp_lt, cmp_le, cmp_gt, cmp_ge, cmp_eqI, cmp_neI, cmp_eqT, cmp_neT, cmp_eqL, cmp_neL, cmp_eqS, cmp_neS, cmp_eqB, cmp_neB, cmp_eqN, cmp_neN, cmp_eqR, cmp_neR, cmp_is, cmp_isN, isN_n, isN_t, isN_R, isN_i, grd, Px.cn, biO, biSum, biAbs, biInt, intsOf, lcRun, lcGo, lcStep, lcK, rangeD, okR, asg, setAll, noEx, wipeR, noLam, ifK, frGo, mapB, List.range, List.range.loop, e, ixL]⟩
  · exact ⟨30, 30, d', rfl, by omega, by omega, hd', by simp [L0, evSs, evS, evE, evEs, evI, evIf, evEo, evOr, evAnd, start, startI, getS, getO, seqF_t, seqF_l, seqF_s, atD, L2.atI, L2.ixN, optO, Out.bind, Out.st, SO.out, SO.outI, SO.seq, SO.turn, binO, cmp_lt, cmp_le, cmp_gt, cmp_ge, cmp_eqI, cmp_neI, cmp_eqT, cmp_neT, cmp_eqL, cmp_neL, cmp_eqS, cmp_neS, cmp_eqB, cmp_neB, cmp_eqN, cmp_neN, cmp_eqR, cmp_neR, cmp_is, cmp_isN, isN_n, isN_t, isN_R, isN_i, grd, Px.cn, biO, biSum, biAbs, biInt, intsOf, lcRun, lcGo, lcStep, lcK, rangeD, okR, asg, setAll, noEx, wipeR, noLam, ifK, frGo, mapB, List.range, List.range.loop, e, ixL]⟩
theorem l1 {k c : Nat} {d : Dice} {t : Int} (hm : 220 ≤ m) (hd : DiceOk k d) (hk : k ≤ 100000) (ht : t = c) (h1 : 2 ≤ c) (h2 : c ≤ 30) : ∃ s w p d', w ≠ V3.o ∧ Vb c s ∧ Vb c w ∧ Vb c p ∧ DiceOk (k + 9) d' ∧ evS (px.cn m 0 (runs px m)) L1 [z0, .v (.ref 0), .v (.int t), z3, z4, z5, z6, z7, z8, z9, z10, z11, z12, z13, z14, z15, z16, z17, z18, z19, z20, z21, z22, z23, z24, z25, z26, z27, z28, z29] [dD d] = .nx [z0, .v (.ref 0), .v (.int t), .v (vD s), .v (vD w), .v (vD p), z6, z7, z8, z9, z10, z11, z12, z13, z14, z15, z16, z17, z18, z19, z20, z21, z22, z23, z24, z25, z26, z27, z28, z29] [dD d'] := by
  obtain ⟨s, d1, a1, a2, e1⟩ := r_way hd (by omega) (by omega) ht (by omega)
  obtain ⟨w, d2, b0, b1, b2, e2⟩ := r_some a2 (by omega) (by omega) ht (by omega)
  obtain ⟨p, d3, c1, c2, e3⟩ := r_way b2 (by omega) (by omega) ht (by omega)
  exact ⟨s, w, p, d3, b0, a1, b1, c1, c2, by simp [L1, evSs, evS, evE, evEs, evI, evIf, evEo, evOr, evAnd, start, startI, getS, getO, seqF_t, seqF_l, seqF_s, atD, L2.atI, L2.ixN, optO, Out.bind, Out.st, SO.out, SO.outI, SO.seq, SO.turn, binO, cmp_lt, cmp_le, cmp_gt, cmp_ge, cmp_eqI, cmp_neI, cmp_eqT, cmp_neT, cmp_eqL, cmp_neL, cmp_eqS, cmp_neS, cmp_eqB, cmp_neB, cmp_eqN, cmp_neN, cmp_eqR, cmp_neR, cmp_is, cmp_isN, isN_n, isN_t, isN_R, isN_i, grd, Px.cn, biO, biSum, biAbs, biInt, intsOf, lcRun, lcGo, lcStep, lcK, rangeD, okR, asg, setAll, noEx, wipeR, noLam, ifK, frGo, mapB, List.range, List.range.loop, e1 m (by omega), e2 m (by omega), e3 m (by omega)]⟩
theorem l2 {k c : Nat} {d : Dice} {t : Int} {s w p : V3} (hm : 220 ≤ m) (hd : DiceOk k d) (hk : k ≤ 100000) (ht : t = c) (h1 : 2 ≤ c) (h2 : c ≤ 30) (hw : w ≠ V3.o) : ∃ s2 w2 d', w2 ≠ V3.o ∧ Vb c s2 ∧ Vb c w2 ∧ DiceOk (k + 6) d' ∧ evS (px.cn m 0 (runs px m)) L2 [z0, .v (.ref 0), .v (.int t), .v (vD s), .v (vD w), .v (vD p), z6, z7, z8, z9, z10, z11, z12, z13, z14, z15, z16, z17, z18, z19, z20, z21, z22, z23, z24, z25, z26, z27, z28, z29] [dD d] = .nx [z0, .v (.ref 0), .v (.int t), .v (vD s), .v (vD w), .v (vD p), .v (lnD s w), .v (lnD s2 w2), z8, z9, z10, z11, z12, z13, z14, z15, z16, z17, z18, z19, z20, z21, z22, z23, z24, z25, z26, z27, z28, z29] [dD d'] := by
  obtain ⟨s2, d1, a1, a2, e1⟩ := r_way hd (by omega) (by omega) ht (by omega)
  obtain ⟨w2, d2, b0, b1, b2, e2⟩ := r_some a2 (by omega) (by omega) ht (by omega)
  have e3 := fun M => r_line (n := m) (s := s) (M := M) (by omega) hw
  have e4 := fun M => r_line (n := m) (s := s2) (M := M) (by omega) b0
  refine ⟨s2, w2, d2, b0, a1, b1, b2, ?_⟩
  simp [L2, evSs, evS, evE, evEs, evI, evIf, evEo, evOr, evAnd, start, startI, getS, getO, seqF_t, seqF_l, seqF_s, atD, L2.atI, L2.ixN, optO, Out.bind, Out.st, SO.out, SO.outI, SO.seq, SO.turn, binO, cmp_lt, cmp_le, cmp_gt, cmp_ge, cmp_eqI, cmp_neI, cmp_eqT, cmp_neT, cmp_eqL, cmp_neL, cmp_eqS, cmp_neS, cmp_eqB, cmp_neB, cmp_eqN, cmp_neN, cmp_eqR, cmp_neR, cmp_is, cmp_isN, isN_n, isN_t, isN_R, isN_i, grd, Px.cn, biO, biSum, biAbs, biInt, intsOf, lcRun, lcGo, lcStep, lcK, rangeD, okR, asg, setAll, noEx, wipeR, noLam, ifK, frGo, mapB, List.range, List.range.loop, e1 m (by omega), e2 m (by omega), e3, e4, mkO]
  simp [lnD, mkO, evSs, evS, evE, evEs, evI, evIf, evEo, evOr, evAnd, start, startI, getS, getO, seqF_t, seqF_l, seqF_s, atD, L2.atI, L2.ixN, optO, Out.bind, Out.st, SO.out, SO.outI, SO.seq, SO.turn, binO, cmp_lt, cmp_le, cmp_gt, cmp_ge, cmp_eqI, cmp_neI, cmp_eqT, cmp_neT, cmp_eqL, cmp_neL, cmp_eqS, cmp_neS, cmp_eqB, cmp_neB, cmp_eqN, cmp_neN, cmp_eqR, cmp_neR, cmp_is, cmp_isN, isN_n, isN_t, isN_R, isN_i, grd, Px.cn, biO, biSum, biAbs, biInt, intsOf, lcRun, lcGo, lcStep, lcK, rangeD, okR, asg, setAll, noEx, wipeR, noLam, ifK, frGo, mapB, List.range, List.range.loop, e1 m (by omega), e2 m (by omega), e4]
theorem l3 {k c : Nat} {d : Dice} {t : Int} {s w p s2 w2 : V3} (hm : 220 ≤ m) (hd : DiceOk k d) (hk : k ≤ 100000) (h2 : c ≤ 30) (hs : Vb c s) (hw : Vb c w) (hs2 : Vb c s2) (hw2 : Vb c w2) (n2 : w2 ≠ V3.o) : ∃ s3 d', Vb 200 s3 ∧ DiceOk (k + 1) d' ∧ evS (px.cn m 0 (runs px m)) L3 [z0, .v (.ref 0), .v (.int t), .v (vD s), .v (vD w), .v (vD p), .v (lnD s w), .v (lnD s2 w2), z8, z9, z10, z11, z12, z13, z14, z15, z16, z17, z18, z19, z20, z21, z22, z23, z24, z25, z26, z27, z28, z29] [dD d] = .nx [z0, .v (.ref 0), .v (.int t), .v (vD s), .v (vD w), .v (vD p), .v (lnD s w), .v (lnD s3 w2), z8, z9, z10, z11, z12, z13, z14, z15, z16, z17, z18, z19, z20, z21, z22, z23, z24, z25, z26, z27, z28, z29] [dD d'] := by
  obtain ⟨r, d', r0, r1, hd', e⟩ := r_roll hd (by omega) (many := 3) (by omega) (by omega)
  have e := e m (by omega)
  by_cases h : r = 0
  · subst h
    have w1 := hw.w (k := 5) (by omega)
    have w2' := hw2.w (k := 5) (by omega)
    have i2 : W 2 2 := by unfold W; decide
    have i3 : W 2 3 := by unfold W; decide
    refine ⟨⟨s.x + 2 * w.x - 3 * w2.x, s.y + 2 * w.y - 3 * w2.y, s.z + 2 * w.z - 3 * w2.z⟩, d', ⟨?_, ?_, ?_⟩, hd', ?_⟩
    · have := hs.x; have := hw.x; have := hw2.x; dsimp only; omega
    · have := hs.y; have := hw.y; have := hw2.y; dsimp only; omega
    · have := hs.z; have := hw.z; have := hw2.z; dsimp only; omega
    · have e4 := fun s M => r_line (n := m) (s := s) (M := M) (by omega) n2
      simp [L3, evSs, evS, evE, evEs, evI, evIf, evEo, evOr, evAnd, start, startI, getS, getO, seqF_t, seqF_l, seqF_s, atD, L2.atI, L2.ixN, optO, Out.bind, Out.st, SO.out, SO.outI, SO.seq, SO.turn, binO, cmp_lt, cmp_le, cmp_gt, cmp_ge, cmp_eqI, cmp_neI, cmp_eqT, cmp_neT, cmp_eqL, cmp_neL, cmp_eqS, cmp_neS, cmp_eqB, cmp_neB, cmp_eqN, cmp_neN, cmp_eqR, cmp_neR, cmp_is, cmp_isN, isN_n, isN_t, isN_R, isN_i, grd, Px.cn, biO, biSum, biAbs, biInt, intsOf, lcRun, lcGo, lcStep, lcK, rangeD, okR, asg, setAll, noEx, wipeR, noLam, ifK, frGo, mapB, List.range, List.range.loop, e, fl1, ixV0, ixV1, ixV2, i2.mulB w1.x (by omega), i2.mulB w1.y (by omega), i2.mulB w1.z (by omega), i3.mulB w2'.x (by omega), i3.mulB w2'.y (by omega), i3.mulB w2'.z (by omega), btL, tup3, e4]
      simp [lnD, mkO]
  · exact ⟨s2, d', ⟨by have := hs2.x; omega, by have := hs2.y; omega, by have := hs2.z; omega⟩, hd', by simp [L3, evSs, evS, evE, evEs, evI, evIf, evEo, evOr, evAnd, start, startI, getS, getO, seqF_t, seqF_l, seqF_s, atD, L2.atI, L2.ixN, optO, Out.bind, Out.st, SO.out, SO.outI, SO.seq, SO.turn, binO, cmp_lt, cmp_le, cmp_gt, cmp_ge, cmp_eqI, cmp_neI, cmp_eqT, cmp_neT, cmp_eqL, cmp_neL, cmp_eqS, cmp_neS, cmp_eqB, cmp_neB, cmp_eqN, cmp_neN, cmp_eqR, cmp_neR, cmp_is, cmp_isN, isN_n, isN_t, isN_R, isN_i, grd, Px.cn, biO, biSum, biAbs, biInt, intsOf, lcRun, lcGo, lcStep, lcK, rangeD, okR, asg, setAll, noEx, wipeR, noLam, ifK, frGo, mapB, List.range, List.range.loop, e, h]⟩
theorem l4 {k c : Nat} {d : Dice} (hm : 220 ≤ m) (hd : DiceOk k d) (hk : k ≤ 100000) : ∃ q d', (∃ u, 0 < u ∧ u < 2 ^ 24 ∧ Q u 60 q) ∧ DiceOk (k + 2) d' ∧ evS (px.cn m 0 (runs px m)) L4 [z0, .v (.ref 0), z2, z3, z4, z5, z6, z7, z8, z9, z10, z11, z12, z13, z14, z15, z16, z17, z18, z19, z20, z21, z22, z23, z24, z25, z26, z27, z28, z29] [dD d] = .nx [z0, .v (.ref 0), z2, z3, z4, z5, z6, z7, .v (R q), z9, z10, z11, z12, z13, z14, z15, z16, z17, z18, z19, z20, z21, z22, z23, z24, z25, z26, z27, z28, z29] [dD d'] := by
  obtain ⟨r, d1, r0, r1, hd1, e1⟩ := r_roll hd (by omega) (many := 20) (by omega) (by omega)
  obtain ⟨r', d2, r0', r1', hd2, e2⟩ := r_roll hd1 (by omega) (many := 6) (by omega) (by omega)
  have hu : Und 30 (1 + r') := ⟨W_small (by omega) (by omega), by omega, .inl (by omega)⟩
  have e3 := fun M => r_lshare (n := m) (i := r - 10) (M := M) (by omega) hu
  refine ⟨Rat.divInt (r - 10) (1 + r'), d2, ⟨(1 + r').natAbs, by omega, by omega, Q.of_divInt (by omega) (Nat.dvd_refl _) (W_small (by omega) (by omega))⟩, hd2, ?_⟩
  simp [L4, evSs, evS, evE, evEs, evI, evIf, evEo, evOr, evAnd, start, startI, getS, getO, seqF_t, seqF_l, seqF_s, atD, L2.atI, L2.ixN, optO, Out.bind, Out.st, SO.out, SO.outI, SO.seq, SO.turn, binO, cmp_lt, cmp_le, cmp_gt, cmp_ge, cmp_eqI, cmp_neI, cmp_eqT, cmp_neT, cmp_eqL, cmp_neL, cmp_eqS, cmp_neS, cmp_eqB, cmp_neB, cmp_eqN, cmp_neN, cmp_eqR, cmp_neR, cmp_is, cmp_isN, isN_n, isN_t, isN_R, isN_i, grd, Px.cn, biO, biSum, biAbs, biInt, intsOf, lcRun, lcGo, lcStep, lcK, rangeD, okR, asg, setAll, noEx, wipeR, noLam, ifK, frGo, mapB, List.range, List.range.loop, e1 m (by omega), e2 m (by omega), e3]
/-! ### the nearest spot -/
variable {s w p s2 w2 : V3}
theorem near_Q (hs : Vw 8 s) (hw : Vw 5 w) (hp : Vw 8 p) (h : w ≠ V3.o) : ∃ u, 0 < u ∧ u < 2 ^ 24 ∧ Q u 60 (nearS s w p) := by
  have hd := dot_pos h
  have w1 := hw.dot hw
  refine ⟨(w.dot w).natAbs, by omega, Nat.lt_trans w1 (by decide), Q.of_divInt (by omega) (Nat.dvd_refl _) (((hp.sub hs).dot hw).mono (by omega))⟩
theorem iQ_w {u k : Nat} {v : V3} (h : Vw 8 v) (hk : 8 ≤ k) : Qw u k (iQ v) := ⟨(q_one h.x).mono hk, (q_one h.y).mono hk, (q_one h.z).mono hk⟩
theorem foldI (v : V3) : D.lst [R (v.x : Rat), R (v.y : Rat), R (v.z : Rat)] = qL (iQ v) := rfl
theorem l5 (hm : 220 ≤ m) (hs : Vw 8 s) (hw : Vw 5 w) (hp : Vw 8 p) (h : w ≠ V3.o) : evS (px.cn m 0 (runs px m)) L5 [z0, z1, z2, z3, z4, .v (vD p), .v (lnD s w), z7, z8, z9, z10, z11, z12, z13, z14, z15, z16, z17, z18, z19, z20, z21, z22, z23, z24, z25, z26, z27, z28, z29] M = .nx [z0, z1, z2, z3, z4, .v (vD p), .v (lnD s w), z7, z8, .v (R (nearS s w p)), .v (R (nearF s w p)), z11, z12, z13, z14, z15, z16, z17, z18, z19, z20, z21, z22, z23, z24, z25, z26, z27, z28, z29] M := by
  have e := fun M => r_near (n := m) (M := M) (by omega) (hs.mono (by omega)) (hw.mono (by omega)) (hp.mono (by omega)) h
  simp [L5, evSs, evS, evE, evEs, evI, evIf, evEo, evOr, evAnd, start, startI, getS, getO, seqF_t, seqF_l, seqF_s, atD, L2.atI, L2.ixN, optO, Out.bind, Out.st, SO.out, SO.outI, SO.seq, SO.turn, binO, cmp_lt, cmp_le, cmp_gt, cmp_ge, cmp_eqI, cmp_neI, cmp_eqT, cmp_neT, cmp_eqL, cmp_neL, cmp_eqS, cmp_neS, cmp_eqB, cmp_neB, cmp_eqN, cmp_neN, cmp_eqR, cmp_neR, cmp_is, cmp_isN, isN_n, isN_t, isN_R, isN_i, grd, Px.cn, biO, biSum, biAbs, biInt, intsOf, lcRun, lcGo, lcStep, lcK, rangeD, okR, asg, setAll, noEx, wipeR, noLam, ifK, frGo, mapB, List.range, List.range.loop, kMeth, mt2, e]
def gapN (s w p : V3) : Q3 := subQ (atQ s w (nearS s w p)) (iQ p)
theorem gapN_Q (hs : Vw 8 s) (hw : Vw 5 w) (hp : Vw 8 p) (h : w ≠ V3.o) : ∃ u, 0 < u ∧ u < 2 ^ 24 ∧ Qw u 1000 (gapN s w p) := by
  obtain ⟨u, u0, u1, hq⟩ := near_Q hs hw hp h
  have u2 : u < 2 ^ 48 := Nat.lt_trans u1 (by decide)
  have a := at_q hs (hw.mono (by omega)) hq u0 u2
  have g := gap_q (a := iQ p) (iQ_w hp (by omega)) a u0 u2
  exact ⟨u, u0, u1, ⟨g.x.mono (by omega), g.y.mono (by omega), g.z.mono (by omega)⟩⟩
theorem l6 (hm : 220 ≤ m) (hs : Vw 8 s) (hw : Vw 5 w) (hp : Vw 8 p) (h : w ≠ V3.o) : evS (px.cn m 0 (runs px m)) L6 [z0, z1, z2, .v (vD s), .v (vD w), .v (vD p), z6, z7, z8, .v (R (nearS s w p)), z10, z11, z12, z13, z14, z15, z16, z17, z18, z19, z20, z21, z22, z23, z24, z25, z26, z27, z28, z29] M = .nx [z0, z1, z2, .v (vD s), .v (vD w), .v (vD p), z6, z7, z8, .v (R (nearS s w p)), z10, .v (qL (gapN s w p)), z12, z13, z14, z15, z16, z17, z18, z19, z20, z21, z22, z23, z24, z25, z26, z27, z28, z29] M := by
  obtain ⟨u, u0, u1, hq⟩ := near_Q hs hw hp h
  have u2 : u < 2 ^ 48 := Nat.lt_trans u1 (by decide)
  have a := at_q hs (hw.mono (by omega)) hq u0 u2
  have e1 := fun M => r_lat (n := m) (M := M) (by omega) hs (hw.mono (by omega)) hq u0 u2 (by omega)
  have e2 := fun M => r_gapM (n := m) (M := M) (by omega) (iQ_w (u := u) (k := 160) hp (by omega)) a u0 u2 (by omega)
  simp [L6, evSs, evS, evE, evEs, evI, evIf, evEo, evOr, evAnd, start, startI, getS, getO, seqF_t, seqF_l, seqF_s, atD, L2.atI, L2.ixN, optO, Out.bind, Out.st, SO.out, SO.outI, SO.seq, SO.turn, binO, cmp_lt, cmp_le, cmp_gt, cmp_ge, cmp_eqI, cmp_neI, cmp_eqT, cmp_neT, cmp_eqL, cmp_neL, cmp_eqS, cmp_neS, cmp_eqB, cmp_neB, cmp_eqN, cmp_neN, cmp_eqR, cmp_neR, cmp_is, cmp_isN, isN_n, isN_t, isN_R, isN_i, grd, Px.cn, biO, biSum, biAbs, biInt, intsOf, lcRun, lcGo, lcStep, lcK, rangeD, okR, asg, setAll, noEx, wipeR, noLam, ifK, frGo, mapB, List.range, List.range.loop, sqV, R_int, foldI, e1, e2, gapN]
theorem sum_sq {u : Nat} {g : Q3} (hm : 220 ≤ m) (hg : Qw u 1000 g) (u0 : 0 < u) (u1 : u < 2 ^ 24) : (∀ M, runs px m 0 37 [R g.x, R g.x] M = .ok (R (g.x * g.x)) M) ∧ (∀ M, runs px m 0 37 [R g.y, R g.y] M = .ok (R (g.y * g.y)) M) ∧ (∀ M, runs px m 0 37 [R g.z, R g.z] M = .ok (R (g.z * g.z)) M) ∧ ∀ M, runs px m 0 45 [.lst [R (g.x * g.x), R (g.y * g.y), R (g.z * g.z)]] M = .ok (R (sqQ g)) M := by
  have u2 : u < 2 ^ 48 := Nat.lt_trans u1 (by decide)
  have uu : u * u < 2 ^ 48 := Nat.lt_of_lt_of_le (Nat.mul_lt_mul'' u1 u1) (by decide)
  exact ⟨fun M => r_lmul (by omega) (hg.x.s u0 u2 (by omega)) (hg.x.s u0 u2 (by omega)), fun M => r_lmul (by omega) (hg.y.s u0 u2 (by omega)) (hg.y.s u0 u2 (by omega)), fun M => r_lmul (by omega) (hg.z.s u0 u2 (by omega)) (hg.z.s u0 u2 (by omega)),
    fun M => r_sum3 (by omega) (hg.x.mul hg.x) (hg.y.mul hg.y) (hg.z.mul hg.z) (Nat.mul_pos u0 u0) uu (by omega)⟩
theorem l7 {q : Rat} (hm : 220 ≤ m) (hs : Vw 8 s) (hw : Vw 5 w) (hp : Vw 8 p) (h : w ≠ V3.o) (hq : ∃ u, 0 < u ∧ u < 2 ^ 24 ∧ Q u 60 q) : evS (px.cn m 0 (runs px m)) L7 [z0, z1, z2, .v (vD s), .v (vD w), .v (vD p), .v (lnD s w), z7, .v (R q), z9, .v (R (nearF s w p)), .v (qL (gapN s w p)), z12, z13, z14, z15, z16, z17, z18, z19, z20, z21, z22, z23, z24, z25, z26, z27, z28, z29] M = .nx [z0, z1, z2, .v (vD s), .v (vD w), .v (vD p), .v (lnD s w), z7, .v (R q), z9, .v (R (nearF s w p)), .v (qL (gapN s w p)), z12, z13, z14, z15, z16, z17, z18, z19, z20, z21, z22, z23, z24, z25, z26, z27, z28, z29] M := by
  obtain ⟨v, v0, v1, hq⟩ := hq
  obtain ⟨u, u0, u1, hg⟩ := gapN_Q hs hw hp h
  have u2 : u < 2 ^ 48 := Nat.lt_trans u1 (by decide)
  have v2 : v < 2 ^ 48 := Nat.lt_trans v1 (by decide)
  have e1 := fun M => r_at (n := m) (M := M) (j := 24) (by omega) (hs.mono (by omega)) (hw.mono (by omega)) (hq.den_w v0 v1) (hq.w.mono (by omega)) (by omega) (by omega)
  have e2 := fun M => r_lat (n := m) (M := M) (by omega) hs (hw.mono (by omega)) hq v0 v2 (by omega)
  have i3 : W 2 3 := by unfold W; decide
  have e3 := fun M => r_whole (n := m) (s := s) (M := M) (m := 3) (by omega) (hw.mono (by omega)) (i3.mono (by omega))
  have e4 := fun M => r_flatM (n := m) (M := M) (by omega) (hw.mono (by omega)) hg u0 u2 (by omega)
  obtain ⟨s1, s2, s3, s4⟩ := sum_sq hm hg u0 u1
  have hw3 : s.add (w.smul 3) = ⟨s.x + 3 * w.x, s.y + 3 * w.y, s.z + 3 * w.z⟩ := by simp [V3.add, V3.smul, Int.mul_comm]
  have x1 : dotQ w (gapN s w p) = 0 := m1 h
  have x2 : nearF s w p = sqQ (gapN s w p) := m2 h
  rw [x1] at e4
  rw [x2]
  simp [L7, evSs, evS, evE, evEs, evI, evIf, evEo, evOr, evAnd, start, startI, getS, getO, seqF_t, seqF_l, seqF_s, atD, L2.atI, L2.ixN, optO, Out.bind, Out.st, SO.out, SO.outI, SO.seq, SO.turn, binO, cmp_lt, cmp_le, cmp_gt, cmp_ge, cmp_eqI, cmp_neI, cmp_eqT, cmp_neT, cmp_eqL, cmp_neL, cmp_eqS, cmp_neS, cmp_eqB, cmp_neB, cmp_eqN, cmp_neN, cmp_eqR, cmp_neR, cmp_is, cmp_isN, isN_n, isN_t, isN_R, isN_i, grd, Px.cn, biO, biSum, biAbs, biInt, intsOf, lcRun, lcGo, lcStep, lcK, rangeD, okR, asg, setAll, noEx, wipeR, noLam, ifK, frGo, mapB, List.range, List.range.loop, kMeth, mt8, mt9, e1, e2, e3, e4, s1, s2, s3, s4, cmp_neQ, eqO_Q, cmp_neV, eqO_V, ixV0, ixV1, ixV2, i3.mulB hw.x (by omega), i3.mulB hw.y (by omega), i3.mulB hw.z (by omega), btL, tup3, hw3, R_zero, eqO_R, sqM]
theorem l8 (hm : 220 ≤ m) (hs : Vw 8 s) (hw : Vw 5 w) (hp : Vw 8 p) (h : w ≠ V3.o) : evS (px.cn m 0 (runs px m)) L8 [z0, z1, z2, .v (vD s), z4, .v (vD p), .v (lnD s w), z7, z8, .v (R (nearS s w p)), .v (R (nearF s w p)), z11, z12, z13, z14, z15, z16, z17, z18, z19, z20, z21, z22, z23, z24, z25, z26, z27, z28, z29] M = .nx [z0, z1, z2, .v (vD s), z4, .v (vD p), .v (lnD s w), z7, z8, .v (R (nearS s w p)), .v (R (nearF s w p)), z11, z12, z13, z14, z15, z16, z17, z18, z19, z20, z21, z22, z23, z24, z25, z26, z27, z28, z29] M := by
  have e1 := fun M => r_nearOn (n := m) (M := M) (by omega) (hs.mono (by omega)) (hw.mono (by omega)) (hp.mono (by omega)) h
  have e2 := fun M => r_from (n := m) (u := p) (v := s) (M := M) (by omega)
  have e3 := fun M => r_dot (n := m) (u := p.sub s) (v := p.sub s) (M := M) (by omega) (hp.sub hs) (hp.sub hs) (by omega)
  by_cases c : 0 ≤ nearS s w p
  · simp [L8, evSs, evS, evE, evEs, evI, evIf, evEo, evOr, evAnd, start, startI, getS, getO, seqF_t, seqF_l, seqF_s, atD, L2.atI, L2.ixN, optO, Out.bind, Out.st, SO.out, SO.outI, SO.seq, SO.turn, binO, cmp_lt, cmp_le, cmp_gt, cmp_ge, cmp_eqI, cmp_neI, cmp_eqT, cmp_neT, cmp_eqL, cmp_neL, cmp_eqS, cmp_neS, cmp_eqB, cmp_neB, cmp_eqN, cmp_neN, cmp_eqR, cmp_neR, cmp_is, cmp_isN, isN_n, isN_t, isN_R, isN_i, grd, Px.cn, biO, biSum, biAbs, biInt, intsOf, lcRun, lcGo, lcStep, lcK, rangeD, okR, asg, setAll, noEx, wipeR, noLam, ifK, frGo, mapB, List.range, List.range.loop, kMeth, mt10, e1, e2, e3, ixR0, num_ge, nearOn, c, eqO_RR]
  · simp [L8, evSs, evS, evE, evEs, evI, evIf, evEo, evOr, evAnd, start, startI, getS, getO, seqF_t, seqF_l, seqF_s, atD, L2.atI, L2.ixN, optO, Out.bind, Out.st, SO.out, SO.outI, SO.seq, SO.turn, binO, cmp_lt, cmp_le, cmp_gt, cmp_ge, cmp_eqI, cmp_neI, cmp_eqT, cmp_neT, cmp_eqL, cmp_neL, cmp_eqS, cmp_neS, cmp_eqB, cmp_neB, cmp_eqN, cmp_neN, cmp_eqR, cmp_neR, cmp_is, cmp_isN, isN_n, isN_t, isN_R, isN_i, grd, Px.cn, biO, biSum, biAbs, biInt, intsOf, lcRun, lcGo, lcStep, lcK, rangeD, okR, asg, setAll, noEx, wipeR, noLam, ifK, frGo, mapB, List.range, List.range.loop, kMeth, mt10, e1, e2, e3, ixR0, num_ge, nearOn, c, eqO_RR, R_zero, R_int]
end
end Q3
set_option Elab.async false
set_option linter.all false
set_option maxRecDepth 100000
set_option maxHeartbeats 4000000
/-! Q3G: the law's statements, two lines. -/
namespace Q3
open PI
section
variable {m : Nat} {M : Store} {z0 z1 z2 z3 z4 z5 z6 z7 z8 z9 z10 z11 z12 z13 z14 z15 z16 z17 z18 z19 z20 z21 z22 z23 z24 z25 z26 z27 z28 z29 : Slot} {s w p s2 w2 : V3}
theorem q_zero {u k : Nat} (hk : 1 ≤ k) : Q u k 0 := ⟨by simp, W.mono (a := 1) (by unfold W; decide) hk⟩
theorem btw_Q (hs : Vw 8 s) (hw : Vw 5 w) (hs2 : Vw 8 s2) (hw2 : Vw 5 w2) (h2 : w2 ≠ V3.o) : ∃ u, 0 < u ∧ u < 2 ^ 24 ∧ Q u 60 (btwM s w s2 w2) ∧ Q u 60 (btwT s w s2 w2) := by
  by_cases c : w.cross w2 = V3.o
  · obtain ⟨u, u0, u1, q⟩ := near_Q hs2 hw2 hs h2
    refine ⟨u, u0, u1, ?_, ?_⟩
    · unfold btwM; rw [if_pos c]; exact q_zero (by omega)
    · unfold btwT; rw [if_pos c]; exact q
  · have hd := dot_pos c
    have w1 := (hw.cross hw2).dot (hw.cross hw2)
    refine ⟨((w.cross w2).dot (w.cross w2)).natAbs, by omega, Nat.lt_of_lt_of_le w1 (by decide), ?_, ?_⟩
    · unfold btwM; rw [if_neg c]
      exact Q.of_divInt (by omega) (Nat.dvd_refl _) ((((hs2.sub hs).cross hw2).dot (hw.cross hw2)).mono (by omega))
    · unfold btwT; rw [if_neg c]
      exact Q.of_divInt (by omega) (Nat.dvd_refl _) ((((hs2.sub hs).cross hw).dot (hw.cross hw2)).mono (by omega))
theorem l9 (hm : 220 ≤ m) (hs : Vw 8 s) (hw : Vw 5 w) (hs2 : Vw 8 s2) (hw2 : Vw 5 w2) (h2 : w2 ≠ V3.o) : evS (px.cn m 0 (runs px m)) L9 [z0, z1, z2, z3, z4, z5, .v (lnD s w), .v (lnD s2 w2), z8, z9, z10, z11, z12, z13, z14, z15, z16, z17, z18, z19, z20, z21, z22, z23, z24, z25, z26, z27, z28, z29] M = .nx [z0, z1, z2, z3, z4, z5, .v (lnD s w), .v (lnD s2 w2), z8, z9, z10, z11, .v (R (btwM s w s2 w2)), .v (R (btwT s w s2 w2)), .v (R (btwA s w s2 w2)), z15, z16, z17, z18, z19, z20, z21, z22, z23, z24, z25, z26, z27, z28, z29] M := by
  have e := fun M => r_btw (n := m) (M := M) (by omega) (hs.mono (by omega)) (hw.mono (by omega)) (hs2.mono (by omega)) (hw2.mono (by omega)) h2
  simp [L9, evSs, evS, evE, evEs, evI, evIf, evEo, evOr, evAnd, start, startI, getS, getO, seqF_t, seqF_l, seqF_s, atD, L2.atI, L2.ixN, optO, Out.bind, Out.st, SO.out, SO.outI, SO.seq, SO.turn, binO, cmp_lt, cmp_le, cmp_gt, cmp_ge, cmp_eqI, cmp_neI, cmp_eqT, cmp_neT, cmp_eqL, cmp_neL, cmp_eqS, cmp_neS, cmp_eqB, cmp_neB, cmp_eqN, cmp_neN, cmp_eqR, cmp_neR, cmp_is, cmp_isN, isN_n, isN_t, isN_R, isN_i, grd, Px.cn, biO, biSum, biAbs, biInt, intsOf, lcRun, lcGo, lcStep, lcK, rangeD, okR, asg, setAll, noEx, wipeR, noLam, ifK, frGo, mapB, List.range, List.range.loop, kMeth, mt3, e]
theorem gapL_Q (hs : Vw 8 s) (hw : Vw 5 w) (hs2 : Vw 8 s2) (hw2 : Vw 5 w2) (h2 : w2 ≠ V3.o) : ∃ u, 0 < u ∧ u < 2 ^ 24 ∧ Qw u 1000 (gapL s w s2 w2) := by
  obtain ⟨u, u0, u1, q1, q2⟩ := btw_Q hs hw hs2 hw2 h2
  have u2 : u < 2 ^ 48 := Nat.lt_trans u1 (by decide)
  have g := gap_q (at_q hs (hw.mono (by omega)) q1 u0 u2) (at_q hs2 (hw2.mono (by omega)) q2 u0 u2) u0 u2
  exact ⟨u, u0, u1, ⟨g.x.mono (by omega), g.y.mono (by omega), g.z.mono (by omega)⟩⟩
theorem l10 (hm : 220 ≤ m) (hs : Vw 8 s) (hw : Vw 5 w) (hs2 : Vw 8 s2) (hw2 : Vw 5 w2) (h2 : w2 ≠ V3.o) : evS (px.cn m 0 (runs px m)) L10 [z0, z1, z2, .v (vD s), .v (vD w), z5, z6, .v (lnD s2 w2), z8, z9, z10, z11, .v (R (btwM s w s2 w2)), .v (R (btwT s w s2 w2)), z14, z15, z16, z17, z18, z19, z20, z21, z22, z23, z24, z25, z26, z27, z28, z29] M = .nx [z0, z1, z2, .v (vD s), .v (vD w), z5, z6, .v (lnD s2 w2), z8, z9, z10, .v (qL (gapL s w s2 w2)), .v (R (btwM s w s2 w2)), .v (R (btwT s w s2 w2)), z14, z15, z16, z17, z18, z19, z20, z21, z22, z23, z24, z25, z26, z27, z28, z29] M := by
  obtain ⟨u, u0, u1, q1, q2⟩ := btw_Q hs hw hs2 hw2 h2
  have u2 : u < 2 ^ 48 := Nat.lt_trans u1 (by decide)
  have a1 := at_q hs (hw.mono (by omega)) q1 u0 u2
  have a2 := at_q hs2 (hw2.mono (by omega)) q2 u0 u2
  have e1 := fun M => r_lat (n := m) (M := M) (by omega) hs (hw.mono (by omega)) q1 u0 u2 (by omega)
  have e2 := fun M => r_lat (n := m) (M := M) (by omega) hs2 (hw2.mono (by omega)) q2 u0 u2 (by omega)
  have e3 := fun M => r_gapQ (n := m) (M := M) (by omega) a1 a2 u0 u2 (by omega)
  simp [L10, evSs, evS, evE, evEs, evI, evIf, evEo, evOr, evAnd, start, startI, getS, getO, seqF_t, seqF_l, seqF_s, atD, L2.atI, L2.ixN, optO, Out.bind, Out.st, SO.out, SO.outI, SO.seq, SO.turn, binO, cmp_lt, cmp_le, cmp_gt, cmp_ge, cmp_eqI, cmp_neI, cmp_eqT, cmp_neT, cmp_eqL, cmp_neL, cmp_eqS, cmp_neS, cmp_eqB, cmp_neB, cmp_eqN, cmp_neN, cmp_eqR, cmp_neR, cmp_is, cmp_isN, isN_n, isN_t, isN_R, isN_i, grd, Px.cn, biO, biSum, biAbs, biInt, intsOf, lcRun, lcGo, lcStep, lcK, rangeD, okR, asg, setAll, noEx, wipeR, noLam, ifK, frGo, mapB, List.range, List.range.loop, fl0, fl1, e1, e2, e3, gapL]
theorem l11 (hm : 220 ≤ m) (hs : Vw 8 s) (hw : Vw 5 w) (hs2 : Vw 8 s2) (hw2 : Vw 5 w2) (h2 : w2 ≠ V3.o) : evS (px.cn m 0 (runs px m)) L11 [z0, z1, z2, z3, .v (vD w), z5, z6, .v (lnD s2 w2), z8, z9, z10, .v (qL (gapL s w s2 w2)), z12, z13, .v (R (btwA s w s2 w2)), z15, z16, z17, z18, z19, z20, z21, z22, z23, z24, z25, z26, z27, z28, z29] M = .nx [z0, z1, z2, z3, .v (vD w), z5, z6, .v (lnD s2 w2), z8, z9, z10, .v (qL (gapL s w s2 w2)), z12, z13, .v (R (btwA s w s2 w2)), z15, z16, z17, z18, z19, z20, z21, z22, z23, z24, z25, z26, z27, z28, z29] M := by
  obtain ⟨u, u0, u1, hg⟩ := gapL_Q hs hw hs2 hw2 h2
  have u2 : u < 2 ^ 48 := Nat.lt_trans u1 (by decide)
  obtain ⟨x1, x2, x3⟩ := m3 (s := s) (w := w) (s2 := s2) h2
  have e1 := fun M => r_flatM (n := m) (M := M) (by omega) (hw.mono (by omega)) hg u0 u2 (by omega)
  have e2 := fun M => r_flatM (n := m) (M := M) (by omega) (hw2.mono (by omega)) hg u0 u2 (by omega)
  obtain ⟨s1, s2, s3, s4⟩ := sum_sq hm hg u0 u1
  rw [x1] at e1
  rw [x2] at e2
  rw [x3]
  simp [L11, evSs, evS, evE, evEs, evI, evIf, evEo, evOr, evAnd, start, startI, getS, getO, seqF_t, seqF_l, seqF_s, atD, L2.atI, L2.ixN, optO, Out.bind, Out.st, SO.out, SO.outI, SO.seq, SO.turn, binO, cmp_lt, cmp_le, cmp_gt, cmp_ge, cmp_eqI, cmp_neI, cmp_eqT, cmp_neT, cmp_eqL, cmp_neL, cmp_eqS, cmp_neS, cmp_eqB, cmp_neB, cmp_eqN, cmp_neN, cmp_eqR, cmp_neR, cmp_is, cmp_isN, isN_n, isN_t, isN_R, isN_i, grd, Px.cn, biO, biSum, biAbs, biInt, intsOf, lcRun, lcGo, lcStep, lcK, rangeD, okR, asg, setAll, noEx, wipeR, noLam, ifK, frGo, mapB, List.range, List.range.loop, fl0, fl1, e1, e2, s1, s2, s3, s4, R_zero, eqO_R, sqM]
theorem l12 (hm : 220 ≤ m) (hs : Vw 8 s) (hw : Vw 5 w) (hs2 : Vw 8 s2) (hw2 : Vw 5 w2) (h : w ≠ V3.o) (h2 : w2 ≠ V3.o) : evS (px.cn m 0 (runs px m)) L12 [z0, z1, z2, z3, .v (vD w), z5, .v (lnD s w), .v (lnD s2 w2), z8, z9, z10, z11, z12, z13, z14, z15, z16, z17, z18, z19, z20, z21, z22, z23, z24, z25, z26, z27, z28, z29] M = .nx [z0, z1, z2, z3, .v (vD w), z5, .v (lnD s w), .v (lnD s2 w2), z8, z9, z10, z11, z12, z13, z14, .v (pairD (metL s w s2 w2)), .v (.bl (decide (w.cross w2 = V3.o))), z17, z18, z19, z20, z21, z22, z23, z24, z25, z26, z27, z28, z29] M := by
  have e1 := fun M => r_met (n := m) (M := M) (by omega) (hs.mono (by omega)) (hw.mono (by omega)) (hs2.mono (by omega)) (hw2.mono (by omega)) h h2
  have e2 := fun M => r_cross (n := m) (u := w) (v := w2) (M := M) (by omega) hw hw2 (by omega)
  simp [L12, evSs, evS, evE, evEs, evI, evIf, evEo, evOr, evAnd, start, startI, getS, getO, seqF_t, seqF_l, seqF_s, atD, L2.atI, L2.ixN, optO, Out.bind, Out.st, SO.out, SO.outI, SO.seq, SO.turn, binO, cmp_lt, cmp_le, cmp_gt, cmp_ge, cmp_eqI, cmp_neI, cmp_eqT, cmp_neT, cmp_eqL, cmp_neL, cmp_eqS, cmp_neS, cmp_eqB, cmp_neB, cmp_eqN, cmp_neN, cmp_eqR, cmp_neR, cmp_is, cmp_isN, isN_n, isN_t, isN_R, isN_i, grd, Px.cn, biO, biSum, biAbs, biInt, intsOf, lcRun, lcGo, lcStep, lcK, rangeD, okR, asg, setAll, noEx, wipeR, noLam, ifK, frGo, mapB, List.range, List.range.loop, kMeth, mt11, fl1, e1, e2, gl0, cmp_eqV, eqO_V]
theorem met_Q (hs : Vw 8 s) (hw : Vw 5 w) (hs2 : Vw 8 s2) (hw2 : Vw 5 w2) (h : w ≠ V3.o) (h2 : w2 ≠ V3.o) {a b : Rat} (e : metL s w s2 w2 = some (a, b)) : ∃ u, 0 < u ∧ u < 2 ^ 24 ∧ Q u 60 a ∧ Q u 60 b := by
  unfold metL at e
  split at e
  · split at e
    · cases e
      exact btw_Q hs hw hs2 hw2 h2
    · cases e
  · split at e
    · cases e
    · split at e
      · cases e
        obtain ⟨u, u0, u1, q⟩ := near_Q hs hw hs2 h
        exact ⟨u, u0, u1, q, q_zero (by omega)⟩
      · split at e
        · cases e
          obtain ⟨u, u0, u1, q⟩ := near_Q hs2 hw2 hs h2
          exact ⟨u, u0, u1, q_zero (by omega), q⟩
        · cases e
theorem isN_p (o : Option (Rat × Rat)) : D.isN (pairD o) = !o.isSome := by
  cases o with
  | none => rfl
  | some t => rfl
theorem met_none (c : w.cross w2 ≠ V3.o) : (metL s w s2 w2).isSome = decide (btwA s w s2 w2 = 0 ∧ 0 ≤ btwM s w s2 w2 ∧ 0 ≤ btwT s w s2 w2) := by
  unfold metL
  rw [if_pos c]
  by_cases q : btwA s w s2 w2 = 0 ∧ 0 ≤ btwM s w s2 w2 ∧ 0 ≤ btwT s w s2 w2
  · rw [if_pos q, decide_eq_true q]; rfl
  · rw [if_neg q, decide_eq_false q]; rfl
theorem l13 (hm : 220 ≤ m) (hs : Vw 8 s) (hw : Vw 5 w) (hs2 : Vw 8 s2) (hw2 : Vw 5 w2) (h : w ≠ V3.o) (h2 : w2 ≠ V3.o) : evS (px.cn m 0 (runs px m)) L13 [z0, z1, z2, .v (vD s), .v (vD w), z5, z6, .v (lnD s2 w2), z8, z9, z10, z11, .v (R (btwM s w s2 w2)), .v (R (btwT s w s2 w2)), .v (R (btwA s w s2 w2)), .v (pairD (metL s w s2 w2)), .v (.bl (decide (w.cross w2 = V3.o))), z17, z18, z19, z20, z21, z22, z23, z24, z25, z26, z27, z28, z29] M = .nx [z0, z1, z2, .v (vD s), .v (vD w), z5, z6, .v (lnD s2 w2), z8, z9, z10, z11, .v (R (btwM s w s2 w2)), .v (R (btwT s w s2 w2)), .v (R (btwA s w s2 w2)), .v (pairD (metL s w s2 w2)), .v (.bl (decide (w.cross w2 = V3.o))), z17, z18, z19, z20, z21, z22, z23, z24, z25, z26, z27, z28, z29] M := by
  have hn := met_none (s := s) (w := w) (s2 := s2) (w2 := w2)
  have key := fun a b => m5 (s := s) (w := w) (s2 := s2) (w2 := w2) (a := a) (b := b) h h2
  have kq := fun a b => met_Q (a := a) (b := b) hs hw hs2 hw2 h h2
  generalize btwM s w s2 w2 = bm at *
  generalize btwT s w s2 w2 = bt at *
  generalize btwA s w s2 w2 = ba at *
  generalize metL s w s2 w2 = mt at *
  cases mt with
  | none =>
    by_cases c : w.cross w2 = V3.o
    · simp [L13, evSs, evS, evE, evEs, evI, evIf, evEo, evOr, evAnd, start, startI, getS, getO, seqF_t, seqF_l, seqF_s, atD, L2.atI, L2.ixN, optO, Out.bind, Out.st, SO.out, SO.outI, SO.seq, SO.turn, binO, cmp_lt, cmp_le, cmp_gt, cmp_ge, cmp_eqI, cmp_neI, cmp_eqT, cmp_neT, cmp_eqL, cmp_neL, cmp_eqS, cmp_neS, cmp_eqB, cmp_neB, cmp_eqN, cmp_neN, cmp_eqR, cmp_neR, cmp_is, cmp_isN, isN_n, isN_t, isN_R, isN_i, grd, Px.cn, biO, biSum, biAbs, biInt, intsOf, lcRun, lcGo, lcStep, lcK, rangeD, okR, asg, setAll, noEx, wipeR, noLam, ifK, frGo, mapB, List.range, List.range.loop, pairD, c]
    · have hn := hn c
      by_cases c1 : ba = 0
      · by_cases c2 : 0 ≤ bm
        · have c3 : ¬ (0 ≤ bt) := fun c3 => by simp [c1, c2, c3] at hn
          have c3 := Rat.not_le.mp c3
          have c2' : ¬ (bm < 0) := by rw [Rat.not_lt]; exact c2
          simp [L13, evSs, evS, evE, evEs, evI, evIf, evEo, evOr, evAnd, start, startI, getS, getO, seqF_t, seqF_l, seqF_s, atD, L2.atI, L2.ixN, optO, Out.bind, Out.st, SO.out, SO.outI, SO.seq, SO.turn, binO, cmp_lt, cmp_le, cmp_gt, cmp_ge, cmp_eqI, cmp_neI, cmp_eqT, cmp_neT, cmp_eqL, cmp_neL, cmp_eqS, cmp_neS, cmp_eqB, cmp_neB, cmp_eqN, cmp_neN, cmp_eqR, cmp_neR, cmp_is, cmp_isN, isN_n, isN_t, isN_R, isN_i, grd, Px.cn, biO, biSum, biAbs, biInt, intsOf, lcRun, lcGo, lcStep, lcK, rangeD, okR, asg, setAll, noEx, wipeR, noLam, ifK, frGo, mapB, List.range, List.range.loop, pairD, c, R_zero, eqO_R, c1, ixR0, num_lt, c2', c3, eqO_bb]
        · have c2 := Rat.not_le.mp c2
          simp [L13, evSs, evS, evE, evEs, evI, evIf, evEo, evOr, evAnd, start, startI, getS, getO, seqF_t, seqF_l, seqF_s, atD, L2.atI, L2.ixN, optO, Out.bind, Out.st, SO.out, SO.outI, SO.seq, SO.turn, binO, cmp_lt, cmp_le, cmp_gt, cmp_ge, cmp_eqI, cmp_neI, cmp_eqT, cmp_neT, cmp_eqL, cmp_neL, cmp_eqS, cmp_neS, cmp_eqB, cmp_neB, cmp_eqN, cmp_neN, cmp_eqR, cmp_neR, cmp_is, cmp_isN, isN_n, isN_t, isN_R, isN_i, grd, Px.cn, biO, biSum, biAbs, biInt, intsOf, lcRun, lcGo, lcStep, lcK, rangeD, okR, asg, setAll, noEx, wipeR, noLam, ifK, frGo, mapB, List.range, List.range.loop, pairD, c, R_zero, eqO_R, c1, ixR0, num_lt, c2, eqO_bb]
      · simp [L13, evSs, evS, evE, evEs, evI, evIf, evEo, evOr, evAnd, start, startI, getS, getO, seqF_t, seqF_l, seqF_s, atD, L2.atI, L2.ixN, optO, Out.bind, Out.st, SO.out, SO.outI, SO.seq, SO.turn, binO, cmp_lt, cmp_le, cmp_gt, cmp_ge, cmp_eqI, cmp_neI, cmp_eqT, cmp_neT, cmp_eqL, cmp_neL, cmp_eqS, cmp_neS, cmp_eqB, cmp_neB, cmp_eqN, cmp_neN, cmp_eqR, cmp_neR, cmp_is, cmp_isN, isN_n, isN_t, isN_R, isN_i, grd, Px.cn, biO, biSum, biAbs, biInt, intsOf, lcRun, lcGo, lcStep, lcK, rangeD, okR, asg, setAll, noEx, wipeR, noLam, ifK, frGo, mapB, List.range, List.range.loop, pairD, c, R_zero, eqO_R, c1, eqO_bb]
  | some t =>
    obtain ⟨a, b⟩ := t
    obtain ⟨k1, k2, k3⟩ := key a b rfl
    obtain ⟨u, u0, u1, q1, q2⟩ := kq a b rfl
    have u2 : u < 2 ^ 48 := Nat.lt_trans u1 (by decide)
    have e1 := fun M => r_lat (n := m) (M := M) (by omega) hs (hw.mono (by omega)) q1 u0 u2 (by omega)
    have e2 := fun M => r_lat (n := m) (M := M) (by omega) hs2 (hw2.mono (by omega)) q2 u0 u2 (by omega)
    have k2' : ¬ (a < 0) := by rw [Rat.not_lt]; exact k2
    have k3' : ¬ (b < 0) := by rw [Rat.not_lt]; exact k3
    by_cases c : w.cross w2 = V3.o
    · simp [L13, evSs, evS, evE, evEs, evI, evIf, evEo, evOr, evAnd, start, startI, getS, getO, seqF_t, seqF_l, seqF_s, atD, L2.atI, L2.ixN, optO, Out.bind, Out.st, SO.out, SO.outI, SO.seq, SO.turn, binO, cmp_lt, cmp_le, cmp_gt, cmp_ge, cmp_eqI, cmp_neI, cmp_eqT, cmp_neT, cmp_eqL, cmp_neL, cmp_eqS, cmp_neS, cmp_eqB, cmp_neB, cmp_eqN, cmp_neN, cmp_eqR, cmp_neR, cmp_is, cmp_isN, isN_n, isN_t, isN_R, isN_i, grd, Px.cn, biO, biSum, biAbs, biInt, intsOf, lcRun, lcGo, lcStep, lcK, rangeD, okR, asg, setAll, noEx, wipeR, noLam, ifK, frGo, mapB, List.range, List.range.loop, pairD, c, fl0, fl1, ixT, e1, e2, k1, cmp_neQ, eqO_Q, ixR0, num_lt, k2', k3']
    · have hn := hn c
      have hn : ba = 0 ∧ 0 ≤ bm ∧ 0 ≤ bt := by simpa using hn.symm
      obtain ⟨c1, c2, c3⟩ := hn
      have c2' : ¬ (bm < 0) := by rw [Rat.not_lt]; exact c2
      have c3' : ¬ (bt < 0) := by rw [Rat.not_lt]; exact c3
      simp [L13, evSs, evS, evE, evEs, evI, evIf, evEo, evOr, evAnd, start, startI, getS, getO, seqF_t, seqF_l, seqF_s, atD, L2.atI, L2.ixN, optO, Out.bind, Out.st, SO.out, SO.outI, SO.seq, SO.turn, binO, cmp_lt, cmp_le, cmp_gt, cmp_ge, cmp_eqI, cmp_neI, cmp_eqT, cmp_neT, cmp_eqL, cmp_neL, cmp_eqS, cmp_neS, cmp_eqB, cmp_neB, cmp_eqN, cmp_neN, cmp_eqR, cmp_neR, cmp_is, cmp_isN, isN_n, isN_t, isN_R, isN_i, grd, Px.cn, biO, biSum, biAbs, biInt, intsOf, lcRun, lcGo, lcStep, lcK, rangeD, okR, asg, setAll, noEx, wipeR, noLam, ifK, frGo, mapB, List.range, List.range.loop, pairD, c, fl0, fl1, ixT, e1, e2, k1, cmp_neQ, eqO_Q, ixR0, num_lt, k2', k3', R_zero, eqO_R, c1, c2', c3', eqO_bb]
theorem l14 (hm : 220 ≤ m) (hs : Vw 8 s) (hw : Vw 5 w) (hs2 : Vw 8 s2) (hw2 : Vw 5 w2) (h : w ≠ V3.o) (h2 : w2 ≠ V3.o) : ∃ y17 y18 : Slot, evS (px.cn m 0 (runs px m)) L14 [z0, z1, z2, .v (vD s), z4, z5, .v (lnD s w), .v (lnD s2 w2), z8, z9, z10, z11, z12, z13, .v (R (btwA s w s2 w2)), .v (pairD (metL s w s2 w2)), .v (.bl (decide (w.cross w2 = V3.o))), z17, z18, z19, z20, z21, z22, z23, z24, z25, z26, z27, z28, z29] M = .nx [z0, z1, z2, .v (vD s), z4, z5, .v (lnD s w), .v (lnD s2 w2), z8, z9, z10, z11, z12, z13, .v (R (btwA s w s2 w2)), .v (pairD (metL s w s2 w2)), .v (.bl (decide (w.cross w2 = V3.o))), y17, y18, z19, z20, z21, z22, z23, z24, z25, z26, z27, z28, z29] M := by
  by_cases c : w.cross w2 = V3.o
  · obtain ⟨x1, x2⟩ := m7 (s := s) (s2 := s2) c h h2
    have e1 := fun M => r_near (n := m) (M := M) (by omega) (hs.mono (by omega)) (hw.mono (by omega)) (hs2.mono (by omega)) h
    have e2 := fun M => r_near (n := m) (M := M) (by omega) (hs2.mono (by omega)) (hw2.mono (by omega)) (hs.mono (by omega)) h2
    generalize btwA s w s2 w2 = ba at *
    generalize metL s w s2 w2 = mt at *
    generalize nearS s w s2 = na at *
    generalize nearS s2 w2 s = nb at *
    generalize nearF s w s2 = fa at *
    generalize nearF s2 w2 s = fb at *
    refine ⟨.v (.lst [R na, R nb]), .v (.bl (decide (ba = 0 ∧ (0 ≤ na ∨ 0 ≤ nb)))), ?_⟩
    cases mt with
    | none =>
      have x1 : ¬ (ba = 0 ∧ (0 ≤ na ∨ 0 ≤ nb)) := fun q => by have := x1.mpr q; simp at this
      by_cases c1 : ba = 0
      · have c2 : ¬ (0 ≤ na) := fun q => x1 ⟨c1, .inl q⟩
        have c3 : ¬ (0 ≤ nb) := fun q => x1 ⟨c1, .inr q⟩
        simp [L14, evSs, evS, evE, evEs, evI, evIf, evEo, evOr, evAnd, start, startI, getS, getO, seqF_t, seqF_l, seqF_s, atD, L2.atI, L2.ixN, optO, Out.bind, Out.st, SO.out, SO.outI, SO.seq, SO.turn, binO, cmp_lt, cmp_le, cmp_gt, cmp_ge, cmp_eqI, cmp_neI, cmp_eqT, cmp_neT, cmp_eqL, cmp_neL, cmp_eqS, cmp_neS, cmp_eqB, cmp_neB, cmp_eqN, cmp_neN, cmp_eqR, cmp_neR, cmp_is, cmp_isN, isN_n, isN_t, isN_R, isN_i, grd, Px.cn, biO, biSum, biAbs, biInt, intsOf, lcRun, lcGo, lcStep, lcK, rangeD, okR, asg, setAll, noEx, wipeR, noLam, ifK, frGo, mapB, List.range, List.range.loop, c, kMeth, mt2, fl0, e1, e2, ixT, ixL, R_zero, eqO_R, c1, c2, c3, ixR0, num_ge, pairD, eqO_bb]
      · simp [L14, evSs, evS, evE, evEs, evI, evIf, evEo, evOr, evAnd, start, startI, getS, getO, seqF_t, seqF_l, seqF_s, atD, L2.atI, L2.ixN, optO, Out.bind, Out.st, SO.out, SO.outI, SO.seq, SO.turn, binO, cmp_lt, cmp_le, cmp_gt, cmp_ge, cmp_eqI, cmp_neI, cmp_eqT, cmp_neT, cmp_eqL, cmp_neL, cmp_eqS, cmp_neS, cmp_eqB, cmp_neB, cmp_eqN, cmp_neN, cmp_eqR, cmp_neR, cmp_is, cmp_isN, isN_n, isN_t, isN_R, isN_i, grd, Px.cn, biO, biSum, biAbs, biInt, intsOf, lcRun, lcGo, lcStep, lcK, rangeD, okR, asg, setAll, noEx, wipeR, noLam, ifK, frGo, mapB, List.range, List.range.loop, c, kMeth, mt2, fl0, e1, e2, ixT, ixL, R_zero, eqO_R, c1, ixR0, num_ge, pairD, eqO_bb]
    | some t =>
      obtain ⟨a, b⟩ := t
      have x2 := x2 a b rfl
      obtain ⟨c1, c2⟩ := x1.mp rfl
      by_cases c3 : 0 ≤ nb
      · rw [if_pos c3] at x2
        by_cases c4 : 0 ≤ na
        · simp [L14, evSs, evS, evE, evEs, evI, evIf, evEo, evOr, evAnd, start, startI, getS, getO, seqF_t, seqF_l, seqF_s, atD, L2.atI, L2.ixN, optO, Out.bind, Out.st, SO.out, SO.outI, SO.seq, SO.turn, binO, cmp_lt, cmp_le, cmp_gt, cmp_ge, cmp_eqI, cmp_neI, cmp_eqT, cmp_neT, cmp_eqL, cmp_neL, cmp_eqS, cmp_neS, cmp_eqB, cmp_neB, cmp_eqN, cmp_neN, cmp_eqR, cmp_neR, cmp_is, cmp_isN, isN_n, isN_t, isN_R, isN_i, grd, Px.cn, biO, biSum, biAbs, biInt, intsOf, lcRun, lcGo, lcStep, lcK, rangeD, okR, asg, setAll, noEx, wipeR, noLam, ifK, frGo, mapB, List.range, List.range.loop, c, kMeth, mt2, fl0, e1, e2, ixT, ixL, R_zero, eqO_R, c1, c3, c4, ixR0, num_ge, pairD, eqO_bb, x2]
        · simp [L14, evSs, evS, evE, evEs, evI, evIf, evEo, evOr, evAnd, start, startI, getS, getO, seqF_t, seqF_l, seqF_s, atD, L2.atI, L2.ixN, optO, Out.bind, Out.st, SO.out, SO.outI, SO.seq, SO.turn, binO, cmp_lt, cmp_le, cmp_gt, cmp_ge, cmp_eqI, cmp_neI, cmp_eqT, cmp_neT, cmp_eqL, cmp_neL, cmp_eqS, cmp_neS, cmp_eqB, cmp_neB, cmp_eqN, cmp_neN, cmp_eqR, cmp_neR, cmp_is, cmp_isN, isN_n, isN_t, isN_R, isN_i, grd, Px.cn, biO, biSum, biAbs, biInt, intsOf, lcRun, lcGo, lcStep, lcK, rangeD, okR, asg, setAll, noEx, wipeR, noLam, ifK, frGo, mapB, List.range, List.range.loop, c, kMeth, mt2, fl0, e1, e2, ixT, ixL, R_zero, eqO_R, c1, c3, c4, ixR0, num_ge, pairD, eqO_bb, x2]
      · rw [if_neg c3] at x2
        have c4 : 0 ≤ na := c2.resolve_right c3
        simp [L14, evSs, evS, evE, evEs, evI, evIf, evEo, evOr, evAnd, start, startI, getS, getO, seqF_t, seqF_l, seqF_s, atD, L2.atI, L2.ixN, optO, Out.bind, Out.st, SO.out, SO.outI, SO.seq, SO.turn, binO, cmp_lt, cmp_le, cmp_gt, cmp_ge, cmp_eqI, cmp_neI, cmp_eqT, cmp_neT, cmp_eqL, cmp_neL, cmp_eqS, cmp_neS, cmp_eqB, cmp_neB, cmp_eqN, cmp_neN, cmp_eqR, cmp_neR, cmp_is, cmp_isN, isN_n, isN_t, isN_R, isN_i, grd, Px.cn, biO, biSum, biAbs, biInt, intsOf, lcRun, lcGo, lcStep, lcK, rangeD, okR, asg, setAll, noEx, wipeR, noLam, ifK, frGo, mapB, List.range, List.range.loop, c, kMeth, mt2, fl0, e1, e2, ixT, ixL, R_zero, eqO_R, c1, c3, c4, ixR0, num_ge, pairD, eqO_bb, x2]
  · exact ⟨z17, z18, by simp [L14, evSs, evS, evE, evEs, evI, evIf, evEo, evOr, evAnd, start, startI, getS, getO, seqF_t, seqF_l, seqF_s, atD, L2.atI, L2.ixN, optO, Out.bind, Out.st, SO.out, SO.outI, SO.seq, SO.turn, binO, cmp_lt, cmp_le, cmp_gt, cmp_ge, cmp_eqI, cmp_neI, cmp_eqT, cmp_neT, cmp_eqL, cmp_neL, cmp_eqS, cmp_neS, cmp_eqB, cmp_neB, cmp_eqN, cmp_neN, cmp_eqR, cmp_neR, cmp_is, cmp_isN, isN_n, isN_t, isN_R, isN_i, grd, Px.cn, biO, biSum, biAbs, biInt, intsOf, lcRun, lcGo, lcStep, lcK, rangeD, okR, asg, setAll, noEx, wipeR, noLam, ifK, frGo, mapB, List.range, List.range.loop, c]⟩
end
end Q3
set_option Elab.async false
set_option linter.all false
set_option maxRecDepth 100000
set_option maxHeartbeats 4000000
/-! Q3I: the law's statements, faces. -/
namespace Q3
open PI
theorem isN_o (o : Option Rat) : D.isN (optR o) = !o.isSome := by
  cases o with
  | none => rfl
  | some t => rfl
section
variable {m : Nat} {M : Store} {z0 z1 z2 z3 z4 z5 z6 z7 z8 z9 z10 z11 z12 z13 z14 z15 z16 z17 z18 z19 z20 z21 z22 z23 z24 z25 z26 z27 z28 z29 : Slot} {s w p u : V3} {mu : Int}
theorem l15 {k : Nat} {d : Dice} (hm : 220 ≤ m) (hd : DiceOk k d) (hk : k ≤ 100000) : ∃ u mu d', u ≠ V3.o ∧ Vb 5 u ∧ W 20 mu ∧ DiceOk (k + 4) d' ∧ evS (px.cn m 0 (runs px m)) L15 [z0, .v (.ref 0), z2, z3, z4, z5, z6, z7, z8, z9, z10, z11, z12, z13, z14, z15, z16, z17, z18, z19, z20, z21, z22, z23, z24, z25, z26, z27, z28, z29] [dD d] = .nx [z0, .v (.ref 0), z2, z3, z4, z5, z6, z7, z8, z9, z10, z11, z12, z13, z14, z15, z16, z17, z18, .v (vD u), .v (.int mu), z21, z22, z23, z24, z25, z26, z27, z28, z29] [dD d'] := by
  obtain ⟨u, d1, u0, u1, hd1, e1⟩ := r_some hd (by omega) (t := 5) (by omega) (c := 5) rfl (by omega)
  obtain ⟨r, d2, r0, r1, hd2, e2⟩ := r_roll hd1 (by omega) (many := 20) (by omega) (by omega)
  refine ⟨u, r - 10, d2, u0, u1, ?_, hd2, by simp [L15, evSs, evS, evE, evEs, evI, evIf, evEo, evOr, evAnd, start, startI, getS, getO, seqF_t, seqF_l, seqF_s, atD, L2.atI, L2.ixN, optO, Out.bind, Out.st, SO.out, SO.outI, SO.seq, SO.turn, binO, cmp_lt, cmp_le, cmp_gt, cmp_ge, cmp_eqI, cmp_neI, cmp_eqT, cmp_neT, cmp_eqL, cmp_neL, cmp_eqS, cmp_neS, cmp_eqB, cmp_neB, cmp_eqN, cmp_neN, cmp_eqR, cmp_neR, cmp_is, cmp_isN, isN_n, isN_t, isN_R, isN_i, grd, Px.cn, biO, biSum, biAbs, biInt, intsOf, lcRun, lcGo, lcStep, lcK, rangeD, okR, asg, setAll, noEx, wipeR, noLam, ifK, frGo, mapB, List.range, List.range.loop, e1 m (by omega), e2 m (by omega)]⟩
  exact W.of_lt (c := 10) (by omega) (by decide)
theorem l16 (hm : 220 ≤ m) (h : u ≠ V3.o) : evS (px.cn m 0 (runs px m)) L16 [z0, z1, z2, z3, z4, z5, z6, z7, z8, z9, z10, z11, z12, z13, z14, z15, z16, z17, z18, .v (vD u), .v (.int mu), z21, z22, z23, z24, z25, z26, z27, z28, z29] M = .nx [z0, z1, z2, z3, z4, z5, z6, z7, z8, z9, z10, z11, z12, z13, z14, z15, z16, z17, z18, .v (vD u), .v (.int mu), .v (fcD u mu), z22, z23, z24, z25, z26, z27, z28, z29] M := by
  have e := fun M => r_face (n := m) (m := mu) (M := M) (by omega) h
  simp [L16, evSs, evS, evE, evEs, evI, evIf, evEo, evOr, evAnd, start, startI, getS, getO, seqF_t, seqF_l, seqF_s, atD, L2.atI, L2.ixN, optO, Out.bind, Out.st, SO.out, SO.outI, SO.seq, SO.turn, binO, cmp_lt, cmp_le, cmp_gt, cmp_ge, cmp_eqI, cmp_neI, cmp_eqT, cmp_neT, cmp_eqL, cmp_neL, cmp_eqS, cmp_neS, cmp_eqB, cmp_neB, cmp_eqN, cmp_neN, cmp_eqR, cmp_neR, cmp_is, cmp_isN, isN_n, isN_t, isN_R, isN_i, grd, Px.cn, biO, biSum, biAbs, biInt, intsOf, lcRun, lcGo, lcStep, lcK, rangeD, okR, asg, setAll, noEx, wipeR, noLam, ifK, frGo, mapB, List.range, List.range.loop, e]
  simp [fcD, mkO]
theorem l17 (hm : 220 ≤ m) (hu : Vw 3 u) (hp : Vw 8 p) : evS (px.cn m 0 (runs px m)) L17 [z0, z1, z2, z3, z4, .v (vD p), z6, z7, z8, z9, z10, z11, z12, z13, z14, z15, z16, z17, z18, .v (vD u), .v (.int mu), z21, z22, z23, z24, z25, z26, z27, z28, z29] M = .nx [z0, z1, z2, z3, z4, .v (vD p), z6, z7, z8, z9, z10, z11, z12, z13, z14, z15, z16, z17, z18, .v (vD u), .v (.int mu), z21, .v (.int (offF u mu p)), z23, z24, z25, z26, z27, z28, z29] M := by
  have e := fun M => r_dot (n := m) (u := u) (v := p) (M := M) (by omega) hu hp (by omega)
  simp [L17, evSs, evS, evE, evEs, evI, evIf, evEo, evOr, evAnd, start, startI, getS, getO, seqF_t, seqF_l, seqF_s, atD, L2.atI, L2.ixN, optO, Out.bind, Out.st, SO.out, SO.outI, SO.seq, SO.turn, binO, cmp_lt, cmp_le, cmp_gt, cmp_ge, cmp_eqI, cmp_neI, cmp_eqT, cmp_neT, cmp_eqL, cmp_neL, cmp_eqS, cmp_neS, cmp_eqB, cmp_neB, cmp_eqN, cmp_neN, cmp_eqR, cmp_neR, cmp_is, cmp_isN, isN_n, isN_t, isN_R, isN_i, grd, Px.cn, biO, biSum, biAbs, biInt, intsOf, lcRun, lcGo, lcStep, lcK, rangeD, okR, asg, setAll, noEx, wipeR, noLam, ifK, frGo, mapB, List.range, List.range.loop, e, offF]
theorem l18 (hm : 220 ≤ m) (h : u ≠ V3.o) (hu : Vw 3 u) (hp : Vw 8 p) (hmu : W 20 mu) : evS (px.cn m 0 (runs px m)) L18 [z0, z1, z2, z3, z4, .v (vD p), z6, z7, z8, z9, z10, z11, z12, z13, z14, z15, z16, z17, z18, z19, z20, .v (fcD u mu), z22, z23, z24, z25, z26, z27, z28, z29] M = .nx [z0, z1, z2, z3, z4, .v (vD p), z6, z7, z8, z9, z10, z11, z12, z13, z14, z15, z16, z17, z18, z19, z20, .v (fcD u mu), z22, .v (qD (footF u mu p)), .v (qD (mirF u mu p)), z25, z26, z27, z28, z29] M := by
  have e1 := fun M => r_foot (n := m) (M := M) (by omega) (hu.mono (by omega)) (hp.mono (by omega)) (hmu.mono (by omega)) h
  have e2 := fun M => r_mir (n := m) (M := M) (by omega) (hu.mono (by omega)) (hp.mono (by omega)) (hmu.mono (by omega)) h
  simp [L18, evSs, evS, evE, evEs, evI, evIf, evEo, evOr, evAnd, start, startI, getS, getO, seqF_t, seqF_l, seqF_s, atD, L2.atI, L2.ixN, optO, Out.bind, Out.st, SO.out, SO.outI, SO.seq, SO.turn, binO, cmp_lt, cmp_le, cmp_gt, cmp_ge, cmp_eqI, cmp_neI, cmp_eqT, cmp_neT, cmp_eqL, cmp_neL, cmp_eqS, cmp_neS, cmp_eqB, cmp_neB, cmp_eqN, cmp_neN, cmp_eqR, cmp_neR, cmp_is, cmp_isN, isN_n, isN_t, isN_R, isN_i, grd, Px.cn, biO, biSum, biAbs, biInt, intsOf, lcRun, lcGo, lcStep, lcK, rangeD, okR, asg, setAll, noEx, wipeR, noLam, ifK, frGo, mapB, List.range, List.range.loop, kMeth, mt13, mt14, e1, e2]
def gapF (u : V3) (mu : Int) (p : V3) : Q3 := subQ (footF u mu p) (iQ p)
theorem face_Q (h : u ≠ V3.o) (hu : Vw 3 u) (hp : Vw 8 p) (hmu : W 20 mu) : ∃ d, 0 < d ∧ d < 2 ^ 24 ∧ Qw d 160 (footF u mu p) ∧ Qw d 160 (mirF u mu p) := by
  have hd := dot_pos h
  have w1 := hu.dot hu
  have wo : W 100 (offF u mu p) := ((hu.dot hp).sub hmu).mono (by omega)
  have i2 : W 2 2 := by unfold W; decide
  refine ⟨(u.dot u).natAbs, by omega, Nat.lt_trans w1 (by decide), ⟨?_, ?_, ?_⟩, ⟨?_, ?_, ?_⟩⟩
  · exact Q.of_divInt (by omega) (Nat.dvd_refl _) (((hp.x.mul w1).sub (hu.x.mul wo)).mono (by omega))
  · exact Q.of_divInt (by omega) (Nat.dvd_refl _) (((hp.y.mul w1).sub (hu.y.mul wo)).mono (by omega))
  · exact Q.of_divInt (by omega) (Nat.dvd_refl _) (((hp.z.mul w1).sub (hu.z.mul wo)).mono (by omega))
  · exact Q.of_divInt (by omega) (Nat.dvd_refl _) (((hp.x.mul w1).sub ((i2.mul hu.x).mul wo)).mono (by omega))
  · exact Q.of_divInt (by omega) (Nat.dvd_refl _) (((hp.y.mul w1).sub ((i2.mul hu.y).mul wo)).mono (by omega))
  · exact Q.of_divInt (by omega) (Nat.dvd_refl _) (((hp.z.mul w1).sub ((i2.mul hu.z).mul wo)).mono (by omega))
theorem l19 (hm : 220 ≤ m) (h : u ≠ V3.o) (hu : Vw 3 u) (hp : Vw 8 p) (hmu : W 20 mu) : evS (px.cn m 0 (runs px m)) L19 [z0, z1, z2, z3, z4, .v (vD p), z6, z7, z8, z9, z10, z11, z12, z13, z14, z15, z16, z17, z18, z19, z20, z21, z22, .v (qD (footF u mu p)), z24, z25, z26, z27, z28, z29] M = .nx [z0, z1, z2, z3, z4, .v (vD p), z6, z7, z8, z9, z10, .v (qL (gapF u mu p)), z12, z13, z14, z15, z16, z17, z18, z19, z20, z21, z22, .v (qD (footF u mu p)), z24, z25, z26, z27, z28, z29] M := by
  obtain ⟨d, d0, d1, q1, q2⟩ := face_Q h hu hp hmu
  have d2 : d < 2 ^ 48 := Nat.lt_trans d1 (by decide)
  have e2 := fun M => r_gapM (n := m) (M := M) (by omega) (iQ_w (u := d) (k := 160) hp (by omega)) q1 d0 d2 (by omega)
  simp [L19, evSs, evS, evE, evEs, evI, evIf, evEo, evOr, evAnd, start, startI, getS, getO, seqF_t, seqF_l, seqF_s, atD, L2.atI, L2.ixN, optO, Out.bind, Out.st, SO.out, SO.outI, SO.seq, SO.turn, binO, cmp_lt, cmp_le, cmp_gt, cmp_ge, cmp_eqI, cmp_neI, cmp_eqT, cmp_neT, cmp_eqL, cmp_neL, cmp_eqS, cmp_neS, cmp_eqB, cmp_neB, cmp_eqN, cmp_neN, cmp_eqR, cmp_neR, cmp_is, cmp_isN, isN_n, isN_t, isN_R, isN_i, grd, Px.cn, biO, biSum, biAbs, biInt, intsOf, lcRun, lcGo, lcStep, lcK, rangeD, okR, asg, setAll, noEx, wipeR, noLam, ifK, frGo, mapB, List.range, List.range.loop, sqV, R_int, foldI, e2, gapF]
theorem R_two : D.tup [.int 2, .int 1] = R 2 := rfl
theorem q_mono {a k l : Nat} {v : Q3} (h : Qw a k v) (hk : k ≤ l) : Qw a l v := ⟨h.x.mono hk, h.y.mono hk, h.z.mono hk⟩
theorem l20 (hm : 220 ≤ m) (h : u ≠ V3.o) (hu : Vw 3 u) (hp : Vw 8 p) (hmu : W 20 mu) : evS (px.cn m 0 (runs px m)) L20 [z0, z1, z2, z3, z4, .v (vD p), z6, z7, z8, z9, z10, .v (qL (gapF u mu p)), z12, z13, z14, z15, z16, z17, z18, .v (vD u), .v (.int mu), .v (fcD u mu), .v (.int (offF u mu p)), .v (qD (footF u mu p)), .v (qD (mirF u mu p)), z25, z26, z27, z28, z29] M = .nx [z0, z1, z2, z3, z4, .v (vD p), z6, z7, z8, z9, z10, .v (qL (gapF u mu p)), z12, z13, z14, z15, z16, z17, z18, .v (vD u), .v (.int mu), .v (fcD u mu), .v (.int (offF u mu p)), .v (qD (footF u mu p)), .v (qD (mirF u mu p)), z25, z26, z27, z28, z29] M := by
  obtain ⟨d, d0, d1, q1, q2⟩ := face_Q h hu hp hmu
  have d2 : d < 2 ^ 48 := Nat.lt_trans d1 (by decide)
  have g : Qw d 1000 (gapF u mu p) := q_mono (gap_q (a := iQ p) (iQ_w hp (by omega)) q1 d0 d2) (by omega)
  have e1 := fun M => r_side (n := m) (m := mu) (M := M) (by omega) (hu.mono (by omega)) (hp.mono (by omega))
  have e2 := fun M => r_flatQ (n := m) (M := M) (by omega) (hu.mono (by omega)) q1 d0 d2 (by omega)
  have e3 := fun M => r_sqoff (n := m) (M := M) (by omega) (hu.mono (by omega)) (hp.mono (by omega)) (hmu.mono (by omega)) h
  obtain ⟨s1, s2, s3, s4⟩ := sum_sq hm g d0 d1
  have a : ∀ {i : Int} {x : Rat}, W 8 i → Q d 160 x → ∀ M, runs px m 0 36 [R (i : Rat), R x] M = .ok (R (i + x)) M := fun hi hx M => r_ladd (by omega) (Qs_int hi (by omega) (by omega)) (hx.s d0 d2 (by omega))
  have t2 : Qs 48 2 := ⟨by unfold W; decide, W.mono (a := 2) (by unfold W; decide) (by omega)⟩
  have b : ∀ {x : Rat}, Q d 160 x → ∀ M, runs px m 0 37 [R 2, R x] M = .ok (R (2 * x)) M := fun hx M => r_lmul (by omega) t2 (hx.s d0 d2 (by omega))
  have c : ∀ {i : Int} {x : Rat}, W 3 i → Q d 1000 x → ∀ M, runs px m 0 37 [R x, R (i : Rat)] M = .ok (R (x * i)) M := fun hi hx M => r_lmul (by omega) (hx.s d0 d2 (by omega)) (Qs_int hi (by omega) (by omega))
  rw [f2 h] at e2
  have x3 : sqF u mu p = sqQ (gapF u mu p) := f3 h
  rw [x3] at e3
  obtain ⟨y1, y2, y3⟩ := f4 (m := mu) (p := p) h
  have f5' : (gapF u mu p).z * u.x = (gapF u mu p).x * u.z ∧ (gapF u mu p).x * u.y = (gapF u mu p).y * u.x ∧ (gapF u mu p).y * u.z = (gapF u mu p).z * u.y := f5 h
  obtain ⟨v1, v2, v3⟩ := f5'
  have a1 := a hp.x q2.x
  have a2 := a hp.y q2.y
  have a3 := a hp.z q2.z
  rw [y1] at a1
  rw [y2] at a2
  rw [y3] at a3
  have c1 := c hu.x g.z
  have c2 := c hu.y g.x
  have c3 := c hu.z g.y
  rw [v1] at c1
  rw [v2] at c2
  rw [v3] at c3
  have sg : sgn (offF u mu p) = bI (decide (0 < offF u mu p)) - bI (decide (offF u mu p < 0)) := rfl
  simp [L20, evSs, evS, evE, evEs, evI, evIf, evEo, evOr, evAnd, start, startI, getS, getO, seqF_t, seqF_l, seqF_s, atD, L2.atI, L2.ixN, optO, Out.bind, Out.st, SO.out, SO.outI, SO.seq, SO.turn, binO, cmp_lt, cmp_le, cmp_gt, cmp_ge, cmp_eqI, cmp_neI, cmp_eqT, cmp_neT, cmp_eqL, cmp_neL, cmp_eqS, cmp_neS, cmp_eqB, cmp_neB, cmp_eqN, cmp_neN, cmp_eqR, cmp_neR, cmp_is, cmp_isN, isN_n, isN_t, isN_R, isN_i, grd, Px.cn, biO, biSum, biAbs, biInt, intsOf, lcRun, lcGo, lcStep, lcK, rangeD, okR, asg, setAll, noEx, wipeR, noLam, ifK, frGo, mapB, List.range, List.range.loop, kMeth, mt7, mt12, e1, e2, e3, s1, s2, s3, s4, sg, R_int, eqO_R, sqM, ixV0, ixV1, ixV2, ixVa, ixQ0, ixQ1, ixQ2, ixM0, ixM1, ixM2, ixMa, R_two, a1, a2, a3, b q1.x, b q1.y, b q1.z, c1, c2, c3, c hu.z g.x, c hu.x g.y, c hu.y g.z, eqO_isE]
theorem l21 (hm : 220 ≤ m) (hu : Vw 3 u) (hs : Vw 8 s) (hw : Vw 5 w) : evS (px.cn m 0 (runs px m)) L21 [z0, z1, z2, .v (vD s), .v (vD w), z5, z6, z7, z8, z9, z10, z11, z12, z13, z14, z15, z16, z17, z18, .v (vD u), .v (.int mu), z21, z22, z23, z24, z25, z26, z27, z28, z29] M = .nx [z0, z1, z2, .v (vD s), .v (vD w), z5, z6, z7, z8, z9, z10, z11, z12, z13, z14, z15, z16, z17, z18, .v (vD u), .v (.int mu), z21, z22, z23, z24, .v (.int (u.dot w)), .v (.int (mu - u.dot s)), z27, z28, z29] M := by
  have e1 := fun M => r_dot (n := m) (u := u) (v := w) (M := M) (by omega) hu hw (by omega)
  have e2 := fun M => r_dot (n := m) (u := u) (v := s) (M := M) (by omega) hu hs (by omega)
  simp [L21, evSs, evS, evE, evEs, evI, evIf, evEo, evOr, evAnd, start, startI, getS, getO, seqF_t, seqF_l, seqF_s, atD, L2.atI, L2.ixN, optO, Out.bind, Out.st, SO.out, SO.outI, SO.seq, SO.turn, binO, cmp_lt, cmp_le, cmp_gt, cmp_ge, cmp_eqI, cmp_neI, cmp_eqT, cmp_neT, cmp_eqL, cmp_neL, cmp_eqS, cmp_neS, cmp_eqB, cmp_neB, cmp_eqN, cmp_neN, cmp_eqR, cmp_neR, cmp_is, cmp_isN, isN_n, isN_t, isN_R, isN_i, grd, Px.cn, biO, biSum, biAbs, biInt, intsOf, lcRun, lcGo, lcStep, lcK, rangeD, okR, asg, setAll, noEx, wipeR, noLam, ifK, frGo, mapB, List.range, List.range.loop, e1, e2]
theorem l22 (hm : 220 ≤ m) (hu : Vw 3 u) (hs : Vw 8 s) (hw : Vw 5 w) : evS (px.cn m 0 (runs px m)) L22 [z0, z1, z2, z3, z4, z5, .v (lnD s w), z7, z8, z9, z10, z11, z12, z13, z14, z15, z16, z17, z18, z19, z20, .v (fcD u mu), z22, z23, z24, z25, z26, z27, z28, z29] M = .nx [z0, z1, z2, z3, z4, z5, .v (lnD s w), z7, z8, z9, z10, z11, z12, z13, z14, z15, z16, z17, z18, z19, z20, .v (fcD u mu), z22, z23, z24, z25, z26, .v (optR (meetF u mu s w)), z28, z29] M := by
  have e1 := fun M => r_meets (n := m) (m := mu) (M := M) (by omega) (hu.mono (by omega)) (hs.mono (by omega)) (hw.mono (by omega))
  simp [L22, evSs, evS, evE, evEs, evI, evIf, evEo, evOr, evAnd, start, startI, getS, getO, seqF_t, seqF_l, seqF_s, atD, L2.atI, L2.ixN, optO, Out.bind, Out.st, SO.out, SO.outI, SO.seq, SO.turn, binO, cmp_lt, cmp_le, cmp_gt, cmp_ge, cmp_eqI, cmp_neI, cmp_eqT, cmp_neT, cmp_eqL, cmp_neL, cmp_eqS, cmp_neS, cmp_eqB, cmp_neB, cmp_eqN, cmp_neN, cmp_eqR, cmp_neR, cmp_is, cmp_isN, isN_n, isN_t, isN_R, isN_i, grd, Px.cn, biO, biSum, biAbs, biInt, intsOf, lcRun, lcGo, lcStep, lcK, rangeD, okR, asg, setAll, noEx, wipeR, noLam, ifK, frGo, mapB, List.range, List.range.loop, kMeth, mt6, e1]
theorem l23 (hm : 220 ≤ m) (hu : Vw 3 u) (hs : Vw 8 s) (hw : Vw 5 w) (hmu : W 20 mu) : evS (px.cn m 0 (runs px m)) L23 [z0, z1, z2, z3, z4, z5, .v (lnD s w), z7, z8, z9, z10, z11, z12, z13, z14, z15, z16, z17, z18, .v (vD u), .v (.int mu), z21, z22, z23, z24, .v (.int (u.dot w)), .v (.int (mu - u.dot s)), .v (optR (meetF u mu s w)), z28, z29] M = .nx [z0, z1, z2, z3, z4, z5, .v (lnD s w), z7, z8, z9, z10, z11, z12, z13, z14, z15, z16, z17, z18, .v (vD u), .v (.int mu), z21, z22, z23, z24, .v (.int (u.dot w)), .v (.int (mu - u.dot s)), .v (optR (meetF u mu s w)), z28, z29] M := by
  have k1 := fun q => f7 (u := u) (m := mu) (s := s) (w := w) (q := q)
  have k2 := fun q => meet_q (q := q) (hu.mono (show 3 ≤ 14 by omega)) hmu hs (hw.mono (show 5 ≤ 8 by omega))
  have wa := hu.dot hw
  have wb := hmu.sub (hu.dot hs)
  have mb := wa.mulB wb (by omega)
  have fl : ∀ q, meetF u mu s w = some q → (∀ M, runs px m 0 12 [lnD s w, R q] M = .ok (qD (atQ s w q)) M) ∧ ∀ M, runs px m 0 46 [vD u, qD (atQ s w q)] M = .ok (R (mu : Rat)) M := fun q e => by
    have hq := k2 q e
    have hd : ∃ d, 0 < d ∧ d < 2 ^ 24 ∧ Q d 30 q := by
      split at hq
      · exact ⟨1, by omega, by decide, hq⟩
      · rename_i c
        exact ⟨_, Int.natAbs_pos.mpr c, Nat.lt_of_lt_of_le wa (by decide), hq⟩
    obtain ⟨d, d0, d1, hq⟩ := hd
    have d2 : d < 2 ^ 48 := Nat.lt_trans d1 (by decide)
    refine ⟨fun M => r_at (n := m) (M := M) (j := 24) (by omega) (hs.mono (by omega)) (hw.mono (by omega)) (hq.den_w d0 d1) (hq.w.mono (by omega)) (by omega) (by omega), fun M => ?_⟩
    rw [r_flatQ (n := m) (M := M) (by omega) (hu.mono (by omega)) (at_q hs (hw.mono (by omega)) hq d0 d2) d0 d2 (by omega), k1 q e]
  rw [f6] at fl ⊢
  generalize u.dot w = a at *
  generalize mu - u.dot s = b at *
  unfold meetL at fl ⊢
  by_cases ha : a = 0
  · subst ha
    by_cases hb : b = 0
    · subst hb
      obtain ⟨e1, e2⟩ := fl 0 (by simp)
      simp [L23, evSs, evS, evE, evEs, evI, evIf, evEo, evOr, evAnd, start, startI, getS, getO, seqF_t, seqF_l, seqF_s, atD, L2.atI, L2.ixN, optO, Out.bind, Out.st, SO.out, SO.outI, SO.seq, SO.turn, binO, cmp_lt, cmp_le, cmp_gt, cmp_ge, cmp_eqI, cmp_neI, cmp_eqT, cmp_neT, cmp_eqL, cmp_neL, cmp_eqS, cmp_neS, cmp_eqB, cmp_neB, cmp_eqN, cmp_neN, cmp_eqR, cmp_neR, cmp_is, cmp_isN, isN_n, isN_t, isN_R, isN_i, grd, Px.cn, biO, biSum, biAbs, biInt, intsOf, lcRun, lcGo, lcStep, lcK, rangeD, okR, asg, setAll, noEx, wipeR, noLam, ifK, frGo, mapB, List.range, List.range.loop, optR, mb, R_zero, eqO_R, kMeth, mt8, e1, e2, R_int]
    · simp [L23, evSs, evS, evE, evEs, evI, evIf, evEo, evOr, evAnd, start, startI, getS, getO, seqF_t, seqF_l, seqF_s, atD, L2.atI, L2.ixN, optO, Out.bind, Out.st, SO.out, SO.outI, SO.seq, SO.turn, binO, cmp_lt, cmp_le, cmp_gt, cmp_ge, cmp_eqI, cmp_neI, cmp_eqT, cmp_neT, cmp_eqL, cmp_neL, cmp_eqS, cmp_neS, cmp_eqB, cmp_neB, cmp_eqN, cmp_neN, cmp_eqR, cmp_neR, cmp_is, cmp_isN, isN_n, isN_t, isN_R, isN_i, grd, Px.cn, biO, biSum, biAbs, biInt, intsOf, lcRun, lcGo, lcStep, lcK, rangeD, okR, asg, setAll, noEx, wipeR, noLam, ifK, frGo, mapB, List.range, List.range.loop, optR, hb, mb, eqO_nn]
  · by_cases hb : b = 0
    · subst hb
      obtain ⟨e1, e2⟩ := fl 0 (by simp)
      simp [L23, evSs, evS, evE, evEs, evI, evIf, evEo, evOr, evAnd, start, startI, getS, getO, seqF_t, seqF_l, seqF_s, atD, L2.atI, L2.ixN, optO, Out.bind, Out.st, SO.out, SO.outI, SO.seq, SO.turn, binO, cmp_lt, cmp_le, cmp_gt, cmp_ge, cmp_eqI, cmp_neI, cmp_eqT, cmp_neT, cmp_eqL, cmp_neL, cmp_eqS, cmp_neS, cmp_eqB, cmp_neB, cmp_eqN, cmp_neN, cmp_eqR, cmp_neR, cmp_is, cmp_isN, isN_n, isN_t, isN_R, isN_i, grd, Px.cn, biO, biSum, biAbs, biInt, intsOf, lcRun, lcGo, lcStep, lcK, rangeD, okR, asg, setAll, noEx, wipeR, noLam, ifK, frGo, mapB, List.range, List.range.loop, optR, ha, mb, R_zero, eqO_R, kMeth, mt8, e1, e2, R_int]
    · by_cases c : a * b < 0
      · simp [L23, evSs, evS, evE, evEs, evI, evIf, evEo, evOr, evAnd, start, startI, getS, getO, seqF_t, seqF_l, seqF_s, atD, L2.atI, L2.ixN, optO, Out.bind, Out.st, SO.out, SO.outI, SO.seq, SO.turn, binO, cmp_lt, cmp_le, cmp_gt, cmp_ge, cmp_eqI, cmp_neI, cmp_eqT, cmp_neT, cmp_eqL, cmp_neL, cmp_eqS, cmp_neS, cmp_eqB, cmp_neB, cmp_eqN, cmp_neN, cmp_eqR, cmp_neR, cmp_is, cmp_isN, isN_n, isN_t, isN_R, isN_i, grd, Px.cn, biO, biSum, biAbs, biInt, intsOf, lcRun, lcGo, lcStep, lcK, rangeD, okR, asg, setAll, noEx, wipeR, noLam, ifK, frGo, mapB, List.range, List.range.loop, optR, ha, hb, c, mb, eqO_nn]
      · have hU : Und 30 a := ⟨wa.mono (by omega), ha, .inr (by omega)⟩
        have e3 := fun M => r_lshare (n := m) (i := b) (M := M) (by omega) hU
        obtain ⟨e1, e2⟩ := fl (Rat.divInt b a) (by simp [ha, hb, c])
        simp [L23, evSs, evS, evE, evEs, evI, evIf, evEo, evOr, evAnd, start, startI, getS, getO, seqF_t, seqF_l, seqF_s, atD, L2.atI, L2.ixN, optO, Out.bind, Out.st, SO.out, SO.outI, SO.seq, SO.turn, binO, cmp_lt, cmp_le, cmp_gt, cmp_ge, cmp_eqI, cmp_neI, cmp_eqT, cmp_neT, cmp_eqL, cmp_neL, cmp_eqS, cmp_neS, cmp_eqB, cmp_neB, cmp_eqN, cmp_neN, cmp_eqR, cmp_neR, cmp_is, cmp_isN, isN_n, isN_t, isN_R, isN_i, grd, Px.cn, biO, biSum, biAbs, biInt, intsOf, lcRun, lcGo, lcStep, lcK, rangeD, okR, asg, setAll, noEx, wipeR, noLam, ifK, frGo, mapB, List.range, List.range.loop, optR, ha, hb, c, mb, e3, eqO_R, kMeth, mt8, e1, e2, R_int]
end
end Q3
set_option Elab.async false
set_option linter.all false
set_option maxRecDepth 100000
set_option maxHeartbeats 4000000
/-! Q3J: the law's rest: three faces, corners. -/
namespace Q3
open PI
theorem lcGo_fm {α : Type} (f h : α → D) (P : α → Bool) (step : D → Store → Out (List D)) : ∀ (g : List α) (M : Store), (∀ a ∈ g, ∀ M, step (f a) M = .ok (if P a = true then [h a] else []) M) → lcGo step (g.map f) M = .ok ((g.filter P).map h) M
  | [], M, _ => rfl
  | a :: g, M, hs => by
    rw [List.map_cons, lcGo, hs a List.mem_cons_self]
    show (lcGo step (g.map f) M).bind _ = _
    rw [lcGo_fm f h P step g M fun b hb => hs b (List.mem_cons_of_mem _ hb)]
    show Out.ok _ M = _
    cases q : P a <;> simp [q]
theorem isN_v (o : Option V3) : D.isN (optV o) = !o.isSome := by
  cases o with
  | none => rfl
  | some t => rfl
theorem isN_q (o : Option Q3) : D.isN (optQ o) = !o.isSome := by
  cases o with
  | none => rfl
  | some t => rfl
section
variable {m : Nat} {M : Store} {z0 z1 z2 z3 z4 z5 z6 z7 z8 z9 z10 z11 z12 z13 z14 z15 z16 z17 z18 z19 z20 : Slot} {s w p u u1 u2 a b c : V3} {mu n1 n2 : Int}
abbrev fL (u : V3) (mu : Int) (u1 : V3) (n1 : Int) (u2 : V3) (n2 : Int) : D := .lst [fcD u mu, fcD u1 n1, fcD u2 n2]
theorem t0 {k : Nat} {d : Dice} (hm : 205 ≤ m) (hd : DiceOk k d) (hk : k ≤ 100000) : ∃ u1 n1 u2 n2 d', u1 ≠ V3.o ∧ Vb 4 u1 ∧ W 20 n1 ∧ u2 ≠ V3.o ∧ Vb 4 u2 ∧ W 20 n2 ∧ DiceOk (k + 8) d' ∧ evS (px.cn m 0 (runs px m)) T0 [.v (.ref 0), z1, .v (fcD u mu), z3, z4, z5, z6, z7, z8, z9, z10, z11, z12, z13, z14, z15, z16, z17, z18, z19, z20] [dD d] = .nx [.v (.ref 0), z1, .v (fcD u mu), z3, z4, z5, .v (fL u mu u1 n1 u2 n2), z7, z8, z9, z10, z11, z12, z13, z14, z15, z16, z17, z18, z19, z20] [dD d'] := by
  obtain ⟨u1, d1, a0, a1, hd1, e1⟩ := r_some hd (by omega) (t := 4) (by omega) (c := 4) rfl (by omega)
  obtain ⟨r1, d2, b0, b1, hd2, e2⟩ := r_roll hd1 (by omega) (many := 9) (by omega) (by omega)
  obtain ⟨u2, d3, c0, c1, hd3, e3⟩ := r_some hd2 (by omega) (t := 4) (by omega) (c := 4) rfl (by omega)
  obtain ⟨r2, d4, g0, g1, hd4, e4⟩ := r_roll hd3 (by omega) (many := 9) (by omega) (by omega)
  refine ⟨u1, r1 - 4, u2, r2 - 4, d4, a0, a1, W.of_lt (c := 10) (by omega) (by decide), c0, c1, W.of_lt (c := 10) (by omega) (by decide), hd4, ?_⟩
  have f1 := fun m' M => r_face (n := m) (u := u1) (m := m') (M := M) (by omega) a0
  have f2 := fun m' M => r_face (n := m) (u := u2) (m := m') (M := M) (by omega) c0
  have k1 : ∀ m' M, mkO false (.ok (fcD u1 m') M) = .ok (fcD u1 m') M := fun _ _ => rfl
  have k2 : ∀ m' M, mkO false (.ok (fcD u2 m') M) = .ok (fcD u2 m') M := fun _ _ => rfl
  simp [T0, evSs, evS, evE, evEs, evI, evIf, evEo, evOr, evAnd, start, startI, getS, getO, seqF_t, seqF_l, seqF_s, atD, L2.atI, L2.ixN, optO, Out.bind, Out.st, SO.out, SO.outI, SO.seq, SO.turn, binO, cmp_lt, cmp_le, cmp_gt, cmp_ge, cmp_eqI, cmp_neI, cmp_eqT, cmp_neT, cmp_eqL, cmp_neL, cmp_eqS, cmp_neS, cmp_eqB, cmp_neB, cmp_eqN, cmp_neN, cmp_eqR, cmp_neR, cmp_is, cmp_isN, isN_n, isN_t, isN_R, isN_i, grd, Px.cn, biO, biSum, biAbs, biInt, intsOf, lcRun, lcGo, lcStep, lcK, rangeD, okR, asg, setAll, noEx, wipeR, noLam, ifK, frGo, mapB, List.range, List.range.loop, e1 m (by omega), e2 m (by omega), e3 m (by omega), e4 m (by omega), f1, f2, k1, k2]
theorem t1 (hm : 205 ≤ m) (hu : Vw 3 u) (h1 : Vw 3 u1) : evS (px.cn m 0 (runs px m)) T1 [z0, z1, .v (fcD u mu), z3, z4, z5, .v (fL u mu u1 n1 u2 n2), z7, z8, z9, z10, z11, z12, z13, z14, z15, z16, z17, z18, z19, z20] M = .nx [z0, z1, .v (fcD u mu), z3, z4, z5, .v (fL u mu u1 n1 u2 n2), .v (optV (shareF u u1)), z8, z9, z10, z11, z12, z13, z14, z15, z16, z17, z18, z19, z20] M := by
  have e := fun M => r_shared (n := m) (m := mu) (m2 := n1) (M := M) (by omega) (hu.mono (by omega)) (h1.mono (by omega))
  simp [T1, evSs, evS, evE, evEs, evI, evIf, evEo, evOr, evAnd, start, startI, getS, getO, seqF_t, seqF_l, seqF_s, atD, L2.atI, L2.ixN, optO, Out.bind, Out.st, SO.out, SO.outI, SO.seq, SO.turn, binO, cmp_lt, cmp_le, cmp_gt, cmp_ge, cmp_eqI, cmp_neI, cmp_eqT, cmp_neT, cmp_eqL, cmp_neL, cmp_eqS, cmp_neS, cmp_eqB, cmp_neB, cmp_eqN, cmp_neN, cmp_eqR, cmp_neR, cmp_is, cmp_isN, isN_n, isN_t, isN_R, isN_i, grd, Px.cn, biO, biSum, biAbs, biInt, intsOf, lcRun, lcGo, lcStep, lcK, rangeD, okR, asg, setAll, noEx, wipeR, noLam, ifK, frGo, mapB, List.range, List.range.loop, kMeth, mt15, ixL, e]
theorem short_w {k : Nat} {v : V3} (hv : Vw k v) (h : v ≠ V3.o) : Vw k (shortV v) := by
  obtain ⟨x, y, z⟩ := short_mul h
  have h0 := byV_ne h
  have key : ∀ i j : Int, i * byV v = j → W k j → W k i := fun i j e hj => by
    unfold W at *
    rw [← e, Int.natAbs_mul] at hj
    have := Nat.le_mul_of_pos_right i.natAbs (Int.natAbs_pos.mpr h0)
    omega
  exact ⟨key _ _ x hv.x, key _ _ y hv.y, key _ _ z hv.z⟩
theorem part_ok {v : V3} (h : 0 < leadV v) : evE (px.cn m 0 (runs px m)) partE [z0, z1, z2, z3, z4, z5, z6, .v (vD v), z8, z9, z10, z11, z12, z13, z14, z15, z16, z17, z18, z19, z20] M = .ok (.int (leadV v)) M := by
  unfold leadV at *
  by_cases hx : v.x = 0
  · by_cases hy : v.y = 0
    · by_cases hz : v.z = 0
      · simp [hx, hy, hz] at h
      · simp [partE, evSs, evS, evE, evEs, evI, evIf, evEo, evOr, evAnd, start, startI, getS, getO, seqF_t, seqF_l, seqF_s, atD, L2.atI, L2.ixN, optO, Out.bind, Out.st, SO.out, SO.outI, SO.seq, SO.turn, binO, cmp_lt, cmp_le, cmp_gt, cmp_ge, cmp_eqI, cmp_neI, cmp_eqT, cmp_neT, cmp_eqL, cmp_neL, cmp_eqS, cmp_neS, cmp_eqB, cmp_neB, cmp_eqN, cmp_neN, cmp_eqR, cmp_neR, cmp_is, cmp_isN, isN_n, isN_t, isN_R, isN_i, grd, Px.cn, biO, biSum, biAbs, biInt, intsOf, lcRun, lcGo, lcStep, lcK, rangeD, okR, asg, setAll, noEx, wipeR, noLam, ifK, frGo, mapB, List.range, List.range.loop, sqV, hx, hy, hz, ixL]
    · by_cases hz : v.z = 0 <;> simp [partE, evSs, evS, evE, evEs, evI, evIf, evEo, evOr, evAnd, start, startI, getS, getO, seqF_t, seqF_l, seqF_s, atD, L2.atI, L2.ixN, optO, Out.bind, Out.st, SO.out, SO.outI, SO.seq, SO.turn, binO, cmp_lt, cmp_le, cmp_gt, cmp_ge, cmp_eqI, cmp_neI, cmp_eqT, cmp_neT, cmp_eqL, cmp_neL, cmp_eqS, cmp_neS, cmp_eqB, cmp_neB, cmp_eqN, cmp_neN, cmp_eqR, cmp_neR, cmp_is, cmp_isN, isN_n, isN_t, isN_R, isN_i, grd, Px.cn, biO, biSum, biAbs, biInt, intsOf, lcRun, lcGo, lcStep, lcK, rangeD, okR, asg, setAll, noEx, wipeR, noLam, ifK, frGo, mapB, List.range, List.range.loop, sqV, hx, hy, hz, ixL]
  · by_cases hy : v.y = 0 <;> by_cases hz : v.z = 0 <;> simp [partE, evSs, evS, evE, evEs, evI, evIf, evEo, evOr, evAnd, start, startI, getS, getO, seqF_t, seqF_l, seqF_s, atD, L2.atI, L2.ixN, optO, Out.bind, Out.st, SO.out, SO.outI, SO.seq, SO.turn, binO, cmp_lt, cmp_le, cmp_gt, cmp_ge, cmp_eqI, cmp_neI, cmp_eqT, cmp_neT, cmp_eqL, cmp_neL, cmp_eqS, cmp_neS, cmp_eqB, cmp_neB, cmp_eqN, cmp_neN, cmp_eqR, cmp_neR, cmp_is, cmp_isN, isN_n, isN_t, isN_R, isN_i, grd, Px.cn, biO, biSum, biAbs, biInt, intsOf, lcRun, lcGo, lcStep, lcK, rangeD, okR, asg, setAll, noEx, wipeR, noLam, ifK, frGo, mapB, List.range, List.range.loop, sqV, hx, hy, hz, ixL]
theorem t2 (hm : 205 ≤ m) (hu : Vw 3 u) (h1 : Vw 3 u1) : evS (px.cn m 0 (runs px m)) T2 [z0, z1, z2, z3, z4, .v (vD u), .v (fL u mu u1 n1 u2 n2), .v (optV (shareF u u1)), z8, z9, z10, z11, z12, z13, z14, z15, z16, z17, z18, z19, z20] M = .nx [z0, z1, z2, z3, z4, .v (vD u), .v (fL u mu u1 n1 u2 n2), .v (optV (shareF u u1)), z8, z9, z10, z11, z12, z13, z14, z15, z16, z17, z18, z19, z20] M := by
  have e1 := fun M => r_cross (n := m) (u := u) (v := u1) (M := M) (by omega) hu h1 (by omega)
  by_cases c : u.cross u1 = V3.o
  · simp [T2, evSs, evS, evE, evEs, evI, evIf, evEo, evOr, evAnd, start, startI, getS, getO, seqF_t, seqF_l, seqF_s, atD, L2.atI, L2.ixN, optO, Out.bind, Out.st, SO.out, SO.outI, SO.seq, SO.turn, binO, cmp_lt, cmp_le, cmp_gt, cmp_ge, cmp_eqI, cmp_neI, cmp_eqT, cmp_neT, cmp_eqL, cmp_neL, cmp_eqS, cmp_neS, cmp_eqB, cmp_neB, cmp_eqN, cmp_neN, cmp_eqR, cmp_neR, cmp_is, cmp_isN, isN_n, isN_t, isN_R, isN_i, grd, Px.cn, biO, biSum, biAbs, biInt, intsOf, lcRun, lcGo, lcStep, lcK, rangeD, okR, asg, setAll, noEx, wipeR, noLam, ifK, frGo, mapB, List.range, List.range.loop, ixL, fl4, e1, gl0, cmp_eqV, eqO_V, c, shareF, optV, eqO_bb]
  · have hs := short_w (hu.cross h1) c
    have x1 := short_dot c (cross_dot (u := u) (v := u1)).1
    have x2 := short_dot c (cross_dot (u := u) (v := u1)).2
    have x3 := short_gcd c
    have x4 := short_lead c
    have e2 := fun M => r_dot (n := m) (u := shortV (u.cross u1)) (v := u) (M := M) (by omega) hs hu (by omega)
    have e3 := fun M => r_dot (n := m) (u := shortV (u.cross u1)) (v := u1) (M := M) (by omega) hs h1 (by omega)
    rw [x1] at e2
    rw [x2] at e3
    have e4 := fun (i : Int) M => r_lgcd (n := m) (i := i) (M := M) (by omega) (hs.y.mono (show _ ≤ 30 by omega))
    have e5 := fun (i : Int) M => r_lgcd (n := m) (i := i) (M := M) (by omega) (hs.z.mono (show _ ≤ 30 by omega))
    have se : shareF u u1 = some (shortV (u.cross u1)) := by unfold shareF; rw [if_neg c]
    rw [se]
    generalize shortV (u.cross u1) = v at *
    have e6 := fun M => part_ok (m := m) (z0 := z0) (z1 := z1) (z2 := z2) (z3 := z3) (z4 := z4) (z5 := .v (vD u)) (z6 := .v (fL u mu u1 n1 u2 n2)) (z8 := z8) (z9 := z9) (z10 := z10) (z11 := z11) (z12 := z12) (z13 := z13) (z14 := z14) (z15 := z15) (z16 := z16) (z17 := z17) (z18 := z18) (z19 := z19) (z20 := z20) (M := M) x4
    have x4' : ¬ (leadV v < 0) := by omega
    simp only [Px.cn] at e6
    simp [T2, evSs, evS, evE, evEs, evI, evIf, evEo, evOr, evAnd, start, startI, getS, getO, seqF_t, seqF_l, seqF_s, atD, L2.atI, L2.ixN, optO, Out.bind, Out.st, SO.out, SO.outI, SO.seq, SO.turn, binO, cmp_lt, cmp_le, cmp_gt, cmp_ge, cmp_eqI, cmp_neI, cmp_eqT, cmp_neT, cmp_eqL, cmp_neL, cmp_eqS, cmp_neS, cmp_eqB, cmp_neB, cmp_eqN, cmp_neN, cmp_eqR, cmp_neR, cmp_is, cmp_isN, isN_n, isN_t, isN_R, isN_i, grd, Px.cn, biO, biSum, biAbs, biInt, intsOf, lcRun, lcGo, lcStep, lcK, rangeD, okR, asg, setAll, noEx, wipeR, noLam, ifK, frGo, mapB, List.range, List.range.loop, isN_V, ixL, fl4, e1, gl0, cmp_eqV, eqO_V, c, optV, eqO_bb, e2, e3, e4, e5, e6, ixV0, ixV1, ixV2, x3, x4']
end
end Q3
set_option Elab.async false
set_option linter.all false
set_option maxRecDepth 100000
set_option maxHeartbeats 4000000
/-! Q3K: the law's rest: spots of three faces, the first of many. -/
namespace Q3
open PI
def pD (t : Rat × Int) : D := .tup [R t.1, .int t.2]
def goodL (o0 o1 o2 : Option Rat) : List (Rat × Int) := (match o0 with | some q => [(q, 0)] | none => []) ++ ((match o1 with | some q => [(q, 1)] | none => []) ++ (match o2 with | some q => [(q, 2)] | none => []))
def bestL (g : List (Rat × Int)) : List (Rat × Int) := g.filter fun a => (g.filter fun b => decide (b.1 < a.1)).isEmpty
theorem head_best (o0 o1 o2 : Option Rat) : (match bestL (goodL o0 o1 o2) with | [] => D.non | a :: _ => pD a) = bestD (bestS (bestS (bestS none 0 o0) 1 o1) 2 o2) := by
  have ir : ∀ x : Rat, ¬ (x < x) := fun x => Rat.lt_irrefl
  have as : ∀ x y : Rat, x < y → ¬ (y < x) := fun x y h => by rw [Rat.not_lt]; exact Rat.le_of_lt h
  have tr : ∀ x y z : Rat, ¬ (x < y) → ¬ (y < z) → ¬ (x < z) := fun x y z h h' => by
    rw [Rat.not_lt] at *
    exact Rat.le_trans h' h
  cases o0 with
  | none =>
    cases o1 with
    | none => cases o2 <;> simp [bestL, goodL, bestS, bestD, pD, ir]
    | some y =>
      cases o2 with
      | none => simp [bestL, goodL, bestS, bestD, pD, ir]
      | some z =>
        by_cases h1 : z < y
        · have h2 := as _ _ h1
          simp [bestL, goodL, bestS, bestD, pD, ir, h1, h2]
        · simp [bestL, goodL, bestS, bestD, pD, ir, h1]
  | some x =>
    cases o1 with
    | none =>
      cases o2 with
      | none => simp [bestL, goodL, bestS, bestD, pD, ir]
      | some z =>
        by_cases h1 : z < x
        · have h2 := as _ _ h1
          simp [bestL, goodL, bestS, bestD, pD, ir, h1, h2]
        · simp [bestL, goodL, bestS, bestD, pD, ir, h1]
    | some y =>
      cases o2 with
      | none =>
        by_cases h1 : y < x
        · have h2 := as _ _ h1
          simp [bestL, goodL, bestS, bestD, pD, ir, h1, h2]
        · simp [bestL, goodL, bestS, bestD, pD, ir, h1]
      | some z =>
        by_cases h1 : y < x
        · have h2 := as _ _ h1
          by_cases h3 : z < y
          · have h4 := as _ _ h3
            have h5 : ¬ (x < z) := fun q => h4 (Classical.byContradiction fun w => tr x y z h2 w q)
            have h6 : z < x := Classical.byContradiction fun w => h3 |> fun h3 => tr z x y w h2 h3
            simp [bestL, goodL, bestS, bestD, pD, ir, h1, h2, h3, h4, h5, h6]
          · simp [bestL, goodL, bestS, bestD, pD, ir, h1, h2, h3]
        · by_cases h3 : z < x
          · have h4 := as _ _ h3
            have h6 : z < y := Classical.byContradiction fun w => tr z y x w h1 h3
            have h7 := as _ _ h6
            simp [bestL, goodL, bestS, bestD, pD, ir, h1, h3, h4, h6, h7]
          · simp [bestL, goodL, bestS, bestD, pD, ir, h1, h3]
section
variable {m : Nat} {M : Store} {z0 z1 z2 z3 z4 z5 z6 z7 z8 z9 z10 z11 z12 z13 z14 z15 z16 z17 z18 z19 z20 : Slot} {s w p u u1 u2 a b c : V3} {mu n1 n2 : Int}
theorem t3 (hm : 205 ≤ m) (hu : Vw 3 u) (h1 : Vw 3 u1) (h2 : Vw 3 u2) (k0 : W 20 mu) (k1 : W 20 n1) (k2 : W 20 n2) : evS (px.cn m 0 (runs px m)) T3 [z0, z1, z2, z3, z4, z5, .v (fL u mu u1 n1 u2 n2), z7, z8, z9, z10, z11, z12, z13, z14, z15, z16, z17, z18, z19, z20] M = .nx [z0, z1, z2, z3, z4, z5, .v (fL u mu u1 n1 u2 n2), z7, .v (optQ (meet3 u mu u1 n1 u2 n2)), z9, z10, z11, z12, z13, z14, z15, z16, z17, z18, z19, z20] M := by
  have e := fun M => r_three (n := m) (M := M) (by omega) (hu.mono (show _ ≤ 8 by omega)) (h1.mono (show _ ≤ 8 by omega)) (h2.mono (show _ ≤ 8 by omega)) (k0.mono (show _ ≤ 50 by omega)) (k1.mono (show _ ≤ 50 by omega)) (k2.mono (show _ ≤ 50 by omega))
  simp [T3, evSs, evS, evE, evEs, evI, evIf, evEo, evOr, evAnd, start, startI, getS, getO, seqF_t, seqF_l, seqF_s, atD, L2.atI, L2.ixN, optO, Out.bind, Out.st, SO.out, SO.outI, SO.seq, SO.turn, binO, cmp_lt, cmp_le, cmp_gt, cmp_ge, cmp_eqI, cmp_neI, cmp_eqT, cmp_neT, cmp_eqL, cmp_neL, cmp_eqS, cmp_neS, cmp_eqB, cmp_neB, cmp_eqN, cmp_neN, cmp_eqR, cmp_neR, cmp_is, cmp_isN, isN_n, isN_t, isN_R, isN_i, grd, Px.cn, biO, biSum, biAbs, biInt, intsOf, lcRun, lcGo, lcStep, lcK, rangeD, okR, asg, setAll, noEx, wipeR, noLam, ifK, frGo, mapB, List.range, List.range.loop, ixL, e]
theorem meet3_Q (hu : Vw 3 u) (h1 : Vw 3 u1) (h2 : Vw 3 u2) (k0 : W 20 mu) (k1 : W 20 n1) (k2 : W 20 n2) {x : Q3} (e : meet3 u mu u1 n1 u2 n2 = some x) : ∃ d, 0 < d ∧ d < 2 ^ 24 ∧ Qw d 100 x := by
  unfold meet3 at e
  split at e
  · cases e
  · rename_i c
    cases e
    have w1 := hu.dot (h1.cross h2)
    have g1 := h1.cross h2
    have g2 := h2.cross hu
    have g3 := hu.cross h1
    refine ⟨_, Int.natAbs_pos.mpr c, Nat.lt_of_lt_of_le w1 (by decide), ⟨?_, ?_, ?_⟩⟩
    · exact Q.of_divInt c (Nat.dvd_refl _) ((((k0.mul g1.x).add (k1.mul g2.x)).add (k2.mul g3.x)).mono (by omega))
    · exact Q.of_divInt c (Nat.dvd_refl _) ((((k0.mul g1.y).add (k1.mul g2.y)).add (k2.mul g3.y)).mono (by omega))
    · exact Q.of_divInt c (Nat.dvd_refl _) ((((k0.mul g1.z).add (k1.mul g2.z)).add (k2.mul g3.z)).mono (by omega))
theorem t4 (hm : 205 ≤ m) (hu : Vw 3 u) (h1 : Vw 3 u1) (h2 : Vw 3 u2) (k0 : W 20 mu) (k1 : W 20 n1) (k2 : W 20 n2) : evS (px.cn m 0 (runs px m)) T4 [z0, z1, z2, z3, z4, .v (vD u), .v (fL u mu u1 n1 u2 n2), z7, .v (optQ (meet3 u mu u1 n1 u2 n2)), z9, z10, z11, z12, z13, z14, z15, z16, z17, z18, z19, z20] M = .nx [z0, z1, z2, z3, z4, .v (vD u), .v (fL u mu u1 n1 u2 n2), z7, .v (optQ (meet3 u mu u1 n1 u2 n2)), z9, z10, z11, z12, z13, z14, z15, z16, z17, z18, z19, z20] M := by
  have e1 := fun M => r_cross (n := m) (u := u1) (v := u2) (M := M) (by omega) h1 h2 (by omega)
  have e2 := fun M => r_dot (n := m) (u := u) (v := u1.cross u2) (M := M) (by omega) hu (h1.cross h2) (by omega)
  by_cases c : u.dot (u1.cross u2) = 0
  · have e : meet3 u mu u1 n1 u2 n2 = none := by unfold meet3; rw [if_pos c]
    rw [e]
    simp [T4, evSs, evS, evE, evEs, evI, evIf, evEo, evOr, evAnd, start, startI, getS, getO, seqF_t, seqF_l, seqF_s, atD, L2.atI, L2.ixN, optO, Out.bind, Out.st, SO.out, SO.outI, SO.seq, SO.turn, binO, cmp_lt, cmp_le, cmp_gt, cmp_ge, cmp_eqI, cmp_neI, cmp_eqT, cmp_neT, cmp_eqL, cmp_neL, cmp_eqS, cmp_neS, cmp_eqB, cmp_neB, cmp_eqN, cmp_neN, cmp_eqR, cmp_neR, cmp_is, cmp_isN, isN_n, isN_t, isN_R, isN_i, grd, Px.cn, biO, biSum, biAbs, biInt, intsOf, lcRun, lcGo, lcStep, lcK, rangeD, okR, asg, setAll, noEx, wipeR, noLam, ifK, frGo, mapB, List.range, List.range.loop, ixL, fl4, e1, e2, c, optQ, eqO_bb]
  · obtain ⟨x, e⟩ : ∃ x, meet3 u mu u1 n1 u2 n2 = some x := by unfold meet3; rw [if_neg c]; exact ⟨_, rfl⟩
    obtain ⟨d, d0, d1, q⟩ := meet3_Q hu h1 h2 k0 k1 k2 e
    obtain ⟨x1, x2, x3⟩ := c4 e
    have d2 : d < 2 ^ 48 := Nat.lt_trans d1 (by decide)
    have e3 := fun M => r_flatQ (n := m) (M := M) (by omega) (hu.mono (show _ ≤ 14 by omega)) q d0 d2 (by omega)
    have e4 := fun M => r_flatQ (n := m) (M := M) (by omega) (h1.mono (show _ ≤ 14 by omega)) q d0 d2 (by omega)
    have e5 := fun M => r_flatQ (n := m) (M := M) (by omega) (h2.mono (show _ ≤ 14 by omega)) q d0 d2 (by omega)
    rw [x1] at e3
    rw [x2] at e4
    rw [x3] at e5
    rw [e]
    simp [T4, evSs, evS, evE, evEs, evI, evIf, evEo, evOr, evAnd, start, startI, getS, getO, seqF_t, seqF_l, seqF_s, atD, L2.atI, L2.ixN, optO, Out.bind, Out.st, SO.out, SO.outI, SO.seq, SO.turn, binO, cmp_lt, cmp_le, cmp_gt, cmp_ge, cmp_eqI, cmp_neI, cmp_eqT, cmp_neT, cmp_eqL, cmp_neL, cmp_eqS, cmp_neS, cmp_eqB, cmp_neB, cmp_eqN, cmp_neN, cmp_eqR, cmp_neR, cmp_is, cmp_isN, isN_n, isN_t, isN_R, isN_i, grd, Px.cn, biO, biSum, biAbs, biInt, intsOf, lcRun, lcGo, lcStep, lcK, rangeD, okR, asg, setAll, noEx, wipeR, noLam, ifK, frGo, mapB, List.range, List.range.loop, ixL, fl4, fl5, e1, e2, c, optQ, isN_Q, eqO_bb, e3, e4, e5, R_int, eqO_R, eqO_isE]
theorem t5 (hm : 205 ≤ m) (hu : Vw 3 u) (h1 : Vw 3 u1) (h2 : Vw 3 u2) (hs : Vw 8 s) (hw : Vw 5 w) : evS (px.cn m 0 (runs px m)) T5 [z0, z1, z2, .v (lnD s w), z4, z5, .v (fL u mu u1 n1 u2 n2), z7, z8, z9, z10, z11, z12, z13, z14, z15, z16, z17, z18, z19, z20] M = .nx [z0, z1, z2, .v (lnD s w), z4, z5, .v (fL u mu u1 n1 u2 n2), z7, z8, .v (.lst [.tup [optR (meetF u mu s w), .int 0], .tup [optR (meetF u1 n1 s w), .int 1], .tup [optR (meetF u2 n2 s w), .int 2]]), z10, z11, z12, z13, z14, z15, z16, z17, z18, z19, z20] M := by
  have e1 := fun M => r_meets (n := m) (m := mu) (M := M) (by omega) (hu.mono (show _ ≤ 14 by omega)) (hs.mono (show _ ≤ 100 by omega)) (hw.mono (show _ ≤ 8 by omega))
  have e2 := fun M => r_meets (n := m) (m := n1) (M := M) (by omega) (h1.mono (show _ ≤ 14 by omega)) (hs.mono (show _ ≤ 100 by omega)) (hw.mono (show _ ≤ 8 by omega))
  have e3 := fun M => r_meets (n := m) (m := n2) (M := M) (by omega) (h2.mono (show _ ≤ 14 by omega)) (hs.mono (show _ ≤ 100 by omega)) (hw.mono (show _ ≤ 8 by omega))
  have e0 : enumO (fL u mu u1 n1 u2 n2) = some [.tup [.int 0, fcD u mu], .tup [.int 1, fcD u1 n1], .tup [.int 2, fcD u2 n2]] := rfl
  simp [T5, evSs, evS, evE, evEs, evI, evIf, evEo, evOr, evAnd, start, startI, getS, getO, seqF_t, seqF_l, seqF_s, atD, L2.atI, L2.ixN, optO, Out.bind, Out.st, SO.out, SO.outI, SO.seq, SO.turn, binO, cmp_lt, cmp_le, cmp_gt, cmp_ge, cmp_eqI, cmp_neI, cmp_eqT, cmp_neT, cmp_eqL, cmp_neL, cmp_eqS, cmp_neS, cmp_eqB, cmp_neB, cmp_eqN, cmp_neN, cmp_eqR, cmp_neR, cmp_is, cmp_isN, isN_n, isN_t, isN_R, isN_i, grd, Px.cn, biO, biSum, biAbs, biInt, intsOf, lcRun, lcGo, lcStep, lcK, rangeD, okR, asg, setAll, noEx, wipeR, noLam, ifK, frGo, mapB, List.range, List.range.loop, e0, kMeth, mt6, e1, e2, e3]
theorem t6 (o0 o1 o2 : Option Rat) : evS (px.cn m 0 (runs px m)) T6 [z0, z1, z2, z3, z4, z5, z6, z7, z8, .v (.lst [.tup [optR o0, .int 0], .tup [optR o1, .int 1], .tup [optR o2, .int 2]]), z10, z11, z12, z13, z14, z15, z16, z17, z18, z19, z20] M = .nx [z0, z1, z2, z3, z4, z5, z6, z7, z8, .v (.lst [.tup [optR o0, .int 0], .tup [optR o1, .int 1], .tup [optR o2, .int 2]]), .v (.lst ((goodL o0 o1 o2).map pD)), z11, z12, z13, z14, z15, z16, z17, z18, z19, z20] M := by
  cases o0 <;> cases o1 <;> cases o2 <;> simp [T6, evSs, evS, evE, evEs, evI, evIf, evEo, evOr, evAnd, start, startI, getS, getO, seqF_t, seqF_l, seqF_s, atD, L2.atI, L2.ixN, optO, Out.bind, Out.st, SO.out, SO.outI, SO.seq, SO.turn, binO, cmp_lt, cmp_le, cmp_gt, cmp_ge, cmp_eqI, cmp_neI, cmp_eqT, cmp_neT, cmp_eqL, cmp_neL, cmp_eqS, cmp_neS, cmp_eqB, cmp_neB, cmp_eqN, cmp_neN, cmp_eqR, cmp_neR, cmp_is, cmp_isN, isN_n, isN_t, isN_R, isN_i, grd, Px.cn, biO, biSum, biAbs, biInt, intsOf, lcRun, lcGo, lcStep, lcK, rangeD, okR, asg, setAll, noEx, wipeR, noLam, ifK, frGo, mapB, List.range, List.range.loop, optR, goodL, pD]
def innerE : E := .lc [18, 17] (.tp [18, 17]) (.seq (.v 10)) (.v 18) (.so (.call 38 (.cons (.v 18) (.cons (.ix (.v 19) (.int 0)) .nil))))
theorem T7_eq : T7 = .set 11 (.lc [19] (.nm 19) (.seq (.v 10)) (.v 19) (.so (.cmp .eq innerE (.lst .nil)))) := rfl
theorem inner_ok (g : List (Rat × Int)) (hm : 205 ≤ m) (hg : ∀ a ∈ g, Qs 48 a.1) (hl : g.length ≤ 3) (a : Rat × Int) (ha : a ∈ g) : evE (px.cn m 0 (runs px m)) innerE [z0, z1, z2, z3, z4, z5, z6, z7, z8, z9, .v (.lst (g.map pD)), z11, z12, z13, z14, z15, z16, z17, z18, .v (pD a), z20] M = .ok (.lst ((g.filter fun b => decide (b.1 < a.1)).map fun b => R b.1)) M := by
  have hlen : (List.map pD g).length ≤ 50000 := by rw [List.length_map]; omega
  unfold innerE
  rw [evE]
  have eI : ∀ M, evI (px.cn m 0 (runs px m)) (.seq (.v 10)) [z0, z1, z2, z3, z4, z5, z6, z7, z8, z9, .v (.lst (g.map pD)), z11, z12, z13, z14, z15, z16, z17, z18, .v (pD a), z20] M = .ok (g.map pD) M := fun M => by simp [evSs, evS, evE, evEs, evI, evIf, evEo, evOr, evAnd, start, startI, getS, getO, seqF_t, seqF_l, seqF_s, atD, L2.atI, L2.ixN, optO, Out.bind, Out.st, SO.out, SO.outI, SO.seq, SO.turn, binO, cmp_lt, cmp_le, cmp_gt, cmp_ge, cmp_eqI, cmp_neI, cmp_eqT, cmp_neT, cmp_eqL, cmp_neL, cmp_eqS, cmp_neS, cmp_eqB, cmp_neB, cmp_eqN, cmp_neN, cmp_eqR, cmp_neR, cmp_is, cmp_isN, isN_n, isN_t, isN_R, isN_i, grd, Px.cn, biO, biSum, biAbs, biInt, intsOf, lcRun, lcGo, lcStep, lcK, rangeD, okR, asg, setAll, noEx, wipeR, noLam, ifK, frGo, mapB, List.range, List.range.loop]
  rw [eI]
  unfold lcRun
  show Out.bind (if (List.map pD g).length ≤ 50000 then noEx (lcGo _ (g.map pD) M) else Out.bad) _ = _
  rw [if_pos hlen, lcGo_fm pD (fun b => R b.1) (fun b => decide (b.1 < a.1))]
  · rfl
  · intro b hb M
    have e := fun M => r_less (n := m) (M := M) (by omega) (hg b hb) (hg a ha)
    by_cases h : b.1 < a.1 <;> simp [evSs, evS, evE, evEs, evI, evIf, evEo, evOr, evAnd, start, startI, getS, getO, seqF_t, seqF_l, seqF_s, atD, L2.atI, L2.ixN, optO, Out.bind, Out.st, SO.out, SO.outI, SO.seq, SO.turn, binO, cmp_lt, cmp_le, cmp_gt, cmp_ge, cmp_eqI, cmp_neI, cmp_eqT, cmp_neT, cmp_eqL, cmp_neL, cmp_eqS, cmp_neS, cmp_eqB, cmp_neB, cmp_eqN, cmp_neN, cmp_eqR, cmp_neR, cmp_is, cmp_isN, isN_n, isN_t, isN_R, isN_i, grd, Px.cn, biO, biSum, biAbs, biInt, intsOf, lcRun, lcGo, lcStep, lcK, rangeD, okR, asg, setAll, noEx, wipeR, noLam, ifK, frGo, mapB, List.range, List.range.loop, pD, e, ixT, h]
theorem t7 (g : List (Rat × Int)) (hm : 205 ≤ m) (hg : ∀ a ∈ g, Qs 48 a.1) (hl : g.length ≤ 3) : evS (px.cn m 0 (runs px m)) T7 [z0, z1, z2, z3, z4, z5, z6, z7, z8, z9, .v (.lst (g.map pD)), z11, z12, z13, z14, z15, z16, z17, z18, z19, z20] M = .nx [z0, z1, z2, z3, z4, z5, z6, z7, z8, z9, .v (.lst (g.map pD)), .v (.lst ((bestL g).map pD)), z12, z13, z14, z15, z16, z17, z18, z19, z20] M := by
  have hlen : (List.map pD g).length ≤ 50000 := by rw [List.length_map]; omega
  rw [T7_eq, evS, evE]
  have eI : ∀ M, evI (px.cn m 0 (runs px m)) (.seq (.v 10)) [z0, z1, z2, z3, z4, z5, z6, z7, z8, z9, .v (.lst (g.map pD)), z11, z12, z13, z14, z15, z16, z17, z18, z19, z20] M = .ok (g.map pD) M := fun M => by simp [evSs, evS, evE, evEs, evI, evIf, evEo, evOr, evAnd, start, startI, getS, getO, seqF_t, seqF_l, seqF_s, atD, L2.atI, L2.ixN, optO, Out.bind, Out.st, SO.out, SO.outI, SO.seq, SO.turn, binO, cmp_lt, cmp_le, cmp_gt, cmp_ge, cmp_eqI, cmp_neI, cmp_eqT, cmp_neT, cmp_eqL, cmp_neL, cmp_eqS, cmp_neS, cmp_eqB, cmp_neB, cmp_eqN, cmp_neN, cmp_eqR, cmp_neR, cmp_is, cmp_isN, isN_n, isN_t, isN_R, isN_i, grd, Px.cn, biO, biSum, biAbs, biInt, intsOf, lcRun, lcGo, lcStep, lcK, rangeD, okR, asg, setAll, noEx, wipeR, noLam, ifK, frGo, mapB, List.range, List.range.loop]
  rw [eI]
  unfold lcRun
  show Out.st (Out.bind (if (List.map pD g).length ≤ 50000 then noEx (lcGo _ (g.map pD) M) else Out.bad) _) _ _ = _
  rw [if_pos hlen, lcGo_fm pD pD (fun a => (g.filter fun b => decide (b.1 < a.1)).isEmpty)]
  · rfl
  · intro a ha M
    have e := fun (z0 z1 z2 z3 z4 z5 z6 z7 z8 z9 z11 z12 z13 z14 z15 z16 z17 z18 z20 : Slot) M => inner_ok (m := m) (z0 := z0) (z1 := z1) (z2 := z2) (z3 := z3) (z4 := z4) (z5 := z5) (z6 := z6) (z7 := z7) (z8 := z8) (z9 := z9) (z11 := z11) (z12 := z12) (z13 := z13) (z14 := z14) (z15 := z15) (z16 := z16) (z17 := z17) (z18 := z18) (z20 := z20) (M := M) g hm hg hl a ha
    have ee : (List.map (fun b => R b.1) (List.filter (fun b => decide (b.1 < a.1)) g)).isEmpty = (List.filter (fun b => decide (b.1 < a.1)) g).isEmpty := by
      cases List.filter (fun b => decide (b.1 < a.1)) g <;> rfl
    cases h : (List.filter (fun b => decide (b.1 < a.1)) g).isEmpty
    · rw [h] at ee
      simp [evSs, evS, evE, evEs, evI, evIf, evEo, evOr, evAnd, start, startI, getS, getO, seqF_t, seqF_l, seqF_s, atD, L2.atI, L2.ixN, optO, Out.bind, Out.st, SO.out, SO.outI, SO.seq, SO.turn, binO, cmp_lt, cmp_le, cmp_gt, cmp_ge, cmp_eqI, cmp_neI, cmp_eqT, cmp_neT, cmp_eqL, cmp_neL, cmp_eqS, cmp_neS, cmp_eqB, cmp_neB, cmp_eqN, cmp_neN, cmp_eqR, cmp_neR, cmp_is, cmp_isN, isN_n, isN_t, isN_R, isN_i, grd, biO, biSum, biAbs, biInt, intsOf, lcRun, lcGo, lcStep, lcK, rangeD, okR, asg, setAll, noEx, wipeR, noLam, ifK, frGo, mapB, List.range, List.range.loop, e, eqO_isE, ee]
    · rw [h] at ee
      simp [evSs, evS, evE, evEs, evI, evIf, evEo, evOr, evAnd, start, startI, getS, getO, seqF_t, seqF_l, seqF_s, atD, L2.atI, L2.ixN, optO, Out.bind, Out.st, SO.out, SO.outI, SO.seq, SO.turn, binO, cmp_lt, cmp_le, cmp_gt, cmp_ge, cmp_eqI, cmp_neI, cmp_eqT, cmp_neT, cmp_eqL, cmp_neL, cmp_eqS, cmp_neS, cmp_eqB, cmp_neB, cmp_eqN, cmp_neN, cmp_eqR, cmp_neR, cmp_is, cmp_isN, isN_n, isN_t, isN_R, isN_i, grd, biO, biSum, biAbs, biInt, intsOf, lcRun, lcGo, lcStep, lcK, rangeD, okR, asg, setAll, noEx, wipeR, noLam, ifK, frGo, mapB, List.range, List.range.loop, e, eqO_isE, ee]
theorem t8 (hm : 205 ≤ m) (hu : Vw 3 u) (h1 : Vw 3 u1) (h2 : Vw 3 u2) (k0 : W 20 mu) (k1 : W 20 n1) (k2 : W 20 n2) (hs : Vw 8 s) (hw : Vw 5 w) (hp : Vw 8 p) : evS (px.cn m 0 (runs px m)) T8 [z0, z1, z2, .v (lnD s w), .v (vD p), z5, .v (fL u mu u1 n1 u2 n2), z7, z8, z9, z10, .v (.lst ((bestL (goodL (meetF u mu s w) (meetF u1 n1 s w) (meetF u2 n2 s w))).map pD)), z12, z13, z14, z15, z16, z17, z18, z19, z20] M = .nx [z0, z1, z2, .v (lnD s w), .v (vD p), z5, .v (fL u mu u1 n1 u2 n2), z7, z8, z9, z10, .v (.lst ((bestL (goodL (meetF u mu s w) (meetF u1 n1 s w) (meetF u2 n2 s w))).map pD)), z12, z13, z14, z15, z16, z17, z18, z19, z20] M := by
  have e1 := fun M => r_first (n := m) (M := M) (by omega) (hu.mono (show _ ≤ 14 by omega)) (h1.mono (show _ ≤ 14 by omega)) (h2.mono (show _ ≤ 14 by omega)) k0 k1 k2 hs (hw.mono (show _ ≤ 8 by omega))
  have e2 := fun M => r_inside (n := m) (m1 := mu) (m2 := n1) (m3 := n2) (M := M) (by omega) (hu.mono (show _ ≤ 14 by omega)) (h1.mono (show _ ≤ 14 by omega)) (h2.mono (show _ ≤ 14 by omega)) (hp.mono (show _ ≤ 100 by omega))
  have e3 := fun M => r_side (n := m) (m := mu) (M := M) (by omega) (hu.mono (show _ ≤ 50 by omega)) (hp.mono (show _ ≤ 100 by omega))
  have e4 := fun M => r_side (n := m) (m := n1) (M := M) (by omega) (h1.mono (show _ ≤ 50 by omega)) (hp.mono (show _ ≤ 100 by omega))
  have e5 := fun M => r_side (n := m) (m := n2) (M := M) (by omega) (h2.mono (show _ ≤ 50 by omega)) (hp.mono (show _ ≤ 100 by omega))
  have hb := head_best (meetF u mu s w) (meetF u1 n1 s w) (meetF u2 n2 s w)
  have hl : (bestL (goodL (meetF u mu s w) (meetF u1 n1 s w) (meetF u2 n2 s w))).length ≤ 3 := by
    refine Nat.le_trans (List.length_filter_le _ _) ?_
    unfold goodL
    cases meetF u mu s w <;> cases meetF u1 n1 s w <;> cases meetF u2 n2 s w <;> simp
  generalize bestL (goodL (meetF u mu s w) (meetF u1 n1 s w) (meetF u2 n2 s w)) = l at *
  generalize bestS (bestS (bestS none 0 (meetF u mu s w)) 1 (meetF u1 n1 s w)) 2 (meetF u2 n2 s w) = b at *
  generalize sgn (offF u mu p) = i0 at *
  generalize sgn (offF u1 n1 p) = i1 at *
  generalize sgn (offF u2 n2 p) = i2 at *
  have e6 : ∀ M, PI.ixO M (.lst (l.map pD ++ [.non])) (.int 0) = some (bestD b) := fun M => by
    rw [← hb]
    cases l with
    | nil => simp [ixL, evSs, evS, evE, evEs, evI, evIf, evEo, evOr, evAnd, start, startI, getS, getO, seqF_t, seqF_l, seqF_s, atD, L2.atI, L2.ixN, optO, Out.bind, Out.st, SO.out, SO.outI, SO.seq, SO.turn, binO, cmp_lt, cmp_le, cmp_gt, cmp_ge, cmp_eqI, cmp_neI, cmp_eqT, cmp_neT, cmp_eqL, cmp_neL, cmp_eqS, cmp_neS, cmp_eqB, cmp_neB, cmp_eqN, cmp_neN, cmp_eqR, cmp_neR, cmp_is, cmp_isN, isN_n, isN_t, isN_R, isN_i, grd, Px.cn, biO, biSum, biAbs, biInt, intsOf, lcRun, lcGo, lcStep, lcK, rangeD, okR, asg, setAll, noEx, wipeR, noLam, ifK, frGo, mapB, List.range, List.range.loop]
    | cons a l =>
      have : (0 : Int) < (l.length : Int) + 1 + 1 := by omega
      simp [ixL, evSs, evS, evE, evEs, evI, evIf, evEo, evOr, evAnd, start, startI, getS, getO, seqF_t, seqF_l, seqF_s, atD, L2.atI, L2.ixN, optO, Out.bind, Out.st, SO.out, SO.outI, SO.seq, SO.turn, binO, cmp_lt, cmp_le, cmp_gt, cmp_ge, cmp_eqI, cmp_neI, cmp_eqT, cmp_neT, cmp_eqL, cmp_neL, cmp_eqS, cmp_neS, cmp_eqB, cmp_neB, cmp_eqN, cmp_neN, cmp_eqR, cmp_neR, cmp_is, cmp_isN, isN_n, isN_t, isN_R, isN_i, grd, Px.cn, biO, biSum, biAbs, biInt, intsOf, lcRun, lcGo, lcStep, lcK, rangeD, okR, asg, setAll, noEx, wipeR, noLam, ifK, frGo, mapB, List.range, List.range.loop, this]
  have e7 : l.length + 1 ≤ 100000 := by omega
  have e8 : ∀ M, cmpO M .ne (bestD b) (bestD b) = some (.bl false) := fun M => by
    cases b with
    | none => rfl
    | some t =>
      obtain ⟨q, k⟩ := t
      simp only [bestD, cmp_neT]
      rw [eqO_pl rfl rfl]
      simp [mapB]
  have sg : ∀ i : Int, (decide (i ≤ 0)) = !(decide (0 < i)) := fun i => by by_cases h : 0 < i <;> simp [h] <;> omega
  simp only [sg] at e2
  by_cases c0 : 0 < i0 <;> by_cases c1 : 0 < i1 <;> by_cases c2 : 0 < i2 <;> simp [T8, evSs, evS, evE, evEs, evI, evIf, evEo, evOr, evAnd, start, startI, getS, getO, seqF_t, seqF_l, seqF_s, atD, L2.atI, L2.ixN, optO, Out.bind, Out.st, SO.out, SO.outI, SO.seq, SO.turn, binO, cmp_lt, cmp_le, cmp_gt, cmp_ge, cmp_eqI, cmp_neI, cmp_eqT, cmp_neT, cmp_eqL, cmp_neL, cmp_eqS, cmp_neS, cmp_eqB, cmp_neB, cmp_eqN, cmp_neN, cmp_eqR, cmp_neR, cmp_is, cmp_isN, isN_n, isN_t, isN_R, isN_i, grd, Px.cn, biO, biSum, biAbs, biInt, intsOf, lcRun, lcGo, lcStep, lcK, rangeD, okR, asg, setAll, noEx, wipeR, noLam, ifK, frGo, mapB, List.range, List.range.loop, e1, e2, e6, e7, e8, kMeth, mt7, e3, e4, e5, c0, c1, c2, eqO_isE, eqO_bb]
end
end Q3
set_option Elab.async false
set_option linter.all false
set_option maxRecDepth 100000
set_option maxHeartbeats 4000000
/-! Q3N: corners; the whole rest. -/
namespace Q3
open PI
def errT : List Nat := [76, 105, 110, 101, 69, 114, 114, 111, 114]
theorem eqO_err : eqO (.str [76, 105, 110, 101, 69, 114, 114, 111, 114]) (.str [76, 105, 110, 101, 69, 114, 114, 111, 114]) = some true := by decide +kernel
theorem eqO_ierr (i : Int) : eqO (.int i) (.str [76, 105, 110, 101, 69, 114, 114, 111, 114]) = some false := by
  have : D.sh 40 (.str [76, 105, 110, 101, 69, 114, 114, 111, 114]) = true := by decide +kernel
  unfold eqO
  rw [this]
  rfl
theorem cmp_eqIS (M : Store) (i : Int) (x : List Nat) : cmpO M .eq (.int i) (.str x) = mapB id (eqO (.int i) (.str x)) := rfl
theorem lm4 : px.lm 4 = some (.attr (.call 26 (.cons (.ix (.v 12) (.int 0)) (.cons (.ix (.v 12) (.int 1)) (.cons (.ix (.v 12) (.int 2)) .nil)))) 5) := rfl
theorem ct52 : px.ct 52 = true := rfl
theorem rt_ : px.rt = [76, 105, 110, 101, 69, 114, 114, 111, 114] := rfl
section
variable {m : Nat} {M : Store} {z0 z1 z2 z3 z4 z5 z6 z7 z8 z9 z10 z11 z12 z13 z14 z15 z16 z17 z18 z19 z20 : Slot} {s w p u u1 u2 a b c : V3} {mu n1 n2 : Int}
theorem t9 {k : Nat} {d : Dice} {t : Int} {q : Nat} (hm : 205 ≤ m) (hd : DiceOk k d) (hk : k ≤ 100000) (ht : t = q) (h2 : q ≤ 30) : ∃ a b c d', Vb 30 a ∧ Vb 30 b ∧ Vb 30 c ∧ DiceOk (k + 9) d' ∧ evS (px.cn m 0 (runs px m)) T9 [.v (.ref 0), .v (.int t), z2, z3, z4, z5, z6, z7, z8, z9, z10, z11, z12, z13, z14, z15, z16, z17, z18, z19, z20] [dD d] = .nx [.v (.ref 0), .v (.int t), z2, z3, z4, z5, z6, z7, z8, z9, z10, z11, .v (.lst [vD a, vD b, vD c]), z13, z14, z15, z16, z17, z18, z19, z20] [dD d'] := by
  obtain ⟨a, d1, a1, a2, e1⟩ := r_way hd (by omega) (by omega) ht (by omega)
  obtain ⟨b, d2, b1, b2, e2⟩ := r_way a2 (by omega) (by omega) ht (by omega)
  obtain ⟨c, d3, c1, c2, e3⟩ := r_way b2 (by omega) (by omega) ht (by omega)
  have up : ∀ {v : V3}, Vb q v → Vb 30 v := fun h => ⟨Nat.le_trans h.x h2, Nat.le_trans h.y h2, Nat.le_trans h.z h2⟩
  exact ⟨a, b, c, d3, up a1, up b1, up c1, c2, by simp [T9, evSs, evS, evE, evEs, evI, evIf, evEo, evOr, evAnd, start, startI, getS, getO, seqF_t, seqF_l, seqF_s, atD, L2.atI, L2.ixN, optO, Out.bind, Out.st, SO.out, SO.outI, SO.seq, SO.turn, binO, cmp_lt, cmp_le, cmp_gt, cmp_ge, cmp_eqI, cmp_neI, cmp_eqT, cmp_neT, cmp_eqL, cmp_neL, cmp_eqS, cmp_neS, cmp_eqB, cmp_neB, cmp_eqN, cmp_neN, cmp_eqR, cmp_neR, cmp_is, cmp_isN, isN_n, isN_t, isN_R, isN_i, grd, Px.cn, biO, biSum, biAbs, biInt, intsOf, lcRun, lcGo, lcStep, lcK, rangeD, okR, asg, setAll, noEx, wipeR, noLam, ifK, frGo, mapB, List.range, List.range.loop, e1 m (by omega), e2 m (by omega), e3 m (by omega)]⟩
def planeD (a b c : V3) : D := if nrmF a b c = V3.o then .str [76, 105, 110, 101, 69, 114, 114, 111, 114] else .int ((nrmF a b c).dot a)
theorem t10 (hm : 205 ≤ m) (ha : Vw 5 a) (hb : Vw 5 b) (hc : Vw 5 c) : evS (px.cn m 0 (runs px m)) T10 [z0, z1, z2, z3, z4, z5, z6, z7, z8, z9, z10, z11, .v (.lst [vD a, vD b, vD c]), z13, z14, z15, z16, z17, z18, z19, z20] M = .nx [z0, z1, z2, z3, z4, z5, z6, z7, z8, z9, z10, z11, .v (.lst [vD a, vD b, vD c]), .v (planeD a b c), z14, z15, z16, z17, z18, z19, z20] M := by
  have ed : runs px m 2 = runs px (m - 2) 0 := runs_down _ _ _
  have h2 : 2 ≤ m := by omega
  by_cases h : nrmF a b c = V3.o
  · have e := fun M => r_faceof0 (n := m - 2) (M := M) (by omega) (ha.mono (show _ ≤ 8 by omega)) (hb.mono (show _ ≤ 8 by omega)) (hc.mono (show _ ≤ 8 by omega)) h
    simp [T10, evSs, evS, evE, evEs, evI, evIf, evEo, evOr, evAnd, start, startI, getS, getO, seqF_t, seqF_l, seqF_s, atD, L2.atI, L2.ixN, optO, Out.bind, Out.st, SO.out, SO.outI, SO.seq, SO.turn, binO, cmp_lt, cmp_le, cmp_gt, cmp_ge, cmp_eqI, cmp_neI, cmp_eqT, cmp_neT, cmp_eqL, cmp_neL, cmp_eqS, cmp_neS, cmp_eqB, cmp_neB, cmp_eqN, cmp_neN, cmp_eqR, cmp_neR, cmp_is, cmp_isN, isN_n, isN_t, isN_R, isN_i, grd, Px.cn, biO, biSum, biAbs, biInt, intsOf, lcRun, lcGo, lcStep, lcK, rangeD, okR, asg, setAll, noEx, wipeR, noLam, ifK, frGo, mapB, List.range, List.range.loop, toldO, Px.lamF, lm4, ed, h2, ixL, e, ct52, rt_, planeD, h]
  · have e := fun M => r_faceof (n := m - 2) (M := M) (by omega) (ha.mono (show _ ≤ 8 by omega)) (hb.mono (show _ ≤ 8 by omega)) (hc.mono (show _ ≤ 8 by omega)) h
    simp [T10, evSs, evS, evE, evEs, evI, evIf, evEo, evOr, evAnd, start, startI, getS, getO, seqF_t, seqF_l, seqF_s, atD, L2.atI, L2.ixN, optO, Out.bind, Out.st, SO.out, SO.outI, SO.seq, SO.turn, binO, cmp_lt, cmp_le, cmp_gt, cmp_ge, cmp_eqI, cmp_neI, cmp_eqT, cmp_neT, cmp_eqL, cmp_neL, cmp_eqS, cmp_neS, cmp_eqB, cmp_neB, cmp_eqN, cmp_neN, cmp_eqR, cmp_neR, cmp_is, cmp_isN, isN_n, isN_t, isN_R, isN_i, grd, Px.cn, biO, biSum, biAbs, biInt, intsOf, lcRun, lcGo, lcStep, lcK, rangeD, okR, asg, setAll, noEx, wipeR, noLam, ifK, frGo, mapB, List.range, List.range.loop, toldO, Px.lamF, lm4, ed, h2, ixL, e, fl5, planeD, h]
theorem t11 (hm : 205 ≤ m) (ha : Vw 5 a) (hb : Vw 5 b) (hc : Vw 5 c) : evS (px.cn m 0 (runs px m)) T11 [z0, z1, z2, z3, z4, z5, z6, z7, z8, z9, z10, z11, .v (.lst [vD a, vD b, vD c]), z13, z14, z15, z16, z17, z18, z19, z20] M = .nx [z0, z1, z2, z3, z4, z5, z6, z7, z8, z9, z10, z11, .v (.lst [vD a, vD b, vD c]), z13, .v (.bl (decide (nrmF a b c = V3.o))), z15, z16, z17, z18, z19, z20] M := by
  have e1 := fun M => r_from (n := m) (u := b) (v := a) (M := M) (by omega)
  have e2 := fun M => r_from (n := m) (u := c) (v := a) (M := M) (by omega)
  have e3 := fun M => r_cross (n := m) (u := b.sub a) (v := c.sub a) (M := M) (by omega) (hb.sub ha) (hc.sub ha) (by omega)
  simp [T11, evSs, evS, evE, evEs, evI, evIf, evEo, evOr, evAnd, start, startI, getS, getO, seqF_t, seqF_l, seqF_s, atD, L2.atI, L2.ixN, optO, Out.bind, Out.st, SO.out, SO.outI, SO.seq, SO.turn, binO, cmp_lt, cmp_le, cmp_gt, cmp_ge, cmp_eqI, cmp_neI, cmp_eqT, cmp_neT, cmp_eqL, cmp_neL, cmp_eqS, cmp_neS, cmp_eqB, cmp_neB, cmp_eqN, cmp_neN, cmp_eqR, cmp_neR, cmp_is, cmp_isN, isN_n, isN_t, isN_R, isN_i, grd, Px.cn, biO, biSum, biAbs, biInt, intsOf, lcRun, lcGo, lcStep, lcK, rangeD, okR, asg, setAll, noEx, wipeR, noLam, ifK, frGo, mapB, List.range, List.range.loop, ixL, e1, e2, e3, gl0, cmp_eqV, eqO_V, nrmF]
  rfl
theorem t12 (hm : 205 ≤ m) (ha : Vw 5 a) (hb : Vw 5 b) (hc : Vw 5 c) : evS (px.cn m 0 (runs px m)) T12 [z0, z1, z2, z3, z4, z5, z6, z7, z8, z9, z10, z11, .v (.lst [vD a, vD b, vD c]), .v (planeD a b c), .v (.bl (decide (nrmF a b c = V3.o))), z15, z16, z17, z18, z19, z20] M = .nx [z0, z1, z2, z3, z4, z5, z6, z7, z8, z9, z10, z11, .v (.lst [vD a, vD b, vD c]), .v (planeD a b c), .v (.bl (decide (nrmF a b c = V3.o))), z15, z16, z17, z18, z19, z20] M := by
  unfold planeD
  by_cases h : nrmF a b c = V3.o
  · simp [T12, evSs, evS, evE, evEs, evI, evIf, evEo, evOr, evAnd, start, startI, getS, getO, seqF_t, seqF_l, seqF_s, atD, L2.atI, L2.ixN, optO, Out.bind, Out.st, SO.out, SO.outI, SO.seq, SO.turn, binO, cmp_lt, cmp_le, cmp_gt, cmp_ge, cmp_eqI, cmp_neI, cmp_eqT, cmp_neT, cmp_eqL, cmp_neL, cmp_eqS, cmp_neS, cmp_eqB, cmp_neB, cmp_eqN, cmp_neN, cmp_eqR, cmp_neR, cmp_is, cmp_isN, isN_n, isN_t, isN_R, isN_i, grd, Px.cn, biO, biSum, biAbs, biInt, intsOf, lcRun, lcGo, lcStep, lcK, rangeD, okR, asg, setAll, noEx, wipeR, noLam, ifK, frGo, mapB, List.range, List.range.loop, h, eqO_err, eqO_bb]
  · have e := fun M => r_faceof (n := m) (M := M) (by omega) (ha.mono (show _ ≤ 8 by omega)) (hb.mono (show _ ≤ 8 by omega)) (hc.mono (show _ ≤ 8 by omega)) h
    have hN : Vw 50 (nrmF a b c) := ((hb.sub ha).cross (hc.sub ha)).mono (by omega)
    have sd : ∀ v : V3, Vw 5 v → (nrmF a b c).dot v - (nrmF a b c).dot a = 0 → ∀ M, runs px m 0 19 [fcD (nrmF a b c) ((nrmF a b c).dot a), vD v] M = .ok (.int 0) M := fun v hv hz M => by
      rw [r_side (by omega) hN (hv.mono (show _ ≤ 100 by omega)), offF, hz]
      rfl
    obtain ⟨x1, x2, x3⟩ := c7 (a := a) (b := b) (c := c)
    simp [T12, evSs, evS, evE, evEs, evI, evIf, evEo, evOr, evAnd, start, startI, getS, getO, seqF_t, seqF_l, seqF_s, atD, L2.atI, L2.ixN, optO, Out.bind, Out.st, SO.out, SO.outI, SO.seq, SO.turn, binO, cmp_lt, cmp_le, cmp_gt, cmp_ge, cmp_eqI, cmp_neI, cmp_eqT, cmp_neT, cmp_eqL, cmp_neL, cmp_eqS, cmp_neS, cmp_eqB, cmp_neB, cmp_eqN, cmp_neN, cmp_eqR, cmp_neR, cmp_is, cmp_isN, isN_n, isN_t, isN_R, isN_i, grd, Px.cn, biO, biSum, biAbs, biInt, intsOf, lcRun, lcGo, lcStep, lcK, rangeD, okR, asg, setAll, noEx, wipeR, noLam, ifK, frGo, mapB, List.range, List.range.loop, h, cmp_eqIS, eqO_ierr, eqO_bb, ixL, e, kMeth, mt7, sd a ha x1, sd b hb x2, sd c hc x3, eqO_isE]
theorem r_rest {k : Nat} {d : Dice} {t : Int} {q : Nat} (hm : 215 ≤ m) (hd : DiceOk k d) (hk : k ≤ 90000) (ht : t = q) (hq : q ≤ 30) (hs : Vw 8 s) (hw : Vw 5 w) (hp : Vw 8 p) (hu : Vw 3 u) (k0 : W 20 mu) : ∃ d', runs px m 0 49 [.ref 0, .int t, fcD u mu, lnD s w, vD p, vD u] [dD d] = .ok (.bl true) [dD d'] := by
  obtain ⟨u1, n1, u2, n2, d1, _, hu1, k1, _, hu2, k2, hd1, e0⟩ := t0 (m := m - 1) (by omega) hd (by omega) (u := u) (mu := mu) (z1 := .v (.int t)) (z3 := .v (lnD s w)) (z4 := .v (vD p)) (z5 := .v (vD u)) (z6 := .un) (z7 := .un) (z8 := .un) (z9 := .un) (z10 := .un) (z11 := .un) (z12 := .un) (z13 := .un) (z14 := .un) (z15 := .un) (z16 := .un) (z17 := .un) (z18 := .un) (z19 := .un) (z20 := .un)
  obtain ⟨a, b, c, d2, ha, hb, hc, hd2, e9⟩ := t9 (m := m - 1) (by omega) hd1 (by omega) ht hq (z2 := .v (fcD u mu)) (z3 := .v (lnD s w)) (z4 := .v (vD p)) (z5 := .v (vD u)) (z6 := .v (fL u mu u1 n1 u2 n2)) (z7 := .v (optV (shareF u u1))) (z8 := .v (optQ (meet3 u mu u1 n1 u2 n2))) (z9 := .v (.lst [.tup [optR (meetF u mu s w), .int 0], .tup [optR (meetF u1 n1 s w), .int 1], .tup [optR (meetF u2 n2 s w), .int 2]])) (z10 := .v (.lst ((goodL (meetF u mu s w) (meetF u1 n1 s w) (meetF u2 n2 s w)).map pD))) (z11 := .v (.lst ((bestL (goodL (meetF u mu s w) (meetF u1 n1 s w) (meetF u2 n2 s w))).map pD))) (z12 := .un) (z13 := .un) (z14 := .un) (z15 := .un) (z16 := .un) (z17 := .un) (z18 := .un) (z19 := .un) (z20 := .un)
  have h1 : Vw 3 u1 := hu1.w (by decide)
  have h2 : Vw 3 u2 := hu2.w (by decide)
  have ha : Vw 5 a := ha.w (by decide)
  have hb : Vw 5 b := hb.w (by decide)
  have hc : Vw 5 c := hc.w (by decide)
  have hm1 : 205 ≤ m - 1 := by omega
  refine ⟨d2, ?_⟩
  rw [run_pos (fd := f__law_rest) rfl _ _ (by omega) rfl rfl rfl, rest_eq]
  show (evSs _ _ [.v _, .v _, .v _, .v _, .v _, .v _, .un, .un, .un, .un, .un, .un, .un, .un, .un, .un, .un, .un, .un, .un, .un] [dD d]).out = _
  have good : ∀ t ∈ goodL (meetF u mu s w) (meetF u1 n1 s w) (meetF u2 n2 s w), Qs 48 t.1 := by
    have q0 := fun q => meet_qs (q := q) (hu.mono (show 3 ≤ 14 by omega)) k0 hs (hw.mono (show 5 ≤ 8 by omega))
    have q1 := fun q => meet_qs (q := q) (h1.mono (show 3 ≤ 14 by omega)) k1 hs (hw.mono (show 5 ≤ 8 by omega))
    have q2 := fun q => meet_qs (q := q) (h2.mono (show 3 ≤ 14 by omega)) k2 hs (hw.mono (show 5 ≤ 8 by omega))
    have up : ∀ {x : Rat}, Qs 24 x → Qs 48 x := fun h => ⟨h.d.mono (by omega), h.w⟩
    generalize meetF u mu s w = o0 at *
    generalize meetF u1 n1 s w = o1 at *
    generalize meetF u2 n2 s w = o2 at *
    intro t ht
    unfold goodL at ht
    simp only [List.mem_append] at ht
    rcases ht with ht | ht | ht
    · cases o0 with
      | none => cases ht
      | some q => rw [List.mem_singleton.mp ht]; exact up (q0 q rfl)
    · cases o1 with
      | none => cases ht
      | some q => rw [List.mem_singleton.mp ht]; exact up (q1 q rfl)
    · cases o2 with
      | none => cases ht
      | some q => rw [List.mem_singleton.mp ht]; exact up (q2 q rfl)
  have gl3 : (goodL (meetF u mu s w) (meetF u1 n1 s w) (meetF u2 n2 s w)).length ≤ 3 := by
    unfold goodL
    cases meetF u mu s w <;> cases meetF u1 n1 s w <;> cases meetF u2 n2 s w <;> simp
  rw [evSs, e0, SO.seq_nx, evSs, t1 hm1 hu h1, SO.seq_nx, evSs, t2 hm1 hu h1, SO.seq_nx, evSs, t3 hm1 hu h1 h2 k0 k1 k2, SO.seq_nx, evSs, t4 hm1 hu h1 h2 k0 k1 k2, SO.seq_nx, evSs, t5 hm1 hu h1 h2 hs hw, SO.seq_nx, evSs, t6, SO.seq_nx,
    evSs, t7 _ hm1 good gl3, SO.seq_nx, evSs, t8 hm1 hu h1 h2 k0 k1 k2 hs hw hp, SO.seq_nx, evSs, e9, SO.seq_nx, evSs, t10 hm1 ha hb hc, SO.seq_nx, evSs, t11 hm1 ha hb hc, SO.seq_nx, evSs, t12 hm1 ha hb hc, SO.seq_nx]
  rfl
end
end Q3
set_option Elab.async false
set_option linter.all false
set_option maxRecDepth 100000
set_option maxHeartbeats 4000000
/-! Q3L: the law. -/
namespace Q3
open PI
theorem body_ok {m : Nat} {d : Dice} {z0 : Slot} (hm : 220 ≤ m) (hd : DiceOk 2000 d) : ∃ ρ' d', evSs (px.cn m 0 (runs px m)) lbody [z0, .v (.ref 0), .un, .un, .un, .un, .un, .un, .un, .un, .un, .un, .un, .un, .un, .un, .un, .un, .un, .un, .un, .un, .un, .un, .un, .un, .un, .un, .un, .un] [dD d] = .nx ρ' [dD d'] := by
  obtain ⟨t, c, d1, ht, c0, c1, hd1, e0⟩ := l0 hm hd (by omega) (z0 := z0) (z2 := .un) (z3 := .un) (z4 := .un) (z5 := .un) (z6 := .un) (z7 := .un) (z8 := .un) (z9 := .un) (z10 := .un) (z11 := .un) (z12 := .un) (z13 := .un) (z14 := .un) (z15 := .un) (z16 := .un) (z17 := .un) (z18 := .un) (z19 := .un) (z20 := .un) (z21 := .un) (z22 := .un) (z23 := .un) (z24 := .un) (z25 := .un) (z26 := .un) (z27 := .un) (z28 := .un) (z29 := .un)
  obtain ⟨s, w, p, d2, hw0, bs, bw, bp, hd2, e1⟩ := l1 hm hd1 (by omega) ht c0 c1 (z0 := z0) (z3 := .un) (z4 := .un) (z5 := .un) (z6 := .un) (z7 := .un) (z8 := .un) (z9 := .un) (z10 := .un) (z11 := .un) (z12 := .un) (z13 := .un) (z14 := .un) (z15 := .un) (z16 := .un) (z17 := .un) (z18 := .un) (z19 := .un) (z20 := .un) (z21 := .un) (z22 := .un) (z23 := .un) (z24 := .un) (z25 := .un) (z26 := .un) (z27 := .un) (z28 := .un) (z29 := .un)
  obtain ⟨s2, w2, d3, hw20, bs2, bw2, hd3, e2⟩ := l2 hm hd2 (by omega) ht c0 c1 hw0 (z0 := z0) (z6 := .un) (z7 := .un) (z8 := .un) (z9 := .un) (z10 := .un) (z11 := .un) (z12 := .un) (z13 := .un) (z14 := .un) (z15 := .un) (z16 := .un) (z17 := .un) (z18 := .un) (z19 := .un) (z20 := .un) (z21 := .un) (z22 := .un) (z23 := .un) (z24 := .un) (z25 := .un) (z26 := .un) (z27 := .un) (z28 := .un) (z29 := .un)
  obtain ⟨s3, d4, bs3, hd4, e3⟩ := l3 (t := t) (p := p) hm hd3 (by omega) c1 bs bw bs2 bw2 hw20 (z0 := z0) (z8 := .un) (z9 := .un) (z10 := .un) (z11 := .un) (z12 := .un) (z13 := .un) (z14 := .un) (z15 := .un) (z16 := .un) (z17 := .un) (z18 := .un) (z19 := .un) (z20 := .un) (z21 := .un) (z22 := .un) (z23 := .un) (z24 := .un) (z25 := .un) (z26 := .un) (z27 := .un) (z28 := .un) (z29 := .un)
  obtain ⟨q, d5, hq, hd5, e4⟩ := l4 (c := 0) hm hd4 (by omega) (z0 := z0) (z2 := .v (.int t)) (z3 := .v (vD s)) (z4 := .v (vD w)) (z5 := .v (vD p)) (z6 := .v (lnD s w)) (z7 := .v (lnD s3 w2)) (z8 := .un) (z9 := .un) (z10 := .un) (z11 := .un) (z12 := .un) (z13 := .un) (z14 := .un) (z15 := .un) (z16 := .un) (z17 := .un) (z18 := .un) (z19 := .un) (z20 := .un) (z21 := .un) (z22 := .un) (z23 := .un) (z24 := .un) (z25 := .un) (z26 := .un) (z27 := .un) (z28 := .un) (z29 := .un)
  have hs : Vw 8 s := bs.w (by omega)
  have hp : Vw 8 p := bp.w (by omega)
  have hw : Vw 5 w := bw.w (by omega)
  have hw2 : Vw 5 w2 := bw2.w (by omega)
  have hs3 : Vw 8 s3 := bs3.w (by omega)
  obtain ⟨y17, y18, e14⟩ := l14 (M := [dD d5]) hm hs hw hs3 hw2 hw0 hw20 (z0 := z0) (z1 := .v (.ref 0)) (z2 := .v (.int t)) (z4 := .v (vD w)) (z5 := .v (vD p)) (z8 := .v (R q)) (z9 := .v (R (nearS s w p))) (z10 := .v (R (nearF s w p))) (z11 := .v (qL (gapL s w s3 w2))) (z12 := .v (R (btwM s w s3 w2))) (z13 := .v (R (btwT s w s3 w2))) (z17 := .un) (z18 := .un) (z19 := .un) (z20 := .un) (z21 := .un) (z22 := .un) (z23 := .un) (z24 := .un) (z25 := .un) (z26 := .un) (z27 := .un) (z28 := .un) (z29 := .un)
  obtain ⟨u, mu, d6, hu0, bu, hmu, hd6, e15⟩ := l15 hm hd5 (by omega) (z0 := z0) (z2 := .v (.int t)) (z3 := .v (vD s)) (z4 := .v (vD w)) (z5 := .v (vD p)) (z6 := .v (lnD s w)) (z7 := .v (lnD s3 w2)) (z8 := .v (R q)) (z9 := .v (R (nearS s w p))) (z10 := .v (R (nearF s w p))) (z11 := .v (qL (gapL s w s3 w2))) (z12 := .v (R (btwM s w s3 w2))) (z13 := .v (R (btwT s w s3 w2))) (z14 := .v (R (btwA s w s3 w2))) (z15 := .v (pairD (metL s w s3 w2))) (z16 := .v (.bl (decide (w.cross w2 = V3.o)))) (z17 := y17) (z18 := y18) (z19 := .un) (z20 := .un) (z21 := .un) (z22 := .un) (z23 := .un) (z24 := .un) (z25 := .un) (z26 := .un) (z27 := .un) (z28 := .un) (z29 := .un)
  have hu : Vw 3 u := bu.w (by decide)
  obtain ⟨d7, er⟩ := r_rest (m := m) (by omega) hd6 (by omega) ht c1 hs hw hp hu hmu
  refine ⟨[z0, .v (.ref 0), .v (.int t), .v (vD s), .v (vD w), .v (vD p), .v (lnD s w), .v (lnD s3 w2), .v (R q), .v (R (nearS s w p)), .v (R (nearF s w p)), .v (qL (gapF u mu p)), .v (R (btwM s w s3 w2)), .v (R (btwT s w s3 w2)), .v (R (btwA s w s3 w2)), .v (pairD (metL s w s3 w2)), .v (.bl (decide (w.cross w2 = V3.o))), y17, y18, .v (vD u), .v (.int mu), .v (fcD u mu), .v (.int (offF u mu p)), .v (qD (footF u mu p)), .v (qD (mirF u mu p)), .v (.int (u.dot w)), .v (.int (mu - u.dot s)), .v (optR (meetF u mu s w)), .un, .un], d7, ?_⟩
  unfold lbody
  rw [evSs, e0, SO.seq_nx, evSs, e1, SO.seq_nx, evSs, e2, SO.seq_nx, evSs, e3, SO.seq_nx, evSs, e4, SO.seq_nx, evSs, l5 hm hs hw hp hw0, SO.seq_nx, evSs, l6 hm hs hw hp hw0, SO.seq_nx, evSs, l7 hm hs hw hp hw0 hq, SO.seq_nx, evSs, l8 hm hs hw hp hw0, SO.seq_nx, evSs, l9 hm hs hw hs3 hw2 hw20, SO.seq_nx, evSs, l10 hm hs hw hs3 hw2 hw20, SO.seq_nx, evSs, l11 hm hs hw hs3 hw2 hw20, SO.seq_nx, evSs, l12 hm hs hw hs3 hw2 hw0 hw20, SO.seq_nx, evSs, l13 hm hs hw hs3 hw2 hw0 hw20, SO.seq_nx, evSs, e14, SO.seq_nx, evSs, e15, SO.seq_nx, evSs, l16 hm hu0, SO.seq_nx, evSs, l17 hm hu hp, SO.seq_nx, evSs, l18 hm hu0 hu hp hmu, SO.seq_nx, evSs, l19 hm hu0 hu hp hmu, SO.seq_nx, evSs, l20 hm hu0 hu hp hmu, SO.seq_nx, evSs, l21 hm hu hs hw, SO.seq_nx, evSs, l22 hm hu hs hw, SO.seq_nx, evSs, l23 hm hu hs hw hmu, SO.seq_nx]
  simp [L24, evSs, evS, evE, evEs, evI, evIf, evEo, evOr, evAnd, start, startI, getS, getO, seqF_t, seqF_l, seqF_s, atD, L2.atI, L2.ixN, optO, Out.bind, Out.st, SO.out, SO.outI, SO.seq, SO.turn, binO, cmp_lt, cmp_le, cmp_gt, cmp_ge, cmp_eqI, cmp_neI, cmp_eqT, cmp_neT, cmp_eqL, cmp_neL, cmp_eqS, cmp_neS, cmp_eqB, cmp_neB, cmp_eqN, cmp_neN, cmp_eqR, cmp_neR, cmp_is, cmp_isN, isN_n, isN_t, isN_R, isN_i, grd, Px.cn, biO, biSum, biAbs, biInt, intsOf, lcRun, lcGo, lcStep, lcK, rangeD, okR, asg, setAll, noEx, wipeR, noLam, ifK, frGo, mapB, List.range, List.range.loop, er]
theorem plain_ok (M : Store) : runs px 230 0 48 [] M = .ok (.bl true) M := by kernel_rfl
theorem law_all (ns : List Int) (h : ∀ z ∈ ns, PySem.Builtin.Int.intBits z ≤ 1048576) : ∃ M, runs px 231 0 50 [.seq (ns.map D.int)] [] = .ok (.bl true) M := by
  have hW : ∀ z ∈ ns, W 2000000 z := fun z hz => by
    have := h z hz
    unfold PySem.Builtin.Int.intBits at this
    by_cases h0 : z = 0
    · subst h0; exact W_small (by decide) (by omega)
    · have hb : (z == 0) = false := by simpa using h0
      rw [hb] at this
      have h1 : z.natAbs ≠ 0 := by omega
      have h2 : z.natAbs.log2 < 1048576 := by simp at this; omega
      exact W.mono (a := 1048576) ((Nat.log2_lt h1).mp h2) (by omega)
  obtain ⟨d, hd, e1⟩ := rounds_ok (p := px) (f := 32) (d := 30) rfl rfl ns hW
  obtain ⟨ρ', d', e2⟩ := body_ok (m := 230) (z0 := .v (.seq (ns.map D.int))) (by omega) hd
  refine ⟨[dD d'], ?_⟩
  rw [run_pos (n := 231) (fd := f_law) rfl _ _ (by omega) rfl rfl rfl, law_eq]
  have e1 := e1 230 (by omega)
  have e3 := plain_ok [dD d']
  simp [Px.cn] at e2
  simp [evSs, evS, evE, evEs, evI, evIf, evEo, evOr, evAnd, start, startI, getS, getO, seqF_t, seqF_l, seqF_s, atD, L2.atI, L2.ixN, optO, Out.bind, Out.st, SO.out, SO.outI, SO.seq, SO.turn, binO, cmp_lt, cmp_le, cmp_gt, cmp_ge, cmp_eqI, cmp_neI, cmp_eqT, cmp_neT, cmp_eqL, cmp_neL, cmp_eqS, cmp_neS, cmp_eqB, cmp_neB, cmp_eqN, cmp_neN, cmp_eqR, cmp_neR, cmp_is, cmp_isN, isN_n, isN_t, isN_R, isN_i, grd, Px.cn, biO, biSum, biAbs, biInt, intsOf, lcRun, lcGo, lcStep, lcK, rangeD, okR, asg, setAll, noEx, wipeR, noLam, ifK, frGo, mapB, List.range, List.range.loop, e1, e2, e3]
end Q3
set_option Elab.async false
set_option linter.all false
set_option maxRecDepth 100000
set_option maxHeartbeats 4000000

/-! Q3T: the text's entries. -/
namespace Q3
open PI PySem L2
def top (i : Nat) : Stmt := PySem.Challenge.pw_raystack_k03_rays_and_faces_without_an_e.main.body.getD i (.Pass ⟨0, 0, 0, 0⟩)
def mth (i j : Nat) : Stmt := match top i with
  | .ClassDef _ _ _ b _ _ _ _ _ _ _ => b.getD j (.Pass ⟨0, 0, 0, 0⟩)
  | s => s
def e_plus : Ent := ⟨0, ("plus", none), ⟨"plus", "plus", top 6, ["one", "other"], ["one", "other"], false, false, f_plus⟩⟩
def e_minus : Ent := ⟨1, ("minus", none), ⟨"minus", "minus", top 7, ["one", "other"], ["one", "other"], false, false, f_minus⟩⟩
def e_stretched : Ent := ⟨2, ("stretched", none), ⟨"stretched", "stretched", top 8, ["one", "times"], ["one", "times"], false, false, f_stretched⟩⟩
def e_along : Ent := ⟨3, ("along", none), ⟨"along", "along", top 9, ["one", "other"], ["one", "other"], false, false, f_along⟩⟩
def e_across : Ent := ⟨4, ("across", none), ⟨"across", "across", top 10, ["one", "other"], ["one", "other", "first"], false, false, f_across⟩⟩
def e_square : Ent := ⟨5, ("square", none), ⟨"square", "square", top 11, ["one"], ["one"], false, false, f_square⟩⟩
def e_common : Ent := ⟨6, ("common", none), ⟨"common", "common", top 12, ["one", "other"], ["one", "other"], false, false, f_common⟩⟩
def e_plain : Ent := ⟨7, ("plain", none), ⟨"plain", "plain", top 13, ["one", "under"], ["one", "under", "by"], false, false, f_plain⟩⟩
def e_order : Ent := ⟨8, ("order", none), ⟨"order", "order", top 14, ["one", "other"], ["one", "other", "left", "right"], false, false, f_order⟩⟩
def e_added : Ent := ⟨9, ("added", none), ⟨"added", "added", top 15, ["one", "other"], ["one", "other"], false, false, f_added⟩⟩
def e_times : Ent := ⟨10, ("times", none), ⟨"times", "times", top 16, ["one", "other"], ["one", "other"], false, false, f_times⟩⟩
def e_Line_ini : Ent := ⟨11, ("Line", some "__init__"), ⟨"__init__", "Line.__init__", mth 18 0, ["self", "start", "way"], ["self", "start", "way"], false, false, f_Line_ini⟩⟩
def e_Line_at : Ent := ⟨12, ("Line", some "at"), ⟨"at", "Line.at", mth 18 1, ["self", "share"], ["self", "share", "found", "spot"], false, false, f_Line_at⟩⟩
def e_Line_whole_at : Ent := ⟨13, ("Line", some "whole_at"), ⟨"whole_at", "Line.whole_at", mth 18 2, ["self", "many"], ["self", "many"], false, false, f_Line_whole_at⟩⟩
def e_Line_nearest_to : Ent := ⟨14, ("Line", some "nearest_to"), ⟨"nearest_to", "Line.nearest_to", mth 18 3, ["self", "spot"], ["self", "spot", "gap", "whole", "side"], false, false, f_Line_nearest_to⟩⟩
def e_Line_nearest_on : Ent := ⟨15, ("Line", some "nearest_on"), ⟨"nearest_on", "Line.nearest_on", mth 18 4, ["self", "spot"], ["self", "spot", "share", "far"], false, false, f_Line_nearest_on⟩⟩
def e_Line_between_lines : Ent := ⟨16, ("Line", some "between_lines"), ⟨"between_lines", "Line.between_lines", mth 18 5, ["self", "other"], ["self", "other", "side", "gap", "share", "far", "under", "mine", "theirs", "high"], false, false, f_Line_between_lines⟩⟩
def e_Line_meets_line : Ent := ⟨17, ("Line", some "meets_line"), ⟨"meets_line", "Line.meets_line", mth 18 6, ["self", "other"], ["self", "other", "side", "mine", "theirs", "far", "share", "back"], false, false, f_Line_meets_line⟩⟩
def e_Face_ini : Ent := ⟨18, ("Face", some "__init__"), ⟨"__init__", "Face.__init__", mth 19 0, ["self", "upright", "much"], ["self", "upright", "much"], false, false, f_Face_ini⟩⟩
def e_Face_side : Ent := ⟨19, ("Face", some "side"), ⟨"side", "Face.side", mth 19 1, ["self", "spot"], ["self", "spot", "off"], false, false, f_Face_side⟩⟩
def e_Face_square_off : Ent := ⟨20, ("Face", some "square_off"), ⟨"square_off", "Face.square_off", mth 19 2, ["self", "spot"], ["self", "spot", "off"], false, false, f_Face_square_off⟩⟩
def e_Face_foot : Ent := ⟨21, ("Face", some "foot"), ⟨"foot", "Face.foot", mth 19 3, ["self", "spot"], ["self", "spot", "off", "whole", "found", "part", "high"], false, false, f_Face_foot⟩⟩
def e_Face_meets : Ent := ⟨22, ("Face", some "meets"), ⟨"meets", "Face.meets", mth 19 4, ["self", "line"], ["self", "line", "under", "off", "share"], false, false, f_Face_meets⟩⟩
def e_Face_mirrored_spot : Ent := ⟨23, ("Face", some "mirrored_spot"), ⟨"mirrored_spot", "Face.mirrored_spot", mth 19 5, ["self", "spot"], ["self", "spot", "off", "whole", "found", "part", "high"], false, false, f_Face_mirrored_spot⟩⟩
def e_Face_shared_way : Ent := ⟨24, ("Face", some "shared_way"), ⟨"shared_way", "Face.shared_way", mth 19 6, ["self", "other"], ["self", "other", "way"], false, false, f_Face_shared_way⟩⟩
def e_shortest : Ent := ⟨25, ("shortest", none), ⟨"shortest", "shortest", top 20, ["way"], ["way", "parts", "by", "part"], false, false, f_shortest⟩⟩
def e_face_of : Ent := ⟨26, ("face_of", none), ⟨"face_of", "face_of", top 21, ["one", "other", "third"], ["one", "other", "third", "upright"], false, false, f_face_of⟩⟩
def e_three_meet : Ent := ⟨27, ("three_meet", none), ⟨"three_meet", "three_meet", top 22, ["one", "other", "third"], ["one", "other", "third", "first", "second", "last", "sides", "under", "found", "spot", "whole"], false, false, f_three_meet⟩⟩
def e_first_of : Ent := ⟨28, ("first_of", none), ⟨"first_of", "first_of", top 23, ["faces", "line"], ["faces", "line", "best", "place", "face", "share"], false, false, f_first_of⟩⟩
def e_is_inside : Ent := ⟨29, ("is_inside", none), ⟨"is_inside", "is_inside", top 24, ["faces", "spot"], ["faces", "spot"], true, false, f_is_inside⟩⟩
def e__law_dice : Ent := ⟨30, ("_law_dice", none), ⟨"_law_dice", "_law_dice", top 26, ["cell"], ["cell"], false, false, f__law_dice⟩⟩
def e__law_roll : Ent := ⟨31, ("_law_roll", none), ⟨"_law_roll", "_law_roll", top 27, ["dice", "many"], ["dice", "many", "found"], false, false, f__law_roll⟩⟩
def e__law_rounds : Ent := ⟨32, ("_law_rounds", none), ⟨"_law_rounds", "_law_rounds", top 28, ["script", "most"], ["script", "most", "cells", "cell"], false, false, f__law_rounds⟩⟩
def e__law_gcd : Ent := ⟨34, ("_law_gcd", none), ⟨"_law_gcd", "_law_gcd", top 30, ["one", "other"], ["one", "other"], false, false, f__law_gcd⟩⟩
def e__law_plain_share : Ent := ⟨35, ("_law_plain_share", none), ⟨"_law_plain_share", "_law_plain_share", top 31, ["one", "under"], ["one", "under", "by"], false, false, f__law_plain_share⟩⟩
def e__law_add : Ent := ⟨36, ("_law_add", none), ⟨"_law_add", "_law_add", top 32, ["one", "other"], ["one", "other"], false, false, f__law_add⟩⟩
def e__law_mul : Ent := ⟨37, ("_law_mul", none), ⟨"_law_mul", "_law_mul", top 33, ["one", "other"], ["one", "other"], false, false, f__law_mul⟩⟩
def e__law_less : Ent := ⟨38, ("_law_less", none), ⟨"_law_less", "_law_less", top 34, ["one", "other"], ["one", "other"], false, false, f__law_less⟩⟩
def e__law_dot : Ent := ⟨39, ("_law_dot", none), ⟨"_law_dot", "_law_dot", top 35, ["one", "other"], ["one", "other", "k"], false, false, f__law_dot⟩⟩
def e__law_cross : Ent := ⟨40, ("_law_cross", none), ⟨"_law_cross", "_law_cross", top 36, ["one", "other"], ["one", "other", "k"], false, false, f__law_cross⟩⟩
def e__law_from : Ent := ⟨41, ("_law_from", none), ⟨"_law_from", "_law_from", top 37, ["one", "other"], ["one", "other", "k"], false, false, f__law_from⟩⟩
def e__law_way : Ent := ⟨42, ("_law_way", none), ⟨"_law_way", "_law_way", top 38, ["dice", "size"], ["dice", "size", "k"], false, false, f__law_way⟩⟩
def e__law_at : Ent := ⟨43, ("_law_at", none), ⟨"_law_at", "_law_at", top 39, ["start", "way", "share"], ["start", "way", "share", "k"], false, false, f__law_at⟩⟩
def e__law_gap : Ent := ⟨44, ("_law_gap", none), ⟨"_law_gap", "_law_gap", top 40, ["one", "other"], ["one", "other", "k"], false, false, f__law_gap⟩⟩
def e__law_sum : Ent := ⟨45, ("_law_sum", none), ⟨"_law_sum", "_law_sum", top 41, ["rows"], ["rows", "found", "row"], false, false, f__law_sum⟩⟩
def e__law_flat : Ent := ⟨46, ("_law_flat", none), ⟨"_law_flat", "_law_flat", top 42, ["way", "row"], ["way", "row", "k"], false, false, f__law_flat⟩⟩
def e__law_some : Ent := ⟨47, ("_law_some", none), ⟨"_law_some", "_law_some", top 43, ["dice", "size"], ["dice", "size", "found"], false, false, f__law_some⟩⟩
def e__law_plain : Ent := ⟨48, ("_law_plain", none), ⟨"_law_plain", "_law_plain", top 44, [], ["line", "face", "told", "bad", "due", "k", "f"], false, true, f__law_plain⟩⟩
def e__law_rest : Ent := ⟨49, ("_law_rest", none), ⟨"_law_rest", "_law_rest", top 45, ["dice", "size", "face", "line", "spot", "upright"], ["dice", "size", "face", "line", "spot", "upright", "faces", "common_v", "point", "shares", "good", "best", "corners", "plane", "flat", "part", "one", "k", "row", "pair", "corner"], false, true, f__law_rest⟩⟩
def e_law : Ent := ⟨50, ("law", none), ⟨"law", "law", top 46, ["script"], ["script", "dice", "size", "start", "way", "spot", "line", "other", "share", "near", "far", "gap", "mine", "theirs", "apart", "met", "beside", "ends", "touching", "upright", "much", "face", "off", "foot", "there", "steps", "left", "told", "k", "part"], false, false, f_law⟩⟩
def more (K : PySem.W.Frag) : Bool := He.tupB K "ZERO" [.int 0, .int 0, .int 0] && true
def tx : Tx where
  p := px
  es := [e_plus, e_minus, e_stretched, e_along, e_across, e_square, e_common, e_plain, e_order, e_added, e_times, e_Line_ini, e_Line_at, e_Line_whole_at, e_Line_nearest_to, e_Line_nearest_on, e_Line_between_lines, e_Line_meets_line, e_Face_ini, e_Face_side, e_Face_square_off, e_Face_foot, e_Face_meets, e_Face_mirrored_spot, e_Face_shared_way, e_shortest, e_face_of, e_three_meet, e_first_of, e_is_inside, e__law_dice, e__law_roll, e__law_rounds, e__law_gcd, e__law_plain_share, e__law_add, e__law_mul, e__law_less, e__law_dot, e__law_cross, e__law_from, e__law_way, e__law_at, e__law_gap, e__law_sum, e__law_flat, e__law_some, e__law_plain, e__law_rest, e_law]
  cn := [(0, "Line"), (1, "Face"), (50, "RayFault"), (51, "WayError"), (52, "LineError")]
  xs := [51, 52]
  ats := ["start", "way", "nearest_to", "between_lines", "upright", "much", "meets", "side", "at", "whole_at", "nearest_on", "meets_line", "square_off", "foot", "mirrored_spot", "shared_way"]
  mts := [(0, 8, 12), (0, 9, 13), (0, 2, 14), (0, 10, 15), (0, 3, 16), (0, 11, 17), (1, 7, 19), (1, 12, 20), (1, 13, 21), (1, 6, 22), (1, 14, 23), (1, 15, 24)]
  fls := [(0, 0), (0, 1), (1, 4), (1, 5)]
  cts := [52]
  gls := [(0, "ZERO")]
  tst := top 29
  ta := "what"
  te := "LineError"
  tN := ["what"]
  more := more
  fmore := [.glo "ZERO"]
theorem bd_e_plus : BindsP e_plus.en.x e_plus.en.qual (defArgs e_plus.en.st) e_plus.en.ps := fun _ _ _ _ _ _ _ _ us hl => match us, hl with | [_, _], _ => rfl
theorem bd_e_minus : BindsP e_minus.en.x e_minus.en.qual (defArgs e_minus.en.st) e_minus.en.ps := fun _ _ _ _ _ _ _ _ us hl => match us, hl with | [_, _], _ => rfl
theorem bd_e_stretched : BindsP e_stretched.en.x e_stretched.en.qual (defArgs e_stretched.en.st) e_stretched.en.ps := fun _ _ _ _ _ _ _ _ us hl => match us, hl with | [_, _], _ => rfl
theorem bd_e_along : BindsP e_along.en.x e_along.en.qual (defArgs e_along.en.st) e_along.en.ps := fun _ _ _ _ _ _ _ _ us hl => match us, hl with | [_, _], _ => rfl
theorem bd_e_across : BindsP e_across.en.x e_across.en.qual (defArgs e_across.en.st) e_across.en.ps := fun _ _ _ _ _ _ _ _ us hl => match us, hl with | [_, _], _ => rfl
theorem bd_e_square : BindsP e_square.en.x e_square.en.qual (defArgs e_square.en.st) e_square.en.ps := fun _ _ _ _ _ _ _ _ us hl => match us, hl with | [_], _ => rfl
theorem bd_e_common : BindsP e_common.en.x e_common.en.qual (defArgs e_common.en.st) e_common.en.ps := fun _ _ _ _ _ _ _ _ us hl => match us, hl with | [_, _], _ => rfl
theorem bd_e_plain : BindsP e_plain.en.x e_plain.en.qual (defArgs e_plain.en.st) e_plain.en.ps := fun _ _ _ _ _ _ _ _ us hl => match us, hl with | [_, _], _ => rfl
theorem bd_e_order : BindsP e_order.en.x e_order.en.qual (defArgs e_order.en.st) e_order.en.ps := fun _ _ _ _ _ _ _ _ us hl => match us, hl with | [_, _], _ => rfl
theorem bd_e_added : BindsP e_added.en.x e_added.en.qual (defArgs e_added.en.st) e_added.en.ps := fun _ _ _ _ _ _ _ _ us hl => match us, hl with | [_, _], _ => rfl
theorem bd_e_times : BindsP e_times.en.x e_times.en.qual (defArgs e_times.en.st) e_times.en.ps := fun _ _ _ _ _ _ _ _ us hl => match us, hl with | [_, _], _ => rfl
theorem bd_e_Line_ini : BindsP e_Line_ini.en.x e_Line_ini.en.qual (defArgs e_Line_ini.en.st) e_Line_ini.en.ps := fun _ _ _ _ _ _ _ _ us hl => match us, hl with | [_, _, _], _ => rfl
theorem bd_e_Line_at : BindsP e_Line_at.en.x e_Line_at.en.qual (defArgs e_Line_at.en.st) e_Line_at.en.ps := fun _ _ _ _ _ _ _ _ us hl => match us, hl with | [_, _], _ => rfl
theorem bd_e_Line_whole_at : BindsP e_Line_whole_at.en.x e_Line_whole_at.en.qual (defArgs e_Line_whole_at.en.st) e_Line_whole_at.en.ps := fun _ _ _ _ _ _ _ _ us hl => match us, hl with | [_, _], _ => rfl
theorem bd_e_Line_nearest_to : BindsP e_Line_nearest_to.en.x e_Line_nearest_to.en.qual (defArgs e_Line_nearest_to.en.st) e_Line_nearest_to.en.ps := fun _ _ _ _ _ _ _ _ us hl => match us, hl with | [_, _], _ => rfl
theorem bd_e_Line_nearest_on : BindsP e_Line_nearest_on.en.x e_Line_nearest_on.en.qual (defArgs e_Line_nearest_on.en.st) e_Line_nearest_on.en.ps := fun _ _ _ _ _ _ _ _ us hl => match us, hl with | [_, _], _ => rfl
theorem bd_e_Line_between_lines : BindsP e_Line_between_lines.en.x e_Line_between_lines.en.qual (defArgs e_Line_between_lines.en.st) e_Line_between_lines.en.ps := fun _ _ _ _ _ _ _ _ us hl => match us, hl with | [_, _], _ => rfl
theorem bd_e_Line_meets_line : BindsP e_Line_meets_line.en.x e_Line_meets_line.en.qual (defArgs e_Line_meets_line.en.st) e_Line_meets_line.en.ps := fun _ _ _ _ _ _ _ _ us hl => match us, hl with | [_, _], _ => rfl
theorem bd_e_Face_ini : BindsP e_Face_ini.en.x e_Face_ini.en.qual (defArgs e_Face_ini.en.st) e_Face_ini.en.ps := fun _ _ _ _ _ _ _ _ us hl => match us, hl with | [_, _, _], _ => rfl
theorem bd_e_Face_side : BindsP e_Face_side.en.x e_Face_side.en.qual (defArgs e_Face_side.en.st) e_Face_side.en.ps := fun _ _ _ _ _ _ _ _ us hl => match us, hl with | [_, _], _ => rfl
theorem bd_e_Face_square_off : BindsP e_Face_square_off.en.x e_Face_square_off.en.qual (defArgs e_Face_square_off.en.st) e_Face_square_off.en.ps := fun _ _ _ _ _ _ _ _ us hl => match us, hl with | [_, _], _ => rfl
theorem bd_e_Face_foot : BindsP e_Face_foot.en.x e_Face_foot.en.qual (defArgs e_Face_foot.en.st) e_Face_foot.en.ps := fun _ _ _ _ _ _ _ _ us hl => match us, hl with | [_, _], _ => rfl
theorem bd_e_Face_meets : BindsP e_Face_meets.en.x e_Face_meets.en.qual (defArgs e_Face_meets.en.st) e_Face_meets.en.ps := fun _ _ _ _ _ _ _ _ us hl => match us, hl with | [_, _], _ => rfl
theorem bd_e_Face_mirrored_spot : BindsP e_Face_mirrored_spot.en.x e_Face_mirrored_spot.en.qual (defArgs e_Face_mirrored_spot.en.st) e_Face_mirrored_spot.en.ps := fun _ _ _ _ _ _ _ _ us hl => match us, hl with | [_, _], _ => rfl
theorem bd_e_Face_shared_way : BindsP e_Face_shared_way.en.x e_Face_shared_way.en.qual (defArgs e_Face_shared_way.en.st) e_Face_shared_way.en.ps := fun _ _ _ _ _ _ _ _ us hl => match us, hl with | [_, _], _ => rfl
theorem bd_e_shortest : BindsP e_shortest.en.x e_shortest.en.qual (defArgs e_shortest.en.st) e_shortest.en.ps := fun _ _ _ _ _ _ _ _ us hl => match us, hl with | [_], _ => rfl
theorem bd_e_face_of : BindsP e_face_of.en.x e_face_of.en.qual (defArgs e_face_of.en.st) e_face_of.en.ps := fun _ _ _ _ _ _ _ _ us hl => match us, hl with | [_, _, _], _ => rfl
theorem bd_e_three_meet : BindsP e_three_meet.en.x e_three_meet.en.qual (defArgs e_three_meet.en.st) e_three_meet.en.ps := fun _ _ _ _ _ _ _ _ us hl => match us, hl with | [_, _, _], _ => rfl
theorem bd_e_first_of : BindsP e_first_of.en.x e_first_of.en.qual (defArgs e_first_of.en.st) e_first_of.en.ps := fun _ _ _ _ _ _ _ _ us hl => match us, hl with | [_, _], _ => rfl
theorem bd_e_is_inside : BindsP e_is_inside.en.x e_is_inside.en.qual (defArgs e_is_inside.en.st) e_is_inside.en.ps := fun _ _ _ _ _ _ _ _ us hl => match us, hl with | [_, _], _ => rfl
theorem bd_e__law_dice : BindsP e__law_dice.en.x e__law_dice.en.qual (defArgs e__law_dice.en.st) e__law_dice.en.ps := fun _ _ _ _ _ _ _ _ us hl => match us, hl with | [_], _ => rfl
theorem bd_e__law_roll : BindsP e__law_roll.en.x e__law_roll.en.qual (defArgs e__law_roll.en.st) e__law_roll.en.ps := fun _ _ _ _ _ _ _ _ us hl => match us, hl with | [_, _], _ => rfl
theorem bd_e__law_rounds : BindsP e__law_rounds.en.x e__law_rounds.en.qual (defArgs e__law_rounds.en.st) e__law_rounds.en.ps := fun _ _ _ _ _ _ _ _ us hl => match us, hl with | [_, _], _ => rfl
theorem bt : BindsP tdN tdN (defArgs tx.tst) [tx.ta] := fun _ _ _ _ _ _ _ _ us hl => match us, hl with | [_], _ => rfl
theorem bd_e__law_gcd : BindsP e__law_gcd.en.x e__law_gcd.en.qual (defArgs e__law_gcd.en.st) e__law_gcd.en.ps := fun _ _ _ _ _ _ _ _ us hl => match us, hl with | [_, _], _ => rfl
theorem bd_e__law_plain_share : BindsP e__law_plain_share.en.x e__law_plain_share.en.qual (defArgs e__law_plain_share.en.st) e__law_plain_share.en.ps := fun _ _ _ _ _ _ _ _ us hl => match us, hl with | [_, _], _ => rfl
theorem bd_e__law_add : BindsP e__law_add.en.x e__law_add.en.qual (defArgs e__law_add.en.st) e__law_add.en.ps := fun _ _ _ _ _ _ _ _ us hl => match us, hl with | [_, _], _ => rfl
theorem bd_e__law_mul : BindsP e__law_mul.en.x e__law_mul.en.qual (defArgs e__law_mul.en.st) e__law_mul.en.ps := fun _ _ _ _ _ _ _ _ us hl => match us, hl with | [_, _], _ => rfl
theorem bd_e__law_less : BindsP e__law_less.en.x e__law_less.en.qual (defArgs e__law_less.en.st) e__law_less.en.ps := fun _ _ _ _ _ _ _ _ us hl => match us, hl with | [_, _], _ => rfl
theorem bd_e__law_dot : BindsP e__law_dot.en.x e__law_dot.en.qual (defArgs e__law_dot.en.st) e__law_dot.en.ps := fun _ _ _ _ _ _ _ _ us hl => match us, hl with | [_, _], _ => rfl
theorem bd_e__law_cross : BindsP e__law_cross.en.x e__law_cross.en.qual (defArgs e__law_cross.en.st) e__law_cross.en.ps := fun _ _ _ _ _ _ _ _ us hl => match us, hl with | [_, _], _ => rfl
theorem bd_e__law_from : BindsP e__law_from.en.x e__law_from.en.qual (defArgs e__law_from.en.st) e__law_from.en.ps := fun _ _ _ _ _ _ _ _ us hl => match us, hl with | [_, _], _ => rfl
theorem bd_e__law_way : BindsP e__law_way.en.x e__law_way.en.qual (defArgs e__law_way.en.st) e__law_way.en.ps := fun _ _ _ _ _ _ _ _ us hl => match us, hl with | [_, _], _ => rfl
theorem bd_e__law_at : BindsP e__law_at.en.x e__law_at.en.qual (defArgs e__law_at.en.st) e__law_at.en.ps := fun _ _ _ _ _ _ _ _ us hl => match us, hl with | [_, _, _], _ => rfl
theorem bd_e__law_gap : BindsP e__law_gap.en.x e__law_gap.en.qual (defArgs e__law_gap.en.st) e__law_gap.en.ps := fun _ _ _ _ _ _ _ _ us hl => match us, hl with | [_, _], _ => rfl
theorem bd_e__law_sum : BindsP e__law_sum.en.x e__law_sum.en.qual (defArgs e__law_sum.en.st) e__law_sum.en.ps := fun _ _ _ _ _ _ _ _ us hl => match us, hl with | [_], _ => rfl
theorem bd_e__law_flat : BindsP e__law_flat.en.x e__law_flat.en.qual (defArgs e__law_flat.en.st) e__law_flat.en.ps := fun _ _ _ _ _ _ _ _ us hl => match us, hl with | [_, _], _ => rfl
theorem bd_e__law_some : BindsP e__law_some.en.x e__law_some.en.qual (defArgs e__law_some.en.st) e__law_some.en.ps := fun _ _ _ _ _ _ _ _ us hl => match us, hl with | [_, _], _ => rfl
theorem bd_e__law_plain : BindsP e__law_plain.en.x e__law_plain.en.qual (defArgs e__law_plain.en.st) e__law_plain.en.ps := fun _ _ _ _ _ _ _ _ us hl => match us, hl with | [], _ => rfl
theorem bd_e__law_rest : BindsP e__law_rest.en.x e__law_rest.en.qual (defArgs e__law_rest.en.st) e__law_rest.en.ps := fun _ _ _ _ _ _ _ _ us hl => match us, hl with | [_, _, _, _, _, _], _ => rfl
theorem bd_e_law : BindsP e_law.en.x e_law.en.qual (defArgs e_law.en.st) e_law.en.ps := fun _ _ _ _ _ _ _ _ us hl => match us, hl with | [_], _ => rfl
theorem ck_e_plus : ckEn tx.nm e_plus.en = true := by decide +kernel
theorem ck_e_minus : ckEn tx.nm e_minus.en = true := by decide +kernel
theorem ck_e_stretched : ckEn tx.nm e_stretched.en = true := by decide +kernel
theorem ck_e_along : ckEn tx.nm e_along.en = true := by decide +kernel
theorem ck_e_across : ckEn tx.nm e_across.en = true := by decide +kernel
theorem ck_e_square : ckEn tx.nm e_square.en = true := by decide +kernel
theorem ck_e_common : ckEn tx.nm e_common.en = true := by decide +kernel
theorem ck_e_plain : ckEn tx.nm e_plain.en = true := by decide +kernel
theorem ck_e_order : ckEn tx.nm e_order.en = true := by decide +kernel
theorem ck_e_added : ckEn tx.nm e_added.en = true := by decide +kernel
theorem ck_e_times : ckEn tx.nm e_times.en = true := by decide +kernel
theorem ck_e_Line_ini : ckEn tx.nm e_Line_ini.en = true := by decide +kernel
theorem ck_e_Line_at : ckEn tx.nm e_Line_at.en = true := by decide +kernel
theorem ck_e_Line_whole_at : ckEn tx.nm e_Line_whole_at.en = true := by decide +kernel
theorem ck_e_Line_nearest_to : ckEn tx.nm e_Line_nearest_to.en = true := by decide +kernel
theorem ck_e_Line_nearest_on : ckEn tx.nm e_Line_nearest_on.en = true := by decide +kernel
theorem ck_e_Line_between_lines : ckEn tx.nm e_Line_between_lines.en = true := by decide +kernel
theorem ck_e_Line_meets_line : ckEn tx.nm e_Line_meets_line.en = true := by decide +kernel
theorem ck_e_Face_ini : ckEn tx.nm e_Face_ini.en = true := by decide +kernel
theorem ck_e_Face_side : ckEn tx.nm e_Face_side.en = true := by decide +kernel
theorem ck_e_Face_square_off : ckEn tx.nm e_Face_square_off.en = true := by decide +kernel
theorem ck_e_Face_foot : ckEn tx.nm e_Face_foot.en = true := by decide +kernel
theorem ck_e_Face_meets : ckEn tx.nm e_Face_meets.en = true := by decide +kernel
theorem ck_e_Face_mirrored_spot : ckEn tx.nm e_Face_mirrored_spot.en = true := by decide +kernel
theorem ck_e_Face_shared_way : ckEn tx.nm e_Face_shared_way.en = true := by decide +kernel
theorem ck_e_shortest : ckEn tx.nm e_shortest.en = true := by decide +kernel
theorem ck_e_face_of : ckEn tx.nm e_face_of.en = true := by decide +kernel
theorem ck_e_three_meet : ckEn tx.nm e_three_meet.en = true := by decide +kernel
theorem ck_e_first_of : ckEn tx.nm e_first_of.en = true := by decide +kernel
theorem ck_e_is_inside : ckEn tx.nm e_is_inside.en = true := by decide +kernel
theorem ck_e__law_dice : ckEn tx.nm e__law_dice.en = true := by decide +kernel
theorem ck_e__law_roll : ckEn tx.nm e__law_roll.en = true := by decide +kernel
theorem ck_e__law_rounds : ckEn tx.nm e__law_rounds.en = true := by decide +kernel
theorem ck_e__law_gcd : ckEn tx.nm e__law_gcd.en = true := by decide +kernel
theorem ck_e__law_plain_share : ckEn tx.nm e__law_plain_share.en = true := by decide +kernel
theorem ck_e__law_add : ckEn tx.nm e__law_add.en = true := by decide +kernel
theorem ck_e__law_mul : ckEn tx.nm e__law_mul.en = true := by decide +kernel
theorem ck_e__law_less : ckEn tx.nm e__law_less.en = true := by decide +kernel
theorem ck_e__law_dot : ckEn tx.nm e__law_dot.en = true := by decide +kernel
theorem ck_e__law_cross : ckEn tx.nm e__law_cross.en = true := by decide +kernel
theorem ck_e__law_from : ckEn tx.nm e__law_from.en = true := by decide +kernel
theorem ck_e__law_way : ckEn tx.nm e__law_way.en = true := by decide +kernel
theorem ck_e__law_at : ckEn tx.nm e__law_at.en = true := by decide +kernel
theorem ck_e__law_gap : ckEn tx.nm e__law_gap.en = true := by decide +kernel
theorem ck_e__law_sum : ckEn tx.nm e__law_sum.en = true := by decide +kernel
theorem ck_e__law_flat : ckEn tx.nm e__law_flat.en = true := by decide +kernel
theorem ck_e__law_some : ckEn tx.nm e__law_some.en = true := by decide +kernel
theorem ck_e__law_plain : ckEn tx.nm e__law_plain.en = true := by decide +kernel
theorem ck_e__law_rest : ckEn tx.nm e__law_rest.en = true := by decide +kernel
theorem ck_e_law : ckEn tx.nm e_law.en = true := by decide +kernel
theorem okb : tx.okB = true := by decide +kernel
theorem tx_ok : TxOk tx where
  b := okb
  ck := fun e he => by
    have he : e ∈ [e_plus, e_minus, e_stretched, e_along, e_across, e_square, e_common, e_plain, e_order, e_added, e_times, e_Line_ini, e_Line_at, e_Line_whole_at, e_Line_nearest_to, e_Line_nearest_on, e_Line_between_lines, e_Line_meets_line, e_Face_ini, e_Face_side, e_Face_square_off, e_Face_foot, e_Face_meets, e_Face_mirrored_spot, e_Face_shared_way, e_shortest, e_face_of, e_three_meet, e_first_of, e_is_inside, e__law_dice, e__law_roll, e__law_rounds, e__law_gcd, e__law_plain_share, e__law_add, e__law_mul, e__law_less, e__law_dot, e__law_cross, e__law_from, e__law_way, e__law_at, e__law_gap, e__law_sum, e__law_flat, e__law_some, e__law_plain, e__law_rest, e_law] := he
    simp only [List.mem_cons, List.not_mem_nil, or_false] at he
    rcases he with rfl | rfl | rfl | rfl | rfl | rfl | rfl | rfl | rfl | rfl | rfl | rfl | rfl | rfl | rfl | rfl | rfl | rfl | rfl | rfl | rfl | rfl | rfl | rfl | rfl | rfl | rfl | rfl | rfl | rfl | rfl | rfl | rfl | rfl | rfl | rfl | rfl | rfl | rfl | rfl | rfl | rfl | rfl | rfl | rfl | rfl | rfl | rfl | rfl | rfl
    · exact ck_e_plus
    · exact ck_e_minus
    · exact ck_e_stretched
    · exact ck_e_along
    · exact ck_e_across
    · exact ck_e_square
    · exact ck_e_common
    · exact ck_e_plain
    · exact ck_e_order
    · exact ck_e_added
    · exact ck_e_times
    · exact ck_e_Line_ini
    · exact ck_e_Line_at
    · exact ck_e_Line_whole_at
    · exact ck_e_Line_nearest_to
    · exact ck_e_Line_nearest_on
    · exact ck_e_Line_between_lines
    · exact ck_e_Line_meets_line
    · exact ck_e_Face_ini
    · exact ck_e_Face_side
    · exact ck_e_Face_square_off
    · exact ck_e_Face_foot
    · exact ck_e_Face_meets
    · exact ck_e_Face_mirrored_spot
    · exact ck_e_Face_shared_way
    · exact ck_e_shortest
    · exact ck_e_face_of
    · exact ck_e_three_meet
    · exact ck_e_first_of
    · exact ck_e_is_inside
    · exact ck_e__law_dice
    · exact ck_e__law_roll
    · exact ck_e__law_rounds
    · exact ck_e__law_gcd
    · exact ck_e__law_plain_share
    · exact ck_e__law_add
    · exact ck_e__law_mul
    · exact ck_e__law_less
    · exact ck_e__law_dot
    · exact ck_e__law_cross
    · exact ck_e__law_from
    · exact ck_e__law_way
    · exact ck_e__law_at
    · exact ck_e__law_gap
    · exact ck_e__law_sum
    · exact ck_e__law_flat
    · exact ck_e__law_some
    · exact ck_e__law_plain
    · exact ck_e__law_rest
    · exact ck_e_law
  bd := fun e he => by
    have he : e ∈ [e_plus, e_minus, e_stretched, e_along, e_across, e_square, e_common, e_plain, e_order, e_added, e_times, e_Line_ini, e_Line_at, e_Line_whole_at, e_Line_nearest_to, e_Line_nearest_on, e_Line_between_lines, e_Line_meets_line, e_Face_ini, e_Face_side, e_Face_square_off, e_Face_foot, e_Face_meets, e_Face_mirrored_spot, e_Face_shared_way, e_shortest, e_face_of, e_three_meet, e_first_of, e_is_inside, e__law_dice, e__law_roll, e__law_rounds, e__law_gcd, e__law_plain_share, e__law_add, e__law_mul, e__law_less, e__law_dot, e__law_cross, e__law_from, e__law_way, e__law_at, e__law_gap, e__law_sum, e__law_flat, e__law_some, e__law_plain, e__law_rest, e_law] := he
    simp only [List.mem_cons, List.not_mem_nil, or_false] at he
    rcases he with rfl | rfl | rfl | rfl | rfl | rfl | rfl | rfl | rfl | rfl | rfl | rfl | rfl | rfl | rfl | rfl | rfl | rfl | rfl | rfl | rfl | rfl | rfl | rfl | rfl | rfl | rfl | rfl | rfl | rfl | rfl | rfl | rfl | rfl | rfl | rfl | rfl | rfl | rfl | rfl | rfl | rfl | rfl | rfl | rfl | rfl | rfl | rfl | rfl | rfl
    · exact bd_e_plus
    · exact bd_e_minus
    · exact bd_e_stretched
    · exact bd_e_along
    · exact bd_e_across
    · exact bd_e_square
    · exact bd_e_common
    · exact bd_e_plain
    · exact bd_e_order
    · exact bd_e_added
    · exact bd_e_times
    · exact bd_e_Line_ini
    · exact bd_e_Line_at
    · exact bd_e_Line_whole_at
    · exact bd_e_Line_nearest_to
    · exact bd_e_Line_nearest_on
    · exact bd_e_Line_between_lines
    · exact bd_e_Line_meets_line
    · exact bd_e_Face_ini
    · exact bd_e_Face_side
    · exact bd_e_Face_square_off
    · exact bd_e_Face_foot
    · exact bd_e_Face_meets
    · exact bd_e_Face_mirrored_spot
    · exact bd_e_Face_shared_way
    · exact bd_e_shortest
    · exact bd_e_face_of
    · exact bd_e_three_meet
    · exact bd_e_first_of
    · exact bd_e_is_inside
    · exact bd_e__law_dice
    · exact bd_e__law_roll
    · exact bd_e__law_rounds
    · exact bd_e__law_gcd
    · exact bd_e__law_plain_share
    · exact bd_e__law_add
    · exact bd_e__law_mul
    · exact bd_e__law_less
    · exact bd_e__law_dot
    · exact bd_e__law_cross
    · exact bd_e__law_from
    · exact bd_e__law_way
    · exact bd_e__law_at
    · exact bd_e__law_gap
    · exact bd_e__law_sum
    · exact bd_e__law_flat
    · exact bd_e__law_some
    · exact bd_e__law_plain
    · exact bd_e__law_rest
    · exact bd_e_law
  bt := bt
  fs := rfl
  mt := fun cl n f h => by
    have h : mt cl n = some f := h
    unfold mt at h
    split at h <;> first | (cases h; decide) | cases h
  fl := fun cl n h => by
    have h : fl cl n = true := h
    unfold fl at h
    split at h <;> first | decide | cases h
  ct := fun C h => by
    have h : ct C = true := h
    unfold ct at h
    split at h <;> first | decide | cases h
end Q3
set_option Elab.async false
set_option linter.all false
set_option maxRecDepth 100000
set_option maxHeartbeats 0
/-! Q3H: the head. -/
namespace Q3
open PySem PySem.Spec PyProof.Rows L2
abbrev Rw : PySem.W.OpenRow := PySem.W.OpenLaw.row PySem.Challenge.rw_raystack_k03_rays_and_faces_without_an_e
abbrev hk : PySem.W.Hook := He.hookX 5 tx.fas tx.fns [] tx.tfs tx.exb
def ob (s : PySem.W.SharedT) : He.AlX := He.obsX 5 tx.fas tx.fns [] tx.tfs tx.exb (HandSHeadRun.getT s)
theorem ob_eq (s : PySem.W.SharedT) : ob s = hk.obs s.abs := He.obsX_eq (HandSHeadRun.getT_eq s)
def loose : List Str := ([("RayFault" : Str), ("WayError" : Str), ("LineError" : Str), ("ZERO" : Str), ("plus" : Str), ("minus" : Str), ("stretched" : Str), ("along" : Str), ("across" : Str), ("square" : Str), ("common" : Str), ("plain" : Str), ("order" : Str), ("added" : Str), ("times" : Str), ("Line" : Str), ("Face" : Str), ("shortest" : Str), ("face_of" : Str), ("three_meet" : Str), ("first_of" : Str), ("is_inside" : Str), ("_law_dice" : Str), ("_law_roll" : Str), ("_law_rounds" : Str), ("_law_told" : Str), ("_law_gcd" : Str), ("_law_plain_share" : Str), ("_law_add" : Str), ("_law_mul" : Str), ("_law_less" : Str), ("_law_dot" : Str), ("_law_cross" : Str), ("_law_from" : Str), ("_law_way" : Str), ("_law_at" : Str), ("_law_gap" : Str), ("_law_sum" : Str), ("_law_flat" : Str), ("_law_some" : Str), ("_law_plain" : Str), ("_law_rest" : Str)] : List Str)
theorem run (w : World) : HandSHeadRun.RunEq Rw (PySem.W.view Rw.prog [46]) hk ob 20000 loose w := by
  intro os
  kernel_rfl
end Q3
set_option Elab.async false
set_option linter.all false
set_option maxRecDepth 100000
set_option maxHeartbeats 0
/-! Q3Z: the end. -/
namespace Q3
open PySem PySem.Spec PyProof.Rows L2 PI
theorem fmem {f : He.Fa} (h : f ∈ tx.fmore) : f ∈ tx.fas := List.mem_append_right _ (List.mem_append_right _ (List.mem_append_right _ (List.mem_append_right _ (List.mem_append_right _ h))))
theorem lookup_mem {β : Type} {k : Nat} {x : β} : ∀ {l : List (Nat × β)}, l.lookup k = some x → (k, x) ∈ l
  | [], h => by cases h
  | (j, y) :: l, h => by
    rw [List.lookup_cons] at h
    split at h
    · rename_i e
      have e : k = j := by simpa using e
      cases h
      rw [e]; exact List.mem_cons_self
    · exact List.mem_cons_of_mem _ (lookup_mem h)
theorem gl_ok {w : World} {K : PySem.W.Frag} {mg : Str → Option Value} {h : Heap} (X : K.In h) (G : h.Ns mainGlobals mg) (s : He.SaysX tx.fas tx.fns [] tx.tfs tx.exb w h K) : ∀ g : Gx, g.K = K → g.mg = mg → ∀ k x d, tx.nm.gl k = some x → tx.p.gl k = some d → KRep g x d := by
  intro g eK em k x d h1 h2
  have h1 := lookup_mem (show List.lookup k [(0, ("ZERO" : Str))] = some x from h1)
  simp only [List.mem_cons, List.not_mem_nil, or_false, Prod.mk.injEq] at h1
  rcases h1 with ⟨rfl, rfl⟩
  · have h2 : some (D.tup [.int 0, .int 0, .int 0]) = some d := h2
    cases h2
    have cx := s.more
    unfold PI.Tx.exb at cx
    obtain ⟨_, cx⟩ := and2 cx
    have cx : more K = true := cx
    unfold more at cx
    obtain ⟨c0, _⟩ := and2 cx
    exact ⟨.ref (He.ga K "ZERO"), .ref (He.ga K "ZERO"), by rw [em]; exact He.glo_ok X G (s.t.d.facts (f := .glo "ZERO") (fmem (List.mem_of_getElem? (i := 0) rfl))), rfl, fun G' => ⟨_, _, rfl, by rw [eK]; exact He.tupB_ok c0 G'.h, reps_ints [0, 0, 0]⟩⟩
theorem law_holds : ∀ ns : List Int, PI.Scr ns → ∃ M, PI.run tx.p 231 e_law.num [.seq (ns.map D.int)] [] = .ok (.bl true) M := fun ns h => law_all ns h.2
end Q3
open PySem PySem.W PySem.Calls PyProof.Rows
theorem PySem.Challenge.cw_raystack_k03_rays_and_faces_without_an_e_holds : PySem.Challenge.rw_raystack_k03_rays_and_faces_without_an_e.Holds := by
  w_on; o_law
  refine HandSHeadRun.head_any (r := OpenLaw.row PySem.Challenge.rw_raystack_k03_rays_and_faces_without_an_e) (q := view (OpenLaw.row PySem.Challenge.rw_raystack_k03_rays_and_faces_without_an_e).prog [46]) (H := Q3.hk) (ob := Q3.ob) (M := 20000) (loose := Q3.loose) (d := HandSHeadRun.topDef (OpenLaw.row PySem.Challenge.rw_raystack_k03_rays_and_faces_without_an_e).prog 46) (kwd := []) Q3.ob_eq
    (by kernel_rfl) (fun s => by kernel_rfl) Q3.run (by kernel_rfl) (by kernel_rfl) (by kernel_rfl) (by rfl) (by first | assumption | decide +kernel) (by decide +kernel) ⟨rfl, rfl, rfl, rfl, rfl, by decide +kernel⟩ ?hw ?hc
  case hw => w_witness2
  case hc =>
    refine LamX.walk_ofTsE (l := PySem.Challenge.rw_raystack_k03_rays_and_faces_without_an_e) (n := 63) (k := 231) (x := "script") (CX := fun w => L2.CX (PySem.Challenge.rw_raystack_k03_rays_and_faces_without_an_e).prog w) rfl (by decide) (by kernel_rfl) ⟨rfl, by decide, by decide⟩ ?F (fun w H s e s' z => by
      obtain ⟨_, _, _, _, _, _, _, _, _, _, _, _, z⟩ := z
      exact z.elim)
    intro w mg fa h Y G hmg0
    obtain ⟨K, KX, c⟩ := Y
    have hmg : mg ("law" : PySem.Str) = some (.ref fa) := by
      have e : (HandSHeadRun.topDef (OpenLaw.row PySem.Challenge.rw_raystack_k03_rays_and_faces_without_an_e).prog 46).name = ("law" : PySem.Str) := by kernel_rfl
      rw [← e]
      exact hmg0
    exact ⟨K, KX, PI.law_at (t := Q3.tx) (e := Q3.e_law) Q3.tx_ok (by simp [Q3.tx]) rfl rfl rfl Q3.law_holds KX G hmg c (Q3.gl_ok KX G c)⟩
