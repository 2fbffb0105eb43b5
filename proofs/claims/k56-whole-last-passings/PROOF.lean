import PyProof.Rows.All
import Wide.All
import OpenK.AllK
import Wide.FinOn
import KE.KStateDown
import Lean
import HandS.Base
import HandS.Call
import HandS.Ends
import HandS.More
import HandS.Words
import HandS.WordsExc
import HandS.Defaults
import HandS.ForMost
import HandS.Flow
import HandS.Style
import HandS.TupMul
import HandS.TupAny
import HandS.Conv
import HandS.IsInst
import HandS.Zip
import KE.GoesEnum
import HandS.Head0
import HandS.Head1
import HandS.Head2
import HandS.HeadEnd
import HandS.HeadHook1
import HandS.HeadHook2
import PySem.Challenge.RW_manrods_k56_whole_last_passings_of_level
set_option Elab.async false
set_option linter.all false
set_option maxRecDepth 100000
set_option maxHeartbeats 4000000
/-! Data trees in an immutable view of the heap; slots of an abstract environment; weakest preconditions over it. -/
namespace Mn
open PySem L2

inductive Dat where
  | non
  | bl (b : Bool)
  | int (i : Int)
  | tup (ds : List Dat)
  | lst (ds : List Dat)

mutual
inductive At (B : Hp) : V → Dat → Prop
  | non : At B .non .non
  | bl (b : Bool) : At B (.bl b) (.bl b)
  | int (i : Int) : At B (.int i) (.int i)
  | tup {a : Addr} {xs : List V} {ds : List Dat} : B a = some (.tup xs) → Ats B xs ds → At B (.ref a) (.tup ds)
  | lst {a : Addr} {xs : List V} {ds : List Dat} : B a = some (.lst xs) → Ats B xs ds → At B (.ref a) (.lst ds)
inductive Ats (B : Hp) : List V → List Dat → Prop
  | nil : Ats B [] []
  | cons {x : V} {xs : List V} {d : Dat} {ds : List Dat} : At B x d → Ats B xs ds → Ats B (x :: xs) (d :: ds)
end

mutual
theorem At.mono {B B' : Hp} (e : Same B B') : ∀ {v : V} {d : Dat}, At B v d → At B' v d
  | _, _, .non => .non
  | _, _, .bl b => .bl b
  | _, _, .int i => .int i
  | _, _, .tup h k => .tup (e _ _ h) (Ats.mono e k)
  | _, _, .lst h k => .lst (e _ _ h) (Ats.mono e k)
theorem Ats.mono {B B' : Hp} (e : Same B B') : ∀ {vs : List V} {ds : List Dat}, Ats B vs ds → Ats B' vs ds
  | _, _, .nil => .nil
  | _, _, .cons h k => .cons (At.mono e h) (Ats.mono e k)
end

section
variable {B : Hp}
theorem Ats.len : ∀ {vs : List V} {ds : List Dat}, Ats B vs ds → vs.length = ds.length
  | _, _, .nil => rfl
  | _, _, .cons _ k => congrArg (· + 1) (Ats.len k)
theorem Ats.get : ∀ {vs : List V} {ds : List Dat} {i : Nat} {d : Dat}, Ats B vs ds → ds[i]? = some d → ∃ v, vs[i]? = some v ∧ At B v d
  | _, _, _, _, .nil, e => by simp at e
  | _, _, 0, _, .cons h _, e => by
    simp at e
    subst e
    exact ⟨_, rfl, h⟩
  | _, _, i + 1, d, .cons _ k, e => by
    obtain ⟨v, h1, h2⟩ := Ats.get (i := i) (d := d) k (by simpa using e)
    exact ⟨v, by simpa using h1, h2⟩
theorem Ats.getV : ∀ {vs : List V} {ds : List Dat} {i : Nat} {v : V}, Ats B vs ds → vs[i]? = some v → ∃ d, ds[i]? = some d ∧ At B v d
  | _, _, _, _, .nil, e => by simp at e
  | _, _, 0, _, .cons h _, e => by
    simp at e
    subst e
    exact ⟨_, rfl, h⟩
  | _, _, i + 1, v, .cons _ k, e => by
    obtain ⟨d, h1, h2⟩ := Ats.getV (i := i) (v := v) k (by simpa using e)
    exact ⟨d, by simpa using h1, h2⟩
theorem Ats.append : ∀ {vs ws : List V} {ds es : List Dat}, Ats B vs ds → Ats B ws es → Ats B (vs ++ ws) (ds ++ es)
  | _, _, _, _, .nil, k => k
  | _, _, _, _, .cons h k, k' => .cons h (Ats.append k k')
theorem Ats.set {x : V} {d : Dat} (h : At B x d) : ∀ {vs : List V} {ds : List Dat} (i : Nat), Ats B vs ds → Ats B (vs.set i x) (ds.set i d)
  | _, _, _, .nil => .nil
  | _, _, 0, .cons _ k => .cons h k
  | _, _, i + 1, .cons q k => .cons q (Ats.set h i k)
theorem Ats.take : ∀ {vs : List V} {ds : List Dat} (n : Nat), Ats B vs ds → Ats B (vs.take n) (ds.take n)
  | _, _, 0, _ => .nil
  | _, _, _ + 1, .nil => .nil
  | _, _, n + 1, .cons h k => .cons h (Ats.take n k)
theorem Ats.drop : ∀ {vs : List V} {ds : List Dat} (n : Nat), Ats B vs ds → Ats B (vs.drop n) (ds.drop n)
  | _, _, 0, k => k
  | _, _, _ + 1, .nil => .nil
  | _, _, n + 1, .cons _ k => Ats.drop n k
theorem Ats.ints : ∀ (ns : List Int), Ats B (ns.map V.int) (ns.map Dat.int)
  | [] => .nil
  | n :: ns => .cons (.int n) (Ats.ints ns)
theorem Ats.ints_inv : ∀ {ns : List Int} {vs : List V}, Ats B vs (ns.map Dat.int) → vs = ns.map V.int
  | [], _, h => by
    cases h
    rfl
  | n :: ns, _, h => by
    cases h with
    | cons h k =>
      cases h
      rw [Ats.ints_inv k]
      rfl
theorem Ats.bls_inv : ∀ {bs : List Bool} {vs : List V}, Ats B vs (bs.map Dat.bl) → vs = bs.map V.bl
  | [], _, h => by
    cases h
    rfl
  | n :: ns, _, h => by
    cases h with
    | cons h k =>
      cases h
      rw [Ats.bls_inv k]
      rfl
theorem Ats.rep {vs : List V} {ds : List Dat} (h : Ats B vs ds) : ∀ n : Nat, Ats B (List.replicate n vs).flatten (List.replicate n ds).flatten
  | 0 => .nil
  | n + 1 => by
    rw [List.replicate_succ, List.replicate_succ, List.flatten_cons, List.flatten_cons]
    exact h.append (Ats.rep h n)
theorem Ats.atI {vs : List V} {ds : List Dat} {i : Int} {d : Dat} (h : Ats B vs ds) (e : L2.atI ds i = some d) : ∃ v, L2.atI vs i = some v ∧ At B v d := by
  unfold L2.atI at e ⊢
  rw [h.len]
  cases q : ixN ds.length i with
  | none =>
    rw [q] at e
    cases e
  | some j =>
    rw [q] at e
    exact h.get e
end

/-- from a view B of the heap H to a view B' of H': all that stood stands, what was not in the view is not in it -/
structure Step (B H B' H' : Hp) : Prop where
  eH : Same H H'
  eB : Same B B'
  sub : Same B' H'
  new : ∀ a, B a = none → H a ≠ none → B' a = none
theorem Step.refl {B H : Hp} (h : Same B H) : Step B H B H := ⟨Same.refl H, Same.refl B, h, fun _ e _ => e⟩
theorem Same.ne {H H' : Hp} (e : Same H H') {a : Addr} (h : H a ≠ none) : H' a ≠ none := by
  cases q : H a with
  | none => exact absurd q h
  | some o =>
    rw [e a o q]
    exact fun z => nomatch z
theorem Step.trans {B H B1 H1 B2 H2 : Hp} (a : Step B H B1 H1) (b : Step B1 H1 B2 H2) : Step B H B2 H2 :=
  ⟨a.eH.trans b.eH, a.eB.trans b.eB, b.sub, fun x h1 h2 => b.new x (a.new x h1 h2) (Same.ne a.eH h2)⟩
theorem same_new {H : Hp} {p : Addr} {o : HO} (h : H p = none) : Same H (upd H p o) := fun b u q => by
  rw [upd_ne (ne_of_none q h)]
  exact q
theorem same_mut {H H' : Hp} {p : Addr} {o : HO} (e : Same H H') (h : H p = none) : Same H (upd H' p o) := fun b u q => by
  rw [upd_ne (ne_of_none q h)]
  exact e b u q
theorem same_upd {H H' : Hp} {p : Addr} {o : HO} (e : Same H H') : Same (upd H p o) (upd H' p o) := fun b u q => by
  by_cases hb : b = p
  · subst hb
    rw [upd_same] at q ⊢
    exact q
  · rw [upd_ne hb] at q ⊢
    exact e b u q
theorem view_none {B H : Hp} (h : Same B H) {p : Addr} (e : H p = none) : B p = none := Same.free h e
/-- a new object that goes into the view -/
theorem Step.laid {B H : Hp} (h : Same B H) {p : Addr} {o : HO} (e : H p = none) : Step B H (upd B p o) (upd H p o) :=
  ⟨same_new e, same_new (view_none h e), same_upd h, fun a h1 h2 => by
    have : a ≠ p := fun z => h2 (z ▸ e)
    rw [upd_ne this]
    exact h1⟩
/-- a new object that stays out of the view -/
theorem Step.aside {B H : Hp} (h : Same B H) {p : Addr} {o : HO} (e : H p = none) : Step B H B (upd H p o) :=
  ⟨same_new e, Same.refl B, same_mut h (view_none h e), fun a h1 _ => h1⟩

/-! ### the abstract environment -/
inductive Sd where
  | un
  | dat (d : Dat)
  | own (p : Addr) (ds : List Dat)
abbrev Env := List Sd
def IsMut (G : Env) (a : Addr) : Prop := ∃ (i : Nat) (ds : List Dat), G[i]? = some (.own a ds)
def SlotOk (H0 B H : Hp) (o : Option (Option V)) : Sd → Prop
  | .un => True
  | .dat d => ∃ v, o = some (some v) ∧ At B v d
  | .own p ds => o = some (some (.ref p)) ∧ H0 p = none ∧ B p = none ∧ ∃ xs, H p = some (.lst xs) ∧ Ats B xs ds
structure Sta (B0 H0 B H : Hp) (σ : L2.St) (G : Env) : Prop where
  st : Step B0 H0 B H
  len : σ.length = G.length
  ok : ∀ (i : Nat) s, G[i]? = some s → SlotOk H0 B H σ[i]? s
  inj : ∀ (i j : Nat) p ds es, G[i]? = some (.own p ds) → G[j]? = some (.own p es) → i = j
def SameM (G G' : Env) : Prop := ∀ (i : Nat) p, (∃ ds, G[i]? = some (.own p ds)) ↔ ∃ ds, G'[i]? = some (.own p ds)
theorem SameM.refl (G : Env) : SameM G G := fun _ _ => Iff.rfl
theorem SameM.trans {G G1 G2 : Env} (a : SameM G G1) (b : SameM G1 G2) : SameM G G2 := fun i p => (a i p).trans (b i p)
theorem SameM.is {G G' : Env} (a : SameM G G') (x : Addr) : IsMut G x ↔ IsMut G' x :=
  ⟨fun ⟨i, ds, e⟩ => let ⟨es, q⟩ := (a i x).mp ⟨ds, e⟩; ⟨i, es, q⟩, fun ⟨i, ds, e⟩ => let ⟨es, q⟩ := (a i x).mpr ⟨ds, e⟩; ⟨i, es, q⟩⟩
structure Nxt (B0 H0 : Hp) (σ : L2.St) (G : Env) (B H : Hp) (G' : Env) (B' H' : Hp) : Prop where
  sta : Sta B0 H0 B' H' σ G'
  eB : Same B B'
  keep : ∀ a o, H a = some o → ¬ IsMut G a → H' a = some o
  new : ∀ a, B a = none → H a ≠ none → B' a = none
  muts : SameM G G'
section
variable {B0 H0 B H B1 H1 B2 H2 : Hp} {σ : L2.St} {G G1 G2 : Env}
theorem Sta.mutAt (S : Sta B0 H0 B H σ G) {a : Addr} (m : IsMut G a) : H0 a = none ∧ B a = none ∧ ∃ xs, H a = some (.lst xs) := by
  obtain ⟨i, ds, e⟩ := m
  obtain ⟨_, h1, h2, xs, h3, _⟩ := S.ok i _ e
  exact ⟨h1, h2, xs, h3⟩
theorem Sta.step (S : Sta B0 H0 B H σ G) (t : Step B H B1 H1) : Sta B0 H0 B1 H1 σ G := by
  refine ⟨S.st.trans t, S.len, fun i s e => ?_, S.inj⟩
  have q := S.ok i s e
  cases s with
  | un => trivial
  | dat d =>
    obtain ⟨v, h1, h2⟩ := q
    exact ⟨v, h1, h2.mono t.eB⟩
  | own p ds =>
    obtain ⟨h1, h2, h3, xs, h4, h5⟩ := q
    exact ⟨h1, h2, t.new p h3 (by rw [h4]; exact fun z => nomatch z), xs, t.eH _ _ h4, h5.mono t.eB⟩
theorem Nxt.of_step (S : Sta B0 H0 B H σ G) (t : Step B H B1 H1) : Nxt B0 H0 σ G B H G B1 H1 :=
  ⟨S.step t, t.eB, fun a o e _ => t.eH a o e, t.new, SameM.refl G⟩
theorem Nxt.refl (S : Sta B0 H0 B H σ G) : Nxt B0 H0 σ G B H G B H := Nxt.of_step S (Step.refl S.st.sub)
theorem Nxt.some (S : Sta B0 H0 B H σ G) (n : Nxt B0 H0 σ G B H G1 B1 H1) {a : Addr} (h : H a ≠ none) : H1 a ≠ none := by
  by_cases m : IsMut G a
  · obtain ⟨_, _, xs, e⟩ := n.sta.mutAt ((n.muts.is a).mp m)
    rw [e]
    exact fun z => nomatch z
  · cases q : H a with
    | none => exact absurd q h
    | some o =>
      rw [n.keep a o q m]
      exact fun z => nomatch z
theorem Nxt.fresh (S : Sta B0 H0 B H σ G) (n : Nxt B0 H0 σ G B H G1 B1 H1) {a : Addr} (h : H1 a = none) : H a = none := by
  cases q : H a with
  | none => rfl
  | some o => exact absurd h (n.some S (by rw [q]; exact fun z => nomatch z))
theorem Nxt.trans (S : Sta B0 H0 B H σ G) (a : Nxt B0 H0 σ G B H G1 B1 H1) (b : Nxt B0 H0 σ G1 B1 H1 G2 B2 H2) : Nxt B0 H0 σ G B H G2 B2 H2 :=
  ⟨b.sta, a.eB.trans b.eB, fun x o e m => b.keep x o (a.keep x o e m) fun z => m ((a.muts.is x).mpr z), fun x h1 h2 => b.new x (a.new x h1 h2) (a.some S h2), a.muts.trans b.muts⟩
end

/-- what an expression gives: a datum; a slot's mutable list; a new list, nobody else's; a built-in type -/
inductive Vd where
  | d (x : Dat)
  | m (p : Addr)
  | n (p : Addr) (ds : List Dat)
  | t (s : String)
def AtV (H0 B H : Hp) (G : Env) (v : V) : Vd → Prop
  | .d x => At B v x
  | .m p => v = .ref p
  | .n p ds => v = .ref p ∧ H0 p = none ∧ B p = none ∧ ¬ IsMut G p ∧ ∃ xs, H p = some (.lst xs) ∧ Ats B xs ds
  | .t s => v = .ty s
def NewV (H : Hp) : Vd → Prop
  | .n p _ => H p = none
  | _ => True
inductive AtVs (H0 B H : Hp) (G : Env) : List V → List Vd → Prop
  | nil : AtVs H0 B H G [] []
  | cons {v : V} {vs : List V} {x : Vd} {xs : List Vd} : AtV H0 B H G v x → AtVs H0 B H G vs xs → (∀ p ds es, x = .n p ds → Vd.n p es ∉ xs) → AtVs H0 B H G (v :: vs) (x :: xs)
section
variable {B0 H0 B H B1 H1 : Hp} {σ : L2.St} {G G1 : Env}
theorem AtV.nxt {v : V} {x : Vd} (n : Nxt B0 H0 σ G B H G1 B1 H1) (h : AtV H0 B H G v x) : AtV H0 B1 H1 G1 v x := by
  cases x with
  | d x => exact At.mono n.eB h
  | m p => exact h
  | t s => exact h
  | n p ds =>
    obtain ⟨h1, h2, h3, h4, xs, h5, h6⟩ := h
    exact ⟨h1, h2, n.new p h3 (by rw [h5]; exact fun z => nomatch z), fun z => h4 ((n.muts.is p).mpr z), xs, n.keep _ _ h5 h4, h6.mono n.eB⟩
theorem NewV.nxt {x : Vd} (S : Sta B0 H0 B H σ G) (n : Nxt B0 H0 σ G B H G1 B1 H1) (h : NewV H1 x) : NewV H x := by
  cases x with
  | n p ds => exact n.fresh S h
  | _ => trivial
end

/-! ### weakest preconditions over the environment -/
def EvW (te : TE) (G : Env) (K : Vd → Env → Prop) : Prop := ∀ (B0 H0 B H : Hp) (σ : L2.St), Sta B0 H0 B H σ G → ∀ Q : VK,
  (∀ v x G' B' H', K x G' → Nxt B0 H0 σ G B H G' B' H' → AtV H0 B' H' G' v x → NewV H x → Q v H') → te σ H Q
def TtW (tt : TT) (G : Env) (K : Bool → Env → Prop) : Prop := ∀ (B0 H0 B H : Hp) (σ : L2.St), Sta B0 H0 B H σ G → ∀ Q : Bool → Hp → Prop,
  (∀ b G' B' H', K b G' → Nxt B0 H0 σ G B H G' B' H' → Q b H') → tt σ H Q
def AvW (ta : TA) (G : Env) (K : List Vd → Env → Prop) : Prop := ∀ (B0 H0 B H : Hp) (σ : L2.St), Sta B0 H0 B H σ G → ∀ Q : List V → Hp → Prop,
  (∀ vs xs G' B' H', K xs G' → Nxt B0 H0 σ G B H G' B' H' → AtVs H0 B' H' G' vs xs → (∀ x ∈ xs, NewV H x) → Q vs H') → ta σ H Q
structure Post where
  nx : Env → Prop
  rt : Dat → Env → Prop
  bk : Env → Prop := fun _ => False
  ct : Env → Prop := fun _ => False
structure Wnt (B0 H0 B : Hp) (P : Post) (D : Ends) : Prop where
  nx : ∀ G' B' H' σ', P.nx G' → Sta B0 H0 B' H' σ' G' → Same B B' → D.nx σ' H'
  rt : ∀ d v G' B' H' σ', P.rt d G' → Sta B0 H0 B' H' σ' G' → At B' v d → D.rt v H'
  bk : ∀ G' B' H' σ', P.bk G' → Sta B0 H0 B' H' σ' G' → Same B B' → D.bk σ' H'
  ct : ∀ G' B' H' σ', P.ct G' → Sta B0 H0 B' H' σ' G' → Same B B' → D.ct σ' H'
def Tr (ts : TS) (G : Env) (P : Post) : Prop := ∀ (B0 H0 B H : Hp) (σ : L2.St), Sta B0 H0 B H σ G → ∀ D : Ends, Wnt B0 H0 B P D → ts D σ H
theorem Wnt.later {B0 H0 B B' : Hp} {P : Post} {D : Ends} (w : Wnt B0 H0 B P D) (e : Same B B') : Wnt B0 H0 B' P D :=
  ⟨fun G' C H' σ' h S q => w.nx G' C H' σ' h S (e.trans q), w.rt, fun G' C H' σ' h S q => w.bk G' C H' σ' h S (e.trans q), fun G' C H' σ' h S q => w.ct G' C H' σ' h S (e.trans q)⟩

/-! ### expressions -/
section
variable {G : Env} {K : Vd → Env → Prop} {KB : Bool → Env → Prop} {KA : List Vd → Env → Prop} {ta tb te : TE} {tt tu : TT} {tas : TA}
theorem EvW.mono {K' : Vd → Env → Prop} (h : EvW te G K) (k : ∀ x G', K x G' → K' x G') : EvW te G K' := fun B0 H0 B H σ S Q q => h B0 H0 B H σ S Q fun v x G' B' H' a => q v x G' B' H' (k x G' a)
theorem ev_var {i : Nat} {x : Dat} (e : G[i]? = some (.dat x)) (k : K (.d x) G) : EvW (tVar i) G K := fun B0 H0 B H σ S Q q => by
  obtain ⟨v, h1, h2⟩ := S.ok i _ e
  exact ⟨v, h1, q v _ G B H k (Nxt.refl S) h2 trivial⟩
theorem ev_varM {i : Nat} {p : Addr} {ds : List Dat} (e : G[i]? = some (.own p ds)) (k : K (.m p) G) : EvW (tVar i) G K := fun B0 H0 B H σ S Q q => by
  obtain ⟨h1, _⟩ := S.ok i _ e
  exact ⟨_, h1, q _ _ G B H k (Nxt.refl S) rfl trivial⟩
theorem ev_int {i : Int} (k : K (.d (.int i)) G) : EvW (tC (.int i)) G K := fun B0 H0 B H σ S Q q => q _ _ G B H k (Nxt.refl S) (At.int i) trivial
theorem ev_bl {b : Bool} (k : K (.d (.bl b)) G) : EvW (tC (.bl b)) G K := fun B0 H0 B H σ S Q q => q _ _ G B H k (Nxt.refl S) (At.bl b) trivial
theorem ev_non (k : K (.d .non) G) : EvW (tC .non) G K := fun B0 H0 B H σ S Q q => q _ _ G B H k (Nxt.refl S) At.non trivial
theorem ev_ty {s : String} (k : K (.t s) G) : EvW (tC (.ty s)) G K := fun B0 H0 B H σ S Q q => q _ _ G B H k (Nxt.refl S) rfl trivial

/-- two values in a row -/
theorem ev_two {R : V → V → Hp → Prop} {B0 H0 B H : Hp} {σ : L2.St} (S : Sta B0 H0 B H σ G) {K2 : Vd → Vd → Env → Prop} (h : EvW ta G fun a G1 => EvW tb G1 fun b G2 => K2 a b G2)
    (q : ∀ v w a b G' B' H', K2 a b G' → Nxt B0 H0 σ G B H G' B' H' → AtV H0 B' H' G' v a → AtV H0 B' H' G' w b → R v w H') : ta σ H fun x H1 => tb σ H1 fun y H2 => R x y H2 :=
  h B0 H0 B H σ S _ fun v a G1 B1 H1 k1 n1 a1 _ => k1 B0 H0 B1 H1 σ n1.sta _ fun w b G2 B2 H2 k2 n2 a2 _ => q v w a b G2 B2 H2 k2 (n1.trans S n2) (a1.nxt n2) a2
/-- an operation on two values that makes nothing -/
theorem ev_val {r : R2} (h : EvW ta G fun a G1 => EvW tb G1 fun b G2 => ∃ z, (∀ B0 H0 B H σ, Sta B0 H0 B H σ G2 → ∀ v w, AtV H0 B H G2 v a → AtV H0 B H G2 w b → ∃ y, At B y z ∧ ∀ Q : VK, Q y H → r v w H Q) ∧ K (.d z) G2) : EvW (tOp r ta tb) G K :=
  fun B0 H0 B H σ S Q q => ev_two S h fun v w a b G' B' H' ⟨z, hz, k⟩ n av aw => by
    obtain ⟨y, hy, hq⟩ := hz B0 H0 B' H' σ n.sta v w av aw
    exact hq Q (q y _ G' B' H' k n hy trivial)
theorem AtV.int {H0 B H : Hp} {i : Int} {v : V} (h : AtV H0 B H G v (.d (.int i))) : v = .int i := by
  cases (show At B v (.int i) from h)
  rfl
theorem AtV.bl {H0 B H : Hp} {i : Bool} {v : V} (h : AtV H0 B H G v (.d (.bl i))) : v = .bl i := by
  cases (show At B v (.bl i) from h)
  rfl
theorem AtV.non {H0 B H : Hp} {v : V} (h : AtV H0 B H G v (.d .non)) : v = .non := by
  cases (show At B v .non from h)
  rfl
/-- two ints -/
theorem ev_I {C : Int → Int → Prop} {g : Int → Int → V} (h : EvW ta G fun a G1 => EvW tb G1 fun b G2 => ∃ i j z, a = .d (.int i) ∧ b = .d (.int j) ∧ C i j ∧ (∀ B, At B (g i j) z) ∧ K (.d z) G2) : EvW (tOp (rI C g) ta tb) G K :=
  ev_val (h.mono fun a G1 h1 => h1.mono fun b G2 ⟨i, j, z, ea, eb, c, hz, k⟩ => ⟨z, fun B0 H0 B H σ S v w av aw => by
    subst ea eb
    exact ⟨_, hz B, fun Q q => ⟨i, j, av.int, aw.int, c, q⟩⟩, k⟩)
theorem ev_I0 {g : Int → Int → V} (h : EvW ta G fun a G1 => EvW tb G1 fun b G2 => ∃ i j z, a = .d (.int i) ∧ b = .d (.int j) ∧ (∀ B, At B (g i j) z) ∧ K (.d z) G2) : EvW (tOp (rI0 g) ta tb) G K :=
  ev_val (h.mono fun a G1 h1 => h1.mono fun b G2 ⟨i, j, z, ea, eb, hz, k⟩ => ⟨z, fun B0 H0 B H σ S v w av aw => by
    subst ea eb
    exact ⟨_, hz B, fun Q q => ⟨i, j, av.int, aw.int, q⟩⟩, k⟩)
end
end Mn
namespace Mn
open PySem L2

/-! ### operators, each with all the kinds that the text uses -/
abbrev rAddI : R2 := rI0 fun i j => .int (i + j)
abbrev rSubI : R2 := rI0 fun i j => .int (i - j)
abbrev rMulI : R2 := rI CMul fun i j => .int (i * j)
abbrev rDivI : R2 := rI CDiv fun i j => .int (i / j)
abbrev rModI : R2 := rI (fun _ j => 0 < j) fun i j => .int (i % j)
abbrev rPowI : R2 := rI CPow fun i j => .int (i ^ j.toNat)
abbrev rLtI : R2 := rI0 fun i j => .bl (decide (i < j))
abbrev rLeI : R2 := rI0 fun i j => .bl (decide (i ≤ j))
abbrev rGtI : R2 := rI0 fun i j => .bl (decide (j < i))
abbrev rGeI : R2 := rI0 fun i j => .bl (decide (j ≤ i))
abbrev rIsNo : R2 := fun x y H Q => y = .non ∧ Q (.bl (decide (x = .non))) H
abbrev rNotNo : R2 := fun x y H Q => y = .non ∧ Q (.bl (!decide (x = .non))) H
def rAddX (K : PySem.W.Frag) : R2 := fun x y H Q => rAddI x y H Q ∨ (rCat x y H Q ∨ rCatT K x y H Q)
def rMulX (K : PySem.W.Frag) : R2 := fun x y H Q => rMulI x y H Q ∨ (rRep x y H Q ∨ rRepT K x y H Q)
def rEqX (K : PySem.W.Frag) : R2 := fun x y H Q => rEq x y H Q ∨ rEqD K x y H Q
def rNeX (K : PySem.W.Frag) : R2 := fun x y H Q => rNe x y H Q ∨ rNeD K x y H Q
section
variable {X : Cx}
theorem op_addX : OpR X (binaryOp .Add) (rAddX X.K) := op_add.or (op_cat.or op_catT)
theorem op_mulX : OpR X (binaryOp .Mult) (rMulX X.K) := op_mul.or (op_rep.or op_repT)
theorem op_eqX (hu : X.A.units + 64 < cLine) : OpR X (compareOp .Eq) (rEqX X.K) := op_eq.or (op_eqD hu)
theorem op_neX (hu : X.A.units + 64 < cLine) : OpR X (compareOp .NotEq) (rNeX X.K) := op_ne.or (op_neD hu)
end

/-! ### what is read as a sequence -/
def RdL (G : Env) (x : Vd) (ds : List Dat) : Prop := x = .d (.lst ds) ∨ (∃ (p : Addr) (i : Nat), x = .m p ∧ G[i]? = some (.own p ds)) ∨ ∃ p, x = .n p ds
def RdW (G : Env) (x : Vd) (ds : List Dat) : Prop := x = .d (.tup ds) ∨ RdL G x ds
section
variable {B0 H0 B H : Hp} {σ : L2.St} {G : Env} {K : PySem.W.Frag}
theorem RdL.seq (S : Sta B0 H0 B H σ G) {v : V} {x : Vd} {ds : List Dat} (r : RdL G x ds) (h : AtV H0 B H G v x) : ∃ p xs, v = .ref p ∧ H p = some (.lst xs) ∧ Ats B xs ds := by
  rcases r with rfl | ⟨p, i, rfl, e⟩ | ⟨p, rfl⟩
  · cases (show At B v (.lst ds) from h) with
    | lst h1 h2 => exact ⟨_, _, rfl, S.st.sub _ _ h1, h2⟩
  · obtain ⟨_, _, _, xs, h1, h2⟩ := S.ok i _ e
    exact ⟨p, xs, h, h1, h2⟩
  · obtain ⟨h1, _, _, _, xs, h2, h3⟩ := h
    exact ⟨p, xs, h1, h2, h3⟩
theorem RdW.seq (S : Sta B0 H0 B H σ G) {v : V} {x : Vd} {ds : List Dat} (r : RdW G x ds) (h : AtV H0 B H G v x) : ∃ p xs, v = .ref p ∧ (SqL K H p xs ∨ SqT K H p xs) ∧ Ats B xs ds := by
  rcases r with rfl | r
  · cases (show At B v (.tup ds) from h) with
    | tup h1 h2 => exact ⟨_, _, rfl, .inr (SqT.of (S.st.sub _ _ h1)), h2⟩
  · obtain ⟨p, xs, e, h1, h2⟩ := r.seq S h
    exact ⟨p, xs, e, .inl (SqL.of h1), h2⟩
end
theorem At.lst_inv {B : Hp} {v : V} {ds : List Dat} (h : At B v (.lst ds)) : ∃ p xs, v = .ref p ∧ B p = some (.lst xs) ∧ Ats B xs ds := by
  cases h with
  | lst h1 h2 => exact ⟨_, _, rfl, h1, h2⟩
theorem At.tup_inv {B : Hp} {v : V} {ds : List Dat} (h : At B v (.tup ds)) : ∃ p xs, v = .ref p ∧ B p = some (.tup xs) ∧ Ats B xs ds := by
  cases h with
  | tup h1 h2 => exact ⟨_, _, rfl, h1, h2⟩
def isNon : Dat → Bool
  | .non => true
  | _ => false
theorem At.isNon {B : Hp} {v : V} {d : Dat} (h : At B v d) : decide (v = .non) = isNon d := by
  cases h <;> simp [Mn.isNon]

/-! ### data as the library's -/
theorem dp_ints {K : PySem.W.Frag} {H : Hp} : ∀ ns : List Int, DpAll K H (ns.map V.int) (ns.map PyData.int)
  | [] => .nil
  | n :: ns => .cons (.int n) (dp_ints ns)
theorem lay_ints : ∀ ns : List Int, PyData.canLayAll0 (ns.map PyData.int) = true
  | [] => by simp [PyData.canLayAll0]
  | n :: ns => by simp [PyData.canLayAll0, PyData.canLay0, lay_ints ns]
theorem dep_ints : ∀ ns : List Int, PyData.depthAll (ns.map PyData.int) = 0
  | [] => by simp [PyData.depthAll]
  | n :: ns => by simp [PyData.depthAll, PyData.depth, dep_ints ns]
theorem shaped_ints (ns : List Int) : SeqAt.shaped (.list (ns.map PyData.int)) = true := by
  unfold SeqAt.shaped
  simp [PyData.canLay0, PyData.depth, lay_ints, dep_ints]
theorem eqv_nil (ns : List Int) : PyData.eqv (.list (ns.map PyData.int)) (.list []) = ns.isEmpty := by
  cases ns <;> simp [PyData.eqv, PyData.eqvAll]


section
variable {G : Env} {K : Vd → Env → Prop} {KB : Bool → Env → Prop} {KA : List Vd → Env → Prop} {ta tb te : TE} {tt tu : TT} {tas : TA} {Kf : PySem.W.Frag}
/-! ### two-place operators -/
/-- the operation on these values gives the datum z -/
def Op2 (r : R2) (G : Env) (a b : Vd) (z : Dat) : Prop := ∀ (B0 H0 B H : Hp) (σ : L2.St), Sta B0 H0 B H σ G → ∀ v w, AtV H0 B H G v a → AtV H0 B H G w b → ∀ Q : VK, (∀ y B' H', Step B H B' H' → At B' y z → Q y H') → r v w H Q
theorem ev_op2 {r : R2} (h : EvW ta G fun a G1 => EvW tb G1 fun b G2 => ∃ z, Op2 r G2 a b z ∧ K (.d z) G2) : EvW (tOp r ta tb) G K := fun B0 H0 B H σ S Q q =>
  ev_two S h fun v w a b G' B' H' ⟨z, hz, k⟩ n av aw => hz B0 H0 B' H' σ n.sta v w av aw Q fun y B2 H2 t ay => q y _ G' B2 H2 k (n.trans S (Nxt.of_step n.sta t)) ay trivial
theorem Op2.orL {r r' : R2} {a b : Vd} {z : Dat} (h : Op2 r G a b z) : Op2 (fun x y H Q => r x y H Q ∨ r' x y H Q) G a b z := fun B0 H0 B H σ S v w av aw Q q => .inl (h B0 H0 B H σ S v w av aw Q q)
theorem Op2.orR {r r' : R2} {a b : Vd} {z : Dat} (h : Op2 r' G a b z) : Op2 (fun x y H Q => r x y H Q ∨ r' x y H Q) G a b z := fun B0 H0 B H σ S v w av aw Q q => .inr (h B0 H0 B H σ S v w av aw Q q)
theorem Op2.I0 {g : Int → Int → V} {i j : Int} {z : Dat} (hz : ∀ B, At B (g i j) z) : Op2 (rI0 g) G (.d (.int i)) (.d (.int j)) z := fun B0 H0 B H σ S v w av aw Q q => ⟨i, j, av.int, aw.int, q _ B H (Step.refl S.st.sub) (hz B)⟩
theorem Op2.I {C : Int → Int → Prop} {g : Int → Int → V} {i j : Int} {z : Dat} (c : C i j) (hz : ∀ B, At B (g i j) z) : Op2 (rI C g) G (.d (.int i)) (.d (.int j)) z := fun B0 H0 B H σ S v w av aw Q q => ⟨i, j, av.int, aw.int, c, q _ B H (Step.refl S.st.sub) (hz B)⟩

theorem ev_add (h : EvW ta G fun a G1 => EvW tb G1 fun b G2 => ∃ i j, a = .d (.int i) ∧ b = .d (.int j) ∧ K (.d (.int (i + j))) G2) : EvW (tOp (rAddX Kf) ta tb) G K :=
  ev_op2 (h.mono fun a G1 h1 => h1.mono fun b G2 ⟨i, j, ea, eb, k⟩ => ⟨_, by subst ea eb; exact Op2.orL (Op2.I0 fun B => At.int _), k⟩)
theorem ev_sub (h : EvW ta G fun a G1 => EvW tb G1 fun b G2 => ∃ i j, a = .d (.int i) ∧ b = .d (.int j) ∧ K (.d (.int (i - j))) G2) : EvW (tOp rSubI ta tb) G K :=
  ev_op2 (h.mono fun a G1 h1 => h1.mono fun b G2 ⟨i, j, ea, eb, k⟩ => ⟨_, by subst ea eb; exact Op2.I0 fun B => At.int _, k⟩)
theorem ev_mul (h : EvW ta G fun a G1 => EvW tb G1 fun b G2 => ∃ i j, a = .d (.int i) ∧ b = .d (.int j) ∧ CMul i j ∧ K (.d (.int (i * j))) G2) : EvW (tOp (rMulX Kf) ta tb) G K :=
  ev_op2 (h.mono fun a G1 h1 => h1.mono fun b G2 ⟨i, j, ea, eb, c, k⟩ => ⟨_, by subst ea eb; exact Op2.orL (Op2.I c fun B => At.int _), k⟩)
theorem ev_div (h : EvW ta G fun a G1 => EvW tb G1 fun b G2 => ∃ i j, a = .d (.int i) ∧ b = .d (.int j) ∧ CDiv i j ∧ K (.d (.int (i / j))) G2) : EvW (tOp rDivI ta tb) G K :=
  ev_op2 (h.mono fun a G1 h1 => h1.mono fun b G2 ⟨i, j, ea, eb, c, k⟩ => ⟨_, by subst ea eb; exact Op2.I c fun B => At.int _, k⟩)
theorem ev_mod (h : EvW ta G fun a G1 => EvW tb G1 fun b G2 => ∃ i j, a = .d (.int i) ∧ b = .d (.int j) ∧ 0 < j ∧ K (.d (.int (i % j))) G2) : EvW (tOp rModI ta tb) G K :=
  ev_op2 (h.mono fun a G1 h1 => h1.mono fun b G2 ⟨i, j, ea, eb, c, k⟩ => ⟨_, by subst ea eb; exact Op2.I (C := fun _ j => 0 < j) c fun B => At.int _, k⟩)
theorem ev_pow (h : EvW ta G fun a G1 => EvW tb G1 fun b G2 => ∃ i j, a = .d (.int i) ∧ b = .d (.int j) ∧ CPow i j ∧ K (.d (.int (i ^ j.toNat))) G2) : EvW (tOp rPowI ta tb) G K :=
  ev_op2 (h.mono fun a G1 h1 => h1.mono fun b G2 ⟨i, j, ea, eb, c, k⟩ => ⟨_, by subst ea eb; exact Op2.I c fun B => At.int _, k⟩)
theorem ev_lt (h : EvW ta G fun a G1 => EvW tb G1 fun b G2 => ∃ i j, a = .d (.int i) ∧ b = .d (.int j) ∧ K (.d (.bl (decide (i < j)))) G2) : EvW (tOp rLtI ta tb) G K :=
  ev_op2 (h.mono fun a G1 h1 => h1.mono fun b G2 ⟨i, j, ea, eb, k⟩ => ⟨_, by subst ea eb; exact Op2.I0 fun B => At.bl _, k⟩)
theorem ev_le (h : EvW ta G fun a G1 => EvW tb G1 fun b G2 => ∃ i j, a = .d (.int i) ∧ b = .d (.int j) ∧ K (.d (.bl (decide (i ≤ j)))) G2) : EvW (tOp rLeI ta tb) G K :=
  ev_op2 (h.mono fun a G1 h1 => h1.mono fun b G2 ⟨i, j, ea, eb, k⟩ => ⟨_, by subst ea eb; exact Op2.I0 fun B => At.bl _, k⟩)
theorem ev_gt (h : EvW ta G fun a G1 => EvW tb G1 fun b G2 => ∃ i j, a = .d (.int i) ∧ b = .d (.int j) ∧ K (.d (.bl (decide (j < i)))) G2) : EvW (tOp rGtI ta tb) G K :=
  ev_op2 (h.mono fun a G1 h1 => h1.mono fun b G2 ⟨i, j, ea, eb, k⟩ => ⟨_, by subst ea eb; exact Op2.I0 fun B => At.bl _, k⟩)
theorem ev_ge (h : EvW ta G fun a G1 => EvW tb G1 fun b G2 => ∃ i j, a = .d (.int i) ∧ b = .d (.int j) ∧ K (.d (.bl (decide (j ≤ i)))) G2) : EvW (tOp rGeI ta tb) G K :=
  ev_op2 (h.mono fun a G1 h1 => h1.mono fun b G2 ⟨i, j, ea, eb, k⟩ => ⟨_, by subst ea eb; exact Op2.I0 fun B => At.bl _, k⟩)
/-- == of two ints, two bools; of a scalar with itself -/
theorem ev_eqI (h : EvW ta G fun a G1 => EvW tb G1 fun b G2 => ∃ i j, a = .d (.int i) ∧ b = .d (.int j) ∧ K (.d (.bl (decide (i = j)))) G2) : EvW (tOp (rEqX Kf) ta tb) G K :=
  ev_op2 (h.mono fun a G1 h1 => h1.mono fun b G2 ⟨i, j, ea, eb, k⟩ => ⟨_, by
    subst ea eb
    refine Op2.orL fun B0 H0 B H σ S v w av aw Q q => ?_
    rw [av.int, aw.int]
    exact ⟨rfl, q _ B H (Step.refl S.st.sub) (by rw [show decide (V.int i = V.int j) = decide (i = j) by simp]; exact At.bl _)⟩, k⟩)
theorem ev_eqB (h : EvW ta G fun a G1 => EvW tb G1 fun b G2 => ∃ i j, a = .d (.bl i) ∧ b = .d (.bl j) ∧ K (.d (.bl (decide (i = j)))) G2) : EvW (tOp (rEqX Kf) ta tb) G K :=
  ev_op2 (h.mono fun a G1 h1 => h1.mono fun b G2 ⟨i, j, ea, eb, k⟩ => ⟨_, by
    subst ea eb
    refine Op2.orL fun B0 H0 B H σ S v w av aw Q q => ?_
    rw [av.bl, aw.bl]
    exact ⟨rfl, q _ B H (Step.refl S.st.sub) (by rw [show decide (V.bl i = V.bl j) = decide (i = j) by simp]; exact At.bl _)⟩, k⟩)
theorem ev_neB (h : EvW ta G fun a G1 => EvW tb G1 fun b G2 => ∃ i j, a = .d (.bl i) ∧ b = .d (.bl j) ∧ K (.d (.bl (!decide (i = j)))) G2) : EvW (tOp (rNeX Kf) ta tb) G K :=
  ev_op2 (h.mono fun a G1 h1 => h1.mono fun b G2 ⟨i, j, ea, eb, k⟩ => ⟨_, by
    subst ea eb
    refine Op2.orL fun B0 H0 B H σ S v w av aw Q q => ?_
    rw [av.bl, aw.bl]
    exact ⟨rfl, q _ B H (Step.refl S.st.sub) (by rw [show decide (V.bl i = V.bl j) = decide (i = j) by simp]; exact At.bl _)⟩, k⟩)
theorem ev_neI (h : EvW ta G fun a G1 => EvW tb G1 fun b G2 => ∃ i j, a = .d (.int i) ∧ b = .d (.int j) ∧ K (.d (.bl (!decide (i = j)))) G2) : EvW (tOp (rNeX Kf) ta tb) G K :=
  ev_op2 (h.mono fun a G1 h1 => h1.mono fun b G2 ⟨i, j, ea, eb, k⟩ => ⟨_, by
    subst ea eb
    refine Op2.orL fun B0 H0 B H σ S v w av aw Q q => ?_
    rw [av.int, aw.int]
    exact ⟨rfl, q _ B H (Step.refl S.st.sub) (by rw [show decide (V.int i = V.int j) = decide (i = j) by simp]; exact At.bl _)⟩, k⟩)
theorem ev_eqN (h : EvW ta G fun a G1 => EvW tb G1 fun b G2 => a = .d .non ∧ b = .d .non ∧ K (.d (.bl true)) G2) : EvW (tOp (rEqX Kf) ta tb) G K :=
  ev_op2 (h.mono fun a G1 h1 => h1.mono fun b G2 ⟨ea, eb, k⟩ => ⟨_, by
    subst ea eb
    refine Op2.orL fun B0 H0 B H σ S v w av aw Q q => ?_
    rw [av.non, aw.non]
    exact ⟨rfl, q _ B H (Step.refl S.st.sub) (At.bl true)⟩, k⟩)
/-- a list of ints == [] -/
theorem dp_of {B H : Hp} (s : Same B H) {v : V} {ns : List Int} (h : At B v (.lst (ns.map Dat.int))) : Dp Kf H v (.list (ns.map PyData.int)) := by
  cases h with
  | lst h1 h2 =>
    rw [Ats.ints_inv h2] at h1
    exact .lst (SqL.of (s _ _ h1)) (dp_ints ns)
theorem ev_eqE (h : EvW ta G fun a G1 => EvW tb G1 fun b G2 => ∃ ns : List Int, a = .d (.lst (ns.map Dat.int)) ∧ b = .d (.lst []) ∧ K (.d (.bl ns.isEmpty)) G2) : EvW (tOp (rEqX Kf) ta tb) G K :=
  ev_op2 (h.mono fun a G1 h1 => h1.mono fun b G2 ⟨ns, ea, eb, k⟩ => ⟨_, by
    subst ea eb
    refine Op2.orR fun B0 H0 B H σ S v w av aw Q q => ?_
    exact ⟨_, _, dp_of S.st.sub av, dp_of (ns := []) S.st.sub aw, shaped_ints ns, shaped_ints [], q _ B H (Step.refl S.st.sub) (by rw [List.map_nil, eqv_nil]; exact At.bl _)⟩, k⟩)
theorem ev_neE (h : EvW ta G fun a G1 => EvW tb G1 fun b G2 => ∃ ns : List Int, a = .d (.lst (ns.map Dat.int)) ∧ b = .d (.lst []) ∧ K (.d (.bl (!ns.isEmpty))) G2) : EvW (tOp (rNeX Kf) ta tb) G K :=
  ev_op2 (h.mono fun a G1 h1 => h1.mono fun b G2 ⟨ns, ea, eb, k⟩ => ⟨_, by
    subst ea eb
    refine Op2.orR fun B0 H0 B H σ S v w av aw Q q => ?_
    exact ⟨_, _, dp_of S.st.sub av, dp_of (ns := []) S.st.sub aw, shaped_ints ns, shaped_ints [], q _ B H (Step.refl S.st.sub) (by rw [List.map_nil, eqv_nil]; exact At.bl _)⟩, k⟩)
theorem ev_isN (h : EvW ta G fun a G1 => ∃ x, a = .d x ∧ K (.d (.bl (isNon x))) G1) : EvW (tOp rIsNo ta (tC .non)) G K :=
  ev_op2 (h.mono fun a G1 ⟨x, ea, k⟩ => ev_non ⟨_, by
    subst ea
    exact fun B0 H0 B H σ S v w av aw Q q => ⟨aw.non, q _ B H (Step.refl S.st.sub) (by rw [At.isNon av]; exact At.bl _)⟩, k⟩)
theorem ev_notN (h : EvW ta G fun a G1 => ∃ x, a = .d x ∧ K (.d (.bl (!isNon x))) G1) : EvW (tOp rNotNo ta (tC .non)) G K :=
  ev_op2 (h.mono fun a G1 ⟨x, ea, k⟩ => ev_non ⟨_, by
    subst ea
    exact fun B0 H0 B H σ S v w av aw Q q => ⟨aw.non, q _ B H (Step.refl S.st.sub) (by rw [At.isNon av]; exact At.bl _)⟩, k⟩)
/-- an int not in () -/
theorem ev_niE (h : EvW ta G fun a G1 => EvW tb G1 fun b G2 => ∃ i, a = .d (.int i) ∧ b = .d (.tup []) ∧ K (.d (.bl true)) G2) : EvW (tOp (rIn Kf true) ta tb) G K :=
  ev_op2 (h.mono fun a G1 h1 => h1.mono fun b G2 ⟨i, ea, eb, k⟩ => ⟨_, by
    subst ea eb
    refine fun B0 H0 B H σ S v w av aw Q q => ?_
    cases (show At B w (.tup []) from aw) with
    | tup h1 h2 =>
      cases h2
      exact ⟨_, [], rfl, .inr (SqT.of (S.st.sub _ _ h1)), by rw [av.int]; rfl, rfl, q _ B H (Step.refl S.st.sub) (At.bl true)⟩, k⟩)
/-- xs[i] -/
theorem ev_ix (h : EvW ta G fun a G1 => EvW tb G1 fun b G2 => ∃ ds i z, RdW G2 a ds ∧ b = .d (.int i) ∧ atI ds i = some z ∧ K (.d z) G2) : EvW (tOp (rIx Kf) ta tb) G K :=
  ev_op2 (h.mono fun a G1 h1 => h1.mono fun b G2 ⟨ds, i, z, ra, eb, ez, k⟩ => ⟨z, by
    subst eb
    refine fun B0 H0 B H σ S v w av aw Q q => ?_
    obtain ⟨p, xs, rfl, hs, hx⟩ := ra.seq (K := Kf) S av
    obtain ⟨y, hy, ay⟩ := hx.atI ez
    rw [aw.int]
    rcases hs with hs | hs
    · exact .inl ⟨p, xs, i, y, rfl, rfl, hs, hy, q y B H (Step.refl S.st.sub) ay⟩
    · exact .inr (.inl ⟨p, xs, i, y, rfl, rfl, hs, hy, q y B H (Step.refl S.st.sub) ay⟩), k⟩)
/-- xs + ys -/
theorem ev_cat (h : EvW ta G fun a G1 => EvW tb G1 fun b G2 => ∃ ds es, a = .d (.lst ds) ∧ b = .d (.lst es) ∧ ds.length + es.length ≤ sizeLine ∧ K (.d (.lst (ds ++ es))) G2) : EvW (tOp (rAddX Kf) ta tb) G K :=
  ev_op2 (h.mono fun a G1 h1 => h1.mono fun b G2 ⟨ds, es, ea, eb, hl, k⟩ => ⟨_, by
    subst ea eb
    refine Op2.orR (Op2.orL fun B0 H0 B H σ S v w av aw Q q => ?_)
    obtain ⟨a1, xs, rfl, h1, h2⟩ := At.lst_inv av
    obtain ⟨a2, ys, rfl, h3, h4⟩ := At.lst_inv aw
    refine ⟨_, _, _, _, rfl, rfl, S.st.sub _ _ h1, S.st.sub _ _ h3, by rw [h2.len, h4.len]; exact hl, fun p hp => ?_⟩
    have t := Step.laid S.st.sub hp (o := .lst (xs ++ ys))
    exact q _ _ _ t (.lst upd_same ((h2.mono t.eB).append (h4.mono t.eB))), k⟩)
theorem ev_catT (h : EvW ta G fun a G1 => EvW tb G1 fun b G2 => ∃ ds es, a = .d (.tup ds) ∧ b = .d (.tup es) ∧ ds ≠ [] ∧ es ≠ [] ∧ ds.length + es.length ≤ sizeLine ∧ K (.d (.tup (ds ++ es))) G2) : EvW (tOp (rAddX Kf) ta tb) G K :=
  ev_op2 (h.mono fun a G1 h1 => h1.mono fun b G2 ⟨ds, es, ea, eb, n1, n2, hl, k⟩ => ⟨_, by
    subst ea eb
    refine Op2.orR (Op2.orR fun B0 H0 B H σ S v w av aw Q q => ?_)
    obtain ⟨a1, xs, rfl, h1, h2⟩ := At.tup_inv av
    obtain ⟨a2, ys, rfl, h3, h4⟩ := At.tup_inv aw
    refine ⟨_, _, _, _, rfl, rfl, SqT.of (S.st.sub _ _ h1), SqT.of (S.st.sub _ _ h3), fun z => n1 (List.eq_nil_of_length_eq_zero (by rw [← h2.len, z]; rfl)), by rw [h2.len, h4.len]; exact hl, fun z => (n2 (List.eq_nil_of_length_eq_zero (by rw [← h4.len, z]; rfl))).elim, fun _ p hp => ?_⟩
    have t := Step.laid S.st.sub hp (o := .tup (xs ++ ys))
    exact q _ _ _ t (.tup upd_same ((h2.mono t.eB).append (h4.mono t.eB))), k⟩)
end
end Mn
namespace Mn
open PySem PySem.Spec PyProof.Rows L2
/-! ### tuple * 1 is the tuple itself -/
theorem tuple_mul1 (l : Addr) (items : Array Value) (n : Nat) (dd : Option Addr) (sl : Array (Option Value)) (u : Tok) :
    Meets (Builtin.«tuple.__mul__» ⟨[.ref l, .int 1 u], []⟩) (fun _ R s => s.heap.get? l = some { cls := .type "tuple", dict := dd, data := .seq items n, slots := sl } ∧ R (.ok (.ret (Value.ref l))) { s with heap := s.heap, toks := s.toks }) :=
  .of_wp fun prog w A R s h => by
    obtain ⟨hp, g, d, tk, os⟩ := s
    obtain ⟨hl, h⟩ := h
    have f1 := AutoSeq1.idx_int
    have c1 : (items.isEmpty || (1 : Int) == 1) = true := by simp
    wp_walk using wpAny_loadPart' hl
    first
      | exact ⟨_, rfl, h⟩
      | (refine wpAny_ite_true (decide_eq_true (by rw [c1])) ?_; wp_walk using wpAny_loadPart' hl; exact ⟨_, rfl, h⟩)
end Mn
namespace Mn
open PySem PySem.Spec PyProof.Rows L2
def rRepT1 (K : PySem.W.Frag) : R2 := fun x y H Q => ∃ l xs, x = .ref l ∧ y = .int 1 ∧ SqT K H l xs ∧ Q (.ref l) H
section
variable {X : Cx}
theorem op_repT1 : OpR X (binaryOp .Mult) (rRepT1 X.K) := by
  intro pins s σ H x y v u Q I rx ry h
  obtain ⟨l, xs, rfl, rfl, hT, q⟩ := h
  cases rx
  obtain ⟨t, rfl⟩ := ry
  obtain ⟨its, r, ⟨⟨cls, dd, data, sl⟩, ho, hc, n, hd⟩, hs⟩ := I.tuple hT
  simp only at hc hd
  subst hc hd
  refine wpAny_binaryOp_repeat_ref (T := "tuple") (U := "int") (by decide) ⟨_, ho, rfl⟩ (fun s' => typeIs_int s' 1 t) noFill_tuple_mul F.fills_int_mul F.slot_int_rmul repeat_tuple F.slot_int_index.lookup
    (call_meets F.slot_int_rmul (typeIs_int s 1 t) F.entry_int_rmul (F.args_int_rmul_2 _ _) (int_rmul_tuple 1 t l its.toArray n dd sl)
      ⟨ho, rfl, ⟨_, ho, rfl⟩, call_meets F.slot_tuple_mul ⟨_, ho, rfl⟩ F.entry_tuple_mul (F.args_tuple_mul_2 _ _) (tuple_mul1 l its.toArray n dd sl t) ⟨ho, ?_⟩⟩)
  exact ⟨.ref l, H, I, rfl, q⟩
end
def rMulY (K : PySem.W.Frag) : R2 := fun x y H Q => rMulX K x y H Q ∨ rRepT1 K x y H Q
theorem op_mulY {X : Cx} : OpR X (binaryOp .Mult) (rMulY X.K) := op_mulX.or op_repT1

/-! ### built-ins by names of our own -/
def rLenX (K : PySem.W.Frag) : List V → Hp → VK → Prop := fun xs H Q => ∃ p ys, xs = [.ref p] ∧ (SqL K H p ys ∨ SqT K H p ys) ∧ Q (.int ys.length) H
def rListX (K : PySem.W.Frag) : List V → Hp → VK → Prop := fun xs H Q => ∃ p ys, xs = [.ref p] ∧ (SqL K H p ys ∨ SqT K H p ys) ∧ ∀ l, H l = none → Q (.ref l) (upd H l (.lst ys))
def rTupX (K : PySem.W.Frag) : List V → Hp → VK → Prop := fun xs H Q => ∃ p ys, xs = [.ref p] ∧ ((SqL K H p ys ∧ ∀ l, H l = none → Q (.ref l) (upd H l (.tup ys))) ∨ (SqT K H p ys ∧ Q (.ref p) H))
def rMax2 : List V → Hp → VK → Prop := fun xs H Q => ∃ i j, xs = [.int i, .int j] ∧ Q (.int (if j > i then j else i)) H
def rMin2 : List V → Hp → VK → Prop := fun xs H Q => ∃ i j, xs = [.int i, .int j] ∧ Q (.int (if j < i then j else i)) H
def rAbs1 : List V → Hp → VK → Prop := fun xs H Q => ∃ i, xs = [.int i] ∧ Q (.int (if i < 0 then -i else i)) H
def rInt1 : List V → Hp → VK → Prop := fun xs H Q => (∃ i, xs = [.int i] ∧ Q (.int i) H) ∨ ∃ k, xs = [.bl k] ∧ Q (.int (if k then 1 else 0)) H
def rSlX (K : PySem.W.Frag) : V → Option Int → Option Int → Hp → VK → Prop := fun x lo hi H Q => rSlL K x lo hi H Q ∨ rSlA K x lo hi H Q
section
variable {X : Cx}
theorem crLen : CallR X (.builtin "len") (rLenX X.K) := call_len_seq
theorem crList : CallR X (.type "list") (rListX X.K) := call_list_of
theorem crTup : CallR X (.type "tuple") (rTupX X.K) := call_tuple_of
theorem crMax2 (hc : X.calm = true) : CallR X (.builtin "max") rMax2 := call_max2 hc
theorem crMin2 (hc : X.calm = true) : CallR X (.builtin "min") rMin2 := call_min2 hc
theorem crAbs : CallR X (.builtin "abs") rAbs1 := call_abs
theorem crInt : CallR X (.type "int") rInt1 := call_int1
theorem slX : SlR X (rSlX X.K) := sl_list.or sl_tupA
end

/-! ### freezing -/
theorem Sta.freeze {B0 H0 B H : Hp} {σ : L2.St} {G : Env} (S : Sta B0 H0 B H σ G) {p : Addr} {xs : List V} (h0 : H0 p = none) (hB : B p = none) (hH : H p = some (.lst xs)) (hm : ¬ IsMut G p) : Sta B0 H0 (upd B p (.lst xs)) H σ G := by
  refine ⟨⟨S.st.eH, S.st.eB.trans (same_new hB), fun a o e => ?_, fun a h1 h2 => ?_⟩, S.len, fun i s e => ?_, S.inj⟩
  · by_cases ha : a = p
    · subst ha
      rw [upd_same] at e
      rw [hH]
      exact e
    · rw [upd_ne ha] at e
      exact S.st.sub _ _ e
  · have ha : a ≠ p := fun z => h2 (z ▸ h0)
    rw [upd_ne ha]
    exact S.st.new a h1 h2
  · have q := S.ok i s e
    cases s with
    | un => trivial
    | dat d =>
      obtain ⟨v, h1, h2⟩ := q
      exact ⟨v, h1, h2.mono (same_new hB)⟩
    | own r ds =>
      obtain ⟨h1, h2, h3, ys, h4, h5⟩ := q
      refine ⟨h1, h2, ?_, ys, h4, h5.mono (same_new hB)⟩
      rw [upd_ne (fun z => hm ⟨i, ds, by rw [← z]; exact e⟩)]
      exact h3

section
variable {G : Env} {K : Vd → Env → Prop} {KB : Bool → Env → Prop} {KA : List Vd → Env → Prop} {ta tb te : TE} {tt tu : TT} {tas : TA} {Kf : PySem.W.Frag}
theorem ev_fz (h : EvW te G fun x G1 => ∃ p ds, x = .n p ds ∧ K (.d (.lst ds)) G1) : EvW te G K := fun B0 H0 B H σ S Q q => h B0 H0 B H σ S Q fun v x G1 B1 H1 ⟨p, ds, ex, k⟩ n a nw => by
  subst ex
  obtain ⟨rfl, a0, a1, a2, xs, a3, a4⟩ := a
  have nw : H p = none := nw
  refine q _ _ G1 (upd B1 p (.lst xs)) H1 k ⟨n.sta.freeze a0 a1 a3 a2, n.eB.trans (same_new a1), n.keep, fun a h1 h2 => ?_, n.muts⟩ (At.lst upd_same (a4.mono (same_new a1))) trivial
  rw [upd_ne (fun z => h2 (by rw [z]; exact nw))]
  exact n.new a h1 h2
theorem ev_neg (h : EvW ta G fun a G1 => ∃ i, a = .d (.int i) ∧ K (.d (.int (-i))) G1) : EvW (tUn (rU fun i => .int (-i)) ta) G K := fun B0 H0 B H σ S Q q => h B0 H0 B H σ S _ fun v x G1 B1 H1 ⟨i, ex, k⟩ n a nw => by
  subst ex
  exact ⟨i, a.int, q _ _ G1 B1 H1 k n (At.int _) trivial⟩
theorem ev_mulY (h : EvW ta G fun a G1 => EvW tb G1 fun b G2 => ∃ i j, a = .d (.int i) ∧ b = .d (.int j) ∧ CMul i j ∧ K (.d (.int (i * j))) G2) : EvW (tOp (rMulY Kf) ta tb) G K :=
  ev_op2 (h.mono fun a G1 h1 => h1.mono fun b G2 ⟨i, j, ea, eb, c, k⟩ => ⟨_, by subst ea eb; exact Op2.orL (Op2.orL (Op2.I c fun B => At.int _)), k⟩)
/-- (x, ..) * n, 1 ≤ n -/
theorem ev_repT (h : EvW ta G fun a G1 => EvW tb G1 fun b G2 => ∃ (ds : List Dat) (n : Nat), a = .d (.tup ds) ∧ b = .d (.int n) ∧ ds ≠ [] ∧ ds.length ≤ 1000 ∧ 1 ≤ n ∧ n ≤ 1000 ∧ K (.d (.tup (List.replicate n ds).flatten)) G2) : EvW (tOp (rMulY Kf) ta tb) G K :=
  ev_op2 (h.mono fun a G1 h1 => h1.mono fun b G2 ⟨ds, n, ea, eb, n1, n2, l1, l2, k⟩ => ⟨_, by
    subst ea eb
    by_cases h1 : n = 1
    · subst h1
      refine Op2.orR fun B0 H0 B H σ S v w av aw Q q => ?_
      obtain ⟨a1, xs, rfl, h1, h2⟩ := At.tup_inv av
      refine ⟨a1, xs, rfl, aw.int, SqT.of (S.st.sub _ _ h1), q _ B H (Step.refl S.st.sub) ?_⟩
      rw [show (List.replicate 1 ds).flatten = ds by simp]
      exact .tup h1 h2
    · refine Op2.orL (Op2.orR (Op2.orR fun B0 H0 B H σ S v w av aw Q q => ?_))
      obtain ⟨a1, xs, rfl, h1, h2⟩ := At.tup_inv av
      refine ⟨a1, n, xs, rfl, aw.int, SqT.of (S.st.sub _ _ h1), fun z => n1 (List.eq_nil_of_length_eq_zero (by rw [← h2.len, z]; rfl)), by omega, by omega, by rw [h2.len]; exact n2, fun p hp => ?_⟩
      have t := Step.laid S.st.sub hp (o := .tup (List.replicate (n : Int).toNat xs).flatten)
      refine q _ _ _ t (.tup upd_same ?_)
      rw [Int.toNat_natCast]
      exact (h2.mono (by rw [← Int.toNat_natCast n]; exact t.eB)).rep n, k⟩)
/-- [x, ..] * n, a datum -/
theorem ev_repL (h : EvW ta G fun a G1 => EvW tb G1 fun b G2 => ∃ (ds : List Dat) (n : Nat), a = .d (.lst ds) ∧ b = .d (.int n) ∧ ds.length ≤ 1000 ∧ n ≤ 1000 ∧ K (.d (.lst (List.replicate n ds).flatten)) G2) : EvW (tOp (rMulY Kf) ta tb) G K :=
  ev_op2 (h.mono fun a G1 h1 => h1.mono fun b G2 ⟨ds, n, ea, eb, l1, l2, k⟩ => ⟨_, by
    subst ea eb
    refine Op2.orL (Op2.orR (Op2.orL fun B0 H0 B H σ S v w av aw Q q => ?_))
    obtain ⟨a1, xs, rfl, h1, h2⟩ := At.lst_inv av
    refine ⟨a1, n, xs, rfl, aw.int, S.st.sub _ _ h1, by omega, by omega, ?_, fun p hp => ?_⟩
    · rw [h2.len, Int.toNat_natCast, sizeLine_eq]
      have : ds.length * n ≤ 1000 * 1000 := Nat.mul_le_mul l1 l2
      omega
    · have t := Step.laid S.st.sub hp (o := .lst (List.replicate (n : Int).toNat xs).flatten)
      refine q _ _ _ t (.lst upd_same ?_)
      rw [Int.toNat_natCast]
      exact (h2.mono (by rw [← Int.toNat_natCast n]; exact t.eB)).rep n, k⟩)

/-! ### tests -/
theorem tt_B (h : EvW te G fun a G1 => ∃ b, a = .d (.bl b) ∧ KB b G1) : TtW (tB te) G KB := fun B0 H0 B H σ S Q q => h B0 H0 B H σ S _ fun v x G1 B1 H1 ⟨b, ex, k⟩ n a nw => by
  subst ex
  exact ⟨b, a.bl, q b G1 B1 H1 k n⟩
theorem tt_T (h : EvW te G fun a G1 => ∃ b, a = .d (.bl b) ∧ KB b G1) : TtW (tTest te) G KB := tt_B h
theorem tt_and (h : TtW tt G fun b G1 => (b = true → TtW tu G1 KB) ∧ (b = false → KB false G1)) : TtW (tAnd tt tu) G KB := fun B0 H0 B H σ S Q q => h B0 H0 B H σ S _ fun b G1 B1 H1 ⟨k1, k2⟩ n => by
  cases b with
  | true => exact k1 rfl B0 H0 B1 H1 σ n.sta Q fun b G2 B2 H2 k n2 => q b G2 B2 H2 k (n.trans S n2)
  | false => exact q false G1 B1 H1 (k2 rfl) n
theorem tt_or (h : TtW tt G fun b G1 => (b = true → KB true G1) ∧ (b = false → TtW tu G1 KB)) : TtW (tOr tt tu) G KB := fun B0 H0 B H σ S Q q => h B0 H0 B H σ S _ fun b G1 B1 H1 ⟨k1, k2⟩ n => by
  cases b with
  | true => exact q true G1 B1 H1 (k1 rfl) n
  | false => exact k2 rfl B0 H0 B1 H1 σ n.sta Q fun b G2 B2 H2 k n2 => q b G2 B2 H2 k (n.trans S n2)
theorem tt_not (h : TtW tt G fun b G1 => KB (!b) G1) : TtW (tNot tt) G KB := fun B0 H0 B H σ S Q q => h B0 H0 B H σ S _ fun b G1 B1 H1 k n => q (!b) G1 B1 H1 k n
theorem tt_yes (h : KB true G) : TtW tYes G KB := fun B0 H0 B H σ S Q q => q true G B H h (Nxt.refl S)
theorem ev_if (h : TtW tt G fun b G1 => (b = true → EvW ta G1 K) ∧ (b = false → EvW tb G1 K)) : EvW (tIf tt ta tb) G K := fun B0 H0 B H σ S Q q => h B0 H0 B H σ S _ fun b G1 B1 H1 ⟨k1, k2⟩ n => by
  cases b with
  | true => exact k1 rfl B0 H0 B1 H1 σ n.sta Q fun v x G2 B2 H2 k n2 a nw => q v x G2 B2 H2 k (n.trans S n2) a (nw.nxt S n)
  | false => exact k2 rfl B0 H0 B1 H1 σ n.sta Q fun v x G2 B2 H2 k n2 a nw => q v x G2 B2 H2 k (n.trans S n2) a (nw.nxt S n)
theorem ev_and (h : EvW ta G fun a G1 => ∃ b, a = .d (.bl b) ∧ (b = true → EvW tb G1 K) ∧ (b = false → K (.d (.bl false)) G1)) : EvW (tAndV ta tb) G K := fun B0 H0 B H σ S Q q => h B0 H0 B H σ S _ fun v x G1 B1 H1 ⟨b, ex, k1, k2⟩ n a nw => by
  subst ex
  refine ⟨b, a.bl, ?_⟩
  cases b with
  | true => exact k1 rfl B0 H0 B1 H1 σ n.sta Q fun v x G2 B2 H2 k n2 a nw => q v x G2 B2 H2 k (n.trans S n2) a (nw.nxt S n)
  | false => exact q _ _ G1 B1 H1 (k2 rfl) n (At.bl false) trivial
theorem ev_or (h : EvW ta G fun a G1 => ∃ b, a = .d (.bl b) ∧ (b = true → K (.d (.bl true)) G1) ∧ (b = false → EvW tb G1 K)) : EvW (tOrV ta tb) G K := fun B0 H0 B H σ S Q q => h B0 H0 B H σ S _ fun v x G1 B1 H1 ⟨b, ex, k1, k2⟩ n a nw => by
  subst ex
  refine ⟨b, a.bl, ?_⟩
  cases b with
  | true => exact q _ _ G1 B1 H1 (k1 rfl) n (At.bl true) trivial
  | false => exact k2 rfl B0 H0 B1 H1 σ n.sta Q fun v x G2 B2 H2 k n2 a nw => q v x G2 B2 H2 k (n.trans S n2) a (nw.nxt S n)
theorem ev_not (h : EvW ta G fun a G1 => ∃ b, a = .d (.bl b) ∧ K (.d (.bl (!b))) G1) : EvW (tNotV ta) G K := fun B0 H0 B H σ S Q q => h B0 H0 B H σ S _ fun v x G1 B1 H1 ⟨b, ex, k⟩ n a nw => by
  subst ex
  exact ⟨b, a.bl, q _ _ G1 B1 H1 k n (At.bl _) trivial⟩
/-- where the value is known on each way: one way goes on -/
theorem ev_ifJ (z : Dat) (h : TtW tt G fun b G1 => (b = true → EvW ta G1 fun x G2 => x = .d z ∧ G2 = G1) ∧ (b = false → EvW tb G1 fun x G2 => x = .d z ∧ G2 = G1) ∧ K (.d z) G1) : EvW (tIf tt ta tb) G K :=
  ev_if fun B0 H0 B H σ S Q q => h B0 H0 B H σ S Q fun b G1 B1 H1 ⟨k1, k2, k⟩ n => q b G1 B1 H1 ⟨fun e => (k1 e).mono fun x G2 ⟨e1, e2⟩ => by subst e1 e2; exact k, fun e => (k2 e).mono fun x G2 ⟨e1, e2⟩ => by subst e1 e2; exact k⟩ n
theorem ev_andJ (z : Bool) (h : EvW ta G fun a G1 => ∃ b, a = .d (.bl b) ∧ (b = true → EvW tb G1 fun x G2 => x = .d (.bl z) ∧ G2 = G1) ∧ (b = false → z = false) ∧ K (.d (.bl z)) G1) : EvW (tAndV ta tb) G K :=
  ev_and (h.mono fun a G1 ⟨b, ea, k1, k2, k⟩ => ⟨b, ea, fun e => (k1 e).mono fun x G2 ⟨e1, e2⟩ => by subst e1 e2; exact k, fun e => by rw [k2 e] at k; exact k⟩)
theorem ev_orJ (z : Bool) (h : EvW ta G fun a G1 => ∃ b, a = .d (.bl b) ∧ (b = true → z = true) ∧ (b = false → EvW tb G1 fun x G2 => x = .d (.bl z) ∧ G2 = G1) ∧ K (.d (.bl z)) G1) : EvW (tOrV ta tb) G K :=
  ev_or (h.mono fun a G1 ⟨b, ea, k2, k1, k⟩ => ⟨b, ea, fun e => by rw [k2 e] at k; exact k, fun e => (k1 e).mono fun x G2 ⟨e1, e2⟩ => by subst e1 e2; exact k⟩)

/-! ### argument lists, displays -/
theorem av_nil (h : KA [] G) : AvW tNil G KA := fun B0 H0 B H σ S Q q => q [] [] G B H h (Nxt.refl S) .nil (fun x z => nomatch z)
theorem av_cons {tr : TA} (h : EvW ta G fun a G1 => AvW tr G1 fun xs G2 => KA (a :: xs) G2) : AvW (tCons ta tr) G KA := fun B0 H0 B H σ S Q q =>
  h B0 H0 B H σ S _ fun v x G1 B1 H1 k n a nw => k B0 H0 B1 H1 σ n.sta _ fun vs xs G2 B2 H2 k2 n2 a2 nw2 => by
    refine q (v :: vs) (x :: xs) G2 B2 H2 k2 (n.trans S n2) (.cons (a.nxt n2) a2 fun p ds es e hm => ?_) fun y hy => ?_
    · subst e
      obtain ⟨_, _, _, _, ys, hp, _⟩ := a
      have z : H1 p = none := nw2 _ hm
      rw [hp] at z
      cases z
    · rcases List.mem_cons.mp hy with rfl | hy
      · exact nw
      · exact (nw2 y hy).nxt S n
theorem AtVs.data {H0 B H : Hp} : ∀ {ds : List Dat} {vs : List V}, AtVs H0 B H G vs (ds.map Vd.d) → Ats B vs ds
  | [], _, h => by
    cases h
    exact .nil
  | d :: ds, _, h => by
    cases h with
    | cons h k _ => exact .cons h (AtVs.data k)
theorem ev_tup (h : AvW tas G fun xs G1 => ∃ ds, xs = ds.map Vd.d ∧ ds.length ≤ 1000 ∧ K (.d (.tup ds)) G1) : EvW (tTup tas) G K := fun B0 H0 B H σ S Q q => h B0 H0 B H σ S _ fun vs xs G1 B1 H1 ⟨ds, ex, hl, k⟩ n a nw => by
  subst ex
  have hd := a.data
  refine ⟨by rw [hd.len, sizeLine_eq]; omega, fun p hp => ?_⟩
  have t := Step.laid n.sta.st.sub hp (o := .tup vs)
  exact q _ _ G1 _ _ k (n.trans S (Nxt.of_step n.sta t)) (At.tup upd_same (hd.mono t.eB)) trivial
theorem ev_lst (h : AvW tas G fun xs G1 => ∃ ds, xs = ds.map Vd.d ∧ ds.length ≤ 1000 ∧ K (.d (.lst ds)) G1) : EvW (tLst tas) G K := fun B0 H0 B H σ S Q q => h B0 H0 B H σ S _ fun vs xs G1 B1 H1 ⟨ds, ex, hl, k⟩ n a nw => by
  subst ex
  have hd := a.data
  refine ⟨by rw [hd.len, sizeLine_eq]; omega, fun p hp => ?_⟩
  have t := Step.laid n.sta.st.sub hp (o := .lst vs)
  exact q _ _ G1 _ _ k (n.trans S (Nxt.of_step n.sta t)) (At.lst upd_same (hd.mono t.eB)) trivial
/-- what stands aside at p, new: nobody's yet -/
theorem AtV.aside {B0 H0 B H : Hp} {σ : L2.St} (S : Sta B0 H0 B H σ G) {p : Addr} {vs : List V} {ds : List Dat} (hp : H p = none) (h : Ats B vs ds) : AtV H0 B (upd H p (.lst vs)) G (.ref p) (.n p ds) :=
  ⟨rfl, S.st.eH.free hp, view_none S.st.sub hp, fun m => (by
    obtain ⟨_, _, xs, e⟩ := S.mutAt m
    rw [hp] at e
    cases e), vs, upd_same, h⟩
theorem ev_lstN (h : AvW tas G fun xs G1 => ∃ ds, xs = ds.map Vd.d ∧ ds.length ≤ 1000 ∧ ∀ p, K (.n p ds) G1) : EvW (tLst tas) G K := fun B0 H0 B H σ S Q q => h B0 H0 B H σ S _ fun vs xs G1 B1 H1 ⟨ds, ex, hl, k⟩ n a nw => by
  subst ex
  have hd := a.data
  refine ⟨by rw [hd.len, sizeLine_eq]; omega, fun p hp => ?_⟩
  have t := Step.aside n.sta.st.sub hp (o := .lst vs)
  exact q _ _ G1 _ _ (k p) (n.trans S (Nxt.of_step n.sta t)) (AtV.aside n.sta hp hd) (n.fresh S hp)

/-! ### calls of built-ins -/
theorem ev_len (h : EvW ta G fun a G1 => ∃ ds, RdW G1 a ds ∧ K (.d (.int ds.length)) G1) : EvW (tCB (rLenX Kf) (tCons ta tNil)) G K := fun B0 H0 B H σ S Q q => h B0 H0 B H σ S _ fun v x G1 B1 H1 ⟨ds, r, k⟩ n a nw => by
  obtain ⟨p, xs, rfl, hs, hx⟩ := r.seq (K := Kf) n.sta a
  exact ⟨p, xs, rfl, hs, by rw [hx.len]; exact q _ _ G1 B1 H1 k n (At.int _) trivial⟩
theorem ev_listN (h : EvW ta G fun a G1 => ∃ ds, RdW G1 a ds ∧ ∀ p, K (.n p ds) G1) : EvW (tCB (rListX Kf) (tCons ta tNil)) G K := fun B0 H0 B H σ S Q q => h B0 H0 B H σ S _ fun v x G1 B1 H1 ⟨ds, r, k⟩ n a nw => by
  obtain ⟨p, xs, rfl, hs, hx⟩ := r.seq (K := Kf) n.sta a
  refine ⟨p, xs, rfl, hs, fun l hl => ?_⟩
  have t := Step.aside n.sta.st.sub hl (o := .lst xs)
  exact q _ _ G1 _ _ (k l) (n.trans S (Nxt.of_step n.sta t)) (AtV.aside n.sta hl hx) (n.fresh S hl)
theorem ev_list (h : EvW ta G fun a G1 => ∃ ds, RdW G1 a ds ∧ K (.d (.lst ds)) G1) : EvW (tCB (rListX Kf) (tCons ta tNil)) G K := ev_fz (ev_listN (h.mono fun a G1 ⟨ds, r, k⟩ => ⟨ds, r, fun p => ⟨p, ds, rfl, k⟩⟩))
theorem ev_tuple (h : EvW ta G fun a G1 => ∃ ds, RdW G1 a ds ∧ K (.d (.tup ds)) G1) : EvW (tCB (rTupX Kf) (tCons ta tNil)) G K := fun B0 H0 B H σ S Q q => h B0 H0 B H σ S _ fun v x G1 B1 H1 ⟨ds, r, k⟩ n a nw => by
  rcases r with rfl | r
  · obtain ⟨p, xs, rfl, h1, h2⟩ := At.tup_inv a
    exact ⟨p, xs, rfl, .inr ⟨SqT.of (n.sta.st.sub _ _ h1), q _ _ G1 B1 H1 k n a trivial⟩⟩
  · obtain ⟨p, xs, rfl, h1, hx⟩ := r.seq n.sta a
    refine ⟨p, xs, rfl, .inl ⟨SqL.of h1, fun l hn => ?_⟩⟩
    have t := Step.laid n.sta.st.sub hn (o := .tup xs)
    exact q _ _ G1 _ _ k (n.trans S (Nxt.of_step n.sta t)) (At.tup upd_same (hx.mono t.eB)) trivial
end
end Mn
namespace Mn
open PySem PySem.Spec PyProof.Rows L2

def tyN : Dat → String
  | .non => "NoneType"
  | .bl _ => "bool"
  | .int _ => "int"
  | .tup _ => "tuple"
  | .lst _ => "list"
/-- isinstance of a datum, by the type's name -/
def isD (d : Dat) (T : String) : Bool := match d with
  | .non => false
  | .bl _ => T == "bool" || T == "int"
  | .int _ => T == "int"
  | .tup _ => T == "tuple"
  | .lst _ => T == "list"
theorem isD_ok (d : Dat) (T : String) (h : T = "list" ∨ T = "tuple" ∨ T = "int" ∨ T = "bool" ∨ T = "str") : kitB (tyN d) T = some (isD d T) := by
  rcases h with rfl | rfl | rfl | rfl | rfl <;> cases d <;> simp only [tyN, isD] <;> decide +kernel
theorem tyX_of {Kf : PySem.W.Frag} {B H : Hp} (s : Same B H) {v : V} {d : Dat} (h : At B v d) : TyX Kf H v (.type (tyN d)) := by
  cases h with
  | non => exact .base .non
  | bl b => exact .base (.bl b)
  | int i => exact .base (.int i)
  | tup h1 _ => exact .base (.tup (s _ _ h1))
  | lst h1 _ => exact .base (.lst (s _ _ h1))

/-- range(a, b) as ints -/
def rgI (a b : Int) : List Int := (List.range (b - a).toNat).map fun i => a + (i : Nat)
theorem rgV_eq (a b : Int) : rgV a b = (rgI a b).map V.int := by
  unfold rgV rgI
  rw [List.map_map]
  rfl
theorem rgI_len (a b : Int) : (rgI a b).length = (b - a).toNat := by
  unfold rgI
  rw [List.length_map, List.length_range]

def cutD (ds : List Dat) (lo hi : Option Int) : List Dat := (ds.drop (HT.sIx ds.length 0 lo)).take (HT.sIx ds.length ds.length hi - HT.sIx ds.length 0 lo)
theorem Ats.cut {B : Hp} {vs : List V} {ds : List Dat} (h : Ats B vs ds) (lo hi : Option Int) : Ats B (cutV vs lo hi) (cutD ds lo hi) := by
  unfold cutV cutD
  rw [h.len]
  exact (h.drop _).take _

section
variable {G : Env} {K : Vd → Env → Prop} {KB : Bool → Env → Prop} {KA : List Vd → Env → Prop} {ta tb te : TE} {tt tu : TT} {tas : TA} {Kf : PySem.W.Frag}
theorem ev_max (h : EvW ta G fun a G1 => EvW tb G1 fun b G2 => ∃ i j, a = .d (.int i) ∧ b = .d (.int j) ∧ K (.d (.int (if j > i then j else i))) G2) : EvW (tCB rMax2 (tCons ta (tCons tb tNil))) G K := fun B0 H0 B H σ S Q q =>
  ev_two S h fun v w a b G' B' H' ⟨i, j, ea, eb, k⟩ n av aw => by
    subst ea eb
    exact ⟨i, j, by rw [av.int, aw.int], q _ _ G' B' H' k n (At.int _) trivial⟩
theorem ev_min (h : EvW ta G fun a G1 => EvW tb G1 fun b G2 => ∃ i j, a = .d (.int i) ∧ b = .d (.int j) ∧ K (.d (.int (if j < i then j else i))) G2) : EvW (tCB rMin2 (tCons ta (tCons tb tNil))) G K := fun B0 H0 B H σ S Q q =>
  ev_two S h fun v w a b G' B' H' ⟨i, j, ea, eb, k⟩ n av aw => by
    subst ea eb
    exact ⟨i, j, by rw [av.int, aw.int], q _ _ G' B' H' k n (At.int _) trivial⟩
theorem ev_abs (h : EvW ta G fun a G1 => ∃ i, a = .d (.int i) ∧ K (.d (.int (if i < 0 then -i else i))) G1) : EvW (tCB rAbs1 (tCons ta tNil)) G K := fun B0 H0 B H σ S Q q => h B0 H0 B H σ S _ fun v x G1 B1 H1 ⟨i, ex, k⟩ n a nw => by
  subst ex
  exact ⟨i, by rw [a.int], q _ _ G1 B1 H1 k n (At.int _) trivial⟩
theorem ev_intI (h : EvW ta G fun a G1 => ∃ i, a = .d (.int i) ∧ K (.d (.int i)) G1) : EvW (tCB rInt1 (tCons ta tNil)) G K := fun B0 H0 B H σ S Q q => h B0 H0 B H σ S _ fun v x G1 B1 H1 ⟨i, ex, k⟩ n a nw => by
  subst ex
  exact .inl ⟨i, by rw [a.int], q _ _ G1 B1 H1 k n (At.int _) trivial⟩
theorem ev_intB (h : EvW ta G fun a G1 => ∃ b, a = .d (.bl b) ∧ K (.d (.int (if b then 1 else 0))) G1) : EvW (tCB rInt1 (tCons ta tNil)) G K := fun B0 H0 B H σ S Q q => h B0 H0 B H σ S _ fun v x G1 B1 H1 ⟨i, ex, k⟩ n a nw => by
  subst ex
  exact .inr ⟨i, by rw [a.bl], q _ _ G1 B1 H1 k n (At.int _) trivial⟩
theorem ev_sum (h : EvW ta G fun a G1 => ∃ ns : List Int, RdL G1 a (ns.map Dat.int) ∧ K (.d (.int ns.sum)) G1) : EvW (tCB (rSum Kf) (tCons ta tNil)) G K := fun B0 H0 B H σ S Q q => h B0 H0 B H σ S _ fun v x G1 B1 H1 ⟨ns, r, k⟩ n a nw => by
  obtain ⟨p, xs, rfl, h1, hx⟩ := r.seq n.sta a
  rw [hx.ints_inv] at h1
  exact ⟨p, ns, rfl, SqL.of h1, q _ _ G1 B1 H1 k n (At.int _) trivial⟩
theorem ev_min1 (h : EvW ta G fun a G1 => ∃ ns : List Int, RdL G1 a (ns.map Dat.int) ∧ 0 < ns.length ∧ ∀ m, m ∈ ns → (∀ y, y ∈ ns → m ≤ y) → K (.d (.int m)) G1) : EvW (tCB (rMin Kf) (tCons ta tNil)) G K := fun B0 H0 B H σ S Q q => h B0 H0 B H σ S _ fun v x G1 B1 H1 ⟨ns, r, hl, k⟩ n a nw => by
  obtain ⟨p, xs, rfl, h1, hx⟩ := r.seq n.sta a
  rw [hx.ints_inv] at h1
  exact ⟨p, ns, rfl, SqL.of h1, hl, fun m hm hle => q _ _ G1 B1 H1 (k m hm hle) n (At.int _) trivial⟩
theorem ev_all (h : EvW ta G fun a G1 => ∃ bs : List Bool, RdL G1 a (bs.map Dat.bl) ∧ K (.d (.bl (bs.all id))) G1) : EvW (tCB (rAll Kf) (tCons ta tNil)) G K := fun B0 H0 B H σ S Q q => h B0 H0 B H σ S _ fun v x G1 B1 H1 ⟨bs, r, k⟩ n a nw => by
  obtain ⟨p, xs, rfl, h1, hx⟩ := r.seq n.sta a
  rw [hx.bls_inv] at h1
  exact ⟨p, bs, rfl, SqL.of h1, q _ _ G1 B1 H1 k n (At.bl _) trivial⟩
/-- isinstance(x, T) -/
theorem ev_isi {T : String} (h : EvW ta G fun a G1 => ∃ d, a = .d d ∧ (T = "list" ∨ T = "tuple" ∨ T = "int" ∨ T = "bool" ∨ T = "str") ∧ K (.d (.bl (isD d T))) G1) : EvW (tCB (rIsi Kf) (tCons ta (tCons (tC (.ty T)) tNil))) G K := fun B0 H0 B H σ S Q q => h B0 H0 B H σ S _ fun v x G1 B1 H1 ⟨d, ex, hT, k⟩ n a nw => by
  subst ex
  exact ⟨v, .ty T, _, _, _, rfl, .ty T, tyX_of n.sta.st.sub a, kit_ty (isD_ok d T hT), q _ _ G1 B1 H1 k n (At.bl _) trivial⟩
/-- isinstance(x, (T, U)) -/
theorem ev_isi2 {T U : String} (h : EvW ta G fun a G1 => ∃ d, a = .d d ∧ (T = "list" ∨ T = "tuple" ∨ T = "int" ∨ T = "bool" ∨ T = "str") ∧ (U = "list" ∨ U = "tuple" ∨ U = "int" ∨ U = "bool" ∨ U = "str") ∧ K (.d (.bl (isD d T || isD d U))) G1) :
    EvW (tCB (rIsiT Kf) (tCons ta (tCons (tTup (tCons (tC (.ty T)) (tCons (tC (.ty U)) tNil))) tNil))) G K := fun B0 H0 B H σ S Q q => h B0 H0 B H σ S _ fun v x G1 B1 H1 ⟨d, ex, hT, hU, k⟩ n a nw => by
  subst ex
  refine ⟨by show 2 ≤ sizeLine; decide, fun p hp => ?_⟩
  have t := Step.aside n.sta.st.sub hp (o := .tup [.ty T, .ty U])
  have n2 := n.trans S (Nxt.of_step n.sta t)
  refine ⟨v, p, [.ty T, .ty U], _, [.type T, .type U], (isD d T || isD d U), rfl, upd_same, .cons (.ty T) (.cons (.ty U) .nil), tyX_of n2.sta.st.sub a, ?_, q _ _ G1 B1 _ k n2 (At.bl _) trivial⟩
  refine kitAny_cons (kit_ty (isD_ok d T hT)) (fun e => ?_) (fun e => by rw [e]; rfl)
  refine kitAny_cons (kit_ty (isD_ok d U hU)) (fun e2 => ?_) (fun e2 => by rw [e2, Bool.or_true])
  rw [e, e2]
  exact kitAny_nil
/-- list(range(n)), list(range(a, b)) -/
theorem ev_rg1 (h : EvW ta G fun a G1 => ∃ n, a = .d (.int n) ∧ RgOk 0 n ∧ K (.d (.lst ((rgI 0 n).map Dat.int))) G1) : EvW (tLstRg (tRg1 ta)) G K := fun B0 H0 B H σ S Q q => h B0 H0 B H σ S _ fun v x G1 B1 H1 ⟨n, ex, ho, k⟩ m a nw => by
  subst ex
  refine ⟨n, a.int, ho, fun p hp => ?_⟩
  have t := Step.laid m.sta.st.sub hp (o := .lst (rgV 0 n))
  exact q _ _ G1 _ _ k (m.trans S (Nxt.of_step m.sta t)) (At.lst upd_same (by rw [rgV_eq]; exact Ats.ints _)) trivial
theorem ev_rg2 (h : EvW ta G fun a G1 => EvW tb G1 fun b G2 => ∃ i j, a = .d (.int i) ∧ b = .d (.int j) ∧ RgOk i j ∧ K (.d (.lst ((rgI i j).map Dat.int))) G2) : EvW (tLstRg (tRg2 ta tb)) G K := fun B0 H0 B H σ S Q q =>
  ev_two S h fun v w a b G' B' H' ⟨i, j, ea, eb, ho, k⟩ n av aw => by
    subst ea eb
    refine ⟨i, j, av.int, aw.int, ho, fun p hp => ?_⟩
    have t := Step.laid n.sta.st.sub hp (o := .lst (rgV i j))
    exact q _ _ G' _ _ k (n.trans S (Nxt.of_step n.sta t)) (At.lst upd_same (by rw [rgV_eq]; exact Ats.ints _)) trivial

/-! ### slices -/
def PoW (to : TO) (G : Env) (K : Option Int → Env → Prop) : Prop := ∀ (B0 H0 B H : Hp) (σ : L2.St), Sta B0 H0 B H σ G → ∀ Q : Option Int → Hp → Prop, (∀ o G' B' H', K o G' → Nxt B0 H0 σ G B H G' B' H' → Q o H') → to σ H Q
theorem po_no {KO : Option Int → Env → Prop} (k : KO none G) : PoW tNoPart G KO := fun B0 H0 B H σ S Q q => q none G B H k (Nxt.refl S)
theorem po_at {KO : Option Int → Env → Prop} (h : EvW te G fun a G1 => ∃ i, a = .d (.int i) ∧ KO (some i) G1) : PoW (tPart te) G KO := fun B0 H0 B H σ S Q q => h B0 H0 B H σ S _ fun v x G1 B1 H1 ⟨i, ex, k⟩ n a nw => by
  subst ex
  exact ⟨i, a.int, q _ G1 B1 H1 k n⟩
theorem ev_slT {tl th : TO} (h : EvW te G fun a G1 => PoW tl G1 fun lo G2 => PoW th G2 fun hi G3 => ∃ ds, a = .d (.tup ds) ∧ K (.d (.tup (cutD ds lo hi))) G3) : EvW (tSl (rSlX Kf) te tl th) G K := fun B0 H0 B H σ S Q q =>
  h B0 H0 B H σ S _ fun v x G1 B1 H1 h1 n a nw => h1 B0 H0 B1 H1 σ n.sta _ fun lo G2 B2 H2 h2 n2 => h2 B0 H0 B2 H2 σ n2.sta _ fun hi G3 B3 H3 ⟨ds, ex, k⟩ n3 => by
    subst ex
    have m := (n.trans S n2).trans S n3
    have a3 : At B3 v (.tup ds) := At.mono (n2.eB.trans n3.eB) a
    obtain ⟨p, xs, rfl, hp, hx⟩ := At.tup_inv a3
    refine .inr ⟨p, xs, rfl, SqT.of (m.sta.st.sub _ _ hp), fun hw => ?_, fun _ l hl => ?_⟩
    · refine q _ _ G3 B3 H3 k m ?_ trivial
      have e : cutD ds lo hi = ds := by
        unfold cutD
        rw [← hx.len, hw.1, hw.2, List.drop_zero, Nat.sub_zero, hx.len, List.take_length]
      rw [e]
      exact a3
    · have t := Step.laid m.sta.st.sub hl (o := .tup (cutV xs lo hi))
      exact q _ _ G3 _ _ k (m.trans S (Nxt.of_step m.sta t)) (At.tup upd_same ((hx.cut lo hi).mono t.eB)) trivial
end

/-! ### what a def promises: from data to a datum, all that stood stands -/
def spP (R : List Dat → Dat → Prop) : Sp := fun vs H Q _ => ∃ (B : Hp) (ds : List Dat) (d : Dat), Same B H ∧ Ats B vs ds ∧ R ds d ∧ ∀ v B' H', Step B H B' H' → At B' v d → Q v H'
/-- the heap without what stands at u -/
def wo (H : Hp) (u : Addr) : Hp := fun a => if a = u then none else H a
theorem wo_ne {H : Hp} {u a : Addr} (h : a ≠ u) : wo H u a = H a := by unfold wo; rw [if_neg h]
theorem wo_same {H : Hp} {u : Addr} : wo H u u = none := by unfold wo; rw [if_pos rfl]
/-- the first argument is an urn (three ints, the third a count, at most k more behind the call); what comes back is any datum that R allows -/
def spU (k : Int) (Pre : List Dat → Prop) (R : List Dat → Dat → Prop) : Sp := fun vs H Q _ => ∃ (B : Hp) (u : Addr) (ws : List V) (ds : List Dat) (a b c : Int), vs = .ref u :: ws ∧ Same B H ∧ B u = none ∧ H u = some (.lst [.int a, .int b, .int c]) ∧ 0 ≤ c ∧ c ≤ 1000000 - 1000 * k ∧ Ats B ws ds ∧ Pre ds ∧
  ∀ d v B' H' a' b' c', R ds d → Step B (wo H u) B' H' → B' u = none → H' u = some (.lst [.int a', .int b', .int c']) → 0 ≤ c' → c' ≤ c + k → At B' v d → Q v H'
section
variable {G : Env} {K : Vd → Env → Prop} {tas : TA}
theorem ev_call {R : List Dat → Dat → Prop} (h : AvW tas G fun xs G1 => ∃ ds d, xs = ds.map Vd.d ∧ R ds d ∧ K (.d d) G1) : EvW (tCall (spP R) [] E0 tas) G K := fun B0 H0 B H σ S Q q => h B0 H0 B H σ S _ fun vs xs G1 B1 H1 ⟨ds, d, ex, r, k⟩ n a nw => by
  subst ex
  show spP R (vs ++ []) H1 Q E0
  rw [List.append_nil]
  exact ⟨B1, ds, d, n.sta.st.sub, a.data, r, fun v B' H' t ha => q _ _ G1 B' H' k (n.trans S (Nxt.of_step n.sta t)) ha trivial⟩
theorem ev_callU {k : Int} {Pre : List Dat → Prop} {R : List Dat → Dat → Prop} {i : Nat} {u : Addr} {a b c : Int} (e : G[i]? = some (.own u [.int a, .int b, .int c])) (h0 : 0 ≤ c) (h1 : c ≤ 1000000 - 1000 * k)
    (h : AvW tas G fun xs G1 => G1 = G ∧ ∃ ds, xs = ds.map Vd.d ∧ Pre ds ∧ ∀ d a' b' c', R ds d → 0 ≤ c' → c' ≤ c + k → K (.d d) (G.set i (.own u [.int a', .int b', .int c']))) : EvW (tCall (spU k Pre R) [] E0 (tCons (tVar i) tas)) G K := fun B0 H0 B H σ S Q q => by
  obtain ⟨e1, _⟩ := S.ok i _ e
  refine ⟨.ref u, e1, h B0 H0 B H σ S _ fun vs xs G1 B1 H1 ⟨eG, ds, ex, pre, kk⟩ n av nw => ?_⟩
  subst eG ex
  show spU k Pre R ((V.ref u :: vs) ++ []) H1 Q E0
  rw [List.append_nil]
  obtain ⟨_, u0, uB, xs, uH, ux⟩ := n.sta.ok i _ e
  have ex3 : xs = [.int a, .int b, .int c] := Ats.ints_inv (ns := [a, b, c]) ux
  subst ex3
  refine ⟨B1, u, vs, ds, a, b, c, rfl, n.sta.st.sub, uB, uH, h0, h1, av.data, pre, fun d v B' H' a' b' c' r t tu tH h2 h3 ha => ?_⟩
  have ilt : i < G1.length := (List.getElem?_eq_some_iff.mp e).1
  have ne_u : ∀ (j : Nat) (p : Addr) (es : List Dat), j ≠ i → G1[j]? = some (.own p es) → p ≠ u := fun j p es hj ej z => by
    subst z
    exact hj (n.sta.inj j i _ _ _ ej e)
  have st : Sta B0 H0 B' H' σ (G1.set i (.own u [.int a', .int b', .int c'])) := by
    refine ⟨⟨fun x o hx => ?_, n.sta.st.eB.trans t.eB, t.sub, fun x hx1 hx2 => ?_⟩, by rw [List.length_set]; exact n.sta.len, fun j s ej => ?_, fun j l p es fs ej el => ?_⟩
    · have hne : x ≠ u := ne_of_none hx u0
      exact t.eH x o (by rw [wo_ne hne]; exact n.sta.st.eH x o hx)
    · have hne : x ≠ u := fun z => hx2 (by rw [z]; exact u0)
      exact t.new x (n.sta.st.new x hx1 hx2) (by rw [wo_ne hne]; exact Same.ne n.sta.st.eH hx2)
    · by_cases hj : j = i
      · subst hj
        rw [List.getElem?_set_self ilt] at ej
        cases ej
        exact ⟨e1, u0, tu, _, tH, Ats.ints [a', b', c']⟩
      · rw [List.getElem?_set_ne (Ne.symm hj)] at ej
        have z := n.sta.ok j s ej
        cases s with
        | un => trivial
        | dat d =>
          obtain ⟨v, h1, h2⟩ := z
          exact ⟨v, h1, h2.mono t.eB⟩
        | own p es =>
          obtain ⟨h1, h2, h3, ys, h4, h5⟩ := z
          have hne := ne_u j p es hj ej
          exact ⟨h1, h2, t.new p h3 (by rw [wo_ne hne, h4]; exact fun z => nomatch z), ys, t.eH _ _ (by rw [wo_ne hne]; exact h4), h5.mono t.eB⟩
    · have old : ∀ (j : Nat) (p : Addr) (es : List Dat), (G1.set i (.own u [.int a', .int b', .int c']))[j]? = some (.own p es) → ∃ es', G1[j]? = some (.own p es') := fun j p es ej => by
        by_cases hj : j = i
        · subst hj
          rw [List.getElem?_set_self ilt] at ej
          cases ej
          exact ⟨_, e⟩
        · rw [List.getElem?_set_ne (Ne.symm hj)] at ej
          exact ⟨_, ej⟩
      obtain ⟨_, ej⟩ := old j p es ej
      obtain ⟨_, el⟩ := old l p fs el
      exact n.sta.inj j l p _ _ ej el
  have sm : SameM G1 (G1.set i (.own u [.int a', .int b', .int c'])) := fun j p => by
    by_cases hj : j = i
    · subst hj
      rw [List.getElem?_set_self ilt, e]
      exact ⟨fun ⟨ds, z⟩ => by cases z; exact ⟨_, rfl⟩, fun ⟨ds, z⟩ => by cases z; exact ⟨_, rfl⟩⟩
    · rw [List.getElem?_set_ne (Ne.symm hj)]
  have m : Nxt B0 H0 σ G1 B1 H1 (G1.set i (.own u [.int a', .int b', .int c'])) B' H' := by
    refine ⟨st, t.eB, fun x o hx hm => ?_, fun x hx1 hx2 => ?_, sm⟩
    · have hne : x ≠ u := fun z => hm ⟨i, _, by rw [z]; exact e⟩
      exact t.eH x o (by rw [wo_ne hne]; exact hx)
    · by_cases hne : x = u
      · rw [hne]
        exact tu
      · exact t.new x hx1 (by rw [wo_ne hne]; exact hx2)
  exact q _ _ _ B' H' (kk d a' b' c' r h2 h3) (n.trans S m) ha trivial
end

/-! ### a def of the text, proved -/
structure Cal (P : Program) (w : World) (K : PySem.W.Frag) (mg : Str → Option Value) (base : Heap) (k : Nat) (x : Str) (ps : List Str) (sp : Sp) : Prop where
  ex : ∃ (f : Addr) (fd : FuncData), FnOk P w K mg base CX0 k f fd ps sp ∧ mg x = some (.ref f) ∧ PySem.W.keepIn K (.ref f) = true ∧ Binds K fd ps []
theorem Cal.mono {P : Program} {w : World} {K : PySem.W.Frag} {mg : Str → Option Value} {base : Heap} {k j : Nat} {x : Str} {ps : List Str} {sp : Sp} (C : Cal P w K mg base k x ps sp) (h : k ≤ j) : Cal P w K mg base j x ps sp :=
  let ⟨f, fd, h1, h2, h3, h4⟩ := C.ex
  ⟨f, fd, h1.mono h, h2, h3, h4⟩
section
variable {X : Cx} {k : Nat} {ps : List Str} {sp : Sp} {x : Str} {p pos : Pos} {e : Expr} {es : List Expr} {t : TA}
theorem pe_callC (C : Cal X.prog X.w X.K X.mg X.base k x ps sp) (hr : Room k X.A) (hg : Gl X x) (ha : PA X (e :: es) t) (hdb : (x == ("__debug__" : Str)) = false := by decide) (he : starEach (e :: es) X.env = (false, eval e X.env) :: starEach es X.env := by rfl) (hpl : (backTo pos (starEach es X.env)).any (·.1) = false := by rfl) :
    PE X (.Call (.Name x p) (e :: es) [] pos) (tCall sp [] E0 t) := by
  obtain ⟨f, fd, h1, h2, h3, h4⟩ := C.ex
  exact pe_call h1 hr hg h2 h3 h4 .nil pass0 ha hdb he hpl
theorem pe_callC0 (C : Cal X.prog X.w X.K X.mg X.base k x ps sp) (hr : Room k X.A) (hg : Gl X x) (hdb : (x == ("__debug__" : Str)) = false := by decide) : PE X (.Call (.Name x p) [] [] pos) (tCall sp [] E0 tNil) := by
  obtain ⟨f, fd, h1, h2, h3, h4⟩ := C.ex
  exact pe_call0 h1 hr hg h2 h3 h4 .nil pass0 hdb
end
end Mn
namespace Mn
open PySem PySem.Spec PyProof.Rows L2
/-! ### enumerate over a tuple -/
theorem meets_enum1 {v : Value} {o : Obj} {H : Heap → Prop} (B : Begins v o H) :
    Meets (Builtin.«enumerate.__new__» ⟨[.type "enumerate", v], []⟩) (fun _ R s => H s.heap ∧
      R (.ok (.ret (.ref (s.heap.push o).objs.size))) { s with heap := (s.heap.push o).push { cls := .type "enumerate", data := .fields #[.none, .bool false, .ref s.heap.objs.size, rawInt 0, .none, .none] } }) :=
  .of_wp fun prog w A R s h => by
    obtain ⟨hp, g, d, tk, os⟩ := s; obtain ⟨h1, h⟩ := h
    have hsub := sub_enumerate
    have q1 : ∀ {A' : Around} {E : Value → Shared → Prop} {Q : Value → Shared → Prop}, Q (.ref hp.objs.size) ⟨hp.push o, g, d, tk, os⟩ → wpAny (model prog w) A' (pyIter v) Q E ⟨hp, g, d, tk, os⟩ :=
      fun q => B.iter prog w _ _ ⟨hp, g, d, tk, os⟩ _ h1 q
    wp_walk using q1
    refine wpAny_stack_any fun st => wpAny_pure ?_
    split
    · rename_i c _ _ _ _ _
      cases (c == Value.type "enumerate")
      · wp_walk using q1
        exact ⟨_, rfl, h⟩
      · wp_walk using q1
        exact ⟨_, rfl, h⟩
    · wp_walk using q1
      exact ⟨_, rfl, h⟩
section
variable {prog : Program} {w : World} {A : Around} {E : Value → Shared → Prop} {s : Shared}
theorem enum_begins1 {v : Value} {o : Obj} {H : Heap → Prop} {Q : Value → Shared → Prop} (B : Begins v o H) (h1 : H s.heap)
    (h : ∀ h', IsEnum h' (s.heap.objs.size + 1) s.heap.objs.size 0 .none → h'.get? s.heap.objs.size = some o → h'.objs.size = s.heap.objs.size + 2 →
      (∀ b o, s.heap.get? b = some o → h'.get? b = some o) → Q (.ref (s.heap.objs.size + 1)) { s with heap := h' }) :
    wpAny (model prog w) A (PySem.call (.type "enumerate") [v]) Q E s := by
  refine callType_new F.called_enumerate (by decide) (F.typeCall_enumerate_1 _) (F.newCall_enumerate_1 _) (fun obj => F.args_object_init_2 obj _) F.entry_enumerate_new
    (meets_enum1 B) ⟨h1, ?_⟩
  have hz : (s.heap.push o).objs.size = s.heap.objs.size + 1 := Heap.size_push ..
  show _ ∧ _
  rw [hz]
  have he : IsEnum ((s.heap.push o).push { cls := .type "enumerate", data := .fields #[.none, .bool false, .ref s.heap.objs.size, rawInt 0, .none, .none] }) (s.heap.objs.size + 1) s.heap.objs.size 0 .none := by
    have := Heap.get?_push_size (s.heap.push o) (o := { cls := .type "enumerate", data := .fields #[.none, .bool false, .ref s.heap.objs.size, rawInt 0, .none, .none] }) rfl
    rw [hz] at this; exact this
  refine ⟨⟨_, he, rfl⟩, h _ he (Heap.get?_push_of_some _ (Heap.get?_push_size _ B.free)) (by rw [Heap.size_push, hz]) fun b o x => Heap.get?_push_of_some _ (Heap.get?_push_of_some _ x)⟩
end
/-- the tuple at a, each item in a new pair with its place -/
def IteT (K : PySem.W.Frag) (a : Addr) : It :=
  ⟨fun i H => ∃ (xs : List V) (x : V), SqT K H a xs ∧ xs[i]? = some x, fun i H v H' => ∃ T x, v = .ref T ∧ H T = none ∧ H' = upd H T (.tup [.int (i : Nat), x]) ∧ ∀ xs, SqT K H a xs → xs[i]? = some x, fun i H => ∃ xs : List V, SqT K H a xs ∧ xs.length = i⟩
theorem turn_enumT {P : Program} {w : World} {K : PySem.W.Frag} {elts : List Expr} {kk : Nat} {tpos : Pos} (a e it : Addr) (hai : a ≠ it) (hea : e ≠ a) :
    Turn P w K (.Tuple elts kk tpos) (IteT K a) [e, it] e (fun i h => (∃ old, IsEnum h e it ((i : Nat) : Int) old) ∧ h.IsTupleIter it a i ∧ e ≠ it) where
  mem := by simp
  obj := fun i h st b hb => by
    obtain ⟨⟨old, he⟩, ⟨o, ho, hc, hd⟩, _⟩ := st
    have e' : b = e ∨ b = it := by simpa using hb
    rcases e' with z | z
    · rw [z]; exact ⟨_, he, fun v q => nomatch q⟩
    · rw [z]; exact ⟨o, ho, fun v q => by rw [hd] at q; cases q⟩
  keep := fun i h h' st k => let ⟨⟨old, he⟩, hi, hne⟩ := st; ⟨⟨old, k e (by simp) _ he⟩, hi.at fun o q => k it (by simp) o q, hne⟩
  item := by
    intro X hP hw hK hc i pins s σ H E I hf st hg
    subst hP hw hK
    obtain ⟨⟨old, he⟩, hit, hne⟩ := st
    obtain ⟨xs, x, hq, hx⟩ := hg
    obtain ⟨its, rv, p, hz⟩ := I.tuple hq
    obtain ⟨u, hu, ru⟩ := rv.get hx
    have hel : e < s.heap.objs.size := Heap.lt_size he
    have hil : it < s.heap.objs.size := by obtain ⟨_, q, _⟩ := hit; exact Heap.lt_size q
    have hn : i < its.toArray.size := by
      have := (List.getElem?_eq_some_iff.mp hu).1
      simpa using this
    refine wpAny_pyNext_enum_itemC (Draws.tuple (A := X.A.in1) (I.ok.hd hc) it a hai its.toArray) he ⟨hit, p⟩ hn hne (by simp [hne, hea]) fun x' h' tk hPx ho hit' hT hsz hk => ?_
    have ex : x' = u := by
      have h1 : its.toArray[i]? = some x' := hPx
      have h2 : its.toArray[i]? = some u := by simpa using hu
      rw [h1] at h2
      exact Option.some.inj h2
    subst ex
    refine ⟨_, rfl, wpAny_letOwnedTupleGo_enum (s := { s with heap := h', toks := tk + 1 }) ho fun h'' he' sb => ?_⟩
    have hT2 : h''.get? s.heap.objs.size = some { cls := .type "tuple", data := .seq #[.int i tk, x'] } := (sb.2 _ (Nat.ne_of_gt hel)).trans hT
    have new : ObjOk X.prog X.w (upd H s.heap.objs.size (.tup [.int (i : Nat), x])) h'' s.heap.objs.size (.tup [.int (i : Nat), x]) :=
      ⟨by show 2 ≤ sizeLine; decide, [.int i tk, x'], .cons ⟨_, rfl⟩ (.cons ru .nil), ⟨_, hT2, rfl, _, rfl⟩⟩
    have I1 : Inv X pins σ (upd H s.heap.objs.size (.tup [.int (i : Nat), x])) { s with heap := h'', toks := tk + 1 } :=
      I.turnedNew (ch := [e, it]) (fun b ob hb q => (sb.2 b (fun z => hb (by simp [z]))).trans (hk b ob (fun z => hb (by simp [z])) (fun z => hb (by simp [z])) q)) hf (Nat.le_refl _) new
    refine ⟨.ref s.heap.objs.size, _, I1, rfl, ⟨_, x, rfl, I.hok.fresh (Nat.le_refl _), rfl, fun ys hy => by rw [I.tuple_inj hy hq]; exact hx⟩, ⟨⟨x', ?_⟩, hit'.1.at fun o q => (sb.2 it (Ne.symm hne)).trans q, hne⟩, fun b hb => ?_⟩
    · have e1 : ((i + 1 : Nat) : Int) = (i : Int) + 1 := by omega
      rw [e1]; exact he'
    · have hb' : b < s.heap.objs.size := by
        have e' : b = e ∨ b = it := by simpa using hb
        rcases e' with z | z
        · rw [z]; exact hel
        · rw [z]; exact hil
      rw [upd_ne (Nat.ne_of_lt hb')]
      exact (hf b hb).1
  done := by
    intro X hP hw hK hc i pins s σ H E I hf st hg
    subst hP hw hK
    obtain ⟨⟨old, he⟩, hit, hne⟩ := st
    obtain ⟨xs, hq, hx⟩ := hg
    obtain ⟨its, rv, p, hz⟩ := I.tuple hq
    obtain ⟨f0, f1, f2, f3, f4, f5⟩ := hf it (by simp)
    have hl := rv.length
    have hsz : its.toArray.size = i := by rw [List.size_toArray, ← hl, hx]
    refine wpAny_pyNext_enum_endD (i := (i : Int)) (Draws.tuple (A := X.A.in1) (I.ok.hd hc) it a hai its.toArray) he ⟨by rw [hsz]; exact hit, p⟩ fun h' eb => ⟨rfl, I.turned (t' := s.toks) (fun b o hb q => eb b o hb q) f0 f1 f3 f4 f5⟩
  self := fun A i s Q E st h => let ⟨⟨_, he⟩, _⟩ := st; wpAny_pyIter_enum he h
def iEnumT (K : PySem.W.Frag) (ta : TA) : TI := fun σ H R => ta σ H fun vs H1 => ∃ a xs, vs = [.ref a] ∧ SqT K H1 a xs ∧ R (IteT K a) H1
theorem pi_enumT {X : Cx} {e : Expr} {ta : TA} {p pos tpos : Pos} {elts : List Expr} {kk : Nat} (hg : Gl X "enumerate") (hm : X.mg "enumerate" = none) (ha : PA X [e] ta) (hs : starEach [e] X.env = [(false, eval e X.env)] := by rfl) :
    PI X (.Tuple elts kk tpos) (.Call (.Name "enumerate" p) [e] [] pos) (iEnumT X.K ta) := by
  refine ⟨fun pins s σ H R I h => ?_⟩
  refine Call_ (ld_blt I hg hm boot_enumerate (PyProof.Rows.callWith_type1 (thn (ha.run pos pins s σ H _ I h) fun us s1 ⟨vs, H1, I1, r1, q1⟩ => ?_) hs rfl))
  obtain ⟨a, xs, ex, hq, q⟩ := q1
  subst ex
  cases r1 with
  | cons r rr =>
    cases rr
    cases r
    obtain ⟨its, rv, p', hz⟩ := I1.tuple hq
    obtain ⟨oa, hoa, _⟩ := id p'
    have hlt : a < s1.heap.objs.size := Heap.lt_size hoa
    refine enum_begins1 (begins_tuple a its.toArray) p' fun h' he hit hsz hk => wpAny_pyIter_enum he ?_
    have I2 : Inv X pins σ H1 { s1 with heap := h' } := I1.kept (t' := s1.toks) hk
    refine ⟨s1.heap.objs.size + 1, [s1.heap.objs.size + 1, s1.heap.objs.size], _, _, H1, rfl, I2, turn_enumT a (s1.heap.objs.size + 1) s1.heap.objs.size (Nat.ne_of_lt hlt) (Nat.ne_of_gt (Nat.lt_succ_of_lt hlt)), ⟨⟨.none, he⟩, ⟨_, hit, rfl, rfl⟩, Nat.succ_ne_self _⟩, fun b hb => ?_, q⟩
    have e' : b = s1.heap.objs.size + 1 ∨ b = s1.heap.objs.size := by simpa using hb
    have hle : s1.heap.objs.size ≤ b := by
      rcases e' with z | z
      · rw [z]; exact Nat.le_add_right _ _
      · rw [z]; exact Nat.le_refl _
    exact I1.fpOk hle (I1.hok.fresh hle)

/-! ### zip of a list and a tuple -/
def ItzM (K : PySem.W.Frag) (a b : Addr) : It :=
  ⟨fun i H => ∃ (xs ys : List V) (x y : V), SqL K H a xs ∧ SqT K H b ys ∧ xs[i]? = some x ∧ ys[i]? = some y,
    fun i H v H' => ∃ T x y, v = .ref T ∧ H T = none ∧ H' = upd H T (.tup [x, y]) ∧ (∀ xs, SqL K H a xs → xs[i]? = some x) ∧ ∀ ys, SqT K H b ys → ys[i]? = some y,
    fun i H => ∃ xs ys : List V, SqL K H a xs ∧ SqT K H b ys ∧ i ≤ xs.length ∧ i ≤ ys.length ∧ (i = xs.length ∨ i = ys.length)⟩
theorem sep_of {z TI TO i1 i2 a b : Addr} (D : ZipApart z TI TO i1 i2 a b) : ZipSep2 z TI TO i1 i2 [i1, a] [i2, b] where
  TIz := D.TIz
  TOz := D.TOz
  TITO := D.TITO
  TIi1 := D.TIi1
  mem1 := by simp
  zf1 := by simp [D.i1z.symm, D.l1z.symm]
  Tf1 := by simp [D.TOi1, D.l1TO.symm]
  TIi2 := D.TIi2
  mem2 := by simp
  zf2 := by simp [D.i2z.symm, D.l2z.symm]
  Tf2 := by simp [D.TOi2, D.l2TO.symm]
  sep1_2 := by simp [D.i12, D.l2i1.symm]
  sep2_1 := by simp [D.i12.symm, D.l1i2.symm]
theorem turn_zipM {P : Program} {w : World} {K : PySem.W.Frag} {elts : List Expr} {kk : Nat} {tpos : Pos} {a b z TI TO i1 i2 : Addr} (D : ZipApart z TI TO i1 i2 a b) :
    Turn P w K (.Tuple elts kk tpos) (ItzM K a b) [z, TI, TO, i1, i2] z (fun i h => IsZip h z TI TO .none ∧ IsPair h TI (.ref i1) (.ref i2) ∧ (∃ x y, IsPair h TO x y) ∧ h.IsListIter i1 a i ∧ h.IsTupleIter i2 b i) where
  mem := by simp
  obj := fun i h st c hc => by
    obtain ⟨hz, hTI, ⟨x, y, hTO⟩, ⟨o1, e1, _, d1⟩, ⟨o2, e2, _, d2⟩⟩ := st
    have e' : c = z ∨ c = TI ∨ c = TO ∨ c = i1 ∨ c = i2 := by simpa using hc
    rcases e' with q | q | q | q | q
    · rw [q]; exact ⟨_, hz, fun v q => nomatch q⟩
    · rw [q]; exact ⟨_, hTI, fun v q => nomatch q⟩
    · rw [q]; exact ⟨_, hTO, fun v q => nomatch q⟩
    · rw [q]; exact ⟨o1, e1, fun v q => by rw [d1] at q; cases q⟩
    · rw [q]; exact ⟨o2, e2, fun v q => by rw [d2] at q; cases q⟩
  keep := fun i h h' st k => by
    obtain ⟨hz, hTI, ⟨x, y, hTO⟩, h1, h2⟩ := st
    exact ⟨k z (by simp) _ hz, k TI (by simp) _ hTI, ⟨x, y, k TO (by simp) _ hTO⟩, h1.at fun o q => k i1 (by simp) o q, h2.at fun o q => k i2 (by simp) o q⟩
  item := by
    intro X hP hw hK hc i pins s σ H E I hf st hg
    subst hP hw hK
    obtain ⟨hz, hTI, ⟨x0, y0, hTO⟩, h1, h2⟩ := st
    obtain ⟨xs, ys, x, y, hqx, hqy, hx, hy⟩ := hg
    obtain ⟨its, rv, p, _⟩ := I.list hqx
    obtain ⟨its2, rv2, p2, _⟩ := I.tuple hqy
    obtain ⟨u, hu, ru⟩ := rv.get hx
    obtain ⟨u2, hu2, ru2⟩ := rv2.get hy
    have hzl : z < s.heap.objs.size := Heap.lt_size hz
    have n1 : i < its.toArray.size := by
      have := (List.getElem?_eq_some_iff.mp hu).1
      simpa using this
    have n2 : i < its2.toArray.size := by
      have := (List.getElem?_eq_some_iff.mp hu2).1
      simpa using this
    refine wpAny_pyNext_zipD2_item (sep_of D) (Draws.list (A := X.A.in1) (I.ok.hd hc) i1 a D.l1i1 its.toArray) (Draws.tuple (A := X.A.in1) (I.ok.hd hc) i2 b D.l2i2 its2.toArray) hz hTI hTO ⟨h1, p.isList⟩ ⟨h2, p2⟩ n1 n2 fun v1 v2 h' tk P1 P2 z' TO' h1' h2' hT hsz hk => ?_
    have e1 : v1 = u := by
      have q1 : its.toArray[i]? = some v1 := P1
      have q2 : its.toArray[i]? = some u := by simpa using hu
      rw [q1] at q2
      exact Option.some.inj q2
    have e2 : v2 = u2 := by
      have q1 : its2.toArray[i]? = some v2 := P2
      have q2 : its2.toArray[i]? = some u2 := by simpa using hu2
      rw [q1] at q2
      exact Option.some.inj q2
    subst e1 e2
    refine ⟨_, rfl, wpAny_letOwnedTupleGo_zip (s := { s with heap := h', toks := tk }) z' fun h'' z'' sb => ?_⟩
    have hT2 : h''.get? s.heap.objs.size = some { cls := .type "tuple", data := .seq #[v1, v2] } := (sb.2 _ (Nat.ne_of_gt hzl)).trans hT
    have new : ObjOk X.prog X.w (upd H s.heap.objs.size (.tup [x, y])) h'' s.heap.objs.size (.tup [x, y]) :=
      ⟨by show 2 ≤ sizeLine; decide, [v1, v2], .cons ru (.cons ru2 .nil), ⟨_, hT2, rfl, _, rfl⟩⟩
    have I1 : Inv X pins σ (upd H s.heap.objs.size (.tup [x, y])) { s with heap := h'', toks := tk } :=
      I.turnedNew (t' := tk) (ch := [z, TI, TO, i1, i2]) (fun c o hb q => (sb.2 c (fun q' => hb (by simp [q']))).trans (hk c o (fun q' => hb (by simp [q'])) (fun q' => hb (by simp [q'])) (fun q' => hb (by simp [q'])) (fun q' => hb (by simp [q'])) q)) hf (Nat.le_refl _) new
    refine ⟨.ref s.heap.objs.size, _, I1, rfl, ⟨_, x, y, rfl, I.hok.fresh (Nat.le_refl _), rfl, fun l hl => by rw [I.list_inj hl hqx]; exact hx, fun l hl => by rw [I.tuple_inj hl hqy]; exact hy⟩, ⟨z'', ?_, ⟨v1, v2, ?_⟩, ?_, ?_⟩, fun c hcm => ?_⟩
    · exact (sb.2 _ D.TIz).trans (hk _ _ D.TIz D.TITO D.TIi1 D.TIi2 hTI)
    · exact (sb.2 _ D.TOz).trans TO'
    · exact h1'.1.at fun o q => (sb.2 _ D.i1z).trans q
    · exact h2'.1.at fun o q => (sb.2 _ D.i2z).trans q
    · have hlt : c < s.heap.objs.size := by
        have e' : c = z ∨ c = TI ∨ c = TO ∨ c = i1 ∨ c = i2 := by simpa using hcm
        rcases e' with q | q | q | q | q
        · rw [q]; exact hzl
        · rw [q]; exact Heap.lt_size hTI
        · rw [q]; exact Heap.lt_size hTO
        · rw [q]; obtain ⟨_, e1, _⟩ := h1; exact Heap.lt_size e1
        · rw [q]; obtain ⟨_, e2, _⟩ := h2; exact Heap.lt_size e2
      rw [upd_ne (Nat.ne_of_lt hlt)]
      exact (hf c hcm).1
  done := by
    intro X hP hw hK hc i pins s σ H E I hf st hg
    subst hP hw hK
    obtain ⟨hz, hTI, ⟨x0, y0, hTO⟩, h1, h2⟩ := st
    obtain ⟨xs, ys, hqx, hqy, le1, le2, hend⟩ := hg
    obtain ⟨its, rv, p, _⟩ := I.list hqx
    obtain ⟨its2, rv2, p2, _⟩ := I.tuple hqy
    have l1 := rv.length
    have l2 := rv2.length
    have s1 : its.toArray.size = xs.length := by rw [List.size_toArray, l1]
    have s2 : its2.toArray.size = ys.length := by rw [List.size_toArray, l2]
    exact wpAny_pyNext_zipD2_end (sep_of D) (Draws.list (A := X.A.in1) (I.ok.hd hc) i1 a D.l1i1 its.toArray) (Draws.tuple (A := X.A.in1) (I.ok.hd hc) i2 b D.l2i2 its2.toArray) hz hTI hTO ⟨h1, p.isList⟩ ⟨h2, p2⟩ (by rw [s1]; exact le1) (by rw [s2]; exact le2) (by rw [s1, s2]; exact hend)
      fun h' tk hk => ⟨rfl, I.turnedL (t' := tk) (ch := [z, TI, TO, i1, i2]) (fun c o hb q =>
      hk c o (fun q' => hb (by simp [q'])) (fun q' => hb (by simp [q'])) (fun q' => hb (by simp [q'])) (fun q' => hb (by simp [q'])) q) hf⟩
  self := fun A i s Q E st h => wpAny_pyIter_zip st.1 h
def iZipM (K : PySem.W.Frag) (ta : TA) : TI := fun σ H R => ta σ H fun vs H1 => ∃ a b xs ys, vs = [.ref a, .ref b] ∧ SqL K H1 a xs ∧ SqT K H1 b ys ∧ R (ItzM K a b) H1
theorem pi_zipM {X : Cx} {e e2 : Expr} {ta : TA} {p pos tpos : Pos} {elts : List Expr} {kk : Nat} (hg : Gl X "zip") (hm : X.mg "zip" = none) (ha : PA X [e, e2] ta)
    (hs : starEach [e, e2] X.env = (false, eval e X.env) :: starEach [e2] X.env := by rfl) (hpl : (backTo pos (starEach [e2] X.env)).any (·.1) = false := by rfl) :
    PI X (.Tuple elts kk tpos) (.Call (.Name "zip" p) [e, e2] [] pos) (iZipM X.K ta) := by
  refine ⟨fun pins s σ H R I h => ?_⟩
  refine Call_ (ld_blt I hg hm PyProof.Rows.boot_zip (PyProof.Rows.callWith_type1 (thn (ha.run pos pins s σ H _ I h) fun us s1 ⟨vs, H1, I1, r1, q1⟩ => ?_) hs hpl))
  obtain ⟨a, b, xs, ys, ex, hqx, hqy, q⟩ := q1
  subst ex
  cases r1 with
  | cons r rr =>
    cases rr with
    | cons r' rr =>
      cases rr
      cases r
      cases r'
      have fresh5 : ∀ c, c ∈ [s1.heap.objs.size + 4, s1.heap.objs.size + 2, s1.heap.objs.size + 3, s1.heap.objs.size, s1.heap.objs.size + 1] → FpOk X pins H1 c := fun c hcm => by
        have e' : c = s1.heap.objs.size + 4 ∨ c = s1.heap.objs.size + 2 ∨ c = s1.heap.objs.size + 3 ∨ c = s1.heap.objs.size ∨ c = s1.heap.objs.size + 1 := by simpa using hcm
        have hle : s1.heap.objs.size ≤ c := by
          rcases e' with z | z | z | z | z
          · rw [z]; exact Nat.le_add_right _ _
          · rw [z]; exact Nat.le_add_right _ _
          · rw [z]; exact Nat.le_add_right _ _
          · rw [z]; exact Nat.le_refl _
          · rw [z]; exact Nat.le_add_right _ _
        exact I1.fpOk hle (I1.hok.fresh hle)
      obtain ⟨its, rv, p1, _⟩ := I1.list hqx
      obtain ⟨its2, rv2, p2, _⟩ := I1.tuple hqy
      obtain ⟨o2, ho2, _⟩ := id p2
      refine zip_begins2 (begins_list a its.toArray) (begins_tuple b its2.toArray) p1.isList p2 fun h' hz hTI hTO h1 h2 hsz hk => wpAny_pyIter_zip hz ?_
      have I2 : Inv X pins σ H1 { s1 with heap := h' } := I1.kept (t' := s1.toks) hk
      exact ⟨s1.heap.objs.size + 4, [s1.heap.objs.size + 4, s1.heap.objs.size + 2, s1.heap.objs.size + 3, s1.heap.objs.size, s1.heap.objs.size + 1], _, _, H1, rfl, I2, turn_zipM (PySem.W.ktu_apart s1.heap.objs.size a b p1.lt (Heap.lt_size ho2)), ⟨hz, hTI, ⟨_, _, hTO⟩, ⟨_, h1, rfl, rfl⟩, ⟨_, h2, rfl, rfl⟩⟩, fresh5, q⟩

/-! ### one of two ways to walk -/
theorem PI.or {X : Cx} {tg e : Expr} {w1 w2 : TI} (h1 : PI X tg e w1) (h2 : PI X tg e w2) : PI X tg e (fun σ H R => w1 σ H R ∨ w2 σ H R) :=
  ⟨fun pins s σ H R I h => h.elim (h1.run pins s σ H R I) (h2.run pins s σ H R I)⟩
/-- reading an item of a list, for xs[i] op= e -/
def rGetL (K : PySem.W.Frag) : R2 := fun x y H Q => ∃ p xs i v, x = .ref p ∧ y = .int i ∧ 0 ≤ i ∧ SqL K H p xs ∧ xs[i.toNat]? = some v ∧ Q v H
theorem get_list {X : Cx} : PGet X (rGetL X.K) := by
  intro pins s σ H x y v u Q I r1 r2 h
  obtain ⟨p, xs, i, z, rfl, rfl, h0, hq, hx, q⟩ := h
  cases r1
  obtain ⟨t, rfl⟩ := r2
  obtain ⟨its, r, pl, hz⟩ := I.list hq
  obtain ⟨w, ew, rw'⟩ := r.get hx
  have hl := r.length
  have hn := line63
  have hlt := (List.getElem?_eq_some_iff.mp hx).1
  exact wpAny_getItem_list pl.isList h0 (by omega) (by simpa using ew) ⟨z, H, I, rw', q⟩
end Mn
namespace Mn
open PySem PySem.Spec PyProof.Rows L2

/-! ### what is walked -/
def Yld (J : It) (B : Hp) (xs : List Dat) : Prop := ∀ (i : Nat) (B1 H1 : Hp), Same B B1 → Same B1 H1 →
  (∀ d, xs[i]? = some d → J.go i H1 ∧ ∀ x H2, J.yld i H1 x H2 → ∃ B2, Step B1 H1 B2 H2 ∧ At B2 x d) ∧ (xs.length = i → J.stop i H1)
def SrcW (wi : TI) (G : Env) (KS : List Dat → Env → Prop) : Prop := ∀ (B0 H0 B H : Hp) (σ : L2.St), Sta B0 H0 B H σ G → ∀ R : It → Hp → Prop,
  (∀ J xs G' B' H', KS xs G' → Nxt B0 H0 σ G B H G' B' H' → Yld J B' xs → R J H') → wi σ H R
def iSeq (K : PySem.W.Frag) (tl : TE) : TI := fun σ H R => iList K tl σ H R ∨ iTup K tl σ H R
theorem pi_seq {X : Cx} {tg l : Expr} {tl : TE} (hl : PE X l tl) : PI X tg l (iSeq X.K tl) := PI.or (pi_list hl) (pi_tup hl)
def iEnumA (K : PySem.W.Frag) (ta : TA) : TI := fun σ H R => iEnum K ta σ H R ∨ iEnumT K ta σ H R
theorem pi_enumA {X : Cx} {e : Expr} {ta : TA} {p pos tpos : Pos} {elts : List Expr} {kk : Nat} (hg : Gl X "enumerate") (hm : X.mg "enumerate" = none) (ha : PA X [e] ta) (hs : starEach [e] X.env = [(false, eval e X.env)] := by rfl) :
    PI X (.Tuple elts kk tpos) (.Call (.Name "enumerate" p) [e] [] pos) (iEnumA X.K ta) := PI.or (pi_enum hg hm ha hs) (pi_enumT hg hm ha hs)
def iZipX (K : PySem.W.Frag) (ta : TA) : TI := fun σ H R => RZ.iZipA K ta σ H R ∨ iZipM K ta σ H R
theorem pi_zipX {X : Cx} {e e2 : Expr} {ta : TA} {p pos tpos : Pos} {elts : List Expr} {kk : Nat} (hg : Gl X "zip") (hm : X.mg "zip" = none) (ha : PA X [e, e2] ta)
    (hs : starEach [e, e2] X.env = (false, eval e X.env) :: starEach [e2] X.env := by rfl) (hpl : (backTo pos (starEach [e2] X.env)).any (·.1) = false := by rfl) :
    PI X (.Tuple elts kk tpos) (.Call (.Name "zip" p) [e, e2] [] pos) (iZipX X.K ta) := PI.or (RZ.pi_zipA hg hm ha hs hpl) (pi_zipM hg hm ha hs hpl)
def enumD (ds : List Dat) : List Dat := ds.mapIdx fun i d => .tup [.int (i : Nat), d]
def zipD (ds es : List Dat) : List Dat := List.zipWith (fun a b => .tup [a, b]) ds es
theorem enumD_get (ds : List Dat) (i : Nat) : (enumD ds)[i]? = ds[i]?.map fun d => .tup [.int (i : Nat), d] := by
  unfold enumD
  rw [List.getElem?_mapIdx]
theorem enumD_len (ds : List Dat) : (enumD ds).length = ds.length := by
  unfold enumD
  rw [List.length_mapIdx]
theorem zipD_len (ds es : List Dat) : (zipD ds es).length = min ds.length es.length := by
  unfold zipD
  rw [List.length_zipWith]
theorem zipD_get {ds es : List Dat} {i : Nat} {d : Dat} (h : (zipD ds es)[i]? = some d) : ∃ a b, ds[i]? = some a ∧ es[i]? = some b ∧ d = .tup [a, b] := by
  unfold zipD at h
  rw [List.getElem?_zipWith] at h
  cases h1 : ds[i]? with
  | none => rw [h1] at h; cases h
  | some a =>
    cases h2 : es[i]? with
    | none => rw [h1, h2] at h; cases h
    | some b =>
      rw [h1, h2] at h
      exact ⟨a, b, rfl, rfl, (Option.some.inj h).symm⟩
/-- a, a - 1, .. above b -/
def dnI (a b : Int) : List Int := (List.range (a - b).toNat).map fun i => a - (i : Nat)

section
variable {G : Env} {KS : List Dat → Env → Prop} {ta tb tl : TE} {Kf : PySem.W.Frag}
theorem yld_list {B : Hp} {a : Addr} {vs : List V} {ds : List Dat} (h : B a = some (.lst vs)) (hx : Ats B vs ds) : Yld (Itl Kf a) B ds := fun i B1 H1 e1 e2 => by
  have hH := e2 _ _ (e1 _ _ h)
  refine ⟨fun d hd => ?_, fun hl => ⟨vs, SqL.of hH, by rw [hx.len, hl]; exact Nat.le_refl _⟩⟩
  obtain ⟨v, hv, av⟩ := hx.get hd
  refine ⟨⟨vs, v, SqL.of hH, hv⟩, fun x H2 ⟨eH, hy⟩ => ?_⟩
  have := hy vs (SqL.of (by exact hH))
  rw [hv] at this
  cases this
  subst eH
  exact ⟨B1, Step.refl e2, av.mono e1⟩
theorem yld_tup {B : Hp} {a : Addr} {vs : List V} {ds : List Dat} (h : B a = some (.tup vs)) (hx : Ats B vs ds) : Yld (Itt Kf a) B ds := fun i B1 H1 e1 e2 => by
  have hH := e2 _ _ (e1 _ _ h)
  refine ⟨fun d hd => ?_, fun hl => ⟨vs, SqT.of hH, by rw [hx.len, hl]; exact Nat.le_refl _⟩⟩
  obtain ⟨v, hv, av⟩ := hx.get hd
  refine ⟨⟨vs, v, SqT.of hH, hv⟩, fun x H2 ⟨eH, hy⟩ => ?_⟩
  have := hy vs (SqT.of (by exact hH))
  rw [hv] at this
  cases this
  subst eH
  exact ⟨B1, Step.refl e2, av.mono e1⟩
theorem sr_lst (h : EvW tl G fun a G1 => ∃ ds, a = .d (.lst ds) ∧ KS ds G1) : SrcW (iSeq Kf tl) G KS := fun B0 H0 B H σ S R q => .inl (h B0 H0 B H σ S _ fun v x G1 B1 H1 ⟨ds, ex, k⟩ n a nw => by
  subst ex
  obtain ⟨p, vs, rfl, h1, h2⟩ := At.lst_inv a
  exact ⟨p, rfl, ⟨vs, SqL.of (n.sta.st.sub _ _ h1)⟩, q _ _ G1 B1 H1 k n (yld_list h1 h2)⟩)
theorem sr_tup (h : EvW tl G fun a G1 => ∃ ds, a = .d (.tup ds) ∧ KS ds G1) : SrcW (iSeq Kf tl) G KS := fun B0 H0 B H σ S R q => .inr (h B0 H0 B H σ S _ fun v x G1 B1 H1 ⟨ds, ex, k⟩ n a nw => by
  subst ex
  obtain ⟨p, vs, rfl, h1, h2⟩ := At.tup_inv a
  exact ⟨p, rfl, ⟨vs, SqT.of (n.sta.st.sub _ _ h1)⟩, q _ _ G1 B1 H1 k n (yld_tup h1 h2)⟩)
/-- a new pair, given out -/
theorem step_pair {B1 H1 : Hp} {T : Addr} {x y : V} {a b : Dat} (e2 : Same B1 H1) (hT : H1 T = none) (hx : At B1 x a) (hy : At B1 y b) : Step B1 H1 (upd B1 T (.tup [x, y])) (upd H1 T (.tup [x, y])) ∧ At (upd B1 T (.tup [x, y])) (.ref T) (.tup [a, b]) := by
  have t := Step.laid e2 hT (o := .tup [x, y])
  exact ⟨t, .tup upd_same (.cons (hx.mono t.eB) (.cons (hy.mono t.eB) .nil))⟩
theorem sr_enL (h : EvW tl G fun a G1 => ∃ ds, a = .d (.lst ds) ∧ KS (enumD ds) G1) : SrcW (iEnumA Kf (tCons tl tNil)) G KS := fun B0 H0 B H σ S R q => .inl (h B0 H0 B H σ S _ fun v x G1 B1 H1 ⟨ds, ex, k⟩ n a nw => by
  subst ex
  obtain ⟨p, vs, rfl, h1, h2⟩ := At.lst_inv a
  refine ⟨p, vs, rfl, SqL.of (n.sta.st.sub _ _ h1), q _ _ G1 B1 H1 k n fun i C1 C e1 e2 => ?_⟩
  have hH := e2 _ _ (e1 _ _ h1)
  refine ⟨fun d hd => ?_, fun hl => ⟨vs, SqL.of hH, by rw [h2.len, ← enumD_len, hl]; exact Nat.le_refl _⟩⟩
  rw [enumD_get] at hd
  obtain ⟨d0, hd0, rfl⟩ := Option.map_eq_some_iff.mp hd
  obtain ⟨v, hv, av⟩ := h2.get hd0
  refine ⟨⟨vs, v, SqL.of hH, hv⟩, fun x H2 ⟨T, y, ex, hT, eH, hy⟩ => ?_⟩
  have := hy vs (SqL.of hH)
  rw [hv] at this
  cases this
  subst ex eH
  exact ⟨_, step_pair e2 hT (At.int _) (av.mono e1)⟩)
theorem sr_enT (h : EvW tl G fun a G1 => ∃ ds, a = .d (.tup ds) ∧ KS (enumD ds) G1) : SrcW (iEnumA Kf (tCons tl tNil)) G KS := fun B0 H0 B H σ S R q => .inr (h B0 H0 B H σ S _ fun v x G1 B1 H1 ⟨ds, ex, k⟩ n a nw => by
  subst ex
  obtain ⟨p, vs, rfl, h1, h2⟩ := At.tup_inv a
  refine ⟨p, vs, rfl, SqT.of (n.sta.st.sub _ _ h1), q _ _ G1 B1 H1 k n fun i C1 C e1 e2 => ?_⟩
  have hH := e2 _ _ (e1 _ _ h1)
  refine ⟨fun d hd => ?_, fun hl => ⟨vs, SqT.of hH, by rw [h2.len, ← enumD_len, hl]⟩⟩
  rw [enumD_get] at hd
  obtain ⟨d0, hd0, rfl⟩ := Option.map_eq_some_iff.mp hd
  obtain ⟨v, hv, av⟩ := h2.get hd0
  refine ⟨⟨vs, v, SqT.of hH, hv⟩, fun x H2 ⟨T, y, ex, hT, eH, hy⟩ => ?_⟩
  have := hy vs (SqT.of hH)
  rw [hv] at this
  cases this
  subst ex eH
  exact ⟨_, step_pair e2 hT (At.int _) (av.mono e1)⟩)
theorem sr_zLL (h : EvW ta G fun a G1 => EvW tb G1 fun b G2 => ∃ ds es, a = .d (.lst ds) ∧ b = .d (.lst es) ∧ KS (zipD ds es) G2) : SrcW (iZipX Kf (tCons ta (tCons tb tNil))) G KS := fun B0 H0 B H σ S R q => .inl (ev_two S h fun v w x y G1 B1 H1 ⟨ds, es, ex, ey, k⟩ n a b => by
  subst ex ey
  obtain ⟨p, vs, rfl, h1, h2⟩ := At.lst_inv a
  obtain ⟨r, ws, rfl, h3, h4⟩ := At.lst_inv b
  refine ⟨p, r, vs, ws, rfl, .inl ⟨SqL.of (n.sta.st.sub _ _ h1), SqL.of (n.sta.st.sub _ _ h3), q _ _ G1 B1 H1 k n fun i C1 C e1 e2 => ?_⟩⟩
  have hH := e2 _ _ (e1 _ _ h1)
  have hH2 := e2 _ _ (e1 _ _ h3)
  refine ⟨fun d hd => ?_, fun hl => ⟨vs, ws, SqL.of hH, SqL.of hH2, by rw [h2.len, h4.len]; rw [zipD_len] at hl; omega⟩⟩
  obtain ⟨d1, d2, g1, g2, rfl⟩ := zipD_get hd
  obtain ⟨v1, hv1, av1⟩ := h2.get g1
  obtain ⟨v2, hv2, av2⟩ := h4.get g2
  refine ⟨⟨vs, ws, v1, v2, SqL.of hH, SqL.of hH2, hv1, hv2⟩, fun x H2 ⟨T, y1, y2, ex, hT, eH, hy1, hy2⟩ => ?_⟩
  have z1 := hy1 vs (SqL.of hH)
  have z2 := hy2 ws (SqL.of hH2)
  rw [hv1] at z1
  rw [hv2] at z2
  cases z1
  cases z2
  subst ex eH
  exact ⟨_, step_pair e2 hT (av1.mono e1) (av2.mono e1)⟩)
theorem sr_zTT (h : EvW ta G fun a G1 => EvW tb G1 fun b G2 => ∃ ds es, a = .d (.tup ds) ∧ b = .d (.tup es) ∧ KS (zipD ds es) G2) : SrcW (iZipX Kf (tCons ta (tCons tb tNil))) G KS := fun B0 H0 B H σ S R q => .inl (ev_two S h fun v w x y G1 B1 H1 ⟨ds, es, ex, ey, k⟩ n a b => by
  subst ex ey
  obtain ⟨p, vs, rfl, h1, h2⟩ := At.tup_inv a
  obtain ⟨r, ws, rfl, h3, h4⟩ := At.tup_inv b
  refine ⟨p, r, vs, ws, rfl, .inr ⟨SqT.of (n.sta.st.sub _ _ h1), SqT.of (n.sta.st.sub _ _ h3), q _ _ G1 B1 H1 k n fun i C1 C e1 e2 => ?_⟩⟩
  have hH := e2 _ _ (e1 _ _ h1)
  have hH2 := e2 _ _ (e1 _ _ h3)
  refine ⟨fun d hd => ?_, fun hl => ⟨vs, ws, SqT.of hH, SqT.of hH2, by rw [h2.len, h4.len]; rw [zipD_len] at hl; omega⟩⟩
  obtain ⟨d1, d2, g1, g2, rfl⟩ := zipD_get hd
  obtain ⟨v1, hv1, av1⟩ := h2.get g1
  obtain ⟨v2, hv2, av2⟩ := h4.get g2
  refine ⟨⟨vs, ws, v1, v2, SqT.of hH, SqT.of hH2, hv1, hv2⟩, fun x H2 ⟨T, y1, y2, ex, hT, eH, hy1, hy2⟩ => ?_⟩
  have z1 := hy1 vs (SqT.of hH)
  have z2 := hy2 ws (SqT.of hH2)
  rw [hv1] at z1
  rw [hv2] at z2
  cases z1
  cases z2
  subst ex eH
  exact ⟨_, step_pair e2 hT (av1.mono e1) (av2.mono e1)⟩)
theorem sr_zLT (h : EvW ta G fun a G1 => EvW tb G1 fun b G2 => ∃ ds es, a = .d (.lst ds) ∧ b = .d (.tup es) ∧ KS (zipD ds es) G2) : SrcW (iZipX Kf (tCons ta (tCons tb tNil))) G KS := fun B0 H0 B H σ S R q => .inr (ev_two S h fun v w x y G1 B1 H1 ⟨ds, es, ex, ey, k⟩ n a b => by
  subst ex ey
  obtain ⟨p, vs, rfl, h1, h2⟩ := At.lst_inv a
  obtain ⟨r, ws, rfl, h3, h4⟩ := At.tup_inv b
  refine ⟨p, r, vs, ws, rfl, SqL.of (n.sta.st.sub _ _ h1), SqT.of (n.sta.st.sub _ _ h3), q _ _ G1 B1 H1 k n fun i C1 C e1 e2 => ?_⟩
  have hH := e2 _ _ (e1 _ _ h1)
  have hH2 := e2 _ _ (e1 _ _ h3)
  refine ⟨fun d hd => ?_, fun hl => ⟨vs, ws, SqL.of hH, SqT.of hH2, by rw [h2.len]; rw [zipD_len] at hl; omega, by rw [h4.len]; rw [zipD_len] at hl; omega, by rw [h2.len, h4.len]; rw [zipD_len] at hl; omega⟩⟩
  obtain ⟨d1, d2, g1, g2, rfl⟩ := zipD_get hd
  obtain ⟨v1, hv1, av1⟩ := h2.get g1
  obtain ⟨v2, hv2, av2⟩ := h4.get g2
  refine ⟨⟨vs, ws, v1, v2, SqL.of hH, SqT.of hH2, hv1, hv2⟩, fun x H2 ⟨T, y1, y2, ex, hT, eH, hy1, hy2⟩ => ?_⟩
  have z1 := hy1 vs (SqL.of hH)
  have z2 := hy2 ws (SqT.of hH2)
  rw [hv1] at z1
  rw [hv2] at z2
  cases z1
  cases z2
  subst ex eH
  exact ⟨_, step_pair e2 hT (av1.mono e1) (av2.mono e1)⟩)
theorem sr_r1 (h : EvW ta G fun a G1 => ∃ n, a = .d (.int n) ∧ -(2 ^ 62) ≤ n ∧ n < 2 ^ 62 ∧ KS ((rgI 0 n).map Dat.int) G1) : SrcW (iRng1 (tCons ta tNil)) G KS := fun B0 H0 B H σ S R q => h B0 H0 B H σ S _ fun v x G1 B1 H1 ⟨j, ex, b1, b2, k⟩ n a nw => by
  subst ex
  refine ⟨j, by rw [a.int], b1, b2, q _ _ G1 B1 H1 k n fun i C1 C e1 e2 => ⟨fun d hd => ?_, fun hl => ?_⟩⟩
  · unfold rgI at hd
    rw [List.map_map, List.getElem?_map] at hd
    obtain ⟨m, hm, rfl⟩ := Option.map_eq_some_iff.mp hd
    obtain ⟨hlt, em⟩ := List.getElem?_eq_some_iff.mp hm
    rw [List.getElem_range] at em
    rw [List.length_range] at hlt
    subst em
    refine ⟨(by show i < j.toNat; omega), fun x H2 ⟨eH, ex⟩ => ?_⟩
    subst eH ex
    exact ⟨C1, Step.refl e2, At.int _⟩
  · show j.toNat ≤ i
    rw [List.length_map, rgI_len] at hl
    omega
theorem sr_r3 (h : EvW ta G fun a G1 => EvW tb G1 fun b G2 => ∃ i j, a = .d (.int i) ∧ b = .d (.int j) ∧ -(2 ^ 62) ≤ i ∧ i < 2 ^ 62 ∧ -(2 ^ 62) ≤ j ∧ j < 2 ^ 62 ∧ KS ((dnI i j).map Dat.int) G2) : SrcW (iRng3 (tCons ta (tCons tb (tCons (tUn (rU fun i => .int (-i)) (tC (.int 1))) tNil)))) G KS := fun B0 H0 B H σ S R q =>
  ev_two S h fun v w x y G1 B1 H1 ⟨i, j, ex, ey, b1, b2, b3, b4, k⟩ n a b => by
    subst ex ey
    refine ⟨1, rfl, i, j, -1, (i - j).toNat, by rw [a.int, b.int], RgC.neg b1 b2 b3 b4, q _ _ G1 B1 H1 k n fun m C1 C e1 e2 => ⟨fun d hd => ?_, fun hl => ?_⟩⟩
    · unfold dnI at hd
      rw [List.map_map, List.getElem?_map] at hd
      obtain ⟨l, hm, rfl⟩ := Option.map_eq_some_iff.mp hd
      obtain ⟨hlt, em⟩ := List.getElem?_eq_some_iff.mp hm
      rw [List.getElem_range] at em
      rw [List.length_range] at hlt
      subst em
      refine ⟨(by show m < (i - j).toNat; omega), fun x H2 ⟨eH, ex⟩ => ?_⟩
      subst eH ex
      refine ⟨C1, Step.refl e2, ?_⟩
      have : i + (m : Nat) * -1 = i - (m : Nat) := by omega
      rw [this]
      exact At.int _
    · show (i - j).toNat ≤ m
      unfold dnI at hl
      rw [List.length_map, List.length_map, List.length_range] at hl
      omega
end
end Mn
namespace Mn
open PySem PySem.Spec PyProof.Rows L2

/-! ### stores into slots -/
section
variable {B0 H0 B H : Hp} {σ : L2.St} {G : Env}
theorem get_set {α : Type} {l : List α} {i j : Nat} {x y : α} (h : (l.set i x)[j]? = some y) : (j = i ∧ y = x ∧ i < l.length) ∨ (j ≠ i ∧ l[j]? = some y) := by
  by_cases hj : j = i
  · subst hj
    by_cases hl : j < l.length
    · rw [List.getElem?_set_self hl] at h
      exact .inl ⟨rfl, (Option.some.inj h).symm, hl⟩
    · rw [List.getElem?_eq_none (by rw [List.length_set]; omega)] at h
      cases h
  · rw [List.getElem?_set_ne (Ne.symm hj)] at h
    exact .inr ⟨hj, h⟩
theorem Sta.setD (S : Sta B0 H0 B H σ G) {v : V} {d : Dat} (a : At B v d) (i : Nat) : Sta B0 H0 B H (σ.set i (some v)) (G.set i (.dat d)) := by
  refine ⟨S.st, by rw [List.length_set, List.length_set]; exact S.len, fun j s e => ?_, fun j l p ds es ej el => ?_⟩
  · rcases get_set e with ⟨rfl, rfl, hl⟩ | ⟨hj, e⟩
    · exact ⟨v, by rw [List.getElem?_set_self (by rw [S.len]; exact hl)], a⟩
    · rw [List.getElem?_set_ne (Ne.symm hj)]
      exact S.ok j s e
  · rcases get_set ej with ⟨_, z, _⟩ | ⟨_, ej⟩
    · cases z
    · rcases get_set el with ⟨_, z, _⟩ | ⟨_, el⟩
      · cases z
      · exact S.inj j l p ds es ej el
theorem Sta.setN (S : Sta B0 H0 B H σ G) {v : V} {p : Addr} {ds : List Dat} (a : AtV H0 B H G v (.n p ds)) (i : Nat) : Sta B0 H0 B H (σ.set i (some v)) (G.set i (.own p ds)) := by
  obtain ⟨rfl, h1, h2, h3, xs, h4, h5⟩ := a
  refine ⟨S.st, by rw [List.length_set, List.length_set]; exact S.len, fun j s e => ?_, fun j l q es fs ej el => ?_⟩
  · rcases get_set e with ⟨rfl, rfl, hl⟩ | ⟨hj, e⟩
    · exact ⟨by rw [List.getElem?_set_self (by rw [S.len]; exact hl)], h1, h2, xs, h4, h5⟩
    · rw [List.getElem?_set_ne (Ne.symm hj)]
      exact S.ok j s e
  · rcases get_set ej with ⟨e1, z, _⟩ | ⟨_, ej⟩
    · cases z
      rcases get_set el with ⟨e2, z, _⟩ | ⟨_, el⟩
      · rw [e1, e2]
      · exact (h3 ⟨l, fs, el⟩).elim
    · rcases get_set el with ⟨e2, z, _⟩ | ⟨_, el⟩
      · cases z
        exact (h3 ⟨j, es, ej⟩).elim
      · exact S.inj j l q es fs ej el
/-- the list of a slot is written -/
theorem Sta.write (S : Sta B0 H0 B H σ G) {i : Nat} {p : Addr} {ds es : List Dat} {ys : List V} (e : G[i]? = some (.own p ds)) (h : Ats B ys es) : Sta B0 H0 B (upd H p (.lst ys)) σ (G.set i (.own p es)) := by
  obtain ⟨h1, h2, h3, xs, h4, h5⟩ := S.ok i _ e
  refine ⟨⟨same_mut S.st.eH h2, S.st.eB, same_mut S.st.sub h3, S.st.new⟩, by rw [List.length_set]; exact S.len, fun j s ej => ?_, fun j l q fs gs ej el => ?_⟩
  · rcases get_set ej with ⟨rfl, rfl, hl⟩ | ⟨hj, ej⟩
    · exact ⟨h1, h2, h3, ys, upd_same, h⟩
    · have z := S.ok j s ej
      cases s with
      | un => trivial
      | dat d => exact z
      | own q fs =>
        obtain ⟨g1, g2, g3, zs, g4, g5⟩ := z
        have hne : q ≠ p := fun w => hj (S.inj j i p fs ds (by rw [← w]; exact ej) e)
        exact ⟨g1, g2, g3, zs, by rw [upd_ne hne]; exact g4, g5⟩
  · have old : ∀ (j : Nat) (q : Addr) (fs : List Dat), (G.set i (.own p es))[j]? = some (.own q fs) → ∃ fs', G[j]? = some (.own q fs') := fun j q fs ej => by
      rcases get_set ej with ⟨rfl, z, _⟩ | ⟨_, ej⟩
      · cases z
        exact ⟨_, e⟩
      · exact ⟨_, ej⟩
    obtain ⟨_, ej⟩ := old j q fs ej
    obtain ⟨_, el⟩ := old l q gs el
    exact S.inj j l q _ _ ej el
/-- a list that is no slot's and not in the view is written -/
theorem Sta.writeD (S : Sta B0 H0 B H σ G) {p : Addr} {o : HO} (h0 : H0 p = none) (hB : B p = none) (hm : ¬ IsMut G p) : Sta B0 H0 B (upd H p o) σ G := by
  refine ⟨⟨same_mut S.st.eH h0, S.st.eB, same_mut S.st.sub hB, S.st.new⟩, S.len, fun j s ej => ?_, S.inj⟩
  have z := S.ok j s ej
  cases s with
  | un => trivial
  | dat d => exact z
  | own q fs =>
    obtain ⟨g1, g2, g3, zs, g4, g5⟩ := z
    have hne : q ≠ p := fun w => hm ⟨j, fs, by rw [← w]; exact ej⟩
    exact ⟨g1, g2, g3, zs, by rw [upd_ne hne]; exact g4, g5⟩
end
def put (G : Env) (i : Nat) (x : Vd) (K : Env → Prop) : Prop := match x with
  | .d d => K (G.set i (.dat d))
  | .n p ds => K (G.set i (.own p ds))
  | _ => False
theorem Sta.put {B0 H0 B H : Hp} {σ : L2.St} {G : Env} (S : Sta B0 H0 B H σ G) {v : V} {x : Vd} (a : AtV H0 B H G v x) {i : Nat} {K : Env → Prop} (k : put G i x K) : ∃ G', K G' ∧ Sta B0 H0 B H (σ.set i (some v)) G' ∧ ∀ q, IsMut G' q → IsMut G q ∨ ∃ es, x = .n q es := by
  cases x with
  | d d =>
    refine ⟨_, k, S.setD a i, fun q ⟨j, fs, ej⟩ => ?_⟩
    rcases get_set ej with ⟨_, z, _⟩ | ⟨_, ej⟩
    · cases z
    · exact .inl ⟨j, fs, ej⟩
  | n p ds =>
    refine ⟨_, k, S.setN a i, fun q ⟨j, fs, ej⟩ => ?_⟩
    rcases get_set ej with ⟨_, z, _⟩ | ⟨_, ej⟩
    · cases z
      exact .inr ⟨_, rfl⟩
    · exact .inl ⟨j, fs, ej⟩
  | m p => exact k.elim
  | t s => exact k.elim
/-- a value waits while another is stored -/
theorem AtV.wait {H0 B H : Hp} {G G' : Env} {v : V} {x y : Vd} (a : AtV H0 B H G v y) (h : ∀ q, IsMut G' q → IsMut G q ∨ ∃ es, x = .n q es) (hne : ∀ p ds es, x = .n p ds → y ≠ .n p es) : AtV H0 B H G' v y := by
  cases y with
  | d d => exact a
  | m p => exact a
  | t s => exact a
  | n p ds =>
    obtain ⟨h1, h2, h3, h4, h5⟩ := a
    refine ⟨h1, h2, h3, fun m => ?_, h5⟩
    rcases h p m with z | ⟨es, z⟩
    · exact h4 z
    · exact hne p es ds z rfl

/-! ### targets -/
def GW (g : TG) (d : Dat) (G : Env) (K : Env → Prop) : Prop := ∀ (B0 H0 B H : Hp) (σ : L2.St), Sta B0 H0 B H σ G → ∀ v, At B v d → ∀ Q : L2.St → Hp → Prop, (∀ G' B' H' σ', K G' → Sta B0 H0 B' H' σ' G' → Same B B' → Q σ' H') → g v σ H Q
def GsW (g : TGs) (ds : List Dat) (G : Env) (K : Env → Prop) : Prop := ∀ (B0 H0 B H : Hp) (σ : L2.St), Sta B0 H0 B H σ G → ∀ vs, Ats B vs ds → ∀ Q : L2.St → Hp → Prop, (∀ G' B' H' σ', K G' → Sta B0 H0 B' H' σ' G' → Same B B' → Q σ' H') → g vs σ H Q
section
variable {G : Env} {K : Env → Prop} {Kf : PySem.W.Frag} {te ti : TE}
theorem gw_name {i : Nat} {d : Dat} (k : K (G.set i (.dat d))) : GW (gName i) d G K := fun B0 H0 B H σ S v a Q q => q _ B H _ k (S.setD a i) (Same.refl B)
theorem gs_nil (k : K G) : GsW gNil [] G K := fun B0 H0 B H σ S vs a Q q => by
  cases a
  exact ⟨rfl, q _ B H σ k S (Same.refl B)⟩
theorem gs_cons {g : TG} {gs : TGs} {d : Dat} {ds : List Dat} (h : GW g d G fun G1 => GsW gs ds G1 K) : GsW (gCons g gs) (d :: ds) G K := fun B0 H0 B H σ S vs a Q q => by
  cases a with
  | cons a1 a2 => exact ⟨_, _, rfl, h B0 H0 B H σ S _ a1 _ fun G1 B1 H1 σ1 k S1 e1 => k B0 H0 B1 H1 σ1 S1 _ (a2.mono e1) Q fun G2 B2 H2 σ2 k2 S2 e2 => q G2 B2 H2 σ2 k2 S2 (e1.trans e2)⟩
theorem gw_tup {gs : TGs} {n : Nat} {ds : List Dat} (hn : ds.length = n) (h : GsW gs ds G K) : GW (gTup Kf n gs) (.tup ds) G K := fun B0 H0 B H σ S v a Q q => by
  obtain ⟨p, xs, rfl, h1, h2⟩ := At.tup_inv a
  exact ⟨p, xs, rfl, SqT.of (S.st.sub _ _ h1), by rw [h2.len, hn], h B0 H0 B H σ S xs h2 Q q⟩
theorem gw_two {i j : Nat} {a b : Dat} (k : K ((G.set i (.dat a)).set j (.dat b))) : GW (gTup Kf 2 (gCons (gName i) (gCons (gName j) gNil))) (.tup [a, b]) G K := gw_tup rfl (gs_cons (gw_name (gs_cons (gw_name (gs_nil k)))))
theorem gw_three {i j l : Nat} {a b c : Dat} (k : K (((G.set i (.dat a)).set j (.dat b)).set l (.dat c))) : GW (gTup Kf 3 (gCons (gName i) (gCons (gName j) (gCons (gName l) gNil)))) (.tup [a, b, c]) G K := gw_tup rfl (gs_cons (gw_name (gs_cons (gw_name (gs_cons (gw_name (gs_nil k)))))))
/-- xs[i] = d, xs a slot's list -/
theorem gw_sub {m : Nat} {d : Dat} (hm : ∃ p ds, G[m]? = some (.own p ds)) (h : EvW ti G fun x G1 => ∃ k p ds n, x = .d (.int k) ∧ G1[m]? = some (.own p ds) ∧ ixN ds.length k = some n ∧ K (G1.set m (.own p (ds.set n d)))) : GW (gSub (tVar m) ti rSetL) d G K := fun B0 H0 B H σ S v a Q q => by
  obtain ⟨p0, ds0, e0⟩ := hm
  obtain ⟨e1, _⟩ := S.ok m _ e0
  refine ⟨.ref p0, e1, h B0 H0 B H σ S _ fun w x G1 B1 H1 ⟨k, p, ds, n, ex, e2, hn, kk⟩ nx ax nw => ?_⟩
  subst ex
  obtain ⟨e3, _, _, ys, hy, ay⟩ := nx.sta.ok m _ e2
  have ep : p0 = p := by
    rw [e1] at e3
    exact V.ref.inj (Option.some.inj (Option.some.inj e3))
  subst ep
  exact ⟨p0, ys, k, n, rfl, ax.int, hy, by rw [ay.len]; exact hn, q _ B1 _ σ kk (nx.sta.write e2 (Ats.set (a.mono nx.eB) n ay)) nx.eB⟩
end

/-! ### statements -/
section
variable {G : Env} {P : Post} {t u : TS} {te ta ti : TE} {tas : TA} {tt : TT} {Kf : PySem.W.Frag}
theorem tr_seq (h : Tr t G { P with nx := fun G1 => Tr u G1 P }) : Tr (tSeq t u) G P := fun B0 H0 B H σ S D w =>
  h B0 H0 B H σ S { D with nx := u D } ⟨fun G1 B1 H1 σ1 k S1 e => k B0 H0 B1 H1 σ1 S1 D (w.later e), w.rt, w.bk, w.ct⟩
theorem tr_next (k : P.nx G) : Tr tNext G P := fun B0 H0 B H σ S D w => w.nx G B H σ k S (Same.refl B)
theorem tr_set {i : Nat} (h : EvW te G fun x G1 => put G1 i x P.nx) : Tr (tAsg te (gName i)) G P := fun B0 H0 B H σ S D w => h B0 H0 B H σ S _ fun v x G1 B1 H1 k n a nw => by
  obtain ⟨G2, k2, S2, _⟩ := n.sta.put a k
  exact w.nx G2 B1 H1 _ k2 S2 n.eB
theorem tr_asg {g : TG} (h : EvW te G fun x G1 => ∃ d, x = .d d ∧ GW g d G1 P.nx) : Tr (tAsg te g) G P := fun B0 H0 B H σ S D w => h B0 H0 B H σ S _ fun v x G1 B1 H1 ⟨d, ex, k⟩ n a nw => by
  subst ex
  exact k B0 H0 B1 H1 σ n.sta v a D.nx fun G2 B2 H2 σ2 k2 S2 e2 => w.nx G2 B2 H2 σ2 k2 S2 (n.eB.trans e2)
theorem tr_par {i j : Nat} (h : AvW tas G fun xs G1 => ∃ a b, xs = [a, b] ∧ put G1 i a fun G2 => put G2 j b P.nx) : Tr (tPar i j tas) G P := fun B0 H0 B H σ S D w => h B0 H0 B H σ S _ fun vs xs G1 B1 H1 ⟨a, b, ex, k⟩ n av nw => by
  subst ex
  cases av with
  | cons a1 r1 d1 =>
    cases r1 with
    | cons a2 r2 d2 =>
      cases r2
      obtain ⟨G2, k2, S2, m2⟩ := n.sta.put a1 k
      have a2' := a2.wait m2 (fun p ds es e z => d1 p ds es e (by rw [z]; exact List.mem_cons_self))
      obtain ⟨G3, k3, S3, _⟩ := S2.put a2' k2
      exact ⟨_, _, rfl, w.nx G3 B1 H1 _ k3 S3 n.eB⟩
theorem tr_par3 {i j l : Nat} (h : AvW tas G fun xs G1 => ∃ a b c, xs = [a, b, c] ∧ put G1 i a fun G2 => put G2 j b fun G3 => put G3 l c P.nx) : Tr (tPar3 i j l tas) G P := fun B0 H0 B H σ S D w => h B0 H0 B H σ S _ fun vs xs G1 B1 H1 ⟨a, b, c, ex, k⟩ n av nw => by
  subst ex
  cases av with
  | cons a1 r1 d1 =>
    cases r1 with
    | cons a2 r2 d2 =>
      cases r2 with
      | cons a3 r3 d3 =>
        cases r3
        obtain ⟨G2, k2, S2, m2⟩ := n.sta.put a1 k
        have a2' := a2.wait m2 (fun p ds es e z => d1 p ds es e (by rw [z]; simp))
        have a3' := a3.wait m2 (fun p ds es e z => d1 p ds es e (by rw [z]; simp))
        obtain ⟨G3, k3, S3, m3⟩ := S2.put a2' k2
        have a3'' := a3'.wait m3 (fun p ds es e z => d2 p ds es e (by rw [z]; simp))
        obtain ⟨G4, k4, S4, _⟩ := S3.put a3'' k3
        exact ⟨_, _, _, rfl, w.nx G4 B1 H1 _ k4 S4 n.eB⟩
theorem tr_if {t u : TS} (h : TtW tt G fun b G1 => (b = true → Tr t G1 P) ∧ (b = false → Tr u G1 P)) : Tr (tIfS tt t u) G P := fun B0 H0 B H σ S D w => h B0 H0 B H σ S _ fun b G1 B1 H1 ⟨k1, k2⟩ n => by
  cases b with
  | true => exact k1 rfl B0 H0 B1 H1 σ n.sta D (w.later n.eB)
  | false => exact k2 rfl B0 H0 B1 H1 σ n.sta D (w.later n.eB)
theorem tr_ret (h : EvW te G fun x G1 => ∃ d, x = .d d ∧ P.rt d G1) : Tr (tRet te) G P := fun B0 H0 B H σ S D w => h B0 H0 B H σ S _ fun v x G1 B1 H1 ⟨d, ex, k⟩ n a nw => by
  subst ex
  exact w.rt d v G1 B1 H1 σ k n.sta a
/-- a slot's list changes no more -/
theorem tr_freeze {i : Nat} {p : Addr} {ds : List Dat} (e : G[i]? = some (.own p ds)) (h : Tr t (G.set i (.dat (.lst ds))) P) : Tr t G P := fun B0 H0 B H σ S D w => by
  obtain ⟨h1, h2, h3, xs, h4, h5⟩ := S.ok i _ e
  have hi := (List.getElem?_eq_some_iff.mp e).1
  have eB : Same B (upd B p (.lst xs)) := same_new h3
  have S2 : Sta B0 H0 (upd B p (.lst xs)) H σ (G.set i (.dat (.lst ds))) := by
    refine ⟨⟨S.st.eH, S.st.eB.trans eB, fun a o ea => ?_, fun a g1 g2 => ?_⟩, by rw [List.length_set]; exact S.len, fun j s ej => ?_, fun j l q fs gs ej el => ?_⟩
    · by_cases ha : a = p
      · subst ha
        rw [upd_same] at ea
        rw [h4]
        exact ea
      · rw [upd_ne ha] at ea
        exact S.st.sub _ _ ea
    · have ha : a ≠ p := fun z => g2 (by rw [z]; exact h2)
      rw [upd_ne ha]
      exact S.st.new a g1 g2
    · rcases get_set ej with ⟨rfl, rfl, hl⟩ | ⟨hj, ej⟩
      · exact ⟨_, h1, .lst upd_same (h5.mono eB)⟩
      · have z := S.ok j s ej
        cases s with
        | un => trivial
        | dat d =>
          obtain ⟨v, z1, z2⟩ := z
          exact ⟨v, z1, z2.mono eB⟩
        | own q fs =>
          obtain ⟨g1, g2, g3, zs, g4, g5⟩ := z
          have hne : q ≠ p := fun w => hj (S.inj j i p fs ds (by rw [← w]; exact ej) e)
          exact ⟨g1, g2, by rw [upd_ne hne]; exact g3, zs, g4, g5.mono eB⟩
    · rcases get_set ej with ⟨_, z, _⟩ | ⟨_, ej⟩
      · cases z
      · rcases get_set el with ⟨_, z, _⟩ | ⟨_, el⟩
        · cases z
        · exact S.inj j l q fs gs ej el
  exact h B0 H0 _ H σ S2 D (w.later eB)
/-- xs.append(e), xs a slot's list -/
theorem tr_app {m : Nat} (hm : ∃ p ds, G[m]? = some (.own p ds)) (h : EvW te G fun x G1 => ∃ d p ds, x = .d d ∧ G1[m]? = some (.own p ds) ∧ ds.length < 1000000 ∧ P.nx (G1.set m (.own p (ds ++ [d])))) : Tr (tDrop (tBM Kf "list" rAppend (tVar m) (tCons te tNil))) G P := fun B0 H0 B H σ S D w => by
  obtain ⟨p0, ds0, e0⟩ := hm
  obtain ⟨e1, _, _, xs0, hx0, _⟩ := S.ok m _ e0
  refine ⟨.ref p0, e1, .inl ⟨rfl, xs0, SqL.of hx0⟩, h B0 H0 B H σ S _ fun v x G1 B1 H1 ⟨d, p, ds, ex, e2, hl, k⟩ n a nw => ?_⟩
  subst ex
  obtain ⟨e3, _, _, ys, hy, ay⟩ := n.sta.ok m _ e2
  have ep : p0 = p := by
    rw [e1] at e3
    exact V.ref.inj (Option.some.inj (Option.some.inj e3))
  subst ep
  exact ⟨p0, ys, v, rfl, rfl, hy, by rw [ay.len, sizeLine_eq]; omega, w.nx _ B1 _ σ k (n.sta.write e2 (ay.append (.cons a .nil))) n.eB⟩
/-- xs[i] += e, xs a slot's list of ints -/
theorem tr_aug {m : Nat} {f : Int → Int → Int} (hm : ∃ p ds, G[m]? = some (.own p ds)) (h : EvW ti G fun x G1 => ∃ k n, x = .d (.int k) ∧ 0 ≤ k ∧ (∃ p ds, G1[m]? = some (.own p ds) ∧ n = k.toNat ∧ ∃ i : Int, ds[n]? = some (.int i) ∧
      EvW te G1 fun y G2 => ∃ j, y = .d (.int j) ∧ G2[m]? = some (.own p ds) ∧ P.nx (G2.set m (.own p (ds.set n (.int (f i j))))))) : Tr (tAugS (tVar m) ti te (rGetL Kf) (ipI f) rSetL) G P := fun B0 H0 B H σ S D w => by
  obtain ⟨p0, ds0, e0⟩ := hm
  obtain ⟨e1, _⟩ := S.ok m _ e0
  refine ⟨.ref p0, e1, h B0 H0 B H σ S _ fun v x G1 B1 H1 ⟨k, n, ex, h0, p, ds, e2, en, i, ei, hh⟩ nx a nw => ?_⟩
  subst ex en
  obtain ⟨e3, _, _, ys, hy, ay⟩ := nx.sta.ok m _ e2
  have ep : p0 = p := by
    rw [e1] at e3
    exact V.ref.inj (Option.some.inj (Option.some.inj e3))
  subst ep
  obtain ⟨z, hz, az⟩ := ay.get ei
  cases az
  refine ⟨p0, ys, k, .int i, rfl, a.int, h0, SqL.of hy, hz, hh B0 H0 B1 H1 σ nx.sta _ fun v2 y G2 B2 H2 ⟨j, ey, e4, kk⟩ n2 a2 nw2 => ?_⟩
  subst ey
  obtain ⟨e5, _, _, ys2, hy2, ay2⟩ := n2.sta.ok m _ e4
  have hlt := (List.getElem?_eq_some_iff.mp ei).1
  refine ⟨i, j, rfl, a2.int, p0, ys2, k, k.toNat, rfl, a.int, hy2, ?_, w.nx _ B2 _ σ kk (n2.sta.write e4 (Ats.set (At.int _) k.toNat ay2)) (nx.eB.trans n2.eB)⟩
  unfold ixN
  rw [if_pos h0, if_pos (by rw [ay2.len]; omega)]
end

/-! ### for -/
section
variable {G : Env} {P : Post} {wi : TI} {g : TG} {tb : TS}
theorem tr_for (h : SrcW wi G fun xs G1 => ∃ I : Nat → Env → Prop, I 0 G1 ∧ (∀ (i : Nat) d G2, xs[i]? = some d → I i G2 → GW g d G2 fun G3 => Tr tb G3 { nx := I (i + 1), ct := I (i + 1), bk := P.nx, rt := P.rt }) ∧ ∀ G2, I xs.length G2 → P.nx G2) : Tr (tFor wi g tb) G P := fun B0 H0 B H σ S D w =>
  h B0 H0 B H σ S _ fun J xs G1 B1 H1 ⟨I, i0, turn, fin⟩ n y => by
    refine ⟨fun i m σ' H' => m = xs.length - i ∧ i ≤ xs.length ∧ ∃ G2 B2, I i G2 ∧ Sta B0 H0 B2 H' σ' G2 ∧ Same B1 B2, ⟨xs.length, rfl, Nat.zero_le _, G1, B1, i0, n.sta, Same.refl B1⟩, ?_⟩
    rintro i m σ' H' ⟨rfl, hi, G2, B2, hI, S2, e2⟩
    by_cases hlt : i < xs.length
    · obtain ⟨go, yl⟩ := (y i B2 H' e2 S2.st.sub).1 xs[i] (List.getElem?_eq_getElem hlt)
      refine .inr ⟨go, fun σ'' H'' => ∃ G3 B3, I (i + 1) G3 ∧ Sta B0 H0 B3 H'' σ'' G3 ∧ Same B1 B3, fun σ'' H'' ⟨G3, B3, h1, h2, h3⟩ => ⟨xs.length - (i + 1), by omega, rfl, hlt, G3, B3, h1, h2, h3⟩, fun x H3 hy => ?_⟩
      obtain ⟨B3, st, ax⟩ := yl x H3 hy
      refine turn i xs[i] G2 (List.getElem?_eq_getElem hlt) hI B0 H0 B3 H3 σ' (S2.step st) x ax _ fun G4 B4 H4 σ4 ht S4 e4 => ht B0 H0 B4 H4 σ4 S4 _ ⟨fun G5 B5 H5 σ5 k S5 e5 => ?_, w.rt, fun G5 B5 H5 σ5 k S5 e5 => ?_, fun G5 B5 H5 σ5 k S5 e5 => ?_⟩
      · exact ⟨G5, B5, k, S5, e2.trans (st.eB.trans (e4.trans e5))⟩
      · exact w.nx G5 B5 H5 σ5 k S5 (n.eB.trans (e2.trans (st.eB.trans (e4.trans e5))))
      · exact ⟨G5, B5, k, S5, e2.trans (st.eB.trans (e4.trans e5))⟩
    · have e : i = xs.length := by omega
      subst e
      exact .inl ⟨(y xs.length B2 H' e2 S2.st.sub).2 rfl, w.nx G2 B2 H' σ' (fin G2 hI) S2 (n.eB.trans e2)⟩
end
end Mn
namespace Mn
open PySem PySem.Spec PyProof.Rows L2

/-! ### comprehensions -/
def wipeG (G : Env) : List Nat → Env
  | [] => G
  | v :: vs => (wipeG G vs).set v .un
theorem wipeG_len (G : Env) : ∀ vs : List Nat, (wipeG G vs).length = G.length
  | [] => rfl
  | v :: vs => by unfold wipeG; rw [List.length_set, wipeG_len G vs]
theorem wipeG_get (G : Env) (i : Nat) : ∀ vs : List Nat, (wipeG G vs)[i]? = if i ∈ vs then (if i < G.length then some .un else none) else G[i]?
  | [] => by simp [wipeG]
  | v :: vs => by
    unfold wipeG
    by_cases hv : v = i
    · subst hv
      rw [List.getElem?_set_self']
      have ih := wipeG_get G v vs
      rw [if_pos List.mem_cons_self]
      by_cases hl : v < G.length
      · rw [if_pos hl, List.getElem?_eq_getElem (by rw [wipeG_len]; exact hl)]
        rfl
      · rw [if_neg hl, List.getElem?_eq_none (by rw [wipeG_len]; omega)]
        rfl
    · rw [List.getElem?_set_ne hv, wipeG_get G i vs]
      have e : (i ∈ v :: vs) ↔ i ∈ vs := by
        rw [List.mem_cons]
        exact ⟨fun h => h.elim (fun z => (hv z.symm).elim) id, .inr⟩
      by_cases h : i ∈ vs
      · rw [if_pos h, if_pos (e.mpr h)]
      · rw [if_neg h, if_neg fun z => h (e.mp z)]
theorem wipe_get (σ : L2.St) (i : Nat) : ∀ vs : List Nat, (wipe σ vs)[i]? = if i ∈ vs then (if i < σ.length then some none else none) else σ[i]?
  | [] => by simp [wipe]
  | v :: vs => by
    unfold wipe
    by_cases hv : v = i
    · subst hv
      rw [List.getElem?_set_self']
      have ih := wipe_get σ v vs
      rw [if_pos List.mem_cons_self]
      by_cases hl : v < σ.length
      · rw [if_pos hl, List.getElem?_eq_getElem (by rw [wipe_length]; exact hl)]
        rfl
      · rw [if_neg hl, List.getElem?_eq_none (by rw [wipe_length]; omega)]
        rfl
    · rw [List.getElem?_set_ne hv, wipe_get σ i vs]
      have e : (i ∈ v :: vs) ↔ i ∈ vs := by
        rw [List.mem_cons]
        exact ⟨fun h => h.elim (fun z => (hv z.symm).elim) id, .inr⟩
      by_cases h : i ∈ vs
      · rw [if_pos h, if_pos (e.mpr h)]
      · rw [if_neg h, if_neg fun z => h (e.mp z)]
theorem wipe_set (σ : L2.St) {vs : List Nat} {j : Nat} (hj : j ∈ vs) (x : Option V) : wipe (σ.set j x) vs = wipe σ vs := by
  apply List.ext_getElem?
  intro i
  rw [wipe_get, wipe_get, List.length_set]
  by_cases h : i ∈ vs
  · rw [if_pos h, if_pos h]
  · rw [if_neg h, if_neg h, List.getElem?_set_ne (fun z => h (by rw [← z]; exact hj))]
theorem wipe_wipe (σ : L2.St) (vs : List Nat) : wipe (wipe σ vs) vs = wipe σ vs := by
  apply List.ext_getElem?
  intro i
  rw [wipe_get, wipe_get, wipe_length]
  by_cases h : i ∈ vs
  · rw [if_pos h, if_pos h]
  · rw [if_neg h, if_neg h]
theorem wipeG_set (G : Env) {vs : List Nat} {j : Nat} (hj : j ∈ vs) (x : Sd) : wipeG (G.set j x) vs = wipeG G vs := by
  apply List.ext_getElem?
  intro i
  rw [wipeG_get, wipeG_get, List.length_set]
  by_cases h : i ∈ vs
  · rw [if_pos h, if_pos h]
  · rw [if_neg h, if_neg h, List.getElem?_set_ne (fun z => h (by rw [← z]; exact hj))]
theorem wipeG_wipeG (G : Env) (vs : List Nat) : wipeG (wipeG G vs) vs = wipeG G vs := by
  apply List.ext_getElem?
  intro i
  rw [wipeG_get, wipeG_get, wipeG_len]
  by_cases h : i ∈ vs
  · rw [if_pos h, if_pos h]
  · rw [if_neg h, if_neg h]
/-- none of the slots vs holds a mutable list -/
def NoM (G : Env) (vs : List Nat) : Prop := ∀ i ∈ vs, ∀ p ds, G[i]? ≠ some (.own p ds)
theorem NoM.nil {G : Env} : NoM G [] := fun _ z => nomatch z
theorem NoM.cons {G : Env} {v : Nat} {vs : List Nat} (h : (match G[v]? with | some (.own _ _) => False | _ => True)) (k : NoM G vs) : NoM G (v :: vs) := fun i hi p ds e => by
  rcases List.mem_cons.mp hi with rfl | hi
  · rw [e] at h
    exact h
  · exact k i hi p ds e
theorem NoM.wipe (G : Env) (vs : List Nat) : NoM (wipeG G vs) vs := fun i hi p ds e => by
  rw [wipeG_get, if_pos hi] at e
  split at e <;> cases e
theorem NoM.same {G G' : Env} {vs : List Nat} (h : NoM G vs) (s : SameM G G') : NoM G' vs := fun i hi p ds e => by
  obtain ⟨es, z⟩ := (s i p).mpr ⟨ds, e⟩
  exact h i hi p es z
theorem NoM.sameW {G : Env} {vs : List Nat} (h : NoM G vs) : SameM G (wipeG G vs) := fun i p => by
  rw [wipeG_get]
  by_cases hi : i ∈ vs
  · rw [if_pos hi]
    refine ⟨fun ⟨ds, e⟩ => (h i hi p ds e).elim, fun ⟨ds, e⟩ => ?_⟩
    split at e <;> cases e
  · rw [if_neg hi]
theorem NoM.sameS {G : Env} {vs : List Nat} (h : NoM G vs) {j : Nat} (hj : j ∈ vs) (d : Dat) : SameM G (G.set j (.dat d)) := fun i p => by
  by_cases hi : i = j
  · subst hi
    refine ⟨fun ⟨ds, e⟩ => (h i hj p ds e).elim, fun ⟨ds, e⟩ => ?_⟩
    rcases get_set e with ⟨_, z, _⟩ | ⟨z, _⟩
    · cases z
    · exact (z rfl).elim
  · rw [List.getElem?_set_ne (Ne.symm hi)]
theorem Sta.wiped {B0 H0 B H : Hp} {σ : L2.St} {G : Env} (S : Sta B0 H0 B H σ G) (vs : List Nat) : Sta B0 H0 B H (L2.wipe σ vs) (wipeG G vs) := by
  refine ⟨S.st, by rw [wipe_length, wipeG_len]; exact S.len, fun j s e => ?_, fun j l p ds es ej el => ?_⟩
  · rw [wipeG_get] at e
    by_cases h : j ∈ vs
    · rw [if_pos h] at e
      split at e
      · cases e
        trivial
      · cases e
    · rw [if_neg h] at e
      rw [wipe_get, if_neg h]
      exact S.ok j s e
  · rw [wipeG_get] at ej el
    split at ej
    · split at ej <;> cases ej
    · split at el
      · split at el <;> cases el
      · exact S.inj j l p ds es ej el
/-- behind a comprehension: the slots as before, their lists as they are now -/
def mergeM (G Gb : Env) : Env := List.zipWith (fun s t => match s, t with
  | .own p _, .own _ es => .own p es
  | s, _ => s) G Gb
theorem mergeM_get {G Gb : Env} (hl : G.length = Gb.length) (i : Nat) : (mergeM G Gb)[i]? = match G[i]?, Gb[i]? with
  | some (.own p _), some (.own _ es) => some (.own p es)
  | s, _ => s := by
  unfold mergeM
  rw [List.getElem?_zipWith]
  cases h1 : G[i]? with
  | none => simp
  | some s =>
    have hlt := (List.getElem?_eq_some_iff.mp h1).1
    rw [List.getElem?_eq_getElem (by omega)]
    generalize Gb[i] = t
    cases s <;> cases t <;> rfl
theorem mergeM_wipe {G : Env} {vs : List Nat} (h : NoM G vs) : mergeM G (wipeG G vs) = G := by
  apply List.ext_getElem?
  intro i
  rw [mergeM_get (wipeG_len G vs).symm, wipeG_get]
  by_cases hi : i ∈ vs
  · rw [if_pos hi]
    cases e : G[i]? with
    | none => rfl
    | some s =>
      cases s with
      | own p ds => exact (h i hi p ds e).elim
      | _ => rfl
  · rw [if_neg hi]
    cases e : G[i]? with
    | none => rfl
    | some s => cases s <;> rfl
theorem Sta.merge {B0 H0 B H B1 H1 : Hp} {σ : L2.St} {G Gb : Env} {vs : List Nat} (S : Sta B0 H0 B H σ G) (hn : NoM G vs) (sm : SameM (wipeG G vs) Gb) (eB : Same B B1) (Sb : Sta B0 H0 B1 H1 (L2.wipe σ vs) Gb) : Sta B0 H0 B1 H1 σ (mergeM G Gb) ∧ SameM G (mergeM G Gb) := by
  have hl : G.length = Gb.length := by
    have := Sb.len
    rw [wipe_length, S.len] at this
    exact this
  have sm2 : SameM G Gb := hn.sameW.trans sm
  have own : ∀ (j : Nat) p es, (mergeM G Gb)[j]? = some (.own p es) → ∃ ds, G[j]? = some (.own p ds) ∧ Gb[j]? = some (.own p es) := fun j p es e => by
    rw [mergeM_get hl] at e
    cases h1 : G[j]? with
    | none => rw [h1] at e; cases e
    | some s =>
      rw [h1] at e
      cases s with
      | un => cases e
      | dat d => cases e
      | own q ds =>
        obtain ⟨fs, h2⟩ := (sm2 j q).mp ⟨ds, h1⟩
        rw [h2] at e
        cases e
        exact ⟨ds, rfl, h2⟩
  refine ⟨⟨Sb.st, by unfold mergeM; rw [List.length_zipWith, ← hl, Nat.min_self]; exact S.len, fun j s e => ?_, fun j l p ds es ej el => ?_⟩, fun j p => ⟨fun ⟨ds, e⟩ => ?_, fun ⟨ds, e⟩ => ?_⟩⟩
  · cases s with
    | un => trivial
    | own p es =>
      obtain ⟨ds, h1, h2⟩ := own j p es e
      obtain ⟨g1, g2, g3, g4⟩ := Sb.ok j _ h2
      obtain ⟨k1, _⟩ := S.ok j _ h1
      exact ⟨k1, g2, g3, g4⟩
    | dat d =>
      have h1 : G[j]? = some (.dat d) := by
        rw [mergeM_get hl] at e
        cases h1 : G[j]? with
        | none => rw [h1] at e; cases e
        | some s =>
          rw [h1] at e
          cases s with
          | un => cases e
          | dat d => exact e
          | own q ds =>
            obtain ⟨fs, h2⟩ := (sm2 j q).mp ⟨ds, h1⟩
            rw [h2] at e
            cases e
      obtain ⟨v, g1, g2⟩ := S.ok j _ h1
      exact ⟨v, g1, g2.mono eB⟩
  · obtain ⟨_, h1, _⟩ := own j p ds ej
    obtain ⟨_, h2, _⟩ := own l p es el
    exact S.inj j l p _ _ h1 h2
  · obtain ⟨es, h2⟩ := (sm2 j p).mp ⟨ds, e⟩
    exact ⟨es, by rw [mergeM_get hl, e, h2]⟩
  · obtain ⟨es, h1, _⟩ := own j p ds e
    exact ⟨es, h1⟩

/-- a comprehension's target -/
def CW (g : TG) (d : Dat) (G : Env) (vs : List Nat) (K : Env → Prop) : Prop := NoM G vs → ∀ (B0 H0 B H : Hp) (σ : L2.St), Sta B0 H0 B H σ G → ∀ v, At B v d → ∀ Q : L2.St → Hp → Prop,
  (∀ G' σ', K G' → Sta B0 H0 B H σ' G' → L2.wipe σ' vs = L2.wipe σ vs → wipeG G' vs = wipeG G vs → SameM G G' → Q σ' H) → g v σ H Q
section
variable {G : Env} {K : Env → Prop} {Kf : PySem.W.Frag} {vs : List Nat}
theorem cw_name {j : Nat} {d : Dat} (hj : j ∈ vs) (k : K (G.set j (.dat d))) : CW (gName j) d G vs K := fun hn B0 H0 B H σ S v a Q q => q _ _ k (S.setD a j) (wipe_set σ hj _) (wipeG_set G hj _) (hn.sameS hj d)
theorem cw_two {i j : Nat} {a b : Dat} (hi : i ∈ vs) (hj : j ∈ vs) (k : K ((G.set i (.dat a)).set j (.dat b))) : CW (gTup Kf 2 (gCons (gName i) (gCons (gName j) gNil))) (.tup [a, b]) G vs K := fun hn B0 H0 B H σ S v av Q q => by
  obtain ⟨p, xs, rfl, h1, h2⟩ := At.tup_inv av
  cases h2 with
  | cons a1 h2 =>
    cases h2 with
    | cons a2 h2 =>
      cases h2
      refine ⟨p, _, rfl, SqT.of (S.st.sub _ _ h1), rfl, _, _, rfl, _, _, rfl, rfl, ?_⟩
      have s1 := hn.sameS hi a
      exact q _ _ k ((S.setD a1 i).setD a2 j) (by rw [wipe_set _ hj, wipe_set _ hi]) (by rw [wipeG_set _ hj, wipeG_set _ hi]) (s1.trans ((hn.same s1).sameS hj b))
end

section
variable {G : Env} {K : Vd → Env → Prop} {wi : TI} {g : TG} {tt : TT} {te : TE} {vs : List Nat}
theorem ev_lcN (h : SrcW wi G fun xs G1 => NoM G1 vs ∧ xs.length ≤ 1000000 ∧ ∃ I : Nat → List Dat → Env → Prop, I 0 [] (wipeG G1 vs) ∧
      (∀ (i : Nat) d acc Gb, xs[i]? = some d → I i acc Gb → CW g d Gb vs fun Gt => TtW tt Gt fun b Gu => (b = true → EvW te Gu fun y Gv => ∃ z, y = .d z ∧ I (i + 1) (acc ++ [z]) (wipeG Gv vs)) ∧ (b = false → I (i + 1) acc (wipeG Gu vs))) ∧
      ∀ acc Gb, I xs.length acc Gb → ∀ p, K (.n p acc) (mergeM G1 Gb)) : EvW (tLc wi g tt te vs) G K := fun B0 H0 B H σ S Q q =>
  h B0 H0 B H σ S _ fun J xs G1 B1 H1 ⟨hn, hlen, I, i0, turn, fin⟩ n y => by
    intro D hD
    have h0D : H0 D = none := n.sta.st.eH.free hD
    have B1D : B1 D = none := view_none n.sta.st.sub hD
    have noD : ∀ Gb : Env, SameM (wipeG G1 vs) Gb → ¬ IsMut Gb D := fun Gb sm m => by
      have m1 : IsMut G1 D := (hn.sameW.is D).mpr ((sm.is D).mpr m)
      obtain ⟨_, _, zs, e⟩ := n.sta.mutAt m1
      rw [hD] at e
      cases e
    refine ⟨fun i m H' => m = xs.length - i ∧ i ≤ xs.length ∧ ∃ acc accv Gb B2, I i acc Gb ∧ Sta B0 H0 B2 H' (L2.wipe σ vs) Gb ∧ Same B1 B2 ∧ SameM (wipeG G1 vs) Gb ∧ H' D = some (.lst accv) ∧ Ats B2 accv acc ∧ B2 D = none ∧ acc.length ≤ i ∧
      (∀ a o, H1 a = some o → ¬ IsMut G1 a → H' a = some o) ∧ (∀ a, B1 a = none → H1 a ≠ none → B2 a = none), ⟨xs.length, rfl, Nat.zero_le _, [], [], wipeG G1 vs, B1, i0, ?_, Same.refl B1, SameM.refl _, upd_same, .nil, B1D, Nat.le_refl _, fun a o e _ => by rw [upd_ne (ne_of_none e hD)]; exact e, fun a e _ => e⟩, ?_⟩
    · exact (n.sta.wiped vs).writeD h0D B1D (noD _ (SameM.refl _))
    rintro i m H' ⟨rfl, hi, acc, accv, Gb, B2, hI, S2, e2, sm, hD2, hA, B2D, hal, kp, nw⟩
    by_cases hlt : i < xs.length
    · obtain ⟨go, yl⟩ := (y i B2 H' e2 S2.st.sub).1 xs[i] (List.getElem?_eq_getElem hlt)
      refine .inr ⟨go, fun H'' => ∃ acc accv Gb B2, I (i + 1) acc Gb ∧ Sta B0 H0 B2 H'' (L2.wipe σ vs) Gb ∧ Same B1 B2 ∧ SameM (wipeG G1 vs) Gb ∧ H'' D = some (.lst accv) ∧ Ats B2 accv acc ∧ B2 D = none ∧ acc.length ≤ i + 1 ∧
        (∀ a o, H1 a = some o → ¬ IsMut G1 a → H'' a = some o) ∧ (∀ a, B1 a = none → H1 a ≠ none → B2 a = none), fun H'' w => ⟨xs.length - (i + 1), by omega, rfl, hlt, w⟩, fun x H3 hy => ?_⟩
      obtain ⟨B3, st, ax⟩ := yl x H3 hy
      have S3 := S2.step st
      have hD3 : H3 D = some (.lst accv) := st.eH _ _ hD2
      have B3D : B3 D = none := st.new D B2D (by rw [hD2]; exact fun z => nomatch z)
      refine turn i xs[i] acc Gb (List.getElem?_eq_getElem hlt) hI ((NoM.wipe G1 vs).same sm) B0 H0 B3 H3 _ S3 x ax _ fun Gt σt ht St wt wG sG => ⟨by rw [wt, wipe_wipe], ?_⟩
      have smt := sm.trans sG
      refine ht B0 H0 B3 H3 σt St _ fun b Gu B4 H4 hb n4 => ?_
      have sm4 := smt.trans n4.muts
      have hD4 : H4 D = some (.lst accv) := n4.keep _ _ hD3 (noD _ smt)
      have B4D : B4 D = none := n4.new D B3D (by rw [hD3]; exact fun z => nomatch z)
      have mutH : ∀ {Gx : Env}, SameM (wipeG G1 vs) Gx → ∀ a, IsMut Gx a ↔ IsMut G1 a := fun sx a => ⟨fun m => (hn.sameW.is a).mpr ((sx.is a).mpr m), fun m => (sx.is a).mp ((hn.sameW.is a).mp m)⟩
      have kp3 : ∀ a o, H1 a = some o → ¬ IsMut G1 a → H3 a = some o := fun a o e m => st.eH _ _ (kp a o e m)
      have kp4 : ∀ a o, H1 a = some o → ¬ IsMut G1 a → H4 a = some o := fun a o e m => n4.keep _ _ (kp3 a o e m) fun z => m ((mutH smt a).mp z)
      have some3 : ∀ a, H1 a ≠ none → H3 a ≠ none := fun a ha => by
        by_cases m : IsMut G1 a
        · obtain ⟨_, _, zs, e⟩ := S3.mutAt ((mutH sm a).mpr m)
          rw [e]
          exact fun z => nomatch z
        · cases qa : H1 a with
          | none => exact (ha qa).elim
          | some o =>
            rw [kp3 a o qa m]
            exact fun z => nomatch z
      have some4 : ∀ a, H1 a ≠ none → H4 a ≠ none := fun a ha => n4.some St (some3 a ha)
      have nw3 : ∀ a, B1 a = none → H1 a ≠ none → B3 a = none := fun a e ha => st.new a (nw a e ha) (by
        by_cases m : IsMut G1 a
        · obtain ⟨_, _, zs, e⟩ := S2.mutAt ((mutH sm a).mpr m)
          rw [e]
          exact fun z => nomatch z
        · cases qa : H1 a with
          | none => exact (ha qa).elim
          | some o =>
            rw [kp a o qa m]
            exact fun z => nomatch z)
      have nw4 : ∀ a, B1 a = none → H1 a ≠ none → B4 a = none := fun a e ha => n4.new a (nw3 a e ha) (some3 a ha)
      have e4 : Same B1 B4 := e2.trans (st.eB.trans n4.eB)
      cases b with
      | false =>
        show ∃ acc accv Gb B2, _
        have hf := hb.2 rfl
        have Sw := n4.sta.wiped vs
        rw [wt, wipe_wipe] at Sw
        exact ⟨acc, accv, _, B4, hf, Sw, e4, sm4.trans (((NoM.wipe G1 vs).same sm4).sameW), hD4, (hA.mono st.eB).mono n4.eB, B4D, by omega, kp4, nw4⟩
      | true =>
        show te σt H4 _
        refine hb.1 rfl B0 H0 B4 H4 σt n4.sta _ fun w yv Gv B5 H5 ⟨z, ez, hI'⟩ n5 a5 nw5 => ?_
        subst ez
        have sm5 := sm4.trans n5.muts
        have hD5 : H5 D = some (.lst accv) := n5.keep _ _ hD4 (noD _ sm4)
        have B5D : B5 D = none := n5.new D B4D (by rw [hD4]; exact fun z => nomatch z)
        have hA5 : Ats B5 accv acc := ((hA.mono st.eB).mono n4.eB).mono n5.eB
        refine ⟨accv, hD5, by rw [hA5.len, sizeLine_eq]; omega, acc ++ [z], accv ++ [w], wipeG Gv vs, B5, hI', ?_, e4.trans n5.eB, sm5.trans (((NoM.wipe G1 vs).same sm5).sameW), upd_same, hA5.append (.cons a5 .nil), B5D, by rw [List.length_append]; exact Nat.succ_le_succ hal, fun a o e m => ?_, fun a e ha => n5.new a (nw4 a e ha) (some4 a ha)⟩
        · have Sw := n5.sta.wiped vs
          rw [wt, wipe_wipe] at Sw
          exact Sw.writeD h0D B5D (noD _ (sm5.trans (((NoM.wipe G1 vs).same sm5).sameW)))
        · rw [upd_ne (ne_of_none e hD)]
          exact n5.keep _ _ (kp4 a o e m) fun z => m ((mutH sm4 a).mp z)
    · have e : i = xs.length := by omega
      subst e
      refine .inl ⟨(y xs.length B2 H' e2 S2.st.sub).2 rfl, ?_⟩
      obtain ⟨Sm, smm⟩ := n.sta.merge hn sm e2 S2
      have m : Nxt B0 H0 σ G1 B1 H1 (mergeM G1 Gb) B2 H' := ⟨Sm, e2, kp, nw, smm⟩
      exact q _ _ _ B2 H' (fin acc Gb hI D) (n.trans S m) ⟨rfl, h0D, B2D, fun mm => (by
        obtain ⟨_, _, zs, e⟩ := n.sta.mutAt ((smm.is D).mpr mm)
        rw [hD] at e
        cases e), accv, hD2, hA⟩ (n.fresh S hD)
/-- .. where the slots' lists do not change: A i is the list behind i turns -/
theorem ev_lcA (h : SrcW wi G fun xs G1 => NoM G1 vs ∧ xs.length ≤ 1000000 ∧ ∃ A : Nat → List Dat, A 0 = [] ∧
      (∀ (i : Nat) d, xs[i]? = some d → CW g d (wipeG G1 vs) vs fun Gt => TtW tt Gt fun b Gu => Gu = Gt ∧ (b = true → EvW te Gt fun y Gv => Gv = Gt ∧ ∃ z, y = .d z ∧ A (i + 1) = A i ++ [z]) ∧ (b = false → A (i + 1) = A i)) ∧
      ∀ p, K (.n p (A xs.length)) G1) : EvW (tLc wi g tt te vs) G K := ev_lcN fun B0 H0 B H σ S R q => h B0 H0 B H σ S R fun J xs G1 B1 H1 ⟨hn, hl, A, a0, turn, fin⟩ n y => q J xs G1 B1 H1 ⟨hn, hl, fun i acc Gb => acc = A i ∧ Gb = wipeG G1 vs, ⟨a0.symm, rfl⟩, fun i d acc Gb hd ⟨ea, eb⟩ => by
    subst ea eb
    intro hm B0 H0 B H σ S v av Q q2
    refine turn i d hd hm B0 H0 B H σ S v av Q fun Gt σt k St wt wG sG => q2 Gt σt ?_ St wt wG sG
    have wG' : wipeG Gt vs = wipeG G1 vs := by rw [wG, wipeG_wipeG]
    intro B0 H0 B H σ S Q q3
    refine k B0 H0 B H σ S Q fun b Gu B' H' ⟨eu, k1, k2⟩ nn => q3 b Gu B' H' ⟨fun e => ?_, fun e => ?_⟩ nn
    · subst eu
      exact (k1 e).mono fun y Gv ⟨ev, z, ey, ez⟩ => ⟨z, ey, ez.symm, by rw [ev, wG']⟩
    · subst eu
      exact ⟨(k2 e).symm, wG'⟩, fun acc Gb ⟨ea, eb⟩ p => by
    subst ea eb
    rw [mergeM_wipe hn]
    exact fin p⟩ n y
end

/-! ### a def by its body -/
def startG (ds : List Dat) (n : Nat) : Env := ds.map Sd.dat ++ List.replicate (n - ds.length) .un
theorem sta_start {B H : Hp} (h : Same B H) {vs : List V} {ds : List Dat} (a : Ats B vs ds) (N : List Str) : Sta B H B H (L2.start N vs) (startG ds N.length) := by
  refine ⟨Step.refl h, by unfold L2.start startG; rw [List.length_append, List.length_append, List.length_map, List.length_map, List.length_replicate, List.length_replicate, a.len], fun i s e => ?_, fun i j p es fs ei ej => ?_⟩
  · unfold startG at e
    by_cases hi : i < ds.length
    · rw [List.getElem?_append_left (by rw [List.length_map]; exact hi), List.getElem?_map] at e
      obtain ⟨d, hd, rfl⟩ := Option.map_eq_some_iff.mp e
      obtain ⟨v, hv, av⟩ := a.get hd
      refine ⟨v, ?_, av⟩
      unfold L2.start
      rw [List.getElem?_append_left (by rw [List.length_map, a.len]; exact hi), List.getElem?_map, hv]
      rfl
    · rw [List.getElem?_append_right (by rw [List.length_map]; omega), List.getElem?_replicate] at e
      split at e
      · cases e
        trivial
      · cases e
  · unfold startG at ei
    by_cases hi : i < ds.length
    · rw [List.getElem?_append_left (by rw [List.length_map]; exact hi), List.getElem?_map] at ei
      obtain ⟨d, hd, z⟩ := Option.map_eq_some_iff.mp ei
      cases z
    · rw [List.getElem?_append_right (by rw [List.length_map]; omega), List.getElem?_replicate] at ei
      split at ei <;> cases ei
theorem fn_P {R : List Dat → Dat → Prop} {t : TS} {N : List Str} {vs : List V} {H : Hp} {Q : VK} {E : XK} (h : ∀ ds d, R ds d → Tr t (startG ds N.length) { nx := fun _ => d = .non, rt := fun d' _ => d' = d }) (hs : spP R vs H Q E) : t { nx := fun _ H' => Q .non H', rt := Q } (L2.start N vs) H := by
  obtain ⟨B, ds, d, sb, a, r, q⟩ := hs
  refine h ds d r B H B H _ (sta_start sb a N) _ ⟨fun G' B' H' σ' e S _ => q _ B' H' S.st (by subst e; exact At.non), fun d' v G' B' H' σ' e S av => q v B' H' S.st (by subst e; exact av), fun _ _ _ _ z => z.elim, fun _ _ _ _ z => z.elim⟩
theorem spP_len {R : List Dat → Dat → Prop} {n : Nat} (h : ∀ ds d, R ds d → ds.length = n) : ∀ vs H Q E, spP R vs H Q E → vs.length = n := fun vs H Q E ⟨B, ds, d, _, a, r, _⟩ => by rw [a.len, h ds d r]
theorem sta_startU {B H : Hp} (h : Same B H) {u : Addr} {a b c : Int} (hB : B u = none) (hu : H u = some (.lst [.int a, .int b, .int c])) {ws : List V} {ds : List Dat} (av : Ats B ws ds) (N : List Str) :
    Sta B (wo H u) B H (L2.start N (.ref u :: ws)) (.own u [.int a, .int b, .int c] :: startG ds (N.length - 1)) := by
  have S0 := sta_start h av N.tail
  have el : N.tail.length = N.length - 1 := List.length_tail
  have es : L2.start N (.ref u :: ws) = some (.ref u) :: L2.start N.tail ws := by
    unfold L2.start
    rw [el]
    show (some (V.ref u) :: ws.map some) ++ List.replicate (N.length - (ws.length + 1)) none = some (.ref u) :: (ws.map some ++ List.replicate (N.length - 1 - ws.length) none)
    rw [show N.length - (ws.length + 1) = N.length - 1 - ws.length by omega]
    rfl
  rw [es, ← el]
  have ns : ∀ (i : Nat) p fs, (startG ds N.tail.length)[i]? ≠ some (.own p fs) := fun i p fs e => by
    unfold startG at e
    by_cases hi : i < ds.length
    · rw [List.getElem?_append_left (by rw [List.length_map]; exact hi), List.getElem?_map] at e
      obtain ⟨d, hd, z⟩ := Option.map_eq_some_iff.mp e
      cases z
    · rw [List.getElem?_append_right (by rw [List.length_map]; omega), List.getElem?_replicate] at e
      split at e <;> cases e
  refine ⟨⟨fun x o e => ?_, Same.refl B, h, fun x e _ => e⟩, congrArg (· + 1) S0.len, fun i s e => ?_, fun i j p es fs ei ej => ?_⟩
  · have hne : x ≠ u := fun z => by rw [z, wo_same] at e; cases e
    rw [wo_ne hne] at e
    exact e
  · cases i with
    | zero =>
      cases e
      exact ⟨rfl, wo_same, hB, _, hu, Ats.ints [a, b, c]⟩
    | succ i =>
      have e' : (startG ds N.tail.length)[i]? = some s := by simpa using e
      have z := S0.ok i s e'
      cases s with
      | un => trivial
      | dat d =>
        obtain ⟨v, h1, h2⟩ := z
        exact ⟨v, by simpa using h1, h2⟩
      | own p fs => exact (ns i p fs e').elim
  · cases i with
    | zero =>
      cases j with
      | zero => rfl
      | succ j => exact (ns j p fs (by simpa using ej)).elim
    | succ i => exact (ns i p es (by simpa using ei)).elim
theorem fn_U {k : Int} {Pre : List Dat → Prop} {R : List Dat → Dat → Prop} {t : TS} {N : List Str} {vs : List V} {H : Hp} {Q : VK} {E : XK}
    (h : ∀ ds (u : Addr) (a b c : Int), Pre ds → 0 ≤ c → c ≤ 1000000 - 1000 * k → Tr t (.own u [.int a, .int b, .int c] :: startG ds (N.length - 1)) { nx := fun _ => False, rt := fun d G' => R ds d ∧ ∃ a' b' c', G'[0]? = some (.own u [.int a', .int b', .int c']) ∧ 0 ≤ c' ∧ c' ≤ c + k }) (hs : spU k Pre R vs H Q E) :
    t { nx := fun _ H' => Q .non H', rt := Q } (L2.start N vs) H := by
  obtain ⟨B, u, ws, ds, a, b, c, rfl, sb, hB, hu, c0, c1, av, pre, q⟩ := hs
  refine h ds u a b c pre c0 c1 B (wo H u) B H _ (sta_startU sb hB hu av N) _ ⟨fun _ _ _ _ z => z.elim, fun d v G' B' H' σ' ⟨r, a', b', c', e, h1, h2⟩ S a2 => ?_, fun _ _ _ _ z => z.elim, fun _ _ _ _ z => z.elim⟩
  obtain ⟨_, _, g3, xs, g4, g5⟩ := S.ok 0 _ e
  have ex : xs = [.int a', .int b', .int c'] := Ats.ints_inv (ns := [a', b', c']) g5
  subst ex
  exact q d v B' H' a' b' c' r S.st g3 g4 h1 h2 a2
theorem spU_len {k : Int} {Pre : List Dat → Prop} {R : List Dat → Dat → Prop} {n : Nat} (h : ∀ ds, Pre ds → ds.length + 1 = n) : ∀ vs H Q E, spU k Pre R vs H Q E → vs.length = n := fun vs H Q E ⟨B, u, ws, ds, a, b, c, e, _, _, _, _, _, av, pre, _⟩ => by
  rw [e, List.length_cons, av.len, h ds pre]
end Mn
namespace Mn
open PySem PySem.Spec PyProof.Rows L2
/-! ### the rules with the written part said -/
section
variable {X : Cx} {K : PySem.W.Frag}
theorem ix_seqK (h : X.K = K) : IxR X (rIx K) := h ▸ ix_seq
theorem op_addK (h : X.K = K) : OpR X (binaryOp .Add) (rAddX K) := h ▸ op_addX
theorem op_mulK (h : X.K = K) : OpR X (binaryOp .Mult) (rMulY K) := h ▸ op_mulY
theorem op_eqK (h : X.K = K) (hu : X.A.units + 64 < cLine) : OpR X (compareOp .Eq) (rEqX K) := h ▸ op_eqX hu
theorem op_neK (h : X.K = K) (hu : X.A.units + 64 < cLine) : OpR X (compareOp .NotEq) (rNeX K) := h ▸ op_neX hu
theorem op_niK (h : X.K = K) : OpR X (compareOp .NotIn) (rIn K true) := h ▸ op_notIn_seq
theorem crLenK (h : X.K = K) : CallR X (.builtin "len") (rLenX K) := h ▸ crLen
theorem crListK (h : X.K = K) : CallR X (.type "list") (rListX K) := h ▸ crList
theorem crTupK (h : X.K = K) : CallR X (.type "tuple") (rTupX K) := h ▸ crTup
theorem crSumK (h : X.K = K) (hc : X.calm = true) : CallR X (.builtin "sum") (rSum K) := h ▸ cr_sum hc
theorem crMin1K (h : X.K = K) (hc : X.calm = true) : CallR X (.builtin "min") (rMin K) := h ▸ cr_min hc
theorem crAllK (h : X.K = K) (hc : X.calm = true) : CallR X (.builtin "all") (rAll K) := h ▸ cr_all hc
theorem crIsiK (h : X.K = K) : CallR X (.builtin "isinstance") (rIsi K) := h ▸ call_isi
theorem crIsiTK (h : X.K = K) : CallR X (.builtin "isinstance") (rIsiT K) := h ▸ call_isiT
theorem slK (h : X.K = K) : SlR X (rSlX K) := h ▸ slX
theorem get_listK (h : X.K = K) : PGet X (rGetL K) := h ▸ get_list
theorem pi_seqK {tg l : Expr} {tl : TE} (h : X.K = K) (hl : PE X l tl) : PI X tg l (iSeq K tl) := h ▸ pi_seq hl
theorem pi_enumK {e : Expr} {ta : TA} {p pos tpos : Pos} {elts : List Expr} {kk : Nat} (h : X.K = K) (hg : Gl X "enumerate") (hm : X.mg "enumerate" = none) (ha : PA X [e] ta) (hs : starEach [e] X.env = [(false, eval e X.env)] := by rfl) :
    PI X (.Tuple elts kk tpos) (.Call (.Name "enumerate" p) [e] [] pos) (iEnumA K ta) := h ▸ pi_enumA hg hm ha hs
theorem pi_zipK {e e2 : Expr} {ta : TA} {p pos tpos : Pos} {elts : List Expr} {kk : Nat} (h : X.K = K) (hg : Gl X "zip") (hm : X.mg "zip" = none) (ha : PA X [e, e2] ta)
    (hs : starEach [e, e2] X.env = (false, eval e X.env) :: starEach [e2] X.env := by rfl) (hpl : (backTo pos (starEach [e2] X.env)).any (·.1) = false := by rfl) :
    PI X (.Tuple elts kk tpos) (.Call (.Name "zip" p) [e, e2] [] pos) (iZipX K ta) := h ▸ pi_zipX hg hm ha hs hpl
theorem pg_tupK {es : List Expr} {k : Nat} {t : TGs} {n : Nat} {pos : Pos} (h : X.K = K) (hc : X.calm = true) (hgs : PGs X es t)
    (hn : (assignEach es X.env).length = n := by rfl) (hst : (assignEach es X.env).findIdx? (·.1) = none := by rfl) : PG X (.Tuple es k pos) (gTup K n t) := h ▸ pg_tup hc hgs hn hst
/-- a module's number -/
theorem pe_const {x : Str} {i : Int} {pos : Pos} (hm : ∃ t, X.mg x = some (.int i t)) (hg : Gl X x) (hd : (x == ("__debug__" : Str)) = false := by decide) : PE X (.Name x pos) (tC (.int i)) := by
  obtain ⟨t, e⟩ := hm
  exact pe_glob hg e ⟨t, rfl⟩ hd
end
/-- a def of the text as it stands behind the top -/
def DefAt (K : PySem.W.Frag) (mg : Str → Option Value) (x : Str) (st : Stmt) (ps : List Str) : Prop := ∃ (f : Addr) (fd : FuncData), FunD K x x (defArgs st) (defBody st) (defScope st) [] [] f fd ∧ Binds K fd ps [] ∧ mg x = some (.ref f)
theorem DefAt.cal {P : Program} {w : World} {K : PySem.W.Frag} {mg : Str → Option Value} {base : Heap} {x : Str} {st : Stmt} {ps N : List Str} {k : Nat} {sp : Sp} (D : DefAt K mg x st ps) (S : FnScope N ps (defScope st)) (len : ∀ vs H Q E, sp vs H Q E → vs.length = ps.length)
    (hbody : ∀ (f : Addr) (cdv : Value) (A : Around) (outer : List PySem.Env) (s : Shared) (H : Hp) (vs : List V) (Q : VK) (E : XK), Room k (A.deeper (envOfC x (defScope st) s.heap.objs.size f cdv)) → sp vs H Q E →
      ∃ t, PSs (cxOf CX0 P w K mg base N x (defScope st) f cdv A outer s H E).nox (defBody st) t ∧ t { nx := fun _ H' => Q .non H', rt := Q } (L2.start N vs) H) : Cal P w K mg base (k + 1) x ps sp := by
  obtain ⟨f, fd, F, b, g⟩ := D
  refine ⟨f, fd, F.ok S len fun cdv A outer s H vs Q E hr hs => ?_, g, F.kp, b⟩
  obtain ⟨t, h1, h2⟩ := hbody f cdv A outer s H vs Q E hr hs
  exact ⟨t, PSs.nox h1, h2⟩
end Mn
namespace Mn
open PySem PySem.Spec PyProof.Rows L2
/-! ### the text by places; what the top leaves -/
def top (i : Nat) : Stmt := PySem.Challenge.pw_manrods_k56_whole_last_passings_of_level.main.body.getD i (.Pass ⟨0, 0, 0, 0⟩)
abbrev s_tuple_of : Stmt := top 1
abbrev n_tuple_of : List Str := ["thing", "part"]
theorem sc_tuple_of : FnScope n_tuple_of ["thing"] (defScope s_tuple_of) := ⟨rfl, rfl, rfl, by decide +kernel, rfl, by decide +kernel, by decide +kernel⟩
abbrev s_dry_held : Stmt := top 7
abbrev n_dry_held : List Str := ["waters"]
theorem sc_dry_held : FnScope n_dry_held ["waters"] (defScope s_dry_held) := ⟨rfl, rfl, rfl, by decide +kernel, rfl, by decide +kernel, by decide +kernel⟩
abbrev s_brings : Stmt := top 8
abbrev n_brings : List Str := ["waters", "held", "made", "loose", "leaks", "rises", "found", "number", "own", "takes"]
theorem sc_brings : FnScope n_brings ["waters", "held", "made", "loose", "leaks"] (defScope s_brings) := ⟨rfl, rfl, rfl, by decide +kernel, rfl, by decide +kernel, by decide +kernel⟩
abbrev s_behind_stroke : Stmt := top 9
abbrev n_behind_stroke : List Str := ["waters", "held", "made", "loose", "leaks", "found", "brought", "number", "more"]
theorem sc_behind_stroke : FnScope n_behind_stroke ["waters", "held", "made", "loose", "leaks"] (defScope s_behind_stroke) := ⟨rfl, rfl, rfl, by decide +kernel, rfl, by decide +kernel, by decide +kernel⟩
abbrev s_behind_spills : Stmt := top 10
abbrev n_behind_spills : List Str := ["waters", "standing", "found", "number", "more"]
theorem sc_behind_spills : FnScope n_behind_spills ["waters", "standing"] (defScope s_behind_spills) := ⟨rfl, rfl, rfl, by decide +kernel, rfl, by decide +kernel, by decide +kernel⟩
abbrev s_behind_rest : Stmt := top 11
abbrev n_behind_rest : List Str := ["waters", "held", "rest", "made", "moved", "loose", "leaks", "standing", "out", "part", "own"]
theorem sc_behind_rest : FnScope n_behind_rest ["waters", "held", "rest", "made", "moved", "loose", "leaks"] (defScope s_behind_rest) := ⟨rfl, rfl, rfl, by decide +kernel, rfl, by decide +kernel, by decide +kernel⟩
abbrev s_lift_heights : Stmt := top 13
abbrev n_lift_heights : List Str := ["waters", "levels", "cistern", "number"]
theorem sc_lift_heights : FnScope n_lift_heights ["waters"] (defScope s_lift_heights) := ⟨rfl, rfl, rfl, by decide +kernel, rfl, by decide +kernel, by decide +kernel⟩
abbrev s_whole_leaks : Stmt := top 14
abbrev n_whole_leaks : List Str := ["waters"]
theorem sc_whole_leaks : FnScope n_whole_leaks ["waters"] (defScope s_whole_leaks) := ⟨rfl, rfl, rfl, by decide +kernel, rfl, by decide +kernel, by decide +kernel⟩
abbrev s_weight_by : Stmt := top 15
abbrev n_weight_by : List Str := ["waters", "held", "made", "loose", "leaks", "lifted", "amount", "height"]
theorem sc_weight_by : FnScope n_weight_by ["waters", "held", "made", "loose", "leaks"] (defScope s_weight_by) := ⟨rfl, rfl, rfl, by decide +kernel, rfl, by decide +kernel, by decide +kernel⟩
abbrev s_steam_by : Stmt := top 16
abbrev n_steam_by : List Str := ["engine", "rest", "steam", "spent", "room", "_", "stokes"]
theorem sc_steam_by : FnScope n_steam_by ["engine", "rest", "steam", "spent"] (defScope s_steam_by) := ⟨rfl, rfl, rfl, by decide +kernel, rfl, by decide +kernel, by decide +kernel⟩
abbrev s_lone_rest : Stmt := top 17
abbrev n_lone_rest : List Str := ["mine", "rest", "state", "made", "held", "steam", "leaks", "weight", "moved", "later"]
theorem sc_lone_rest : FnScope n_lone_rest ["mine", "rest", "state"] (defScope s_lone_rest) := ⟨rfl, rfl, rfl, by decide +kernel, rfl, by decide +kernel, by decide +kernel⟩
abbrev s_lone_rows : Stmt := top 18
abbrev n_lone_rows : List Str := ["mine", "many", "own", "rows", "rest"]
theorem sc_lone_rows : FnScope n_lone_rows ["mine", "many"] (defScope s_lone_rows) := ⟨rfl, rfl, rfl, by decide +kernel, rfl, by decide +kernel, by decide +kernel⟩
abbrev s_flood_mark : Stmt := top 20
abbrev n_flood_mark : List Str := ["mine", "level"]
theorem sc_flood_mark : FnScope n_flood_mark ["mine", "level"] (defScope s_flood_mark) := ⟨rfl, rfl, rfl, by decide +kernel, rfl, by decide +kernel, by decide +kernel⟩
abbrev s_made_row : Stmt := top 21
abbrev n_made_row : List Str := ["mine", "many", "row"]
theorem sc_made_row : FnScope n_made_row ["mine", "many"] (defScope s_made_row) := ⟨rfl, rfl, rfl, by decide +kernel, rfl, by decide +kernel, by decide +kernel⟩
abbrev s_first_wet : Stmt := top 22
abbrev n_first_wet : List Str := ["mine", "rows", "level", "rest", "row"]
theorem sc_first_wet : FnScope n_first_wet ["mine", "rows", "level"] (defScope s_first_wet) := ⟨rfl, rfl, rfl, by decide +kernel, rfl, by decide +kernel, by decide +kernel⟩
abbrev s_wet_from : Stmt := top 23
abbrev n_wet_from : List Str := ["mine", "level", "many", "own"]
theorem sc_wet_from : FnScope n_wet_from ["mine", "level", "many"] (defScope s_wet_from) := ⟨rfl, rfl, rfl, by decide +kernel, rfl, by decide +kernel, by decide +kernel⟩
abbrev s_lasts_of : Stmt := top 24
abbrev n_lasts_of : List Str := ["mine", "many", "own", "found", "rows", "level", "rest"]
theorem sc_lasts_of : FnScope n_lasts_of ["mine", "many"] (defScope s_lasts_of) := ⟨rfl, rfl, rfl, by decide +kernel, rfl, by decide +kernel, by decide +kernel⟩
abbrev s_slots_by : Stmt := top 25
abbrev n_slots_by : List Str := ["lasts", "found", "least", "place", "last"]
theorem sc_slots_by : FnScope n_slots_by ["lasts"] (defScope s_slots_by) := ⟨rfl, rfl, rfl, by decide +kernel, rfl, by decide +kernel, by decide +kernel⟩
abbrev s_last_slots : Stmt := top 26
abbrev n_last_slots : List Str := ["mine", "many"]
theorem sc_last_slots : FnScope n_last_slots ["mine", "many"] (defScope s_last_slots) := ⟨rfl, rfl, rfl, by decide +kernel, rfl, by decide +kernel, by decide +kernel⟩
abbrev s__law_box : Stmt := top 28
abbrev n__law_box : List Str := ["_law_script", "_law_k", "_law_cell_so"]
theorem sc__law_box : FnScope n__law_box ["_law_script", "_law_k"] (defScope s__law_box) := ⟨rfl, rfl, rfl, by decide +kernel, rfl, by decide +kernel, by decide +kernel⟩
abbrev s__law_take : Stmt := top 29
abbrev n__law_take : List Str := ["_law_urn", "_law_low_so", "_law_drawn", "_law_once_so", "_law_wide_so", "_law_twice_so"]
theorem sc__law_take : FnScope n__law_take ["_law_urn", "_law_low_so"] (defScope s__law_take) := ⟨rfl, rfl, rfl, by decide +kernel, rfl, by decide +kernel, by decide +kernel⟩
abbrev s__law_cells : Stmt := top 30
abbrev n__law_cells : List Str := ["_law_script", "_law_top_so", "_law_cells_so", "_law_k", "_law_cell_so", "_law_at_so"]
theorem sc__law_cells : FnScope n__law_cells ["_law_script", "_law_top_so"] (defScope s__law_cells) := ⟨rfl, rfl, rfl, by decide +kernel, rfl, by decide +kernel, by decide +kernel⟩
abbrev s__law_of : Stmt := top 31
abbrev n__law_of : List Str := ["_law_urn", "_law_goods_so"]
theorem sc__law_of : FnScope n__law_of ["_law_urn", "_law_goods_so"] (defScope s__law_of) := ⟨rfl, rfl, rfl, by decide +kernel, rfl, by decide +kernel, by decide +kernel⟩
abbrev s__law_same : Stmt := top 32
abbrev n__law_same : List Str := ["_law_got", "_law_goal", "_law_its", "_law_own"]
theorem sc__law_same : FnScope n__law_same ["_law_got", "_law_goal"] (defScope s__law_same) := ⟨rfl, rfl, rfl, by decide +kernel, rfl, by decide +kernel, by decide +kernel⟩
abbrev s__law_lists : Stmt := top 33
abbrev n__law_lists : List Str := ["_law_matter", "_law_own"]
theorem sc__law_lists : FnScope n__law_lists ["_law_matter"] (defScope s__law_lists) := ⟨rfl, rfl, rfl, by decide +kernel, rfl, by decide +kernel, by decide +kernel⟩
abbrev s__law_waters : Stmt := top 34
abbrev n__law_waters : List Str := ["_law_urn", "_law_deep_so", "_law_levels_so", "_law_found", "_law_lap", "_law_low_so"]
theorem sc__law_waters : FnScope n__law_waters ["_law_urn", "_law_deep_so"] (defScope s__law_waters) := ⟨rfl, rfl, rfl, by decide +kernel, rfl, by decide +kernel, by decide +kernel⟩
abbrev s__law_mine : Stmt := top 35
abbrev n__law_mine : List Str := ["_law_urn", "_law_dear_so", "_law_deep_so", "_law_rooms_so", "_law_shaft_so", "_law_fill_so", "_law_per_so", "_law_fire_so", "_law_room_so", "_law_stokes_so", "_law_k"]
theorem sc__law_mine : FnScope n__law_mine ["_law_urn", "_law_dear_so"] (defScope s__law_mine) := ⟨rfl, rfl, rfl, by decide +kernel, rfl, by decide +kernel, by decide +kernel⟩
abbrev s__law_lifted : Stmt := top 36
abbrev n__law_lifted : List Str := ["_law_fill_so", "_law_held_so", "_law_beat_so", "_law_loose_so", "_law_leaks_so", "_law_rises_so", "_law_found", "_law_k", "_law_own", "_law_goes_so"]
theorem sc__law_lifted : FnScope n__law_lifted ["_law_fill_so", "_law_held_so", "_law_beat_so", "_law_loose_so", "_law_leaks_so"] (defScope s__law_lifted) := ⟨rfl, rfl, rfl, by decide +kernel, rfl, by decide +kernel, by decide +kernel⟩
abbrev s__law_load : Stmt := top 37
abbrev n__law_load : List Str := ["_law_fill_so", "_law_lifted_so", "_law_found", "_law_k", "_law_own", "_law_far_so"]
theorem sc__law_load : FnScope n__law_load ["_law_fill_so", "_law_lifted_so"] (defScope s__law_load) := ⟨rfl, rfl, rfl, by decide +kernel, rfl, by decide +kernel, by decide +kernel⟩
abbrev s__law_flow : Stmt := top 38
abbrev n__law_flow : List Str := ["_law_fill_so", "_law_held_so", "_law_lifted_so", "_law_odd_so", "_law_now_so", "_law_k", "_law_over_so", "_law_own"]
theorem sc__law_flow : FnScope n__law_flow ["_law_fill_so", "_law_held_so", "_law_lifted_so", "_law_odd_so"] (defScope s__law_flow) := ⟨rfl, rfl, rfl, by decide +kernel, rfl, by decide +kernel, by decide +kernel⟩
abbrev s__law_lone : Stmt := top 39
abbrev n__law_lone : List Str := ["_law_mine_so", "_law_many_so", "_law_fill_so", "_law_fire_so", "_law_bare_so", "_law_beat_so", "_law_held_so", "_law_steam_so", "_law_rows_so", "_law_loads_so", "_law_missed_so", "_law_k", "_law_lifted_so"]
theorem sc__law_lone : FnScope n__law_lone ["_law_mine_so", "_law_many_so"] (defScope s__law_lone) := ⟨rfl, rfl, rfl, by decide +kernel, rfl, by decide +kernel, by decide +kernel⟩
abbrev s__law_is_wet : Stmt := top 40
abbrev n__law_is_wet : List Str := ["_law_mine_so", "_law_held_so", "_law_level_so"]
theorem sc__law_is_wet : FnScope n__law_is_wet ["_law_mine_so", "_law_held_so", "_law_level_so"] (defScope s__law_is_wet) := ⟨rfl, rfl, rfl, by decide +kernel, rfl, by decide +kernel, by decide +kernel⟩
abbrev s__law_last_passed : Stmt := top 41
abbrev n__law_last_passed : List Str := ["_law_mine_so", "_law_rows_so", "_law_level_so", "_law_found", "_law_fine_so", "_law_beat_so", "_law_here_so", "_law_row_so"]
theorem sc__law_last_passed : FnScope n__law_last_passed ["_law_mine_so", "_law_rows_so", "_law_level_so"] (defScope s__law_last_passed) := ⟨rfl, rfl, rfl, by decide +kernel, rfl, by decide +kernel, by decide +kernel⟩
abbrev s__law_right : Stmt := top 42
abbrev n__law_right : List Str := ["_law_urn", "_law_mine_so", "_law_many_so", "_law_rows_so", "_law_levels_so", "_law_lasts_so", "_law_own", "_law_slots_so", "_law_wets_so", "_law_known_so", "_law_k", "_law_here_so", "_law_heard", "_law_due", "_law_later", "_law_last_so", "_law_row_so"]
theorem sc__law_right : FnScope n__law_right ["_law_urn"] (defScope s__law_right) := ⟨rfl, rfl, rfl, by decide +kernel, rfl, by decide +kernel, by decide +kernel⟩
abbrev s__law_by_hand_right : Stmt := top 43
abbrev n__law_by_hand_right : List Str := ["_law_well", "_law_stuck", "_law_heard", "_law_due", "_law_own"]
theorem sc__law_by_hand_right : FnScope n__law_by_hand_right [] (defScope s__law_by_hand_right) := ⟨rfl, rfl, rfl, by decide +kernel, rfl, by decide +kernel, by decide +kernel⟩
abbrev s_law : Stmt := top 44
abbrev n_law : List Str := ["_law_script"]
theorem sc_law : FnScope n_law ["_law_script"] (defScope s_law) := ⟨rfl, rfl, rfl, by decide +kernel, rfl, by decide +kernel, by decide +kernel⟩
structure Tx (K : PySem.W.Frag) (mg : Str → Option Value) : Prop where
  z_abs : mg "abs" = none
  z_all : mg "all" = none
  z_bool : mg "bool" = none
  z_enumerate : mg "enumerate" = none
  z_int : mg "int" = none
  z_isinstance : mg "isinstance" = none
  z_len : mg "len" = none
  z_list : mg "list" = none
  z_max : mg "max" = none
  z_min : mg "min" = none
  z_range : mg "range" = none
  z_str : mg "str" = none
  z_sum : mg "sum" = none
  z_tuple : mg "tuple" = none
  z_zip : mg "zip" = none
  c_MEASURE : ∃ t, mg "MEASURE" = some (.int 3 t)
  c_ROD : ∃ t, mg "ROD" = some (.int 4 t)
  c_ROOM : ∃ t, mg "ROOM" = some (.int 1 t)
  c_SPRING : ∃ t, mg "SPRING" = some (.int 2 t)
  d_tuple_of : DefAt K mg "tuple_of" s_tuple_of ["thing"]
  d_dry_held : DefAt K mg "dry_held" s_dry_held ["waters"]
  d_brings : DefAt K mg "brings" s_brings ["waters", "held", "made", "loose", "leaks"]
  d_behind_stroke : DefAt K mg "behind_stroke" s_behind_stroke ["waters", "held", "made", "loose", "leaks"]
  d_behind_spills : DefAt K mg "behind_spills" s_behind_spills ["waters", "standing"]
  d_behind_rest : DefAt K mg "behind_rest" s_behind_rest ["waters", "held", "rest", "made", "moved", "loose", "leaks"]
  d_lift_heights : DefAt K mg "lift_heights" s_lift_heights ["waters"]
  d_whole_leaks : DefAt K mg "whole_leaks" s_whole_leaks ["waters"]
  d_weight_by : DefAt K mg "weight_by" s_weight_by ["waters", "held", "made", "loose", "leaks"]
  d_steam_by : DefAt K mg "steam_by" s_steam_by ["engine", "rest", "steam", "spent"]
  d_lone_rest : DefAt K mg "lone_rest" s_lone_rest ["mine", "rest", "state"]
  d_lone_rows : DefAt K mg "lone_rows" s_lone_rows ["mine", "many"]
  d_flood_mark : DefAt K mg "flood_mark" s_flood_mark ["mine", "level"]
  d_made_row : DefAt K mg "made_row" s_made_row ["mine", "many"]
  d_first_wet : DefAt K mg "first_wet" s_first_wet ["mine", "rows", "level"]
  d_wet_from : DefAt K mg "wet_from" s_wet_from ["mine", "level", "many"]
  d_lasts_of : DefAt K mg "lasts_of" s_lasts_of ["mine", "many"]
  d_slots_by : DefAt K mg "slots_by" s_slots_by ["lasts"]
  d_last_slots : DefAt K mg "last_slots" s_last_slots ["mine", "many"]
  d__law_box : DefAt K mg "_law_box" s__law_box ["_law_script", "_law_k"]
  d__law_take : DefAt K mg "_law_take" s__law_take ["_law_urn", "_law_low_so"]
  d__law_cells : DefAt K mg "_law_cells" s__law_cells ["_law_script", "_law_top_so"]
  d__law_of : DefAt K mg "_law_of" s__law_of ["_law_urn", "_law_goods_so"]
  d__law_same : DefAt K mg "_law_same" s__law_same ["_law_got", "_law_goal"]
  d__law_lists : DefAt K mg "_law_lists" s__law_lists ["_law_matter"]
  d__law_waters : DefAt K mg "_law_waters" s__law_waters ["_law_urn", "_law_deep_so"]
  d__law_mine : DefAt K mg "_law_mine" s__law_mine ["_law_urn", "_law_dear_so"]
  d__law_lifted : DefAt K mg "_law_lifted" s__law_lifted ["_law_fill_so", "_law_held_so", "_law_beat_so", "_law_loose_so", "_law_leaks_so"]
  d__law_load : DefAt K mg "_law_load" s__law_load ["_law_fill_so", "_law_lifted_so"]
  d__law_flow : DefAt K mg "_law_flow" s__law_flow ["_law_fill_so", "_law_held_so", "_law_lifted_so", "_law_odd_so"]
  d__law_lone : DefAt K mg "_law_lone" s__law_lone ["_law_mine_so", "_law_many_so"]
  d__law_is_wet : DefAt K mg "_law_is_wet" s__law_is_wet ["_law_mine_so", "_law_held_so", "_law_level_so"]
  d__law_last_passed : DefAt K mg "_law_last_passed" s__law_last_passed ["_law_mine_so", "_law_rows_so", "_law_level_so"]
  d__law_right : DefAt K mg "_law_right" s__law_right ["_law_urn"]
  d__law_by_hand_right : DefAt K mg "_law_by_hand_right" s__law_by_hand_right []
  d_law : DefAt K mg "law" s_law ["_law_script"]
end Mn
namespace Mn
open PySem PySem.Spec PyProof.Rows L2
/-! ### the mirror: what the defs reckon, over plain data -/
structure Cist where
  level : Int
  room : Int
  spring : Int
  measure : Int
  rod : Int
structure Eng where
  room : Int
  begn : Int
  stokes : List Int
structure Mine where
  deep : Int
  wide : Bool
  rooms : List Int
  ws : List Cist
  per : Int
  eng : Option Eng
structure Row where
  made : Int
  held : List Int
  steam : Int
def imin (i j : Int) : Int := if j < i then j else i
def imax (i j : Int) : Int := if j > i then j else i
def rise (made : Int) : Int := if made % 2 = 0 then 1 else 0
def lift1 (made : Int) (c : Cist) (h : Int) : Int := imax 0 (if c.rod = rise made then imin c.measure h else 0)
def lifts (ws : List Cist) (held : List Int) (made : Int) : List Int := List.zipWith (lift1 made) ws held
/-- behind i turns of the stroke's loop -/
def strokeAt (held br : List Int) (i : Nat) : List Int := held.mapIdx fun j h => h - (if j < i then br.getD j 0 else 0) + (if 0 < j ∧ j ≤ i then br.getD (j - 1) 0 else 0)
def stroke (held br : List Int) : List Int := strokeAt held br held.length
def springs (ws : List Cist) (st : List Int) : List Int := List.zipWith (fun s c => s + c.spring) st ws
def spill1 (ws : List Cist) (f : List Int) (k : Nat) : List Int :=
  (f.set k (f.getD k 0 - imax 0 (f.getD k 0 - (ws.map Cist.room).getD k 0))).set (k - 1) (f.getD (k - 1) 0 + imax 0 (f.getD k 0 - (ws.map Cist.room).getD k 0))
def spillAt (ws : List Cist) (f : List Int) : Nat → List Int
  | 0 => f
  | i + 1 => spill1 ws (spillAt ws f i) (f.length - 1 - i)
def spills (ws : List Cist) (f : List Int) : List Int := spillAt ws f (f.length - 1)
/-- what is held behind a rest; br: what the lifts bring (nothing: zeros) -/
def flow (ws : List Cist) (held br : List Int) (odd : Bool) : List Int := spills ws (if odd then springs ws (stroke held br) else stroke held br)
def zeros (n : Nat) : List Int := List.replicate n 0
def heights (ws : List Cist) : List Int := (List.range ws.length).map fun i => ((ws.map Cist.level) ++ [0]).getD i 0 - ((ws.map Cist.level) ++ [0]).getD (i + 1) 0
def weight (ws : List Cist) (held : List Int) (made : Int) : Int := (List.zipWith (· * ·) (lifts ws held made) (heights ws)).sum
def steamBy (e : Option Eng) (rest : Nat) (steam spent : Int) : Int := match e with
  | none => 0
  | some e => imin e.room (steam - spent + e.stokes.getD (rest % e.stokes.length) 0)
def moves (m : Mine) (r : Row) : Bool := match m.eng with
  | none => true
  | some _ => decide (weight m.ws r.held r.made ≤ r.steam)
def step (m : Mine) (k : Nat) (r : Row) : Row :=
  { made := r.made + (if moves m r then 1 else 0)
    held := flow m.ws r.held (if moves m r then lifts m.ws r.held r.made else zeros m.ws.length) (decide ((k : Int) % 2 = 1))
    steam := steamBy m.eng k r.steam (if moves m r then weight m.ws r.held r.made else 0) }
def row0 (m : Mine) : Row := ⟨0, zeros m.ws.length, match m.eng with | none => 0 | some e => e.begn⟩
def rowAt (m : Mine) : Nat → Row
  | 0 => row0 m
  | k + 1 => step m k (rowAt m k)
def rows (m : Mine) (n : Nat) : List Row := (List.range (n + 1)).map (rowAt m)
def mark (m : Mine) (level : Int) : Int := m.per * (m.deep - level + 1)
def wet (m : Mine) (level : Int) (r : Row) : Bool := decide (mark m level ≤ r.held.getD 0 0)
def firstWet (m : Mine) (level : Int) (rs : List Row) : Option Nat := rs.findIdx? (wet m level)
def lastOf (m : Mine) (rs : List Row) (level : Int) : Option Int := (firstWet m level rs).map fun i => (rs.getD i ⟨0, [], 0⟩).made - 1
def levels (m : Mine) : List Int := rgI 1 (m.deep + 1)
def lastsOf (m : Mine) (n : Nat) : List (Option Int) := (levels m).map (lastOf m (rows m n))
def slot1 (least : Option Int) (place : Nat) (last : Option Int) : Option Int := match last with
  | none => least
  | some l => match least with
    | none => some (l + place + 1)
    | some b => if l + place + 1 < b then some (l + place + 1) else some b
def leastAt (ls : List (Option Int)) : Nat → Option Int
  | 0 => none
  | i + 1 => slot1 (leastAt ls i) i (ls.getD i none)
def slotsBy (ls : List (Option Int)) : List (Option Int) := (List.range ls.length).map fun i => leastAt ls (i + 1)

/-! ### as data -/
def intsT (ns : List Int) : Dat := .tup (ns.map Dat.int)
def intsL (ns : List Int) : Dat := .lst (ns.map Dat.int)
def optD : Option Int → Dat
  | none => .non
  | some i => .int i
def optsT (os : List (Option Int)) : Dat := .tup (os.map optD)
def optsL (os : List (Option Int)) : Dat := .lst (os.map optD)
def Cist.d (c : Cist) : Dat := .tup [.int c.level, .int c.room, .int c.spring, .int c.measure, .int c.rod]
def watD (ws : List Cist) : Dat := .tup (ws.map Cist.d)
def engD : Option Eng → Dat
  | none => .non
  | some e => .tup [.int e.room, .int e.begn, intsT e.stokes]
def mineD (m : Mine) : Dat := .tup [.tup [.int m.deep, .bl m.wide, intsT m.rooms], watD m.ws, .int m.per, engD m.eng]
def Row.d (r : Row) : Dat := .tup [.int r.made, intsT r.held, .int r.steam]
def rowsL (rs : List Row) : Dat := .lst (rs.map Row.d)
/-- what the walk asks of a mine -/
structure Ok (m : Mine) : Prop where
  d1 : 1 ≤ m.deep
  d2 : m.deep ≤ 1000
  p1 : 1 ≤ m.per
  p2 : m.per ≤ 1000
  r1 : m.rooms.length ≤ 1000
  w1 : 1 ≤ m.ws.length
  w2 : m.ws.length ≤ 1000
  lv : ∀ c ∈ m.ws, -1000 ≤ c.level ∧ c.level ≤ 1000
  en : ∀ e, m.eng = some e → 1 ≤ e.stokes.length ∧ e.stokes.length ≤ 1000
end Mn
namespace Mn
open PySem PySem.Spec PyProof.Rows L2
/-! ### small helps -/
theorem atN {ds : List Dat} {i : Nat} {z : Dat} (h : ds[i]? = some z) : atI ds (i : Int) = some z := by
  have hi : i < ds.length := (List.getElem?_eq_some_iff.mp h).1
  unfold atI
  have e : ixN ds.length (i : Int) = some i := by
    unfold ixN
    rw [if_pos (by omega), if_pos (by omega)]
    rfl
  rw [e]
  exact h
theorem atM {α : Type} {f : α → Dat} {xs : List α} {i : Nat} {x : α} (h : xs[i]? = some x) : atI (xs.map f) (i : Int) = some (f x) := atN (by rw [List.getElem?_map, h]; rfl)
theorem atM' {α : Type} {f : α → Dat} {xs : List α} {i : Nat} {n : Int} {x : α} (h : xs[i]? = some x) (e : n = i) : atI (xs.map f) n = some (f x) := by
  rw [e]
  exact atM h
theorem rgOk1 {n : Nat} (h : n ≤ 1000000) : RgOk 0 (n : Int) := by
  refine ⟨?_, ?_, ?_, ?_, ?_⟩ <;> omega
theorem atLast {ds : List Dat} {z : Dat} (h : ds.getLast? = some z) : atI ds (-1) = some z := by
  cases ds with
  | nil => cases h
  | cons d ds =>
    have e : ixN (d :: ds).length (-1) = some ds.length := by
      unfold ixN
      rw [if_neg (by decide), if_pos (by simp; omega)]
      congr 1
      simp
      omega
    unfold atI
    rw [e]
    rw [List.getLast?_eq_getElem?] at h
    simpa using h
/-- z stands at i in a list of data -/
theorem enumG {α : Type} {f : α → Dat} {xs : List α} {i : Nat} {d : Dat} (h : (enumD (xs.map f))[i]? = some d) : ∃ x, xs[i]? = some x ∧ d = .tup [.int (i : Nat), f x] := by
  rw [enumD_get, List.getElem?_map] at h
  cases q : xs[i]? with
  | none =>
    rw [q] at h
    cases h
  | some x =>
    rw [q] at h
    exact ⟨x, rfl, (Option.some.inj h).symm⟩
theorem mapG {α : Type} {f : α → Dat} {xs : List α} {i : Nat} {d : Dat} (h : (xs.map f)[i]? = some d) : ∃ x, xs[i]? = some x ∧ d = f x := by
  rw [List.getElem?_map] at h
  cases q : xs[i]? with
  | none =>
    rw [q] at h
    cases h
  | some x =>
    rw [q] at h
    exact ⟨x, rfl, (Option.some.inj h).symm⟩
theorem rgG {a b : Int} {i : Nat} {x : Int} (h : (rgI a b)[i]? = some x) : x = a + i ∧ (i : Int) < b - a := by
  unfold rgI at h
  rw [List.getElem?_map] at h
  by_cases q : i < (b - a).toNat
  · rw [List.getElem?_range q] at h
    exact ⟨(Option.some.inj h).symm, by omega⟩
  · rw [List.getElem?_eq_none (by simp; omega)] at h
    cases h
theorem dnG {a b : Int} {i : Nat} {x : Int} (h : (dnI a b)[i]? = some x) : x = a - i ∧ (i : Int) < a - b := by
  unfold dnI at h
  rw [List.getElem?_map] at h
  by_cases q : i < (a - b).toNat
  · rw [List.getElem?_range q] at h
    exact ⟨(Option.some.inj h).symm, by omega⟩
  · rw [List.getElem?_eq_none (by simp; omega)] at h
    cases h
theorem getOf {α : Type} {xs : List α} {i : Nat} (h : i < xs.length) : ∃ x, xs[i]? = some x := ⟨xs[i], List.getElem?_eq_getElem h⟩
theorem ltOf {α : Type} {xs : List α} {i : Nat} {x : α} (h : xs[i]? = some x) : i < xs.length := (List.getElem?_eq_some_iff.mp h).1
theorem takeS {α : Type} {xs : List α} {i : Nat} {x : α} (h : xs[i]? = some x) : xs.take (i + 1) = xs.take i ++ [x] := by
  rw [List.take_add_one, h]
  rfl
theorem takeM {α : Type} {f : α → Dat} {xs : List α} {i : Nat} {x : α} (h : xs[i]? = some x) : (xs.take i).map f ++ [f x] = (xs.take (i + 1)).map f := by
  rw [takeS h, List.map_append]
  rfl
theorem takeA {α : Type} (xs : List α) : xs.take xs.length = xs := List.take_of_length_le (Nat.le_refl _)
theorem zipG {α β γ : Type} {f : α → β → γ} {xs : List α} {ys : List β} {i : Nat} {x : α} {y : β} (h : xs[i]? = some x) (k : ys[i]? = some y) : (List.zipWith f xs ys)[i]? = some (f x y) := by
  rw [List.getElem?_zipWith, h, k]
theorem call_of {R : List Dat → Dat → Prop} {ds : List Dat} {d : Dat} {xs : List Vd} {KK : Dat → Prop} (r : R ds d) (e : xs = ds.map Vd.d) (k : KK d) : ∃ ds d, xs = ds.map Vd.d ∧ R ds d ∧ KK d := ⟨ds, d, e, r, k⟩
theorem DefAt.none {P : Program} {w : World} {K : PySem.W.Frag} {mg : Str → Option Value} {base : Heap} {x : Str} {st : Stmt} {ps : List Str} {sp : Sp} (D : DefAt K mg x st ps) (no : ∀ vs H Q E, ¬ sp vs H Q E) : Cal P w K mg base 0 x ps sp := by
  obtain ⟨f, fd, F, b, g⟩ := D
  exact ⟨f, fd, ⟨fun vs H Q E h => absurd h (no vs H Q E), fun A outer s H args us vs Q E _ _ _ _ h => absurd h (no vs H Q E)⟩, g, F.kp, b⟩
theorem zeros_flat (n : Nat) : (List.replicate n [Dat.int 0]).flatten = (zeros n).map Dat.int := by
  induction n with
  | zero => rfl
  | succ n ih => rw [List.replicate_succ, List.flatten_cons, ih]; rfl
theorem lifts_len {ws : List Cist} {held : List Int} (made : Int) (h : held.length = ws.length) : (lifts ws held made).length = ws.length := by
  unfold lifts
  rw [List.length_zipWith, h, Nat.min_self]
theorem zeros_len (n : Nat) : (zeros n).length = n := List.length_replicate
theorem heights_len (ws : List Cist) : (heights ws).length = ws.length := by
  unfold heights
  rw [List.length_map, List.length_range]
theorem rgM {n : Nat} {f : Nat → Dat} (i : Nat) : ((List.range i).map f) ++ [f i] = (List.range (i + 1)).map f := by
  rw [List.range_succ, List.map_append]
  rfl
end Mn
namespace Mn
open PySem PySem.Spec PyProof.Rows L2
/-! ### the mirror's plain facts that the walk asks for -/
theorem getD_of {xs : List Int} {i : Nat} {z : Int} (h : xs[i]? = some z) : xs.getD i 0 = z := by
  rw [List.getD_eq_getElem?_getD, h]
  rfl
theorem getD_bd {xs : List Int} {a : Int} (ha : 0 ≤ a) (h : ∀ z ∈ xs, -a ≤ z ∧ z ≤ a) (i : Nat) : -a ≤ xs.getD i 0 ∧ xs.getD i 0 ≤ a := by
  rw [List.getD_eq_getElem?_getD]
  cases q : xs[i]? with
  | none =>
    show -a ≤ 0 ∧ 0 ≤ a
    omega
  | some z => exact h z (List.mem_of_getElem? q)
theorem heights_bd {ws : List Cist} (lv : ∀ c ∈ ws, -1000 ≤ c.level ∧ c.level ≤ 1000) {i : Nat} {z : Int} (h : (heights ws)[i]? = some z) : -2000 ≤ z ∧ z ≤ 2000 := by
  have hb : ∀ y ∈ ws.map Cist.level ++ [0], -1000 ≤ y ∧ y ≤ 1000 := by
    intro y hy
    rcases List.mem_append.mp hy with hy | hy
    · obtain ⟨c, hc, rfl⟩ := List.mem_map.mp hy
      exact lv c hc
    · cases List.mem_singleton.mp hy
      omega
  have h1 := getD_bd (by omega : (0 : Int) ≤ 1000) hb
  unfold heights at h
  rw [List.getElem?_map] at h
  by_cases q : i < ws.length
  · rw [List.getElem?_range q] at h
    have h2 := h1 i
    have h3 := h1 (i + 1)
    have e : _ = z := Option.some.inj h
    subst e
    show -2000 ≤ _ - _ ∧ _ - _ ≤ 2000
    omega
  · rw [List.getElem?_eq_none (by simp; omega)] at h
    cases h
theorem strokeAt_get (held br : List Int) (i j : Nat) : (strokeAt held br i)[j]? = held[j]?.map fun h => h - (if j < i then br.getD j 0 else 0) + (if 0 < j ∧ j ≤ i then br.getD (j - 1) 0 else 0) := by
  unfold strokeAt
  rw [List.getElem?_mapIdx]
theorem strokeAt_len (held br : List Int) (i : Nat) : (strokeAt held br i).length = held.length := by
  unfold strokeAt
  rw [List.length_mapIdx]
theorem strokeAt_zero (held br : List Int) : strokeAt held br 0 = held := by
  refine List.ext_getElem? fun j => ?_
  rw [strokeAt_get]
  cases held[j]? with
  | none => rfl
  | some h =>
    simp only [Option.map_some, Option.some.injEq]
    rw [if_neg (by omega), if_neg (by omega)]
    omega
theorem stroke_last {held br : List Int} {i : Nat} {x m : Int} (hx : (strokeAt held br i)[i]? = some x) (hm : br[i]? = some m) (hi : held.length ≤ i + 1) : (strokeAt held br i).set i (x - m) = strokeAt held br (i + 1) := by
  refine List.ext_getElem? fun j => ?_
  rw [List.getElem?_set, strokeAt_len]
  rw [strokeAt_get] at hx
  have gm := getD_of hm
  by_cases q : i = j
  · subst q
    rw [if_pos rfl]
    cases e : held[i]? with
    | none =>
      rw [e] at hx
      cases hx
    | some h =>
      rw [e] at hx
      rw [if_pos (ltOf e), strokeAt_get, e]
      have hx' := (Option.some.inj hx).symm
      subst hx'
      simp only [Option.map_some, Option.some.injEq]
      rw [gm]
      (repeat' split) <;> omega
  · rw [if_neg q, strokeAt_get, strokeAt_get]
    cases e : held[j]? with
    | none => rfl
    | some h =>
      have := ltOf e
      simp only [Option.map_some, Option.some.injEq]
      (repeat' split) <;> omega
theorem stroke_mid {held br : List Int} {i : Nat} {x y m : Int} (hx : (strokeAt held br i)[i]? = some x) (hm : br[i]? = some m) (hy : ((strokeAt held br i).set i (x - m))[i + 1]? = some y) : ((strokeAt held br i).set i (x - m)).set (i + 1) (y + m) = strokeAt held br (i + 1) := by
  refine List.ext_getElem? fun j => ?_
  have hl := ltOf hy
  rw [List.length_set, strokeAt_len] at hl
  rw [List.getElem?_set, List.length_set, strokeAt_len, List.getElem?_set, strokeAt_len]
  rw [List.getElem?_set, if_neg (by omega), strokeAt_get] at hy
  rw [strokeAt_get] at hx
  have gm := getD_of hm
  by_cases q : i + 1 = j
  · subst q
    rw [if_pos rfl, if_pos hl]
    cases e : held[i + 1]? with
    | none =>
      rw [e] at hy
      cases hy
    | some h =>
      rw [e] at hy
      rw [strokeAt_get, e]
      have hy' := (Option.some.inj hy).symm
      subst hy'
      simp only [Option.map_some, Option.some.injEq]
      rw [show i + 1 - 1 = i from rfl, gm]
      (repeat' split) <;> omega
  · rw [if_neg q]
    by_cases q2 : i = j
    · subst q2
      rw [if_pos rfl, if_pos (by omega)]
      cases e : held[i]? with
      | none =>
        rw [e] at hx
        cases hx
      | some h =>
        rw [e] at hx
        rw [strokeAt_get, e]
        have hx' := (Option.some.inj hx).symm
        subst hx'
        simp only [Option.map_some, Option.some.injEq]
        rw [gm]
        (repeat' split) <;> omega
    · rw [if_neg q2, strokeAt_get, strokeAt_get]
      cases e : held[j]? with
      | none => rfl
      | some h =>
        simp only [Option.map_some, Option.some.injEq]
        (repeat' split) <;> omega
theorem zeros_getD (n i : Nat) : (zeros n).getD i 0 = 0 := by
  unfold zeros
  rw [List.getD_eq_getElem?_getD, List.getElem?_replicate]
  split <;> rfl
theorem stroke_zeros (held : List Int) (n : Nat) : stroke held (zeros n) = held := by
  unfold stroke
  refine List.ext_getElem? fun j => ?_
  rw [strokeAt_get, zeros_getD, zeros_getD]
  cases held[j]? with
  | none => rfl
  | some h => simp
theorem stroke_len (held br : List Int) : (stroke held br).length = held.length := strokeAt_len _ _ _
theorem spill1_len (ws : List Cist) (f : List Int) (k : Nat) : (spill1 ws f k).length = f.length := by
  unfold spill1
  rw [List.length_set, List.length_set]
theorem spillAt_len (ws : List Cist) (f : List Int) : ∀ i, (spillAt ws f i).length = f.length
  | 0 => rfl
  | i + 1 => by
    unfold spillAt
    rw [spill1_len, spillAt_len ws f i]
theorem spills_len (ws : List Cist) (f : List Int) : (spills ws f).length = f.length := spillAt_len _ _ _
theorem springs_len {ws : List Cist} {st : List Int} (h : st.length = ws.length) : (springs ws st).length = ws.length := by
  unfold springs
  rw [List.length_zipWith, h, Nat.min_self]
theorem flow_len {ws : List Cist} {held : List Int} (br : List Int) (odd : Bool) (h : held.length = ws.length) : (flow ws held br odd).length = ws.length := by
  unfold flow
  rw [spills_len]
  split
  · exact springs_len (by rw [stroke_len, h])
  · rw [stroke_len, h]
end Mn
namespace Mn
open PySem PySem.Spec PyProof.Rows L2
/-! ### the promises of the defs -/
def dep : Nat → Dat → Bool
  | 0, _ => false
  | n + 1, .tup ds => ds.all (dep n)
  | n + 1, .lst ds => ds.all (dep n)
  | _ + 1, _ => true
/-- lists as tuples, n levels down -/
def toT : Nat → Dat → Dat
  | n + 1, .tup ds => .tup (ds.map (toT n))
  | n + 1, .lst ds => .tup (ds.map (toT n))
  | _, d => d
/-- tuples as lists, n levels down -/
def toL : Nat → Dat → Dat
  | n + 1, .tup ds => .lst (ds.map (toL n))
  | n + 1, .lst ds => .lst (ds.map (toL n))
  | _, d => d
def small : Nat → Dat → Bool
  | n + 1, .tup ds => decide (ds.length ≤ 1000000) && ds.all (small n)
  | n + 1, .lst ds => decide (ds.length ≤ 1000000) && ds.all (small n)
  | _, _ => true
def optN : Option Nat → Dat
  | none => .non
  | some i => .int (i : Nat)
inductive R_tuple_of (n : Nat) : List Dat → Dat → Prop
  | mk (d : Dat) (h : dep n d = true) (h2 : small n d = true) : R_tuple_of n [d] (toT n d)
inductive R_dry_held : List Dat → Dat → Prop
  | mk (ws : List Cist) (h1 : 1 ≤ ws.length) (h2 : ws.length ≤ 1000) : R_dry_held [watD ws] (intsT (zeros ws.length))
inductive R_brings : List Dat → Dat → Prop
  | mk (ws : List Cist) (held : List Int) (made : Int) (hl : held.length = ws.length) (hz : ws.length ≤ 1000) : R_brings [watD ws, intsT held, .int made, .tup [], intsT (zeros ws.length)] (intsT (lifts ws held made))
inductive R_behind_stroke : List Dat → Dat → Prop
  | mk (ws : List Cist) (held : List Int) (made : Int) (hl : held.length = ws.length) (h1 : 1 ≤ ws.length) (hz : ws.length ≤ 1000) : R_behind_stroke [watD ws, intsT held, .int made, .tup [], intsT (zeros ws.length)] (.tup [intsL (stroke held (lifts ws held made)), .int ((lifts ws held made).getLast?.getD 0)])
inductive R_behind_spills : List Dat → Dat → Prop
  | mk (ws : List Cist) (f : List Int) (hl : f.length = ws.length) (h1 : 1 ≤ ws.length) (hz : ws.length ≤ 1000) : R_behind_spills [watD ws, intsL f] (intsT (spills ws f))
inductive R_behind_rest : List Dat → Dat → Prop
  | mk (ws : List Cist) (held : List Int) (rest : Nat) (made : Int) (moved : Bool) (hl : held.length = ws.length) (h1 : 1 ≤ ws.length) (hz : ws.length ≤ 1000) :
    R_behind_rest [watD ws, intsT held, .int rest, .int made, .bl moved, .tup [], intsT (zeros ws.length)] (.tup [intsT (flow ws held (if moved then lifts ws held made else zeros ws.length) (decide ((rest : Int) % 2 = 1))), .int (if moved then (lifts ws held made).getLast?.getD 0 else 0)])
inductive R_lift_heights : List Dat → Dat → Prop
  | mk (ws : List Cist) (h2 : ws.length ≤ 1000) : R_lift_heights [watD ws] (intsT (heights ws))
inductive R_whole_leaks : List Dat → Dat → Prop
  | mk (ws : List Cist) (h1 : 1 ≤ ws.length) (h2 : ws.length ≤ 1000) : R_whole_leaks [watD ws] (intsT (zeros ws.length))
inductive R_weight_by : List Dat → Dat → Prop
  | mk (ws : List Cist) (held : List Int) (made : Int) (hl : held.length = ws.length) (hz : ws.length ≤ 1000) (lv : ∀ c ∈ ws, -1000 ≤ c.level ∧ c.level ≤ 1000) : R_weight_by [watD ws, intsT held, .int made, .tup [], intsT (zeros ws.length)] (.int (weight ws held made))
inductive R_steam_by : List Dat → Dat → Prop
  | no (rest : Nat) (steam spent : Int) : R_steam_by [.non, .int rest, .int steam, .int spent] (.int 0)
  | mk (e : Eng) (rest : Nat) (steam spent : Int) (h : 1 ≤ e.stokes.length) : R_steam_by [engD (some e), .int rest, .int steam, .int spent] (.int (steamBy (some e) rest steam spent))
inductive R_lone_rest : List Dat → Dat → Prop
  | mk (m : Mine) (r : Row) (rest : Nat) (o : Ok m) (hl : r.held.length = m.ws.length) : R_lone_rest [mineD m, .int rest, r.d] (step m rest r).d
inductive R_lone_rows : List Dat → Dat → Prop
  | mk (m : Mine) (n : Nat) (o : Ok m) (hn : n ≤ 1000) : R_lone_rows [mineD m, .int n] (rowsL (rows m n))
inductive R_flood_mark : List Dat → Dat → Prop
  | mk (m : Mine) (level : Int) (h : Ok m) (h1 : 0 ≤ level) (h2 : level ≤ m.deep) : R_flood_mark [mineD m, .int level] (.int (mark m level))
inductive R_made_row : List Dat → Dat → Prop
  | mk (m : Mine) (n : Nat) (o : Ok m) (hn : n ≤ 1000) : R_made_row [mineD m, .int n] (intsT ((rows m n).map Row.made))
inductive R_first_wet : List Dat → Dat → Prop
  | mk (m : Mine) (rs : List Row) (level : Int) (o : Ok m) (h1 : 0 ≤ level) (h2 : level ≤ m.deep) (h3 : ∀ r ∈ rs, 1 ≤ r.held.length) (h4 : rs.length ≤ 1000000) : R_first_wet [mineD m, rowsL rs, .int level] (optN (firstWet m level rs))
inductive R_wet_from : List Dat → Dat → Prop
  | mk (m : Mine) (level : Int) (n : Nat) (o : Ok m) (h1 : 0 ≤ level) (h2 : level ≤ m.deep) (hn : n ≤ 1000) : R_wet_from [mineD m, .int level, .int n] (optN (firstWet m level (rows m n)))
inductive R_lasts_of : List Dat → Dat → Prop
  | mk (m : Mine) (d : Dat) (n : Nat) (o : Ok m) (h : dep 8 d = true) (h2 : small 8 d = true) (ht : toT 8 d = mineD m) (hn : n ≤ 1000) : R_lasts_of [d, .int n] (optsT (lastsOf m n))
inductive R_slots_by : List Dat → Dat → Prop
  | mk (ls : List (Option Int)) (hl : ls.length ≤ 1000) : R_slots_by [optsT ls] (optsT (slotsBy ls))
inductive R_last_slots : List Dat → Dat → Prop
  | mk (m : Mine) (n : Nat) (o : Ok m) (hn : n ≤ 1000) : R_last_slots [mineD m, .int n] (optsT (slotsBy (lastsOf m n)))

/-! ### the law's defs -/
def cellAcc (c : Int) (xs : List Int) : Nat → Int
  | 0 => c
  | k + 1 => cellAcc c xs k + xs.getD k 0 * (k + 2)
def cellsOf (ns : List Int) : Int := cellAcc (ns.headD 0) ((ns.drop 1).take 62) ((ns.drop 1).take 62).length
inductive R__law_cells : List Dat → Dat → Prop
  | mk (ns : List Int) (h : ns.length ≤ 1000) : R__law_cells [intsL ns, .int 1] (.lst [.int (cellsOf ns)])
def iabs (i : Int) : Int := if i < 0 then -i else i
inductive R__law_box : List Dat → Dat → Prop
  | mk (c : Int) : R__law_box [.lst [.int c], .int 0] (.lst [.int (iabs c * (if 1000000000000000000 ≤ iabs c then 1 else 0)), .int (c % 2305843009213693951 + 39373 * 0 + 95603), .int 0])
inductive Pre__law_take : List Dat → Prop
  | mk (low : Int) (h1 : 1 ≤ low) (h2 : low ≤ 1000) : Pre__law_take [.int low]
inductive R__law_take : List Dat → Dat → Prop
  | mk (low r : Int) (h1 : 0 ≤ r) (h2 : r < low) : R__law_take [.int low] (.int r)
inductive Pre__law_of : List Dat → Prop
  | mk (gs : List Dat) (h1 : 1 ≤ gs.length) (h2 : gs.length ≤ 1000) : Pre__law_of [.lst gs]
inductive R__law_of : List Dat → Dat → Prop
  | mk (gs : List Dat) (d : Dat) (h : d ∈ gs) : R__law_of [.lst gs] d
inductive R__law_same (n : Nat) : List Dat → Dat → Prop
  | mk (d : Dat) (h : dep n d = true) (h2 : small n d = true) : R__law_same n [d, d] (.bl true)
inductive R__law_lists (n : Nat) : List Dat → Dat → Prop
  | mk (d : Dat) (h : dep n d = true) (h2 : small n d = true) : R__law_lists n [d] (toL n d)
structure WatOk (deep : Int) (ws : List Cist) : Prop where
  w1 : 1 ≤ ws.length
  w2 : ws.length ≤ 3
  lv : ∀ c ∈ ws, 1 ≤ c.level ∧ c.level ≤ deep
inductive Pre__law_waters : List Dat → Prop
  | mk (deep : Int) (h1 : 1 ≤ deep) (h2 : deep ≤ 1000) : Pre__law_waters [.int deep]
inductive R__law_waters : List Dat → Dat → Prop
  | mk (deep : Int) (ws : List Cist) (h : WatOk deep ws) : R__law_waters [.int deep] (watD ws)
inductive Pre__law_mine : List Dat → Prop
  | mk : Pre__law_mine [.bl false]
inductive R__law_mine : List Dat → Dat → Prop
  | mk (m : Mine) (o : Ok m) (hd : m.deep ≤ 6) (hr : m.rooms.length ≤ 10) (hs : ∀ e, m.eng = some e → e.stokes.length ≤ 10) (hw : m.ws.length ≤ 10) : R__law_mine [.bl false] (mineD m)
inductive R__law_lifted : List Dat → Dat → Prop
  | mk (ws : List Cist) (held : List Int) (made : Int) (hl : held.length = ws.length) (hz : ws.length ≤ 1000) : R__law_lifted [watD ws, intsT held, .int made, .tup [], intsL (zeros ws.length)] (intsL (lifts ws held made))
inductive R__law_load : List Dat → Dat → Prop
  | mk (ws : List Cist) (lf : List Int) (hl : lf.length = ws.length) (hz : ws.length ≤ 1000) (lv : ∀ c ∈ ws, -1000 ≤ c.level ∧ c.level ≤ 1000) : R__law_load [watD ws, intsL lf] (.int (List.zipWith (· * ·) lf (heights ws)).sum)
inductive R__law_flow : List Dat → Dat → Prop
  | mk (ws : List Cist) (held br : List Int) (odd : Bool) (hl : held.length = ws.length) (hb : br.length = ws.length) (h1 : 1 ≤ ws.length) (hz : ws.length ≤ 1000) : R__law_flow [watD ws, intsT held, intsL br, .bl odd] (intsT (flow ws held br odd))
def loadsOf (m : Mine) (n : Nat) : List Int := (List.range n).map fun k => weight m.ws (rowAt m k).held (rowAt m k).made
def missedOf (m : Mine) (n : Nat) : List Int := ((List.range n).filter (fun k => !moves m (rowAt m k))).map (fun k : Nat => Int.ofNat k)
inductive R__law_lone : List Dat → Dat → Prop
  | mk (m : Mine) (n : Nat) (o : Ok m) (hn : n ≤ 1000) : R__law_lone [mineD m, .int n] (.tup [rowsL (rows m n), intsL (loadsOf m n), intsT (missedOf m n)])
inductive R__law_is_wet : List Dat → Dat → Prop
  | mk (m : Mine) (held : List Int) (level : Int) (o : Ok m) (h1 : 0 ≤ level) (h2 : level ≤ m.deep) (h3 : 1 ≤ held.length) : R__law_is_wet [mineD m, intsT held, .int level] (.bl (decide (mark m level ≤ held.getD 0 0)))
inductive R__law_last_passed : List Dat → Dat → Prop
  | mk (m : Mine) (n : Nat) (level : Int) (o : Ok m) (h1 : 1 ≤ level) (h2 : level ≤ m.deep) (hn : n ≤ 1000) : R__law_last_passed [mineD m, rowsL (rows m n), .int level] (optD (lastOf m (rows m n) level))
inductive Pre__law_right : List Dat → Prop
  | mk : Pre__law_right []
inductive R__law_right : List Dat → Dat → Prop
  | mk : R__law_right [] (.bl true)
inductive R__law_by_hand_right : List Dat → Dat → Prop
  | mk : R__law_by_hand_right [] (.bl true)
end Mn
namespace Mn
open PySem PySem.Spec PyProof.Rows L2
theorem row0_len (m : Mine) : (row0 m).held.length = m.ws.length := zeros_len _
theorem step_len {m : Mine} {r : Row} (k : Nat) (h : r.held.length = m.ws.length) : (step m k r).held.length = m.ws.length := flow_len _ _ h
theorem rowAt_len (m : Mine) : ∀ k, (rowAt m k).held.length = m.ws.length
  | 0 => row0_len m
  | k + 1 => step_len k (rowAt_len m k)
theorem rows_len (m : Mine) (n : Nat) : (rows m n).length = n + 1 := by
  unfold rows
  rw [List.length_map, List.length_range]
theorem rows_get {m : Mine} {n i : Nat} (h : i ≤ n) : (rows m n)[i]? = some (rowAt m i) := by
  unfold rows
  rw [List.getElem?_map, List.getElem?_range (by omega)]
  rfl
theorem rows_mem {m : Mine} {n : Nat} {r : Row} (h : r ∈ rows m n) : ∃ i, i ≤ n ∧ r = rowAt m i := by
  unfold rows at h
  obtain ⟨i, hi, rfl⟩ := List.mem_map.mp h
  exact ⟨i, by have := List.mem_range.mp hi; omega, rfl⟩
theorem rows_last (m : Mine) (i : Nat) : (rows m i).getLast? = some (rowAt m i) := by
  rw [List.getLast?_eq_getElem?, rows_len]
  exact rows_get (Nat.le_refl _)
theorem rows_snoc (m : Mine) (i : Nat) : rows m (i + 1) = rows m i ++ [rowAt m (i + 1)] := by
  unfold rows
  rw [List.range_succ, List.map_append]
  rfl
/-! ### the forms of a mine -/
theorem toT_ints (n : Nat) (ns : List Int) : (ns.map Dat.int).map (toT (n + 1)) = ns.map Dat.int := by
  rw [List.map_map]
  exact List.map_congr_left fun a _ => by simp [toT]
theorem toL_ints (n : Nat) (ns : List Int) : (ns.map Dat.int).map (toL (n + 1)) = ns.map Dat.int := by
  rw [List.map_map]
  exact List.map_congr_left fun a _ => by simp [toL]
theorem toT_wat (n : Nat) (ws : List Cist) : (ws.map Cist.d).map (toT (n + 2)) = ws.map Cist.d := by
  rw [List.map_map]
  exact List.map_congr_left fun a _ => by simp [toT, Cist.d]
theorem mine_toT (m : Mine) : toT 8 (mineD m) = mineD m := by
  unfold mineD
  cases m.eng with
  | none => simp [toT, intsT, watD, toT_ints, toT_wat, engD, -List.map_map]
  | some e => simp [toT, intsT, watD, toT_ints, toT_wat, engD, -List.map_map]
theorem all_ints {p : Dat → Bool} (h : ∀ i, p (.int i) = true) (ns : List Int) : (ns.map Dat.int).all p = true := by
  rw [List.all_eq_true]
  intro d hd
  obtain ⟨i, _, rfl⟩ := List.mem_map.mp hd
  exact h i
theorem all_wat {p : Dat → Bool} (h : ∀ c : Cist, p c.d = true) (ws : List Cist) : (ws.map Cist.d).all p = true := by
  rw [List.all_eq_true]
  intro d hd
  obtain ⟨i, _, rfl⟩ := List.mem_map.mp hd
  exact h i
theorem mine_dep (m : Mine) : dep 8 (mineD m) = true := by
  unfold mineD
  cases m.eng with
  | none => simp [dep, intsT, watD, engD, Cist.d]
  | some e => simp [dep, intsT, watD, engD, Cist.d]
theorem mine_small {m : Mine} (o : Ok m) : small 8 (mineD m) = true := by
  have h1 := o.r1
  have h2 := o.w2
  unfold mineD
  cases e : m.eng with
  | none =>
    simp [small, intsT, watD, engD, Cist.d]
    omega
  | some e' =>
    have h3 := (o.en e' e).2
    simp [small, intsT, watD, engD, Cist.d]
    omega
end Mn
namespace Mn
open PySem PySem.Spec PyProof.Rows L2
theorem Tr.mono {t : TS} {G : Env} {A C : Post} (h : Tr t G A) (n : ∀ G', A.nx G' → C.nx G') (r : ∀ d G', A.rt d G' → C.rt d G') (b : ∀ G', A.bk G' → C.bk G') (c : ∀ G', A.ct G' → C.ct G') : Tr t G C := fun B0 H0 B H σ S D w =>
  h B0 H0 B H σ S D ⟨fun G' B' H' σ' k => w.nx G' B' H' σ' (n G' k), fun d v G' B' H' σ' k => w.rt d v G' B' H' σ' (r d G' k), fun G' B' H' σ' k => w.bk G' B' H' σ' (b G' k), fun G' B' H' σ' k => w.ct G' B' H' σ' (c G' k)⟩
/-- a place between two statements, said -/
theorem tr_mid {t u : TS} {G : Env} {C : Post} (M : Env → Prop) (h : Tr t G { C with nx := M }) (k : ∀ G1, M G1 → Tr u G1 C) : Tr (tSeq t u) G C :=
  tr_seq (h.mono k (fun _ _ x => x) (fun _ x => x) (fun _ x => x))
theorem tr_ifJ {tt : TT} {t u : TS} {G : Env} {C : Post} (z : Bool) (h : TtW tt G fun b G1 => b = z ∧ G1 = G) (k1 : z = true → Tr t G C) (k2 : z = false → Tr u G C) : Tr (tIfS tt t u) G C :=
  tr_if fun B0 H0 B H σ S Q q => h B0 H0 B H σ S Q fun b G' B' H' ⟨e1, e2⟩ n => q b G' B' H' (by subst e1 e2; exact ⟨k1, k2⟩) n
/-- the law's stroke behind j turns -/
def nowAt (held br : List Int) (j : Nat) : List Int := held.mapIdx fun i h => h - br.getD i 0 + (if 0 < i ∧ i ≤ j then br.getD (i - 1) 0 else 0)
theorem nowAt_get (held br : List Int) (i j : Nat) : (nowAt held br i)[j]? = held[j]?.map fun h => h - br.getD j 0 + (if 0 < j ∧ j ≤ i then br.getD (j - 1) 0 else 0) := by
  unfold nowAt
  rw [List.getElem?_mapIdx]
theorem nowAt_len (held br : List Int) (i : Nat) : (nowAt held br i).length = held.length := by
  unfold nowAt
  rw [List.length_mapIdx]
theorem nowAt_zero {held br : List Int} {i : Nat} {h b : Int} (e1 : held[i]? = some h) (e2 : br[i]? = some b) : (nowAt held br 0)[i]? = some (h - b) := by
  rw [nowAt_get, e1, Option.map_some, getD_of e2, if_neg (by omega), Int.add_zero]
theorem nowAt_step {held br : List Int} {i : Nat} {x b : Int} (hx : (nowAt held br i)[i + 1]? = some x) (hb : br[i]? = some b) : (nowAt held br i).set (i + 1) (x + b) = nowAt held br (i + 1) := by
  refine List.ext_getElem? fun j => ?_
  have hl := ltOf hx
  rw [nowAt_len] at hl
  rw [List.getElem?_set, nowAt_len]
  have gm := getD_of hb
  by_cases q : i + 1 = j
  · subst q
    rw [if_pos rfl, if_pos hl]
    rw [nowAt_get] at hx
    cases e : held[i + 1]? with
    | none =>
      rw [e] at hx
      cases hx
    | some h =>
      rw [e] at hx
      rw [nowAt_get, e]
      have hx' := (Option.some.inj hx).symm
      subst hx'
      simp only [Option.map_some, Option.some.injEq]
      rw [show i + 1 - 1 = i from rfl, gm]
      (repeat' split) <;> omega
  · rw [if_neg q, nowAt_get, nowAt_get]
    cases e : held[j]? with
    | none => rfl
    | some h =>
      simp only [Option.map_some, Option.some.injEq]
      (repeat' split) <;> omega
theorem nowAt_stroke (held br : List Int) (hb : br.length = held.length) : nowAt held br (held.length - 1) = stroke held br := by
  unfold stroke
  refine List.ext_getElem? fun j => ?_
  rw [nowAt_get, strokeAt_get]
  cases e : held[j]? with
  | none => rfl
  | some h =>
    have := ltOf e
    simp only [Option.map_some, Option.some.injEq]
    (repeat' split) <;> omega
end Mn
namespace Mn
open PySem PySem.Spec PyProof.Rows L2
/-! ### the law's own reckonings answer as the program's -/
theorem cut_take (ds : List Dat) (k : Nat) : cutD ds none (some (k : Int)) = ds.take k := by
  unfold cutD
  have e : HT.sIx ds.length 0 none = 0 := rfl
  rw [e, List.drop_zero, Nat.sub_zero]
  have e2 : HT.sIx ds.length ds.length (some (k : Int)) = min k ds.length := by
    unfold HT.sIx
    simp only []
    (repeat' split) <;> omega
  rw [e2]
  by_cases q : k ≤ ds.length
  · rw [Nat.min_eq_left q]
  · rw [Nat.min_eq_right (by omega), List.take_of_length_le (Nat.le_refl _), List.take_of_length_le (by omega)]
def knownAt (ls : List (Option Int)) : Nat → List Int
  | 0 => []
  | k + 1 => knownAt ls k ++ (match ls.getD k none with
    | none => []
    | some l => [l + k + 1])
theorem known_len (ls : List (Option Int)) : ∀ k, (knownAt ls k).length ≤ k
  | 0 => Nat.le_refl _
  | k + 1 => by
    have := known_len ls k
    unfold knownAt
    rw [List.length_append]
    split <;> simp <;> omega
theorem least_known (ls : List (Option Int)) : ∀ k, match leastAt ls k with
    | none => knownAt ls k = []
    | some b => b ∈ knownAt ls k ∧ ∀ y ∈ knownAt ls k, b ≤ y
  | 0 => rfl
  | k + 1 => by
    have ih := least_known ls k
    show match slot1 (leastAt ls k) k (ls.getD k none) with
      | none => _
      | some b => _
    unfold knownAt
    cases hx : ls.getD k none with
    | none =>
      show match leastAt ls k with
        | none => _
        | some b => _
      cases h : leastAt ls k with
      | none =>
        rw [h] at ih
        show knownAt ls k ++ [] = []
        rw [List.append_nil]
        exact ih
      | some b =>
        rw [h] at ih
        show b ∈ knownAt ls k ++ [] ∧ ∀ y ∈ knownAt ls k ++ [], b ≤ y
        rw [List.append_nil]
        exact ih
    | some l =>
      cases h : leastAt ls k with
      | none =>
        rw [h] at ih
        show l + (k : Int) + 1 ∈ knownAt ls k ++ [l + (k : Int) + 1] ∧ ∀ y ∈ knownAt ls k ++ [l + (k : Int) + 1], l + (k : Int) + 1 ≤ y
        have ih' : knownAt ls k = [] := ih
        rw [ih']
        exact ⟨.head _, fun y hy => by cases List.mem_singleton.mp hy; exact Int.le_refl _⟩
      | some b =>
        rw [h] at ih
        show match (if l + (k : Int) + 1 < b then some (l + (k : Int) + 1) else some b) with
          | none => _
          | some b => _
        by_cases q : l + (k : Int) + 1 < b
        · rw [if_pos q]
          show l + (k : Int) + 1 ∈ knownAt ls k ++ [l + (k : Int) + 1] ∧ ∀ y ∈ knownAt ls k ++ [l + (k : Int) + 1], l + (k : Int) + 1 ≤ y
          refine ⟨List.mem_append_right _ (.head _), fun y hy => ?_⟩
          rcases List.mem_append.mp hy with hy | hy
          · have := ih.2 y hy
            omega
          · cases List.mem_singleton.mp hy
            exact Int.le_refl _
        · rw [if_neg q]
          show b ∈ knownAt ls k ++ [l + (k : Int) + 1] ∧ ∀ y ∈ knownAt ls k ++ [l + (k : Int) + 1], b ≤ y
          refine ⟨List.mem_append_left _ ih.1, fun y hy => ?_⟩
          rcases List.mem_append.mp hy with hy | hy
          · exact ih.2 y hy
          · cases List.mem_singleton.mp hy
            omega
theorem least_mono {ls : List (Option Int)} {k : Nat} {b : Int} (h : leastAt ls k = some b) : ∃ c, leastAt ls (k + 1) = some c ∧ c ≤ b := by
  show ∃ c, slot1 (leastAt ls k) k (ls.getD k none) = some c ∧ c ≤ b
  rw [h]
  cases ls.getD k none with
  | none => exact ⟨b, rfl, Int.le_refl _⟩
  | some l =>
    show ∃ c, (if l + (k : Int) + 1 < b then some (l + (k : Int) + 1) else some b) = some c ∧ c ≤ b
    by_cases q : l + (k : Int) + 1 < b
    · rw [if_pos q]
      exact ⟨_, rfl, by omega⟩
    · rw [if_neg q]
      exact ⟨_, rfl, Int.le_refl _⟩
/-- the places of the rows that answer, among the first k -/
def hereAt (p : Row → Bool) (rs : List Row) : Nat → List Int
  | 0 => []
  | k + 1 => hereAt p rs k ++ (if p (rs.getD k ⟨0, [], 0⟩) then [(k : Int)] else [])
theorem here_len (p : Row → Bool) (rs : List Row) : ∀ k, (hereAt p rs k).length ≤ k
  | 0 => Nat.le_refl _
  | k + 1 => by
    have := here_len p rs k
    unfold hereAt
    rw [List.length_append]
    split <;> simp <;> omega
theorem here_first (p : Row → Bool) (rs : List Row) : ∀ k, k ≤ rs.length → match rs.findIdx? p with
    | none => hereAt p rs k = []
    | some i => if k ≤ i then hereAt p rs k = [] else (hereAt p rs k)[0]? = some (i : Int)
  | 0, _ => by
    cases rs.findIdx? p with
    | none => rfl
    | some i =>
      show if 0 ≤ i then _ else _
      rw [if_pos (Nat.zero_le _)]
      rfl
  | k + 1, hk => by
    have ih := here_first p rs k (by omega)
    cases h : rs.findIdx? p with
    | none =>
      rw [h] at ih
      show hereAt p rs k ++ _ = []
      have ih' : hereAt p rs k = [] := ih
      rw [ih', if_neg]
      · rfl
      · have h' := List.findIdx?_eq_none_iff.mp h
        rw [List.getD_eq_getElem?_getD, List.getElem?_eq_getElem (by omega)]
        have := h' _ (List.getElem_mem (show k < rs.length by omega))
        show ¬ p rs[k] = true
        rw [this]
        decide
    | some i =>
      rw [h] at ih
      have h' := List.findIdx?_eq_some_iff_getElem.mp h
      obtain ⟨h1, h2, h3⟩ := h'
      show if k + 1 ≤ i then hereAt p rs k ++ _ = [] else (hereAt p rs k ++ _)[0]? = some (i : Int)
      have ih' : if k ≤ i then hereAt p rs k = [] else (hereAt p rs k)[0]? = some (i : Int) := ih
      by_cases q : k + 1 ≤ i
      · rw [if_pos (by omega)] at ih'
        rw [if_pos q, ih', if_neg]
        · rfl
        · rw [List.getD_eq_getElem?_getD, List.getElem?_eq_getElem (by omega)]
          exact h3 k (by omega)
      · rw [if_neg q]
        by_cases q2 : k ≤ i
        · have : k = i := by omega
          subst this
          rw [if_pos q2] at ih'
          rw [ih', if_pos]
          · rfl
          · rw [List.getD_eq_getElem?_getD, List.getElem?_eq_getElem h1]
            exact h2
        · rw [if_neg q2] at ih'
          have hne : 0 < (hereAt p rs k).length := ltOf ih'
          rw [List.getElem?_append_left hne]
          exact ih'
/-! ### deeper levels, later rests -/
theorem wet_deeper {m : Mine} (o : Ok m) {l : Int} {r : Row} (h : wet m l r = true) : wet m (l + 1) r = true := by
  have h' : mark m l ≤ r.held.getD 0 0 := of_decide_eq_true h
  refine decide_eq_true ?_
  have : mark m (l + 1) = mark m l - m.per := by
    unfold mark
    rw [show m.deep - (l + 1) + 1 = (m.deep - l + 1) - 1 by omega, Int.mul_sub, Int.mul_one]
  have := o.p1
  omega
theorem first_deeper {m : Mine} (o : Ok m) {l : Int} {rs : List Row} {i : Nat} (h : firstWet m l rs = some i) : ∃ j, firstWet m (l + 1) rs = some j ∧ j ≤ i := by
  unfold firstWet at h ⊢
  obtain ⟨h1, h2, _⟩ := List.findIdx?_eq_some_iff_getElem.mp h
  cases q : rs.findIdx? (wet m (l + 1)) with
  | none =>
    have := List.findIdx?_eq_none_iff.mp q _ (List.getElem_mem h1)
    rw [wet_deeper o h2] at this
    cases this
  | some j =>
    refine ⟨j, rfl, ?_⟩
    obtain ⟨g1, g2, g3⟩ := List.findIdx?_eq_some_iff_getElem.mp q
    apply Classical.byContradiction
    intro z
    exact g3 i (by omega) (wet_deeper o h2)
theorem rows_take (m : Mine) {n k : Nat} (h : n ≤ k) : (rows m k).take (n + 1) = rows m n := by
  unfold rows
  rw [← List.map_take, List.take_range, Nat.min_eq_left (by omega)]
theorem last_later {m : Mine} {n k : Nat} (h : n ≤ k) {l x : Int} (e : lastOf m (rows m n) l = some x) : lastOf m (rows m k) l = some x := by
  unfold lastOf at e ⊢
  cases q : firstWet m l (rows m n) with
  | none =>
    rw [q] at e
    cases e
  | some i =>
    rw [q] at e
    unfold firstWet at q
    obtain ⟨h1, h2, h3⟩ := List.findIdx?_eq_some_iff_getElem.mp q
    have hi : i ≤ n := by
      rw [rows_len] at h1
      omega
    have g : ∀ j, j ≤ n → (rows m n)[j]? = (rows m k)[j]? := fun j hj => by rw [rows_get hj, rows_get (by omega)]
    have q2 : firstWet m l (rows m k) = some i := by
      unfold firstWet
      refine List.findIdx?_eq_some_iff_getElem.mpr ⟨by rw [rows_len]; omega, ?_, fun j hj => ?_⟩
      · have e1 := List.getElem?_eq_getElem h1
        rw [g i hi, List.getElem?_eq_getElem (by rw [rows_len]; omega)] at e1
        rw [Option.some.inj e1]
        exact h2
      · have hj1 : j < (rows m n).length := by omega
        have e1 := List.getElem?_eq_getElem hj1
        rw [g j (by omega), List.getElem?_eq_getElem (by rw [rows_len]; omega)] at e1
        rw [Option.some.inj e1]
        exact h3 j hj
    rw [q2]
    rw [Option.map_some, List.getD_eq_getElem?_getD] at e ⊢
    rw [← g i hi]
    exact e
/-- what is known, among the first k -/
def selAt (ls : List (Option Int)) (k : Nat) : List Int := (ls.take k).filterMap id
theorem sel_snoc {ls : List (Option Int)} {k : Nat} {x : Option Int} (h : ls[k]? = some x) : selAt ls (k + 1) = selAt ls k ++ (match x with | none => [] | some l => [l]) := by
  unfold selAt
  rw [takeS h, List.filterMap_append]
  congr 1
  cases x <;> rfl
theorem sel_len (ls : List (Option Int)) (k : Nat) : (selAt ls k).length ≤ ls.length := by
  unfold selAt
  have h1 := List.length_filterMap_le id (ls.take k)
  rw [List.length_take] at h1
  omega
end Mn
namespace Mn
open PySem PySem.Spec PyProof.Rows L2
section
variable {P : Program} {w : World} {K : PySem.W.Frag} {mg : Str → Option Value} {base : Heap}
local macro_rules | `(tactic| walk_at "e") => `(tactic| first
  | (with_reducible refine av_cons ?_) | (with_reducible refine av_nil ?_)
  | (with_reducible refine ev_int ?_) | (with_reducible refine ev_bl ?_) | (with_reducible refine ev_non ?_)
  | (refine ev_var rfl ?_) | (refine ev_varM rfl ?_)
  | (with_reducible refine tt_T ?_) | (with_reducible refine tt_B ?_) | (with_reducible refine tt_not ?_)
  | (with_reducible refine ev_add ?_) | (with_reducible refine ev_sub ?_) | (with_reducible refine ev_mulY ?_) | (with_reducible refine ev_mod ?_) | (with_reducible refine ev_div ?_)
  | (with_reducible refine ev_eqI ?_) | (with_reducible refine ev_lt ?_) | (with_reducible refine ev_le ?_) | (with_reducible refine ev_gt ?_) | (with_reducible refine ev_ge ?_) | (with_reducible refine ev_niE ?_)
  | (with_reducible refine ev_isN ?_) | (with_reducible refine ev_notN ?_) | (with_reducible refine ev_ix ?_) | (with_reducible refine ev_neg ?_)
  | (with_reducible refine ev_max ?_) | (with_reducible refine ev_min ?_) | (with_reducible refine ev_len ?_)
  | (with_reducible refine ev_call ?_) | (with_reducible refine ev_tuple ?_) | (with_reducible refine ev_tup ?_) | (with_reducible refine tr_ret ?_)
  | (refine ⟨_, _, _, Or.inl rfl, rfl, atM (by assumption), ?_⟩) | (refine ⟨_, _, _, Or.inl rfl, rfl, atN (by assumption), ?_⟩) | (refine ⟨_, _, _, Or.inl rfl, rfl, rfl, ?_⟩) | (refine ⟨_, _, _, Or.inr (Or.inl rfl), rfl, atM (by assumption), ?_⟩) | (refine ⟨_, _, _, Or.inr (Or.inl rfl), rfl, rfl, ?_⟩)
  | (refine ⟨_, Or.inl rfl, ?_⟩) | (refine ⟨_, Or.inr (Or.inl rfl), ?_⟩) | (refine ⟨_, Or.inr (Or.inr (Or.inr ⟨_, rfl⟩)), ?_⟩)
  | (refine ⟨[], rfl, (Nat.le_of_ble_eq_true rfl), ?_⟩) | (refine ⟨[_], rfl, (Nat.le_of_ble_eq_true rfl), ?_⟩) | (refine ⟨[_, _], rfl, (Nat.le_of_ble_eq_true rfl), ?_⟩) | (refine ⟨[_, _, _], rfl, (Nat.le_of_ble_eq_true rfl), ?_⟩) | (refine ⟨[_, _, _, _], rfl, (Nat.le_of_ble_eq_true rfl), ?_⟩) | (refine ⟨[_, _, _, _, _], rfl, (Nat.le_of_ble_eq_true rfl), ?_⟩) | (refine ⟨[_, _, _, _, _, _], rfl, (Nat.le_of_ble_eq_true rfl), ?_⟩) | (refine ⟨[_, _, _, _, _, _, _], rfl, (Nat.le_of_ble_eq_true rfl), ?_⟩)
  | (refine ⟨_, _, rfl, rfl, (by decide), ?_⟩) | (refine ⟨_, _, rfl, rfl, ?_⟩) | (refine ⟨_, rfl, rfl, ?_⟩) | (refine ⟨_, rfl, ?_⟩) | (refine ⟨_, _, rfl, ?_⟩) | (refine ⟨_, _, _, rfl, ?_⟩))
local macro_rules | `(tactic| walk_at "go") => `(tactic| repeat walk_at "e")
theorem cal_behind_rest (T : Tx K mg) (C_behind_spills : Cal P w K mg base 1 "behind_spills" ["waters", "standing"] (spP R_behind_spills)) (C_behind_stroke : Cal P w K mg base 2 "behind_stroke" ["waters", "held", "made", "loose", "leaks"] (spP R_behind_stroke)) : Cal P w K mg base 3 "behind_rest" ["waters", "held", "rest", "made", "moved", "loose", "leaks"] (spP R_behind_rest) := by
  have z_list := T.z_list
  have z_zip := T.z_zip
  have c_SPRING := T.c_SPRING
  have C_behind_spills := C_behind_spills.mono (show 1 ≤ 2 by decide)
  have C_behind_stroke := C_behind_stroke.mono (show 2 ≤ 2 by decide)
  refine T.d_behind_rest.cal sc_behind_rest (spP_len fun ds d h => by cases h <;> rfl) fun f cdv A outer s H vs Q E hr hs => ⟨_, (pss_cons (ps_asg (pe_ifExp (pt_val (pv 4)) (pe_callC C_behind_stroke hr rfl (pa_cons (pv 0) (pa_cons (pv 1) (pa_cons (pv 3) (pa_cons (pv 5) (pa_cons (pv 6) pa_nil)))))) (pe_tup (pa_cons (pe_callTy (crListK (K := K) rfl) (by rfl) z_list (by decide +kernel) (pa_cons (pv 1) pa_nil)) (pa_cons pe_int pa_nil)))) (pg_tupK (K := K) (n := 2) rfl rfl (pgs_cons (pg_name (i := 7) sc_behind_rest.nd rfl (Or.inl rfl)) (pgs_cons (pg_name (i := 8) sc_behind_rest.nd rfl (Or.inl rfl)) pgs_nil))))
    (pss_cons (ps_if (pt_cmpR (op_eqK (K := K) rfl hr.units) (pe_op op_mod (pv 2) pe_int) pe_int (nomark _)) (pss_one (ps_setLc (i := 7) (own := [("part", 9), ("own", 10)]) (g := (gTup K 2 (gCons (gName 9) (gCons (gName 10) gNil)))) rfl sc_behind_rest.nd rfl rfl (sw_true rfl rfl rfl (by decide +kernel)) (pi_zipK (K := K) rfl (by rfl) z_zip (pa_cons (pv 7) (pa_cons (pv 0) pa_nil))) (blkOk_by (own := [("part", 9), ("own", 10)]) (N := n_behind_rest) (sc := defScope s_behind_rest) (by decide +kernel)) (fun _ _ _ _ _ => pg_tupK (K := K) (n := 2) rfl rfl (pgs_cons (pg_name (i := 9) sc_behind_rest.nd rfl (Or.inl rfl)) (pgs_cons (pg_name (i := 10) sc_behind_rest.nd rfl (Or.inl rfl)) pgs_nil))) (fun _ _ _ _ _ => pts_nil) (fun _ _ _ _ _ => (pe_op (op_addK (K := K) rfl) (pv 9) (pe_ix (ix_seqK (K := K) rfl) (pv 10) (pe_const c_SPRING rfl) (fun _ _ => rfl)))))) pss_nil)
    (pss_one (ps_ret (pe_tup (pa_cons (pe_callC C_behind_spills hr rfl (pa_cons (pv 0) (pa_cons (pv 7) pa_nil))) (pa_cons (pv 8) pa_nil))))))), fn_P (R := R_behind_rest) ?_ hs⟩
  rintro _ _ ⟨ws, held, rest, made, moved, hl, h1, hz⟩
  show Tr _ ([.dat (watD ws), .dat (intsT held), .dat (.int rest), .dat (.int made), .dat (.bl moved), .dat (.tup []), .dat (intsT (zeros ws.length)), .un, .un, .un, .un] : Env) _
  refine tr_seq (tr_asg (ev_ifJ (.tup [intsL (stroke held (if moved then lifts ws held made else zeros ws.length)), .int (if moved then (lifts ws held made).getLast?.getD 0 else 0)]) ?_))
  walk_at "go"
  refine ⟨fun e => ?_, fun e => ?_, ?_⟩
  · subst e
    refine ev_call ?_
    walk_at "go"
    exact call_of (.mk ws held made hl h1 hz) rfl ⟨rfl, rfl⟩
  · subst e
    refine ev_tup (av_cons (ev_list ?_))
    walk_at "go"
    refine ⟨?_, rfl⟩
    show Vd.d (.tup [intsL held, .int 0]) = Vd.d (Dat.tup [intsL (stroke held (zeros ws.length)), .int 0])
    rw [stroke_zeros]
  refine ⟨_, rfl, gw_two ?_⟩
  obtain ⟨br, hbr⟩ : ∃ br, br = (if moved then lifts ws held made else zeros ws.length) := ⟨_, rfl⟩
  obtain ⟨out, hout⟩ : ∃ br, br = (if moved then (lifts ws held made).getLast?.getD 0 else 0) := ⟨_, rfl⟩
  rw [← hbr, ← hout]
  show Tr _ ([.dat (watD ws), .dat (intsT held), .dat (.int rest), .dat (.int made), .dat (.bl moved), .dat (.tup []), .dat (intsT (zeros ws.length)), .dat (intsL (stroke held br)), .dat (.int out), .un, .un] : Env) _
  refine tr_seq (tr_if ?_)
  walk_at "go"
  have hs' : (stroke held br).length = ws.length := by rw [stroke_len, hl]
  refine ⟨fun e => ?_, fun e => ?_⟩
  · refine tr_set (ev_fz (ev_lcA (sr_zLT ?_)))
    walk_at "go"
    refine ⟨NoM.cons trivial (NoM.cons trivial NoM.nil), ?_, fun i => ((springs ws (stroke held br)).take i).map Dat.int, rfl, fun i d hd => ?_, fun p => ?_⟩
    · rw [zipD_len, List.length_map, List.length_map, hs', Nat.min_self]
      omega
    · obtain ⟨a, b, ha, hb, rfl⟩ := zipD_get hd
      obtain ⟨x, hx, rfl⟩ := mapG ha
      obtain ⟨y, hy, rfl⟩ := mapG hb
      refine cw_two (.head _) (.tail _ (.head _)) (tt_yes ⟨rfl, fun _ => ?_, (fun e => nomatch e)⟩)
      walk_at "go"
      refine ⟨rfl, _, rfl, ?_⟩
      exact (takeM (zipG hx hy)).symm
    · refine ⟨_, _, rfl, ?_⟩
      have el : (zipD ((stroke held br).map Dat.int) (ws.map Cist.d)).length = (springs ws (stroke held br)).length := by
        rw [zipD_len, List.length_map, List.length_map, springs_len hs', hs', Nat.min_self]
      show put _ 7 (.d (.lst (((springs ws (stroke held br)).take _).map Dat.int))) _
      rw [el, takeA]
      refine tr_ret (ev_tup (av_cons (ev_call ?_)))
      walk_at "go"
      refine call_of (.mk ws (springs ws (stroke held br)) (springs_len hs') h1 hz) rfl ?_
      walk_at "go"
      show Dat.tup [intsT (spills ws (springs ws (stroke held br))), .int out] = Dat.tup [intsT (flow ws held br (decide ((rest : Int) % 2 = 1))), .int out]
      rw [e]
      rfl
  · refine tr_next (tr_ret (ev_tup (av_cons (ev_call ?_))))
    walk_at "go"
    refine call_of (.mk ws (stroke held br) hs' h1 hz) rfl ?_
    walk_at "go"
    show Dat.tup [intsT (spills ws (stroke held br)), .int out] = Dat.tup [intsT (flow ws held br (decide ((rest : Int) % 2 = 1))), .int out]
    rw [e]
    rfl
theorem cal_brings (T : Tx K mg) : Cal P w K mg base 1 "brings" ["waters", "held", "made", "loose", "leaks"] (spP R_brings) := by
  have z_enumerate := T.z_enumerate
  have z_max := T.z_max
  have z_min := T.z_min
  have z_tuple := T.z_tuple
  have c_MEASURE := T.c_MEASURE
  have c_ROD := T.c_ROD
  refine T.d_brings.cal sc_brings (spP_len fun ds d h => by cases h <;> rfl) fun f cdv A outer s H vs Q E hr hs => ⟨_, (pss_cons (ps_par (i := 5) (j := 6) rfl sc_brings.nd rfl rfl (by decide) rfl rfl (pa_cons (pe_ifExp (pt_cmpR (op_eqK (K := K) rfl hr.units) (pe_op op_mod (pv 2) pe_int) pe_int (nomark _)) pe_int pe_int) (pa_cons (pe_lst pa_nil) pa_nil)) (by rfl))
    (pss_cons (ps_for PassesOwn.never rfl (pi_enumK (K := K) rfl (by rfl) z_enumerate (pa_cons (pv 0) pa_nil)) (pg_tupK (K := K) (n := 2) rfl rfl (pgs_cons (pg_name (i := 7) sc_brings.nd rfl (Or.inl rfl)) (pgs_cons (pg_name (i := 8) sc_brings.nd rfl (Or.inl rfl)) pgs_nil)))
    (pss_cons (ps_set (i := 9) sc_brings.nd rfl (Or.inl rfl) (pe_ifExp (PW.pt (pw_and (pt_cmpR (op_eqK (K := K) rfl hr.units) (pe_ix (ix_seqK (K := K) rfl) (pv 8) (pe_const c_ROD rfl) (fun _ _ => rfl)) (pv 5) (nomark _)) (pw_and1 (pt_cmpR (op_niK (K := K) rfl) (pv 7) (pv 3) (by rfl))))) (pe_callB (crMin2 rfl) (by rfl) z_min (by decide +kernel) (pa_cons (pe_ix (ix_seqK (K := K) rfl) (pv 8) (pe_const c_MEASURE rfl) (fun _ _ => rfl)) (pa_cons (pe_ix (ix_seqK (K := K) rfl) (pv 1) (pv 7) (fun _ _ => rfl)) pa_nil))) pe_int))
    (pss_one (ps_expr (pe_bm PySem.F.plainAttrs_list PySem.F.slot_list_append PySem.F.type_list_append mt_append (pv 6) (pa_cons (pe_callB (crMax2 rfl) (by rfl) z_max (by decide +kernel) (pa_cons pe_int (pa_cons (pe_op op_sub (pv 9) (pe_ix (ix_seqK (K := K) rfl) (pv 4) (pv 7) (fun _ _ => rfl))) pa_nil))) pa_nil))))))
    (pss_one (ps_ret (pe_callTy (crTupK (K := K) rfl) (by rfl) z_tuple (by decide +kernel) (pa_cons (pv 6) pa_nil)))))), fn_P (R := R_brings) ?_ hs⟩
  rintro _ _ ⟨ws, held, made, hl, hz⟩
  show Tr _ ([.dat (watD ws), .dat (intsT held), .dat (.int made), .dat (.tup []), .dat (intsT (zeros ws.length)), .un, .un, .un, .un, .un] : Env) _
  -- rises, found = (.., [])
  refine tr_seq (tr_par ?_)
  refine av_cons (ev_ifJ (.int (rise made)) ?_)
  walk_at "go"
  refine ⟨fun e => ?_, fun e => ?_, ?_⟩
  · have e' : made % 2 = 0 := of_decide_eq_true e
    walk_at "go"
    exact ⟨by rw [rise, if_pos e'], rfl⟩
  · have e' : ¬ made % 2 = 0 := of_decide_eq_false e
    walk_at "go"
    exact ⟨by rw [rise, if_neg e'], rfl⟩
  refine av_cons (ev_lstN (av_nil ⟨[], rfl, by decide, fun p => ?_⟩))
  walk_at "go"
  show Tr _ ([.dat (watD ws), .dat (intsT held), .dat (.int made), .dat (.tup []), .dat (intsT (zeros ws.length)), .dat (.int (rise made)), .own p [], .un, .un, .un] : Env) _
  refine tr_seq (tr_for (sr_enT ?_))
  walk_at "go"
  refine ⟨fun i G => ∃ a b c, G = [.dat (watD ws), .dat (intsT held), .dat (.int made), .dat (.tup []), .dat (intsT (zeros ws.length)), .dat (.int (rise made)), .own p (((lifts ws held made).take i).map Dat.int), a, b, c], ⟨.un, .un, .un, rfl⟩, fun i d G hd hG => ?_, fun G hG => ?_⟩
  · obtain ⟨a, b, c, rfl⟩ := hG
    obtain ⟨own, ho, rfl⟩ := enumG hd
    obtain ⟨h, hh⟩ := getOf (xs := held) (i := i) (by rw [hl]; exact ltOf ho)
    refine gw_two ?_
    refine tr_seq (tr_set (ev_ifJ (.int (if own.rod = rise made then imin own.measure h else 0)) ?_))
    have hz' : (zeros ws.length)[i]? = some 0 := by
      unfold zeros
      rw [List.getElem?_replicate, if_pos (ltOf ho)]
    have key : (lifts ws held made)[i]? = some (imax 0 ((if own.rod = rise made then imin own.measure h else 0) - 0)) := by
      rw [Int.sub_zero]
      exact zipG ho hh
    refine tt_and ?_
    walk_at "go"
    refine ⟨fun e => ?_, fun e => ⟨(fun e' => nomatch e'), fun _ => ?_, ?_⟩⟩
    · have e' : own.rod = rise made := of_decide_eq_true e
      walk_at "go"
      refine ⟨fun _ => ?_, (fun z => nomatch z), ?_⟩
      · walk_at "go"
        exact ⟨by rw [if_pos e']; rfl, rfl⟩
      · refine tr_app ⟨_, _, rfl⟩ ?_
        walk_at "go"
        refine ⟨_, _, _, rfl, rfl, ?_, _, _, _, congrArg (fun z => _ :: _ :: _ :: _ :: _ :: _ :: Sd.own p z :: _) (takeM key)⟩
        rw [List.length_map, List.length_take]
        have := ltOf ho
        omega
    · have e' : ¬ own.rod = rise made := of_decide_eq_false e
      walk_at "go"
      exact ⟨by rw [if_neg e'], rfl⟩
    · refine tr_app ⟨_, _, rfl⟩ ?_
      walk_at "go"
      refine ⟨_, _, _, rfl, rfl, ?_, _, _, _, congrArg (fun z => _ :: _ :: _ :: _ :: _ :: _ :: Sd.own p z :: _) (takeM key)⟩
      rw [List.length_map, List.length_take]
      have := ltOf ho
      omega
  · obtain ⟨a, b, c, rfl⟩ := hG
    refine tr_ret ?_
    walk_at "go"
    refine ⟨_, .inr (.inr (.inl ⟨_, 6, rfl, rfl⟩)), _, rfl, ?_⟩
    have e : (enumD (ws.map Cist.d)).length = (lifts ws held made).length := by
      rw [enumD_len, List.length_map, lifts, List.length_zipWith, hl, Nat.min_self]
    show Dat.tup _ = intsT _
    rw [e, takeA]
    rfl
theorem nom1 {G : Env} {v : Nat} {vs : List Nat} {a : Sd} (e : G[v]? = some a) (h : ∀ q es, a ≠ Sd.own q es) (k : NoM G vs) : NoM G (v :: vs) := NoM.cons (by
  rw [e]
  cases a with
  | un => trivial
  | dat d => trivial
  | own q es => exact absurd rfl (h q es)) k
theorem cal__law_flow (T : Tx K mg) : Cal P w K mg base 1 "_law_flow" ["_law_fill_so", "_law_held_so", "_law_lifted_so", "_law_odd_so"] (spP R__law_flow) := by
  have z_enumerate := T.z_enumerate
  have z_len := T.z_len
  have z_max := T.z_max
  have z_range := T.z_range
  have z_tuple := T.z_tuple
  refine T.d__law_flow.cal sc__law_flow (spP_len fun ds d h => by cases h <;> rfl) fun f cdv A outer s H vs Q E hr hs => ⟨_, (pss_cons (ps_set (i := 4) sc__law_flow.nd rfl (Or.inr rfl) (pe_lc (own := [("_law_k", 5)]) (g := (gName 5)) rfl sc__law_flow.nd (pi_range1 (by rfl) z_range (pa_cons (pe_callB (crLenK (K := K) rfl) (by rfl) z_len (by decide +kernel) (pa_cons (pv 0) pa_nil)) pa_nil)) (blkOk_by (own := [("_law_k", 5)]) (N := n__law_flow) (sc := defScope s__law_flow) (by decide +kernel)) (fun _ _ _ _ _ => pg_name (i := 5) sc__law_flow.nd rfl (Or.inl rfl)) (fun _ _ _ _ _ => pts_nil) (fun _ _ _ _ _ => (pe_op op_sub (pe_ix (ix_seqK (K := K) rfl) (pv 1) (pv 5) (fun _ _ => rfl)) (pe_ix (ix_seqK (K := K) rfl) (pv 2) (pv 5) (fun _ _ => rfl))))))
    (pss_cons (ps_for PassesOwn.never rfl (pi_range1 (by rfl) z_range (pa_cons (pe_op op_sub (pe_callB (crLenK (K := K) rfl) (by rfl) z_len (by decide +kernel) (pa_cons (pv 0) pa_nil)) pe_int) pa_nil)) (pg_name (i := 5) sc__law_flow.nd rfl (Or.inl rfl))
    (pss_one (ps_asg (pe_op (op_addK (K := K) rfl) (pe_ix (ix_seqK (K := K) rfl) (pv 4) (pe_op (op_addK (K := K) rfl) (pv 5) pe_int) (fun _ _ => rfl)) (pe_ix (ix_seqK (K := K) rfl) (pv 2) (pv 5) (fun _ _ => rfl))) (pg_sub (pv 4) (pe_op (op_addK (K := K) rfl) (pv 5) pe_int) set_list))))
    (pss_cons (ps_if (pt_val (pv 3)) (pss_one (ps_set (i := 4) sc__law_flow.nd rfl (Or.inr rfl) (pe_lc (own := [("_law_k", 5), ("_law_own", 7)]) (g := (gTup K 2 (gCons (gName 5) (gCons (gName 7) gNil)))) rfl sc__law_flow.nd (pi_enumK (K := K) rfl (by rfl) z_enumerate (pa_cons (pv 0) pa_nil)) (blkOk_by (own := [("_law_k", 5), ("_law_own", 7)]) (N := n__law_flow) (sc := defScope s__law_flow) (by decide +kernel)) (fun _ _ _ _ _ => pg_tupK (K := K) (n := 2) rfl rfl (pgs_cons (pg_name (i := 5) sc__law_flow.nd rfl (Or.inl rfl)) (pgs_cons (pg_name (i := 7) sc__law_flow.nd rfl (Or.inl rfl)) pgs_nil))) (fun _ _ _ _ _ => pts_nil) (fun _ _ _ _ _ => (pe_op (op_addK (K := K) rfl) (pe_ix (ix_seqK (K := K) rfl) (pv 4) (pv 5) (fun _ _ => rfl)) (pe_ix (ix_seqK (K := K) rfl) (pv 7) pe_int (fun _ _ => rfl))))))) pss_nil)
    (pss_cons (ps_for PassesOwn.never rfl (pi_range3 (by rfl) z_range (pa_cons (pe_op op_sub (pe_callB (crLenK (K := K) rfl) (by rfl) z_len (by decide +kernel) (pa_cons (pv 0) pa_nil)) pe_int) (pa_cons pe_int (pa_cons (pe_un un_neg pe_int) pa_nil)))) (pg_name (i := 5) sc__law_flow.nd rfl (Or.inl rfl))
    (pss_cons (ps_set (i := 6) sc__law_flow.nd rfl (Or.inl rfl) (pe_callB (crMax2 rfl) (by rfl) z_max (by decide +kernel) (pa_cons pe_int (pa_cons (pe_op op_sub (pe_ix (ix_seqK (K := K) rfl) (pv 4) (pv 5) (fun _ _ => rfl)) (pe_ix (ix_seqK (K := K) rfl) (pe_ix (ix_seqK (K := K) rfl) (pv 0) (pv 5) (fun _ _ => rfl)) pe_int (fun _ _ => rfl))) pa_nil))))
    (pss_one (ps_asg (pe_tup (pa_cons (pe_op op_sub (pe_ix (ix_seqK (K := K) rfl) (pv 4) (pv 5) (fun _ _ => rfl)) (pv 6)) (pa_cons (pe_op (op_addK (K := K) rfl) (pe_ix (ix_seqK (K := K) rfl) (pv 4) (pe_op op_sub (pv 5) pe_int) (fun _ _ => rfl)) (pv 6)) pa_nil))) (pg_tupK (K := K) (n := 2) rfl rfl (pgs_cons (pg_sub (pv 4) (pv 5) set_list) (pgs_cons (pg_sub (pv 4) (pe_op op_sub (pv 5) pe_int) set_list) pgs_nil)))))))
    (pss_one (ps_ret (pe_callTy (crTupK (K := K) rfl) (by rfl) z_tuple (by decide +kernel) (pa_cons (pv 4) pa_nil)))))))), fn_P (R := R__law_flow) ?_ hs⟩
  rintro _ _ ⟨ws, held, br, odd, hl, hb, h1, hz⟩
  show Tr _ ([.dat (watD ws), .dat (intsT held), .dat (intsL br), .dat (.bl odd), .un, .un, .un, .un] : Env) _
  refine tr_seq (tr_set (ev_lcA (sr_r1 (ev_len (ev_var rfl ⟨_, .inl rfl, _, rfl, ?_, ?_, NoM.cons trivial NoM.nil, ?_, fun i => ((nowAt held br 0).take i).map Dat.int, rfl, fun i d hd => ?_, fun p => ?_⟩)))))
  · rw [List.length_map]; omega
  · rw [List.length_map]; omega
  · rw [List.length_map, rgI_len, List.length_map]
    omega
  · obtain ⟨k, hk, rfl⟩ := mapG hd
    obtain ⟨rfl, hi⟩ := rgG hk
    rw [List.length_map] at hi
    rw [Int.zero_add]
    obtain ⟨h, hh⟩ := getOf (xs := held) (i := i) (by omega)
    obtain ⟨b, hb'⟩ := getOf (xs := br) (i := i) (by omega)
    refine cw_name (.head _) (tt_yes ⟨rfl, fun _ => ?_, (fun e => nomatch e)⟩)
    walk_at "go"
    exact ⟨rfl, _, rfl, (takeM (nowAt_zero hh hb')).symm⟩
  have e0 : (nowAt held br 0).take ((rgI 0 ((ws.map Cist.d).length : Int)).map Dat.int).length = nowAt held br 0 := by
    rw [List.length_map, rgI_len, List.length_map, List.take_of_length_le (by rw [nowAt_len]; omega)]
  show put _ 4 (.n p (((nowAt held br 0).take _).map Dat.int)) _
  rw [e0]
  show Tr _ ([.dat (watD ws), .dat (intsT held), .dat (intsL br), .dat (.bl odd), .own p ((nowAt held br 0).map Dat.int), .un, .un, .un] : Env) _
  refine tr_seq (tr_for (sr_r1 (ev_sub (ev_len (ev_var rfl ⟨_, .inl rfl, ev_int ⟨_, _, rfl, rfl, _, rfl, ?_⟩⟩)))))
  rw [List.length_map]
  refine ⟨by omega, by omega, fun i G => ∃ a, (∀ q es, a ≠ Sd.own q es) ∧ G = [.dat (watD ws), .dat (intsT held), .dat (intsL br), .dat (.bl odd), .own p ((nowAt held br i).map Dat.int), a, .un, .un], ⟨.un, (fun q es z => nomatch z), rfl⟩, fun i d G hd hG => ?_, fun G hG => ?_⟩
  · obtain ⟨a, ha, rfl⟩ := hG
    obtain ⟨k, hk, rfl⟩ := mapG hd
    obtain ⟨rfl, hi⟩ := rgG hk
    rw [Int.zero_add]
    obtain ⟨x, hx⟩ := getOf (xs := nowAt held br i) (i := i + 1) (by rw [nowAt_len]; omega)
    obtain ⟨b, hb'⟩ := getOf (xs := br) (i := i) (by omega)
    refine gw_name (tr_asg (ev_add (ev_ix (ev_varM rfl (ev_add (ev_var rfl (ev_int ⟨_, _, rfl, rfl, _, _, _, .inr (.inr (.inl ⟨_, 4, rfl, rfl⟩)), rfl, atM' hx rfl, ev_ix (ev_var rfl (ev_var rfl ⟨_, _, _, .inr (.inl rfl), rfl, atM hb', _, _, rfl, rfl, _, rfl, ?_⟩))⟩)))))))
    refine gw_sub ⟨_, _, rfl⟩ (ev_add (ev_var rfl (ev_int ⟨_, _, rfl, rfl, _, _, _, i + 1, rfl, rfl, ?_, ?_⟩)))
    · have e : ixN ((nowAt held br i).map Dat.int).length (((i + 1 : Nat) : Int)) = some (i + 1) := by
        unfold ixN
        rw [List.length_map, nowAt_len, if_pos (by omega), if_pos (by omega)]
        rfl
      exact e
    · exact ⟨.dat (.int i), (fun q es z => nomatch z), congrArg (fun z => _ :: _ :: _ :: _ :: Sd.own p z :: _) ((List.map_set).symm.trans (congrArg (List.map Dat.int) (nowAt_step hx hb')))⟩
  obtain ⟨a, ha, rfl⟩ := hG
  have e1 : nowAt held br ((rgI 0 ((ws.length : Int) - 1)).map Dat.int).length = stroke held br := by
    rw [List.length_map, rgI_len, ← nowAt_stroke held br (by omega)]
    congr 1
    omega
  rw [e1]
  have hs' : (stroke held br).length = ws.length := by rw [stroke_len, hl]
  refine tr_mid (fun G => ∃ q a, G = [.dat (watD ws), .dat (intsT held), .dat (intsL br), .dat (.bl odd), .own q ((if odd then springs ws (stroke held br) else stroke held br).map Dat.int), a, .un, .un]) (tr_if (tt_T (ev_var rfl ⟨_, rfl, fun e => ?_, fun e => ?_⟩))) ?_
  · subst e
    refine tr_set (ev_lcA (sr_enT (ev_var rfl ⟨_, rfl, nom1 (v := 5) rfl ha (NoM.cons trivial NoM.nil), ?_, fun i => ((springs ws (stroke held br)).take i).map Dat.int, rfl, fun i d hd => ?_, fun p2 => ?_⟩)))
    · rw [enumD_len, List.length_map]
      omega
    · obtain ⟨own, ho, rfl⟩ := enumG hd
      have hi := ltOf ho
      obtain ⟨x, hx⟩ := getOf (xs := stroke held br) (i := i) (by omega)
      refine cw_two (.head _) (.tail _ (.head _)) (tt_yes ⟨rfl, fun _ => ?_, (fun e => nomatch e)⟩)
      refine ev_add (ev_ix (ev_varM rfl (ev_var rfl ⟨_, _, _, .inr (.inr (.inl ⟨_, 4, rfl, rfl⟩)), rfl, atM hx, ev_ix (ev_var rfl (ev_int ⟨_, _, _, .inl rfl, rfl, rfl, _, _, rfl, rfl, rfl, _, rfl, ?_⟩))⟩)))
      exact (takeM (xs := springs ws (stroke held br)) (zipG hx ho)).symm
    · have e2 : (springs ws (stroke held br)).take (enumD (ws.map Cist.d)).length = springs ws (stroke held br) := by
        rw [enumD_len, List.length_map, List.take_of_length_le (by rw [springs_len hs']; exact Nat.le_refl _)]
      show put _ 4 (.n p2 (((springs ws (stroke held br)).take _).map Dat.int)) _
      rw [e2]
      exact ⟨p2, a, rfl⟩
  · subst e
    exact tr_next ⟨p, a, rfl⟩
  rintro _ ⟨q, a, rfl⟩
  obtain ⟨f, hf⟩ : ∃ f, f = (if odd then springs ws (stroke held br) else stroke held br) := ⟨_, rfl⟩
  rw [← hf]
  have fl : f.length = ws.length := by
    rw [hf]
    split
    · exact springs_len hs'
    · exact hs'
  refine tr_seq (tr_for (sr_r3 (ev_sub (ev_len (ev_var rfl ⟨_, .inl rfl, ev_int ⟨_, _, rfl, rfl, ev_int ⟨_, _, rfl, rfl, ?_⟩⟩⟩)))))
  rw [List.length_map]
  refine ⟨by omega, by omega, by omega, by omega, ?_⟩
  refine ⟨fun i G => ∃ a b, G = [.dat (watD ws), .dat (intsT held), .dat (intsL br), .dat (.bl odd), .own q ((spillAt ws f i).map Dat.int), a, b, .un], ⟨a, .un, rfl⟩, fun i d G hd hG => ?_, fun G hG => ?_⟩
  · obtain ⟨a, b, rfl⟩ := hG
    obtain ⟨n, hn, rfl⟩ := mapG hd
    obtain ⟨rfl, hi⟩ := dnG hn
    refine gw_name ?_
    obtain ⟨k, hk⟩ : ∃ k : Nat, k = f.length - 1 - i := ⟨_, rfl⟩
    have ek : (ws.length : Int) - 1 - (i : Int) = (k : Int) := by omega
    rw [ek]
    obtain ⟨x, hx⟩ := getOf (xs := spillAt ws f i) (i := k) (by rw [spillAt_len]; omega)
    obtain ⟨c, hc⟩ := getOf (xs := ws) (i := k) (by omega)
    obtain ⟨y, hy⟩ := getOf (xs := spillAt ws f i) (i := k - 1) (by rw [spillAt_len]; omega)
    refine tr_seq (tr_set ?_)
    walk_at "go"
    refine ⟨_, _, _, .inr (.inr (.inl ⟨_, 4, rfl, rfl⟩)), rfl, atM hx, ?_⟩
    walk_at "go"
    refine tr_asg (ev_tup (av_cons (ev_sub (ev_ix (ev_varM rfl (ev_var rfl ⟨_, _, _, .inr (.inr (.inl ⟨_, 4, rfl, rfl⟩)), rfl, atM hx, ev_var rfl ⟨_, _, rfl, rfl, ?_⟩⟩))))))
    refine av_cons (ev_add (ev_ix (ev_varM rfl (ev_sub (ev_var rfl (ev_int ⟨_, _, rfl, rfl, _, _, _, .inr (.inr (.inl ⟨_, 4, rfl, rfl⟩)), rfl, atM' hy (by omega), ev_var rfl ⟨_, _, rfl, rfl, av_nil ⟨[_, _], rfl, Nat.le_of_ble_eq_true rfl, _, rfl, ?_⟩⟩⟩))))))
    have ix1 : ixN ((spillAt ws f i).map Dat.int).length (k : Int) = some k := by
      unfold ixN
      rw [List.length_map, spillAt_len, if_pos (by omega), if_pos (by omega)]
      rfl
    have ix2 : ∀ z, ixN (((spillAt ws f i).map Dat.int).set k z).length ((k : Int) - 1) = some (k - 1) := by
      intro z
      unfold ixN
      rw [List.length_set, List.length_map, spillAt_len, if_pos (by omega), if_pos (by omega)]
      congr 1
      omega
    refine gw_tup rfl (gs_cons (gw_sub ⟨_, _, rfl⟩ (ev_var rfl ⟨_, _, _, k, rfl, rfl, ix1, gs_cons (gw_sub ⟨_, _, rfl⟩ (ev_sub (ev_var rfl (ev_int ⟨_, _, rfl, rfl, _, _, _, k - 1, rfl, rfl, ix2 _, gs_nil ?_⟩))))⟩)))
    refine ⟨.dat (.int k), .dat (.int (imax 0 (x - c.room))), congrArg (fun z => _ :: _ :: _ :: _ :: Sd.own q z :: _) ?_⟩
    show ((((spillAt ws f i).map Dat.int).set k (Dat.int (x - imax 0 (x - c.room)))).set (k - 1) (Dat.int (y + imax 0 (x - c.room)))) = (spill1 ws (spillAt ws f i) (f.length - 1 - i)).map Dat.int
    rw [← hk]
    unfold spill1
    rw [getD_of hx, getD_of hy, getD_of (xs := ws.map Cist.room) (z := c.room) (by rw [List.getElem?_map, hc]; rfl), List.map_set, List.map_set]
  · obtain ⟨a, b, rfl⟩ := hG
    refine tr_ret (ev_tuple (ev_varM rfl ⟨_, .inr (.inr (.inl ⟨_, 4, rfl, rfl⟩)), _, rfl, ?_⟩))
    have e : ((dnI ((ws.length : Int) - 1) 0).map Dat.int).length = f.length - 1 := by
      unfold dnI
      simp
      omega
    show Dat.tup ((spillAt ws f _).map Dat.int) = intsT (flow ws held br odd)
    rw [e]
    unfold flow spills
    rw [hf]
    rfl
def wellM : Mine := ⟨4, true, [0, 0, 0, 0, 0], [⟨4, 0, 3, 1, 0⟩], 2, none⟩
def stuckM : Mine := ⟨4, true, [0, 0, 0, 0, 0], [⟨4, 0, 3, 1, 0⟩], 2, some ⟨2, 0, [1]⟩⟩
theorem wellOk : Ok wellM := ⟨by decide, by decide, by decide, by decide, by decide, by decide, by decide, by decide, fun e he => nomatch he⟩
theorem stuckOk : Ok stuckM := ⟨by decide, by decide, by decide, by decide, by decide, by decide, by decide, by decide, fun e he => by cases he; decide⟩
theorem hand1 : lastsOf wellM 12 = [some 7, some 5, some 3, some 1] := by decide +kernel
theorem hand2 : slotsBy (lastsOf wellM 12) = [some 8, some 7, some 6, some 5] := by decide +kernel
theorem hand3 : (rows stuckM 6).map Row.made = [0, 1, 2, 3, 3, 3, 3] := by decide +kernel
theorem hand4 : lastsOf stuckM 8 = [some 2, some 2, some 2, some 1] := by decide +kernel
theorem hand5 : slotsBy (lastsOf stuckM 8) = [some 3, some 3, some 3, some 3] := by decide +kernel
theorem hand6 : ([1, 2, 3, 4] : List Int).map (fun l => firstWet stuckM l (rows stuckM 8)) = [some 6, some 4, some 4, some 2] := by decide +kernel
theorem hand7 : lastsOf wellM 4 = [none, none, some 3, some 1] := by decide +kernel
theorem hand8 : slotsBy (lastsOf wellM 4) = [none, none, some 6, some 5] := by decide +kernel
theorem putD2 {G : Env} {i : Nat} {x y : List Dat} {C : Env → Prop} (e : x = y) (k : put G i (.d (.lst y)) C) : put G i (.d (.lst x)) C := e ▸ k
def dueD : Dat := .lst [intsT [7, 5, 3, 1], intsT [8, 7, 6, 5], intsT [0, 1, 2, 3, 3, 3, 3], intsT [2, 2, 2, 1], intsT [3, 3, 3, 3], .lst [.int 6, .int 4, .int 4, .int 2], .tup [.non, .non, .int 3, .int 1], .tup [.non, .non, .int 6, .int 5]]
theorem cal__law_by_hand_right (T : Tx K mg) (C__law_same : Cal P w K mg base 8 "_law_same" ["_law_got", "_law_goal"] (spP (R__law_same 8))) (C_last_slots : Cal P w K mg base 11 "last_slots" ["mine", "many"] (spP R_last_slots)) (C_lasts_of : Cal P w K mg base 10 "lasts_of" ["mine", "many"] (spP R_lasts_of)) (C_wet_from : Cal P w K mg base 10 "wet_from" ["mine", "level", "many"] (spP R_wet_from)) (C_made_row : Cal P w K mg base 10 "made_row" ["mine", "many"] (spP R_made_row)) : Cal P w K mg base 12 "_law_by_hand_right" [] (spP R__law_by_hand_right) := by
  have C__law_same := C__law_same.mono (show 8 ≤ 11 by decide)
  have C_last_slots := C_last_slots.mono (show 11 ≤ 11 by decide)
  have C_lasts_of := C_lasts_of.mono (show 10 ≤ 11 by decide)
  have C_wet_from := C_wet_from.mono (show 10 ≤ 11 by decide)
  have C_made_row := C_made_row.mono (show 10 ≤ 11 by decide)
  refine T.d__law_by_hand_right.cal sc__law_by_hand_right (spP_len fun ds d h => by cases h <;> rfl) fun f cdv A outer s H vs Q E hr hs => ⟨_, (pss_cons (ps_set (i := 0) sc__law_by_hand_right.nd rfl (Or.inl rfl) (pe_tup (pa_cons (pe_tup (pa_cons pe_int (pa_cons pe_bl (pa_cons (pe_tup (pa_cons pe_int (pa_cons pe_int (pa_cons pe_int (pa_cons pe_int (pa_cons pe_int pa_nil)))))) pa_nil)))) (pa_cons (pe_tup (pa_cons (pe_tup (pa_cons pe_int (pa_cons pe_int (pa_cons pe_int (pa_cons pe_int (pa_cons pe_int pa_nil)))))) pa_nil)) (pa_cons pe_int (pa_cons pe_non pa_nil))))))
    (pss_cons (ps_set (i := 1) sc__law_by_hand_right.nd rfl (Or.inr rfl) (pe_op (op_addK (K := K) rfl) (pe_slice (slK (K := K) rfl) (pv 0) po_none (po_some pe_int)) (pe_tup (pa_cons (pe_tup (pa_cons pe_int (pa_cons pe_int (pa_cons (pe_tup (pa_cons pe_int pa_nil)) pa_nil)))) pa_nil))))
    (pss_cons (ps_set (i := 2) sc__law_by_hand_right.nd rfl (Or.inl rfl) (pe_lst (pa_cons (pe_callC C_lasts_of hr rfl (pa_cons (pv 0) (pa_cons pe_int pa_nil))) (pa_cons (pe_callC C_last_slots hr rfl (pa_cons (pv 0) (pa_cons pe_int pa_nil))) (pa_cons (pe_callC C_made_row hr rfl (pa_cons (pv 1) (pa_cons pe_int pa_nil))) (pa_cons (pe_callC C_lasts_of hr rfl (pa_cons (pv 1) (pa_cons pe_int pa_nil))) (pa_cons (pe_callC C_last_slots hr rfl (pa_cons (pv 1) (pa_cons pe_int pa_nil))) pa_nil)))))))
    (pss_cons (ps_set (i := 2) sc__law_by_hand_right.nd rfl (Or.inl rfl) (pe_op (op_addK (K := K) rfl) (pv 2) (pe_lst (pa_cons (pe_lc (own := [("_law_own", 4)]) (g := (gName 4)) rfl sc__law_by_hand_right.nd (pi_seqK (K := K) rfl (pe_tup (pa_cons pe_int (pa_cons pe_int (pa_cons pe_int (pa_cons pe_int pa_nil)))))) (blkOk_by (own := [("_law_own", 4)]) (N := n__law_by_hand_right) (sc := defScope s__law_by_hand_right) (by decide +kernel)) (fun _ _ _ _ _ => pg_name (i := 4) sc__law_by_hand_right.nd rfl (Or.inl rfl)) (fun _ _ _ _ _ => pts_nil) (fun _ _ _ _ _ => (pe_callC C_wet_from hr rfl (pa_cons (pv 1) (pa_cons (pv 4) (pa_cons pe_int pa_nil)))))) (pa_cons (pe_callC C_lasts_of hr rfl (pa_cons (pv 0) (pa_cons pe_int pa_nil))) (pa_cons (pe_callC C_last_slots hr rfl (pa_cons (pv 0) (pa_cons pe_int pa_nil))) pa_nil))))))
    (pss_cons (ps_set (i := 3) sc__law_by_hand_right.nd rfl (Or.inl rfl) (pe_lst (pa_cons (pe_tup (pa_cons pe_int (pa_cons pe_int (pa_cons pe_int (pa_cons pe_int pa_nil))))) (pa_cons (pe_tup (pa_cons pe_int (pa_cons pe_int (pa_cons pe_int (pa_cons pe_int pa_nil))))) (pa_cons (pe_tup (pa_cons pe_int (pa_cons pe_int (pa_cons pe_int (pa_cons pe_int (pa_cons pe_int (pa_cons pe_int (pa_cons pe_int pa_nil)))))))) (pa_cons (pe_tup (pa_cons pe_int (pa_cons pe_int (pa_cons pe_int (pa_cons pe_int pa_nil))))) (pa_cons (pe_tup (pa_cons pe_int (pa_cons pe_int (pa_cons pe_int (pa_cons pe_int pa_nil))))) (pa_cons (pe_lst (pa_cons pe_int (pa_cons pe_int (pa_cons pe_int (pa_cons pe_int pa_nil))))) pa_nil))))))))
    (pss_one (ps_ret (pe_callC C__law_same hr rfl (pa_cons (pv 2) (pa_cons (pe_op (op_addK (K := K) rfl) (pv 3) (pe_lst (pa_cons (pe_tup (pa_cons pe_non (pa_cons pe_non (pa_cons pe_int (pa_cons pe_int pa_nil))))) (pa_cons (pe_tup (pa_cons pe_non (pa_cons pe_non (pa_cons pe_int (pa_cons pe_int pa_nil))))) pa_nil)))) pa_nil)))))))))), fn_P (R := R__law_by_hand_right) ?_ hs⟩
  rintro _ _ ⟨⟩
  show Tr _ ([.un, .un, .un, .un, .un] : Env) _
  refine tr_seq (tr_set ?_)
  walk_at "go"
  show Tr _ ([.dat (mineD wellM), .un, .un, .un, .un] : Env) _
  refine tr_seq (tr_set (ev_catT (ev_slT (ev_var rfl (po_no (po_at (ev_int ⟨_, rfl, _, rfl, ?_⟩)))))))
  refine ev_tup (av_cons (ev_tup (av_cons (ev_int (av_cons (ev_int (av_cons (ev_tup (av_cons (ev_int (av_nil ⟨[_], rfl, Nat.le_of_ble_eq_true rfl, av_nil ⟨[_, _, _], rfl, Nat.le_of_ble_eq_true rfl, av_nil ⟨[_], rfl, Nat.le_of_ble_eq_true rfl, _, _, rfl, rfl, ?_, ?_, ?_, ?_⟩⟩⟩)))))))))))
  · exact fun e => nomatch (show (_ :: _) = [] from e)
  · exact fun e => nomatch e
  · show 4 ≤ sizeLine
    decide
  show Tr _ ([.dat (mineD wellM), .dat (mineD stuckM), .un, .un, .un] : Env) _
  refine tr_seq (tr_set (ev_lst ?_))
  walk_at "go"
  refine call_of (.mk wellM (mineD wellM) 12 wellOk (mine_dep _) (mine_small wellOk) (mine_toT _) (by decide)) rfl ?_
  walk_at "go"
  refine call_of (.mk wellM 12 wellOk (by decide)) rfl ?_
  walk_at "go"
  refine call_of (.mk stuckM 6 stuckOk (by decide)) rfl ?_
  walk_at "go"
  refine call_of (.mk stuckM (mineD stuckM) 8 stuckOk (mine_dep _) (mine_small stuckOk) (mine_toT _) (by decide)) rfl ?_
  walk_at "go"
  refine call_of (.mk stuckM 8 stuckOk (by decide)) rfl ?_
  walk_at "go"
  refine tr_seq (tr_set (ev_cat (ev_var rfl (ev_lst (av_cons (ev_fz (ev_lcA (sr_tup ?_))))))))
  walk_at "go"
  refine ⟨NoM.cons trivial NoM.nil, Nat.le_of_ble_eq_true rfl, fun i => ((([1, 2, 3, 4] : List Int).map (fun l => firstWet stuckM l (rows stuckM 8))).take i).map optN, rfl, fun i d hd => ?_, fun p2 => ?_⟩
  · have hd' : (([1, 2, 3, 4] : List Int).map Dat.int)[i]? = some d := hd
    obtain ⟨l, hl, rfl⟩ := mapG hd'
    have hl' : 1 ≤ l ∧ l ≤ 4 := by
      have := List.mem_of_getElem? hl
      simp only [List.mem_cons, List.not_mem_nil, or_false] at this
      omega
    refine cw_name (.head _) (tt_yes ⟨rfl, fun _ => ?_, (fun e => nomatch e)⟩)
    walk_at "go"
    refine call_of (.mk stuckM l 8 stuckOk (by omega) (by show l ≤ 4; omega) (by decide)) rfl ⟨rfl, _, rfl, (takeM ?_).symm⟩
    rw [List.getElem?_map, hl]
    rfl
  refine ⟨_, _, rfl, ?_⟩
  walk_at "go"
  refine call_of (.mk wellM (mineD wellM) 4 wellOk (mine_dep _) (mine_small wellOk) (mine_toT _) (by decide)) rfl ?_
  walk_at "go"
  refine call_of (.mk wellM 4 wellOk (by decide)) rfl ?_
  walk_at "go"
  have E : ([optsT (lastsOf wellM 12), optsT (slotsBy (lastsOf wellM 12)), intsT (List.map Row.made (rows stuckM 6)), optsT (lastsOf stuckM 8), optsT (slotsBy (lastsOf stuckM 8))] ++ [Dat.lst (List.map optN (List.take 4 (List.map (fun l => firstWet stuckM l (rows stuckM 8)) [1, 2, 3, 4]))), optsT (lastsOf wellM 4), optsT (slotsBy (lastsOf wellM 4))]) = [intsT [7, 5, 3, 1], intsT [8, 7, 6, 5], intsT [0, 1, 2, 3, 3, 3, 3], intsT [2, 2, 2, 1], intsT [3, 3, 3, 3], .lst [.int 6, .int 4, .int 4, .int 2], .tup [.non, .non, .int 3, .int 1], .tup [.non, .non, .int 6, .int 5]] := by
    rw [hand2, hand5, hand8, hand1, hand3, hand4, hand6, hand7]
    rfl
  refine putD2 E ?_
  refine tr_seq (tr_set (ev_lst ?_))
  walk_at "go"
  refine ev_lst ?_
  walk_at "go"
  refine tr_ret (ev_call (av_cons (ev_var rfl (av_cons (ev_cat (ev_var rfl (ev_lst ?_)))))))
  walk_at "go"
  refine call_of (.mk dueD ?_ ?_) rfl ⟨_, rfl, rfl⟩
  · rfl
  · rfl
theorem held_ge' {m : Mine} (o : Ok m) (n : Nat) : ∀ r ∈ rows m n, 1 ≤ r.held.length := fun r hr => by
  obtain ⟨i, _, rfl⟩ := rows_mem hr
  rw [rowAt_len]
  exact o.w1
theorem levels_len (m : Mine) : (levels m).length = m.deep.toNat := by
  unfold levels
  rw [rgI_len]
  congr 1
  omega
theorem lastsOf_len (m : Mine) (n : Nat) : (lastsOf m n).length = m.deep.toNat := by
  unfold lastsOf
  rw [List.length_map, levels_len]
theorem lastOf_some {m : Mine} {rs : List Row} {level : Int} {i : Nat} {r : Row} (h : firstWet m level rs = some i) (k : rs[i]? = some r) : lastOf m rs level = some (r.made - 1) := by
  unfold lastOf
  rw [h, Option.map_some, List.getD_eq_getElem?_getD, k]
  rfl
theorem fw_lt {m : Mine} {rs : List Row} {level : Int} {i : Nat} (h : firstWet m level rs = some i) : i < rs.length := by
  unfold firstWet at h
  rw [List.findIdx?_eq_some_iff_getElem] at h
  exact h.1
theorem cal_lasts_of (T : Tx K mg) (C_first_wet : Cal P w K mg base 2 "first_wet" ["mine", "rows", "level"] (spP R_first_wet)) (C_lone_rows : Cal P w K mg base 9 "lone_rows" ["mine", "many"] (spP R_lone_rows)) (C_tuple_of : Cal P w K mg base 8 "tuple_of" ["thing"] (spP (R_tuple_of 8))) : Cal P w K mg base 10 "lasts_of" ["mine", "many"] (spP R_lasts_of) := by
  have z_list := T.z_list
  have z_range := T.z_range
  have z_tuple := T.z_tuple
  have C_first_wet := C_first_wet.mono (show 2 ≤ 9 by decide)
  have C_lone_rows := C_lone_rows.mono (show 9 ≤ 9 by decide)
  have C_tuple_of := C_tuple_of.mono (show 8 ≤ 9 by decide)
  refine T.d_lasts_of.cal sc_lasts_of (spP_len fun ds d h => by cases h <;> rfl) fun f cdv A outer s H vs Q E hr hs => ⟨_, (pss_cons (ps_par (i := 2) (j := 3) rfl sc_lasts_of.nd rfl rfl (by decide) rfl rfl (pa_cons (pe_callC C_tuple_of hr rfl (pa_cons (pv 0) pa_nil)) (pa_cons (pe_lst pa_nil) pa_nil)) (by rfl))
    (pss_cons (ps_set (i := 4) sc_lasts_of.nd rfl (Or.inl rfl) (pe_callC C_lone_rows hr rfl (pa_cons (pv 2) (pa_cons (pv 1) pa_nil))))
    (pss_cons (ps_for PassesOwn.never rfl (pi_seqK (K := K) rfl (pe_listRg rfl (by rfl) z_list (prg_2 (by rfl) z_range pe_int (pe_op (op_addK (K := K) rfl) (pe_ix (ix_seqK (K := K) rfl) (pe_ix (ix_seqK (K := K) rfl) (pv 2) pe_int (fun _ _ => rfl)) pe_int (fun _ _ => rfl)) pe_int)))) (pg_name (i := 5) sc_lasts_of.nd rfl (Or.inl rfl))
    (pss_cons (ps_set (i := 6) sc_lasts_of.nd rfl (Or.inl rfl) (pe_callC C_first_wet hr rfl (pa_cons (pv 2) (pa_cons (pv 4) (pa_cons (pv 5) pa_nil)))))
    (pss_one (ps_expr (pe_bm PySem.F.plainAttrs_list PySem.F.slot_list_append PySem.F.type_list_append mt_append (pv 3) (pa_cons (pe_ifExp (pt_cmpR op_isN (pv 6) pe_non (nomark _)) pe_non (pe_op op_sub (pe_ix (ix_seqK (K := K) rfl) (pe_ix (ix_seqK (K := K) rfl) (pv 4) (pv 6) (fun _ _ => rfl)) pe_int (fun _ _ => rfl)) pe_int)) pa_nil))))))
    (pss_one (ps_ret (pe_callTy (crTupK (K := K) rfl) (by rfl) z_tuple (by decide +kernel) (pa_cons (pv 3) pa_nil))))))), fn_P (R := R_lasts_of) ?_ hs⟩
  rintro _ _ ⟨m, d, n, o, h, h2, ht, hn⟩
  show Tr _ ([.dat d, .dat (.int n), .un, .un, .un, .un, .un] : Env) _
  refine tr_seq (tr_par (av_cons ?_))
  walk_at "go"
  refine call_of (.mk d h h2) rfl ?_
  rw [ht]
  refine av_cons (ev_lstN ?_)
  walk_at "go"
  intro q
  walk_at "go"
  show Tr _ ([.dat d, .dat (.int n), .dat (mineD m), .own q [], .un, .un, .un] : Env) _
  refine tr_seq (tr_set ?_)
  walk_at "go"
  refine call_of (.mk m n o hn) rfl ?_
  show Tr _ ([.dat d, .dat (.int n), .dat (mineD m), .own q [], .dat (rowsL (rows m n)), .un, .un] : Env) _
  refine tr_seq (tr_for (sr_lst (ev_rg2 ?_)))
  walk_at "go"
  have d1 := o.d1
  have d2 := o.d2
  refine ⟨by refine ⟨?_, ?_, ?_, ?_, ?_⟩ <;> omega, _, rfl, ?_⟩
  refine ⟨fun i G => ∃ a b, G = [.dat d, .dat (.int n), .dat (mineD m), .own q (((lastsOf m n).take i).map optD), .dat (rowsL (rows m n)), a, b], ⟨.un, .un, rfl⟩, fun i d' G hd hG => ?_, fun G hG => ?_⟩
  · obtain ⟨a, b, rfl⟩ := hG
    obtain ⟨k, hk, rfl⟩ := mapG hd
    have hk' := rgG hk
    refine gw_name ?_
    refine tr_seq (tr_set ?_)
    walk_at "go"
    refine call_of (.mk m (rows m n) k o (by omega) (by omega) (held_ge' o n) (by rw [rows_len]; omega)) rfl ?_
    have key : (lastsOf m n)[i]? = some (lastOf m (rows m n) k) := by
      unfold lastsOf levels
      rw [List.getElem?_map, hk]
      rfl
    have hlen : (((lastsOf m n).take i).map optD).length < 1000000 := by
      rw [List.length_map, List.length_take, lastsOf_len]
      omega
    refine tr_app ⟨_, _, rfl⟩ (ev_ifJ (optD (lastOf m (rows m n) k)) ?_)
    walk_at "go"
    cases hf : firstWet m k (rows m n) with
    | none =>
      refine ⟨fun _ => ?_, (fun z => nomatch z), ?_⟩
      · walk_at "go"
        refine ⟨?_, rfl⟩
        unfold lastOf
        rw [hf]
        rfl
      · exact ⟨_, _, _, rfl, rfl, hlen, _, _, congrArg (fun z => _ :: _ :: _ :: Sd.own q z :: _) (takeM key)⟩
    | some j =>
      obtain ⟨r, hr'⟩ := getOf (fw_lt hf)
      refine ⟨(fun z => nomatch z), fun _ => ?_, ?_⟩
      · walk_at "go"
        refine ⟨?_, rfl⟩
        rw [lastOf_some hf hr']
        rfl
      · exact ⟨_, _, _, rfl, rfl, hlen, _, _, congrArg (fun z => _ :: _ :: _ :: Sd.own q z :: _) (takeM key)⟩
  · obtain ⟨a, b, rfl⟩ := hG
    refine tr_ret ?_
    walk_at "go"
    refine ⟨_, .inr (.inr (.inl ⟨_, 3, rfl, rfl⟩)), _, rfl, ?_⟩
    show Dat.tup (((lastsOf m n).take _).map optD) = optsT (lastsOf m n)
    rw [List.length_map, rgI_len, List.take_of_length_le (by rw [lastsOf_len]; omega)]
    rfl
theorem bit_small (z : Bool) : -(2 ^ 64) < (if z = true then (1 : Int) else 0) ∧ (if z = true then (1 : Int) else 0) < 2 ^ 64 := by cases z <;> decide
theorem cal__law_box (T : Tx K mg) : Cal P w K mg base 1 "_law_box" ["_law_script", "_law_k"] (spP R__law_box) := by
  have z_abs := T.z_abs
  have z_int := T.z_int
  have z_len := T.z_len
  refine T.d__law_box.cal sc__law_box (spP_len fun ds d h => by cases h <;> rfl) fun f cdv A outer s H vs Q E hr hs => ⟨_, (pss_cons (ps_set (i := 2) sc__law_box.nd rfl (Or.inl rfl) (pe_ifExp (pt_cmpR op_lt (pv 1) (pe_callB (crLenK (K := K) rfl) (by rfl) z_len (by decide +kernel) (pa_cons (pv 0) pa_nil)) (nomark _)) (pe_ix (ix_seqK (K := K) rfl) (pv 0) (pv 1) (fun _ _ => rfl)) pe_int))
    (pss_one (ps_ret (pe_lst (pa_cons (pe_op (op_mulK (K := K) rfl) (pe_callB (crAbs) (by rfl) z_abs (by decide +kernel) (pa_cons (pv 2) pa_nil)) (pe_callTy (crInt) (by rfl) z_int (by decide +kernel) (pa_cons (pe_cmpR op_ge (pe_callB (crAbs) (by rfl) z_abs (by decide +kernel) (pa_cons (pv 2) pa_nil)) (pe_op op_pow pe_int pe_int) (nomark _)) pa_nil))) (pa_cons (pe_op (op_addK (K := K) rfl) (pe_op (op_addK (K := K) rfl) (pe_op op_mod (pe_callTy (crInt) (by rfl) z_int (by decide +kernel) (pa_cons (pv 2) pa_nil)) pe_int) (pe_op (op_mulK (K := K) rfl) pe_int (pv 1))) pe_int) (pa_cons pe_int pa_nil))))))), fn_P (R := R__law_box) ?_ hs⟩
  rintro _ _ ⟨c⟩
  show Tr _ ([.dat (.lst [.int c]), .dat (.int 0), .un] : Env) _
  refine tr_seq (tr_set (ev_ifJ (.int c) (tt_T (ev_lt (ev_var rfl (ev_len (ev_var rfl ⟨_, .inr (.inl rfl), _, _, rfl, rfl, _, rfl, fun e => ?_, (fun e => nomatch e), ?_⟩)))))))
  · exact ev_ix (ev_var rfl (ev_var rfl ⟨_, _, _, .inr (.inl rfl), rfl, rfl, rfl, rfl⟩))
  refine tr_ret (ev_lst (av_cons (ev_mulY (ev_abs (ev_var rfl ⟨_, rfl, ev_intB (ev_ge (ev_abs (ev_var rfl ⟨_, rfl, ev_pow (ev_int (ev_int ⟨_, _, rfl, rfl, ⟨by decide, by decide, by decide⟩, _, _, rfl, rfl, _, rfl, _, _, rfl, rfl, ?_, ?_⟩))⟩)))⟩)))))
  · exact .inr (bit_small _)
  refine av_cons (ev_add (ev_add (ev_mod (ev_intI (ev_var rfl ⟨_, rfl, ev_int ⟨_, _, rfl, rfl, by decide, ev_mulY (ev_int (ev_var rfl ⟨_, _, rfl, rfl, .inr ⟨by decide, by decide⟩, _, _, rfl, rfl, ev_int ⟨_, _, rfl, rfl, av_cons (ev_int (av_nil ⟨[_, _, _], rfl, Nat.le_of_ble_eq_true rfl, _, rfl, ?_⟩))⟩⟩))⟩⟩)))))
  show Dat.lst [.int (iabs c * (if decide ((10 : Int) ^ 18 ≤ iabs c) = true then 1 else 0)), _, _] = _
  rw [show (10 : Int) ^ 18 = 1000000000000000000 by decide]
  simp only [decide_eq_true_eq]
/-! ### the script: a list that may stand frozen -/
def spC (K : PySem.W.Frag) : Sp := fun vs H Q _ => ∃ (a : Addr) (ns : List Int), vs = [.ref a, .int 1] ∧ SqL K H a (ns.map V.int) ∧ ns.length ≤ 63 ∧ ∀ (l : Addr) (H' : Hp), Same H H' → H' l = some (.lst [.int (cellsOf ns)]) → Q (.ref l) H'
theorem len__law_cells {vs : List V} {H : Hp} {Q : VK} {E : XK} (h : spC K vs H Q E) : vs.length = 2 := by
  obtain ⟨a, ns, rfl, _⟩ := h
  rfl
theorem cutV1 (ns : List Int) : cutV (ns.map V.int) none (some 1) = (ns.take 1).map V.int := by
  unfold cutV
  rw [HT.sIx_none, show (1 : Int) = ((1 : Nat) : Int) from rfl, HT.sIx_nat, List.drop_zero, Nat.sub_zero]
  cases ns <;> simp
theorem cutV2 (ns : List Int) : cutV (ns.map V.int) (some 1) (some 63) = ((ns.drop 1).take 62).map V.int := by
  unfold cutV
  rw [show (1 : Int) = ((1 : Nat) : Int) from rfl, show (63 : Int) = ((63 : Nat) : Int) from rfl, HT.sIx_nat, HT.sIx_nat]
  cases ns with
  | nil => rfl
  | cons n ns =>
    rw [List.length_map, List.length_cons, Nat.min_eq_left (by omega : 1 ≤ ns.length + 1), List.map_take, List.map_drop]
    show ((ns.map V.int)).take _ = ((ns.map V.int)).take _
    by_cases q : 63 ≤ ns.length + 1
    · rw [Nat.min_eq_left q]
    · rw [Nat.min_eq_right (by omega), List.take_of_length_le (by rw [List.length_map]; omega), List.take_of_length_le (by rw [List.length_map]; omega)]
theorem for_at {g : TG} {tb : TS} {C : Post} {B0 H0 B H : Hp} {σ : L2.St} {G : Env} (S : Sta B0 H0 B H σ G) {J : It} {xs : List Dat} (y : Yld J B xs) (I : Nat → Env → Prop) (i0 : I 0 G)
    (turn : ∀ (i : Nat) d G2, xs[i]? = some d → I i G2 → GW g d G2 fun G3 => Tr tb G3 { nx := I (i + 1), ct := I (i + 1), bk := C.nx, rt := C.rt }) (fin : ∀ G2, I xs.length G2 → C.nx G2) {D : Ends} (w : Wnt B0 H0 B C D) : tFor (fun σ H R => R J H) g tb D σ H := by
  refine ⟨fun i m σ' H' => m = xs.length - i ∧ i ≤ xs.length ∧ ∃ G2 B2, I i G2 ∧ Sta B0 H0 B2 H' σ' G2 ∧ Same B B2, ⟨xs.length, rfl, Nat.zero_le _, G, B, i0, S, Same.refl B⟩, ?_⟩
  rintro i m σ' H' ⟨rfl, hi, G2, B2, hI, S2, e2⟩
  by_cases hlt : i < xs.length
  · obtain ⟨go, yl⟩ := (y i B2 H' e2 S2.st.sub).1 xs[i] (List.getElem?_eq_getElem hlt)
    refine .inr ⟨go, fun σ'' H'' => ∃ G3 B3, I (i + 1) G3 ∧ Sta B0 H0 B3 H'' σ'' G3 ∧ Same B B3, fun σ'' H'' ⟨G3, B3, h1, h2, h3⟩ => ⟨xs.length - (i + 1), by omega, rfl, hlt, G3, B3, h1, h2, h3⟩, fun x H3 hy => ?_⟩
    obtain ⟨B3, st, ax⟩ := yl x H3 hy
    refine turn i xs[i] G2 (List.getElem?_eq_getElem hlt) hI B0 H0 B3 H3 σ' (S2.step st) x ax _ fun G4 B4 H4 σ4 ht S4 e4 => ht B0 H0 B4 H4 σ4 S4 _ ⟨fun G5 B5 H5 σ5 k S5 e5 => ?_, w.rt, fun G5 B5 H5 σ5 k S5 e5 => ?_, fun G5 B5 H5 σ5 k S5 e5 => ?_⟩
    · exact ⟨G5, B5, k, S5, e2.trans (st.eB.trans (e4.trans e5))⟩
    · exact w.nx G5 B5 H5 σ5 k S5 (e2.trans (st.eB.trans (e4.trans e5)))
    · exact ⟨G5, B5, k, S5, e2.trans (st.eB.trans (e4.trans e5))⟩
  · have e : i = xs.length := by omega
    subst e
    exact .inl ⟨(y xs.length B2 H' e2 S2.st.sub).2 rfl, w.nx G2 B2 H' σ' (fin G2 hI) S2 e2⟩
theorem yld_en {B : Hp} {p : Addr} {vs : List V} {ds : List Dat} (h1 : B p = some (.lst vs)) (h2 : Ats B vs ds) : Yld (Ite K p) B (enumD ds) := fun i C1 C e1 e2 => by
  have hH := e2 _ _ (e1 _ _ h1)
  refine ⟨fun d hd => ?_, fun hl => ⟨vs, SqL.of hH, by rw [h2.len, ← enumD_len, hl]; exact Nat.le_refl _⟩⟩
  rw [enumD_get] at hd
  obtain ⟨d0, hd0, rfl⟩ := Option.map_eq_some_iff.mp hd
  obtain ⟨v, hv, av⟩ := h2.get hd0
  refine ⟨⟨vs, v, SqL.of hH, hv⟩, fun x H2 ⟨T, y, ex, hT, eH, hy⟩ => ?_⟩
  have := hy vs (SqL.of hH)
  rw [hv] at this
  cases this
  subst ex eH
  exact ⟨_, step_pair e2 hT (At.int _) (av.mono e1)⟩
theorem seq_at {te : TE} {u : TS} {i : Nat} {D : Ends} {σ : L2.St} {H : Hp} (M : V → Hp → Prop) (h : ∀ Q : VK, (∀ x H1, M x H1 → Q x H1) → te σ H Q) (k : ∀ x H1, M x H1 → u D (σ.set i (some x)) H1) : tSeq (tAsg te (gName i)) u D σ H := h _ k
def eB : Hp := fun _ => none
theorem cal__law_cells (T : Tx K mg) : Cal P w K mg base 1 "_law_cells" ["_law_script", "_law_top_so"] (spC K) := by
  have z_enumerate := T.z_enumerate
  have z_int := T.z_int
  have z_list := T.z_list
  refine T.d__law_cells.cal sc__law_cells (fun vs H Q E h => len__law_cells h) fun f cdv A outer s H vs Q E hr hs => ⟨_, (pss_cons (ps_set (i := 2) sc__law_cells.nd rfl (Or.inl rfl) (pe_orT (pe_callTy (crListK (K := K) rfl) (by rfl) z_list (by decide +kernel) (pa_cons (pe_slice (slK (K := K) rfl) (pv 0) po_none (po_some (pv 1))) pa_nil)) (pe_one (pe_lst (pa_cons pe_int pa_nil)))))
    (pss_cons (ps_for PassesOwn.never rfl (pi_enumK (K := K) rfl (by rfl) z_enumerate (pa_cons (pe_slice (slK (K := K) rfl) (pv 0) (po_some (pv 1)) (po_some pe_int)) pa_nil)) (pg_tupK (K := K) (n := 2) rfl rfl (pgs_cons (pg_name (i := 3) sc__law_cells.nd rfl (Or.inl rfl)) (pgs_cons (pg_name (i := 4) sc__law_cells.nd rfl (Or.inl rfl)) pgs_nil)))
    (pss_cons (ps_set (i := 5) sc__law_cells.nd rfl (Or.inl rfl) (pe_op op_mod (pe_callTy (crInt) (by rfl) z_int (by decide +kernel) (pa_cons (pv 3) pa_nil)) (pv 1)))
    (pss_one (ps_asg (pe_op (op_addK (K := K) rfl) (pe_ix (ix_seqK (K := K) rfl) (pv 2) (pv 5) (fun _ _ => rfl)) (pe_op (op_mulK (K := K) rfl) (pv 4) (pe_op (op_addK (K := K) rfl) (pv 3) pe_int))) (pg_sub (pv 2) (pv 5) set_list)))))
    (pss_one (ps_ret (pv 2))))), ?_⟩
  obtain ⟨a, ns, rfl, hS, h63, hQ⟩ := hs
  have sub0 : Same eB H := fun b u q => nomatch q
  have S0 : Sta eB H eB H (L2.start n__law_cells [.ref a, .int 1]) [.un, .dat (.int 1), .un, .un, .un, .un] := by
    refine ⟨Step.refl sub0, rfl, fun i s e => ?_, fun i j p ds es ei ej => ?_⟩
    · rcases i with _ | _ | _ | _ | _ | _ | i
      · cases e; trivial
      · cases e; exact ⟨_, rfl, .int 1⟩
      · cases e; trivial
      · cases e; trivial
      · cases e; trivial
      · cases e; trivial
      · cases e
    · rcases i with _ | _ | _ | _ | _ | _ | i <;> cases ei
  have e1 : ∀ n : Int, Ats eB [.int n] [.int n] := fun n => .cons (.int n) .nil
  refine seq_at (M := fun x H1 => ∃ p, x = .ref p ∧ Sta eB H eB H1 ((L2.start n__law_cells [.ref a, .int 1]).set 2 (some (.ref p))) [.un, .dat (.int 1), .own p [.int (ns.headD 0)], .un, .un, .un]) (fun Q' q => ?_) ?_
  · refine ⟨_, rfl, _, rfl, _, rfl, .inl ⟨a, _, rfl, hS, fun p hp => ⟨p, _, rfl, .inl (SqL.of upd_same), fun l hl => ?_⟩⟩⟩
    have S1 := S0.step (Step.aside S0.st.sub hp (o := .lst (cutV (ns.map V.int) none (some 1))))
    have S2 := S1.step (Step.aside S1.st.sub hl (o := .lst (cutV (ns.map V.int) none (some 1))))
    cases ns with
    | nil =>
      refine ⟨false, .inl ⟨_, SqL.of upd_same, rfl⟩, ?_⟩
      rw [if_neg (by decide)]
      refine ⟨by show 1 ≤ sizeLine; decide, fun p2 hp2 => q _ _ ⟨p2, rfl, ?_⟩⟩
      have S3 := S2.step (Step.aside S2.st.sub hp2 (o := .lst [.int 0]))
      exact S3.setN (AtV.aside S2 hp2 (e1 0)) 2
    | cons n ns =>
      have ec : cutV ((n :: ns).map V.int) none (some 1) = [V.int n] := cutV1 (n :: ns)
      refine ⟨true, .inl ⟨_, SqL.of upd_same, ?_⟩, ?_⟩
      · rw [ec]
        rfl
      · rw [if_pos rfl]
        refine q _ _ ⟨l, rfl, ?_⟩
        have aa := AtV.aside (vs := cutV ((n :: ns).map V.int) none (some 1)) (ds := [.int n]) S1 hl (by rw [ec]; exact e1 n)
        exact S2.setN aa 2
  rintro _ H1 ⟨p, rfl, S⟩
  refine .inl ⟨_, rfl, _, rfl, _, rfl, _, rfl, .inl ⟨a, _, rfl, S.st.eH.seq hS, fun s hs => ⟨s, _, rfl, SqL.of upd_same, ?_⟩⟩⟩
  obtain ⟨cs, hcs⟩ : ∃ cs, cs = (ns.drop 1).take 62 := ⟨_, rfl⟩
  have ec : cutV (ns.map V.int) (some 1) (some 63) = cs.map V.int := by rw [hcs]; exact cutV2 ns
  have S4 := S.step (Step.laid S.st.sub hs (o := .lst (cutV (ns.map V.int) (some 1) (some 63))))
  have y := yld_en (K := K) (B := upd eB s (.lst (cutV (ns.map V.int) (some 1) (some 63)))) (ds := cs.map Dat.int) upd_same (by rw [ec]; exact Ats.ints cs)
  refine for_at S4 y (fun i G => ∃ x y z : Sd, G = [.un, .dat (.int 1), .own p [.int (cellAcc (ns.headD 0) cs i)], x, y, z]) ⟨.un, .un, .un, rfl⟩ (fun i d G hd hG => ?_) (C := { nx := fun G => ∃ x y z : Sd, G = [.un, .dat (.int 1), .own p [.int (cellsOf ns)], x, y, z], rt := fun _ _ => False }) (fun G hG => ?_) ⟨fun G' B' H' σ' hG S' _ => ?_, fun _ _ _ _ _ _ z => z.elim, fun _ _ _ _ z => z.elim, fun _ _ _ _ z => z.elim⟩
  · obtain ⟨x, y, z, rfl⟩ := hG
    obtain ⟨c, hc, rfl⟩ := enumG hd
    have hi := ltOf hc
    have hl62 : cs.length ≤ 62 := by
      rw [hcs, List.length_take]
      omega
    refine gw_two (tr_seq (tr_set (ev_mod (ev_intI (ev_var rfl ⟨_, rfl, ev_var rfl ⟨_, _, rfl, rfl, by decide, ?_⟩⟩)))))
    have e0 : (i : Int) % 1 = 0 := Int.emod_one _
    rw [e0]
    refine tr_asg (ev_add (ev_ix (ev_varM rfl (ev_var rfl ⟨_, _, _, .inr (.inr (.inl ⟨_, 2, rfl, rfl⟩)), rfl, rfl, ev_mulY (ev_var rfl (ev_add (ev_var rfl (ev_int ⟨_, _, rfl, rfl, _, _, rfl, rfl, .inr ⟨by omega, by omega⟩, _, _, rfl, rfl, _, rfl, ?_⟩))))⟩))))
    refine gw_sub ⟨_, _, rfl⟩ (ev_var rfl ⟨_, _, _, 0, rfl, rfl, rfl, .dat (.int i), .dat (.int c), .dat (.int 0), ?_⟩)
    have e2 : cellAcc (ns.headD 0) cs (i + 1) = cellAcc (ns.headD 0) cs i + c * ((i : Int) + 2) := by
      show cellAcc (ns.headD 0) cs i + cs.getD i 0 * ((i : Int) + 2) = _
      rw [getD_of hc]
    rw [e2]
    rfl
  · obtain ⟨x, y, z, rfl⟩ := hG
    refine ⟨x, y, z, ?_⟩
    rw [enumD_len, List.length_map]
    unfold cellsOf
    rw [← hcs]
  · obtain ⟨x, y, z, rfl⟩ := hG
    obtain ⟨h1, _, _, xs, h2, h3⟩ := S'.ok 2 _ rfl
    cases h3 with
    | cons h3 h4 =>
      cases h4
      cases h3
      exact ⟨_, h1, hQ _ _ S'.st.eH h2⟩
/-- what law(script) promises: True -/
def spLaw (K : PySem.W.Frag) : Sp := fun vs H Q _ => ∃ (a : Addr) (ns : List Int), vs = [.ref a] ∧ SqL K H a (ns.map V.int) ∧ ns.length ≤ 63 ∧ ∀ H', Q (.bl true) H'
theorem len_law {vs : List V} {H : Hp} {Q : VK} {E : XK} (h : spLaw K vs H Q E) : vs.length = 1 := by
  obtain ⟨a, ns, rfl, _⟩ := h
  rfl
theorem fn_law (T : Tx K mg) (C__law_right : Cal P w K mg base 12 "_law_right" ["_law_urn"] (spU 300 Pre__law_right R__law_right)) (C__law_box : Cal P w K mg base 1 "_law_box" ["_law_script", "_law_k"] (spP R__law_box)) (C__law_cells : Cal P w K mg base 1 "_law_cells" ["_law_script", "_law_top_so"] (spC K)) (C__law_by_hand_right : Cal P w K mg base 12 "_law_by_hand_right" [] (spP R__law_by_hand_right)) {f : Addr} {fd : FuncData} (F : FunD K "law" "law" (defArgs s_law) (defBody s_law) (defScope s_law) [] [] f fd) : FnOk P w K mg base CX0 13 f fd ["_law_script"] (spLaw K) := by
  have C__law_right := C__law_right.mono (show 12 ≤ 12 by decide)
  have C__law_box := C__law_box.mono (show 1 ≤ 12 by decide)
  have C__law_cells := C__law_cells.mono (show 1 ≤ 12 by decide)
  have C__law_by_hand_right := C__law_by_hand_right.mono (show 12 ≤ 12 by decide)
  refine F.ok sc_law (fun vs H Q E h => len_law h) fun cdv A outer s H vs Q E hr hs => ⟨_, PSs.nox ((pss_one (ps_ret (pe_and (pe_callC0 C__law_by_hand_right hr rfl) (pe_one (pe_callC C__law_right hr rfl (pa_cons (pe_callC C__law_box hr rfl (pa_cons (pe_callC C__law_cells hr rfl (pa_cons (pv 0) (pa_cons pe_int pa_nil))) (pa_cons pe_int pa_nil))) pa_nil))))))), ?_⟩
  obtain ⟨a, ns, rfl, hS, h63, hQ⟩ := hs
  have sub : ∀ H : Hp, Same eB H := fun H b u q => nomatch q
  refine ⟨eB, [], .bl true, sub _, .nil, .mk, fun v B' H1 st av => ?_⟩
  have ev : v = .bl true := by
    cases (show At B' v (.bl true) from av)
    rfl
  subst ev
  refine ⟨true, rfl, ?_⟩
  rw [if_pos rfl]
  refine ⟨_, rfl, a, ns, rfl, st.eH.seq hS, h63, fun l H2 s2 hl => ?_⟩
  refine ⟨fun b => if b = l then some (.lst [.int (cellsOf ns)]) else none, [.lst [.int (cellsOf ns)], .int 0], _, fun b u q => ?_, .cons (.lst (if_pos rfl) (.cons (.int _) .nil)) (.cons (.int 0) .nil), .mk (cellsOf ns), fun v B3 H3 st3 av3 => ?_⟩
  · dsimp only at q
    by_cases hb : b = l
    · subst hb
      rw [if_pos rfl] at q
      rw [hl]
      exact q
    · rw [if_neg hb] at q
      cases q
  obtain ⟨u, xs, rfl, h1, h2⟩ := At.lst_inv av3
  have h2' : xs = [V.int (iabs (cellsOf ns) * (if 1000000000000000000 ≤ iabs (cellsOf ns) then 1 else 0)), V.int (cellsOf ns % 2305843009213693951 + 39373 * 0 + 95603), V.int 0] := Ats.ints_inv (ns := [_, _, _]) h2
  subst h2'
  refine ⟨eB, u, [], [], _, _, _, rfl, sub _, rfl, st3.sub _ _ h1, Int.le_refl 0, by decide, .nil, .mk, fun d v B4 H4 a' b' c' r st4 _ _ _ _ av4 => ?_⟩
  cases r
  cases (show At B4 v (.bl true) from av4)
  exact hQ _
theorem cal__law_lifted (T : Tx K mg) : Cal P w K mg base 1 "_law_lifted" ["_law_fill_so", "_law_held_so", "_law_beat_so", "_law_loose_so", "_law_leaks_so"] (spP R__law_lifted) := by
  have z_enumerate := T.z_enumerate
  have z_int := T.z_int
  have z_max := T.z_max
  have z_min := T.z_min
  refine T.d__law_lifted.cal sc__law_lifted (spP_len fun ds d h => by cases h <;> rfl) fun f cdv A outer s H vs Q E hr hs => ⟨_, (pss_cons (ps_par (i := 5) (j := 6) rfl sc__law_lifted.nd rfl rfl (by decide) rfl rfl (pa_cons (pe_op op_sub pe_int (pe_op op_mod (pe_callTy (crInt) (by rfl) z_int (by decide +kernel) (pa_cons (pv 2) pa_nil)) pe_int)) (pa_cons (pe_lst pa_nil) pa_nil)) (by rfl))
    (pss_cons (ps_for PassesOwn.never rfl (pi_enumK (K := K) rfl (by rfl) z_enumerate (pa_cons (pv 0) pa_nil)) (pg_tupK (K := K) (n := 2) rfl rfl (pgs_cons (pg_name (i := 7) sc__law_lifted.nd rfl (Or.inl rfl)) (pgs_cons (pg_name (i := 8) sc__law_lifted.nd rfl (Or.inl rfl)) pgs_nil)))
    (pss_cons (ps_set (i := 9) sc__law_lifted.nd rfl (Or.inl rfl) (pe_and (pe_cmpR (op_eqK (K := K) rfl hr.units) (pe_ix (ix_seqK (K := K) rfl) (pv 8) pe_int (fun _ _ => rfl)) (pv 5) (nomark _)) (pe_one (pe_cmpR (op_niK (K := K) rfl) (pv 7) (pv 3) (by rfl)))))
    (pss_one (ps_expr (pe_bm PySem.F.plainAttrs_list PySem.F.slot_list_append PySem.F.type_list_append mt_append (pv 6) (pa_cons (pe_ifExp (pt_val (pv 9)) (pe_callB (crMax2 rfl) (by rfl) z_max (by decide +kernel) (pa_cons pe_int (pa_cons (pe_op op_sub (pe_callB (crMin2 rfl) (by rfl) z_min (by decide +kernel) (pa_cons (pe_ix (ix_seqK (K := K) rfl) (pv 8) pe_int (fun _ _ => rfl)) (pa_cons (pe_ix (ix_seqK (K := K) rfl) (pv 1) (pv 7) (fun _ _ => rfl)) pa_nil))) (pe_ix (ix_seqK (K := K) rfl) (pv 4) (pv 7) (fun _ _ => rfl))) pa_nil))) pe_int) pa_nil))))))
    (pss_one (ps_ret (pv 6))))), fn_P (R := R__law_lifted) ?_ hs⟩
  rintro _ _ ⟨ws, held, made, hl, hz⟩
  show Tr _ ([.dat (watD ws), .dat (intsT held), .dat (.int made), .dat (.tup []), .dat (intsL (zeros ws.length)), .un, .un, .un, .un, .un] : Env) _
  refine tr_seq (tr_par (av_cons (ev_sub (ev_int (ev_mod (ev_intI (ev_var rfl ⟨_, rfl, ev_int ⟨_, _, rfl, rfl, by decide, _, _, rfl, rfl, av_cons (ev_lstN (av_nil ⟨[], rfl, Nat.le_of_ble_eq_true rfl, fun p => av_nil ⟨_, _, rfl, ?_⟩⟩))⟩⟩)))))))
  have er : 1 - made % 2 = rise made := by
    unfold rise
    split <;> omega
  rw [er]
  show Tr _ ([.dat (watD ws), .dat (intsT held), .dat (.int made), .dat (.tup []), .dat (intsL (zeros ws.length)), .dat (.int (rise made)), .own p [], .un, .un, .un] : Env) _
  refine tr_seq (tr_for (sr_enT (ev_var rfl ⟨_, rfl, ?_⟩)))
  refine ⟨fun i G => ∃ a b c, G = [.dat (watD ws), .dat (intsT held), .dat (.int made), .dat (.tup []), .dat (intsL (zeros ws.length)), .dat (.int (rise made)), .own p (((lifts ws held made).take i).map Dat.int), a, b, c], ⟨.un, .un, .un, rfl⟩, fun i d G hd hG => ?_, fun G hG => ?_⟩
  · obtain ⟨a, b, c, rfl⟩ := hG
    obtain ⟨own, ho, rfl⟩ := enumG hd
    obtain ⟨h, hh⟩ := getOf (xs := held) (i := i) (by rw [hl]; exact ltOf ho)
    have hz' : (zeros ws.length)[i]? = some 0 := by
      unfold zeros
      rw [List.getElem?_replicate, if_pos (ltOf ho)]
    have key : (lifts ws held made)[i]? = some (lift1 made own h) := zipG ho hh
    refine gw_two ?_
    refine tr_seq (tr_set (ev_andJ (decide (own.rod = rise made)) ?_))
    walk_at "go"
    refine ⟨fun e => ?_, fun e => e, ?_⟩
    · walk_at "go"
      exact ⟨by rw [e], rfl⟩
    · refine tr_app ⟨_, _, rfl⟩ (ev_ifJ (.int (lift1 made own h)) ?_)
      walk_at "go"
      refine ⟨fun e => ?_, fun e => ?_, ?_⟩
      · have e' : own.rod = rise made := of_decide_eq_true e
        walk_at "go"
        refine ⟨?_, rfl⟩
        unfold lift1
        rw [if_pos e', Int.sub_zero]
        rfl
      · have e' : ¬ own.rod = rise made := of_decide_eq_false e
        walk_at "go"
        refine ⟨?_, rfl⟩
        unfold lift1
        rw [if_neg e']
        rfl
      · refine ⟨_, _, _, rfl, rfl, ?_, _, _, _, congrArg (fun z => _ :: _ :: _ :: _ :: _ :: _ :: Sd.own p z :: _) (takeM key)⟩
        rw [List.length_map, List.length_take]
        have := ltOf ho
        omega
  · obtain ⟨a, b, c, rfl⟩ := hG
    refine tr_freeze (i := 6) rfl (tr_ret (ev_var rfl ⟨_, rfl, ?_⟩))
    have e : (enumD (ws.map Cist.d)).length = (lifts ws held made).length := by
      rw [enumD_len, List.length_map, lifts, List.length_zipWith, hl, Nat.min_self]
    show Dat.lst _ = intsL _
    rw [e, takeA]
    rfl
theorem cal__law_load (T : Tx K mg) : Cal P w K mg base 1 "_law_load" ["_law_fill_so", "_law_lifted_so"] (spP R__law_load) := by
  have z_enumerate := T.z_enumerate
  have z_len := T.z_len
  refine T.d__law_load.cal sc__law_load (spP_len fun ds d h => by cases h <;> rfl) fun f cdv A outer s H vs Q E hr hs => ⟨_, (pss_cons (ps_set (i := 2) sc__law_load.nd rfl (Or.inl rfl) pe_int)
    (pss_cons (ps_for PassesOwn.never rfl (pi_enumK (K := K) rfl (by rfl) z_enumerate (pa_cons (pv 0) pa_nil)) (pg_tupK (K := K) (n := 2) rfl rfl (pgs_cons (pg_name (i := 3) sc__law_load.nd rfl (Or.inl rfl)) (pgs_cons (pg_name (i := 4) sc__law_load.nd rfl (Or.inl rfl)) pgs_nil)))
    (pss_cons (ps_set (i := 5) sc__law_load.nd rfl (Or.inl rfl) (pe_ifExp (pt_cmpR op_lt (pe_op (op_addK (K := K) rfl) (pv 3) pe_int) (pe_callB (crLenK (K := K) rfl) (by rfl) z_len (by decide +kernel) (pa_cons (pv 0) pa_nil)) (nomark _)) (pe_ix (ix_seqK (K := K) rfl) (pe_ix (ix_seqK (K := K) rfl) (pv 0) (pe_op (op_addK (K := K) rfl) (pv 3) pe_int) (fun _ _ => rfl)) pe_int (fun _ _ => rfl)) pe_int))
    (pss_one (ps_set (i := 2) sc__law_load.nd rfl (Or.inl rfl) (pe_op (op_addK (K := K) rfl) (pv 2) (pe_op (op_mulK (K := K) rfl) (pe_ix (ix_seqK (K := K) rfl) (pv 1) (pv 3) (fun _ _ => rfl)) (pe_op op_sub (pe_ix (ix_seqK (K := K) rfl) (pv 4) pe_int (fun _ _ => rfl)) (pv 5))))))))
    (pss_one (ps_ret (pv 2))))), fn_P (R := R__law_load) ?_ hs⟩
  rintro _ _ ⟨ws, lf, hl, hz, lv⟩
  show Tr _ ([.dat (watD ws), .dat (intsL lf), .un, .un, .un, .un] : Env) _
  refine tr_seq (tr_set (ev_int ?_))
  refine tr_seq (tr_for (sr_enT (ev_var rfl ⟨_, rfl, ?_⟩)))
  refine ⟨fun i G => ∃ a b c, G = [.dat (watD ws), .dat (intsL lf), .dat (.int ((List.zipWith (· * ·) lf (heights ws)).take i).sum), a, b, c], ⟨.un, .un, .un, rfl⟩, fun i d G hd hG => ?_, fun G hG => ?_⟩
  · obtain ⟨a, b, c, rfl⟩ := hG
    obtain ⟨own, ho, rfl⟩ := enumG hd
    have hi := ltOf ho
    obtain ⟨f, hf⟩ := getOf (xs := lf) (i := i) (by rw [hl]; exact ltOf ho)
    obtain ⟨x, hx⟩ := getOf (xs := ws.map Cist.level ++ [0]) (i := i) (by simp; omega)
    obtain ⟨y, hy⟩ := getOf (xs := ws.map Cist.level ++ [0]) (i := i + 1) (by simp; omega)
    have ex : x = own.level := by
      rw [List.getElem?_append_left (by simp; omega), List.getElem?_map, ho] at hx
      exact (Option.some.inj hx).symm
    have hh : (heights ws)[i]? = some (own.level - y) := by
      unfold heights
      rw [List.getElem?_map, List.getElem?_range (by omega), Option.map_some, getD_of hx, getD_of hy, ex]
    have bd := heights_bd lv hh
    refine gw_two (tr_seq (tr_set (ev_ifJ (.int y) (tt_T (ev_lt (ev_add (ev_var rfl (ev_int ⟨_, _, rfl, rfl, ev_len (ev_var rfl ⟨_, .inl rfl, _, _, rfl, rfl, _, rfl, fun e => ?_, fun e => ?_, ?_⟩)⟩))))))))
    · have e' : (i : Int) + 1 < ((ws.map Cist.d).length : Int) := of_decide_eq_true e
      rw [List.length_map] at e'
      obtain ⟨nx, hn⟩ := getOf (xs := ws) (i := i + 1) (by omega)
      refine ev_ix (ev_ix (ev_var rfl (ev_add (ev_var rfl (ev_int ⟨_, _, rfl, rfl, _, _, _, .inl rfl, rfl, atM' hn rfl, ev_int ⟨_, _, _, .inl rfl, rfl, rfl, ?_, rfl⟩⟩)))))
      rw [List.getElem?_append_left (by simp; omega), List.getElem?_map, hn] at hy
      rw [← Option.some.inj hy]
    · have e' : ¬ (i : Int) + 1 < ((ws.map Cist.d).length : Int) := of_decide_eq_false e
      rw [List.length_map] at e'
      refine ev_int ⟨?_, rfl⟩
      rw [List.getElem?_append_right (by simp; omega)] at hy
      have : i + 1 - (ws.map Cist.level).length = 0 := by
        rw [List.length_map]
        omega
      rw [this] at hy
      rw [← Option.some.inj hy]
    · refine tr_set (ev_add (ev_var rfl (ev_mulY (ev_ix (ev_var rfl (ev_var rfl ⟨_, _, _, .inr (.inl rfl), rfl, atM hf, ev_sub (ev_ix (ev_var rfl (ev_int ⟨_, _, _, .inl rfl, rfl, rfl, ev_var rfl ⟨_, _, rfl, rfl, _, _, rfl, rfl, .inr ⟨by omega, by omega⟩, _, _, rfl, rfl, ?_⟩⟩)))⟩))))))
      refine ⟨.dat (.int i), .dat own.d, .dat (.int y), congrArg (fun z => _ :: _ :: Sd.dat (Dat.int z) :: _) ?_⟩
      rw [takeS (zipG hf hh), List.sum_append, List.sum_cons, List.sum_nil, Int.add_zero]
  · obtain ⟨a, b, c, rfl⟩ := hG
    refine tr_ret (ev_var rfl ⟨_, rfl, ?_⟩)
    have e : (enumD (ws.map Cist.d)).length = (List.zipWith (· * ·) lf (heights ws)).length := by
      rw [enumD_len, List.length_map, List.length_zipWith, hl, heights_len, Nat.min_self]
    show Dat.int (List.take _ _).sum = _
    rw [e, takeA]
theorem cal__law_is_wet (T : Tx K mg) : Cal P w K mg base 1 "_law_is_wet" ["_law_mine_so", "_law_held_so", "_law_level_so"] (spP R__law_is_wet) := by
  refine T.d__law_is_wet.cal sc__law_is_wet (spP_len fun ds d h => by cases h <;> rfl) fun f cdv A outer s H vs Q E hr hs => ⟨_, (pss_one (ps_ret (pe_cmpR op_ge (pe_ix (ix_seqK (K := K) rfl) (pv 1) pe_int (fun _ _ => rfl)) (pe_op (op_mulK (K := K) rfl) (pe_ix (ix_seqK (K := K) rfl) (pv 0) pe_int (fun _ _ => rfl)) (pe_op (op_addK (K := K) rfl) (pe_op op_sub (pe_ix (ix_seqK (K := K) rfl) (pe_ix (ix_seqK (K := K) rfl) (pv 0) pe_int (fun _ _ => rfl)) pe_int (fun _ _ => rfl)) (pv 2)) pe_int)) (nomark _)))), fn_P (R := R__law_is_wet) ?_ hs⟩
  rintro _ _ ⟨m, held, level, o, h1, h2, h3⟩
  show Tr _ ([.dat (mineD m), .dat (intsT held), .dat (.int level)] : Env) _
  obtain ⟨x, hx⟩ := getOf (xs := held) (i := 0) h3
  have := o.d1
  have := o.d2
  have := o.p1
  have := o.p2
  refine tr_ret ?_
  walk_at "go"
  refine ⟨.inr ⟨by omega, by omega⟩, ?_⟩
  walk_at "go"
  show Dat.bl (decide (mark m level ≤ x)) = _
  rw [getD_of hx]
theorem loads_snoc (m : Mine) (i : Nat) : loadsOf m (i + 1) = loadsOf m i ++ [weight m.ws (rowAt m i).held (rowAt m i).made] := by
  unfold loadsOf
  rw [List.range_succ, List.map_append]
  rfl
theorem loads_len (m : Mine) (i : Nat) : (loadsOf m i).length = i := by
  unfold loadsOf
  rw [List.length_map, List.length_range]
theorem loads_last (m : Mine) (i : Nat) : atI ((loadsOf m (i + 1)).map Dat.int) (-1) = some (.int (weight m.ws (rowAt m i).held (rowAt m i).made)) := by
  refine atLast ?_
  rw [loads_snoc, List.map_append, List.getLast?_append]
  rfl
theorem missed_snoc (m : Mine) (i : Nat) : missedOf m (i + 1) = missedOf m i ++ (if moves m (rowAt m i) then [] else [(i : Int)]) := by
  unfold missedOf
  rw [List.range_succ, List.filter_append, List.map_append]
  congr 1
  cases h : moves m (rowAt m i) with
  | true =>
    rw [List.filter_cons_of_neg (by rw [h]; decide)]
    rfl
  | false =>
    rw [List.filter_cons_of_pos (by rw [h]; decide)]
    rfl
theorem missed_len (m : Mine) (i : Nat) : (missedOf m i).length ≤ i := by
  unfold missedOf
  rw [List.length_map]
  have := List.length_filter_le (fun k => !moves m (rowAt m k)) (List.range i)
  rw [List.length_range] at this
  exact this
theorem cal__law_lone (T : Tx K mg) (C__law_flow : Cal P w K mg base 1 "_law_flow" ["_law_fill_so", "_law_held_so", "_law_lifted_so", "_law_odd_so"] (spP R__law_flow)) (C__law_load : Cal P w K mg base 1 "_law_load" ["_law_fill_so", "_law_lifted_so"] (spP R__law_load)) (C__law_lifted : Cal P w K mg base 1 "_law_lifted" ["_law_fill_so", "_law_held_so", "_law_beat_so", "_law_loose_so", "_law_leaks_so"] (spP R__law_lifted)) : Cal P w K mg base 2 "_law_lone" ["_law_mine_so", "_law_many_so"] (spP R__law_lone) := by
  have z_len := T.z_len
  have z_min := T.z_min
  have z_range := T.z_range
  have z_tuple := T.z_tuple
  have C__law_flow := C__law_flow.mono (show 1 ≤ 1 by decide)
  have C__law_load := C__law_load.mono (show 1 ≤ 1 by decide)
  have C__law_lifted := C__law_lifted.mono (show 1 ≤ 1 by decide)
  refine T.d__law_lone.cal sc__law_lone (spP_len fun ds d h => by cases h <;> rfl) fun f cdv A outer s H vs Q E hr hs => ⟨_, (pss_cons (ps_par (i := 2) (j := 3) rfl sc__law_lone.nd rfl rfl (by decide) rfl rfl (pa_cons (pe_ix (ix_seqK (K := K) rfl) (pv 0) pe_int (fun _ _ => rfl)) (pa_cons (pe_ix (ix_seqK (K := K) rfl) (pv 0) pe_int (fun _ _ => rfl)) pa_nil)) (by rfl))
    (pss_cons (ps_set (i := 4) sc__law_lone.nd rfl (Or.inl rfl) (pe_op (op_mulK (K := K) rfl) (pe_lst (pa_cons pe_int pa_nil)) (pe_callB (crLenK (K := K) rfl) (by rfl) z_len (by decide +kernel) (pa_cons (pv 2) pa_nil))))
    (pss_cons (ps_par3 (i := 5) (j := 6) (l := 7) rfl sc__law_lone.nd rfl rfl rfl (by decide) (by decide) (by decide) rfl rfl rfl (pa_cons pe_int (pa_cons (pe_callTy (crTupK (K := K) rfl) (by rfl) z_tuple (by decide +kernel) (pa_cons (pv 4) pa_nil)) (pa_cons (pe_ifExp (pt_cmpR op_isN (pv 3) pe_non (nomark _)) pe_int (pe_ix (ix_seqK (K := K) rfl) (pv 3) pe_int (fun _ _ => rfl))) pa_nil))) (by rfl))
    (pss_cons (ps_par3 (i := 8) (j := 9) (l := 10) rfl sc__law_lone.nd rfl rfl rfl (by decide) (by decide) (by decide) rfl rfl rfl (pa_cons (pe_lst (pa_cons (pe_tup (pa_cons (pv 5) (pa_cons (pv 6) (pa_cons (pv 7) pa_nil)))) pa_nil)) (pa_cons (pe_lst pa_nil) (pa_cons (pe_lst pa_nil) pa_nil))) (by rfl))
    (pss_cons (ps_for PassesOwn.never rfl (pi_range1 (by rfl) z_range (pa_cons (pv 1) pa_nil)) (pg_name (i := 11) sc__law_lone.nd rfl (Or.inl rfl))
    (pss_cons (ps_set (i := 12) sc__law_lone.nd rfl (Or.inl rfl) (pe_callC C__law_lifted hr rfl (pa_cons (pv 2) (pa_cons (pv 6) (pa_cons (pv 5) (pa_cons (pe_tup pa_nil) (pa_cons (pv 4) pa_nil)))))))
    (pss_cons (ps_expr (pe_bm PySem.F.plainAttrs_list PySem.F.slot_list_append PySem.F.type_list_append mt_append (pv 9) (pa_cons (pe_callC C__law_load hr rfl (pa_cons (pv 2) (pa_cons (pv 12) pa_nil))) pa_nil)))
    (pss_cons (ps_if (PW.pt (pw_and (pt_cmpR op_notN (pv 3) pe_non (nomark _)) (pw_and1 (pt_cmpR op_lt (pv 7) (pe_ix (ix_seqK (K := K) rfl) (pv 9) (pe_un un_neg pe_int) (fun _ _ => rfl)) (nomark _))))) (pss_cons (ps_expr (pe_bm PySem.F.plainAttrs_list PySem.F.slot_list_append PySem.F.type_list_append mt_append (pv 10) (pa_cons (pv 11) pa_nil)))
    (pss_one (ps_set (i := 6) sc__law_lone.nd rfl (Or.inl rfl) (pe_callC C__law_flow hr rfl (pa_cons (pv 2) (pa_cons (pv 6) (pa_cons (pv 4) (pa_cons (pe_cmpR (op_eqK (K := K) rfl hr.units) (pe_op op_mod (pv 11) pe_int) pe_int (nomark _)) pa_nil)))))))) (pss_cons (ps_par (i := 5) (j := 6) rfl sc__law_lone.nd rfl rfl (by decide) rfl rfl (pa_cons (pe_op (op_addK (K := K) rfl) (pv 5) pe_int) (pa_cons (pe_callC C__law_flow hr rfl (pa_cons (pv 2) (pa_cons (pv 6) (pa_cons (pv 12) (pa_cons (pe_cmpR (op_eqK (K := K) rfl hr.units) (pe_op op_mod (pv 11) pe_int) pe_int (nomark _)) pa_nil))))) pa_nil)) (by rfl))
    (pss_one (ps_set (i := 7) sc__law_lone.nd rfl (Or.inl rfl) (pe_ifExp (pt_cmpR op_notN (pv 3) pe_non (nomark _)) (pe_op op_sub (pv 7) (pe_ix (ix_seqK (K := K) rfl) (pv 9) (pe_un un_neg pe_int) (fun _ _ => rfl))) pe_int)))))
    (pss_cons (ps_if (pt_cmpR op_notN (pv 3) pe_non (nomark _)) (pss_one (ps_set (i := 7) sc__law_lone.nd rfl (Or.inl rfl) (pe_callB (crMin2 rfl) (by rfl) z_min (by decide +kernel) (pa_cons (pe_ix (ix_seqK (K := K) rfl) (pv 3) pe_int (fun _ _ => rfl)) (pa_cons (pe_op (op_addK (K := K) rfl) (pv 7) (pe_ix (ix_seqK (K := K) rfl) (pe_ix (ix_seqK (K := K) rfl) (pv 3) pe_int (fun _ _ => rfl)) (pe_op op_mod (pv 11) (pe_callB (crLenK (K := K) rfl) (by rfl) z_len (by decide +kernel) (pa_cons (pe_ix (ix_seqK (K := K) rfl) (pv 3) pe_int (fun _ _ => rfl)) pa_nil))) (fun _ _ => rfl))) pa_nil))))) pss_nil)
    (pss_one (ps_expr (pe_bm PySem.F.plainAttrs_list PySem.F.slot_list_append PySem.F.type_list_append mt_append (pv 8) (pa_cons (pe_tup (pa_cons (pv 5) (pa_cons (pv 6) (pa_cons (pv 7) pa_nil)))) pa_nil)))))))))
    (pss_one (ps_ret (pe_tup (pa_cons (pv 8) (pa_cons (pv 9) (pa_cons (pe_callTy (crTupK (K := K) rfl) (by rfl) z_tuple (by decide +kernel) (pa_cons (pv 10) pa_nil)) pa_nil))))))))))), fn_P (R := R__law_lone) ?_ hs⟩
  rintro _ _ ⟨m, n, o, hn⟩
  show Tr _ ([.dat (mineD m), .dat (.int n), .un, .un, .un, .un, .un, .un, .un, .un, .un, .un, .un] : Env) _
  refine tr_seq (tr_par ?_)
  walk_at "go"
  show Tr _ ([.dat (mineD m), .dat (.int n), .dat (watD m.ws), .dat (engD m.eng), .un, .un, .un, .un, .un, .un, .un, .un, .un] : Env) _
  refine tr_seq (tr_set (ev_repL (ev_lst (av_cons (ev_int (av_nil ⟨[_], rfl, Nat.le_of_ble_eq_true rfl, ev_len (ev_var rfl ⟨_, .inl rfl, _, m.ws.length, rfl, by rw [List.length_map], by decide, o.w2, ?_⟩)⟩))))))
  rw [zeros_flat]
  show Tr _ ([.dat (mineD m), .dat (.int n), .dat (watD m.ws), .dat (engD m.eng), .dat (intsL (zeros m.ws.length)), .un, .un, .un, .un, .un, .un, .un, .un] : Env) _
  refine tr_seq (tr_par3 (av_cons (ev_int (av_cons (ev_tuple (ev_var rfl ⟨_, .inr (.inl rfl), av_cons (ev_ifJ (.int (row0 m).steam) ?_)⟩))))))
  refine tt_T (ev_isN (ev_var rfl ⟨_, rfl, _, rfl, fun e => ?_, fun e => ?_, ?_⟩))
  · refine ev_int ⟨?_, rfl⟩
    unfold row0
    cases he : m.eng with
    | none => rfl
    | some e' =>
      rw [he] at e
      cases e
  · unfold row0
    cases he : m.eng with
    | none =>
      rw [he] at e
      cases e
    | some e' => exact ev_ix (ev_var rfl (ev_int ⟨_, _, _, .inl rfl, rfl, rfl, rfl, rfl⟩))
  refine av_nil ⟨_, _, _, rfl, ?_⟩
  show Tr _ ([.dat (mineD m), .dat (.int n), .dat (watD m.ws), .dat (engD m.eng), .dat (intsL (zeros m.ws.length)), .dat (.int (row0 m).made), .dat (intsT (row0 m).held), .dat (.int (row0 m).steam), .un, .un, .un, .un, .un] : Env) _
  refine tr_seq (tr_par3 (av_cons (ev_lstN (av_cons (ev_tup (av_cons (ev_var rfl (av_cons (ev_var rfl (av_cons (ev_var rfl (av_nil ⟨[_, _, _], rfl, Nat.le_of_ble_eq_true rfl, av_nil ⟨[_], rfl, Nat.le_of_ble_eq_true rfl, fun p => ?_⟩⟩))))))))))))
  refine av_cons (ev_lstN (av_nil ⟨[], rfl, Nat.le_of_ble_eq_true rfl, fun q => av_cons (ev_lstN (av_nil ⟨[], rfl, Nat.le_of_ble_eq_true rfl, fun s => av_nil ⟨_, _, _, rfl, ?_⟩⟩))⟩))
  show Tr _ ([.dat (mineD m), .dat (.int n), .dat (watD m.ws), .dat (engD m.eng), .dat (intsL (zeros m.ws.length)), .dat (.int (row0 m).made), .dat (intsT (row0 m).held), .dat (.int (row0 m).steam), .own p [(row0 m).d], .own q [], .own s [], .un, .un] : Env) _
  refine tr_seq (tr_for (sr_r1 (ev_var rfl ⟨_, rfl, by omega, by omega, ?_⟩)))
  refine ⟨fun i G => ∃ x y, G = [.dat (mineD m), .dat (.int n), .dat (watD m.ws), .dat (engD m.eng), .dat (intsL (zeros m.ws.length)), .dat (.int (rowAt m i).made), .dat (intsT (rowAt m i).held), .dat (.int (rowAt m i).steam), .own p ((rows m i).map Row.d), .own q ((loadsOf m i).map Dat.int), .own s ((missedOf m i).map Dat.int), x, y], ⟨.un, .un, rfl⟩, fun i d G hd hG => ?_, fun G hG => ?_⟩
  · obtain ⟨x, y, rfl⟩ := hG
    obtain ⟨k, hk, rfl⟩ := mapG hd
    obtain ⟨rfl, hi⟩ := rgG hk
    rw [Int.zero_add]
    obtain ⟨r, hr0⟩ : ∃ r, r = rowAt m i := ⟨_, rfl⟩
    have hl : r.held.length = m.ws.length := by rw [hr0]; exact rowAt_len m i
    have hll : (lifts m.ws r.held r.made).length = m.ws.length := lifts_len _ hl
    have hst : rowAt m (i + 1) = step m i r := by rw [hr0]; rfl
    have hld := loads_last m i
    have hls := loads_snoc m i
    have hms := missed_snoc m i
    rw [← hr0] at hld hls hms ⊢
    refine gw_name (tr_seq (tr_set (ev_call (av_cons (ev_var rfl (av_cons (ev_var rfl (av_cons (ev_var rfl (av_cons (ev_tup (av_nil ⟨[], rfl, Nat.le_of_ble_eq_true rfl, av_cons (ev_var rfl (av_nil ?_))⟩))))))))))))
    refine call_of (.mk m.ws r.held r.made hl o.w2) rfl ?_
    refine tr_seq (tr_app ⟨_, _, rfl⟩ (ev_call (av_cons (ev_var rfl (av_cons (ev_var rfl (av_nil ?_)))))))
    refine call_of (.mk m.ws (lifts m.ws r.held r.made) hll o.w2 o.lv) rfl ⟨_, _, _, rfl, rfl, ?_, ?_⟩
    · rw [List.length_map, loads_len]
      omega
    have e3 : (loadsOf m i).map Dat.int ++ [.int (List.zipWith (· * ·) (lifts m.ws r.held r.made) (heights m.ws)).sum] = (loadsOf m (i + 1)).map Dat.int := by
      rw [hls, List.map_append]
      rfl
    rw [e3]
    show Tr _ ([.dat (mineD m), .dat (.int n), .dat (watD m.ws), .dat (engD m.eng), .dat (intsL (zeros m.ws.length)), .dat (.int r.made), .dat (intsT r.held), .dat (.int r.steam), .own p ((rows m i).map Row.d), .own q ((loadsOf m (i + 1)).map Dat.int), .own s ((missedOf m i).map Dat.int), .dat (.int i), .dat (intsL (lifts m.ws r.held r.made))] : Env) _
    obtain ⟨s1, hs1⟩ : ∃ s1, s1 = (if m.eng.isNone then 0 else r.steam - (if moves m r then weight m.ws r.held r.made else 0)) := ⟨_, rfl⟩
    refine tr_mid (fun G => G = [.dat (mineD m), .dat (.int n), .dat (watD m.ws), .dat (engD m.eng), .dat (intsL (zeros m.ws.length)), .dat (.int (step m i r).made), .dat (intsT (step m i r).held), .dat (.int s1), .own p ((rows m i).map Row.d), .own q ((loadsOf m (i + 1)).map Dat.int), .own s ((missedOf m (i + 1)).map Dat.int), .dat (.int i), .dat (intsL (lifts m.ws r.held r.made))]) ?_ ?_
    · refine tr_ifJ (!moves m r) ?_ (fun e => ?_) (fun e => ?_)
      · refine tt_and (tt_T (ev_notN (ev_var rfl ⟨_, rfl, _, rfl, fun e => ?_, fun e => ?_⟩)))
        · refine tt_T (ev_lt (ev_var rfl (ev_ix (ev_varM rfl (ev_neg (ev_int ⟨_, rfl, _, _, _, .inr (.inr (.inl ⟨_, 9, rfl, rfl⟩)), rfl, hld, _, _, rfl, rfl, _, rfl, ?_, rfl⟩))))))
          cases he : m.eng with
          | none =>
            rw [he] at e
            cases e
          | some e' =>
            unfold moves
            rw [he]
            by_cases q : r.steam < weight m.ws r.held r.made
            · rw [decide_eq_true q, decide_eq_false (by omega)]
              rfl
            · rw [decide_eq_false q, decide_eq_true (by omega)]
              rfl
        · refine ⟨?_, rfl⟩
          cases he : m.eng with
          | none =>
            unfold moves
            rw [he]
            rfl
          | some e' =>
            rw [he] at e
            cases e
      · have hm : moves m r = false := by
          cases h : moves m r with
          | true =>
            rw [h] at e
            cases e
          | false => rfl
        have hn' : m.eng.isNone = false := by
          unfold moves at hm
          cases he : m.eng with
          | none =>
            rw [he] at hm
            cases hm
          | some e' => rfl
        refine tr_seq (tr_app ⟨_, _, rfl⟩ (ev_var rfl ⟨_, _, _, rfl, rfl, ?_, ?_⟩))
        · rw [List.length_map]
          have := missed_len m i
          omega
        refine tr_set (ev_call (av_cons (ev_var rfl (av_cons (ev_var rfl (av_cons (ev_var rfl (av_cons (ev_eqI (ev_mod (ev_var rfl (ev_int ⟨_, _, rfl, rfl, by decide, ev_int ⟨_, _, rfl, rfl, av_nil ?_⟩⟩))))))))))))
        refine call_of (.mk m.ws r.held (zeros m.ws.length) (decide ((i : Int) % 2 = 1)) hl (zeros_len _) o.w1 o.w2) rfl ?_
        have E1 : (step m i r).made = r.made := by
          show r.made + (if moves m r then 1 else 0) = r.made
          rw [hm]
          exact Int.add_zero _
        have E2 : (step m i r).held = flow m.ws r.held (zeros m.ws.length) (decide ((i : Int) % 2 = 1)) := by
          show flow _ _ (if moves m r then _ else _) _ = _
          rw [hm]
          rfl
        have E3 : s1 = r.steam := by
          rw [hs1, hm, hn']
          exact Int.sub_zero _
        have E4 : (missedOf m (i + 1)).map Dat.int = (missedOf m i).map Dat.int ++ [.int i] := by
          rw [hms, hm, List.map_append]
          rfl
        refine (?_ : (_ : Env) = _)
        rw [E1, E2, E3, E4]
        rfl
      · have hm : moves m r = true := by
          cases h : moves m r with
          | true => rfl
          | false =>
            rw [h] at e
            cases e
        refine tr_seq (tr_par (av_cons (ev_add (ev_var rfl (ev_int ⟨_, _, rfl, rfl, av_cons (ev_call ?_)⟩)))))
        refine av_cons (ev_var rfl (av_cons (ev_var rfl (av_cons (ev_var rfl (av_cons (ev_eqI (ev_mod (ev_var rfl (ev_int ⟨_, _, rfl, rfl, by decide, ev_int ⟨_, _, rfl, rfl, av_nil ?_⟩⟩))))))))))
        refine call_of (.mk m.ws r.held (lifts m.ws r.held r.made) (decide ((i : Int) % 2 = 1)) hl hll o.w1 o.w2) rfl (av_nil ⟨_, _, rfl, ?_⟩)
        have E1 : (step m i r).made = r.made + 1 := by
          show r.made + (if moves m r then 1 else 0) = r.made + 1
          rw [hm]
          rfl
        have E2 : (step m i r).held = flow m.ws r.held (lifts m.ws r.held r.made) (decide ((i : Int) % 2 = 1)) := by
          show flow _ _ (if moves m r then _ else _) _ = _
          rw [hm]
          rfl
        have E4 : (missedOf m (i + 1)).map Dat.int = (missedOf m i).map Dat.int := by
          rw [hms, hm, List.map_append]
          exact List.append_nil _
        refine tr_set (ev_ifJ (.int s1) (tt_T (ev_notN (ev_var rfl ⟨_, rfl, _, rfl, fun e => ?_, fun e => ?_, ?_⟩))))
        · refine ev_sub (ev_var rfl (ev_ix (ev_varM rfl (ev_neg (ev_int ⟨_, rfl, _, _, _, .inr (.inr (.inl ⟨_, 9, rfl, rfl⟩)), rfl, hld, _, _, rfl, rfl, ?_, rfl⟩)))))
          rw [hs1, hm]
          cases he : m.eng with
          | none =>
            rw [he] at e
            cases e
          | some e' => rfl
        · refine ev_int ⟨?_, rfl⟩
          rw [hs1]
          cases he : m.eng with
          | none => rfl
          | some e' =>
            rw [he] at e
            cases e
        · refine (?_ : (_ : Env) = _)
          rw [E1, E2, E4]
          rfl
    · rintro _ rfl
      refine tr_mid (fun G => G = [.dat (mineD m), .dat (.int n), .dat (watD m.ws), .dat (engD m.eng), .dat (intsL (zeros m.ws.length)), .dat (.int (step m i r).made), .dat (intsT (step m i r).held), .dat (.int (step m i r).steam), .own p ((rows m i).map Row.d), .own q ((loadsOf m (i + 1)).map Dat.int), .own s ((missedOf m (i + 1)).map Dat.int), .dat (.int i), .dat (intsL (lifts m.ws r.held r.made))]) ?_ ?_
      · cases he : m.eng with
        | none =>
          refine tr_if (tt_T (ev_notN (ev_var rfl ⟨_, rfl, _, rfl, (fun z => nomatch z), fun _ => tr_next ?_⟩)))
          have E : s1 = (step m i r).steam := by
            rw [hs1]
            show _ = steamBy m.eng i r.steam _
            rw [he]
            rfl
          rw [E]
        | some e' =>
          have hen := o.en e' he
          obtain ⟨z, hz⟩ := getOf (xs := e'.stokes) (i := i % e'.stokes.length) (Nat.mod_lt _ hen.1)
          have e1 : ((i : Int) % ((e'.stokes.map Dat.int).length : Nat)) = ((i % e'.stokes.length : Nat) : Int) := by
            rw [List.length_map]
            omega
          have E : (step m i r).steam = imin e'.room (s1 + z) := by
            show steamBy m.eng i r.steam _ = _
            rw [hs1, he]
            show imin e'.room (_ + e'.stokes.getD (i % e'.stokes.length) 0) = _
            rw [getD_of hz]
            rfl
          refine tr_if (tt_T (ev_notN (ev_var rfl ⟨_, rfl, _, rfl, fun _ => ?_, (fun z => nomatch z)⟩)))
          refine tr_set (ev_min (ev_ix (ev_var rfl (ev_int ⟨_, _, _, .inl rfl, rfl, rfl, ?_⟩))))
          refine ev_add (ev_var rfl (ev_ix (ev_ix (ev_var rfl (ev_int ⟨_, _, _, .inl rfl, rfl, rfl, ?_⟩)))))
          refine ev_mod (ev_var rfl (ev_len (ev_ix (ev_var rfl (ev_int ⟨_, _, _, .inl rfl, rfl, rfl, _, .inl rfl, _, _, rfl, rfl, ?_, ?_⟩)))))
          · rw [List.length_map]
            omega
          rw [e1]
          refine ⟨_, _, _, .inl rfl, rfl, atM hz, _, _, rfl, rfl, _, _, rfl, rfl, ?_⟩
          refine (?_ : (_ : Env) = _)
          rw [E]
          rfl
      · rintro _ rfl
        refine tr_app ⟨_, _, rfl⟩ (ev_tup (av_cons (ev_var rfl (av_cons (ev_var rfl (av_cons (ev_var rfl (av_nil ⟨[_, _, _], rfl, Nat.le_of_ble_eq_true rfl, _, _, _, rfl, rfl, ?_, .dat (.int i), .dat (intsL (lifts m.ws r.held r.made)), ?_⟩))))))))
        · rw [List.length_map, rows_len]
          omega
        rw [hst, rows_snoc, hst, List.map_append]
        rfl
  · obtain ⟨x, y, rfl⟩ := hG
    rw [List.length_map, rgI_len, Int.sub_zero, Int.toNat_natCast]
    refine tr_freeze (i := 8) rfl (tr_freeze (i := 9) rfl (tr_ret (ev_tup (av_cons (ev_var rfl (av_cons (ev_var rfl (av_cons (ev_tuple (ev_varM rfl ⟨_, .inr (.inr (.inl ⟨_, 10, rfl, rfl⟩)), av_nil ⟨[_, _, _], rfl, Nat.le_of_ble_eq_true rfl, _, rfl, rfl⟩⟩))))))))))
theorem cal_lone_rest (T : Tx K mg) (C_steam_by : Cal P w K mg base 1 "steam_by" ["engine", "rest", "steam", "spent"] (spP R_steam_by)) (C_behind_rest : Cal P w K mg base 3 "behind_rest" ["waters", "held", "rest", "made", "moved", "loose", "leaks"] (spP R_behind_rest)) (C_weight_by : Cal P w K mg base 2 "weight_by" ["waters", "held", "made", "loose", "leaks"] (spP R_weight_by)) (C_whole_leaks : Cal P w K mg base 1 "whole_leaks" ["waters"] (spP R_whole_leaks)) : Cal P w K mg base 4 "lone_rest" ["mine", "rest", "state"] (spP R_lone_rest) := by
  have z_int := T.z_int
  have C_steam_by := C_steam_by.mono (show 1 ≤ 3 by decide)
  have C_behind_rest := C_behind_rest.mono (show 3 ≤ 3 by decide)
  have C_weight_by := C_weight_by.mono (show 2 ≤ 3 by decide)
  have C_whole_leaks := C_whole_leaks.mono (show 1 ≤ 3 by decide)
  refine T.d_lone_rest.cal sc_lone_rest (spP_len fun ds d h => by cases h <;> rfl) fun f cdv A outer s H vs Q E hr hs => ⟨_, (pss_cons (ps_asg (pv 2) (pg_tupK (K := K) (n := 3) rfl rfl (pgs_cons (pg_name (i := 3) sc_lone_rest.nd rfl (Or.inl rfl)) (pgs_cons (pg_name (i := 4) sc_lone_rest.nd rfl (Or.inl rfl)) (pgs_cons (pg_name (i := 5) sc_lone_rest.nd rfl (Or.inl rfl)) pgs_nil)))))
    (pss_cons (ps_set (i := 6) sc_lone_rest.nd rfl (Or.inl rfl) (pe_callC C_whole_leaks hr rfl (pa_cons (pe_ix (ix_seqK (K := K) rfl) (pv 0) pe_int (fun _ _ => rfl)) pa_nil)))
    (pss_cons (ps_set (i := 7) sc_lone_rest.nd rfl (Or.inl rfl) (pe_callC C_weight_by hr rfl (pa_cons (pe_ix (ix_seqK (K := K) rfl) (pv 0) pe_int (fun _ _ => rfl)) (pa_cons (pv 4) (pa_cons (pv 3) (pa_cons (pe_tup pa_nil) (pa_cons (pv 6) pa_nil)))))))
    (pss_cons (ps_set (i := 8) sc_lone_rest.nd rfl (Or.inl rfl) (pe_or (pe_cmpR op_isN (pe_ix (ix_seqK (K := K) rfl) (pv 0) pe_int (fun _ _ => rfl)) pe_non (nomark _)) (pe_one (pe_cmpR op_ge (pv 5) (pv 7) (nomark _)))))
    (pss_cons (ps_set (i := 9) sc_lone_rest.nd rfl (Or.inl rfl) (pe_ix (ix_seqK (K := K) rfl) (pe_callC C_behind_rest hr rfl (pa_cons (pe_ix (ix_seqK (K := K) rfl) (pv 0) pe_int (fun _ _ => rfl)) (pa_cons (pv 4) (pa_cons (pv 1) (pa_cons (pv 3) (pa_cons (pv 8) (pa_cons (pe_tup pa_nil) (pa_cons (pv 6) pa_nil)))))))) pe_int (fun _ _ => rfl)))
    (pss_one (ps_ret (pe_tup (pa_cons (pe_op (op_addK (K := K) rfl) (pv 3) (pe_callTy (crInt) (by rfl) z_int (by decide +kernel) (pa_cons (pv 8) pa_nil))) (pa_cons (pv 9) (pa_cons (pe_callC C_steam_by hr rfl (pa_cons (pe_ix (ix_seqK (K := K) rfl) (pv 0) pe_int (fun _ _ => rfl)) (pa_cons (pv 1) (pa_cons (pv 5) (pa_cons (pe_ifExp (pt_val (pv 8)) (pv 7) pe_int) pa_nil))))) pa_nil))))))))))), fn_P (R := R_lone_rest) ?_ hs⟩
  rintro _ _ ⟨m, r, rest, o, hl⟩
  show Tr _ ([.dat (mineD m), .dat (.int rest), .dat r.d, .un, .un, .un, .un, .un, .un, .un] : Env) _
  refine tr_seq (tr_asg (ev_var rfl ⟨_, rfl, gw_three ?_⟩))
  show Tr _ ([.dat (mineD m), .dat (.int rest), .dat r.d, .dat (.int r.made), .dat (intsT r.held), .dat (.int r.steam), .un, .un, .un, .un] : Env) _
  refine tr_seq (tr_set ?_)
  walk_at "go"
  refine call_of (.mk m.ws o.w1 o.w2) rfl ?_
  refine tr_seq (tr_set ?_)
  walk_at "go"
  refine call_of (.mk m.ws r.held r.made hl o.w2 o.lv) rfl ?_
  refine tr_seq (tr_set (ev_orJ (moves m r) ?_))
  walk_at "go"
  refine ⟨fun e => ?_, fun e => ?_, ?_⟩
  · unfold moves
    cases he : m.eng with
    | none => rfl
    | some e' =>
      rw [he] at e
      cases e
  · walk_at "go"
    refine ⟨?_, rfl⟩
    unfold moves
    cases he : m.eng with
    | none =>
      rw [he] at e
      cases e
    | some e' => rfl
  show Tr _ ([.dat (mineD m), .dat (.int rest), .dat r.d, .dat (.int r.made), .dat (intsT r.held), .dat (.int r.steam), .dat (intsT (zeros m.ws.length)), .dat (.int (weight m.ws r.held r.made)), .dat (.bl (moves m r)), .un] : Env) _
  refine tr_seq (tr_set ?_)
  walk_at "go"
  refine call_of (.mk m.ws r.held rest r.made (moves m r) hl o.w1 o.w2) rfl ?_
  walk_at "go"
  show Tr _ ([.dat (mineD m), .dat (.int rest), .dat r.d, .dat (.int r.made), .dat (intsT r.held), .dat (.int r.steam), .dat (intsT (zeros m.ws.length)), .dat (.int (weight m.ws r.held r.made)), .dat (.bl (moves m r)), .dat (intsT (step m rest r).held)] : Env) _
  refine tr_ret ?_
  walk_at "go"
  refine ev_intB ?_
  walk_at "go"
  refine ev_ifJ (.int (if moves m r then weight m.ws r.held r.made else 0)) ?_
  walk_at "go"
  refine ⟨fun e => ?_, fun e => ?_, ?_⟩
  · rw [e]
    walk_at "go"
    exact ⟨rfl, rfl⟩
  · rw [e]
    walk_at "go"
    exact ⟨rfl, rfl⟩
  walk_at "go"
  have key : R_steam_by [engD m.eng, .int rest, .int r.steam, .int (if moves m r then weight m.ws r.held r.made else 0)] (.int (step m rest r).steam) := by
    show R_steam_by _ (.int (steamBy m.eng rest r.steam _))
    cases he : m.eng with
    | none => exact .no _ _ _
    | some e' => exact .mk e' _ _ _ (o.en e' he).1
  refine call_of key rfl ?_
  walk_at "go"
  rfl
theorem cal_lone_rows (T : Tx K mg) (C_lone_rest : Cal P w K mg base 4 "lone_rest" ["mine", "rest", "state"] (spP R_lone_rest)) (C_dry_held : Cal P w K mg base 1 "dry_held" ["waters"] (spP R_dry_held)) (C_tuple_of : Cal P w K mg base 8 "tuple_of" ["thing"] (spP (R_tuple_of 8))) : Cal P w K mg base 9 "lone_rows" ["mine", "many"] (spP R_lone_rows) := by
  have z_list := T.z_list
  have z_range := T.z_range
  have C_lone_rest := C_lone_rest.mono (show 4 ≤ 8 by decide)
  have C_dry_held := C_dry_held.mono (show 1 ≤ 8 by decide)
  have C_tuple_of := C_tuple_of.mono (show 8 ≤ 8 by decide)
  refine T.d_lone_rows.cal sc_lone_rows (spP_len fun ds d h => by cases h <;> rfl) fun f cdv A outer s H vs Q E hr hs => ⟨_, (pss_cons (ps_set (i := 2) sc_lone_rows.nd rfl (Or.inl rfl) (pe_callC C_tuple_of hr rfl (pa_cons (pv 0) pa_nil)))
    (pss_cons (ps_set (i := 3) sc_lone_rows.nd rfl (Or.inl rfl) (pe_lst (pa_cons (pe_tup (pa_cons pe_int (pa_cons (pe_callC C_dry_held hr rfl (pa_cons (pe_ix (ix_seqK (K := K) rfl) (pv 2) pe_int (fun _ _ => rfl)) pa_nil)) (pa_cons (pe_ifExp (pt_cmpR op_isN (pe_ix (ix_seqK (K := K) rfl) (pv 2) pe_int (fun _ _ => rfl)) pe_non (nomark _)) pe_int (pe_ix (ix_seqK (K := K) rfl) (pe_ix (ix_seqK (K := K) rfl) (pv 2) pe_int (fun _ _ => rfl)) pe_int (fun _ _ => rfl))) pa_nil)))) pa_nil)))
    (pss_cons (ps_for PassesOwn.never rfl (pi_seqK (K := K) rfl (pe_listRg rfl (by rfl) z_list (prg_1 (by rfl) z_range (pv 1)))) (pg_name (i := 4) sc_lone_rows.nd rfl (Or.inl rfl))
    (pss_one (ps_expr (pe_bm PySem.F.plainAttrs_list PySem.F.slot_list_append PySem.F.type_list_append mt_append (pv 3) (pa_cons (pe_callC C_lone_rest hr rfl (pa_cons (pv 2) (pa_cons (pv 4) (pa_cons (pe_ix (ix_seqK (K := K) rfl) (pv 3) (pe_un un_neg pe_int) (fun _ _ => rfl)) pa_nil)))) pa_nil)))))
    (pss_one (ps_ret (pv 3)))))), fn_P (R := R_lone_rows) ?_ hs⟩
  rintro _ _ ⟨m, n, o, hn⟩
  show Tr _ ([.dat (mineD m), .dat (.int n), .un, .un, .un] : Env) _
  refine tr_seq (tr_set ?_)
  walk_at "go"
  refine call_of (.mk (mineD m) (mine_dep m) (mine_small o)) rfl ?_
  rw [mine_toT]
  refine tr_seq (tr_set (ev_lstN ?_))
  walk_at "go"
  refine call_of (.mk m.ws o.w1 o.w2) rfl ?_
  walk_at "go"
  refine ev_ifJ (.int (row0 m).steam) ?_
  walk_at "go"
  refine ⟨fun e => ?_, fun e => ?_, ?_⟩
  · walk_at "go"
    refine ⟨?_, rfl⟩
    unfold row0
    cases he : m.eng with
    | none => rfl
    | some e' =>
      rw [he] at e
      cases e
  · unfold row0
    cases he : m.eng with
    | none =>
      rw [he] at e
      cases e
    | some e' => 
      walk_at "go"
      rw [he]
      exact ⟨_, _, _, .inl rfl, rfl, rfl, rfl, rfl⟩
  walk_at "go"
  intro q
  show Tr _ ([.dat (mineD m), .dat (.int n), .dat (mineD m), .own q [(row0 m).d], .un] : Env) _
  refine tr_seq (tr_for (sr_lst (ev_rg1 ?_)))
  walk_at "go"
  refine ⟨rgOk1 (by omega), _, rfl, ?_⟩
  refine ⟨fun i G => ∃ a, G = [.dat (mineD m), .dat (.int n), .dat (mineD m), .own q ((rows m i).map Row.d), a], ⟨.un, rfl⟩, fun i d G hd hG => ?_, fun G hG => ?_⟩
  · obtain ⟨a, rfl⟩ := hG
    obtain ⟨k, hk, rfl⟩ := mapG hd
    obtain ⟨rfl, hi⟩ := rgG hk
    refine gw_name ?_
    rw [Int.zero_add]
    refine tr_app ⟨_, _, rfl⟩ ?_
    walk_at "go"
    refine ⟨_, _, _, .inr (.inr (.inl ⟨_, 3, rfl, rfl⟩)), rfl, atLast (z := (rowAt m i).d) (by rw [List.getLast?_map, rows_last]; rfl), ?_⟩
    walk_at "go"
    refine call_of (.mk m (rowAt m i) i o (rowAt_len m i)) rfl ?_
    refine ⟨_, _, _, rfl, rfl, ?_, .dat (.int i), ?_⟩
    · rw [List.length_map, rows_len]
      omega
    · rw [rows_snoc, List.map_append]
      rfl
  · obtain ⟨a, rfl⟩ := hG
    refine tr_freeze (i := 3) rfl (tr_ret (ev_var rfl ⟨_, rfl, ?_⟩))
    show Dat.lst _ = rowsL (rows m n)
    rw [List.length_map, rgI_len, Int.sub_zero, Int.toNat_natCast]
    rfl
theorem cal_made_row (T : Tx K mg) (C_lone_rows : Cal P w K mg base 9 "lone_rows" ["mine", "many"] (spP R_lone_rows)) : Cal P w K mg base 10 "made_row" ["mine", "many"] (spP R_made_row) := by
  have z_tuple := T.z_tuple
  have C_lone_rows := C_lone_rows.mono (show 9 ≤ 9 by decide)
  refine T.d_made_row.cal sc_made_row (spP_len fun ds d h => by cases h <;> rfl) fun f cdv A outer s H vs Q E hr hs => ⟨_, (pss_one (ps_ret (pe_callTy (crTupK (K := K) rfl) (by rfl) z_tuple (by decide +kernel) (pa_cons (pe_lc (own := [("row", 2)]) (g := (gName 2)) rfl sc_made_row.nd (pi_seqK (K := K) rfl (pe_callC C_lone_rows hr rfl (pa_cons (pv 0) (pa_cons (pv 1) pa_nil)))) (blkOk_by (own := [("row", 2)]) (N := n_made_row) (sc := defScope s_made_row) (by decide +kernel)) (fun _ _ _ _ _ => pg_name (i := 2) sc_made_row.nd rfl (Or.inl rfl)) (fun _ _ _ _ _ => pts_nil) (fun _ _ _ _ _ => (pe_ix (ix_seqK (K := K) rfl) (pv 2) pe_int (fun _ _ => rfl)))) pa_nil)))), fn_P (R := R_made_row) ?_ hs⟩
  rintro _ _ ⟨m, n, o, hn⟩
  show Tr _ ([.dat (mineD m), .dat (.int n), .un] : Env) _
  refine tr_ret (ev_tuple (ev_lcA (sr_lst ?_)))
  walk_at "go"
  refine call_of (.mk m n o hn) rfl ⟨_, rfl, NoM.cons trivial NoM.nil, by rw [List.length_map, rows_len]; omega, fun i => (((rows m n).map Row.made).take i).map Dat.int, rfl, fun i d hd => ?_, fun p => ?_⟩
  · obtain ⟨r, hr', rfl⟩ := mapG hd
    refine cw_name (.head _) (tt_yes ⟨rfl, fun _ => ?_, (fun e => nomatch e)⟩)
    walk_at "go"
    refine ⟨rfl, _, rfl, (takeM (xs := (rows m n).map Row.made) ?_).symm⟩
    rw [List.getElem?_map, hr']
    rfl
  · walk_at "go"
    show Dat.tup (List.map Dat.int (List.take ((rows m n).map Row.d).length _)) = intsT _
    rw [List.length_map, List.take_of_length_le (by rw [List.length_map]; exact Nat.le_refl _)]
    rfl
theorem of_mem' {gs : List Dat} {d : Dat} (h : R__law_of [.lst gs] d) : d ∈ gs := by
  cases h
  assumption
theorem cal__law_mine (T : Tx K mg) (C__law_take : Cal P w K mg base 1 "_law_take" ["_law_urn", "_law_low_so"] (spU 1 Pre__law_take R__law_take)) (C__law_of : Cal P w K mg base 2 "_law_of" ["_law_urn", "_law_goods_so"] (spU 1 Pre__law_of R__law_of)) (C__law_waters : Cal P w K mg base 3 "_law_waters" ["_law_urn", "_law_deep_so"] (spU 100 Pre__law_waters R__law_waters)) : Cal P w K mg base 4 "_law_mine" ["_law_urn", "_law_dear_so"] (spU 200 Pre__law_mine R__law_mine) := by
  have z_min := T.z_min
  have z_range := T.z_range
  have z_tuple := T.z_tuple
  have C__law_take := C__law_take.mono (show 1 ≤ 3 by decide)
  have C__law_of := C__law_of.mono (show 2 ≤ 3 by decide)
  have C__law_waters := C__law_waters.mono (show 3 ≤ 3 by decide)
  refine T.d__law_mine.cal sc__law_mine (spU_len fun ds h => by cases h <;> rfl) fun f cdv A outer s H vs Q E hr hs => ⟨_, (pss_cons (ps_set (i := 2) sc__law_mine.nd rfl (Or.inl rfl) (pe_op (op_addK (K := K) rfl) pe_int (pe_callC C__law_take hr rfl (pa_cons (pv 0) (pa_cons pe_int pa_nil)))))
    (pss_cons (ps_set (i := 3) sc__law_mine.nd rfl (Or.inl rfl) (pe_callTy (crTupK (K := K) rfl) (by rfl) z_tuple (by decide +kernel) (pa_cons (pe_lc (own := [("_law_k", 10)]) (g := (gName 10)) rfl sc__law_mine.nd (pi_range1 (by rfl) z_range (pa_cons (pe_op (op_addK (K := K) rfl) (pv 2) pe_int) pa_nil)) (blkOk_by (own := [("_law_k", 10)]) (N := n__law_mine) (sc := defScope s__law_mine) (by decide +kernel)) (fun _ _ _ _ _ => pg_name (i := 10) sc__law_mine.nd rfl (Or.inl rfl)) (fun _ _ _ _ _ => pts_nil) (fun _ _ _ _ _ => (pe_callC C__law_take hr rfl (pa_cons (pv 0) (pa_cons pe_int pa_nil))))) pa_nil)))
    (pss_cons (ps_set (i := 4) sc__law_mine.nd rfl (Or.inl rfl) (pe_tup (pa_cons (pv 2) (pa_cons (pe_cmpR (op_eqK (K := K) rfl hr.units) (pe_callC C__law_take hr rfl (pa_cons (pv 0) (pa_cons pe_int pa_nil))) pe_int (nomark _)) (pa_cons (pv 3) pa_nil)))))
    (pss_cons (ps_par3 (i := 5) (j := 6) (l := 7) rfl sc__law_mine.nd rfl rfl rfl (by decide) (by decide) (by decide) rfl rfl rfl (pa_cons (pe_callC C__law_waters hr rfl (pa_cons (pv 0) (pa_cons (pv 2) pa_nil))) (pa_cons (pe_op (op_addK (K := K) rfl) pe_int (pe_callC C__law_take hr rfl (pa_cons (pv 0) (pa_cons pe_int pa_nil)))) (pa_cons pe_non pa_nil))) (by rfl))
    (pss_cons (ps_if (PW.pt (pw_or (pt_val (pv 1)) (pw_or1 (pt_cmpR op_gt (pe_callC C__law_take hr rfl (pa_cons (pv 0) (pa_cons pe_int pa_nil))) pe_int (nomark _))))) (pss_cons (ps_set (i := 8) sc__law_mine.nd rfl (Or.inl rfl) (pe_callC C__law_of hr rfl (pa_cons (pv 0) (pa_cons (pe_lst (pa_cons pe_int (pa_cons pe_int (pa_cons pe_int (pa_cons pe_int (pa_cons pe_int (pa_cons pe_int pa_nil))))))) pa_nil))))
    (pss_cons (ps_set (i := 9) sc__law_mine.nd rfl (Or.inl rfl) (pe_callTy (crTupK (K := K) rfl) (by rfl) z_tuple (by decide +kernel) (pa_cons (pe_lc (own := [("_law_k", 10)]) (g := (gName 10)) rfl sc__law_mine.nd (pi_range1 (by rfl) z_range (pa_cons (pe_op (op_addK (K := K) rfl) pe_int (pe_callC C__law_take hr rfl (pa_cons (pv 0) (pa_cons pe_int pa_nil)))) pa_nil)) (blkOk_by (own := [("_law_k", 10)]) (N := n__law_mine) (sc := defScope s__law_mine) (by decide +kernel)) (fun _ _ _ _ _ => pg_name (i := 10) sc__law_mine.nd rfl (Or.inl rfl)) (fun _ _ _ _ _ => pts_nil) (fun _ _ _ _ _ => (pe_callC C__law_of hr rfl (pa_cons (pv 0) (pa_cons (pe_lst (pa_cons pe_int (pa_cons pe_int (pa_cons pe_int (pa_cons pe_int (pa_cons pe_int (pa_cons pe_int pa_nil))))))) pa_nil))))) pa_nil)))
    (pss_one (ps_set (i := 7) sc__law_mine.nd rfl (Or.inl rfl) (pe_tup (pa_cons (pv 8) (pa_cons (pe_callB (crMin2 rfl) (by rfl) z_min (by decide +kernel) (pa_cons (pv 8) (pa_cons (pe_callC C__law_of hr rfl (pa_cons (pv 0) (pa_cons (pe_lst (pa_cons pe_int (pa_cons pe_int (pa_cons pe_int (pa_cons pe_int pa_nil))))) pa_nil))) pa_nil))) (pa_cons (pv 9) pa_nil)))))))) pss_nil)
    (pss_one (ps_ret (pe_tup (pa_cons (pv 4) (pa_cons (pv 5) (pa_cons (pv 6) (pa_cons (pv 7) pa_nil)))))))))))), fn_U (R := R__law_mine) ?_ hs⟩
  rintro _ u a b c0 ⟨⟩ hc0 hc1
  show Tr _ ([.own u [.int a, .int b, .int c0], .dat (.bl false), .un, .un, .un, .un, .un, .un, .un, .un, .un] : Env) _
  refine tr_seq (tr_set (ev_add (ev_int (ev_callU (i := 0) rfl hc0 (by omega) (av_cons (ev_int (av_nil ⟨rfl, [_], rfl, .mk 5 (by decide) (by decide), ?_⟩)))))))
  rintro _ a1 b1 c1 ⟨_, r, r1, r2⟩ d1 d2
  obtain ⟨deep, hdeep⟩ : ∃ x, x = 2 + r := ⟨_, rfl⟩
  refine ⟨_, _, rfl, rfl, ?_⟩
  rw [← hdeep]
  show Tr _ ([.own u [.int a1, .int b1, .int c1], .dat (.bl false), .dat (.int deep), .un, .un, .un, .un, .un, .un, .un, .un] : Env) _
  refine tr_seq (tr_set (ev_tuple (ev_lcN (sr_r1 (ev_add (ev_var rfl (ev_int ⟨_, _, rfl, rfl, _, rfl, by omega, by omega, NoM.cons trivial NoM.nil, ?_, ?_⟩)))))))
  · rw [List.length_map, rgI_len]
    omega
  refine ⟨fun i acc G => ∃ a b c, G = [.own u [.int a, .int b, .int c], .dat (.bl false), .dat (.int deep), .un, .un, .un, .un, .un, .un, .un, .un] ∧ 0 ≤ c ∧ c ≤ c1 + i ∧ ∃ ns : List Int, acc = ns.map Dat.int ∧ ns.length = i, ⟨a1, b1, c1, rfl, d1, by omega, [], rfl, rfl⟩, fun i d acc G hd hG => ?_, fun acc G hG p => ?_⟩
  · obtain ⟨a, b, c, rfl, e1, e2, ns, rfl, e3⟩ := hG
    have hi := ltOf hd
    rw [List.length_map, rgI_len] at hi
    refine cw_name (.head _) (tt_yes ⟨fun _ => ?_, (fun e => nomatch e)⟩)
    refine ev_callU (i := 0) rfl e1 (by omega) (av_cons (ev_int (av_nil ⟨rfl, [_], rfl, .mk 3 (by decide) (by decide), ?_⟩)))
    rintro _ a2 b2 c2 ⟨_, t, t1, t2⟩ g1 g2
    refine ⟨_, rfl, a2, b2, c2, rfl, g1, by omega, ns ++ [t], ?_, ?_⟩
    · rw [List.map_append]
      rfl
    · rw [List.length_append, e3]
      rfl
  obtain ⟨a, b, c, rfl, e1, e2, rooms, rfl, e3⟩ := hG
  rw [List.length_map, rgI_len] at e2 e3
  refine ⟨_, .inr (.inr (.inr ⟨_, rfl⟩)), ?_⟩
  show Tr _ ([.own u [.int a, .int b, .int c], .dat (.bl false), .dat (.int deep), .dat (intsT rooms), .un, .un, .un, .un, .un, .un, .un] : Env) _
  refine tr_seq (tr_set (ev_tup (av_cons (ev_var rfl (av_cons (ev_eqI (ev_callU (i := 0) rfl e1 (by omega) (av_cons (ev_int (av_nil ⟨rfl, [_], rfl, .mk 2 (by decide) (by decide), ?_⟩))))))))))
  rintro _ a2 b2 c2 ⟨_, wd, w1, w2⟩ g1 g2
  refine ev_int ⟨_, _, rfl, rfl, av_cons (ev_var rfl (av_nil ⟨[_, _, _], rfl, Nat.le_of_ble_eq_true rfl, ?_⟩))⟩
  obtain ⟨wide, hwide⟩ : ∃ x, x = decide (wd = 0) := ⟨_, rfl⟩
  rw [← hwide]
  show Tr _ ([.own u [.int a2, .int b2, .int c2], .dat (.bl false), .dat (.int deep), .dat (intsT rooms), .dat (.tup [.int deep, .bl wide, intsT rooms]), .un, .un, .un, .un, .un, .un] : Env) _
  refine tr_seq (tr_par3 (av_cons (ev_callU (i := 0) rfl g1 (by omega) (av_cons (ev_var rfl (av_nil ⟨rfl, [_], rfl, .mk deep (by omega) (by omega), ?_⟩))))))
  rintro _ a3 b3 c3 ⟨_, ws, hw⟩ g3 g4
  refine av_cons (ev_add (ev_int (ev_callU (i := 0) rfl g3 (by omega) (av_cons (ev_int (av_nil ⟨rfl, [_], rfl, .mk 5 (by decide) (by decide), ?_⟩))))))
  rintro _ a4 b4 c4 ⟨_, per, p1, p2⟩ g5 g6
  refine ⟨_, _, rfl, rfl, av_cons (ev_non (av_nil ⟨_, _, _, rfl, ?_⟩))⟩
  show Tr _ ([.own u [.int a4, .int b4, .int c4], .dat (.bl false), .dat (.int deep), .dat (intsT rooms), .dat (.tup [.int deep, .bl wide, intsT rooms]), .dat (watD ws), .dat (.int (1 + per)), .dat .non, .un, .un, .un] : Env) _
  have fin : ∀ (eng : Option Eng) (a b c : Int) (x y : Sd), 0 ≤ c → c ≤ c4 + 20 → (∀ e, eng = some e → 1 ≤ e.stokes.length ∧ e.stokes.length ≤ 10) → Tr (tRet (tTup (tCons (tVar 4) (tCons (tVar 5) (tCons (tVar 6) (tCons (tVar 7) tNil)))))) ([.own u [.int a, .int b, .int c], .dat (.bl false), .dat (.int deep), .dat (intsT rooms), .dat (.tup [.int deep, .bl wide, intsT rooms]), .dat (watD ws), .dat (.int (1 + per)), .dat (engD eng), x, y, .un] : Env) { nx := fun _ => False, rt := fun d G' => R__law_mine [.bl false] d ∧ ∃ a' b' c', G'[0]? = some (.own u [.int a', .int b', .int c']) ∧ 0 ≤ c' ∧ c' ≤ c0 + 200 } := by
    intro eng a b c x y f1 f2 f3
    refine tr_ret (ev_tup (av_cons (ev_var rfl (av_cons (ev_var rfl (av_cons (ev_var rfl (av_cons (ev_var rfl (av_nil ⟨[_, _, _, _], rfl, Nat.le_of_ble_eq_true rfl, _, rfl, ?_, a, b, c, rfl, f1, ?_⟩)))))))))) 
    · have o : Ok ⟨deep, wide, rooms, ws, 1 + per, eng⟩ := ⟨by show 1 ≤ deep; omega, by show deep ≤ 1000; omega, by show 1 ≤ 1 + per; omega, by show 1 + per ≤ 1000; omega, by show rooms.length ≤ 1000; omega, hw.w1, by have := hw.w2; show ws.length ≤ 1000; omega, fun c hc => by have := hw.lv c hc; omega, fun e he => by have := f3 e he; omega⟩
      refine .mk ⟨deep, wide, rooms, ws, 1 + per, eng⟩ o ?_ ?_ ?_ ?_
      · show deep ≤ 6
        omega
      · show rooms.length ≤ 10
        omega
      · exact fun e he => (f3 e he).2
      · have := hw.w2
        show ws.length ≤ 10
        omega
    · omega
  refine tr_seq (tr_if (tt_or (tt_B (ev_var rfl ⟨_, rfl, (fun z => nomatch z), fun _ => tt_T (ev_gt (ev_callU (i := 0) rfl g5 (by omega) (av_cons (ev_int (av_nil ⟨rfl, [_], rfl, .mk 4 (by decide) (by decide), ?_⟩)))))⟩))))
  rintro _ a5 b5 c5 ⟨_, t, t1, t2⟩ g7 g8
  refine ev_int ⟨_, _, rfl, rfl, _, rfl, fun _ => ?_, fun _ => tr_next (fin none a5 b5 c5 _ _ g7 (by omega) (fun e he => nomatch he))⟩
  refine tr_seq (tr_set ?_)
  refine ev_callU (i := 0) rfl g7 (by omega) (av_cons (ev_lst (av_cons (ev_int (av_cons (ev_int (av_cons (ev_int (av_cons (ev_int (av_cons (ev_int (av_cons (ev_int (av_nil ⟨[_, _, _, _, _, _], rfl, Nat.le_of_ble_eq_true rfl, av_nil ⟨rfl, [_], rfl, .mk _ (by decide) (by decide), ?_⟩⟩)))))))))))))))
  intro s' a6 b6 c6 hs0 g9 g10
  have hs' := of_mem' hs0
  obtain ⟨room, rfl⟩ : ∃ i, s' = Dat.int i := by
    simp only [List.mem_cons, List.not_mem_nil, or_false] at hs'
    rcases hs' with h | h | h | h | h | h <;> exact ⟨_, h⟩
  show Tr _ ([.own u [.int a6, .int b6, .int c6], .dat (.bl false), .dat (.int deep), .dat (intsT rooms), .dat (.tup [.int deep, .bl wide, intsT rooms]), .dat (watD ws), .dat (.int (1 + per)), .dat .non, .dat (.int room), .un, .un] : Env) _
  refine tr_seq (tr_set (ev_tuple (ev_lcN (sr_r1 (ev_add (ev_int (ev_callU (i := 0) rfl g9 (by omega) (av_cons (ev_int (av_nil ⟨rfl, [_], rfl, .mk 3 (by decide) (by decide), ?_⟩))))))))))
  rintro _ a7 b7 c7 ⟨_, many, m1, m2⟩ g11 g12
  refine ⟨_, _, rfl, rfl, _, rfl, by omega, by omega, NoM.cons trivial NoM.nil, ?_, ?_⟩
  · rw [List.length_map, rgI_len]
    omega
  refine ⟨fun i acc G => ∃ a b c, G = [.own u [.int a, .int b, .int c], .dat (.bl false), .dat (.int deep), .dat (intsT rooms), .dat (.tup [.int deep, .bl wide, intsT rooms]), .dat (watD ws), .dat (.int (1 + per)), .dat .non, .dat (.int room), .un, .un] ∧ 0 ≤ c ∧ c ≤ c7 + i ∧ ∃ ns : List Int, acc = ns.map Dat.int ∧ ns.length = i, ⟨a7, b7, c7, rfl, g11, by omega, [], rfl, rfl⟩, fun i d acc G hd hG => ?_, fun acc G hG p => ?_⟩
  · obtain ⟨a, b, c, rfl, e1, e2, ns, rfl, e3⟩ := hG
    have hi := ltOf hd
    rw [List.length_map, rgI_len] at hi
    refine cw_name (.head _) (tt_yes ⟨fun _ => ?_, (fun e => nomatch e)⟩)
    refine ev_callU (i := 0) rfl e1 (by omega) (av_cons (ev_lst (av_cons (ev_int (av_cons (ev_int (av_cons (ev_int (av_cons (ev_int (av_cons (ev_int (av_cons (ev_int (av_nil ⟨[_, _, _, _, _, _], rfl, Nat.le_of_ble_eq_true rfl, av_nil ⟨rfl, [_], rfl, .mk _ (by decide) (by decide), ?_⟩⟩)))))))))))))))
    intro s' a2 b2 c2 hs0 g1 g2
    have hs' := of_mem' hs0
    obtain ⟨t, rfl⟩ : ∃ i, s' = Dat.int i := by
      simp only [List.mem_cons, List.not_mem_nil, or_false] at hs'
      rcases hs' with h | h | h | h | h | h <;> exact ⟨_, h⟩
    refine ⟨_, rfl, a2, b2, c2, rfl, g1, by omega, ns ++ [t], ?_, ?_⟩
    · rw [List.map_append]
      rfl
    · rw [List.length_append, e3]
      rfl
  obtain ⟨a, b, c, rfl, e1, e2, stokes, rfl, e3⟩ := hG
  rw [List.length_map, rgI_len] at e2 e3
  refine ⟨_, .inr (.inr (.inr ⟨_, rfl⟩)), ?_⟩
  show Tr _ ([.own u [.int a, .int b, .int c], .dat (.bl false), .dat (.int deep), .dat (intsT rooms), .dat (.tup [.int deep, .bl wide, intsT rooms]), .dat (watD ws), .dat (.int (1 + per)), .dat .non, .dat (.int room), .dat (intsT stokes), .un] : Env) _
  refine tr_set (ev_tup (av_cons (ev_var rfl (av_cons (ev_min (ev_var rfl (ev_callU (i := 0) rfl e1 (by omega) (av_cons (ev_lst (av_cons (ev_int (av_cons (ev_int (av_cons (ev_int (av_cons (ev_int (av_nil ⟨[_, _, _, _], rfl, Nat.le_of_ble_eq_true rfl, av_nil ⟨rfl, [_], rfl, .mk _ (by decide) (by decide), ?_⟩⟩))))))))))))))))))
  intro s' a8 b8 c8 hs0 g13 g14
  have hs' := of_mem' hs0
  obtain ⟨z, rfl⟩ : ∃ i, s' = Dat.int i := by
    simp only [List.mem_cons, List.not_mem_nil, or_false] at hs'
    rcases hs' with h | h | h | h <;> exact ⟨_, h⟩
  refine ⟨_, _, rfl, rfl, av_cons (ev_var rfl (av_nil ⟨[_, _, _], rfl, Nat.le_of_ble_eq_true rfl, ?_⟩))⟩
  exact fin (some ⟨room, imin room z, stokes⟩) a8 b8 c8 _ _ g13 (by omega) (fun e he => by cases he; constructor <;> (show _ ≤ _) <;> dsimp only <;> omega)
theorem made_step (m : Mine) (k : Nat) : (rowAt m (k + 1)).made = (rowAt m k).made ∨ (rowAt m (k + 1)).made = (rowAt m k).made + 1 := by
  show (rowAt m k).made + (if moves m (rowAt m k) then 1 else 0) = _ ∨ (rowAt m k).made + (if moves m (rowAt m k) then 1 else 0) = _
  split
  · exact .inr rfl
  · exact .inl (Int.add_zero _)
theorem made_mono (m : Mine) {i : Nat} : ∀ {j : Nat}, i ≤ j → (rowAt m i).made ≤ (rowAt m j).made
  | 0, h => by
    have : i = 0 := by omega
    subst this
    exact Int.le_refl _
  | j + 1, h => by
    by_cases q : i = j + 1
    · subst q
      exact Int.le_refl _
    · have := made_mono m (i := i) (j := j) (by omega)
      have := made_step m j
      omega
theorem made_nn (m : Mine) (k : Nat) : 0 ≤ (rowAt m k).made := made_mono m (Nat.zero_le k)
theorem made_le (m : Mine) : ∀ k : Nat, (rowAt m k).made ≤ k
  | 0 => Int.le_refl _
  | k + 1 => by
    have := made_le m k
    have := made_step m k
    omega
def ones (p : Row → Bool) (rs : List Row) : List Int := (rs.filter p).map fun _ => 1
theorem ones_snoc (p : Row → Bool) (rs : List Row) {i : Nat} {r : Row} (h : rs[i]? = some r) : ones p (rs.take (i + 1)) = ones p (rs.take i) ++ (if p r then [1] else []) := by
  unfold ones
  rw [takeS h, List.filter_append, List.map_append]
  congr 1
  cases q : p r with
  | true =>
    rw [List.filter_cons_of_pos (by rw [q])]
    rfl
  | false =>
    rw [List.filter_cons_of_neg (by rw [q]; decide)]
    rfl
theorem ones_empty (p : Row → Bool) (rs : List Row) : (ones p rs).isEmpty = !rs.any p := by
  unfold ones
  induction rs with
  | nil => rfl
  | cons r rs ih =>
    rw [List.any_cons]
    cases q : p r with
    | true =>
      rw [List.filter_cons_of_pos (by rw [q])]
      rfl
    | false =>
      rw [List.filter_cons_of_neg (by rw [q]; decide)]
      exact ih
theorem fw_some {m : Mine} {rs : List Row} {level : Int} {i : Nat} (h : firstWet m level rs = some i) : (∃ r, rs[i]? = some r ∧ wet m level r = true) ∧ ∀ (j : Nat) r, j < i → rs[j]? = some r → wet m level r = false := by
  unfold firstWet at h
  rw [List.findIdx?_eq_some_iff_getElem] at h
  obtain ⟨h1, h2, h3⟩ := h
  refine ⟨⟨_, List.getElem?_eq_getElem h1, h2⟩, fun j r hj hr => ?_⟩
  have := h3 j hj
  have e := (List.getElem?_eq_some_iff.mp hr).2
  rw [e] at this
  cases q : wet m level r with
  | true =>
    rw [q] at this
    exact absurd rfl this
  | false => rfl
theorem fw_any (m : Mine) (rs : List Row) (level : Int) : rs.any (wet m level) = (firstWet m level rs).isSome := by
  unfold firstWet
  rw [List.findIdx?_isSome]
/-- the rows of a made number, the first wet row's among them or not -/
theorem none_before {m : Mine} {n : Nat} {level : Int} {i0 : Nat} (h : firstWet m level (rows m n) = some i0) {b : Int} (hb : b < (rowAt m i0).made) : ((rows m n).filter fun r => decide (r.made = b)).any (wet m level) = false := by
  rw [List.any_eq_false]
  intro r hr
  rw [List.mem_filter] at hr
  obtain ⟨i, hi, rfl⟩ := rows_mem hr.1
  have e : (rowAt m i).made = b := of_decide_eq_true hr.2
  have : i < i0 := by
    apply Classical.byContradiction
    intro q
    have := made_mono m (i := i0) (j := i) (by omega)
    omega
  rw [(fw_some h).2 i _ this (rows_get hi)]
  decide
theorem some_at {m : Mine} {n : Nat} {level : Int} {i0 : Nat} (h : firstWet m level (rows m n) = some i0) (hi : i0 ≤ n) : ((rows m n).filter fun r => decide (r.made = (rowAt m i0).made)).any (wet m level) = true := by
  obtain ⟨⟨r, h1, h2⟩, _⟩ := fw_some h
  rw [rows_get hi] at h1
  cases h1
  rw [List.any_eq_true]
  refine ⟨_, ?_, h2⟩
  rw [List.mem_filter]
  exact ⟨List.mem_of_getElem? (rows_get hi), decide_eq_true rfl⟩
theorem putD {G : Env} {i : Nat} {x y : List Dat} {C : Env → Prop} (e : x = y) (k : put G i (.d (.lst y)) C) : put G i (.d (.lst x)) C := e ▸ k
theorem cal__law_last_passed (T : Tx K mg) (C__law_is_wet : Cal P w K mg base 1 "_law_is_wet" ["_law_mine_so", "_law_held_so", "_law_level_so"] (spP R__law_is_wet)) : Cal P w K mg base 2 "_law_last_passed" ["_law_mine_so", "_law_rows_so", "_law_level_so"] (spP R__law_last_passed) := by
  have z_range := T.z_range
  have C__law_is_wet := C__law_is_wet.mono (show 1 ≤ 1 by decide)
  refine T.d__law_last_passed.cal sc__law_last_passed (spP_len fun ds d h => by cases h <;> rfl) fun f cdv A outer s H vs Q E hr hs => ⟨_, (pss_cons (ps_if (pt_cmpR (op_eqK (K := K) rfl hr.units) (pe_lc (own := [("_law_row_so", 7)]) (g := (gName 7)) rfl sc__law_last_passed.nd (pi_seqK (K := K) rfl (pv 1)) (blkOk_by (own := [("_law_row_so", 7)]) (N := n__law_last_passed) (sc := defScope s__law_last_passed) (by decide +kernel)) (fun _ _ _ _ _ => pg_name (i := 7) sc__law_last_passed.nd rfl (Or.inl rfl)) (fun _ _ _ _ _ => (pts_one (pt_val (pe_callC C__law_is_wet hr rfl (pa_cons (pv 0) (pa_cons (pe_ix (ix_seqK (K := K) rfl) (pv 7) pe_int (fun _ _ => rfl)) (pa_cons (pv 2) pa_nil))))))) (fun _ _ _ _ _ => pe_int)) (pe_lst pa_nil) (nomark _)) (pss_one (ps_ret pe_non)) pss_nil)
    (pss_cons (ps_asg (pe_tup (pa_cons (pe_un un_neg pe_int) (pa_cons pe_bl pa_nil))) (pg_tupK (K := K) (n := 2) rfl rfl (pgs_cons (pg_name (i := 3) sc__law_last_passed.nd rfl (Or.inl rfl)) (pgs_cons (pg_name (i := 4) sc__law_last_passed.nd rfl (Or.inl rfl)) pgs_nil))))
    (pss_cons (ps_for PassesOwn.never rfl (pi_range1 (by rfl) z_range (pa_cons (pe_op (op_addK (K := K) rfl) (pe_ix (ix_seqK (K := K) rfl) (pe_ix (ix_seqK (K := K) rfl) (pv 1) (pe_un un_neg pe_int) (fun _ _ => rfl)) pe_int (fun _ _ => rfl)) pe_int) pa_nil)) (pg_name (i := 5) sc__law_last_passed.nd rfl (Or.inr rfl))
    (pss_cons (ps_setLc (i := 6) (own := [("_law_row_so", 7)]) (g := (gName 7)) rfl sc__law_last_passed.nd rfl rfl (sw_true rfl rfl rfl (by decide +kernel)) (pi_seqK (K := K) rfl (pv 1)) (blkOk_by (own := [("_law_row_so", 7)]) (N := n__law_last_passed) (sc := defScope s__law_last_passed) (by decide +kernel)) (fun _ _ _ _ _ => pg_name (i := 7) sc__law_last_passed.nd rfl (Or.inl rfl)) (fun _ _ _ _ _ => (pts_one (pt_cmpR (op_eqK (K := K) rfl hr.units) (pe_ix (ix_seqK (K := K) rfl) (pv 7) pe_int (fun _ _ => rfl)) (pv 5) (nomark _)))) (fun _ _ _ _ _ => (pv 7)))
    (pss_cons (ps_set (i := 4) sc__law_last_passed.nd rfl (Or.inl rfl) (pe_and (pv 4) (pe_one (pe_cmpR (op_eqK (K := K) rfl hr.units) (pe_lc (own := [("_law_row_so", 7)]) (g := (gName 7)) rfl sc__law_last_passed.nd (pi_seqK (K := K) rfl (pv 6)) (blkOk_by (own := [("_law_row_so", 7)]) (N := n__law_last_passed) (sc := defScope s__law_last_passed) (by decide +kernel)) (fun _ _ _ _ _ => pg_name (i := 7) sc__law_last_passed.nd rfl (Or.inl rfl)) (fun _ _ _ _ _ => (pts_one (pt_val (pe_callC C__law_is_wet hr rfl (pa_cons (pv 0) (pa_cons (pe_ix (ix_seqK (K := K) rfl) (pv 7) pe_int (fun _ _ => rfl)) (pa_cons (pv 2) pa_nil))))))) (fun _ _ _ _ _ => pe_int)) (pe_lst pa_nil) (nomark _)))))
    (pss_one (ps_set (i := 3) sc__law_last_passed.nd rfl (Or.inl rfl) (pe_ifExp (pt_val (pv 4)) (pv 5) (pv 3)))))))
    (pss_one (ps_ret (pv 3)))))), fn_P (R := R__law_last_passed) ?_ hs⟩
  rintro _ _ ⟨m, n, level, o, h1, h2, hn⟩
  show Tr _ ([.dat (mineD m), .dat (rowsL (rows m n)), .dat (.int level), .un, .un, .un, .un, .un] : Env) _
  have held : ∀ r ∈ rows m n, 1 ≤ r.held.length := fun r hr => by
    obtain ⟨i, _, rfl⟩ := rows_mem hr
    rw [rowAt_len]
    exact o.w1
  -- the wet rows of a list of rows, as ones
  refine tr_seq (tr_if (tt_T (ev_eqE (ev_fz (ev_lcA (sr_lst (ev_var rfl ⟨_, rfl, NoM.cons trivial NoM.nil, by rw [List.length_map, rows_len]; omega, fun i => (ones (wet m level) ((rows m n).take i)).map Dat.int, rfl, fun i d hd => ?_, fun p => ?_⟩)))))))
  · obtain ⟨r, hr', rfl⟩ := mapG hd
    refine cw_name (.head _) (tt_B (ev_call (av_cons (ev_var rfl (av_cons (ev_ix (ev_var rfl (ev_int ⟨_, _, _, .inl rfl, rfl, rfl, av_cons (ev_var rfl (av_nil ?_))⟩)))))))) 
    refine call_of (.mk m r.held level o (by omega) h2 (held r (List.mem_of_getElem? hr'))) rfl ⟨_, rfl, rfl, fun e => ev_int ⟨rfl, _, rfl, ?_⟩, fun e => ?_⟩
    · show (ones _ (List.take (i + 1) _)).map Dat.int = _
      rw [ones_snoc _ _ hr', show wet m level r = true from e, List.map_append]
      rfl
    · show (ones _ (List.take (i + 1) _)).map Dat.int = _
      rw [ones_snoc _ _ hr', show wet m level r = false from e, List.map_append]
      exact List.append_nil _
  refine ⟨_, _, rfl, ev_lst (av_nil ⟨[], rfl, Nat.le_of_ble_eq_true rfl, _, rfl, rfl, _, rfl, ?_⟩)⟩
  rw [List.length_map, takeA, ones_empty, fw_any]
  cases hf : firstWet m level (rows m n) with
  | none =>
    refine ⟨fun _ => tr_ret (ev_non ⟨_, rfl, ?_⟩), (fun z => nomatch z)⟩
    unfold lastOf
    rw [hf]
    rfl
  | some i0 =>
  refine ⟨(fun z => nomatch z), fun _ => tr_next ?_⟩
  have hi0 : i0 ≤ n := by
    obtain ⟨⟨r, hr', _⟩, _⟩ := fw_some hf
    have := ltOf hr'
    rw [rows_len] at this
    omega
  have eL : lastOf m (rows m n) level = some ((rowAt m i0).made - 1) := by
    unfold lastOf
    rw [hf, Option.map_some, List.getD_eq_getElem?_getD, rows_get hi0]
    rfl
  rw [eL]
  obtain ⟨wm, hwm⟩ : ∃ x, x = (rowAt m i0).made := ⟨_, rfl⟩
  have w0 : 0 ≤ wm := by rw [hwm]; exact made_nn m i0
  have w1 : wm ≤ (rowAt m n).made := by rw [hwm]; exact made_mono m hi0
  have w2 := made_le m n
  have nb : ∀ b : Int, b < wm → ((rows m n).filter fun r => decide (r.made = b)).any (wet m level) = false := fun b hb => none_before hf (by omega)
  have sa : ((rows m n).filter fun r => decide (r.made = wm)).any (wet m level) = true := by rw [hwm]; exact some_at hf hi0
  rw [← hwm]
  refine tr_seq (tr_asg (ev_tup (av_cons (ev_neg (ev_int ⟨_, rfl, av_cons (ev_bl (av_nil ⟨[_, _], rfl, Nat.le_of_ble_eq_true rfl, _, rfl, gw_two ?_⟩))⟩)))))
  show Tr _ ([.dat (mineD m), .dat (rowsL (rows m n)), .dat (.int level), .dat (.int (-1)), .dat (.bl true), .un, .un, .un] : Env) _
  refine tr_seq (tr_for (sr_r1 (ev_add (ev_ix (ev_ix (ev_var rfl (ev_neg (ev_int ⟨_, rfl, _, _, _, .inr (.inl rfl), rfl, atLast (z := (rowAt m n).d) (by rw [List.getLast?_map, rows_last]; rfl), ev_int ⟨_, _, _, .inl rfl, rfl, rfl, ev_int ⟨_, _, rfl, rfl, _, rfl, by omega, by omega, ?_⟩⟩⟩))))))))
  refine ⟨fun i G => ∃ (x y : Option Dat), G = [.dat (mineD m), .dat (rowsL (rows m n)), .dat (.int level), .dat (.int ((if (i : Int) ≤ wm then (i : Int) else wm) - 1)), .dat (.bl (decide ((i : Int) ≤ wm))), (x.elim Sd.un Sd.dat), (y.elim Sd.un Sd.dat), .un], ⟨none, none, by rw [if_pos (by omega), decide_eq_true (by omega)]; rfl⟩, fun i d G hd hG => ?_, fun G hG => ?_⟩
  · obtain ⟨x, y, rfl⟩ := hG
    obtain ⟨k, hk, rfl⟩ := mapG hd
    obtain ⟨rfl, hi⟩ := rgG hk
    rw [Int.zero_add]
    refine gw_name (tr_seq (tr_set (ev_fz (ev_lcA (sr_lst (ev_var rfl ⟨_, rfl, NoM.cons trivial NoM.nil, by rw [List.length_map, rows_len]; omega, fun j => (((rows m n).take j).filter fun r => decide (r.made = (i : Int))).map Row.d, rfl, fun j d hd => ?_, fun p => ?_⟩))))))
    · obtain ⟨r, hr', rfl⟩ := mapG hd
      refine cw_name (.head _) (tt_T (ev_eqI (ev_ix (ev_var rfl (ev_int ⟨_, _, _, .inl rfl, rfl, rfl, ev_var rfl ⟨_, _, rfl, rfl, _, rfl, rfl, fun e => ev_var rfl ⟨rfl, _, rfl, ?_⟩, fun e => ?_⟩⟩)))))
      · show List.map _ (List.filter _ (List.take (j + 1) _)) = _
        rw [takeS hr', List.filter_append, List.map_append, List.filter_cons_of_pos (by exact e)]
        rfl
      · show List.map _ (List.filter _ (List.take (j + 1) _)) = _
        rw [takeS hr', List.filter_append, List.map_append, List.filter_cons_of_neg (by rw [e]; decide)]
        exact List.append_nil _
    refine ⟨_, _, rfl, ?_⟩
    obtain ⟨hs, hhs⟩ : ∃ x, x = (rows m n).filter fun r => decide (r.made = (i : Int)) := ⟨_, rfl⟩
    have e0 : ((((rows m n).take ((rows m n).map Row.d).length).filter fun r => decide (r.made = (i : Int))).map Row.d) = hs.map Row.d := by rw [List.length_map, takeA, hhs]
    refine putD e0 ?_
    have hh : ∀ r ∈ hs, 1 ≤ r.held.length := fun r hr => held r (by rw [hhs] at hr; exact (List.mem_filter.mp hr).1)
    have hlen : hs.length ≤ 1000000 := by
      rw [hhs]
      have := List.length_filter_le (fun r : Row => decide (r.made = (i : Int))) (rows m n)
      rw [rows_len] at this
      omega
    show Tr _ ([.dat (mineD m), .dat (rowsL (rows m n)), .dat (.int level), .dat (.int ((if (i : Int) ≤ wm then (i : Int) else wm) - 1)), .dat (.bl (decide ((i : Int) ≤ wm))), .dat (.int i), .dat (rowsL hs), .un] : Env) _
    refine tr_seq (tr_set (ev_andJ (decide (((i + 1 : Nat) : Int) ≤ wm)) (ev_var rfl ⟨_, rfl, fun e => ?_, fun e => ?_, ?_⟩)))
    · have e' : (i : Int) ≤ wm := of_decide_eq_true e
      refine ev_eqE (ev_fz (ev_lcA (sr_lst (ev_var rfl ⟨_, rfl, NoM.cons trivial NoM.nil, by rw [List.length_map]; exact hlen, fun j => (ones (wet m level) (hs.take j)).map Dat.int, rfl, fun j d hd => ?_, fun p => ?_⟩))))
      · obtain ⟨r, hr', rfl⟩ := mapG hd
        refine cw_name (.head _) (tt_B (ev_call (av_cons (ev_var rfl (av_cons (ev_ix (ev_var rfl (ev_int ⟨_, _, _, .inl rfl, rfl, rfl, av_cons (ev_var rfl (av_nil ?_))⟩))))))))
        refine call_of (.mk m r.held level o (by omega) h2 (hh r (List.mem_of_getElem? hr'))) rfl ⟨_, rfl, rfl, fun e => ev_int ⟨rfl, _, rfl, ?_⟩, fun e => ?_⟩
        · show (ones _ (List.take (j + 1) _)).map Dat.int = _
          rw [ones_snoc _ _ hr', show wet m level r = true from e, List.map_append]
          rfl
        · show (ones _ (List.take (j + 1) _)).map Dat.int = _
          rw [ones_snoc _ _ hr', show wet m level r = false from e, List.map_append]
          exact List.append_nil _
      refine ⟨_, _, rfl, ev_lst (av_nil ⟨[], rfl, Nat.le_of_ble_eq_true rfl, _, rfl, rfl, ?_, rfl⟩)⟩
      rw [List.length_map, takeA, ones_empty, hhs]
      by_cases q : (i : Int) < wm
      · rw [nb _ q, decide_eq_true (by omega)]
        rfl
      · have : (i : Int) = wm := by omega
        rw [this, sa, decide_eq_false (by omega)]
        rfl
    · have e' : ¬ (i : Int) ≤ wm := of_decide_eq_false e
      exact decide_eq_false (by omega)
    · refine tr_set (ev_ifJ (.int ((if ((i + 1 : Nat) : Int) ≤ wm then ((i + 1 : Nat) : Int) else wm) - 1)) (tt_T (ev_var rfl ⟨_, rfl, fun e => ?_, fun e => ?_, ?_⟩)))
      · have e' : ((i + 1 : Nat) : Int) ≤ wm := of_decide_eq_true e
        refine ev_var rfl ⟨?_, rfl⟩
        rw [if_pos e', show (((i + 1 : Nat) : Int)) - 1 = (i : Int) by omega]
      · have e' : ¬ ((i + 1 : Nat) : Int) ≤ wm := of_decide_eq_false e
        refine ev_var rfl ⟨?_, rfl⟩
        rw [if_neg e']
        by_cases q : (i : Int) ≤ wm
        · rw [if_pos q, show (i : Int) = wm by omega]
        · rw [if_neg q]
      · exact ⟨some (.int i), some (rowsL hs), rfl⟩
  · obtain ⟨x, y, rfl⟩ := hG
    refine tr_ret (ev_var rfl ⟨_, rfl, ?_⟩)
    rw [List.length_map, rgI_len]
    split
    · show Dat.int _ = Dat.int _
      congr 1
      omega
    · rfl
def gR (u : Addr) (a b c : Int) (m : Mine) (n : Nat) (s4 s5 s6 s7 s8 s9 s10 s11 s12 s13 s14 : Sd) : Env := [.own u [.int a, .int b, .int c], .dat (mineD m), .dat (.int n), .dat (rowsL (rows m n)), s4, s5, s6, s7, s8, s9, s10, s11, s12, s13, s14, .un, .un]
theorem putD' {G : Env} {i : Nat} {x y : List Dat} {C : Env → Prop} (e : x = y) (k : put G i (.d (.lst y)) C) : put G i (.d (.lst x)) C := e ▸ k
def wetsOf (m : Mine) (n : Nat) : List (Option Nat) := (levels m).map fun l => firstWet m l (rows m n)
theorem levels_len' (m : Mine) : (levels m).length = m.deep.toNat := by
  unfold levels
  rw [rgI_len]
  congr 1
  omega
theorem levels_get {m : Mine} {i : Nat} {l : Int} (h : (levels m)[i]? = some l) : l = 1 + i ∧ 1 ≤ l ∧ l ≤ m.deep := by
  have := rgG h
  omega
theorem lasts_len (m : Mine) (n : Nat) : (lastsOf m n).length = m.deep.toNat := by
  unfold lastsOf
  rw [List.length_map, levels_len']
theorem wets_len (m : Mine) (n : Nat) : (wetsOf m n).length = m.deep.toNat := by
  unfold wetsOf
  rw [List.length_map, levels_len']
theorem lasts_get {m : Mine} {n i : Nat} {l : Int} (h : (levels m)[i]? = some l) : (lastsOf m n)[i]? = some (lastOf m (rows m n) l) := by
  unfold lastsOf
  rw [List.getElem?_map, h]
  rfl
theorem wets_get {m : Mine} {n i : Nat} {l : Int} (h : (levels m)[i]? = some l) : (wetsOf m n)[i]? = some (firstWet m l (rows m n)) := by
  unfold wetsOf
  rw [List.getElem?_map, h]
  rfl
theorem slots_get' {ls : List (Option Int)} {i : Nat} (h : i < ls.length) : (slotsBy ls)[i]? = some (leastAt ls (i + 1)) := by
  unfold slotsBy
  rw [List.getElem?_map, List.getElem?_range h]
  rfl
theorem slots_len' (ls : List (Option Int)) : (slotsBy ls).length = ls.length := by
  unfold slotsBy
  rw [List.length_map, List.length_range]
theorem mine_toL_dep (m : Mine) : dep 8 (toL 8 (mineD m)) = true := by
  unfold mineD
  cases m.eng with
  | none => simp [dep, toL, intsT, watD, engD, Cist.d]
  | some e => simp [dep, toL, intsT, watD, engD, Cist.d]
theorem mine_toL_small {m : Mine} (o : Ok m) : small 8 (toL 8 (mineD m)) = true := by
  have h1 := o.r1
  have h2 := o.w2
  unfold mineD
  cases e : m.eng with
  | none =>
    simp [small, toL, intsT, watD, engD, Cist.d]
    omega
  | some e' =>
    have h3 := (o.en e' e).2
    simp [small, toL, intsT, watD, engD, Cist.d]
    omega
theorem toT_toL_ints (n : Nat) (ns : List Int) : ((ns.map Dat.int).map (toL (n + 1))).map (toT (n + 1)) = ns.map Dat.int := by
  rw [toL_ints, toT_ints]
theorem toT_toL_wat (n : Nat) (ws : List Cist) : ((ws.map Cist.d).map (toL (n + 2))).map (toT (n + 2)) = ws.map Cist.d := by
  rw [List.map_map, List.map_map]
  exact List.map_congr_left fun a _ => by simp [toT, toL, Cist.d]
theorem mine_back (m : Mine) : toT 8 (toL 8 (mineD m)) = mineD m := by
  unfold mineD
  cases m.eng with
  | none => simp [toT, toL, intsT, watD, toT_toL_ints, toT_toL_wat, engD, -List.map_map]
  | some e => simp [toT, toL, intsT, watD, toT_toL_ints, toT_toL_wat, engD, -List.map_map]
def allD (m : Mine) (n : Nat) : Dat := .lst [intsT ((rows m n).map Row.made), optsT (lastsOf m n), optsT (lastsOf m n), optsT (slotsBy (lastsOf m n)), .lst ((wetsOf m n).map optN)]
theorem optD_dep (n : Nat) (x : Option Int) : dep (n + 1) (optD x) = true := by cases x <;> simp [optD, dep]
theorem optN_dep (n : Nat) (x : Option Nat) : dep (n + 1) (optN x) = true := by cases x <;> simp [optN, dep]
theorem optD_small (n : Nat) (x : Option Int) : small n (optD x) = true := by cases x <;> cases n <;> simp [optD, small]
theorem optN_small (n : Nat) (x : Option Nat) : small n (optN x) = true := by cases x <;> cases n <;> simp [optN, small]
theorem all_dep (m : Mine) (n : Nat) : dep 8 (allD m n) = true := by
  simp [allD, dep, intsT, optsT, optD_dep, optN_dep]
theorem all_small {m : Mine} {n : Nat} (o : Ok m) (h : n ≤ 1000) : small 8 (allD m n) = true := by
  have h1 := lasts_len m n
  have h2 := wets_len m n
  have h3 := rows_len m n
  have h4 := slots_len' (lastsOf m n)
  have h5 := o.d2
  have h6 := o.d1
  simp [allD, small, intsT, optsT, optD_small, optN_small]
  omega
theorem ints_dep (ns : List Int) : dep 8 (intsL ns) = true := by simp [dep, intsL]
theorem ints_small {ns : List Int} (h : ns.length ≤ 1000000) : small 8 (intsL ns) = true := by
  simp [small, intsL]
  exact h
theorem cal__law_right (T : Tx K mg) (C__law_same : Cal P w K mg base 8 "_law_same" ["_law_got", "_law_goal"] (spP (R__law_same 8))) (C_lasts_of : Cal P w K mg base 10 "lasts_of" ["mine", "many"] (spP R_lasts_of)) (C__law_take : Cal P w K mg base 1 "_law_take" ["_law_urn", "_law_low_so"] (spU 1 Pre__law_take R__law_take)) (C_wet_from : Cal P w K mg base 10 "wet_from" ["mine", "level", "many"] (spP R_wet_from)) (C_last_slots : Cal P w K mg base 11 "last_slots" ["mine", "many"] (spP R_last_slots)) (C__law_lists : Cal P w K mg base 8 "_law_lists" ["_law_matter"] (spP (R__law_lists 8))) (C_made_row : Cal P w K mg base 10 "made_row" ["mine", "many"] (spP R_made_row)) (C__law_is_wet : Cal P w K mg base 1 "_law_is_wet" ["_law_mine_so", "_law_held_so", "_law_level_so"] (spP R__law_is_wet)) (C__law_last_passed : Cal P w K mg base 2 "_law_last_passed" ["_law_mine_so", "_law_rows_so", "_law_level_so"] (spP R__law_last_passed)) (C__law_lone : Cal P w K mg base 2 "_law_lone" ["_law_mine_so", "_law_many_so"] (spP R__law_lone)) (C__law_mine : Cal P w K mg base 4 "_law_mine" ["_law_urn", "_law_dear_so"] (spU 200 Pre__law_mine R__law_mine)) : Cal P w K mg base 12 "_law_right" ["_law_urn"] (spU 300 Pre__law_right R__law_right) := by
  have z_enumerate := T.z_enumerate
  have z_isinstance := T.z_isinstance
  have z_len := T.z_len
  have z_list := T.z_list
  have z_min := T.z_min
  have z_range := T.z_range
  have z_tuple := T.z_tuple
  have C__law_same := C__law_same.mono (show 8 ≤ 11 by decide)
  have C_lasts_of := C_lasts_of.mono (show 10 ≤ 11 by decide)
  have C__law_take := C__law_take.mono (show 1 ≤ 11 by decide)
  have C_wet_from := C_wet_from.mono (show 10 ≤ 11 by decide)
  have C_last_slots := C_last_slots.mono (show 11 ≤ 11 by decide)
  have C__law_lists := C__law_lists.mono (show 8 ≤ 11 by decide)
  have C_made_row := C_made_row.mono (show 10 ≤ 11 by decide)
  have C__law_is_wet := C__law_is_wet.mono (show 1 ≤ 11 by decide)
  have C__law_last_passed := C__law_last_passed.mono (show 2 ≤ 11 by decide)
  have C__law_lone := C__law_lone.mono (show 2 ≤ 11 by decide)
  have C__law_mine := C__law_mine.mono (show 4 ≤ 11 by decide)
  refine T.d__law_right.cal sc__law_right (spU_len fun ds h => by cases h <;> rfl) fun f cdv A outer s H vs Q E hr hs => ⟨_, (pss_cons (ps_asg (pe_tup (pa_cons (pe_callC C__law_mine hr rfl (pa_cons (pv 0) (pa_cons pe_bl pa_nil))) (pa_cons (pe_callC C__law_take hr rfl (pa_cons (pv 0) (pa_cons pe_int pa_nil))) pa_nil))) (pg_tupK (K := K) (n := 2) rfl rfl (pgs_cons (pg_name (i := 1) sc__law_right.nd rfl (Or.inr rfl)) (pgs_cons (pg_name (i := 2) sc__law_right.nd rfl (Or.inr rfl)) pgs_nil))))
    (pss_cons (ps_set (i := 3) sc__law_right.nd rfl (Or.inr rfl) (pe_ix (ix_seqK (K := K) rfl) (pe_callC C__law_lone hr rfl (pa_cons (pv 1) (pa_cons (pv 2) pa_nil))) pe_int (fun _ _ => rfl)))
    (pss_cons (ps_set (i := 4) sc__law_right.nd rfl (Or.inl rfl) (pe_listRg rfl (by rfl) z_list (prg_2 (by rfl) z_range pe_int (pe_op (op_addK (K := K) rfl) (pe_ix (ix_seqK (K := K) rfl) (pe_ix (ix_seqK (K := K) rfl) (pv 1) pe_int (fun _ _ => rfl)) pe_int (fun _ _ => rfl)) pe_int))))
    (pss_cons (ps_set (i := 5) sc__law_right.nd rfl (Or.inl rfl) (pe_callTy (crTupK (K := K) rfl) (by rfl) z_tuple (by decide +kernel) (pa_cons (pe_lc (own := [("_law_own", 6)]) (g := (gName 6)) rfl sc__law_right.nd (pi_seqK (K := K) rfl (pv 4)) (blkOk_by (own := [("_law_own", 6)]) (N := n__law_right) (sc := defScope s__law_right) (by decide +kernel)) (fun _ _ _ _ _ => pg_name (i := 6) sc__law_right.nd rfl (Or.inl rfl)) (fun _ _ _ _ _ => pts_nil) (fun _ _ _ _ _ => (pe_callC C__law_last_passed hr rfl (pa_cons (pv 1) (pa_cons (pv 3) (pa_cons (pv 6) pa_nil)))))) pa_nil)))
    (pss_cons (ps_par (i := 7) (j := 8) rfl sc__law_right.nd rfl rfl (by decide) rfl rfl (pa_cons (pe_lst pa_nil) (pa_cons (pe_lst pa_nil) pa_nil)) (by rfl))
    (pss_cons (ps_for PassesOwn.never rfl (pi_seqK (K := K) rfl (pv 4)) (pg_name (i := 6) sc__law_right.nd rfl (Or.inr rfl))
    (pss_cons (ps_setLc (i := 9) (own := [("_law_k", 10), ("_law_last_so", 15)]) (g := (gTup K 2 (gCons (gName 10) (gCons (gName 15) gNil)))) rfl sc__law_right.nd rfl rfl (sw_true rfl rfl rfl (by decide +kernel)) (pi_enumK (K := K) rfl (by rfl) z_enumerate (pa_cons (pe_slice (slK (K := K) rfl) (pv 5) po_none (po_some (pv 6))) pa_nil)) (blkOk_by (own := [("_law_k", 10), ("_law_last_so", 15)]) (N := n__law_right) (sc := defScope s__law_right) (by decide +kernel)) (fun _ _ _ _ _ => pg_tupK (K := K) (n := 2) rfl rfl (pgs_cons (pg_name (i := 10) sc__law_right.nd rfl (Or.inl rfl)) (pgs_cons (pg_name (i := 15) sc__law_right.nd rfl (Or.inl rfl)) pgs_nil))) (fun _ _ _ _ _ => (pts_one (pt_cmpR op_notN (pv 15) pe_non (nomark _)))) (fun _ _ _ _ _ => (pe_op (op_addK (K := K) rfl) (pe_op (op_addK (K := K) rfl) (pv 15) (pv 10)) pe_int)))
    (pss_cons (ps_expr (pe_bm PySem.F.plainAttrs_list PySem.F.slot_list_append PySem.F.type_list_append mt_append (pv 7) (pa_cons (pe_ifExp (pt_cmpR (op_neK (K := K) rfl hr.units) (pv 9) (pe_lst pa_nil) (nomark _)) (pe_callB (crMin1K (K := K) rfl rfl) (by rfl) z_min (by decide +kernel) (pa_cons (pv 9) pa_nil)) pe_non) pa_nil)))
    (pss_cons (ps_setLc (i := 11) (own := [("_law_k", 10), ("_law_row_so", 16)]) (g := (gTup K 2 (gCons (gName 10) (gCons (gName 16) gNil)))) rfl sc__law_right.nd rfl rfl (sw_true rfl rfl rfl (by decide +kernel)) (pi_enumK (K := K) rfl (by rfl) z_enumerate (pa_cons (pv 3) pa_nil)) (blkOk_by (own := [("_law_k", 10), ("_law_row_so", 16)]) (N := n__law_right) (sc := defScope s__law_right) (by decide +kernel)) (fun _ _ _ _ _ => pg_tupK (K := K) (n := 2) rfl rfl (pgs_cons (pg_name (i := 10) sc__law_right.nd rfl (Or.inl rfl)) (pgs_cons (pg_name (i := 16) sc__law_right.nd rfl (Or.inl rfl)) pgs_nil))) (fun _ _ _ _ _ => (pts_one (pt_val (pe_callC C__law_is_wet hr rfl (pa_cons (pv 1) (pa_cons (pe_ix (ix_seqK (K := K) rfl) (pv 16) pe_int (fun _ _ => rfl)) (pa_cons (pv 6) pa_nil))))))) (fun _ _ _ _ _ => (pv 10)))
    (pss_one (ps_expr (pe_bm PySem.F.plainAttrs_list PySem.F.slot_list_append PySem.F.type_list_append mt_append (pv 8) (pa_cons (pe_ifExp (pt_cmpR (op_neK (K := K) rfl hr.units) (pv 11) (pe_lst pa_nil) (nomark _)) (pe_ix (ix_seqK (K := K) rfl) (pv 11) pe_int (fun _ _ => rfl)) pe_non) pa_nil))))))))
    (pss_cons (ps_set (i := 12) sc__law_right.nd rfl (Or.inl rfl) (pe_lst (pa_cons (pe_callC C_made_row hr rfl (pa_cons (pv 1) (pa_cons (pv 2) pa_nil))) (pa_cons (pe_callC C_lasts_of hr rfl (pa_cons (pv 1) (pa_cons (pv 2) pa_nil))) (pa_cons (pe_callC C_lasts_of hr rfl (pa_cons (pe_callC C__law_lists hr rfl (pa_cons (pv 1) pa_nil)) (pa_cons (pv 2) pa_nil))) pa_nil)))))
    (pss_cons (ps_set (i := 12) sc__law_right.nd rfl (Or.inl rfl) (pe_op (op_addK (K := K) rfl) (pv 12) (pe_lst (pa_cons (pe_callC C_last_slots hr rfl (pa_cons (pv 1) (pa_cons (pv 2) pa_nil))) (pa_cons (pe_lc (own := [("_law_own", 6)]) (g := (gName 6)) rfl sc__law_right.nd (pi_seqK (K := K) rfl (pv 4)) (blkOk_by (own := [("_law_own", 6)]) (N := n__law_right) (sc := defScope s__law_right) (by decide +kernel)) (fun _ _ _ _ _ => pg_name (i := 6) sc__law_right.nd rfl (Or.inl rfl)) (fun _ _ _ _ _ => pts_nil) (fun _ _ _ _ _ => (pe_callC C_wet_from hr rfl (pa_cons (pv 1) (pa_cons (pv 6) (pa_cons (pv 2) pa_nil)))))) pa_nil)))))
    (pss_cons (ps_set (i := 13) sc__law_right.nd rfl (Or.inl rfl) (pe_lst (pa_cons (pe_callTy (crTupK (K := K) rfl) (by rfl) z_tuple (by decide +kernel) (pa_cons (pe_lc (own := [("_law_row_so", 16)]) (g := (gName 16)) rfl sc__law_right.nd (pi_seqK (K := K) rfl (pv 3)) (blkOk_by (own := [("_law_row_so", 16)]) (N := n__law_right) (sc := defScope s__law_right) (by decide +kernel)) (fun _ _ _ _ _ => pg_name (i := 16) sc__law_right.nd rfl (Or.inl rfl)) (fun _ _ _ _ _ => pts_nil) (fun _ _ _ _ _ => (pe_ix (ix_seqK (K := K) rfl) (pv 16) pe_int (fun _ _ => rfl)))) pa_nil)) (pa_cons (pv 5) (pa_cons (pv 5) (pa_cons (pe_callTy (crTupK (K := K) rfl) (by rfl) z_tuple (by decide +kernel) (pa_cons (pv 7) pa_nil)) (pa_cons (pv 8) pa_nil)))))))
    (pss_cons (ps_if (pt_not (pt_val (pe_callC C__law_same hr rfl (pa_cons (pv 12) (pa_cons (pv 13) pa_nil))))) (pss_one (ps_ret pe_bl)) pss_nil)
    (pss_cons (ps_for PassesOwn.never rfl (pi_range1 (by rfl) z_range (pa_cons (pe_op op_sub (pe_callB (crLenK (K := K) rfl) (by rfl) z_len (by decide +kernel) (pa_cons (pv 8) pa_nil)) pe_int) pa_nil)) (pg_name (i := 10) sc__law_right.nd rfl (Or.inl rfl))
    (pss_cons (ps_if (PW.pt (pw_and (pt_cmpR op_notN (pe_ix (ix_seqK (K := K) rfl) (pv 8) (pv 10) (fun _ _ => rfl)) pe_non (nomark _)) (pw_and1 (PW.pt (pw_or (pt_cmpR op_isN (pe_ix (ix_seqK (K := K) rfl) (pv 8) (pe_op (op_addK (K := K) rfl) (pv 10) pe_int) (fun _ _ => rfl)) pe_non (nomark _)) (pw_or1 (pt_cmpR op_gt (pe_ix (ix_seqK (K := K) rfl) (pv 8) (pe_op (op_addK (K := K) rfl) (pv 10) pe_int) (fun _ _ => rfl)) (pe_ix (ix_seqK (K := K) rfl) (pv 8) (pv 10) (fun _ _ => rfl)) (nomark _)))))))) (pss_one (ps_ret pe_bl)) pss_nil)
    (pss_one (ps_if (PW.pt (pw_and (pt_cmpR op_notN (pe_ix (ix_seqK (K := K) rfl) (pv 7) (pv 10) (fun _ _ => rfl)) pe_non (nomark _)) (pw_and1 (PW.pt (pw_or (pt_cmpR op_isN (pe_ix (ix_seqK (K := K) rfl) (pv 7) (pe_op (op_addK (K := K) rfl) (pv 10) pe_int) (fun _ _ => rfl)) pe_non (nomark _)) (pw_or1 (pt_cmpR op_gt (pe_ix (ix_seqK (K := K) rfl) (pv 7) (pe_op (op_addK (K := K) rfl) (pv 10) pe_int) (fun _ _ => rfl)) (pe_ix (ix_seqK (K := K) rfl) (pv 7) (pv 10) (fun _ _ => rfl)) (nomark _)))))))) (pss_one (ps_ret pe_bl)) pss_nil))))
    (pss_cons (ps_set (i := 14) sc__law_right.nd rfl (Or.inr rfl) (pe_callC C_lasts_of hr rfl (pa_cons (pv 1) (pa_cons (pe_op (op_addK (K := K) rfl) (pe_op (op_addK (K := K) rfl) (pv 2) pe_int) (pe_callC C__law_take hr rfl (pa_cons (pv 0) (pa_cons pe_int pa_nil)))) pa_nil))))
    (pss_cons (ps_if (PW.pt (pw_or (pt_not (pt_val (pe_callB (crIsiK (K := K) rfl) (by rfl) z_isinstance (by decide +kernel) (pa_cons (pv 14) (pa_cons (pe_bltn (v := .ty "tuple") (by rfl) z_tuple (by decide +kernel) rfl) pa_nil))))) (pw_or1 (pt_cmpR (op_neK (K := K) rfl hr.units) (pe_callB (crLenK (K := K) rfl) (by rfl) z_len (by decide +kernel) (pa_cons (pv 14) pa_nil)) (pe_callB (crLenK (K := K) rfl) (by rfl) z_len (by decide +kernel) (pa_cons (pv 5) pa_nil)) (nomark _))))) (pss_one (ps_ret pe_bl)) pss_nil)
    (pss_one (ps_ret (pe_callC C__law_same hr rfl (pa_cons (pe_lc (own := [("_law_k", 10), ("_law_own", 6)]) (g := (gTup K 2 (gCons (gName 10) (gCons (gName 6) gNil)))) rfl sc__law_right.nd (pi_enumK (K := K) rfl (by rfl) z_enumerate (pa_cons (pv 5) pa_nil)) (blkOk_by (own := [("_law_k", 10), ("_law_own", 6)]) (N := n__law_right) (sc := defScope s__law_right) (by decide +kernel)) (fun _ _ _ _ _ => pg_tupK (K := K) (n := 2) rfl rfl (pgs_cons (pg_name (i := 10) sc__law_right.nd rfl (Or.inl rfl)) (pgs_cons (pg_name (i := 6) sc__law_right.nd rfl (Or.inl rfl)) pgs_nil))) (fun _ _ _ _ _ => (pts_one (pt_cmpR op_notN (pv 6) pe_non (nomark _)))) (fun _ _ _ _ _ => (pe_ix (ix_seqK (K := K) rfl) (pv 14) (pv 10) (fun _ _ => rfl)))) (pa_cons (pe_lc (own := [("_law_own", 6)]) (g := (gName 6)) rfl sc__law_right.nd (pi_seqK (K := K) rfl (pv 5)) (blkOk_by (own := [("_law_own", 6)]) (N := n__law_right) (sc := defScope s__law_right) (by decide +kernel)) (fun _ _ _ _ _ => pg_name (i := 6) sc__law_right.nd rfl (Or.inl rfl)) (fun _ _ _ _ _ => (pts_one (pt_cmpR op_notN (pv 6) pe_non (nomark _)))) (fun _ _ _ _ _ => (pv 6))) pa_nil)))))))))))))))))), fn_U (R := R__law_right) ?_ hs⟩
  rintro _ u a b c0 ⟨⟩ hc0 hc1
  show Tr _ ([.own u [.int a, .int b, .int c0], .un, .un, .un, .un, .un, .un, .un, .un, .un, .un, .un, .un, .un, .un, .un, .un] : Env) _
  refine tr_seq (tr_asg (ev_tup (av_cons ?_)))
  refine ev_callU (i := 0) rfl hc0 (by omega) (av_cons (ev_bl (av_nil ⟨rfl, [_], rfl, .mk, ?_⟩)))
  rintro _ a1 b1 c1 ⟨m, o, hd6, hr10, hs10, hw10⟩ d1 d2
  refine av_cons (ev_callU (i := 0) rfl d1 (by omega) (av_cons (ev_int (av_nil ⟨rfl, [_], rfl, .mk 25 (by decide) (by decide), ?_⟩))))
  rintro _ a2 b2 c2 ⟨_, r, r1, r2⟩ d3 d4
  obtain ⟨n, hn⟩ : ∃ n : Nat, r = (n : Int) := ⟨r.toNat, by omega⟩
  subst hn
  have hn24 : n ≤ 24 := by omega
  have p1 := o.d1
  have dl : ∀ r ∈ rows m n, 1 ≤ r.held.length := fun r hr => by
    obtain ⟨i, _, rfl⟩ := rows_mem hr
    rw [rowAt_len]
    exact o.w1
  refine av_nil ⟨[_, _], rfl, Nat.le_of_ble_eq_true rfl, _, rfl, gw_two ?_⟩
  refine tr_seq (tr_set (ev_ix (ev_call (av_cons (ev_var rfl (av_cons (ev_var rfl (av_nil ?_))))))))
  refine call_of (.mk m n o (by omega)) rfl (ev_int ⟨_, _, _, .inl rfl, rfl, rfl, ?_⟩)
  show Tr _ (gR u a2 b2 c2 m n .un .un .un .un .un .un .un .un .un .un .un) _
  refine tr_seq (tr_set (ev_rg2 (ev_int (ev_add (ev_ix (ev_ix (ev_var rfl (ev_int ⟨_, _, _, .inl rfl, rfl, rfl, ev_int ⟨_, _, _, .inl rfl, rfl, rfl, ev_int ⟨_, _, rfl, rfl, _, _, rfl, rfl, ?_, ?_⟩⟩⟩))))))))
  · refine ⟨?_, ?_, ?_, ?_, ?_⟩ <;> omega
  show Tr _ (gR u a2 b2 c2 m n (.dat (intsL (levels m))) .un .un .un .un .un .un .un .un .un .un) _
  refine tr_seq (tr_set (ev_tuple (ev_lcA (sr_lst (ev_var rfl ⟨_, rfl, NoM.cons trivial NoM.nil, ?_, fun i => ((lastsOf m n).take i).map optD, rfl, fun i d hd => ?_, fun p => ?_⟩)))))
  · rw [List.length_map, levels_len']
    omega
  · obtain ⟨l, hl, rfl⟩ := mapG hd
    have hl' := levels_get hl
    refine cw_name (.head _) (tt_yes ⟨rfl, fun _ => ?_, (fun e => nomatch e)⟩)
    refine ev_call (av_cons (ev_var rfl (av_cons (ev_var rfl (av_cons (ev_var rfl (av_nil ?_)))))))
    exact call_of (.mk m n l o hl'.2.1 hl'.2.2 (by omega)) rfl ⟨rfl, _, rfl, (takeM (lasts_get hl)).symm⟩
  have e0 : ((lastsOf m n).take ((levels m).map Dat.int).length).map optD = (lastsOf m n).map optD := by
    rw [List.length_map, levels_len', ← lasts_len m n, takeA]
  refine ⟨_, .inr (.inr (.inr ⟨_, rfl⟩)), ?_⟩
  show put _ 5 (.d (.tup (((lastsOf m n).take ((levels m).map Dat.int).length).map optD))) _
  rw [e0]
  show Tr _ (gR u a2 b2 c2 m n (.dat (intsL (levels m))) (.dat (optsT (lastsOf m n))) .un .un .un .un .un .un .un .un .un) _
  refine tr_seq (tr_par (av_cons (ev_lstN (av_nil ⟨[], rfl, Nat.le_of_ble_eq_true rfl, fun p => av_cons (ev_lstN (av_nil ⟨[], rfl, Nat.le_of_ble_eq_true rfl, fun q => av_nil ⟨_, _, rfl, ?_⟩⟩))⟩))))
  show Tr _ (gR u a2 b2 c2 m n (.dat (intsL (levels m))) (.dat (optsT (lastsOf m n))) .un (.own p []) (.own q []) .un .un .un .un .un .un) _
  refine tr_seq (tr_for (sr_lst (ev_var rfl ⟨_, rfl, ?_⟩)))
  refine ⟨fun i G => ∃ (x y z w : Option Dat), G = gR u a2 b2 c2 m n (.dat (intsL (levels m))) (.dat (optsT (lastsOf m n))) (x.elim Sd.un Sd.dat) (.own p (((slotsBy (lastsOf m n)).take i).map optD)) (.own q (((wetsOf m n).take i).map optN)) (y.elim Sd.un Sd.dat) .un (w.elim Sd.un Sd.dat) .un .un .un, ⟨none, none, none, none, rfl⟩, fun i d G hd hG => ?_, fun G hG => ?_⟩
  · obtain ⟨x, y, z, w, rfl⟩ := hG
    obtain ⟨l, hl, rfl⟩ := mapG hd
    have hl' := levels_get hl
    have el : l = ((i + 1 : Nat) : Int) := by omega
    subst el
    have hi : i < (lastsOf m n).length := by
      rw [lasts_len]
      omega
    refine gw_name (tr_seq (tr_set (ev_fz (ev_lcA (sr_enT (ev_slT (ev_var rfl (po_no (po_at (ev_var rfl ⟨_, rfl, _, rfl, ?_⟩))))))))))
    rw [cut_take]
    refine ⟨_, rfl, NoM.cons trivial (NoM.cons trivial NoM.nil), ?_, fun j => (knownAt (lastsOf m n) j).map Dat.int, rfl, fun j d hd => ?_, fun p2 => ?_⟩
    · rw [enumD_len, List.length_take, List.length_map]
      have := o.d2
      omega
    · rw [← List.map_take] at hd
      obtain ⟨x, hx, rfl⟩ := enumG hd
      have hx' : (lastsOf m n)[j]? = some x := by
        rw [List.getElem?_take] at hx
        split at hx
        · exact hx
        · cases hx
      have hg : (lastsOf m n).getD j none = x := by
        rw [List.getD_eq_getElem?_getD, hx']
        rfl
      refine cw_two (.head _) (.tail _ (.head _)) (tt_T (ev_notN (ev_var rfl ⟨_, rfl, _, rfl, rfl, fun e => ?_, fun e => ?_⟩)))
      · cases x with
        | none => cases e
        | some l' =>
          refine ev_add (ev_add (ev_var rfl (ev_var rfl ⟨_, _, rfl, rfl, ev_int ⟨_, _, rfl, rfl, rfl, _, rfl, ?_⟩⟩)))
          show (knownAt (lastsOf m n) j ++ (match (lastsOf m n).getD j none with | none => [] | some l => [l + j + 1])).map Dat.int = _
          rw [hg, List.map_append]
          rfl
      · cases x with
        | none =>
          show (knownAt (lastsOf m n) j ++ (match (lastsOf m n).getD j none with | none => [] | some l => [l + j + 1])).map Dat.int = _
          rw [hg, List.map_append]
          exact List.append_nil _
        | some l' => cases e
    refine ⟨_, _, rfl, ?_⟩
    have ek : (enumD (((lastsOf m n).map optD).take (i + 1))).length = i + 1 := by
      rw [enumD_len, List.length_take, List.length_map]
      omega
    refine putD' (y := (knownAt (lastsOf m n) (i + 1)).map Dat.int) (by rw [ek]) ?_
    show Tr _ (gR u a2 b2 c2 m n (.dat (intsL (levels m))) (.dat (optsT (lastsOf m n))) (.dat (.int ((i + 1 : Nat) : Int))) (.own p (((slotsBy (lastsOf m n)).take i).map optD)) (.own q (((wetsOf m n).take i).map optN)) (.dat (intsL (knownAt (lastsOf m n) (i + 1)))) .un (w.elim Sd.un Sd.dat) .un .un .un) _
    refine tr_seq (tr_app ⟨_, _, rfl⟩ (ev_ifJ (optD (leastAt (lastsOf m n) (i + 1))) (tt_T (ev_neE (ev_var rfl (ev_lst (av_nil ⟨[], rfl, Nat.le_of_ble_eq_true rfl, knownAt (lastsOf m n) (i + 1), rfl, rfl, _, rfl, fun e => ?_, fun e => ?_, ?_⟩)))))))
    · have lk := least_known (lastsOf m n) (i + 1)
      refine ev_min1 (ev_var rfl ⟨knownAt (lastsOf m n) (i + 1), .inl rfl, ?_, fun mm hm hle => ⟨?_, rfl⟩⟩)
      · cases h : knownAt (lastsOf m n) (i + 1) with
        | nil =>
          rw [h] at e
          cases e
        | cons _ _ => exact Nat.succ_pos _
      · cases h : leastAt (lastsOf m n) (i + 1) with
        | none =>
          rw [h] at lk
          have lk' : knownAt (lastsOf m n) (i + 1) = [] := lk
          rw [lk'] at hm
          cases hm
        | some bb =>
          rw [h] at lk
          have e1 := lk.2 mm hm
          have e2 := hle bb lk.1
          rw [show mm = bb by omega]
          rfl
    · have lk := least_known (lastsOf m n) (i + 1)
      refine ev_non ⟨?_, rfl⟩
      cases h : leastAt (lastsOf m n) (i + 1) with
      | none => rfl
      | some bb =>
        rw [h] at lk
        have e1 := lk.1
        cases h2 : knownAt (lastsOf m n) (i + 1) with
        | nil =>
          rw [h2] at e1
          cases e1
        | cons _ _ =>
          rw [h2] at e
          cases e
    have sl := o.d2
    refine ⟨_, _, _, rfl, rfl, ?_, ?_⟩
    · rw [List.length_map, List.length_take, slots_len', lasts_len]
      omega
    have hrl : ((rows m n).map Row.d).length = n + 1 := by rw [List.length_map, rows_len]
    refine tr_seq (tr_set (ev_fz (ev_lcA (sr_enL (ev_var rfl ⟨_, rfl, NoM.cons trivial (NoM.cons trivial NoM.nil), by rw [enumD_len, hrl]; omega, fun j => (hereAt (wet m ((i + 1 : Nat) : Int)) (rows m n) j).map Dat.int, rfl, fun j d hd => ?_, fun p2 => ?_⟩)))))
    · obtain ⟨r, hr', rfl⟩ := enumG hd
      have hg : (rows m n).getD j ⟨0, [], 0⟩ = r := by
        rw [List.getD_eq_getElem?_getD, hr']
        rfl
      refine cw_two (.head _) (.tail _ (.head _)) (tt_B (ev_call (av_cons (ev_var rfl (av_cons (ev_ix (ev_var rfl (ev_int ⟨_, _, _, .inl rfl, rfl, rfl, av_cons (ev_var rfl (av_nil ?_))⟩))))))))
      refine call_of (.mk m r.held ((i + 1 : Nat) : Int) o (by omega) hl'.2.2 (dl r (List.mem_of_getElem? hr'))) rfl ⟨_, rfl, rfl, fun e => ev_var rfl ⟨rfl, _, rfl, ?_⟩, fun e => ?_⟩
      · show (hereAt (wet m ((i + 1 : Nat) : Int)) (rows m n) j ++ (if wet m ((i + 1 : Nat) : Int) ((rows m n).getD j ⟨0, [], 0⟩) then [(j : Int)] else [])).map Dat.int = _
        rw [hg, show wet m ((i + 1 : Nat) : Int) r = true from e, List.map_append]
        rfl
      · show (hereAt (wet m ((i + 1 : Nat) : Int)) (rows m n) j ++ (if wet m ((i + 1 : Nat) : Int) ((rows m n).getD j ⟨0, [], 0⟩) then [(j : Int)] else [])).map Dat.int = _
        rw [hg, show wet m ((i + 1 : Nat) : Int) r = false from e, List.map_append]
        exact List.append_nil _
    refine ⟨_, _, rfl, ?_⟩
    refine putD' (y := (hereAt (wet m ((i + 1 : Nat) : Int)) (rows m n) (rows m n).length).map Dat.int) (by rw [enumD_len, List.length_map]) ?_
    obtain ⟨hs, hhs⟩ : ∃ x, x = hereAt (wet m ((i + 1 : Nat) : Int)) (rows m n) (rows m n).length := ⟨_, rfl⟩
    rw [← hhs]
    have hf := here_first (wet m ((i + 1 : Nat) : Int)) (rows m n) (rows m n).length (Nat.le_refl _)
    rw [← hhs] at hf
    refine tr_app ⟨_, _, rfl⟩ (ev_ifJ (optN (firstWet m ((i + 1 : Nat) : Int) (rows m n))) (tt_T (ev_neE (ev_var rfl (ev_lst (av_nil ⟨[], rfl, Nat.le_of_ble_eq_true rfl, hs, rfl, rfl, _, rfl, fun e => ?_, fun e => ?_, ?_⟩))))))
    · unfold firstWet
      cases h : (rows m n).findIdx? (wet m ((i + 1 : Nat) : Int)) with
      | none =>
        rw [h] at hf
        have hf' : hs = [] := hf
        rw [hf'] at e
        cases e
      | some i0 =>
        rw [h] at hf
        have hlt := (List.findIdx?_eq_some_iff_getElem.mp h).1
        have hf' : if (rows m n).length ≤ i0 then hs = [] else hs[0]? = some (i0 : Int) := hf
        rw [if_neg (by omega)] at hf'
        exact ev_ix (ev_var rfl (ev_int ⟨_, _, _, .inr (.inl rfl), rfl, atM' hf' rfl, rfl, rfl⟩))
    · refine ev_non ⟨?_, rfl⟩
      unfold firstWet
      cases h : (rows m n).findIdx? (wet m ((i + 1 : Nat) : Int)) with
      | none => rfl
      | some i0 =>
        rw [h] at hf
        have hlt := (List.findIdx?_eq_some_iff_getElem.mp h).1
        have hf' : if (rows m n).length ≤ i0 then hs = [] else hs[0]? = some (i0 : Int) := hf
        rw [if_neg (by omega)] at hf'
        cases h2 : hs with
        | nil =>
          rw [h2] at hf'
          cases hf'
        | cons _ _ =>
          rw [h2] at e
          cases e
    refine ⟨_, _, _, rfl, rfl, ?_, ?_⟩
    · rw [List.length_map, List.length_take, wets_len]
      omega
    have E1 := takeM (f := optD) (slots_get' hi)
    have E2 := takeM (f := optN) (wets_get (n := n) hl)
    refine ⟨some (.int ((i + 1 : Nat) : Int)), some (intsL (knownAt (lastsOf m n) (i + 1))), none, some (intsL hs), ?_⟩
    refine (?_ : (_ : Env) = _)
    rw [← E1, ← E2]
    rfl
  obtain ⟨x, y, z, w, rfl⟩ := hG
  have e1 : ((slotsBy (lastsOf m n)).take ((levels m).map Dat.int).length).map optD = (slotsBy (lastsOf m n)).map optD := by
    rw [List.length_map, levels_len', ← lasts_len m n, ← slots_len' (lastsOf m n), takeA]
  have e2 : ((wetsOf m n).take ((levels m).map Dat.int).length).map optN = (wetsOf m n).map optN := by
    rw [List.length_map, levels_len', ← wets_len m n, takeA]
  rw [e1, e2]
  refine tr_freeze (i := 7) rfl (tr_freeze (i := 8) rfl ?_)
  show Tr _ (gR u a2 b2 c2 m n (.dat (intsL (levels m))) (.dat (optsT (lastsOf m n))) (x.elim Sd.un Sd.dat) (.dat (optsL (slotsBy (lastsOf m n)))) (.dat (.lst ((wetsOf m n).map optN))) (y.elim Sd.un Sd.dat) .un (w.elim Sd.un Sd.dat) .un .un .un) _
  have dl2 := o.d2
  have n6 : ∀ z : Option Dat, match (some (z.elim Sd.un Sd.dat) : Option Sd) with
    | some (.own _ _) => False
    | _ => True := fun z => by cases z <;> exact trivial
  -- heard
  refine tr_seq (tr_set (ev_lst (av_cons (ev_call (av_cons (ev_var rfl (av_cons (ev_var rfl (av_nil ?_)))))))))
  refine call_of (.mk m n o (by omega)) rfl (av_cons (ev_call (av_cons (ev_var rfl (av_cons (ev_var rfl (av_nil ?_)))))))
  refine call_of (.mk m (mineD m) n o (mine_dep m) (mine_small o) (mine_toT m) (by omega)) rfl (av_cons (ev_call (av_cons (ev_call (av_cons (ev_var rfl (av_nil ?_)))))))
  refine call_of (.mk (mineD m) (mine_dep m) (mine_small o)) rfl (av_cons (ev_var rfl (av_nil ?_)))
  refine call_of (.mk m (toL 8 (mineD m)) n o (mine_toL_dep m) (mine_toL_small o) (mine_back m) (by omega)) rfl (av_nil ⟨[_, _, _], rfl, Nat.le_of_ble_eq_true rfl, ?_⟩)
  refine tr_seq (tr_set (ev_cat (ev_var rfl (ev_lst (av_cons (ev_call (av_cons (ev_var rfl (av_cons (ev_var rfl (av_nil ?_)))))))))))
  refine call_of (.mk m n o (by omega)) rfl (av_cons (ev_fz (ev_lcA (sr_lst (ev_var rfl ⟨_, rfl, NoM.cons (v := 6) (n6 x) NoM.nil, by rw [List.length_map, levels_len']; omega, fun i => ((wetsOf m n).take i).map optN, rfl, fun i d hd => ?_, fun p2 => ?_⟩)))))
  · obtain ⟨l, hl, rfl⟩ := mapG hd
    have hl' := levels_get hl
    refine cw_name (.head _) (tt_yes ⟨rfl, fun _ => ?_, (fun e => nomatch e)⟩)
    refine ev_call (av_cons (ev_var rfl (av_cons (ev_var rfl (av_cons (ev_var rfl (av_nil ?_)))))))
    exact call_of (.mk m l n o (by omega) hl'.2.2 (by omega)) rfl ⟨rfl, _, rfl, (takeM (wets_get hl)).symm⟩
  refine ⟨_, _, rfl, av_nil ⟨[_, _], rfl, Nat.le_of_ble_eq_true rfl, _, _, rfl, rfl, by show 5 ≤ sizeLine; decide, ?_⟩⟩
  refine putD' (y := [intsT ((rows m n).map Row.made), optsT (lastsOf m n), optsT (lastsOf m n), optsT (slotsBy (lastsOf m n)), .lst ((wetsOf m n).map optN)]) (congrArg (fun z => [_, _, _, _, Dat.lst z]) e2) ?_
  -- due
  refine tr_seq (tr_set (ev_lst (av_cons (ev_tuple (ev_lcA (sr_lst (ev_var rfl ⟨_, rfl, NoM.cons trivial NoM.nil, by rw [List.length_map, rows_len]; omega, fun i => (((rows m n).map Row.made).take i).map Dat.int, rfl, fun i d hd => ?_, fun p2 => ?_⟩)))))))
  · obtain ⟨r, hr', rfl⟩ := mapG hd
    refine cw_name (.head _) (tt_yes ⟨rfl, fun _ => ?_, (fun e => nomatch e)⟩)
    refine ev_ix (ev_var rfl (ev_int ⟨_, _, _, .inl rfl, rfl, rfl, rfl, _, rfl, (takeM (xs := (rows m n).map Row.made) ?_).symm⟩))
    rw [List.getElem?_map, hr']
    rfl
  refine ⟨_, .inr (.inr (.inr ⟨_, rfl⟩)), av_cons (ev_var rfl (av_cons (ev_var rfl (av_cons (ev_tuple (ev_var rfl ⟨_, .inr (.inl rfl), av_cons (ev_var rfl (av_nil ⟨[_, _, _, _, _], rfl, Nat.le_of_ble_eq_true rfl, ?_⟩))⟩))))))⟩
  have e3 : (((rows m n).map Row.made).take ((rows m n).map Row.d).length).map Dat.int = ((rows m n).map Row.made).map Dat.int := by
    rw [List.length_map, List.take_of_length_le (by rw [List.length_map]; exact Nat.le_refl _)]
  refine putD' (y := [intsT ((rows m n).map Row.made), optsT (lastsOf m n), optsT (lastsOf m n), optsT (slotsBy (lastsOf m n)), .lst ((wetsOf m n).map optN)]) (congrArg (fun z => [Dat.tup z, _, _, _, _]) e3) ?_
  show Tr _ (gR u a2 b2 c2 m n (.dat (intsL (levels m))) (.dat (optsT (lastsOf m n))) (x.elim Sd.un Sd.dat) (.dat (optsL (slotsBy (lastsOf m n)))) (.dat (.lst ((wetsOf m n).map optN))) (y.elim Sd.un Sd.dat) .un (w.elim Sd.un Sd.dat) (.dat (allD m n)) (.dat (allD m n)) .un) _
  refine tr_seq (tr_if (tt_not (tt_B (ev_call (av_cons (ev_var rfl (av_cons (ev_var rfl (av_nil ?_)))))))))
  refine call_of (.mk (allD m n) (all_dep m n) (all_small o (by omega))) rfl ⟨_, rfl, (fun z => nomatch z), fun _ => tr_next ?_⟩
  -- deeper levels
  refine tr_seq (tr_for (sr_r1 (ev_sub (ev_len (ev_var rfl ⟨_, .inr (.inl rfl), ev_int ⟨_, _, rfl, rfl, _, rfl, ?_⟩⟩)))))
  rw [List.length_map, wets_len]
  refine ⟨by omega, by omega, fun i G => ∃ v : Option Dat, G = gR u a2 b2 c2 m n (.dat (intsL (levels m))) (.dat (optsT (lastsOf m n))) (x.elim Sd.un Sd.dat) (.dat (optsL (slotsBy (lastsOf m n)))) (.dat (.lst ((wetsOf m n).map optN))) (y.elim Sd.un Sd.dat) (v.elim Sd.un Sd.dat) (w.elim Sd.un Sd.dat) (.dat (allD m n)) (.dat (allD m n)) .un, ⟨none, rfl⟩, fun i d G hd hG => ?_, fun G hG => ?_⟩
  · obtain ⟨v, rfl⟩ := hG
    obtain ⟨k, hk, rfl⟩ := mapG hd
    obtain ⟨rfl, hi⟩ := rgG hk
    rw [Int.zero_add]
    have hi1 : i + 1 < (levels m).length := by
      rw [levels_len']
      omega
    obtain ⟨l1, hl1⟩ := getOf (xs := levels m) (i := i) (by omega)
    obtain ⟨l2, hl2⟩ := getOf (xs := levels m) (i := i + 1) hi1
    have g1 := levels_get hl1
    have g2 := levels_get hl2
    have el : l2 = l1 + 1 := by omega
    have hw1 := wets_get (n := n) hl1
    have hw2 := wets_get (n := n) hl2
    have hs1 := slots_get' (ls := lastsOf m n) (i := i) (by rw [lasts_len, ← levels_len' m]; omega)
    have hs2 := slots_get' (ls := lastsOf m n) (i := i + 1) (by rw [lasts_len, ← levels_len' m]; omega)
    refine gw_name (tr_seq (tr_ifJ false ?_ (fun z => nomatch z) (fun _ => tr_next ?_)))
    · refine tt_and (tt_T (ev_notN (ev_ix (ev_var rfl (ev_var rfl ⟨_, _, _, .inr (.inl rfl), rfl, atM hw1, _, rfl, _, rfl, fun e => ?_, fun e => ⟨rfl, rfl⟩⟩)))))
      cases h1 : firstWet m l1 (rows m n) with
      | none =>
        rw [h1] at e
        cases e
      | some j1 =>
        obtain ⟨j2, h2, hle⟩ := first_deeper o h1
        rw [← el] at h2
        rw [h1] at hw1
        rw [h2] at hw2
        refine tt_or (tt_T (ev_isN (ev_ix (ev_var rfl (ev_add (ev_var rfl (ev_int ⟨_, _, rfl, rfl, _, _, _, .inr (.inl rfl), rfl, atM' hw2 rfl, _, rfl, _, rfl, (fun z => nomatch z), fun _ => ?_⟩)))))))
        refine tt_T (ev_gt (ev_ix (ev_var rfl (ev_add (ev_var rfl (ev_int ⟨_, _, rfl, rfl, _, _, _, .inr (.inl rfl), rfl, atM' hw2 rfl, ev_ix (ev_var rfl (ev_var rfl ⟨_, _, _, .inr (.inl rfl), rfl, atM hw1, _, _, rfl, rfl, _, rfl, ?_, rfl⟩))⟩))))))
        exact decide_eq_false (by omega)
    · refine tr_ifJ false ?_ (fun z => nomatch z) (fun _ => tr_next ⟨some (.int i), rfl⟩)
      refine tt_and (tt_T (ev_notN (ev_ix (ev_var rfl (ev_var rfl ⟨_, _, _, .inr (.inl rfl), rfl, atM hs1, _, rfl, _, rfl, fun e => ?_, fun e => ⟨rfl, rfl⟩⟩)))))
      cases h1 : leastAt (lastsOf m n) (i + 1) with
      | none =>
        rw [h1] at e
        cases e
      | some j1 =>
        obtain ⟨j2, h2, hle⟩ := least_mono h1
        rw [h1] at hs1
        rw [h2] at hs2
        refine tt_or (tt_T (ev_isN (ev_ix (ev_var rfl (ev_add (ev_var rfl (ev_int ⟨_, _, rfl, rfl, _, _, _, .inr (.inl rfl), rfl, atM' hs2 rfl, _, rfl, _, rfl, (fun z => nomatch z), fun _ => ?_⟩)))))))
        refine tt_T (ev_gt (ev_ix (ev_var rfl (ev_add (ev_var rfl (ev_int ⟨_, _, rfl, rfl, _, _, _, .inr (.inl rfl), rfl, atM' hs2 rfl, ev_ix (ev_var rfl (ev_var rfl ⟨_, _, _, .inr (.inl rfl), rfl, atM hs1, _, _, rfl, rfl, _, rfl, ?_, rfl⟩))⟩))))))
        exact decide_eq_false (by omega)
  obtain ⟨v, rfl⟩ := hG
  -- later rests
  refine tr_seq (tr_set (ev_call (av_cons (ev_var rfl (av_cons (ev_add (ev_add (ev_var rfl (ev_int ⟨_, _, rfl, rfl, ?_⟩)))))))))
  refine ev_callU (i := 0) rfl d3 (by omega) (av_cons (ev_int (av_nil ⟨rfl, [_], rfl, .mk 12 (by decide) (by decide), ?_⟩)))
  rintro _ a3 b3 c3 ⟨_, t, t1, t2⟩ d5 d6
  obtain ⟨k, hk⟩ : ∃ k : Nat, t = (k : Int) := ⟨t.toNat, by omega⟩
  subst hk
  refine ⟨_, _, rfl, rfl, av_nil ?_⟩
  refine call_of (.mk m (mineD m) (n + 1 + k) o (mine_dep m) (mine_small o) (mine_toT m) (by omega)) rfl ?_
  show Tr _ (gR u a3 b3 c3 m n (.dat (intsL (levels m))) (.dat (optsT (lastsOf m n))) (x.elim Sd.un Sd.dat) (.dat (optsL (slotsBy (lastsOf m n)))) (.dat (.lst ((wetsOf m n).map optN))) (y.elim Sd.un Sd.dat) (v.elim Sd.un Sd.dat) (w.elim Sd.un Sd.dat) (.dat (allD m n)) (.dat (allD m n)) (.dat (optsT (lastsOf m (n + 1 + k))))) _
  refine tr_seq (tr_ifJ false ?_ (fun z => nomatch z) (fun _ => tr_next ?_))
  · refine tt_or (tt_not (tt_B (ev_isi (ev_var rfl ⟨_, rfl, .inr (.inl rfl), _, rfl, (fun z => nomatch z), fun _ => ?_⟩))))
    refine tt_T (ev_neI (ev_len (ev_var rfl ⟨_, .inl rfl, ev_len (ev_var rfl ⟨_, .inl rfl, _, _, rfl, rfl, _, rfl, ?_, rfl⟩)⟩)))
    rw [List.length_map, List.length_map, lasts_len, lasts_len, decide_eq_true rfl]
    rfl
  have hLl : (lastsOf m n).length ≤ 1000 := by
    rw [lasts_len]
    omega
  refine tr_ret (ev_call (av_cons (ev_fz (ev_lcA (sr_enT (ev_var rfl ⟨_, rfl, NoM.cons (v := 10) (n6 v) (NoM.cons (v := 6) (n6 x) NoM.nil), by rw [enumD_len, List.length_map]; omega, fun j => (selAt (lastsOf m n) j).map Dat.int, rfl, fun j d hd => ?_, fun p2 => ?_⟩))))))
  · obtain ⟨l0, hl0, rfl⟩ := enumG hd
    obtain ⟨l, hl⟩ := getOf (xs := levels m) (i := j) (by rw [levels_len', ← lasts_len m n]; exact ltOf hl0)
    have hla := lasts_get (n := n + 1 + k) hl
    have hlb := lasts_get (n := n) hl
    rw [hl0] at hlb
    refine cw_two (.head _) (.tail _ (.head _)) (tt_T (ev_notN (ev_var rfl ⟨_, rfl, _, rfl, rfl, fun e => ?_, fun e => ?_⟩)))
    · cases l0 with
      | none => cases e
      | some z =>
        rw [last_later (k := n + 1 + k) (by omega) (Option.some.inj hlb).symm] at hla
        refine ev_ix (ev_var rfl (ev_var rfl ⟨_, _, _, .inl rfl, rfl, atM hla, rfl, _, rfl, ?_⟩))
        show (selAt (lastsOf m n) (j + 1)).map Dat.int = _
        rw [sel_snoc hl0, List.map_append]
        rfl
    · cases l0 with
      | none =>
        show (selAt (lastsOf m n) (j + 1)).map Dat.int = _
        rw [sel_snoc hl0, List.map_append]
        exact List.append_nil _
      | some z => cases e
  refine ⟨_, _, rfl, av_cons (ev_fz (ev_lcA (sr_tup (ev_var rfl ⟨_, rfl, NoM.cons (v := 6) (n6 x) NoM.nil, by rw [List.length_map]; omega, fun j => (selAt (lastsOf m n) j).map Dat.int, rfl, fun j d hd => ?_, fun p3 => ?_⟩))))⟩
  · obtain ⟨l0, hl0, rfl⟩ := mapG hd
    refine cw_name (.head _) (tt_T (ev_notN (ev_var rfl ⟨_, rfl, _, rfl, rfl, fun e => ?_, fun e => ?_⟩)))
    · cases l0 with
      | none => cases e
      | some z =>
        refine ev_var rfl ⟨rfl, _, rfl, ?_⟩
        show (selAt (lastsOf m n) (j + 1)).map Dat.int = _
        rw [sel_snoc hl0, List.map_append]
        rfl
    · cases l0 with
      | none =>
        show (selAt (lastsOf m n) (j + 1)).map Dat.int = _
        rw [sel_snoc hl0, List.map_append]
        exact List.append_nil _
      | some z => cases e
  refine ⟨_, _, rfl, av_nil ?_⟩
  rw [enumD_len, List.length_map]
  refine call_of (.mk (intsL (selAt (lastsOf m n) (lastsOf m n).length)) (ints_dep _) (ints_small (by have := sel_len (lastsOf m n) (lastsOf m n).length; omega))) rfl ⟨_, rfl, .mk, _, _, _, rfl, d5, by omega⟩
theorem all_get' {p : Dat → Bool} {ds : List Dat} {i : Nat} {d : Dat} (h : ds.all p = true) (k : ds[i]? = some d) : p d = true := List.all_eq_true.mp h d (List.mem_of_getElem? k)
theorem small_len' {n : Nat} {ds : List Dat} (h : (decide (ds.length ≤ 1000000) && ds.all (small n)) = true) : ds.length ≤ 1000000 ∧ ds.all (small n) = true := by
  rw [Bool.and_eq_true] at h
  exact ⟨of_decide_eq_true h.1, h.2⟩
theorem rep_snoc (n : Nat) : List.replicate (n + 1) (Dat.bl true) = List.replicate n (Dat.bl true) ++ [Dat.bl true] := by
  rw [List.replicate_succ']
theorem rep_all (n : Nat) : (List.replicate n true).all id = true := by
  rw [List.all_eq_true]
  intro b hb
  exact (List.mem_replicate.mp hb).2
theorem isiV {T : String} {i : Nat} {d : Dat} {G : Env} {KK : Vd → Env → Prop} (e : G[i]? = some (.dat d)) (hT : T = "list" ∨ T = "tuple" ∨ T = "int" ∨ T = "bool" ∨ T = "str") (k : KK (.d (.bl (isD d T))) G) : EvW (tCB (rIsi K) (tCons (tVar i) (tCons (tC (.ty T)) tNil))) G KK := ev_isi (ev_var e ⟨d, rfl, hT, k⟩)
theorem eqR {α : Type} [DecidableEq α] (a : α) : decide (a = a) = true := decide_eq_true rfl
theorem cal__law_same_at (T : Tx K mg) (k : Nat) : Cal P w K mg base k "_law_same" ["_law_got", "_law_goal"] (spP (R__law_same k)) := by
  refine Nat.rec (motive := fun k => Cal P w K mg base k "_law_same" ["_law_got", "_law_goal"] (spP (R__law_same k))) ?_ (fun n C__law_same => ?_) k
  · exact T.d__law_same.none fun vs H Q E ⟨B, ds, d, _, _, r, _⟩ => by cases r; contradiction
  have z_all := T.z_all
  have z_bool := T.z_bool
  have z_int := T.z_int
  have z_isinstance := T.z_isinstance
  have z_len := T.z_len
  have z_list := T.z_list
  have z_str := T.z_str
  have z_tuple := T.z_tuple
  have z_zip := T.z_zip
  refine T.d__law_same.cal sc__law_same (spP_len fun ds d h => by cases h <;> rfl) fun f cdv A outer s H vs Q E hr hs => ⟨_, (pss_cons (ps_if (pt_val (pe_callB (crIsiTK (K := K) rfl) (by rfl) z_isinstance (by decide +kernel) (pa_cons (pv 1) (pa_cons (pe_tup (pa_cons (pe_bltn (v := .ty "list") (by rfl) z_list (by decide +kernel) rfl) (pa_cons (pe_bltn (v := .ty "tuple") (by rfl) z_tuple (by decide +kernel) rfl) pa_nil))) pa_nil)))) (pss_cons (ps_if (PW.pt (pw_or (pt_cmpR (op_neK (K := K) rfl hr.units) (pe_callB (crIsiK (K := K) rfl) (by rfl) z_isinstance (by decide +kernel) (pa_cons (pv 0) (pa_cons (pe_bltn (v := .ty "list") (by rfl) z_list (by decide +kernel) rfl) pa_nil))) (pe_callB (crIsiK (K := K) rfl) (by rfl) z_isinstance (by decide +kernel) (pa_cons (pv 1) (pa_cons (pe_bltn (v := .ty "list") (by rfl) z_list (by decide +kernel) rfl) pa_nil))) (nomark _)) (pw_or1 (pt_cmpR (op_neK (K := K) rfl hr.units) (pe_callB (crIsiK (K := K) rfl) (by rfl) z_isinstance (by decide +kernel) (pa_cons (pv 0) (pa_cons (pe_bltn (v := .ty "tuple") (by rfl) z_tuple (by decide +kernel) rfl) pa_nil))) (pe_callB (crIsiK (K := K) rfl) (by rfl) z_isinstance (by decide +kernel) (pa_cons (pv 1) (pa_cons (pe_bltn (v := .ty "tuple") (by rfl) z_tuple (by decide +kernel) rfl) pa_nil))) (nomark _))))) (pss_one (ps_ret pe_bl)) pss_nil)
    (pss_one (ps_ret (pe_and (pe_cmpR (op_eqK (K := K) rfl hr.units) (pe_callB (crLenK (K := K) rfl) (by rfl) z_len (by decide +kernel) (pa_cons (pv 0) pa_nil)) (pe_callB (crLenK (K := K) rfl) (by rfl) z_len (by decide +kernel) (pa_cons (pv 1) pa_nil)) (nomark _)) (pe_one (pe_callB (crAllK (K := K) rfl rfl) (by rfl) z_all (by decide +kernel) (pa_cons (pe_lc (own := [("_law_its", 2), ("_law_own", 3)]) (g := (gTup K 2 (gCons (gName 2) (gCons (gName 3) gNil)))) rfl sc__law_same.nd (pi_zipK (K := K) rfl (by rfl) z_zip (pa_cons (pv 0) (pa_cons (pv 1) pa_nil))) (blkOk_by (own := [("_law_its", 2), ("_law_own", 3)]) (N := n__law_same) (sc := defScope s__law_same) (by decide +kernel)) (fun _ _ _ _ _ => pg_tupK (K := K) (n := 2) rfl rfl (pgs_cons (pg_name (i := 2) sc__law_same.nd rfl (Or.inl rfl)) (pgs_cons (pg_name (i := 3) sc__law_same.nd rfl (Or.inl rfl)) pgs_nil))) (fun _ _ _ _ _ => pts_nil) (fun _ _ _ _ _ => (pe_callC C__law_same hr rfl (pa_cons (pv 2) (pa_cons (pv 3) pa_nil))))) pa_nil))))))) pss_nil)
    (pss_cons (ps_if (PW.pt (pw_or (pt_cmpR op_isN (pv 1) pe_non (nomark _)) (pw_or1 (pt_val (pe_callB (crIsiTK (K := K) rfl) (by rfl) z_isinstance (by decide +kernel) (pa_cons (pv 1) (pa_cons (pe_tup (pa_cons (pe_bltn (v := .ty "bool") (by rfl) z_bool (by decide +kernel) rfl) (pa_cons (pe_bltn (v := .ty "str") (by rfl) z_str (by decide +kernel) rfl) pa_nil))) pa_nil))))))) (pss_one (ps_ret (pe_and (pe_cmpR (op_eqK (K := K) rfl hr.units) (pv 0) (pv 1) (nomark _)) (pe_and (pe_cmpR (op_eqK (K := K) rfl hr.units) (pe_callB (crIsiK (K := K) rfl) (by rfl) z_isinstance (by decide +kernel) (pa_cons (pv 0) (pa_cons (pe_bltn (v := .ty "bool") (by rfl) z_bool (by decide +kernel) rfl) pa_nil))) (pe_callB (crIsiK (K := K) rfl) (by rfl) z_isinstance (by decide +kernel) (pa_cons (pv 1) (pa_cons (pe_bltn (v := .ty "bool") (by rfl) z_bool (by decide +kernel) rfl) pa_nil))) (nomark _)) (pe_one (pe_cmpR (op_eqK (K := K) rfl hr.units) (pe_cmpR op_isN (pv 0) pe_non (nomark _)) (pe_cmpR op_isN (pv 1) pe_non (nomark _)) (nomark _))))))) pss_nil)
    (pss_one (ps_ret (pe_and (pe_callB (crIsiK (K := K) rfl) (by rfl) z_isinstance (by decide +kernel) (pa_cons (pv 0) (pa_cons (pe_bltn (v := .ty "int") (by rfl) z_int (by decide +kernel) rfl) pa_nil))) (pe_and (pe_not (pe_callB (crIsiK (K := K) rfl) (by rfl) z_isinstance (by decide +kernel) (pa_cons (pv 0) (pa_cons (pe_bltn (v := .ty "bool") (by rfl) z_bool (by decide +kernel) rfl) pa_nil)))) (pe_one (pe_cmpR (op_eqK (K := K) rfl hr.units) (pv 0) (pv 1) (nomark _))))))))), fn_P (R := R__law_same (n + 1)) ?_ hs⟩
  rintro _ _ ⟨d, h, h2⟩
  have tL : "list" = "list" ∨ "list" = "tuple" ∨ "list" = "int" ∨ "list" = "bool" ∨ "list" = "str" := .inl rfl
  have tT : "tuple" = "list" ∨ "tuple" = "tuple" ∨ "tuple" = "int" ∨ "tuple" = "bool" ∨ "tuple" = "str" := .inr (.inl rfl)
  have tI : "int" = "list" ∨ "int" = "tuple" ∨ "int" = "int" ∨ "int" = "bool" ∨ "int" = "str" := .inr (.inr (.inl rfl))
  have tO : "bool" = "list" ∨ "bool" = "tuple" ∨ "bool" = "int" ∨ "bool" = "bool" ∨ "bool" = "str" := .inr (.inr (.inr (.inl rfl)))
  have tS : "str" = "list" ∨ "str" = "tuple" ∨ "str" = "int" ∨ "str" = "bool" ∨ "str" = "str" := .inr (.inr (.inr (.inr rfl)))
  show Tr _ ([.dat d, .dat d, .un, .un] : Env) _
  refine tr_seq (tr_if (tt_T (ev_isi2 (ev_var rfl ⟨_, rfl, .inl rfl, .inr (.inl rfl), _, rfl, ?_⟩))))
  cases d with
  | non =>
    refine ⟨(fun z => nomatch z), fun _ => tr_next ?_⟩
    refine tr_seq (tr_if (tt_or (tt_T (ev_isN (ev_var rfl ⟨_, rfl, _, rfl, fun _ => ⟨fun _ => ?_, (fun z => nomatch z)⟩, (fun z => nomatch z)⟩)))))
    refine tr_ret (ev_and (ev_eqN (ev_var rfl (ev_var rfl ⟨rfl, rfl, _, rfl, fun _ => ev_and (ev_eqB (isiV rfl tO (isiV rfl tO ⟨_, _, rfl, rfl, _, rfl, fun _ => ?_, (fun z => nomatch z)⟩))), (fun z => nomatch z)⟩))))
    exact ev_eqB (ev_isN (ev_var rfl ⟨_, rfl, ev_isN (ev_var rfl ⟨_, rfl, _, _, rfl, rfl, _, rfl, rfl⟩)⟩))
  | bl b =>
    refine ⟨(fun z => nomatch z), fun _ => tr_next ?_⟩
    refine tr_seq (tr_if (tt_or (tt_T (ev_isN (ev_var rfl ⟨_, rfl, _, rfl, (fun z => nomatch z), fun _ => tt_B (ev_isi2 (ev_var rfl ⟨_, rfl, tO, tS, _, rfl, fun _ => ?_, (fun z => nomatch z)⟩))⟩)))))
    refine tr_ret (ev_and (ev_eqB (ev_var rfl (ev_var rfl ⟨_, _, rfl, rfl, _, rfl, fun _ => ev_and (ev_eqB (isiV rfl tO (isiV rfl tO ⟨_, _, rfl, rfl, _, rfl, fun _ => ?_, (fun z => nomatch z)⟩))), fun z => by rw [eqR] at z; cases z⟩))))
    exact ev_eqB (ev_isN (ev_var rfl ⟨_, rfl, ev_isN (ev_var rfl ⟨_, rfl, _, _, rfl, rfl, _, rfl, rfl⟩)⟩))
  | int b =>
    refine ⟨(fun z => nomatch z), fun _ => tr_next ?_⟩
    refine tr_seq (tr_if (tt_or (tt_T (ev_isN (ev_var rfl ⟨_, rfl, _, rfl, (fun z => nomatch z), fun _ => tt_B (ev_isi2 (ev_var rfl ⟨_, rfl, tO, tS, _, rfl, (fun z => nomatch z), fun _ => tr_next ?_⟩))⟩)))))
    refine tr_ret (ev_and (isiV rfl tI ⟨_, rfl, fun _ => ev_and (ev_not (isiV rfl tO ⟨_, rfl, _, rfl, fun _ => ?_, (fun z => nomatch z)⟩)), (fun z => nomatch z)⟩))
    exact ev_eqI (ev_var rfl (ev_var rfl ⟨_, _, rfl, rfl, _, rfl, by rw [eqR]⟩))
  | tup ds =>
    refine ⟨fun _ => ?_, (fun z => nomatch z)⟩
    have hs2 := small_len' h2
    refine tr_seq (tr_if (tt_or (tt_T (ev_neB (isiV rfl tL (isiV rfl tL ⟨_, _, rfl, rfl, _, rfl, (fun z => nomatch z), fun _ => tt_T (ev_neB (isiV rfl tT (isiV rfl tT ⟨_, _, rfl, rfl, _, rfl, (fun z => nomatch z), fun _ => tr_next ?_⟩)))⟩))))))
    refine tr_ret (ev_and (ev_eqI (ev_len (ev_var rfl ⟨_, .inl rfl, ev_len (ev_var rfl ⟨_, .inl rfl, _, _, rfl, rfl, _, rfl, fun _ => ?_, fun z => by rw [eqR] at z; cases z⟩)⟩))))
    refine ev_all (ev_lcA (sr_zTT (ev_var rfl (ev_var rfl ⟨_, _, rfl, rfl, NoM.cons trivial (NoM.cons trivial NoM.nil), by rw [zipD_len, Nat.min_self]; exact hs2.1, fun i => (List.replicate i true).map Dat.bl, rfl, fun i x hx => ?_, fun p => ?_⟩))))
    · obtain ⟨a, b, ha, hb, rfl⟩ := zipD_get hx
      rw [ha] at hb
      cases hb
      refine cw_two (.head _) (.tail _ (.head _)) (tt_yes ⟨rfl, fun _ => ?_, (fun e => nomatch e)⟩)
      walk_at "go"
      refine call_of (.mk a (all_get' h ha) (all_get' hs2.2 ha)) rfl ⟨rfl, _, rfl, ?_⟩
      show (List.replicate (i + 1) true).map Dat.bl = _
      rw [List.replicate_succ', List.map_append]
      rfl
    · refine ⟨_, .inr (.inr ⟨_, rfl⟩), _, rfl, ?_⟩
      rw [rep_all]
  | lst ds =>
    refine ⟨fun _ => ?_, (fun z => nomatch z)⟩
    have hs2 := small_len' h2
    refine tr_seq (tr_if (tt_or (tt_T (ev_neB (isiV rfl tL (isiV rfl tL ⟨_, _, rfl, rfl, _, rfl, (fun z => nomatch z), fun _ => tt_T (ev_neB (isiV rfl tT (isiV rfl tT ⟨_, _, rfl, rfl, _, rfl, (fun z => nomatch z), fun _ => tr_next ?_⟩)))⟩))))))
    refine tr_ret (ev_and (ev_eqI (ev_len (ev_var rfl ⟨_, .inr (.inl rfl), ev_len (ev_var rfl ⟨_, .inr (.inl rfl), _, _, rfl, rfl, _, rfl, fun _ => ?_, fun z => by rw [eqR] at z; cases z⟩)⟩))))
    refine ev_all (ev_lcA (sr_zLL (ev_var rfl (ev_var rfl ⟨_, _, rfl, rfl, NoM.cons trivial (NoM.cons trivial NoM.nil), by rw [zipD_len, Nat.min_self]; exact hs2.1, fun i => (List.replicate i true).map Dat.bl, rfl, fun i x hx => ?_, fun p => ?_⟩))))
    · obtain ⟨a, b, ha, hb, rfl⟩ := zipD_get hx
      rw [ha] at hb
      cases hb
      refine cw_two (.head _) (.tail _ (.head _)) (tt_yes ⟨rfl, fun _ => ?_, (fun e => nomatch e)⟩)
      walk_at "go"
      refine call_of (.mk a (all_get' h ha) (all_get' hs2.2 ha)) rfl ⟨rfl, _, rfl, ?_⟩
      show (List.replicate (i + 1) true).map Dat.bl = _
      rw [List.replicate_succ', List.map_append]
      rfl
    · refine ⟨_, .inr (.inr ⟨_, rfl⟩), _, rfl, ?_⟩
      rw [rep_all]
theorem slots_get {ls : List (Option Int)} {i : Nat} (h : i < ls.length) : (slotsBy ls)[i]? = some (leastAt ls (i + 1)) := by
  unfold slotsBy
  rw [List.getElem?_map, List.getElem?_range h]
  rfl
theorem slots_len (ls : List (Option Int)) : (slotsBy ls).length = ls.length := by
  unfold slotsBy
  rw [List.length_map, List.length_range]
theorem cal_slots_by (T : Tx K mg) : Cal P w K mg base 1 "slots_by" ["lasts"] (spP R_slots_by) := by
  have z_enumerate := T.z_enumerate
  have z_tuple := T.z_tuple
  refine T.d_slots_by.cal sc_slots_by (spP_len fun ds d h => by cases h <;> rfl) fun f cdv A outer s H vs Q E hr hs => ⟨_, (pss_cons (ps_par (i := 1) (j := 2) rfl sc_slots_by.nd rfl rfl (by decide) rfl rfl (pa_cons (pe_lst pa_nil) (pa_cons pe_non pa_nil)) (by rfl))
    (pss_cons (ps_for PassesOwn.never rfl (pi_enumK (K := K) rfl (by rfl) z_enumerate (pa_cons (pv 0) pa_nil)) (pg_tupK (K := K) (n := 2) rfl rfl (pgs_cons (pg_name (i := 3) sc_slots_by.nd rfl (Or.inl rfl)) (pgs_cons (pg_name (i := 4) sc_slots_by.nd rfl (Or.inl rfl)) pgs_nil)))
    (pss_cons (ps_if (PW.pt (pw_and (pt_cmpR op_notN (pv 4) pe_non (nomark _)) (pw_and1 (PW.pt (pw_or (pt_cmpR op_isN (pv 2) pe_non (nomark _)) (pw_or1 (pt_cmpR op_lt (pe_op (op_addK (K := K) rfl) (pe_op (op_addK (K := K) rfl) (pv 4) (pv 3)) pe_int) (pv 2) (nomark _)))))))) (pss_one (ps_set (i := 2) sc_slots_by.nd rfl (Or.inl rfl) (pe_op (op_addK (K := K) rfl) (pe_op (op_addK (K := K) rfl) (pv 4) (pv 3)) pe_int))) pss_nil)
    (pss_one (ps_expr (pe_bm PySem.F.plainAttrs_list PySem.F.slot_list_append PySem.F.type_list_append mt_append (pv 1) (pa_cons (pv 2) pa_nil))))))
    (pss_one (ps_ret (pe_callTy (crTupK (K := K) rfl) (by rfl) z_tuple (by decide +kernel) (pa_cons (pv 1) pa_nil)))))), fn_P (R := R_slots_by) ?_ hs⟩
  rintro _ _ ⟨ls, hl⟩
  show Tr _ ([.dat (optsT ls), .un, .un, .un, .un] : Env) _
  refine tr_seq (tr_par (av_cons (ev_lstN ?_)))
  walk_at "go"
  intro q
  walk_at "go"
  show Tr _ ([.dat (optsT ls), .own q [], .dat .non, .un, .un] : Env) _
  refine tr_seq (tr_for (sr_enT ?_))
  walk_at "go"
  refine ⟨fun i G => ∃ a b, G = [.dat (optsT ls), .own q (((slotsBy ls).take i).map optD), .dat (optD (leastAt ls i)), a, b], ⟨.un, .un, rfl⟩, fun i d' G hd hG => ?_, fun G hG => ?_⟩
  · obtain ⟨a, b, rfl⟩ := hG
    obtain ⟨x, hx, rfl⟩ := enumG hd
    have hi := ltOf hx
    have e1 : leastAt ls (i + 1) = slot1 (leastAt ls i) i x := by
      show slot1 (leastAt ls i) i (ls.getD i none) = _
      rw [List.getD_eq_getElem?_getD, hx]
      rfl
    have hlen : (((slotsBy ls).take i).map optD).length < 1000000 := by
      rw [List.length_map, List.length_take, slots_len]
      omega
    have fin : ∀ X, leastAt ls (i + 1) = X → ∃ a b, ([.dat (optsT ls), .own q (((slotsBy ls).take i).map optD ++ [optD X]), .dat (optD X), .dat (.int i), .dat (optD x)] : Env) = [.dat (optsT ls), .own q (((slotsBy ls).take (i + 1)).map optD), .dat (optD (leastAt ls (i + 1))), a, b] := by
      rintro _ rfl
      exact ⟨_, _, congrArg (fun z => _ :: Sd.own q z :: _) (takeM (slots_get hi))⟩
    refine gw_two (tr_seq (tr_if ?_))
    refine tt_and ?_
    walk_at "go"
    cases x with
    | none =>
      refine ⟨(fun z => nomatch z), fun _ => ⟨(fun z => nomatch z), fun _ => tr_next ?_⟩⟩
      exact tr_app ⟨_, _, rfl⟩ (ev_var rfl ⟨_, _, _, rfl, rfl, hlen, fin _ e1⟩)
    | some l =>
      refine ⟨fun _ => tt_or ?_, (fun z => nomatch z)⟩
      walk_at "go"
      cases hle : leastAt ls i with
      | none =>
        refine ⟨fun _ => ⟨fun _ => tr_set ?_, (fun z => nomatch z)⟩, (fun z => nomatch z)⟩
        refine ev_add (ev_add (ev_var rfl (ev_var rfl ⟨_, _, rfl, rfl, ?_⟩)))
        walk_at "go"
        rw [hle] at e1
        exact tr_app ⟨_, _, rfl⟩ (ev_var rfl ⟨_, _, _, rfl, rfl, hlen, fin (some (l + (i : Int) + 1)) e1⟩)
      | some b =>
        rw [hle] at e1
        refine ⟨(fun z => nomatch z), fun _ => ?_⟩
        refine tt_T (ev_lt (ev_add (ev_add (ev_var rfl (ev_var rfl ⟨_, _, rfl, rfl, ?_⟩)))))
        walk_at "go"
        have e2 : leastAt ls (i + 1) = if l + (i : Int) + 1 < b then some (l + (i : Int) + 1) else some b := e1
        refine ⟨fun e => tr_set ?_, fun e => tr_next ?_⟩
        · refine ev_add (ev_add (ev_var rfl (ev_var rfl ⟨_, _, rfl, rfl, ?_⟩)))
          walk_at "go"
          rw [if_pos (of_decide_eq_true e)] at e2
          exact tr_app ⟨_, _, rfl⟩ (ev_var rfl ⟨_, _, _, rfl, rfl, hlen, fin _ e2⟩)
        · rw [if_neg (of_decide_eq_false e)] at e2
          exact tr_app ⟨_, _, rfl⟩ (ev_var rfl ⟨_, _, _, rfl, rfl, hlen, fin _ e2⟩)
  · obtain ⟨a, b, rfl⟩ := hG
    refine tr_ret ?_
    walk_at "go"
    refine ⟨_, .inr (.inr (.inl ⟨_, 1, rfl, rfl⟩)), _, rfl, ?_⟩
    show Dat.tup (((slotsBy ls).take _).map optD) = optsT (slotsBy ls)
    rw [enumD_len, List.length_map, ← slots_len ls, takeA]
    rfl
theorem cal_last_slots (T : Tx K mg) (C_slots_by : Cal P w K mg base 1 "slots_by" ["lasts"] (spP R_slots_by)) (C_lasts_of : Cal P w K mg base 10 "lasts_of" ["mine", "many"] (spP R_lasts_of)) : Cal P w K mg base 11 "last_slots" ["mine", "many"] (spP R_last_slots) := by
  have C_slots_by := C_slots_by.mono (show 1 ≤ 10 by decide)
  have C_lasts_of := C_lasts_of.mono (show 10 ≤ 10 by decide)
  refine T.d_last_slots.cal sc_last_slots (spP_len fun ds d h => by cases h <;> rfl) fun f cdv A outer s H vs Q E hr hs => ⟨_, (pss_one (ps_ret (pe_callC C_slots_by hr rfl (pa_cons (pe_callC C_lasts_of hr rfl (pa_cons (pv 0) (pa_cons (pv 1) pa_nil))) pa_nil)))), fn_P (R := R_last_slots) ?_ hs⟩
  rintro _ _ ⟨m, n, o, hn⟩
  show Tr _ ([.dat (mineD m), .dat (.int n)] : Env) _
  refine tr_ret ?_
  walk_at "go"
  refine call_of (.mk m (mineD m) n o (mine_dep m) (mine_small o) (mine_toT m) hn) rfl ?_
  walk_at "go"
  refine call_of (.mk (lastsOf m n) ?_) rfl ⟨_, rfl, rfl⟩
  unfold lastsOf levels
  rw [List.length_map, rgI_len]
  have := o.d2
  omega
theorem cal_dry_held (T : Tx K mg) : Cal P w K mg base 1 "dry_held" ["waters"] (spP R_dry_held) := by
  have z_len := T.z_len
  refine T.d_dry_held.cal sc_dry_held (spP_len fun ds d h => by cases h <;> rfl) fun f cdv A outer s H vs Q E hr hs => ⟨_, (pss_one (ps_ret (pe_op (op_mulK (K := K) rfl) (pe_tup (pa_cons pe_int pa_nil)) (pe_callB (crLenK (K := K) rfl) (by rfl) z_len (by decide +kernel) (pa_cons (pv 0) pa_nil))))), fn_P (R := R_dry_held) ?_ hs⟩
  rintro _ _ ⟨ws, h1, h2⟩
  show Tr _ ([.dat (watD ws)] : Env) _
  refine tr_ret (ev_repT ?_)
  walk_at "go"
  refine ⟨by decide, ?_, ?_, _, rfl, ?_⟩
  · rw [List.length_map]; exact h1
  · rw [List.length_map]; exact h2
  · rw [zeros_flat, List.length_map]; rfl
theorem cal_whole_leaks (T : Tx K mg) : Cal P w K mg base 1 "whole_leaks" ["waters"] (spP R_whole_leaks) := by
  have z_len := T.z_len
  refine T.d_whole_leaks.cal sc_whole_leaks (spP_len fun ds d h => by cases h <;> rfl) fun f cdv A outer s H vs Q E hr hs => ⟨_, (pss_one (ps_ret (pe_op (op_mulK (K := K) rfl) (pe_tup (pa_cons pe_int pa_nil)) (pe_callB (crLenK (K := K) rfl) (by rfl) z_len (by decide +kernel) (pa_cons (pv 0) pa_nil))))), fn_P (R := R_whole_leaks) ?_ hs⟩
  rintro _ _ ⟨ws, h1, h2⟩
  show Tr _ ([.dat (watD ws)] : Env) _
  refine tr_ret (ev_repT ?_)
  walk_at "go"
  refine ⟨by decide, ?_, ?_, _, rfl, ?_⟩
  · rw [List.length_map]; exact h1
  · rw [List.length_map]; exact h2
  · rw [zeros_flat, List.length_map]; rfl
theorem cal_flood_mark (T : Tx K mg) : Cal P w K mg base 1 "flood_mark" ["mine", "level"] (spP R_flood_mark) := by
  refine T.d_flood_mark.cal sc_flood_mark (spP_len fun ds d h => by cases h <;> rfl) fun f cdv A outer s H vs Q E hr hs => ⟨_, (pss_one (ps_ret (pe_op (op_mulK (K := K) rfl) (pe_ix (ix_seqK (K := K) rfl) (pv 0) pe_int (fun _ _ => rfl)) (pe_op (op_addK (K := K) rfl) (pe_op op_sub (pe_ix (ix_seqK (K := K) rfl) (pe_ix (ix_seqK (K := K) rfl) (pv 0) pe_int (fun _ _ => rfl)) pe_int (fun _ _ => rfl)) (pv 1)) pe_int)))), fn_P (R := R_flood_mark) ?_ hs⟩
  rintro _ _ ⟨m, level, h, h1, h2⟩
  show Tr _ ([.dat (mineD m), .dat (.int level)] : Env) _
  refine tr_ret ?_
  walk_at "go"
  refine ⟨.inr ⟨?_, ?_⟩, _, rfl, rfl⟩ <;> (have := h.d1; have := h.d2; have := h.p1; have := h.p2; omega)
theorem cal_steam_by (T : Tx K mg) : Cal P w K mg base 1 "steam_by" ["engine", "rest", "steam", "spent"] (spP R_steam_by) := by
  have z_len := T.z_len
  have z_min := T.z_min
  refine T.d_steam_by.cal sc_steam_by (spP_len fun ds d h => by cases h <;> rfl) fun f cdv A outer s H vs Q E hr hs => ⟨_, (pss_cons (ps_if (pt_cmpR op_isN (pv 0) pe_non (nomark _)) (pss_one (ps_ret pe_int)) pss_nil)
    (pss_cons (ps_asg (pv 0) (pg_tupK (K := K) (n := 3) rfl rfl (pgs_cons (pg_name (i := 4) sc_steam_by.nd rfl (Or.inl rfl)) (pgs_cons (pg_name (i := 5) sc_steam_by.nd rfl (Or.inl rfl)) (pgs_cons (pg_name (i := 6) sc_steam_by.nd rfl (Or.inl rfl)) pgs_nil)))))
    (pss_one (ps_ret (pe_callB (crMin2 rfl) (by rfl) z_min (by decide +kernel) (pa_cons (pv 4) (pa_cons (pe_op (op_addK (K := K) rfl) (pe_op op_sub (pv 2) (pv 3)) (pe_ix (ix_seqK (K := K) rfl) (pv 6) (pe_op op_mod (pv 1) (pe_callB (crLenK (K := K) rfl) (by rfl) z_len (by decide +kernel) (pa_cons (pv 6) pa_nil))) (fun _ _ => rfl))) pa_nil))))))), fn_P (R := R_steam_by) ?_ hs⟩
  rintro _ _ (⟨rest, steam, spent⟩ | ⟨e, rest, steam, spent, h⟩)
  · show Tr _ ([.dat .non, .dat (.int rest), .dat (.int steam), .dat (.int spent), .un, .un, .un] : Env) _
    refine tr_seq (tr_if ?_)
    walk_at "go"
    refine ⟨fun _ => ?_, (fun e => nomatch e)⟩
    walk_at "go"
    rfl
  · show Tr _ ([.dat (engD (some e)), .dat (.int rest), .dat (.int steam), .dat (.int spent), .un, .un, .un] : Env) _
    refine tr_seq (tr_if ?_)
    walk_at "go"
    refine ⟨(fun e => nomatch e), fun _ => tr_next ?_⟩
    refine tr_seq (tr_asg (ev_var rfl ⟨_, rfl, gw_three ?_⟩))
    refine tr_ret ?_
    walk_at "go"
    obtain ⟨z, hz⟩ := getOf (xs := e.stokes) (i := rest % e.stokes.length) (Nat.mod_lt _ h)
    have e1 : ((rest : Int) % ((e.stokes.map Dat.int).length : Nat)) = ((rest % e.stokes.length : Nat) : Int) := by
      rw [List.length_map]
      omega
    have e2 : e.stokes.getD (rest % e.stokes.length) 0 = z := by
      rw [List.getD_eq_getElem?_getD, hz]
      rfl
    rw [e1]
    refine ⟨by rw [List.length_map]; omega, ?_⟩
    walk_at "go"
    show Dat.int _ = Dat.int (imin e.room (steam - spent + e.stokes.getD (rest % e.stokes.length) 0))
    rw [e2]
    rfl
theorem cal_lift_heights (T : Tx K mg) : Cal P w K mg base 1 "lift_heights" ["waters"] (spP R_lift_heights) := by
  have z_len := T.z_len
  have z_list := T.z_list
  have z_range := T.z_range
  have z_tuple := T.z_tuple
  refine T.d_lift_heights.cal sc_lift_heights (spP_len fun ds d h => by cases h <;> rfl) fun f cdv A outer s H vs Q E hr hs => ⟨_, (pss_cons (ps_set (i := 1) sc_lift_heights.nd rfl (Or.inr rfl) (pe_op (op_addK (K := K) rfl) (pe_lc (own := [("cistern", 2)]) (g := (gName 2)) rfl sc_lift_heights.nd (pi_seqK (K := K) rfl (pv 0)) (blkOk_by (own := [("cistern", 2)]) (N := n_lift_heights) (sc := defScope s_lift_heights) (by decide +kernel)) (fun _ _ _ _ _ => pg_name (i := 2) sc_lift_heights.nd rfl (Or.inl rfl)) (fun _ _ _ _ _ => pts_nil) (fun _ _ _ _ _ => (pe_ix (ix_seqK (K := K) rfl) (pv 2) pe_int (fun _ _ => rfl)))) (pe_lst (pa_cons pe_int pa_nil))))
    (pss_one (ps_ret (pe_callTy (crTupK (K := K) rfl) (by rfl) z_tuple (by decide +kernel) (pa_cons (pe_lc (own := [("number", 3)]) (g := (gName 3)) rfl sc_lift_heights.nd (pi_seqK (K := K) rfl (pe_listRg rfl (by rfl) z_list (prg_1 (by rfl) z_range (pe_callB (crLenK (K := K) rfl) (by rfl) z_len (by decide +kernel) (pa_cons (pv 0) pa_nil))))) (blkOk_by (own := [("number", 3)]) (N := n_lift_heights) (sc := defScope s_lift_heights) (by decide +kernel)) (fun _ _ _ _ _ => pg_name (i := 3) sc_lift_heights.nd rfl (Or.inl rfl)) (fun _ _ _ _ _ => pts_nil) (fun _ _ _ _ _ => (pe_op op_sub (pe_ix (ix_seqK (K := K) rfl) (pv 1) (pv 3) (fun _ _ => rfl)) (pe_ix (ix_seqK (K := K) rfl) (pv 1) (pe_op (op_addK (K := K) rfl) (pv 3) pe_int) (fun _ _ => rfl))))) pa_nil))))), fn_P (R := R_lift_heights) ?_ hs⟩
  rintro _ _ ⟨ws, h2⟩
  show Tr _ ([.dat (watD ws), .un, .un, .un] : Env) _
  refine tr_seq (tr_set (ev_cat (ev_fz (ev_lcA (sr_tup ?_)))))
  walk_at "go"
  refine ⟨NoM.cons trivial NoM.nil, by rw [List.length_map]; omega, fun i => ((ws.map Cist.level).take i).map Dat.int, rfl, fun i d hd => ?_, fun p => ?_⟩
  · obtain ⟨c, hc, rfl⟩ := mapG hd
    refine cw_name (.head _) (tt_yes ⟨rfl, fun _ => ?_, (fun e => nomatch e)⟩)
    walk_at "go"
    refine ⟨rfl, _, rfl, ?_⟩
    refine (takeM (xs := ws.map Cist.level) ?_).symm
    rw [List.getElem?_map, hc]
    rfl
  walk_at "go"
  refine ev_lst ?_
  walk_at "go"
  refine ⟨?_, ?_⟩
  · simp
    unfold sizeLine
    omega
  have e : ((ws.map Cist.level).take (ws.map Cist.d).length).map Dat.int ++ [Dat.int 0] = (ws.map Cist.level ++ [0]).map Dat.int := by
    rw [List.map_append, List.take_of_length_le (by simp)]
    rfl
  show put _ 1 (.d (.lst (((ws.map Cist.level).take (ws.map Cist.d).length).map Dat.int ++ [Dat.int 0]))) _
  rw [e]
  refine tr_ret (ev_tuple (ev_lcA (sr_lst ?_)))
  refine ev_rg1 ?_
  walk_at "go"
  refine ⟨rgOk1 (by rw [List.length_map]; omega), _, rfl, NoM.cons trivial NoM.nil, by rw [List.length_map, rgI_len, List.length_map]; omega, fun i => ((heights ws).take i).map Dat.int, rfl, fun i d hd => ?_, fun p => ?_⟩
  · obtain ⟨n, hn, rfl⟩ := mapG hd
    obtain ⟨rfl, hi⟩ := rgG hn
    rw [List.length_map] at hi
    rw [Int.zero_add]
    obtain ⟨x, hx⟩ := getOf (xs := ws.map Cist.level ++ [0]) (i := i) (by simp; omega)
    obtain ⟨y, hy⟩ := getOf (xs := ws.map Cist.level ++ [0]) (i := i + 1) (by simp; omega)
    refine cw_name (.head _) (tt_yes ⟨rfl, fun _ => ?_, (fun e => nomatch e)⟩)
    walk_at "go"
    refine ⟨rfl, _, rfl, ?_⟩
    refine (takeM (xs := heights ws) ?_).symm
    unfold heights
    rw [List.getElem?_map, List.getElem?_range (by omega), Option.map_some, getD_of hx, getD_of hy]
  · walk_at "go"
    show Dat.tup (((heights ws).take _).map Dat.int) = intsT _
    rw [List.length_map, rgI_len, List.length_map, Int.sub_zero, Int.toNat_natCast, ← heights_len ws, takeA]
    rfl
theorem cal_weight_by (T : Tx K mg) (C_lift_heights : Cal P w K mg base 1 "lift_heights" ["waters"] (spP R_lift_heights)) (C_brings : Cal P w K mg base 1 "brings" ["waters", "held", "made", "loose", "leaks"] (spP R_brings)) : Cal P w K mg base 2 "weight_by" ["waters", "held", "made", "loose", "leaks"] (spP R_weight_by) := by
  have z_sum := T.z_sum
  have z_zip := T.z_zip
  have C_lift_heights := C_lift_heights.mono (show 1 ≤ 1 by decide)
  have C_brings := C_brings.mono (show 1 ≤ 1 by decide)
  refine T.d_weight_by.cal sc_weight_by (spP_len fun ds d h => by cases h <;> rfl) fun f cdv A outer s H vs Q E hr hs => ⟨_, (pss_cons (ps_set (i := 5) sc_weight_by.nd rfl (Or.inl rfl) (pe_callC C_brings hr rfl (pa_cons (pv 0) (pa_cons (pv 1) (pa_cons (pv 2) (pa_cons (pv 3) (pa_cons (pv 4) pa_nil)))))))
    (pss_one (ps_ret (pe_callB (crSumK (K := K) rfl rfl) (by rfl) z_sum (by decide +kernel) (pa_cons (pe_lc (own := [("amount", 6), ("height", 7)]) (g := (gTup K 2 (gCons (gName 6) (gCons (gName 7) gNil)))) rfl sc_weight_by.nd (pi_zipK (K := K) rfl (by rfl) z_zip (pa_cons (pv 5) (pa_cons (pe_callC C_lift_heights hr rfl (pa_cons (pv 0) pa_nil)) pa_nil))) (blkOk_by (own := [("amount", 6), ("height", 7)]) (N := n_weight_by) (sc := defScope s_weight_by) (by decide +kernel)) (fun _ _ _ _ _ => pg_tupK (K := K) (n := 2) rfl rfl (pgs_cons (pg_name (i := 6) sc_weight_by.nd rfl (Or.inl rfl)) (pgs_cons (pg_name (i := 7) sc_weight_by.nd rfl (Or.inl rfl)) pgs_nil))) (fun _ _ _ _ _ => pts_nil) (fun _ _ _ _ _ => (pe_op (op_mulK (K := K) rfl) (pv 6) (pv 7)))) pa_nil))))), fn_P (R := R_weight_by) ?_ hs⟩
  rintro _ _ ⟨ws, held, made, hl, hz, lv⟩
  show Tr _ ([.dat (watD ws), .dat (intsT held), .dat (.int made), .dat (.tup []), .dat (intsT (zeros ws.length)), .un, .un, .un] : Env) _
  refine tr_seq (tr_set (ev_call ?_))
  walk_at "go"
  refine call_of (.mk ws held made hl hz) rfl ?_
  refine tr_ret (ev_sum (ev_lcA (sr_zTT ?_)))
  walk_at "go"
  refine call_of (.mk ws hz) rfl ⟨_, _, rfl, rfl, NoM.cons trivial (NoM.cons trivial NoM.nil), ?_, fun i => ((List.zipWith (· * ·) (lifts ws held made) (heights ws)).take i).map Dat.int, rfl, fun i d hd => ?_, fun p => ?_⟩
  · rw [zipD_len, List.length_map, List.length_map, lifts_len made hl, heights_len, Nat.min_self]
    omega
  · obtain ⟨a, b, ha, hb, rfl⟩ := zipD_get hd
    obtain ⟨x, hx, rfl⟩ := mapG ha
    obtain ⟨y, hy, rfl⟩ := mapG hb
    refine cw_two (.head _) (.tail _ (.head _)) (tt_yes ⟨rfl, fun _ => ?_, (fun e => nomatch e)⟩)
    walk_at "go"
    have := heights_bd lv hy
    refine ⟨.inr ⟨by omega, by omega⟩, rfl, _, rfl, ?_⟩
    exact (takeM (zipG hx hy)).symm
  · refine ⟨_, .inr (.inr ⟨_, rfl⟩), _, rfl, ?_⟩
    have e : (zipD ((lifts ws held made).map Dat.int) ((heights ws).map Dat.int)).length = (List.zipWith (· * ·) (lifts ws held made) (heights ws)).length := by
      rw [zipD_len, List.length_map, List.length_map, List.length_zipWith]
    show Dat.int (List.take _ _).sum = Dat.int (weight ws held made)
    rw [e, takeA]
    rfl
theorem cal_behind_spills (T : Tx K mg) : Cal P w K mg base 1 "behind_spills" ["waters", "standing"] (spP R_behind_spills) := by
  have z_len := T.z_len
  have z_list := T.z_list
  have z_max := T.z_max
  have z_range := T.z_range
  have z_tuple := T.z_tuple
  have c_ROOM := T.c_ROOM
  refine T.d_behind_spills.cal sc_behind_spills (spP_len fun ds d h => by cases h <;> rfl) fun f cdv A outer s H vs Q E hr hs => ⟨_, (pss_cons (ps_set (i := 2) sc_behind_spills.nd rfl (Or.inl rfl) (pe_callTy (crListK (K := K) rfl) (by rfl) z_list (by decide +kernel) (pa_cons (pv 1) pa_nil)))
    (pss_cons (ps_for PassesOwn.never rfl (pi_range3 (by rfl) z_range (pa_cons (pe_op op_sub (pe_callB (crLenK (K := K) rfl) (by rfl) z_len (by decide +kernel) (pa_cons (pv 2) pa_nil)) pe_int) (pa_cons pe_int (pa_cons (pe_un un_neg pe_int) pa_nil)))) (pg_name (i := 3) sc_behind_spills.nd rfl (Or.inl rfl))
    (pss_cons (ps_set (i := 4) sc_behind_spills.nd rfl (Or.inl rfl) (pe_callB (crMax2 rfl) (by rfl) z_max (by decide +kernel) (pa_cons pe_int (pa_cons (pe_op op_sub (pe_ix (ix_seqK (K := K) rfl) (pv 2) (pv 3) (fun _ _ => rfl)) (pe_ix (ix_seqK (K := K) rfl) (pe_ix (ix_seqK (K := K) rfl) (pv 0) (pv 3) (fun _ _ => rfl)) (pe_const c_ROOM rfl) (fun _ _ => rfl))) pa_nil))))
    (pss_cons (ps_augS (pv 2) (pv 3) (get_listK (K := K) rfl) (pv 4) ip_sub set_list)
    (pss_one (ps_augS (pv 2) (pe_op op_sub (pv 3) pe_int) (get_listK (K := K) rfl) (pv 4) ip_add set_list)))))
    (pss_one (ps_ret (pe_callTy (crTupK (K := K) rfl) (by rfl) z_tuple (by decide +kernel) (pa_cons (pv 2) pa_nil)))))), fn_P (R := R_behind_spills) ?_ hs⟩
  rintro _ _ ⟨ws, f, hl, h1, hz⟩
  show Tr _ ([.dat (watD ws), .dat (intsL f), .un, .un, .un] : Env) _
  refine tr_seq (tr_set (ev_listN ?_))
  walk_at "go"
  intro q
  show Tr _ ([.dat (watD ws), .dat (intsL f), .own q (f.map Dat.int), .un, .un] : Env) _
  refine tr_seq (tr_for (sr_r3 ?_))
  walk_at "go"
  refine ⟨_, .inr (.inr (.inl ⟨_, 2, rfl, rfl⟩)), ?_⟩
  walk_at "go"
  rw [List.length_map]
  refine ⟨by omega, by omega, by omega, by omega, ?_⟩
  refine ⟨fun i G => ∃ a b, G = [.dat (watD ws), .dat (intsL f), .own q ((spillAt ws f i).map Dat.int), a, b], ⟨.un, .un, rfl⟩, fun i d G hd hG => ?_, fun G hG => ?_⟩
  · obtain ⟨a, b, rfl⟩ := hG
    obtain ⟨n, hn, rfl⟩ := mapG hd
    obtain ⟨rfl, hi⟩ := dnG hn
    refine gw_name ?_
    obtain ⟨k, hk⟩ : ∃ k : Nat, k = f.length - 1 - i := ⟨_, rfl⟩
    have ek : (f.length : Int) - 1 - (i : Int) = (k : Int) := by omega
    rw [ek]
    obtain ⟨x, hx⟩ := getOf (xs := spillAt ws f i) (i := k) (by rw [spillAt_len]; omega)
    obtain ⟨c, hc⟩ := getOf (xs := ws) (i := k) (by omega)
    obtain ⟨y, hy⟩ := getOf (xs := spillAt ws f i) (i := k - 1) (by rw [spillAt_len]; omega)
    refine tr_seq (tr_set ?_)
    walk_at "go"
    refine ⟨_, _, _, .inr (.inr (.inl ⟨_, 2, rfl, rfl⟩)), rfl, atM hx, ?_⟩
    walk_at "go"
    refine tr_seq (tr_aug ⟨_, _, rfl⟩ ?_)
    refine ev_var rfl ⟨_, k, rfl, by omega, _, _, rfl, rfl, x, by rw [List.getElem?_map, hx]; rfl, ?_⟩
    refine ev_var rfl ⟨_, rfl, rfl, ?_⟩
    refine tr_aug ⟨_, _, rfl⟩ (ev_sub (ev_var rfl (ev_int ⟨_, _, rfl, rfl, _, k - 1, rfl, by omega, _, _, rfl, by omega, y, by rw [List.getElem?_set_ne (by omega), List.getElem?_map, hy]; rfl, ?_⟩)))
    refine ev_var rfl ⟨_, rfl, rfl, ?_⟩
    refine ⟨_, _, congrArg (fun z => _ :: _ :: Sd.own q z :: _) ?_⟩
    show ((((spillAt ws f i).map Dat.int).set k (Dat.int (x - imax 0 (x - c.room)))).set (k - 1) (Dat.int (y + imax 0 (x - c.room)))) = (spill1 ws (spillAt ws f i) (f.length - 1 - i)).map Dat.int
    rw [← hk]
    unfold spill1
    rw [getD_of hx, getD_of hy, getD_of (xs := ws.map Cist.room) (z := c.room) (by rw [List.getElem?_map, hc]; rfl), List.map_set, List.map_set]
  · obtain ⟨a, b, rfl⟩ := hG
    refine tr_ret ?_
    walk_at "go"
    refine ⟨_, .inr (.inr (.inl ⟨_, 2, rfl, rfl⟩)), _, rfl, ?_⟩
    have e : ((dnI ((f.length : Int) - 1) 0).map Dat.int).length = f.length - 1 := by
      unfold dnI
      simp
    show Dat.tup _ = intsT _
    rw [e]
    rfl
theorem cal_behind_stroke (T : Tx K mg) (C_brings : Cal P w K mg base 1 "brings" ["waters", "held", "made", "loose", "leaks"] (spP R_brings)) : Cal P w K mg base 2 "behind_stroke" ["waters", "held", "made", "loose", "leaks"] (spP R_behind_stroke) := by
  have z_enumerate := T.z_enumerate
  have z_len := T.z_len
  have z_list := T.z_list
  have C_brings := C_brings.mono (show 1 ≤ 1 by decide)
  refine T.d_behind_stroke.cal sc_behind_stroke (spP_len fun ds d h => by cases h <;> rfl) fun f cdv A outer s H vs Q E hr hs => ⟨_, (pss_cons (ps_par (i := 5) (j := 6) rfl sc_behind_stroke.nd rfl rfl (by decide) rfl rfl (pa_cons (pe_callTy (crListK (K := K) rfl) (by rfl) z_list (by decide +kernel) (pa_cons (pv 1) pa_nil)) (pa_cons (pe_callC C_brings hr rfl (pa_cons (pv 0) (pa_cons (pv 1) (pa_cons (pv 2) (pa_cons (pv 3) (pa_cons (pv 4) pa_nil)))))) pa_nil)) (by rfl))
    (pss_cons (ps_for PassesOwn.never rfl (pi_enumK (K := K) rfl (by rfl) z_enumerate (pa_cons (pv 6) pa_nil)) (pg_tupK (K := K) (n := 2) rfl rfl (pgs_cons (pg_name (i := 7) sc_behind_stroke.nd rfl (Or.inl rfl)) (pgs_cons (pg_name (i := 8) sc_behind_stroke.nd rfl (Or.inl rfl)) pgs_nil)))
    (pss_cons (ps_augS (pv 5) (pv 7) (get_listK (K := K) rfl) (pv 8) ip_sub set_list)
    (pss_one (ps_if (pt_cmpR op_lt (pe_op (op_addK (K := K) rfl) (pv 7) pe_int) (pe_callB (crLenK (K := K) rfl) (by rfl) z_len (by decide +kernel) (pa_cons (pv 5) pa_nil)) (nomark _)) (pss_one (ps_augS (pv 5) (pe_op (op_addK (K := K) rfl) (pv 7) pe_int) (get_listK (K := K) rfl) (pv 8) ip_add set_list)) pss_nil))))
    (pss_one (ps_ret (pe_tup (pa_cons (pv 5) (pa_cons (pe_ix (ix_seqK (K := K) rfl) (pv 6) (pe_un un_neg pe_int) (fun _ _ => rfl)) pa_nil))))))), fn_P (R := R_behind_stroke) ?_ hs⟩
  rintro _ _ ⟨ws, held, made, hl, h1, hz⟩
  show Tr _ ([.dat (watD ws), .dat (intsT held), .dat (.int made), .dat (.tup []), .dat (intsT (zeros ws.length)), .un, .un, .un, .un] : Env) _
  refine tr_seq (tr_par (av_cons (ev_listN ?_)))
  walk_at "go"
  intro q
  walk_at "go"
  refine call_of (.mk ws held made hl hz) rfl ?_
  walk_at "go"
  have hL : (lifts ws held made).length = ws.length := lifts_len made hl
  show Tr _ ([.dat (watD ws), .dat (intsT held), .dat (.int made), .dat (.tup []), .dat (intsT (zeros ws.length)), .own q (held.map Dat.int), .dat (intsT (lifts ws held made)), .un, .un] : Env) _
  refine tr_seq (tr_for (sr_enT ?_))
  walk_at "go"
  refine ⟨fun i G => ∃ a b, G = [.dat (watD ws), .dat (intsT held), .dat (.int made), .dat (.tup []), .dat (intsT (zeros ws.length)), .own q ((strokeAt held (lifts ws held made) i).map Dat.int), .dat (intsT (lifts ws held made)), a, b], ⟨.un, .un, by rw [strokeAt_zero]⟩, fun i d G hd hG => ?_, fun G hG => ?_⟩
  · obtain ⟨a, b, rfl⟩ := hG
    obtain ⟨m, hm, rfl⟩ := enumG hd
    refine gw_two ?_
    have hi := ltOf hm
    obtain ⟨x, hx⟩ := getOf (xs := strokeAt held (lifts ws held made) i) (i := i) (by rw [strokeAt_len]; omega)
    refine tr_seq (tr_aug ⟨_, _, rfl⟩ ?_)
    refine ev_var rfl ⟨_, i, rfl, by omega, _, _, rfl, rfl, x, by rw [List.getElem?_map, hx]; rfl, ?_⟩
    refine ev_var rfl ⟨_, rfl, rfl, ?_⟩
    refine tr_if ?_
    walk_at "go"
    refine ⟨_, .inr (.inr (.inl ⟨_, 5, rfl, rfl⟩)), ?_⟩
    walk_at "go"
    have e0 : ((strokeAt held (lifts ws held made) i).map Dat.int).set i (.int (x - m)) = ((strokeAt held (lifts ws held made) i).set i (x - m)).map Dat.int := List.map_set.symm
    rw [e0]
    have el : (((strokeAt held (lifts ws held made) i).set i (x - m)).map Dat.int).length = held.length := by rw [List.length_map, List.length_set, strokeAt_len]
    rw [el]
    refine ⟨fun e => ?_, fun e => ?_⟩
    · have e' : (i : Int) + 1 < (held.length : Int) := of_decide_eq_true e
      obtain ⟨y, hy⟩ := getOf (xs := (strokeAt held (lifts ws held made) i).set i (x - m)) (i := i + 1) (by rw [List.length_set, strokeAt_len]; omega)
      refine tr_aug ⟨_, _, rfl⟩ (ev_add (ev_var rfl (ev_int ⟨_, _, rfl, rfl, _, i + 1, rfl, by omega, _, _, rfl, by omega, y, by rw [List.getElem?_map, hy]; rfl, ?_⟩)))
      refine ev_var rfl ⟨_, rfl, rfl, ?_⟩
      exact ⟨_, _, congrArg (fun z => _ :: _ :: _ :: _ :: _ :: Sd.own q z :: _) ((List.map_set).symm.trans (congrArg (List.map Dat.int) (stroke_mid hx hm hy)))⟩
    · have e' : ¬ (i : Int) + 1 < (held.length : Int) := of_decide_eq_false e
      refine tr_next ⟨.dat (.int i), .dat (.int m), ?_⟩
      rw [← stroke_last hx hm (by omega)]
      rfl
  · obtain ⟨a, b, rfl⟩ := hG
    have eL : (enumD ((lifts ws held made).map Dat.int)).length = held.length := by rw [enumD_len, List.length_map, hL, hl]
    show Tr _ _ _
    refine tr_freeze (i := 5) rfl ?_
    refine tr_ret (ev_tup ?_)
    cases hz0 : (lifts ws held made).getLast? with
    | none =>
      rw [List.getLast?_eq_none_iff] at hz0
      rw [hz0] at hL
      simp at hL
      omega
    | some z =>
      walk_at "go"
      refine ⟨_, _, _, .inl rfl, rfl, atLast (z := .int z) (by rw [List.getLast?_map, hz0]; rfl), ?_⟩
      walk_at "go"
      show Dat.tup [.lst ((strokeAt held (lifts ws held made) (enumD ((lifts ws held made).map Dat.int)).length).map Dat.int), .int z] = Dat.tup [.lst ((strokeAt held (lifts ws held made) held.length).map Dat.int), .int z]
      rw [eL]
theorem cal__law_take (T : Tx K mg) : Cal P w K mg base 1 "_law_take" ["_law_urn", "_law_low_so"] (spU 1 Pre__law_take R__law_take) := by
  have z_int := T.z_int
  refine T.d__law_take.cal sc__law_take (spU_len fun ds h => by cases h <;> rfl) fun f cdv A outer s H vs Q E hr hs => ⟨_, (pss_cons (ps_if (pt_cmpR op_gt (pe_ix (ix_seqK (K := K) rfl) (pv 0) pe_int (fun _ _ => rfl)) pe_int (nomark _)) (pss_cons (ps_set (i := 2) sc__law_take.nd rfl (Or.inl rfl) (pe_op op_mod (pe_callTy (crInt) (by rfl) z_int (by decide +kernel) (pa_cons (pe_ix (ix_seqK (K := K) rfl) (pv 0) pe_int (fun _ _ => rfl)) pa_nil)) (pv 1)))
    (pss_cons (ps_asg (pe_op op_fdiv (pe_ix (ix_seqK (K := K) rfl) (pv 0) pe_int (fun _ _ => rfl)) (pv 1)) (pg_sub (pv 0) pe_int set_list))
    (pss_one (ps_ret (pv 2))))) pss_nil)
    (pss_cons (ps_asg (pe_op (op_addK (K := K) rfl) (pe_ix (ix_seqK (K := K) rfl) (pv 0) pe_int (fun _ _ => rfl)) pe_int) (pg_sub (pv 0) pe_int set_list))
    (pss_cons (ps_set (i := 3) sc__law_take.nd rfl (Or.inl rfl) (pe_op op_mod (pe_callTy (crInt) (by rfl) z_int (by decide +kernel) (pa_cons (pe_op (op_mulK (K := K) rfl) (pe_op (op_addK (K := K) rfl) (pe_ix (ix_seqK (K := K) rfl) (pv 0) pe_int (fun _ _ => rfl)) (pe_op (op_mulK (K := K) rfl) pe_int (pe_ix (ix_seqK (K := K) rfl) (pv 0) pe_int (fun _ _ => rfl)))) (pe_op (op_addK (K := K) rfl) pe_int (pe_ix (ix_seqK (K := K) rfl) (pv 0) pe_int (fun _ _ => rfl)))) pa_nil)) pe_int))
    (pss_cons (ps_set (i := 4) sc__law_take.nd rfl (Or.inl rfl) (pe_op (op_addK (K := K) rfl) (pe_op op_mod (pe_callTy (crInt) (by rfl) z_int (by decide +kernel) (pa_cons (pv 3) pa_nil)) pe_int) pe_int))
    (pss_cons (ps_set (i := 5) sc__law_take.nd rfl (Or.inl rfl) (pe_op op_mod (pe_callTy (crInt) (by rfl) z_int (by decide +kernel) (pa_cons (pe_op (op_mulK (K := K) rfl) (pe_op (op_addK (K := K) rfl) (pe_op (op_addK (K := K) rfl) (pv 3) (pe_ix (ix_seqK (K := K) rfl) (pv 0) pe_int (fun _ _ => rfl))) (pe_op op_fdiv (pe_ix (ix_seqK (K := K) rfl) (pv 0) pe_int (fun _ _ => rfl)) pe_int)) (pv 4)) pa_nil)) pe_int))
    (pss_one (ps_ret (pe_op op_mod (pe_callTy (crInt) (by rfl) z_int (by decide +kernel) (pa_cons (pe_op op_fdiv (pe_op op_mod (pe_callTy (crInt) (by rfl) z_int (by decide +kernel) (pa_cons (pe_op (op_addK (K := K) rfl) (pe_op (op_mulK (K := K) rfl) (pv 5) pe_int) (pv 3)) pa_nil)) pe_int) pe_int) pa_nil)) (pv 1))))))))), fn_U (R := R__law_take) ?_ hs⟩
  rintro _ u a b c ⟨low, h1, h2⟩ hc0 hc1
  show Tr _ ([.own u [.int a, .int b, .int c], .dat (.int low), .un, .un, .un, .un] : Env) _
  have urn : ∀ (G : Env) (ds : List Dat) (j : Nat) (z : Dat) (KK : Vd → Env → Prop), G[0]? = some (.own u ds) → ds[j]? = some z → KK (.d z) G → EvW (tOp (rIx K) (tVar 0) (tC (.int (j : Int)))) G KK := fun G ds j z KK e1 e2 k => ev_ix (ev_varM e1 (ev_int ⟨ds, j, z, .inr (.inr (.inl ⟨_, 0, rfl, e1⟩)), rfl, atN e2, k⟩))
  refine tr_seq (tr_if (tt_T (ev_gt (urn _ _ 0 _ _ rfl rfl (ev_int ⟨_, _, rfl, rfl, _, rfl, fun e => ?_, fun e => tr_next ?_⟩)))))
  · refine tr_seq (tr_set (ev_mod (ev_intI (urn _ _ 0 _ _ rfl rfl ⟨_, rfl, ev_var rfl ⟨_, _, rfl, rfl, by omega, ?_⟩⟩))))
    refine tr_seq (tr_asg (ev_div (urn _ _ 0 _ _ rfl rfl (ev_var rfl ⟨_, _, rfl, rfl, ⟨by omega, by omega⟩, _, rfl, gw_sub ⟨_, _, rfl⟩ (ev_int ⟨_, _, _, 0, rfl, rfl, rfl, ?_⟩)⟩))))
    refine tr_ret (ev_var rfl ⟨_, rfl, .mk low _ (Int.emod_nonneg _ (by omega)) (Int.emod_lt_of_pos _ (by omega)), _, _, _, rfl, hc0, by omega⟩)
  · refine tr_seq (tr_asg (ev_add (urn _ _ 2 _ _ rfl rfl (ev_int ⟨_, _, rfl, rfl, _, rfl, gw_sub ⟨_, _, rfl⟩ (ev_int ⟨_, _, _, 2, rfl, rfl, rfl, ?_⟩)⟩))))
    show Tr _ ([.own u [.int a, .int b, .int (c + 1)], .dat (.int low), .un, .un, .un, .un] : Env) _
    refine tr_seq (tr_set (ev_mod (ev_intI (ev_mulY (ev_add (urn _ _ 1 _ _ rfl rfl (ev_mulY (ev_int (urn _ _ 2 _ _ rfl rfl ⟨_, _, rfl, rfl, .inl ⟨by omega, by omega⟩, _, _, rfl, rfl, ?_⟩)))))))))
    refine ev_add (ev_int (urn _ _ 2 _ _ rfl rfl ⟨_, _, rfl, rfl, _, _, rfl, rfl, .inr ⟨by omega, by omega⟩, _, rfl, ev_int ⟨_, _, rfl, rfl, by decide, ?_⟩⟩))
    refine tr_seq (tr_set (ev_add (ev_mod (ev_intI (ev_var rfl ⟨_, rfl, ev_int ⟨_, _, rfl, rfl, by decide, ev_int ⟨_, _, rfl, rfl, ?_⟩⟩⟩)))))
    obtain ⟨x, hx⟩ : ∃ x, x = (b + 48271 * (c + 1)) * (39373 + (c + 1)) % 2147483647 := ⟨_, rfl⟩
    rw [← hx]
    have w1 : 0 ≤ x % 40009 := Int.emod_nonneg _ (by decide)
    have w2 : x % 40009 < 40009 := Int.emod_lt_of_pos _ (by decide)
    show Tr _ ([.own u [.int a, .int b, .int (c + 1)], .dat (.int low), .un, .dat (.int x), .dat (.int (x % 40009 + 7)), .un] : Env) _
    refine tr_seq (tr_set (ev_mod (ev_intI (ev_mulY (ev_add (ev_add (ev_var rfl (urn _ _ 2 _ _ rfl rfl ⟨_, _, rfl, rfl, ev_div (urn _ _ 1 _ _ rfl rfl (ev_int ⟨_, _, rfl, rfl, by constructor <;> decide, _, _, rfl, rfl, ev_var rfl ⟨_, _, rfl, rfl, .inr ⟨by omega, by omega⟩, _, rfl, ev_int ⟨_, _, rfl, rfl, by decide, ?_⟩⟩⟩))⟩))))))))
    refine tr_ret (ev_mod (ev_intI (ev_div (ev_mod (ev_intI (ev_add (ev_mulY (ev_var rfl (ev_int ⟨_, _, rfl, rfl, .inr ⟨by decide, by decide⟩, ev_var rfl ⟨_, _, rfl, rfl, _, rfl, ev_int ⟨_, _, rfl, rfl, by decide, ev_int ⟨_, _, rfl, rfl, by constructor <;> decide, _, rfl, ev_var rfl ⟨_, _, rfl, rfl, by omega, _, rfl, ?_⟩⟩⟩⟩⟩)))))))))
    exact ⟨.mk low _ (Int.emod_nonneg _ (by omega)) (Int.emod_lt_of_pos _ (by omega)), _, _, _, rfl, by omega, Int.le_refl _⟩
theorem cal__law_of (T : Tx K mg) (C__law_take : Cal P w K mg base 1 "_law_take" ["_law_urn", "_law_low_so"] (spU 1 Pre__law_take R__law_take)) : Cal P w K mg base 2 "_law_of" ["_law_urn", "_law_goods_so"] (spU 1 Pre__law_of R__law_of) := by
  have z_len := T.z_len
  have C__law_take := C__law_take.mono (show 1 ≤ 1 by decide)
  refine T.d__law_of.cal sc__law_of (spU_len fun ds h => by cases h <;> rfl) fun f cdv A outer s H vs Q E hr hs => ⟨_, (pss_one (ps_ret (pe_ix (ix_seqK (K := K) rfl) (pv 1) (pe_callC C__law_take hr rfl (pa_cons (pv 0) (pa_cons (pe_callB (crLenK (K := K) rfl) (by rfl) z_len (by decide +kernel) (pa_cons (pv 1) pa_nil)) pa_nil))) (fun _ _ => rfl)))), fn_U (R := R__law_of) ?_ hs⟩
  rintro _ u a b c ⟨gs, h1, h2⟩ hc0 hc1
  show Tr _ ([.own u [.int a, .int b, .int c], .dat (.lst gs)] : Env) _
  refine tr_ret (ev_ix (ev_var rfl ?_))
  refine ev_callU (i := 0) rfl hc0 hc1 (av_cons (ev_len (ev_var rfl ⟨_, .inr (.inl rfl), av_nil ⟨rfl, [_], rfl, .mk _ (by omega) (by omega), ?_⟩⟩)))
  rintro _ a' b' c' ⟨_, r, h3, h4⟩ h5 h6
  have hr' : r.toNat < gs.length := by omega
  refine ⟨_, r, _, .inr (.inl rfl), rfl, ?_, _, rfl, .mk gs (gs[r.toNat]) (List.getElem_mem hr'), _, _, _, rfl, h5, h6⟩
  have e := atN (List.getElem?_eq_getElem hr')
  rwa [Int.toNat_of_nonneg h3] at e
theorem all_get {p : Dat → Bool} {ds : List Dat} {i : Nat} {d : Dat} (h : ds.all p = true) (k : ds[i]? = some d) : p d = true := List.all_eq_true.mp h d (List.mem_of_getElem? k)
theorem takeF {f : Dat → Dat} {ds : List Dat} {i : Nat} {d : Dat} (k : ds[i]? = some d) : (ds.take (i + 1)).map f = (ds.take i).map f ++ [f d] := by
  rw [takeS k, List.map_append]
  rfl
theorem small_len {n : Nat} {ds : List Dat} (h : (decide (ds.length ≤ 1000000) && ds.all (small n)) = true) : ds.length ≤ 1000000 ∧ ds.all (small n) = true := by
  rw [Bool.and_eq_true] at h
  exact ⟨of_decide_eq_true h.1, h.2⟩
theorem cal_tuple_of_at (T : Tx K mg) (k : Nat) : Cal P w K mg base k "tuple_of" ["thing"] (spP (R_tuple_of k)) := by
  refine Nat.rec (motive := fun k => Cal P w K mg base k "tuple_of" ["thing"] (spP (R_tuple_of k))) ?_ (fun n C_tuple_of => ?_) k
  · exact T.d_tuple_of.none fun vs H Q E ⟨B, ds, d, _, _, r, _⟩ => by cases r; contradiction
  have z_isinstance := T.z_isinstance
  have z_list := T.z_list
  have z_tuple := T.z_tuple
  refine T.d_tuple_of.cal sc_tuple_of (spP_len fun ds d h => by cases h <;> rfl) fun f cdv A outer s H vs Q E hr hs => ⟨_, (pss_cons (ps_if (pt_val (pe_callB (crIsiTK (K := K) rfl) (by rfl) z_isinstance (by decide +kernel) (pa_cons (pv 0) (pa_cons (pe_tup (pa_cons (pe_bltn (v := .ty "list") (by rfl) z_list (by decide +kernel) rfl) (pa_cons (pe_bltn (v := .ty "tuple") (by rfl) z_tuple (by decide +kernel) rfl) pa_nil))) pa_nil)))) (pss_one (ps_ret (pe_callTy (crTupK (K := K) rfl) (by rfl) z_tuple (by decide +kernel) (pa_cons (pe_lc (own := [("part", 1)]) (g := (gName 1)) rfl sc_tuple_of.nd (pi_seqK (K := K) rfl (pv 0)) (blkOk_by (own := [("part", 1)]) (N := n_tuple_of) (sc := defScope s_tuple_of) (by decide +kernel)) (fun _ _ _ _ _ => pg_name (i := 1) sc_tuple_of.nd rfl (Or.inl rfl)) (fun _ _ _ _ _ => pts_nil) (fun _ _ _ _ _ => (pe_callC C_tuple_of hr rfl (pa_cons (pv 1) pa_nil)))) pa_nil)))) pss_nil)
    (pss_one (ps_ret (pv 0)))), fn_P (R := R_tuple_of (n + 1)) ?_ hs⟩
  rintro _ _ ⟨d, h, h2⟩
  show Tr _ ([.dat d, .un] : Env) _
  refine tr_seq (tr_if (tt_T (ev_isi2 (ev_var rfl ⟨_, rfl, .inl rfl, .inr (.inl rfl), _, rfl, ?_⟩))))
  cases d with
  | non => exact ⟨(fun z => nomatch z), fun _ => tr_next (tr_ret (ev_var rfl ⟨_, rfl, rfl⟩))⟩
  | bl b => exact ⟨(fun z => nomatch z), fun _ => tr_next (tr_ret (ev_var rfl ⟨_, rfl, rfl⟩))⟩
  | int b => exact ⟨(fun z => nomatch z), fun _ => tr_next (tr_ret (ev_var rfl ⟨_, rfl, rfl⟩))⟩
  | tup ds =>
    refine ⟨fun _ => ?_, (fun z => nomatch z)⟩
    have hs2 := small_len h2
    refine tr_ret (ev_tuple (ev_lcA (sr_tup (ev_var rfl ⟨_, rfl, NoM.cons trivial NoM.nil, hs2.1, fun i => (ds.take i).map (toT n), rfl, fun i x hx => ?_, fun p => ?_⟩))))
    · refine cw_name (.head _) (tt_yes ⟨rfl, fun _ => ?_, (fun e => nomatch e)⟩)
      walk_at "go"
      refine call_of (.mk x (all_get h hx) (all_get hs2.2 hx)) rfl ⟨rfl, _, rfl, takeF hx⟩
    · walk_at "go"
      show Dat.tup ((ds.take ds.length).map (toT n)) = _
      rw [takeA]
      rfl
  | lst ds =>
    refine ⟨fun _ => ?_, (fun z => nomatch z)⟩
    have hs2 := small_len h2
    refine tr_ret (ev_tuple (ev_lcA (sr_lst (ev_var rfl ⟨_, rfl, NoM.cons trivial NoM.nil, hs2.1, fun i => (ds.take i).map (toT n), rfl, fun i x hx => ?_, fun p => ?_⟩))))
    · refine cw_name (.head _) (tt_yes ⟨rfl, fun _ => ?_, (fun e => nomatch e)⟩)
      walk_at "go"
      refine call_of (.mk x (all_get h hx) (all_get hs2.2 hx)) rfl ⟨rfl, _, rfl, takeF hx⟩
    · walk_at "go"
      show Dat.tup ((ds.take ds.length).map (toT n)) = _
      rw [takeA]
      rfl
theorem cal__law_lists_at (T : Tx K mg) (k : Nat) : Cal P w K mg base k "_law_lists" ["_law_matter"] (spP (R__law_lists k)) := by
  refine Nat.rec (motive := fun k => Cal P w K mg base k "_law_lists" ["_law_matter"] (spP (R__law_lists k))) ?_ (fun n C__law_lists => ?_) k
  · exact T.d__law_lists.none fun vs H Q E ⟨B, ds, d, _, _, r, _⟩ => by cases r; contradiction
  have z_isinstance := T.z_isinstance
  have z_list := T.z_list
  have z_tuple := T.z_tuple
  refine T.d__law_lists.cal sc__law_lists (spP_len fun ds d h => by cases h <;> rfl) fun f cdv A outer s H vs Q E hr hs => ⟨_, (pss_one (ps_ret (pe_ifExp (pt_val (pe_callB (crIsiTK (K := K) rfl) (by rfl) z_isinstance (by decide +kernel) (pa_cons (pv 0) (pa_cons (pe_tup (pa_cons (pe_bltn (v := .ty "list") (by rfl) z_list (by decide +kernel) rfl) (pa_cons (pe_bltn (v := .ty "tuple") (by rfl) z_tuple (by decide +kernel) rfl) pa_nil))) pa_nil)))) (pe_lc (own := [("_law_own", 1)]) (g := (gName 1)) rfl sc__law_lists.nd (pi_seqK (K := K) rfl (pv 0)) (blkOk_by (own := [("_law_own", 1)]) (N := n__law_lists) (sc := defScope s__law_lists) (by decide +kernel)) (fun _ _ _ _ _ => pg_name (i := 1) sc__law_lists.nd rfl (Or.inl rfl)) (fun _ _ _ _ _ => pts_nil) (fun _ _ _ _ _ => (pe_callC C__law_lists hr rfl (pa_cons (pv 1) pa_nil)))) (pv 0)))), fn_P (R := R__law_lists (n + 1)) ?_ hs⟩
  rintro _ _ ⟨d, h, h2⟩
  show Tr _ ([.dat d, .un] : Env) _
  refine tr_ret (ev_ifJ (toL (n + 1) d) (tt_T (ev_isi2 (ev_var rfl ⟨_, rfl, .inl rfl, .inr (.inl rfl), _, rfl, ?_⟩))))
  cases d with
  | non => exact ⟨(fun z => nomatch z), fun _ => ev_var rfl ⟨rfl, rfl⟩, _, rfl, rfl⟩
  | bl b => exact ⟨(fun z => nomatch z), fun _ => ev_var rfl ⟨rfl, rfl⟩, _, rfl, rfl⟩
  | int b => exact ⟨(fun z => nomatch z), fun _ => ev_var rfl ⟨rfl, rfl⟩, _, rfl, rfl⟩
  | tup ds =>
    refine ⟨fun _ => ?_, (fun z => nomatch z), _, rfl, rfl⟩
    have hs2 := small_len h2
    refine ev_fz (ev_lcA (sr_tup (ev_var rfl ⟨_, rfl, NoM.cons trivial NoM.nil, hs2.1, fun i => (ds.take i).map (toL n), rfl, fun i x hx => ?_, fun p => ?_⟩)))
    · refine cw_name (.head _) (tt_yes ⟨rfl, fun _ => ?_, (fun e => nomatch e)⟩)
      walk_at "go"
      refine call_of (.mk x (all_get h hx) (all_get hs2.2 hx)) rfl ⟨rfl, _, rfl, takeF hx⟩
    · refine ⟨_, _, rfl, ?_, rfl⟩
      show Vd.d (.lst ((ds.take ds.length).map (toL n))) = _
      rw [takeA]
      rfl
  | lst ds =>
    refine ⟨fun _ => ?_, (fun z => nomatch z), _, rfl, rfl⟩
    have hs2 := small_len h2
    refine ev_fz (ev_lcA (sr_lst (ev_var rfl ⟨_, rfl, NoM.cons trivial NoM.nil, hs2.1, fun i => (ds.take i).map (toL n), rfl, fun i x hx => ?_, fun p => ?_⟩)))
    · refine cw_name (.head _) (tt_yes ⟨rfl, fun _ => ?_, (fun e => nomatch e)⟩)
      walk_at "go"
      refine call_of (.mk x (all_get h hx) (all_get hs2.2 hx)) rfl ⟨rfl, _, rfl, takeF hx⟩
    · refine ⟨_, _, rfl, ?_, rfl⟩
      show Vd.d (.lst ((ds.take ds.length).map (toL n))) = _
      rw [takeA]
      rfl
theorem ints_last {ns : List Int} {l : Int} (h : ns.getLast? = some l) : atI (ns.map Dat.int) (-1) = some (.int l) := atLast (by rw [List.getLast?_map, h]; rfl)
theorem last_some {ns : List Int} (h : 1 ≤ ns.length) : ∃ l, ns.getLast? = some l ∧ l ∈ ns := by
  cases ns with
  | nil => exact absurd h (by decide)
  | cons n ns => exact ⟨_, List.getLast?_eq_some_getLast (by simp), List.getLast_mem (by simp)⟩
theorem of_mem {gs : List Dat} {d : Dat} (h : R__law_of [.lst gs] d) : d ∈ gs := by
  cases h
  assumption
theorem cal__law_waters (T : Tx K mg) (C__law_take : Cal P w K mg base 1 "_law_take" ["_law_urn", "_law_low_so"] (spU 1 Pre__law_take R__law_take)) (C__law_of : Cal P w K mg base 2 "_law_of" ["_law_urn", "_law_goods_so"] (spU 1 Pre__law_of R__law_of)) : Cal P w K mg base 3 "_law_waters" ["_law_urn", "_law_deep_so"] (spU 100 Pre__law_waters R__law_waters) := by
  have z_min := T.z_min
  have z_range := T.z_range
  have z_tuple := T.z_tuple
  have C__law_take := C__law_take.mono (show 1 ≤ 2 by decide)
  have C__law_of := C__law_of.mono (show 2 ≤ 2 by decide)
  refine T.d__law_waters.cal sc__law_waters (spU_len fun ds h => by cases h <;> rfl) fun f cdv A outer s H vs Q E hr hs => ⟨_, (pss_cons (ps_par (i := 2) (j := 3) rfl sc__law_waters.nd rfl rfl (by decide) rfl rfl (pa_cons (pe_lst (pa_cons (pv 1) pa_nil)) (pa_cons (pe_lst pa_nil) pa_nil)) (by rfl))
    (pss_cons (ps_for PassesOwn.never rfl (pi_range1 (by rfl) z_range (pa_cons (pe_callC C__law_take hr rfl (pa_cons (pv 0) (pa_cons pe_int pa_nil))) pa_nil)) (pg_name (i := 4) sc__law_waters.nd rfl (Or.inl rfl))
    (pss_one (ps_if (pt_cmpR op_gt (pe_ix (ix_seqK (K := K) rfl) (pv 2) (pe_un un_neg pe_int) (fun _ _ => rfl)) pe_int (nomark _)) (pss_one (ps_expr (pe_bm PySem.F.plainAttrs_list PySem.F.slot_list_append PySem.F.type_list_append mt_append (pv 2) (pa_cons (pe_op op_sub (pe_op op_sub (pe_ix (ix_seqK (K := K) rfl) (pv 2) (pe_un un_neg pe_int) (fun _ _ => rfl)) pe_int) (pe_callC C__law_take hr rfl (pa_cons (pv 0) (pa_cons (pe_callB (crMin2 rfl) (by rfl) z_min (by decide +kernel) (pa_cons pe_int (pa_cons (pe_op op_sub (pe_ix (ix_seqK (K := K) rfl) (pv 2) (pe_un un_neg pe_int) (fun _ _ => rfl)) pe_int) pa_nil))) pa_nil)))) pa_nil)))) pss_nil)))
    (pss_cons (ps_for PassesOwn.never rfl (pi_seqK (K := K) rfl (pv 2)) (pg_name (i := 5) sc__law_waters.nd rfl (Or.inl rfl))
    (pss_one (ps_expr (pe_bm PySem.F.plainAttrs_list PySem.F.slot_list_append PySem.F.type_list_append mt_append (pv 3) (pa_cons (pe_tup (pa_cons (pv 5) (pa_cons (pe_callC C__law_take hr rfl (pa_cons (pv 0) (pa_cons pe_int pa_nil))) (pa_cons (pe_callC C__law_of hr rfl (pa_cons (pv 0) (pa_cons (pe_lst (pa_cons pe_int (pa_cons pe_int (pa_cons pe_int (pa_cons pe_int (pa_cons pe_int pa_nil)))))) pa_nil))) (pa_cons (pe_op (op_addK (K := K) rfl) pe_int (pe_callC C__law_take hr rfl (pa_cons (pv 0) (pa_cons pe_int pa_nil)))) (pa_cons (pe_callC C__law_take hr rfl (pa_cons (pv 0) (pa_cons pe_int pa_nil))) pa_nil)))))) pa_nil)))))
    (pss_one (ps_ret (pe_callTy (crTupK (K := K) rfl) (by rfl) z_tuple (by decide +kernel) (pa_cons (pv 3) pa_nil))))))), fn_U (R := R__law_waters) ?_ hs⟩
  rintro _ u a b c ⟨deep, h1, h2⟩ hc0 hc1
  show Tr _ ([.own u [.int a, .int b, .int c], .dat (.int deep), .un, .un, .un, .un] : Env) _
  refine tr_seq (tr_par (av_cons (ev_lstN (av_cons (ev_var rfl (av_nil ⟨[_], rfl, Nat.le_of_ble_eq_true rfl, fun p => av_cons (ev_lstN (av_nil ⟨[], rfl, Nat.le_of_ble_eq_true rfl, fun q => av_nil ⟨_, _, rfl, ?_⟩⟩))⟩))))))
  show Tr _ ([.own u [.int a, .int b, .int c], .dat (.int deep), .own p [.int deep], .own q [], .un, .un] : Env) _
  refine tr_seq (tr_for (sr_r1 (ev_callU (i := 0) rfl hc0 (by omega) (av_cons (ev_int (av_nil ⟨rfl, [_], rfl, .mk 3 (by decide) (by decide), ?_⟩))))))
  rintro _ a1 b1 c1 ⟨_, r, r1, r2⟩ d1 d2
  refine ⟨_, rfl, by omega, by omega, ?_⟩
  refine ⟨fun i G => ∃ (a b c : Int) (ls : List Int) (x : Sd), G = [.own u [.int a, .int b, .int c], .dat (.int deep), .own p (ls.map Dat.int), .own q [], x, .un] ∧ 0 ≤ c ∧ c ≤ c1 + i ∧ 1 ≤ ls.length ∧ ls.length ≤ i + 1 ∧ ∀ l ∈ ls, 1 ≤ l ∧ l ≤ deep, ⟨a1, b1, c1, [deep], .un, rfl, d1, by omega, Nat.le_refl _, Nat.le_refl _, fun l hl => by cases List.mem_singleton.mp hl; omega⟩, fun i d G hd hG => ?_, fun G hG => ?_⟩
  · obtain ⟨a, b, c, ls, x, rfl, e1, e2, e3, e4, e5⟩ := hG
    obtain ⟨k, hk, rfl⟩ := mapG hd
    obtain ⟨rfl, hi⟩ := rgG hk
    obtain ⟨l, hl, hm⟩ := last_some e3
    have hl5 := e5 l hm
    refine gw_name (tr_if (tt_T (ev_gt (ev_ix (ev_varM rfl (ev_neg (ev_int ⟨_, rfl, _, _, _, .inr (.inr (.inl ⟨_, 2, rfl, rfl⟩)), rfl, ints_last hl, ev_int ⟨_, _, rfl, rfl, _, rfl, fun e => ?_, fun e => tr_next ?_⟩⟩)))))))
    · have e' : 1 < l := of_decide_eq_true e
      refine tr_app ⟨_, _, rfl⟩ (ev_sub (ev_sub (ev_ix (ev_varM rfl (ev_neg (ev_int ⟨_, rfl, _, _, _, .inr (.inr (.inl ⟨_, 2, rfl, rfl⟩)), rfl, ints_last hl, ev_int ⟨_, _, rfl, rfl, ?_⟩⟩))))))
      refine ev_callU (i := 0) rfl e1 (by omega) (av_cons (ev_min (ev_int (ev_sub (ev_ix (ev_varM rfl (ev_neg (ev_int ⟨_, rfl, _, _, _, .inr (.inr (.inl ⟨_, 2, rfl, rfl⟩)), rfl, ints_last hl, ev_int ⟨_, _, rfl, rfl, _, _, rfl, rfl, av_nil ⟨rfl, [_], rfl, .mk _ ?_ ?_, ?_⟩⟩⟩))))))))
      · split <;> omega
      · split <;> omega
      rintro _ a2 b2 c2 ⟨_, t, t1, t2⟩ g1 g2
      have t3 : t < l - 1 := by
        split at t2 <;> omega
      refine ⟨_, _, rfl, rfl, _, _, _, rfl, rfl, ?_, a2, b2, c2, ls ++ [l - 1 - t], .dat (.int (0 + (i : Int))), ?_⟩
      · rw [List.length_map]
        omega
      refine ⟨?_, g1, by omega, by rw [List.length_append]; omega, by rw [List.length_append, List.length_singleton]; omega, fun y hy => ?_⟩
      · rw [List.map_append]
        rfl
      · rcases List.mem_append.mp hy with hy | hy
        · exact e5 y hy
        · cases List.mem_singleton.mp hy
          omega
    · exact ⟨a, b, c, ls, .dat (.int (0 + (i : Int))), rfl, e1, by omega, e3, by omega, e5⟩
  · obtain ⟨a, b, c, ls, x, rfl, e1, e2, e3, e4, e5⟩ := hG
    rw [List.length_map, rgI_len] at e2 e4
    have hlen : ls.length ≤ 3 := by omega
    refine tr_freeze (i := 2) rfl ?_
    show Tr _ ([.own u [.int a, .int b, .int c], .dat (.int deep), .dat (intsL ls), .own q [], x, .un] : Env) _
    refine tr_seq (tr_for (sr_lst (ev_var rfl ⟨_, rfl, ?_⟩)))
    refine ⟨fun i G => ∃ (a b c' : Int) (cs : List Cist) (y : Sd), G = [.own u [.int a, .int b, .int c'], .dat (.int deep), .dat (intsL ls), .own q (cs.map Cist.d), x, y] ∧ 0 ≤ c' ∧ c' ≤ c + 4 * i ∧ cs.length = i ∧ ∀ l ∈ cs, 1 ≤ l.level ∧ l.level ≤ deep, ⟨a, b, c, [], .un, rfl, e1, by omega, rfl, fun l hl => nomatch hl⟩, fun i d G hd hG => ?_, fun G hG => ?_⟩
    · obtain ⟨a, b, c', cs, y, rfl, f1, f2, f3, f4⟩ := hG
      obtain ⟨l, hl, rfl⟩ := mapG hd
      have hi := ltOf hl
      have hl5 := e5 l (List.mem_of_getElem? hl)
      refine gw_name (tr_app ⟨_, _, rfl⟩ (ev_tup (av_cons (ev_var rfl (av_cons ?_)))))
      refine ev_callU (i := 0) rfl f1 (by omega) (av_cons (ev_int (av_nil ⟨rfl, [_], rfl, .mk 9 (by decide) (by decide), ?_⟩)))
      rintro _ a2 b2 c2 ⟨_, t, t1, t2⟩ g1 g2
      refine av_cons (ev_callU (i := 0) rfl g1 (by omega) (av_cons (ev_lst (av_cons (ev_int (av_cons (ev_int (av_cons (ev_int (av_cons (ev_int (av_cons (ev_int (av_nil ⟨[_, _, _, _, _], rfl, Nat.le_of_ble_eq_true rfl, av_nil ⟨rfl, [_], rfl, .mk _ (by decide) (by decide), ?_⟩⟩))))))))))))))
      intro s' a3 b3 c3 hs0 g3 g4
      have hs' := of_mem hs0
      obtain ⟨sp, rfl⟩ : ∃ i, s' = Dat.int i := by
        simp only [List.mem_cons, List.not_mem_nil, or_false] at hs'
        rcases hs' with h | h | h | h | h <;> exact ⟨_, h⟩
      refine av_cons (ev_add (ev_int (ev_callU (i := 0) rfl g3 (by omega) (av_cons (ev_int (av_nil ⟨rfl, [_], rfl, .mk 4 (by decide) (by decide), ?_⟩))))))
      rintro _ a4 b4 c4 ⟨_, m, m1, m2⟩ g5 g6
      refine ⟨_, _, rfl, rfl, av_cons (ev_callU (i := 0) rfl g5 (by omega) (av_cons (ev_int (av_nil ⟨rfl, [_], rfl, .mk 2 (by decide) (by decide), ?_⟩))))⟩
      rintro _ a5 b5 c5 ⟨_, o, o1, o2⟩ g7 g8
      refine av_nil ⟨[_, _, _, _, _], rfl, Nat.le_of_ble_eq_true rfl, _, _, _, rfl, rfl, ?_, a5, b5, c5, cs ++ [⟨l, t, sp, 1 + m, o⟩], .dat (.int l), ?_⟩
      · rw [List.length_map]
        omega
      refine ⟨?_, g7, by omega, by rw [List.length_append, f3]; rfl, fun y hy => ?_⟩
      · rw [List.map_append]
        rfl
      · rcases List.mem_append.mp hy with hy | hy
        · exact f4 y hy
        · cases List.mem_singleton.mp hy
          exact hl5
    · obtain ⟨a, b, c', cs, y, rfl, f1, f2, f3, f4⟩ := hG
      rw [List.length_map] at f2 f3
      refine tr_ret (ev_tuple (ev_varM rfl ⟨_, .inr (.inr (.inl ⟨_, 3, rfl, rfl⟩)), _, rfl, .mk deep cs ⟨by omega, by omega, f4⟩, _, _, _, rfl, f1, by omega⟩))
theorem cal_first_wet (T : Tx K mg) (C_flood_mark : Cal P w K mg base 1 "flood_mark" ["mine", "level"] (spP R_flood_mark)) : Cal P w K mg base 2 "first_wet" ["mine", "rows", "level"] (spP R_first_wet) := by
  have z_enumerate := T.z_enumerate
  have C_flood_mark := C_flood_mark.mono (show 1 ≤ 1 by decide)
  refine T.d_first_wet.cal sc_first_wet (spP_len fun ds d h => by cases h <;> rfl) fun f cdv A outer s H vs Q E hr hs => ⟨_, (pss_cons (ps_for PassesOwn.never rfl (pi_enumK (K := K) rfl (by rfl) z_enumerate (pa_cons (pv 1) pa_nil)) (pg_tupK (K := K) (n := 2) rfl rfl (pgs_cons (pg_name (i := 3) sc_first_wet.nd rfl (Or.inl rfl)) (pgs_cons (pg_name (i := 4) sc_first_wet.nd rfl (Or.inl rfl)) pgs_nil)))
    (pss_one (ps_if (pt_cmpR op_ge (pe_ix (ix_seqK (K := K) rfl) (pe_ix (ix_seqK (K := K) rfl) (pv 4) pe_int (fun _ _ => rfl)) pe_int (fun _ _ => rfl)) (pe_callC C_flood_mark hr rfl (pa_cons (pv 0) (pa_cons (pv 2) pa_nil))) (nomark _)) (pss_one (ps_ret (pv 3))) pss_nil)))
    (pss_one (ps_ret pe_non))), fn_P (R := R_first_wet) ?_ hs⟩
  rintro _ _ ⟨m, rs, level, o, h1, h2, h3, h4⟩
  show Tr _ ([.dat (mineD m), .dat (rowsL rs), .dat (.int level), .un, .un] : Env) _
  refine tr_seq (tr_for (sr_enL ?_))
  walk_at "go"
  refine ⟨fun i G => (∃ a b, G = [.dat (mineD m), .dat (rowsL rs), .dat (.int level), a, b]) ∧ ∀ j r, j < i → rs[j]? = some r → wet m level r = false, ⟨⟨.un, .un, rfl⟩, fun j r z => absurd z (Nat.not_lt_zero _)⟩, fun i d G hd hG => ?_, fun G hG => ?_⟩
  · obtain ⟨⟨a, b, rfl⟩, old⟩ := hG
    obtain ⟨r, hr', rfl⟩ := enumG hd
    have hh := h3 r (List.mem_of_getElem? hr')
    obtain ⟨x, hx⟩ := getOf (xs := r.held) (i := 0) hh
    refine gw_two (tr_if ?_)
    walk_at "go"
    refine call_of (.mk m level o h1 h2) rfl ?_
    walk_at "go"
    have ew : wet m level r = decide (mark m level ≤ x) := by
      unfold wet
      rw [getD_of hx]
    rw [← ew]
    refine ⟨fun e => ?_, fun e => tr_next ⟨⟨_, _, rfl⟩, fun j r' hj hr2 => ?_⟩⟩
    · refine tr_ret ?_
      walk_at "go"
      have : firstWet m level rs = some i := by
        unfold firstWet
        rw [List.findIdx?_eq_some_iff_getElem]
        refine ⟨ltOf hr', ?_, fun j hj => ?_⟩
        · have := (List.getElem?_eq_some_iff.mp hr').2
          rw [this]
          exact e
        · have hj' : j < rs.length := by have := ltOf hr'; omega
          rw [old j _ hj (List.getElem?_eq_getElem hj')]
          decide
      show _ = optN (firstWet m level rs)
      rw [this]
      rfl
    · by_cases q : j < i
      · exact old j r' q hr2
      · have : j = i := by omega
        subst this
        rw [hr'] at hr2
        cases hr2
        exact e
  · obtain ⟨⟨a, b, rfl⟩, old⟩ := hG
    refine tr_ret ?_
    walk_at "go"
    have : firstWet m level rs = none := by
      unfold firstWet
      rw [List.findIdx?_eq_none_iff]
      intro r hr'
      obtain ⟨j, hj⟩ := List.getElem?_of_mem hr'
      refine old j r ?_ hj
      rw [enumD_len, List.length_map]
      exact ltOf hj
    show _ = optN (firstWet m level rs)
    rw [this]
    rfl
theorem held_ge {m : Mine} (o : Ok m) (n : Nat) : ∀ r ∈ rows m n, 1 ≤ r.held.length := fun r hr => by
  obtain ⟨i, _, rfl⟩ := rows_mem hr
  rw [rowAt_len]
  exact o.w1
theorem cal_wet_from (T : Tx K mg) (C_first_wet : Cal P w K mg base 2 "first_wet" ["mine", "rows", "level"] (spP R_first_wet)) (C_lone_rows : Cal P w K mg base 9 "lone_rows" ["mine", "many"] (spP R_lone_rows)) (C_tuple_of : Cal P w K mg base 8 "tuple_of" ["thing"] (spP (R_tuple_of 8))) : Cal P w K mg base 10 "wet_from" ["mine", "level", "many"] (spP R_wet_from) := by
  have C_first_wet := C_first_wet.mono (show 2 ≤ 9 by decide)
  have C_lone_rows := C_lone_rows.mono (show 9 ≤ 9 by decide)
  have C_tuple_of := C_tuple_of.mono (show 8 ≤ 9 by decide)
  refine T.d_wet_from.cal sc_wet_from (spP_len fun ds d h => by cases h <;> rfl) fun f cdv A outer s H vs Q E hr hs => ⟨_, (pss_cons (ps_set (i := 3) sc_wet_from.nd rfl (Or.inl rfl) (pe_callC C_tuple_of hr rfl (pa_cons (pv 0) pa_nil)))
    (pss_one (ps_ret (pe_callC C_first_wet hr rfl (pa_cons (pv 3) (pa_cons (pe_callC C_lone_rows hr rfl (pa_cons (pv 3) (pa_cons (pv 2) pa_nil))) (pa_cons (pv 1) pa_nil))))))), fn_P (R := R_wet_from) ?_ hs⟩
  rintro _ _ ⟨m, level, n, o, h1, h2, hn⟩
  show Tr _ ([.dat (mineD m), .dat (.int level), .dat (.int n), .un] : Env) _
  refine tr_seq (tr_set ?_)
  walk_at "go"
  refine call_of (.mk (mineD m) (mine_dep m) (mine_small o)) rfl ?_
  rw [mine_toT]
  refine tr_ret ?_
  walk_at "go"
  refine call_of (.mk m n o hn) rfl ?_
  walk_at "go"
  exact call_of (.mk m (rows m n) level o h1 h2 (held_ge o n) (by rw [rows_len]; omega)) rfl ⟨_, rfl, rfl⟩
end
set_option maxHeartbeats 0
def d_tuple_of : He.DefD := ⟨("tuple_of", none), "tuple_of", "tuple_of", defArgs s_tuple_of, defBody s_tuple_of, defScope s_tuple_of, [], []⟩
def d_dry_held : He.DefD := ⟨("dry_held", none), "dry_held", "dry_held", defArgs s_dry_held, defBody s_dry_held, defScope s_dry_held, [], []⟩
def d_brings : He.DefD := ⟨("brings", none), "brings", "brings", defArgs s_brings, defBody s_brings, defScope s_brings, [], []⟩
def d_behind_stroke : He.DefD := ⟨("behind_stroke", none), "behind_stroke", "behind_stroke", defArgs s_behind_stroke, defBody s_behind_stroke, defScope s_behind_stroke, [], []⟩
def d_behind_spills : He.DefD := ⟨("behind_spills", none), "behind_spills", "behind_spills", defArgs s_behind_spills, defBody s_behind_spills, defScope s_behind_spills, [], []⟩
def d_behind_rest : He.DefD := ⟨("behind_rest", none), "behind_rest", "behind_rest", defArgs s_behind_rest, defBody s_behind_rest, defScope s_behind_rest, [], []⟩
def d_lift_heights : He.DefD := ⟨("lift_heights", none), "lift_heights", "lift_heights", defArgs s_lift_heights, defBody s_lift_heights, defScope s_lift_heights, [], []⟩
def d_whole_leaks : He.DefD := ⟨("whole_leaks", none), "whole_leaks", "whole_leaks", defArgs s_whole_leaks, defBody s_whole_leaks, defScope s_whole_leaks, [], []⟩
def d_weight_by : He.DefD := ⟨("weight_by", none), "weight_by", "weight_by", defArgs s_weight_by, defBody s_weight_by, defScope s_weight_by, [], []⟩
def d_steam_by : He.DefD := ⟨("steam_by", none), "steam_by", "steam_by", defArgs s_steam_by, defBody s_steam_by, defScope s_steam_by, [], []⟩
def d_lone_rest : He.DefD := ⟨("lone_rest", none), "lone_rest", "lone_rest", defArgs s_lone_rest, defBody s_lone_rest, defScope s_lone_rest, [], []⟩
def d_lone_rows : He.DefD := ⟨("lone_rows", none), "lone_rows", "lone_rows", defArgs s_lone_rows, defBody s_lone_rows, defScope s_lone_rows, [], []⟩
def d_flood_mark : He.DefD := ⟨("flood_mark", none), "flood_mark", "flood_mark", defArgs s_flood_mark, defBody s_flood_mark, defScope s_flood_mark, [], []⟩
def d_made_row : He.DefD := ⟨("made_row", none), "made_row", "made_row", defArgs s_made_row, defBody s_made_row, defScope s_made_row, [], []⟩
def d_first_wet : He.DefD := ⟨("first_wet", none), "first_wet", "first_wet", defArgs s_first_wet, defBody s_first_wet, defScope s_first_wet, [], []⟩
def d_wet_from : He.DefD := ⟨("wet_from", none), "wet_from", "wet_from", defArgs s_wet_from, defBody s_wet_from, defScope s_wet_from, [], []⟩
def d_lasts_of : He.DefD := ⟨("lasts_of", none), "lasts_of", "lasts_of", defArgs s_lasts_of, defBody s_lasts_of, defScope s_lasts_of, [], []⟩
def d_slots_by : He.DefD := ⟨("slots_by", none), "slots_by", "slots_by", defArgs s_slots_by, defBody s_slots_by, defScope s_slots_by, [], []⟩
def d_last_slots : He.DefD := ⟨("last_slots", none), "last_slots", "last_slots", defArgs s_last_slots, defBody s_last_slots, defScope s_last_slots, [], []⟩
def d__law_box : He.DefD := ⟨("_law_box", none), "_law_box", "_law_box", defArgs s__law_box, defBody s__law_box, defScope s__law_box, [], []⟩
def d__law_take : He.DefD := ⟨("_law_take", none), "_law_take", "_law_take", defArgs s__law_take, defBody s__law_take, defScope s__law_take, [], []⟩
def d__law_cells : He.DefD := ⟨("_law_cells", none), "_law_cells", "_law_cells", defArgs s__law_cells, defBody s__law_cells, defScope s__law_cells, [], []⟩
def d__law_of : He.DefD := ⟨("_law_of", none), "_law_of", "_law_of", defArgs s__law_of, defBody s__law_of, defScope s__law_of, [], []⟩
def d__law_same : He.DefD := ⟨("_law_same", none), "_law_same", "_law_same", defArgs s__law_same, defBody s__law_same, defScope s__law_same, [], []⟩
def d__law_lists : He.DefD := ⟨("_law_lists", none), "_law_lists", "_law_lists", defArgs s__law_lists, defBody s__law_lists, defScope s__law_lists, [], []⟩
def d__law_waters : He.DefD := ⟨("_law_waters", none), "_law_waters", "_law_waters", defArgs s__law_waters, defBody s__law_waters, defScope s__law_waters, [], []⟩
def d__law_mine : He.DefD := ⟨("_law_mine", none), "_law_mine", "_law_mine", defArgs s__law_mine, defBody s__law_mine, defScope s__law_mine, [], []⟩
def d__law_lifted : He.DefD := ⟨("_law_lifted", none), "_law_lifted", "_law_lifted", defArgs s__law_lifted, defBody s__law_lifted, defScope s__law_lifted, [], []⟩
def d__law_load : He.DefD := ⟨("_law_load", none), "_law_load", "_law_load", defArgs s__law_load, defBody s__law_load, defScope s__law_load, [], []⟩
def d__law_flow : He.DefD := ⟨("_law_flow", none), "_law_flow", "_law_flow", defArgs s__law_flow, defBody s__law_flow, defScope s__law_flow, [], []⟩
def d__law_lone : He.DefD := ⟨("_law_lone", none), "_law_lone", "_law_lone", defArgs s__law_lone, defBody s__law_lone, defScope s__law_lone, [], []⟩
def d__law_is_wet : He.DefD := ⟨("_law_is_wet", none), "_law_is_wet", "_law_is_wet", defArgs s__law_is_wet, defBody s__law_is_wet, defScope s__law_is_wet, [], []⟩
def d__law_last_passed : He.DefD := ⟨("_law_last_passed", none), "_law_last_passed", "_law_last_passed", defArgs s__law_last_passed, defBody s__law_last_passed, defScope s__law_last_passed, [], []⟩
def d__law_right : He.DefD := ⟨("_law_right", none), "_law_right", "_law_right", defArgs s__law_right, defBody s__law_right, defScope s__law_right, [], []⟩
def d__law_by_hand_right : He.DefD := ⟨("_law_by_hand_right", none), "_law_by_hand_right", "_law_by_hand_right", defArgs s__law_by_hand_right, defBody s__law_by_hand_right, defScope s__law_by_hand_right, [], []⟩
def d_law : He.DefD := ⟨("law", none), "law", "law", defArgs s_law, defBody s_law, defScope s_law, [], []⟩
def hFn0 : List He.DefD := [d_tuple_of, d_dry_held, d_brings, d_behind_stroke, d_behind_spills, d_behind_rest, d_lift_heights, d_whole_leaks, d_weight_by, d_steam_by, d_lone_rest, d_lone_rows, d_flood_mark, d_made_row, d_first_wet, d_wet_from, d_lasts_of, d_slots_by, d_last_slots, d__law_box, d__law_take, d__law_cells, d__law_of, d__law_same, d__law_lists, d__law_waters, d__law_mine, d__law_lifted, d__law_load, d__law_flow]
def hFn1 : List He.DefD := [d__law_lone, d__law_is_wet, d__law_last_passed, d__law_right, d__law_by_hand_right, d_law]
def hFn : List He.DefD := hFn0 ++ hFn1
def hFa0 : List He.Fa := [.glo "tuple_of", .glo "dry_held", .glo "brings", .glo "behind_stroke", .glo "behind_spills", .glo "behind_rest", .glo "lift_heights", .glo "whole_leaks", .glo "weight_by", .glo "steam_by", .glo "lone_rest", .glo "lone_rows", .glo "flood_mark", .glo "made_row", .glo "first_wet", .glo "wet_from", .glo "lasts_of", .glo "slots_by", .glo "last_slots", .glo "_law_box", .glo "_law_take", .glo "_law_cells", .glo "_law_of", .glo "_law_same", .glo "_law_lists", .glo "_law_waters", .glo "_law_mine", .glo "_law_lifted", .glo "_law_load", .glo "_law_flow"]
def hFa1 : List He.Fa := [.glo "_law_lone", .glo "_law_is_wet", .glo "_law_last_passed", .glo "_law_right", .glo "_law_by_hand_right", .glo "law", .free "abs", .free "all", .free "bool", .free "enumerate", .free "int", .free "isinstance", .free "len", .free "list", .free "max", .free "min", .free "range", .free "str", .free "sum", .free "tuple", .free "zip", .int "MEASURE" 3, .int "ROD" 4, .int "ROOM" 1, .int "SPRING" 2]
def hFa : List He.Fa := hFa0 ++ hFa1
def hLoose0 : List PySem.Str := ["tuple_of", "dry_held", "brings", "behind_stroke", "behind_spills", "behind_rest", "lift_heights", "whole_leaks", "weight_by", "steam_by", "lone_rest", "lone_rows", "flood_mark", "made_row", "first_wet", "wet_from", "lasts_of", "slots_by", "last_slots", "_law_box", "_law_take", "_law_cells", "_law_of", "_law_same", "_law_lists", "_law_waters", "_law_mine", "_law_lifted", "_law_load", "_law_flow"]
def hLoose1 : List PySem.Str := ["_law_lone", "_law_is_wet", "_law_last_passed", "_law_right", "_law_by_hand_right", "ROOM", "SPRING", "MEASURE", "ROD", "__name__"]
def hLoose : List PySem.Str := hLoose0 ++ hLoose1
theorem tx_of {K : PySem.W.Frag} {h : Heap} {mg : Str → Option Value} (X : K.In h) (G : h.Ns mainGlobals mg) (c : He.SaysD hFa hFn K) : Tx K mg where
  z_abs := He.free_ok X G (c.fact 36 (f := .free "abs") rfl)
  z_all := He.free_ok X G (c.fact 37 (f := .free "all") rfl)
  z_bool := He.free_ok X G (c.fact 38 (f := .free "bool") rfl)
  z_enumerate := He.free_ok X G (c.fact 39 (f := .free "enumerate") rfl)
  z_int := He.free_ok X G (c.fact 40 (f := .free "int") rfl)
  z_isinstance := He.free_ok X G (c.fact 41 (f := .free "isinstance") rfl)
  z_len := He.free_ok X G (c.fact 42 (f := .free "len") rfl)
  z_list := He.free_ok X G (c.fact 43 (f := .free "list") rfl)
  z_max := He.free_ok X G (c.fact 44 (f := .free "max") rfl)
  z_min := He.free_ok X G (c.fact 45 (f := .free "min") rfl)
  z_range := He.free_ok X G (c.fact 46 (f := .free "range") rfl)
  z_str := He.free_ok X G (c.fact 47 (f := .free "str") rfl)
  z_sum := He.free_ok X G (c.fact 48 (f := .free "sum") rfl)
  z_tuple := He.free_ok X G (c.fact 49 (f := .free "tuple") rfl)
  z_zip := He.free_ok X G (c.fact 50 (f := .free "zip") rfl)
  c_MEASURE := He.int_ok X G (c.fact 51 (f := .int "MEASURE" 3) rfl)
  c_ROD := He.int_ok X G (c.fact 52 (f := .int "ROD" 4) rfl)
  c_ROOM := He.int_ok X G (c.fact 53 (f := .int "ROOM" 1) rfl)
  c_SPRING := He.int_ok X G (c.fact 54 (f := .int "SPRING" 2) rfl)
  d_tuple_of := by
    obtain ⟨fd, F⟩ := c.def_ 0 (d := d_tuple_of) rfl
    exact ⟨_, fd, F, F.bindsN fun _ _ _ _ _ _ us hl => match us, hl with | [_], _ => rfl, He.glo_ok X G (c.fact 0 (f := .glo "tuple_of") rfl)⟩
  d_dry_held := by
    obtain ⟨fd, F⟩ := c.def_ 1 (d := d_dry_held) rfl
    exact ⟨_, fd, F, F.bindsN fun _ _ _ _ _ _ us hl => match us, hl with | [_], _ => rfl, He.glo_ok X G (c.fact 1 (f := .glo "dry_held") rfl)⟩
  d_brings := by
    obtain ⟨fd, F⟩ := c.def_ 2 (d := d_brings) rfl
    exact ⟨_, fd, F, F.bindsN fun _ _ _ _ _ _ us hl => match us, hl with | [_, _, _, _, _], _ => rfl, He.glo_ok X G (c.fact 2 (f := .glo "brings") rfl)⟩
  d_behind_stroke := by
    obtain ⟨fd, F⟩ := c.def_ 3 (d := d_behind_stroke) rfl
    exact ⟨_, fd, F, F.bindsN fun _ _ _ _ _ _ us hl => match us, hl with | [_, _, _, _, _], _ => rfl, He.glo_ok X G (c.fact 3 (f := .glo "behind_stroke") rfl)⟩
  d_behind_spills := by
    obtain ⟨fd, F⟩ := c.def_ 4 (d := d_behind_spills) rfl
    exact ⟨_, fd, F, F.bindsN fun _ _ _ _ _ _ us hl => match us, hl with | [_, _], _ => rfl, He.glo_ok X G (c.fact 4 (f := .glo "behind_spills") rfl)⟩
  d_behind_rest := by
    obtain ⟨fd, F⟩ := c.def_ 5 (d := d_behind_rest) rfl
    exact ⟨_, fd, F, F.bindsN fun _ _ _ _ _ _ us hl => match us, hl with | [_, _, _, _, _, _, _], _ => rfl, He.glo_ok X G (c.fact 5 (f := .glo "behind_rest") rfl)⟩
  d_lift_heights := by
    obtain ⟨fd, F⟩ := c.def_ 6 (d := d_lift_heights) rfl
    exact ⟨_, fd, F, F.bindsN fun _ _ _ _ _ _ us hl => match us, hl with | [_], _ => rfl, He.glo_ok X G (c.fact 6 (f := .glo "lift_heights") rfl)⟩
  d_whole_leaks := by
    obtain ⟨fd, F⟩ := c.def_ 7 (d := d_whole_leaks) rfl
    exact ⟨_, fd, F, F.bindsN fun _ _ _ _ _ _ us hl => match us, hl with | [_], _ => rfl, He.glo_ok X G (c.fact 7 (f := .glo "whole_leaks") rfl)⟩
  d_weight_by := by
    obtain ⟨fd, F⟩ := c.def_ 8 (d := d_weight_by) rfl
    exact ⟨_, fd, F, F.bindsN fun _ _ _ _ _ _ us hl => match us, hl with | [_, _, _, _, _], _ => rfl, He.glo_ok X G (c.fact 8 (f := .glo "weight_by") rfl)⟩
  d_steam_by := by
    obtain ⟨fd, F⟩ := c.def_ 9 (d := d_steam_by) rfl
    exact ⟨_, fd, F, F.bindsN fun _ _ _ _ _ _ us hl => match us, hl with | [_, _, _, _], _ => rfl, He.glo_ok X G (c.fact 9 (f := .glo "steam_by") rfl)⟩
  d_lone_rest := by
    obtain ⟨fd, F⟩ := c.def_ 10 (d := d_lone_rest) rfl
    exact ⟨_, fd, F, F.bindsN fun _ _ _ _ _ _ us hl => match us, hl with | [_, _, _], _ => rfl, He.glo_ok X G (c.fact 10 (f := .glo "lone_rest") rfl)⟩
  d_lone_rows := by
    obtain ⟨fd, F⟩ := c.def_ 11 (d := d_lone_rows) rfl
    exact ⟨_, fd, F, F.bindsN fun _ _ _ _ _ _ us hl => match us, hl with | [_, _], _ => rfl, He.glo_ok X G (c.fact 11 (f := .glo "lone_rows") rfl)⟩
  d_flood_mark := by
    obtain ⟨fd, F⟩ := c.def_ 12 (d := d_flood_mark) rfl
    exact ⟨_, fd, F, F.bindsN fun _ _ _ _ _ _ us hl => match us, hl with | [_, _], _ => rfl, He.glo_ok X G (c.fact 12 (f := .glo "flood_mark") rfl)⟩
  d_made_row := by
    obtain ⟨fd, F⟩ := c.def_ 13 (d := d_made_row) rfl
    exact ⟨_, fd, F, F.bindsN fun _ _ _ _ _ _ us hl => match us, hl with | [_, _], _ => rfl, He.glo_ok X G (c.fact 13 (f := .glo "made_row") rfl)⟩
  d_first_wet := by
    obtain ⟨fd, F⟩ := c.def_ 14 (d := d_first_wet) rfl
    exact ⟨_, fd, F, F.bindsN fun _ _ _ _ _ _ us hl => match us, hl with | [_, _, _], _ => rfl, He.glo_ok X G (c.fact 14 (f := .glo "first_wet") rfl)⟩
  d_wet_from := by
    obtain ⟨fd, F⟩ := c.def_ 15 (d := d_wet_from) rfl
    exact ⟨_, fd, F, F.bindsN fun _ _ _ _ _ _ us hl => match us, hl with | [_, _, _], _ => rfl, He.glo_ok X G (c.fact 15 (f := .glo "wet_from") rfl)⟩
  d_lasts_of := by
    obtain ⟨fd, F⟩ := c.def_ 16 (d := d_lasts_of) rfl
    exact ⟨_, fd, F, F.bindsN fun _ _ _ _ _ _ us hl => match us, hl with | [_, _], _ => rfl, He.glo_ok X G (c.fact 16 (f := .glo "lasts_of") rfl)⟩
  d_slots_by := by
    obtain ⟨fd, F⟩ := c.def_ 17 (d := d_slots_by) rfl
    exact ⟨_, fd, F, F.bindsN fun _ _ _ _ _ _ us hl => match us, hl with | [_], _ => rfl, He.glo_ok X G (c.fact 17 (f := .glo "slots_by") rfl)⟩
  d_last_slots := by
    obtain ⟨fd, F⟩ := c.def_ 18 (d := d_last_slots) rfl
    exact ⟨_, fd, F, F.bindsN fun _ _ _ _ _ _ us hl => match us, hl with | [_, _], _ => rfl, He.glo_ok X G (c.fact 18 (f := .glo "last_slots") rfl)⟩
  d__law_box := by
    obtain ⟨fd, F⟩ := c.def_ 19 (d := d__law_box) rfl
    exact ⟨_, fd, F, F.bindsN fun _ _ _ _ _ _ us hl => match us, hl with | [_, _], _ => rfl, He.glo_ok X G (c.fact 19 (f := .glo "_law_box") rfl)⟩
  d__law_take := by
    obtain ⟨fd, F⟩ := c.def_ 20 (d := d__law_take) rfl
    exact ⟨_, fd, F, F.bindsN fun _ _ _ _ _ _ us hl => match us, hl with | [_, _], _ => rfl, He.glo_ok X G (c.fact 20 (f := .glo "_law_take") rfl)⟩
  d__law_cells := by
    obtain ⟨fd, F⟩ := c.def_ 21 (d := d__law_cells) rfl
    exact ⟨_, fd, F, F.bindsN fun _ _ _ _ _ _ us hl => match us, hl with | [_, _], _ => rfl, He.glo_ok X G (c.fact 21 (f := .glo "_law_cells") rfl)⟩
  d__law_of := by
    obtain ⟨fd, F⟩ := c.def_ 22 (d := d__law_of) rfl
    exact ⟨_, fd, F, F.bindsN fun _ _ _ _ _ _ us hl => match us, hl with | [_, _], _ => rfl, He.glo_ok X G (c.fact 22 (f := .glo "_law_of") rfl)⟩
  d__law_same := by
    obtain ⟨fd, F⟩ := c.def_ 23 (d := d__law_same) rfl
    exact ⟨_, fd, F, F.bindsN fun _ _ _ _ _ _ us hl => match us, hl with | [_, _], _ => rfl, He.glo_ok X G (c.fact 23 (f := .glo "_law_same") rfl)⟩
  d__law_lists := by
    obtain ⟨fd, F⟩ := c.def_ 24 (d := d__law_lists) rfl
    exact ⟨_, fd, F, F.bindsN fun _ _ _ _ _ _ us hl => match us, hl with | [_], _ => rfl, He.glo_ok X G (c.fact 24 (f := .glo "_law_lists") rfl)⟩
  d__law_waters := by
    obtain ⟨fd, F⟩ := c.def_ 25 (d := d__law_waters) rfl
    exact ⟨_, fd, F, F.bindsN fun _ _ _ _ _ _ us hl => match us, hl with | [_, _], _ => rfl, He.glo_ok X G (c.fact 25 (f := .glo "_law_waters") rfl)⟩
  d__law_mine := by
    obtain ⟨fd, F⟩ := c.def_ 26 (d := d__law_mine) rfl
    exact ⟨_, fd, F, F.bindsN fun _ _ _ _ _ _ us hl => match us, hl with | [_, _], _ => rfl, He.glo_ok X G (c.fact 26 (f := .glo "_law_mine") rfl)⟩
  d__law_lifted := by
    obtain ⟨fd, F⟩ := c.def_ 27 (d := d__law_lifted) rfl
    exact ⟨_, fd, F, F.bindsN fun _ _ _ _ _ _ us hl => match us, hl with | [_, _, _, _, _], _ => rfl, He.glo_ok X G (c.fact 27 (f := .glo "_law_lifted") rfl)⟩
  d__law_load := by
    obtain ⟨fd, F⟩ := c.def_ 28 (d := d__law_load) rfl
    exact ⟨_, fd, F, F.bindsN fun _ _ _ _ _ _ us hl => match us, hl with | [_, _], _ => rfl, He.glo_ok X G (c.fact 28 (f := .glo "_law_load") rfl)⟩
  d__law_flow := by
    obtain ⟨fd, F⟩ := c.def_ 29 (d := d__law_flow) rfl
    exact ⟨_, fd, F, F.bindsN fun _ _ _ _ _ _ us hl => match us, hl with | [_, _, _, _], _ => rfl, He.glo_ok X G (c.fact 29 (f := .glo "_law_flow") rfl)⟩
  d__law_lone := by
    obtain ⟨fd, F⟩ := c.def_ 30 (d := d__law_lone) rfl
    exact ⟨_, fd, F, F.bindsN fun _ _ _ _ _ _ us hl => match us, hl with | [_, _], _ => rfl, He.glo_ok X G (c.fact 30 (f := .glo "_law_lone") rfl)⟩
  d__law_is_wet := by
    obtain ⟨fd, F⟩ := c.def_ 31 (d := d__law_is_wet) rfl
    exact ⟨_, fd, F, F.bindsN fun _ _ _ _ _ _ us hl => match us, hl with | [_, _, _], _ => rfl, He.glo_ok X G (c.fact 31 (f := .glo "_law_is_wet") rfl)⟩
  d__law_last_passed := by
    obtain ⟨fd, F⟩ := c.def_ 32 (d := d__law_last_passed) rfl
    exact ⟨_, fd, F, F.bindsN fun _ _ _ _ _ _ us hl => match us, hl with | [_, _, _], _ => rfl, He.glo_ok X G (c.fact 32 (f := .glo "_law_last_passed") rfl)⟩
  d__law_right := by
    obtain ⟨fd, F⟩ := c.def_ 33 (d := d__law_right) rfl
    exact ⟨_, fd, F, F.bindsN fun _ _ _ _ _ _ us hl => match us, hl with | [_], _ => rfl, He.glo_ok X G (c.fact 33 (f := .glo "_law_right") rfl)⟩
  d__law_by_hand_right := by
    obtain ⟨fd, F⟩ := c.def_ 34 (d := d__law_by_hand_right) rfl
    exact ⟨_, fd, F, F.bindsN fun _ _ _ _ _ _ us hl => match us, hl with | [], _ => rfl, He.glo_ok X G (c.fact 34 (f := .glo "_law_by_hand_right") rfl)⟩
  d_law := by
    obtain ⟨fd, F⟩ := c.def_ 35 (d := d_law) rfl
    exact ⟨_, fd, F, F.bindsN fun _ _ _ _ _ _ us hl => match us, hl with | [_], _ => rfl, He.glo_ok X G (c.fact 35 (f := .glo "law") rfl)⟩
theorem law_ok {P : Program} {w : World} {K : PySem.W.Frag} {mg : Str → Option Value} {base : Heap} (T : Tx K mg) {f : Addr} {fd : FuncData} (F : FunD K "law" "law" (defArgs s_law) (defBody s_law) (defScope s_law) [] [] f fd) : FnOk P w K mg base CX0 13 f fd ["_law_script"] (spLaw K) := by
  have C_tuple_of := cal_tuple_of_at (P := P) (w := w) (base := base) T 8
  have C_dry_held := cal_dry_held (P := P) (w := w) (base := base) T 
  have C_brings := cal_brings (P := P) (w := w) (base := base) T 
  have C_behind_stroke := cal_behind_stroke (P := P) (w := w) (base := base) T C_brings
  have C_behind_spills := cal_behind_spills (P := P) (w := w) (base := base) T 
  have C_behind_rest := cal_behind_rest (P := P) (w := w) (base := base) T C_behind_spills C_behind_stroke
  have C_lift_heights := cal_lift_heights (P := P) (w := w) (base := base) T 
  have C_whole_leaks := cal_whole_leaks (P := P) (w := w) (base := base) T 
  have C_weight_by := cal_weight_by (P := P) (w := w) (base := base) T C_lift_heights C_brings
  have C_steam_by := cal_steam_by (P := P) (w := w) (base := base) T 
  have C_lone_rest := cal_lone_rest (P := P) (w := w) (base := base) T C_steam_by C_behind_rest C_weight_by C_whole_leaks
  have C_lone_rows := cal_lone_rows (P := P) (w := w) (base := base) T C_lone_rest C_dry_held C_tuple_of
  have C_flood_mark := cal_flood_mark (P := P) (w := w) (base := base) T 
  have C_made_row := cal_made_row (P := P) (w := w) (base := base) T C_lone_rows
  have C_first_wet := cal_first_wet (P := P) (w := w) (base := base) T C_flood_mark
  have C_wet_from := cal_wet_from (P := P) (w := w) (base := base) T C_first_wet C_lone_rows C_tuple_of
  have C_lasts_of := cal_lasts_of (P := P) (w := w) (base := base) T C_first_wet C_lone_rows C_tuple_of
  have C_slots_by := cal_slots_by (P := P) (w := w) (base := base) T 
  have C_last_slots := cal_last_slots (P := P) (w := w) (base := base) T C_slots_by C_lasts_of
  have C__law_box := cal__law_box (P := P) (w := w) (base := base) T 
  have C__law_take := cal__law_take (P := P) (w := w) (base := base) T 
  have C__law_cells := cal__law_cells (P := P) (w := w) (base := base) T 
  have C__law_of := cal__law_of (P := P) (w := w) (base := base) T C__law_take
  have C__law_same := cal__law_same_at (P := P) (w := w) (base := base) T 8
  have C__law_lists := cal__law_lists_at (P := P) (w := w) (base := base) T 8
  have C__law_waters := cal__law_waters (P := P) (w := w) (base := base) T C__law_take C__law_of
  have C__law_mine := cal__law_mine (P := P) (w := w) (base := base) T C__law_take C__law_of C__law_waters
  have C__law_lifted := cal__law_lifted (P := P) (w := w) (base := base) T 
  have C__law_load := cal__law_load (P := P) (w := w) (base := base) T 
  have C__law_flow := cal__law_flow (P := P) (w := w) (base := base) T 
  have C__law_lone := cal__law_lone (P := P) (w := w) (base := base) T C__law_flow C__law_load C__law_lifted
  have C__law_is_wet := cal__law_is_wet (P := P) (w := w) (base := base) T 
  have C__law_last_passed := cal__law_last_passed (P := P) (w := w) (base := base) T C__law_is_wet
  have C__law_right := cal__law_right (P := P) (w := w) (base := base) T C__law_same C_lasts_of C__law_take C_wet_from C_last_slots C__law_lists C_made_row C__law_is_wet C__law_last_passed C__law_lone C__law_mine
  have C__law_by_hand_right := cal__law_by_hand_right (P := P) (w := w) (base := base) T C__law_same C_last_slots C_lasts_of C_wet_from C_made_row
  exact fn_law T C__law_right C__law_box C__law_cells C__law_by_hand_right F
abbrev hR : PySem.W.OpenRow := PySem.W.OpenLaw.row PySem.Challenge.rw_manrods_k56_whole_last_passings_of_level
abbrev hHk : PySem.W.Hook := He.hookD 4 hFa hFn
def hOb (s : PySem.W.SharedT) : He.AlD := He.obsDG 4 hFa hFn (HandSHeadRun.getT s)
theorem hOb_eq (s : PySem.W.SharedT) : hOb s = hHk.obs s.abs := He.obsDG_eq (HandSHeadRun.getT_eq s)
theorem hRun (w : World) : HandSHeadRun.RunEq hR (PySem.W.view hR.prog [44]) hHk hOb 6000 hLoose w := by
  intro os
  kernel_rfl
theorem hFacts {P : Program} {w : World} {K : PySem.W.Frag} {h : Heap} {mg : Str → Option Value} {f : Addr} (X : K.In h) (G : h.Ns mainGlobals mg) (hfa : mg ("law" : Str) = some (.ref f)) (c : He.SaysD hFa hFn K) :
    ∃ fd : FuncData, (∀ (s : Shared) (v : Value), BindsTo s fd ⟨[v], []⟩ [("_law_script", v)]) ∧ ∀ base : Heap, K.In base → base.Ns mainGlobals mg → FnOk P w K mg base CX0 13 f fd ["_law_script"] (spLaw K) := by
  obtain ⟨fd, F⟩ := c.def_ 35 (d := d_law) rfl
  have e := hfa.symm.trans (He.glo_ok X G (c.fact 35 (f := .glo "law") rfl))
  cases e
  have b := FunD.bindsA (ps := ["_law_script"]) F fun _ _ _ _ _ _ us hl => match us, hl with | [_], _ => rfl
  exact ⟨fd, fun s v => b s [v] rfl, fun base _ _ => law_ok (tx_of X G c) F⟩
end Mn
open PySem PySem.W PySem.Calls PyProof.Rows
theorem PySem.Challenge.cw_manrods_k56_whole_last_passings_of_level_holds : PySem.Challenge.rw_manrods_k56_whole_last_passings_of_level.Holds := by
  w_on; o_law
  refine HandSHeadRun.head_any (r := OpenLaw.row PySem.Challenge.rw_manrods_k56_whole_last_passings_of_level) (q := view (OpenLaw.row PySem.Challenge.rw_manrods_k56_whole_last_passings_of_level).prog [44]) (H := Mn.hHk) (ob := Mn.hOb) (M := 6000) (loose := Mn.hLoose) (d := HandSHeadRun.topDef (OpenLaw.row PySem.Challenge.rw_manrods_k56_whole_last_passings_of_level).prog 44) (kwd := []) Mn.hOb_eq
    (by kernel_rfl) (fun s => by kernel_rfl) Mn.hRun (by kernel_rfl) (by kernel_rfl) (by kernel_rfl) (by rfl) (by first | assumption | decide +kernel) (by decide +kernel) ⟨rfl, rfl, rfl, rfl, rfl, by decide +kernel⟩ ?hw ?hc
  case hw => w_witness2
  case hc =>
    refine L2.walk_ofE (l := PySem.Challenge.rw_manrods_k56_whole_last_passings_of_level) (n := 63) (k := 13) (x := "_law_script") (CX := L2.CX0) rfl (by decide) (by kernel_rfl) ⟨rfl, by decide, by decide⟩ ?F (fun _ _ _ _ z => z)
    intro w mg fa h Y G hmg0
    obtain ⟨K, KX, c⟩ := Y
    have hmg : mg ("law" : PySem.Str) = some (.ref fa) := by
      have e : (HandSHeadRun.topDef (OpenLaw.row PySem.Challenge.rw_manrods_k56_whole_last_passings_of_level).prog 44).name = ("law" : PySem.Str) := by kernel_rfl
      rw [← e]
      exact hmg0
    obtain ⟨fd, hb, hF⟩ := Mn.hFacts (P := (PySem.Challenge.rw_manrods_k56_whole_last_passings_of_level).prog) (w := w) KX G hmg c
    exact ⟨K, fd, Mn.spLaw K, KX, hb, fun H a ns hl _ hS => ⟨a, ns, rfl, hS, hl, fun _ => rfl⟩, hF⟩
