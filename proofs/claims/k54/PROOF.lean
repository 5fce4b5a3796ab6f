import PyProof.Rows.All
import Wide.All
import OpenK.AllK
import Wide.FinOn
import HandS.ForMost
import HandS.Defaults
import HandS.HeadHook1
import HandS.HeadHook2
import HandS.Deep
import HandS.Wide
import KE.DatumIndex
import HandS.SortInts
import HandS.TupAny
import HandS.TupMul
import HandS.Style
import HandS.RaiseMore
import KE.KTupSum
import KE.DatumOrd
import HandS.Iter
import KE.GoesEnum
import PyProof.EnumMake
import HandS.Dict
import HandS.IsInst
import HandS.Conv
import KE.SortData
import HandS.List
import HandS.More
import HandS.DictComp
import KE.DataFind
import HandS.ListItems
import HandS.WordsDict
import KE.KRevSl
import HandS.SetBool
import HandS.SetKeys
import PyProof.SetRoads
import KE.KStateDown
import Lean
import HandS.Base
import HandS.Call
import HandS.Ends
import HandS.Words
import HandS.WordsExc
import HandS.Head0
import HandS.Head1
import HandS.Head2
import HandS.HeadEnd
import PySem.Challenge.RW_toldturns_k54_long_tables_judged

/-! text VL1 -/
set_option Elab.async false
set_option linter.all false
set_option maxRecDepth 100000
set_option maxHeartbeats 2000000
/-! VL: a layer over HandS in which a def's slots hold data. -/
namespace VL
open PySem PySem.Spec L2

/-! ### 1. data that stands still, trees that are owned -/
/-- a tuple that stands still and has no dict of its own -/
def TupAt (K : PySem.W.Frag) (F : Hp) (a : Addr) (vs : List V) : Prop :=
  (∃ o, F a = some (.frz o (.tup vs)) ∧ o.dict = none) ∨
    ∃ (o : Obj) (its : Array Value) (n : Nat), K.lookup a = some o ∧ o.cls = .type "tuple" ∧ o.dict = none ∧ o.data = .seq its n ∧ its.size ≤ sizeLine ∧ Vals vs its.toList
/-- a list that stands still -/
def LstAt (K : PySem.W.Frag) (F : Hp) (a : Addr) (vs : List V) : Prop :=
  Rd F a (.lst vs) ∨ ∃ (its : Array Value) (n : Nat), K.lookup a = some { cls := .type "list", data := .seq its n } ∧ its.size ≤ sizeLine ∧ Vals vs its.toList
theorem LstAt.up {K : PySem.W.Frag} {F F' : Hp} (s : Same F F') {a : Addr} {vs : List V} (h : LstAt K F a vs) : LstAt K F' a vs := by
  rcases h with (r | ⟨o, r⟩) | r
  · exact .inl (.inl (s _ _ r))
  · exact .inl (.inr ⟨o, s _ _ r⟩)
  · exact .inr r
theorem LstAt.sq {K : PySem.W.Frag} {F : Hp} {a : Addr} {vs : List V} (h : LstAt K F a vs) : SqL K F a vs := by
  rcases h with r | ⟨its, n, a1, a2, a3⟩
  · exact .inl r
  · exact .inr ⟨_, its, n, a1, rfl, rfl, rfl, a2, a3⟩
mutual
inductive Dq (K : PySem.W.Frag) (F : Hp) : V → PyData → Prop
  | non : Dq K F .non .none
  | bl (b : Bool) : Dq K F (.bl b) (.bool b)
  | int (i : Int) : Dq K F (.int i) (.int i)
  | str (x : Str) : Dq K F (.str x) (.str x)
  | lst {a : Addr} {xs : List V} {ds : List PyData} : LstAt K F a xs → Dqs K F xs ds → Dq K F (.ref a) (.list ds)
  | tup {a : Addr} {xs : List V} {ds : List PyData} : TupAt K F a xs → Dqs K F xs ds → Dq K F (.ref a) (.tuple ds)
inductive Dqs (K : PySem.W.Frag) (F : Hp) : List V → List PyData → Prop
  | nil : Dqs K F [] []
  | cons {v : V} {vs : List V} {d : PyData} {ds : List PyData} : Dq K F v d → Dqs K F vs ds → Dqs K F (v :: vs) (d :: ds)
end
theorem TupAt.up {K : PySem.W.Frag} {F F' : Hp} (s : Same F F') {a : Addr} {vs : List V} (h : TupAt K F a vs) : TupAt K F' a vs := by
  rcases h with ⟨o, e, d⟩ | r
  · exact .inl ⟨o, s _ _ e, d⟩
  · exact .inr r
theorem TupAt.sq {K : PySem.W.Frag} {F : Hp} {a : Addr} {vs : List V} (h : TupAt K F a vs) : SqT K F a vs := by
  rcases h with ⟨o, e, d⟩ | ⟨o, its, n, a1, a2, a3, a4, a5, a6⟩
  · exact .inl (.inr ⟨o, e⟩)
  · exact .inr ⟨o, its, n, a1, a2, a4, a5, a6⟩
mutual
theorem dq_mono {K : PySem.W.Frag} {F F' : Hp} (s : Same F F') : ∀ (d : PyData) (v : V), Dq K F v d → Dq K F' v d
  | .none, _, h => by cases h; exact .non
  | .bool b, _, h => by cases h; exact .bl b
  | .int i, _, h => by cases h; exact .int i
  | .str x, _, h => by cases h; exact .str x
  | .list ds, _, h => by
    cases h with
    | lst hs ha => exact .lst (hs.up s) (dqs_mono s ds _ ha)
  | .tuple ds, _, h => by
    cases h with
    | tup hs ha => exact .tup (hs.up s) (dqs_mono s ds _ ha)
  | .dict _, _, h => by cases h
theorem dqs_mono {K : PySem.W.Frag} {F F' : Hp} (s : Same F F') : ∀ (ds : List PyData) (vs : List V), Dqs K F vs ds → Dqs K F' vs ds
  | [], _, h => by cases h; exact .nil
  | d :: ds, _, h => by
    cases h with
    | cons h1 h2 => exact .cons (dq_mono s d _ h1) (dqs_mono s ds _ h2)
end
mutual
theorem dq_dp {K : PySem.W.Frag} {F H : Hp} (s : Same F H) : ∀ (d : PyData) (v : V), Dq K F v d → Dp K H v d
  | .none, _, h => by cases h; exact .non
  | .bool b, _, h => by cases h; exact .bl b
  | .int i, _, h => by cases h; exact .int i
  | .str x, _, h => by cases h; exact .str x
  | .list ds, _, h => by
    cases h with
    | lst hs ha => exact .lst (hs.up s).sq (dqs_dp s ds _ ha)
  | .tuple ds, _, h => by
    cases h with
    | tup hs ha => exact .tup (hs.up s).sq (dqs_dp s ds _ ha)
  | .dict _, _, h => by cases h
theorem dqs_dp {K : PySem.W.Frag} {F H : Hp} (s : Same F H) : ∀ (ds : List PyData) (vs : List V), Dqs K F vs ds → DpAll K H vs ds
  | [], _, h => by cases h; exact .nil
  | d :: ds, _, h => by
    cases h with
    | cons h1 h2 => exact .cons (dq_dp s d _ h1) (dqs_dp s ds _ h2)
end

inductive Kd where
  | lst
  | dk (ks : List Key)
  | dt (ks : List (List Key))
def Kd.ho : Kd → List V → HO
  | .lst, vs => .lst vs
  | .dk ks, vs => .dK (ks.zip vs)
  | .dt ks, vs => .dT (ks.zip vs)
def Kd.fit : Kd → Nat → Prop
  | .lst, _ => True
  | .dk ks, n => ks.length = n
  | .dt ks, n => ks.length = n
theorem Kd.notup (k : Kd) (vs xs : List V) : k.ho vs ≠ .tup xs := by
  cases k <;> intro h <;> cases h

/-- d: data that stands still; nd: an object of one's own at p, what it holds -/
inductive T where
  | d (x : PyData)
  | nd (p : Addr) (k : Kd) (ts : List T)
mutual
def rep (K : PySem.W.Frag) (F H : Hp) : T → V → Prop
  | .d x, v => Dq K F v x
  | .nd p k ts, v => v = .ref p ∧ ∃ vs, H p = some (k.ho vs) ∧ k.fit vs.length ∧ reps K F H ts vs
def reps (K : PySem.W.Frag) (F H : Hp) : List T → List V → Prop
  | [], vs => vs = []
  | t :: ts, vs => ∃ v r, vs = v :: r ∧ rep K F H t v ∧ reps K F H ts r
end
mutual
def nodes : T → List Addr
  | .d _ => []
  | .nd p _ ts => p :: nodesL ts
def nodesL : List T → List Addr
  | [] => []
  | t :: ts => nodes t ++ nodesL ts
end
mutual
theorem rep_frame {K : PySem.W.Frag} {F F' H H' : Hp} (s : Same F F') : ∀ (t : T) (v : V), (∀ a ∈ nodes t, H' a = H a) → rep K F H t v → rep K F' H' t v
  | .d x, v, _, h => dq_mono s x v h
  | .nd p k ts, v, e, h => by
    obtain ⟨rfl, vs, hp, hf, hr⟩ := h
    refine ⟨rfl, vs, ?_, hf, reps_frame s ts vs (fun a ha => e a (List.mem_cons_of_mem _ ha)) hr⟩
    rw [e p List.mem_cons_self]
    exact hp
theorem reps_frame {K : PySem.W.Frag} {F F' H H' : Hp} (s : Same F F') : ∀ (ts : List T) (vs : List V), (∀ a ∈ nodesL ts, H' a = H a) → reps K F H ts vs → reps K F' H' ts vs
  | [], _, _, h => h
  | t :: ts, vs, e, h => by
    obtain ⟨v, r, rfl, h1, h2⟩ := h
    exact ⟨v, r, rfl, rep_frame s t v (fun a ha => e a (List.mem_append_left _ ha)) h1, reps_frame s ts r (fun a ha => e a (List.mem_append_right _ ha)) h2⟩
end
mutual
theorem rep_there {K : PySem.W.Frag} {F H : Hp} : ∀ (t : T) (v : V), rep K F H t v → ∀ a ∈ nodes t, ∃ k vs, H a = some (Kd.ho k vs)
  | .d x, v, _, _, ha => by cases ha
  | .nd p k ts, v, h, a, ha => by
    obtain ⟨rfl, vs, hp, hf, hr⟩ := h
    rcases List.mem_cons.mp ha with rfl | ha
    · exact ⟨k, vs, hp⟩
    · exact reps_there ts vs hr a ha
theorem reps_there {K : PySem.W.Frag} {F H : Hp} : ∀ (ts : List T) (vs : List V), reps K F H ts vs → ∀ a ∈ nodesL ts, ∃ k vs, H a = some (Kd.ho k vs)
  | [], _, _, _, ha => by cases ha
  | t :: ts, vs, h, a, ha => by
    obtain ⟨v, r, rfl, h1, h2⟩ := h
    rcases List.mem_append.mp ha with ha | ha
    · exact rep_there t v h1 a ha
    · exact reps_there ts r h2 a ha
end
theorem reps_len {K : PySem.W.Frag} {F H : Hp} : ∀ {ts : List T} {vs : List V}, reps K F H ts vs → vs.length = ts.length
  | [], _, h => by rw [show _ = [] from h]; rfl
  | t :: ts, vs, h => by
    obtain ⟨v, r, rfl, _, h2⟩ := h
    simp [reps_len h2]
theorem reps_get {K : PySem.W.Frag} {F H : Hp} : ∀ {ts : List T} {vs : List V} {i : Nat} {t : T}, reps K F H ts vs → ts[i]? = some t → ∃ v, vs[i]? = some v ∧ rep K F H t v
  | [], _, _, _, _, e => by simp at e
  | t :: ts, vs, 0, _, h, e => by
    obtain ⟨v, r, rfl, h1, _⟩ := h
    simp at e
    subst e
    exact ⟨v, rfl, h1⟩
  | t :: ts, vs, i + 1, _, h, e => by
    obtain ⟨v, r, rfl, _, h2⟩ := h
    obtain ⟨w, hw, hr⟩ := reps_get (i := i) h2 (by simpa using e)
    exact ⟨w, by simpa using hw, hr⟩
theorem reps_app {K : PySem.W.Frag} {F H : Hp} : ∀ {ts us : List T} {vs ws : List V}, reps K F H ts vs → reps K F H us ws → reps K F H (ts ++ us) (vs ++ ws)
  | [], us, _, ws, h, h' => by rw [show _ = [] from h]; exact h'
  | t :: ts, us, _, ws, h, h' => by
    obtain ⟨v, r, rfl, h1, h2⟩ := h
    exact ⟨v, r ++ ws, rfl, h1, reps_app h2 h'⟩
theorem reps_d {K : PySem.W.Frag} {F H : Hp} : ∀ {xs : List PyData} {vs : List V}, reps K F H (xs.map T.d) vs ↔ Dqs K F vs xs
  | [], vs => ⟨fun h => by rw [show vs = [] from h]; exact .nil, fun h => by cases h; rfl⟩
  | x :: xs, vs => ⟨fun h => by
      obtain ⟨v, r, rfl, h1, h2⟩ := h
      exact .cons h1 (reps_d.mp h2), fun h => by
      cases h with
      | cons h1 h2 => exact ⟨_, _, rfl, h1, reps_d.mpr h2⟩⟩
theorem nodesL_d : ∀ (xs : List PyData), nodesL (xs.map T.d) = []
  | [] => rfl
  | x :: xs => by
    show nodes (.d x) ++ nodesL (xs.map T.d) = []
    rw [nodesL_d xs]
    rfl
theorem nodesL_app : ∀ (ts us : List T), nodesL (ts ++ us) = nodesL ts ++ nodesL us
  | [], us => rfl
  | t :: ts, us => by
    show nodes t ++ nodesL (ts ++ us) = (nodes t ++ nodesL ts) ++ nodesL us
    rw [nodesL_app ts us, List.append_assoc]

/-! ### 2. the heaps: F stands still, G is others' -/
structure Bs (F G H : Hp) : Prop where
  fh : Same F H
  gh : Same G H
  gf : ∀ a o, G a = some o → F a = none
/-- pure growth -/
structure Gw (F G H F' H' : Hp) : Prop where
  hh : Same H H'
  ff : Same F F'
  bs : Bs F' G H'
  nw : ∀ a o, H a = some o → F a = none → F' a = none
theorem Gw.refl {F G H : Hp} (b : Bs F G H) : Gw F G H F H := ⟨.refl _, .refl _, b, fun _ _ _ e => e⟩
theorem Gw.trans {F G H F1 H1 F2 H2 : Hp} (a : Gw F G H F1 H1) (b : Gw F1 G H1 F2 H2) : Gw F G H F2 H2 :=
  ⟨a.hh.trans b.hh, a.ff.trans b.ff, b.bs, fun c o h e => b.nw c o (a.hh c o h) (a.nw c o h e)⟩
theorem none_of {H H' : Hp} (s : Same H H') {a : Addr} (h : H' a = none) : H a = none := s.free h

/-- a new thing that stands still -/
theorem Gw.still {F G H : Hp} (b : Bs F G H) {p : Addr} (n : H p = none) (o : HO) : Gw F G H (upd F p o) (upd H p o) := by
  have nF : F p = none := none_of b.fh n
  have nG : G p = none := none_of b.gh n
  refine ⟨fun c u h => ?_, fun c u h => ?_, ⟨fun c u h => ?_, fun c u h => ?_, fun c u h => ?_⟩, fun c u h e => ?_⟩
  · rw [upd_ne (ne_of_none h n)]; exact h
  · rw [upd_ne (ne_of_none h nF)]; exact h
  · by_cases hc : c = p
    · subst hc; rw [upd_same] at h ⊢; exact h
    · rw [upd_ne hc] at h ⊢; exact b.fh _ _ h
  · rw [upd_ne (ne_of_none h nG)]; exact b.gh _ _ h
  · rw [upd_ne (ne_of_none h nG)]; exact b.gf _ _ h
  · rw [upd_ne (ne_of_none h n)]; exact e
/-- a new thing of nobody's -/
theorem Gw.any {F G H : Hp} (b : Bs F G H) {p : Addr} (n : H p = none) (o : HO) : Gw F G H F (upd H p o) := by
  have nF : F p = none := none_of b.fh n
  have nG : G p = none := none_of b.gh n
  refine ⟨fun c u h => ?_, .refl _, ⟨fun c u h => ?_, fun c u h => ?_, b.gf⟩, fun c u h e => e⟩
  · rw [upd_ne (ne_of_none h n)]; exact h
  · rw [upd_ne (ne_of_none h nF)]; exact b.fh _ _ h
  · rw [upd_ne (ne_of_none h nG)]; exact b.gh _ _ h
theorem Gw.own {F G H : Hp} (b : Bs F G H) {p : Addr} (n : H p = none) (k : Kd) (vs : List V) : Gw F G H F (upd H p (k.ho vs)) := Gw.any b n _

/-! ### 3. slots -/
abbrev Env := List (Option T)
def nodesO : Option T → List Addr
  | none => []
  | some t => nodes t
def nodesE : Env → List Addr
  | [] => []
  | o :: r => nodesO o ++ nodesE r
def RO (K : PySem.W.Frag) (F H : Hp) : Option V → Option T → Prop
  | _, none => True
  | some v, some t => rep K F H t v
  | none, some _ => False
def RE (K : PySem.W.Frag) (F H : Hp) : St → Env → Prop
  | [], [] => True
  | a :: s, o :: r => RO K F H a o ∧ RE K F H s r
  | [], _ :: _ => False
  | _ :: _, [] => False
structure Rp (K : PySem.W.Frag) (F G H : Hp) (σ : St) (env : Env) : Prop where
  bs : Bs F G H
  nd : (nodesE env).Nodup
  fr : ∀ p ∈ nodesE env, F p = none ∧ G p = none
  re : RE K F H σ env

theorem RE.get {K : PySem.W.Frag} {F H : Hp} : ∀ {σ : St} {env : Env} {i : Nat} {t : T}, RE K F H σ env → env[i]? = some (some t) → ∃ v, σ[i]? = some (some v) ∧ rep K F H t v
  | [], [], _, _, _, e => by simp at e
  | [], _ :: _, _, _, h, _ => h.elim
  | _ :: _, [], _, _, h, _ => h.elim
  | a :: s, o :: r, 0, t, h, e => by
    simp at e
    subst e
    cases a with
    | none => exact h.1.elim
    | some v => exact ⟨v, rfl, h.1⟩
  | a :: s, o :: r, i + 1, t, h, e => by
    obtain ⟨v, h1, h2⟩ := RE.get (i := i) h.2 (by simpa using e)
    exact ⟨v, by simpa using h1, h2⟩
theorem RE.frame {K : PySem.W.Frag} {F F' H H' : Hp} (s : Same F F') : ∀ {σ : St} {env : Env}, (∀ a ∈ nodesE env, H' a = H a) → RE K F H σ env → RE K F' H' σ env
  | [], [], _, _ => trivial
  | [], _ :: _, _, h => h.elim
  | _ :: _, [], _, h => h.elim
  | a :: σ, o :: r, e, h => by
    refine ⟨?_, RE.frame s (fun b hb => e b (List.mem_append_right _ hb)) h.2⟩
    cases o with
    | none => cases a <;> trivial
    | some t =>
      cases a with
      | none => exact h.1.elim
      | some v => exact rep_frame s t v (fun b hb => e b (List.mem_append_left _ hb)) h.1
theorem RE.there {K : PySem.W.Frag} {F H : Hp} : ∀ {σ : St} {env : Env}, RE K F H σ env → ∀ a ∈ nodesE env, ∃ k vs, H a = some (Kd.ho k vs)
  | [], [], _, _, ha => by cases ha
  | [], _ :: _, h, _, _ => h.elim
  | _ :: _, [], h, _, _ => h.elim
  | a :: σ, o :: r, h, b, hb => by
    rcases List.mem_append.mp hb with hb | hb
    · cases o with
      | none => cases hb
      | some t =>
        cases a with
        | none => exact h.1.elim
        | some v => exact rep_there t v h.1 b hb
    · exact RE.there h.2 b hb
theorem RE.len {K : PySem.W.Frag} {F H : Hp} : ∀ {σ : St} {env : Env}, RE K F H σ env → σ.length = env.length
  | [], [], _ => rfl
  | [], _ :: _, h => h.elim
  | _ :: _, [], h => h.elim
  | a :: σ, o :: r, h => by simp [RE.len h.2]
theorem RE.set {K : PySem.W.Frag} {F H : Hp} {a : Option V} {o : Option T} (q : RO K F H a o) : ∀ {σ : St} {env : Env} (i : Nat), RE K F H σ env → RE K F H (σ.set i a) (env.set i o)
  | [], [], _, _ => trivial
  | [], _ :: _, _, h => h.elim
  | _ :: _, [], _, h => h.elim
  | _ :: σ, _ :: r, 0, h => ⟨q, h.2⟩
  | _ :: σ, _ :: r, i + 1, h => ⟨h.1, RE.set q i h.2⟩
/-- a slot forgotten -/
theorem RE.drop {K : PySem.W.Frag} {F H : Hp} : ∀ {σ : St} {env : Env} (i : Nat), RE K F H σ env → RE K F H σ (env.set i none)
  | [], [], _, _ => trivial
  | [], _ :: _, _, h => h.elim
  | _ :: _, [], _, h => h.elim
  | a :: σ, _ :: r, 0, h => ⟨by cases a <;> trivial, h.2⟩
  | _ :: σ, _ :: r, i + 1, h => ⟨h.1, RE.drop i h.2⟩
/-- a slot's value told otherwise -/
theorem RE.put {K : PySem.W.Frag} {F H : Hp} {v : V} {t : T} (q : rep K F H t v) : ∀ {σ : St} {env : Env} (i : Nat), σ[i]? = some (some v) → RE K F H σ env → RE K F H σ (env.set i (some t))
  | [], [], _, _, _ => trivial
  | [], _ :: _, _, _, h => h.elim
  | _ :: _, [], _, _, h => h.elim
  | a :: σ, _ :: r, 0, e, h => ⟨by
      simp at e
      subst e
      exact q, h.2⟩
  | _ :: σ, _ :: r, i + 1, e, h => ⟨h.1, RE.put q i (by simpa using e) h.2⟩
theorem mem_setE {p : Addr} {o : Option T} : ∀ {env : Env} {i : Nat}, p ∈ nodesE (env.set i o) → p ∈ nodesO o ∨ p ∈ nodesE env
  | [], _, h => .inr h
  | _ :: r, 0, h => by
    rcases List.mem_append.mp h with h | h
    · exact .inl h
    · exact .inr (List.mem_append_right _ h)
  | x :: r, i + 1, h => by
    rcases List.mem_append.mp h with h | h
    · exact .inr (List.mem_append_left _ h)
    · rcases mem_setE h with h | h
      · exact .inl h
      · exact .inr (List.mem_append_right _ h)
theorem mem_dropE {p : Addr} : ∀ {env : Env} {i : Nat}, p ∈ nodesE (env.set i none) → p ∈ nodesE env := fun h => by
  rcases mem_setE h with h | h
  · cases h
  · exact h
theorem mem_getE {t : T} {p : Addr} (hp : p ∈ nodes t) : ∀ {env : Env} {i : Nat}, env[i]? = some (some t) → p ∈ nodesE env
  | [], _, e => by simp at e
  | o :: r, 0, e => by
    simp at e
    subst e
    exact List.mem_append_left _ hp
  | o :: r, i + 1, e => List.mem_append_right _ (mem_getE hp (i := i) (by simpa using e))
theorem nodup_app {α : Type} {l m : List α} (h1 : l.Nodup) (h2 : m.Nodup) (h : ∀ a ∈ l, a ∉ m) : (l ++ m).Nodup :=
  List.nodup_append.mpr ⟨h1, h2, fun a ha b hb e => h a ha (e ▸ hb)⟩
theorem nodup_setE {o : Option T} (ho : (nodesO o).Nodup) : ∀ {env : Env} {i : Nat}, (nodesE env).Nodup → (∀ p ∈ nodesO o, p ∉ nodesE env) → (nodesE (env.set i o)).Nodup
  | [], _, h, _ => h
  | x :: r, 0, h, d => nodup_app ho (List.nodup_append.mp h).2.1 fun a ha hb => d a ha (List.mem_append_right _ hb)
  | x :: r, i + 1, h, d => by
    obtain ⟨h1, h2, h3⟩ := List.nodup_append.mp h
    refine nodup_app h1 (nodup_setE ho h2 fun p hp hq => d p hp (List.mem_append_right _ hq)) fun a ha hb => ?_
    rcases mem_setE hb with hb | hb
    · exact d a hb (List.mem_append_left _ ha)
    · exact h3 a ha a hb rfl
theorem nodup_dropE : ∀ {env : Env} {i : Nat}, (nodesE env).Nodup → (nodesE (env.set i none)).Nodup := fun h => nodup_setE (o := none) List.nodup_nil h fun p hp => by cases hp
theorem nodup_getE {t : T} : ∀ {env : Env} {i : Nat}, (nodesE env).Nodup → env[i]? = some (some t) → (nodes t).Nodup ∧ ∀ p ∈ nodes t, p ∉ nodesE (env.set i none)
  | [], _, _, e => by simp at e
  | o :: r, 0, h, e => by
    simp at e
    subst e
    obtain ⟨h1, h2, h3⟩ := List.nodup_append.mp h
    exact ⟨h1, fun p hp hq => h3 p hp p hq rfl⟩
  | o :: r, i + 1, h, e => by
    obtain ⟨h1, h2, h3⟩ := List.nodup_append.mp h
    obtain ⟨q1, q2⟩ := nodup_getE (i := i) h2 (by simpa using e)
    refine ⟨q1, fun p hp hq => ?_⟩
    rcases List.mem_append.mp hq with hq | hq
    · exact h3 p hq p (mem_getE hp (i := i) (by simpa using e)) rfl
    · exact q2 p hp hq

/-- values beside the slots -/
structure Vs (K : PySem.W.Frag) (F G H : Hp) (env : Env) (vs : List V) (ts : List T) : Prop where
  rp : reps K F H ts vs
  nd : (nodesL ts).Nodup
  fr : ∀ p ∈ nodesL ts, p ∉ nodesE env ∧ F p = none ∧ G p = none
/-- one value beside the slots -/
structure Vr (K : PySem.W.Frag) (F G H : Hp) (env : Env) (v : V) (t : T) : Prop where
  rp : rep K F H t v
  nd : (nodes t).Nodup
  fr : ∀ p ∈ nodes t, p ∉ nodesE env ∧ F p = none ∧ G p = none
theorem Vr.d {K : PySem.W.Frag} {F G H : Hp} {env : Env} {v : V} {x : PyData} (h : Dq K F v x) : Vr K F G H env v (.d x) := ⟨h, List.nodup_nil, fun p hp => by cases hp⟩
theorem Rp.take {K : PySem.W.Frag} {F G H : Hp} {σ : St} {env : Env} {i : Nat} {t : T} (R : Rp K F G H σ env) (e : env[i]? = some (some t)) : ∃ v, σ[i]? = some (some v) ∧ Rp K F G H σ (env.set i none) ∧ Vr K F G H (env.set i none) v t := by
  obtain ⟨v, h1, h2⟩ := R.re.get e
  obtain ⟨q1, q2⟩ := nodup_getE R.nd e
  exact ⟨v, h1, ⟨R.bs, nodup_dropE R.nd, fun p hp => R.fr p (mem_dropE hp), R.re.drop i⟩, h2, q1, fun p hp => ⟨q2 p hp, R.fr p (mem_getE hp e)⟩⟩
theorem Rp.put {K : PySem.W.Frag} {F G H : Hp} {σ : St} {env : Env} {i : Nat} {v : V} {t : T} (R : Rp K F G H σ env) (e : σ[i]? = some (some v)) (q : Vr K F G H env v t) : Rp K F G H σ (env.set i (some t)) :=
  ⟨R.bs, nodup_setE (o := some t) q.nd R.nd fun p hp => (q.fr p hp).1, fun p hp => by
    rcases mem_setE hp with hp | hp
    · exact (q.fr p hp).2
    · exact R.fr p hp, R.re.put q.rp i e⟩
theorem Rp.set {K : PySem.W.Frag} {F G H : Hp} {σ : St} {env : Env} {i : Nat} {v : V} {t : T} (R : Rp K F G H σ env) (q : Vr K F G H env v t) : Rp K F G H (σ.set i (some v)) (env.set i (some t)) :=
  ⟨R.bs, nodup_setE (o := some t) q.nd R.nd fun p hp => (q.fr p hp).1, fun p hp => by
    rcases mem_setE hp with hp | hp
    · exact (q.fr p hp).2
    · exact R.fr p hp, R.re.set (a := some v) (o := some t) q.rp i⟩
theorem Rp.drop {K : PySem.W.Frag} {F G H : Hp} {σ : St} {env : Env} (R : Rp K F G H σ env) (i : Nat) : Rp K F G H σ (env.set i none) :=
  ⟨R.bs, nodup_dropE R.nd, fun p hp => R.fr p (mem_dropE hp), R.re.drop i⟩
theorem same_at {H H' : Hp} (s : Same H H') {a : Addr} {o : HO} (h : H a = some o) : H' a = H a := by rw [h, s a o h]
theorem Rp.grow {K : PySem.W.Frag} {F G H F' H' : Hp} {σ : St} {env : Env} (R : Rp K F G H σ env) (g : Gw F G H F' H') : Rp K F' G H' σ env := by
  refine ⟨g.bs, R.nd, fun p hp => ?_, R.re.frame g.ff fun a ha => ?_⟩
  · obtain ⟨k, vs, e⟩ := R.re.there p hp
    exact ⟨g.nw p _ e (R.fr p hp).1, (R.fr p hp).2⟩
  · obtain ⟨k, vs, e⟩ := R.re.there a ha
    exact same_at g.hh e
theorem Vr.grow {K : PySem.W.Frag} {F G H F' H' : Hp} {env : Env} {v : V} {t : T} (q : Vr K F G H env v t) (g : Gw F G H F' H') : Vr K F' G H' env v t := by
  refine ⟨rep_frame g.ff t v (fun a ha => ?_) q.rp, q.nd, fun p hp => ?_⟩
  · obtain ⟨k, vs, e⟩ := rep_there t v q.rp a ha
    exact same_at g.hh e
  · obtain ⟨k, vs, e⟩ := rep_there t v q.rp p hp
    exact ⟨(q.fr p hp).1, g.nw p _ e (q.fr p hp).2.1, (q.fr p hp).2.2⟩
end VL

/-! text VL2 -/
set_option Elab.async false
set_option linter.all false
set_option maxRecDepth 100000
set_option maxHeartbeats 2000000
namespace VL
open PySem PySem.Spec L2

/-! ### 4. results and judgements -/
/-- a result: a thing of one's own or data; a reference to an object of a slot -/
inductive R where
  | own (t : T)
  | rf (p : Addr)
abbrev dd (x : PyData) : R := .own (.d x)
def R.of : T → R
  | .d x => .own (.d x)
  | .nd p _ _ => .rf p
def rrep (K : PySem.W.Frag) (F H : Hp) : R → V → Prop
  | .own t, v => rep K F H t v
  | .rf p, v => v = .ref p
def rreps (K : PySem.W.Frag) (F H : Hp) : List R → List V → Prop
  | [], vs => vs = []
  | t :: ts, vs => ∃ v r, vs = v :: r ∧ rrep K F H t v ∧ rreps K F H ts r
def rnodes : R → List Addr
  | .own t => nodes t
  | .rf _ => []
def rnodesL : List R → List Addr
  | [] => []
  | t :: ts => rnodes t ++ rnodesL ts
structure Rr (K : PySem.W.Frag) (F G H : Hp) (env : Env) (v : V) (r : R) : Prop where
  rp : rrep K F H r v
  nd : (rnodes r).Nodup
  fr : ∀ p ∈ rnodes r, p ∉ nodesE env ∧ F p = none ∧ G p = none
structure Rrs (K : PySem.W.Frag) (F G H : Hp) (env : Env) (vs : List V) (rs : List R) : Prop where
  rp : rreps K F H rs vs
  nd : (rnodesL rs).Nodup
  fr : ∀ p ∈ rnodesL rs, p ∉ nodesE env ∧ F p = none ∧ G p = none
section
variable {K : PySem.W.Frag} {F F' G H H' : Hp} {env : Env} {v : V} {r : R} {t : T} {x : PyData}
theorem Rr.own (q : Vr K F G H env v t) : Rr K F G H env v (.own t) := ⟨q.rp, q.nd, q.fr⟩
theorem Rr.vr (q : Rr K F G H env v (.own t)) : Vr K F G H env v t := ⟨q.rp, q.nd, q.fr⟩
theorem Rr.d (q : Dq K F v x) : Rr K F G H env v (dd x) := ⟨q, List.nodup_nil, fun p hp => by cases hp⟩
theorem Rr.rf {p : Addr} : Rr K F G H env (.ref p) (.rf p) := ⟨rfl, List.nodup_nil, fun p hp => by cases hp⟩
theorem rrep_frame (s : Same F F') (e : ∀ a ∈ rnodes r, H' a = H a) (h : rrep K F H r v) : rrep K F' H' r v := by
  cases r with
  | own t => exact rep_frame s t v e h
  | rf p => exact h
theorem rrep_there (h : rrep K F H r v) : ∀ a ∈ rnodes r, ∃ k vs, H a = some (Kd.ho k vs) := by
  cases r with
  | own t => exact rep_there t v h
  | rf p => intro a ha; cases ha
theorem rreps_frame (s : Same F F') : ∀ {rs : List R} {vs : List V}, (∀ a ∈ rnodesL rs, H' a = H a) → rreps K F H rs vs → rreps K F' H' rs vs
  | [], _, _, h => h
  | t :: ts, _, e, h => by
    obtain ⟨v, r, rfl, h1, h2⟩ := h
    exact ⟨v, r, rfl, rrep_frame s (fun a ha => e a (List.mem_append_left _ ha)) h1, rreps_frame s (fun a ha => e a (List.mem_append_right _ ha)) h2⟩
theorem rreps_there : ∀ {rs : List R} {vs : List V}, rreps K F H rs vs → ∀ a ∈ rnodesL rs, ∃ k vs, H a = some (Kd.ho k vs)
  | [], _, _, _, ha => by cases ha
  | t :: ts, _, h, a, ha => by
    obtain ⟨v, r, rfl, h1, h2⟩ := h
    rcases List.mem_append.mp ha with ha | ha
    · exact rrep_there h1 a ha
    · exact rreps_there h2 a ha
end

/-- the weakest reading of an expression, of arguments, of a statement -/
def wE (X : Cx) (e : Expr) : TE := fun σ H Q => ∀ (pins : List (Addr × Obj)) (s : Shared), Inv X pins σ H s → wpAny (model X.prog X.w) X.A (eval e X.env) (EP X pins σ Q) X.xe s
def wA (X : Cx) (es : List Expr) : TA := fun σ H Q => ∀ (pos : Pos) (pins : List (Addr × Obj)) (s : Shared), Inv X pins σ H s → wpAny (model X.prog X.w) X.A (spliced (backTo pos (starEach es X.env))) (AP X pins σ Q) X.xe s
def wT (X : Cx) (e : Expr) : TT := fun σ H Q => ∀ (pins : List (Addr × Obj)) (s : Shared), Inv X pins σ H s → wpAny (model X.prog X.w) X.A (isTrue e X.env (eval e X.env)) (TP X pins σ Q) X.xe s
def wW (X : Cx) (e : Expr) : TT := fun σ H Q => ∀ (whole : Sem Value) (pins : List (Addr × Obj)) (s : Shared), Inv X pins σ H s → wpAny (model X.prog X.w) X.A (isTrue e X.env whole) (TP X pins σ Q) X.xe s
def wS (X : Cx) (st : Stmt) : TS := fun D σ H => ∀ (pins : List (Addr × Obj)) (s : Shared), Inv X pins σ H s → wpAny (model X.prog X.w) X.A (exec st X.env) (SP X pins D) X.xe s
def wSs (X : Cx) (st : List Stmt) : TS := fun D σ H => ∀ (pins : List (Addr × Obj)) (s : Shared), Inv X pins σ H s → wpAny (model X.prog X.w) X.A (execs st X.env) (SP X pins D) X.xe s
def wG (X : Cx) (tg : Expr) : TG := fun v σ H Q => ∀ (pins : List (Addr × Obj)) (s : Shared) (u : Value), Inv X pins σ H s → RelV v u → wpAny (model X.prog X.w) X.A (assign tg X.env u) (fun _ s' => ∃ σ' H', Inv X pins σ' H' s' ∧ Q σ' H') X.xe s
section
variable {X : Cx} {e : Expr} {es : List Expr} {st : Stmt} {sts : List Stmt} {σ : St} {H : Hp}
theorem pe_w : PE X e (wE X e) := ⟨fun pins s σ H Q I h => h pins s I⟩
theorem pa_w : PA X es (wA X es) := ⟨fun pos pins s σ H Q I h => h pos pins s I⟩
theorem pt_w : PT X e (wT X e) := ⟨fun pins s σ H Q I h => h pins s I⟩
theorem pw_w : PW X e (wW X e) := ⟨fun whole pins s σ H Q I h => h whole pins s I⟩
theorem ps_w : PS X st (wS X st) := ⟨fun pins s σ H Q I h => h pins s I⟩
theorem pss_w : PSs X sts (wSs X sts) := ⟨fun pins s σ H Q I h => h pins s I⟩
theorem pg_w : PG X e (wG X e) := ⟨fun pins s σ H v u Q I r h => h pins s u I r⟩
theorem wE_of {t : TE} (p : PE X e t) {Q : VK} (h : t σ H Q) : wE X e σ H Q := fun pins s I => p.run pins s σ H Q I h
theorem wA_of {t : TA} (p : PA X es t) {Q : List V → Hp → Prop} (h : t σ H Q) : wA X es σ H Q := fun pos pins s I => p.run pos pins s σ H Q I h
theorem wT_of {t : TT} (p : PT X e t) {Q : Bool → Hp → Prop} (h : t σ H Q) : wT X e σ H Q := fun pins s I => p.run pins s σ H Q I h
theorem wW_of {t : TT} (p : PW X e t) {Q : Bool → Hp → Prop} (h : t σ H Q) : wW X e σ H Q := fun whole pins s I => p.run whole pins s σ H Q I h
theorem wS_of {t : TS} (p : PS X st t) {D : Ends} (h : t D σ H) : wS X st D σ H := fun pins s I => p.run pins s σ H D I h
theorem wSs_of {t : TS} (p : PSs X sts t) {D : Ends} (h : t D σ H) : wSs X sts D σ H := fun pins s I => p.run pins s σ H D I h
theorem wG_of {t : TG} (p : PG X e t) {v : V} {Q : St → Hp → Prop} (h : t v σ H Q) : wG X e v σ H Q := fun pins s u I r => p.run pins s σ H v u Q I r h
theorem wE.imp {Q Q' : VK} (h : wE X e σ H Q) (q : ∀ v H', Q v H' → Q' v H') : wE X e σ H Q' := fun pins s I =>
  thn (h pins s I) fun u s' ⟨v, H', I', r, z⟩ => ⟨v, H', I', r, q v H' z⟩
theorem wA.imp {Q Q' : List V → Hp → Prop} (h : wA X es σ H Q) (q : ∀ v H', Q v H' → Q' v H') : wA X es σ H Q' := fun pos pins s I =>
  thn (h pos pins s I) fun u s' ⟨v, H', I', r, z⟩ => ⟨v, H', I', r, q v H' z⟩
theorem wT.imp {Q Q' : Bool → Hp → Prop} (h : wT X e σ H Q) (q : ∀ v H', Q v H' → Q' v H') : wT X e σ H Q' := fun pins s I =>
  thn (h pins s I) fun u s' ⟨H', I', z⟩ => ⟨H', I', q u H' z⟩
theorem wW.imp {Q Q' : Bool → Hp → Prop} (h : wW X e σ H Q) (q : ∀ v H', Q v H' → Q' v H') : wW X e σ H Q' := fun whole pins s I =>
  thn (h whole pins s I) fun u s' ⟨H', I', z⟩ => ⟨H', I', q u H' z⟩
theorem wG.imp {v : V} {Q Q' : St → Hp → Prop} (h : wG X e v σ H Q) (q : ∀ σ' H', Q σ' H' → Q' σ' H') : wG X e v σ H Q' := fun pins s u I r =>
  thn (h pins s u I r) fun _ s' ⟨σ', H', I', z⟩ => ⟨σ', H', I', q σ' H' z⟩
end
/-- what an expression's end is to be -/
def PV (K : PySem.W.Frag) (F G : Hp) (σ : St) (Q : R → Env → Prop) : VK := fun v H' => ∃ F' r env', Same F F' ∧ Rp K F' G H' σ env' ∧ Rr K F' G H' env' v r ∧ Q r env'
def PVs (K : PySem.W.Frag) (F G : Hp) (σ : St) (Q : List R → Env → Prop) : List V → Hp → Prop := fun vs H' => ∃ F' rs env', Same F F' ∧ Rp K F' G H' σ env' ∧ Rrs K F' G H' env' vs rs ∧ Q rs env'
def PB (K : PySem.W.Frag) (F G : Hp) (σ : St) (Q : Bool → Env → Prop) : Bool → Hp → Prop := fun b H' => ∃ F' env', Same F F' ∧ Rp K F' G H' σ env' ∧ Q b env'
def VE (X : Cx) (e : Expr) (env : Env) (Q : R → Env → Prop) : Prop := ∀ F G H σ, Rp X.K F G H σ env → wE X e σ H (PV X.K F G σ Q)
def VEs (X : Cx) (es : List Expr) (env : Env) (Q : List R → Env → Prop) : Prop := ∀ F G H σ, Rp X.K F G H σ env → wA X es σ H (PVs X.K F G σ Q)
def VT (X : Cx) (e : Expr) (env : Env) (Q : Bool → Env → Prop) : Prop := ∀ F G H σ, Rp X.K F G H σ env → wT X e σ H (PB X.K F G σ Q)
def VW (X : Cx) (e : Expr) (env : Env) (Q : Bool → Env → Prop) : Prop := ∀ F G H σ, Rp X.K F G H σ env → wW X e σ H (PB X.K F G σ Q)
structure Dn where
  nx : Env → Prop
  rt : T → Env → Prop
  bk : Env → Prop := fun _ => False
  ct : Env → Prop := fun _ => False
def Dn.at (K : PySem.W.Frag) (F G : Hp) (D : Dn) : Ends where
  nx := fun σ' H' => ∃ F' env', Same F F' ∧ Rp K F' G H' σ' env' ∧ D.nx env'
  rt := fun v H' => ∃ F' t env' σ', Same F F' ∧ Rp K F' G H' σ' env' ∧ Vr K F' G H' env' v t ∧ D.rt t env'
  bk := fun σ' H' => ∃ F' env', Same F F' ∧ Rp K F' G H' σ' env' ∧ D.bk env'
  ct := fun σ' H' => ∃ F' env', Same F F' ∧ Rp K F' G H' σ' env' ∧ D.ct env'
def VS (X : Cx) (st : Stmt) (env : Env) (D : Dn) : Prop := ∀ F G H σ, Rp X.K F G H σ env → wS X st (D.at X.K F G) σ H
def VSs (X : Cx) (st : List Stmt) (env : Env) (D : Dn) : Prop := ∀ F G H σ, Rp X.K F G H σ env → wSs X st (D.at X.K F G) σ H
def VG (X : Cx) (tg : Expr) (t : T) (env : Env) (Q : Env → Prop) : Prop := ∀ F G H σ v, Rp X.K F G H σ env → Vr X.K F G H env v t →
  wG X tg v σ H (fun σ' H' => ∃ F' env', Same F F' ∧ Rp X.K F' G H' σ' env' ∧ Q env')

/-! a temporary's objects are others' while the rest is evaluated -/
def gAdd (G H : Hp) (as : List Addr) : Hp := fun a => if a ∈ as then H a else G a
section
variable {K : PySem.W.Frag} {F F' G H H' : Hp} {env env' : Env} {σ : St} {as : List Addr}
theorem gAdd_in {a : Addr} (h : a ∈ as) : gAdd G H as a = H a := if_pos h
theorem gAdd_out {a : Addr} (h : a ∉ as) : gAdd G H as a = G a := if_neg h
theorem Rp.lend (R : Rp K F G H σ env) (ha : ∀ p ∈ as, p ∉ nodesE env ∧ F p = none ∧ G p = none) : Rp K F (gAdd G H as) H σ env := by
  refine ⟨⟨R.bs.fh, fun a o h => ?_, fun a o h => ?_⟩, R.nd, fun p hp => ⟨(R.fr p hp).1, ?_⟩, R.re⟩
  · by_cases hm : a ∈ as
    · rw [gAdd_in hm] at h; exact h
    · rw [gAdd_out hm] at h; exact R.bs.gh _ _ h
  · by_cases hm : a ∈ as
    · exact (ha a hm).2.1
    · rw [gAdd_out hm] at h; exact R.bs.gf _ _ h
  · have hm : p ∉ as := fun h => (ha p h).1 hp
    rw [gAdd_out hm]
    exact (R.fr p hp).2
theorem Bs.back (b : Bs F' (gAdd G H as) H') (ha : ∀ p ∈ as, G p = none) : Bs F' G H' := by
  have out : ∀ a o, G a = some o → gAdd G H as a = some o := fun a o h => by
    have hm : a ∉ as := fun q => by rw [ha a q] at h; cases h
    rw [gAdd_out hm]
    exact h
  exact ⟨b.fh, fun a o h => b.gh a o (out a o h), fun a o h => b.gf a o (out a o h)⟩
theorem gAdd_none {p : Addr} (h : gAdd G H as p = none) (there : ∀ a ∈ as, ∃ o, H a = some o) : p ∉ as ∧ G p = none := by
  by_cases hm : p ∈ as
  · obtain ⟨o, e⟩ := there p hm
    rw [gAdd_in hm, e] at h
    cases h
  · rw [gAdd_out hm] at h
    exact ⟨hm, h⟩
theorem Rp.unlend (R : Rp K F' (gAdd G H as) H' σ env') (ha : ∀ p ∈ as, G p = none) (there : ∀ a ∈ as, ∃ o, H a = some o) : Rp K F' G H' σ env' ∧ (∀ p ∈ as, p ∉ nodesE env' ∧ F' p = none ∧ H' p = H p) := by
  refine ⟨⟨R.bs.back ha, R.nd, fun p hp => ⟨(R.fr p hp).1, (gAdd_none (R.fr p hp).2 there).2⟩, R.re⟩, fun p hp => ?_⟩
  obtain ⟨o, e⟩ := there p hp
  have eg : gAdd G H as p = some o := by rw [gAdd_in hp, e]
  refine ⟨fun hq => ?_, R.bs.gf _ _ eg, ?_⟩
  · have := (R.fr p hq).2
    rw [eg] at this
    cases this
  · rw [e]
    exact R.bs.gh _ _ eg
end

/-- one after another -/
theorem ves_nil {X : Cx} {env : Env} {Q : List R → Env → Prop} (h : Q [] env) : VEs X [] env Q := fun F G H σ Rq => wA_of pa_nil ⟨F, [], env, .refl _, Rq, ⟨rfl, List.nodup_nil, fun p hp => by cases hp⟩, h⟩
theorem lend_step {K : PySem.W.Frag} {F F1 G H1 : Hp} {σ : St} {env1 : Env} {v : V} {r : R} (s : Same F F1) (R1 : Rp K F1 G H1 σ env1) (q : Rr K F1 G H1 env1 v r) :
    Rp K F1 (gAdd G H1 (rnodes r)) H1 σ env1 ∧ ∀ {F2 H2 env2 σ2}, Same F1 F2 → Rp K F2 (gAdd G H1 (rnodes r)) H2 σ2 env2 → Same F F2 ∧ Rp K F2 G H2 σ2 env2 ∧ Rr K F2 G H2 env2 v r ∧ ∀ p ∈ rnodes r, gAdd G H1 (rnodes r) p ≠ none := by
  refine ⟨R1.lend q.fr, fun {F2 H2 env2 σ2} s2 R2 => ?_⟩
  have there : ∀ a ∈ rnodes r, ∃ o, H1 a = some o := fun a ha => by
    obtain ⟨k, vs, e⟩ := rrep_there q.rp a ha
    exact ⟨_, e⟩
  obtain ⟨q1, q2⟩ := R2.unlend (fun p hp => (q.fr p hp).2.2) there
  refine ⟨s.trans s2, q1, ⟨rrep_frame s2 (fun a ha => (q2 a ha).2.2) q.rp, q.nd, fun p hp => ⟨(q2 p hp).1, (q2 p hp).2.1, (q.fr p hp).2.2⟩⟩, fun p hp => ?_⟩
  obtain ⟨o, e⟩ := there p hp
  rw [gAdd_in hp, e]
  simp
theorem ves_cons {X : Cx} {env : Env} {e : Expr} {es : List Expr} {Q : List R → Env → Prop} (h : VE X e env fun r env1 => VEs X es env1 fun rs env2 => Q (r :: rs) env2)
    (hs : starEach (e :: es) X.env = (false, eval e X.env) :: starEach es X.env := by rfl) : VEs X (e :: es) env Q := fun F G H σ Rq => by
  refine wA_of (pa_cons pe_w pa_w hs) ((h F G H σ Rq).imp fun v H1 ⟨F1, r, env1, s1, R1, q1, h1⟩ => ?_)
  obtain ⟨R1', fin⟩ := lend_step s1 R1 q1
  refine (h1 F1 _ H1 σ R1').imp fun vs H2 ⟨F2, rs, env2, s2, R2, q2, h2⟩ => ?_
  obtain ⟨z1, z2, z3, z4⟩ := fin s2 R2
  refine ⟨F2, r :: rs, env2, z1, z2, ⟨⟨v, vs, rfl, z3.rp, q2.rp⟩, nodup_app z3.nd q2.nd fun a ha hb => z4 a ha (q2.fr a hb).2.2, fun p hp => ?_⟩, h2⟩
  rcases List.mem_append.mp hp with hp | hp
  · exact z3.fr p hp
  · have h3 := q2.fr p hp
    refine ⟨h3.1, h3.2.1, ?_⟩
    by_cases hm : p ∈ rnodes r
    · exact (z3.fr p hm).2.2
    · have := h3.2.2
      rw [gAdd_out hm] at this
      exact this
/-- two expressions, one after the other, then what the values ask -/
theorem ve_two {X : Cx} {env : Env} {a b : Expr} {Q : R → R → Env → Prop} {QV : V → V → Hp → Prop} {F G H : Hp} {σ : St} (Rq : Rp X.K F G H σ env) (h : VE X a env fun r env1 => VE X b env1 fun q env2 => Q r q env2)
    (k : ∀ v w H2 F2 r q env2, Same F F2 → Rp X.K F2 G H2 σ env2 → Rrs X.K F2 G H2 env2 [v, w] [r, q] → Q r q env2 → QV v w H2) :
    wE X a σ H (fun v H1 => wE X b σ H1 fun w H2 => QV v w H2) := by
  refine (h F G H σ Rq).imp fun v H1 ⟨F1, r, env1, s1, R1, q1, h1⟩ => ?_
  obtain ⟨R1', fin⟩ := lend_step s1 R1 q1
  refine (h1 F1 _ H1 σ R1').imp fun w H2 ⟨F2, q, env2, s2, R2, q2, h2⟩ => ?_
  obtain ⟨z1, z2, z3, z4⟩ := fin s2 R2
  refine k v w H2 F2 r q env2 z1 z2 ⟨⟨v, [w], rfl, z3.rp, w, [], rfl, q2.rp, rfl⟩, nodup_app z3.nd (by show (rnodes q ++ []).Nodup; rw [List.append_nil]; exact q2.nd) fun a ha hb => ?_, fun p hp => ?_⟩ h2
  · have hb' : a ∈ rnodes q := by
      rcases List.mem_append.mp hb with hb | hb
      · exact hb
      · cases hb
    exact z4 a ha (q2.fr a hb').2.2
  · rcases List.mem_append.mp hp with hp | hp
    · exact z3.fr p hp
    · have hp' : p ∈ rnodes q := by
        rcases List.mem_append.mp hp with hb | hb
        · exact hb
        · cases hb
      have h3 := q2.fr p hp'
      refine ⟨h3.1, h3.2.1, ?_⟩
      by_cases hm : p ∈ rnodes r
      · exact (z3.fr p hm).2.2
      · have := h3.2.2
        rw [gAdd_out hm] at this
        exact this
theorem Rrs.two {K : PySem.W.Frag} {F G H : Hp} {env : Env} {v w : V} {r q : R} (h : Rrs K F G H env [v, w] [r, q]) : rrep K F H r v ∧ rrep K F H q w := by
  obtain ⟨⟨_, _, e, h1, ⟨_, _, e2, h2, _⟩⟩, _, _⟩ := h
  cases e
  cases e2
  exact ⟨h1, h2⟩
end VL

/-! text VL3 -/
set_option Elab.async false
set_option linter.all false
set_option maxRecDepth 100000
set_option maxHeartbeats 2000000
namespace VL
open PySem PySem.Spec L2

/-! ### 5. values' operations, weakest -/
def wO (X : Cx) (f : Value → Value → Sem Value) : R2 := fun x y H Q => ∀ (pins : List (Addr × Obj)) (s : Shared) (σ : L2.St) (v u : Value), Inv X pins σ H s → RelV x v → RelV y u → wpAny (model X.prog X.w) X.A (f v u) (EP X pins σ Q) X.xe s
theorem wO_ok {X : Cx} {f : Value → Value → Sem Value} : OpR X f (wO X f) := fun pins s σ H x y v u Q I r1 r2 h => h pins s σ v u I r1 r2
def wU (X : Cx) (f : Value → Sem Value) : V → Hp → VK → Prop := fun x H Q => ∀ (pins : List (Addr × Obj)) (s : Shared) (σ : L2.St) (v : Value), Inv X pins σ H s → RelV x v → wpAny (model X.prog X.w) X.A (f v) (EP X pins σ Q) X.xe s
theorem wU_ok {X : Cx} {f : Value → Sem Value} : UnR X f (wU X f) := fun pins s σ H x v Q I r1 h => h pins s σ v I r1
def wX (X : Cx) : R2 := fun x y H Q => ∀ (value slice : Expr) (pins : List (Addr × Obj)) (s : Shared) (σ : L2.St) (v u : Value), Inv X pins σ H s → RelV x v → RelV y u →
  subscripted slice false v u = operate [v, u] (getItem v u) → wpAny (model X.prog X.w) X.A (PyProof.Rows.subscriptTail value slice v u) (EP X pins σ Q) X.xe s
theorem wX_ok {X : Cx} : IxR X (wX X) := fun value slice pins s σ H x y v u Q I r1 r2 h e => h value slice pins s σ v u I r1 r2 e
def wC (X : Cx) (f : Value) : List V → Hp → VK → Prop := fun xs H Q => ∀ (pins : List (Addr × Obj)) (s : Shared) (σ : L2.St) (us : List Value), Inv X pins σ H s → Vals xs us → wpAny (model X.prog X.w) X.A (call f us) (EP X pins σ Q) X.xe s
theorem wC_ok {X : Cx} {f : Value} : CallR X f (wC X f) := fun pins s σ H xs us Q I r h => h pins s σ us I r
def wM (X : Cx) (id : String) : V → List V → Hp → VK → Prop := fun x xs H Q => ∀ (pins : List (Addr × Obj)) (s : Shared) (σ : L2.St) (v : Value) (us : List Value), Inv X pins σ H s → RelV x v → Vals xs us → wpAny (model X.prog X.w) X.A (call (.builtin id) (v :: us)) (EP X pins σ Q) X.xe s
theorem wM_ok {X : Cx} {id : String} : MtR X id (wM X id) := fun pins s σ H x xs v us Q I r1 r2 h => h pins s σ v us I r1 r2
def wL (X : Cx) : V → Option Int → Option Int → Hp → VK → Prop := fun x lo hi H Q => ∀ (pins : List (Addr × Obj)) (s : Shared) (σ : L2.St) (v vl vu : Value) (sl : Addr), Inv X pins σ H s → RelV x v → s.heap.IsSliceOf sl vl vu .none → IsPart vl lo → IsPart vu hi →
  ∃ T id, typeLookup (.type T) "__getitem__" = pure (some (.builtin id)) ∧ s.TypeIs v T ∧ wpAny (model X.prog X.w) X.A (getItem v (.ref sl)) (EP X pins σ Q) X.xe s
theorem wL_ok {X : Cx} : SlR X (wL X) := fun pins s σ H x v vl vu lo hi sl Q I r1 h1 h2 h3 h => h pins s σ v vl vu sl I r1 h1 h2 h3
section
variable {X : Cx} {H : Hp} {Q Q' : VK}
theorem wO.imp {f : Value → Value → Sem Value} {x y : V} (h : wO X f x y H Q) (q : ∀ v H', Q v H' → Q' v H') : wO X f x y H Q' := fun pins s σ v u I r1 r2 => thn (h pins s σ v u I r1 r2) fun u s' ⟨v, H', I', r, z⟩ => ⟨v, H', I', r, q v H' z⟩
theorem wU.imp {f : Value → Sem Value} {x : V} (h : wU X f x H Q) (q : ∀ v H', Q v H' → Q' v H') : wU X f x H Q' := fun pins s σ v I r1 => thn (h pins s σ v I r1) fun u s' ⟨v, H', I', r, z⟩ => ⟨v, H', I', r, q v H' z⟩
theorem wX.imp {x y : V} (h : wX X x y H Q) (q : ∀ v H', Q v H' → Q' v H') : wX X x y H Q' := fun value slice pins s σ v u I r1 r2 e => thn (h value slice pins s σ v u I r1 r2 e) fun u s' ⟨v, H', I', r, z⟩ => ⟨v, H', I', r, q v H' z⟩
theorem wC.imp {f : Value} {xs : List V} (h : wC X f xs H Q) (q : ∀ v H', Q v H' → Q' v H') : wC X f xs H Q' := fun pins s σ us I r => thn (h pins s σ us I r) fun u s' ⟨v, H', I', r, z⟩ => ⟨v, H', I', r, q v H' z⟩
theorem wM.imp {id : String} {x : V} {xs : List V} (h : wM X id x xs H Q) (q : ∀ v H', Q v H' → Q' v H') : wM X id x xs H Q' := fun pins s σ v us I r1 r2 => thn (h pins s σ v us I r1 r2) fun u s' ⟨v, H', I', r, z⟩ => ⟨v, H', I', r, q v H' z⟩
theorem wL.imp {x : V} {lo hi : Option Int} (h : wL X x lo hi H Q) (q : ∀ v H', Q v H' → Q' v H') : wL X x lo hi H Q' := fun pins s σ v vl vu sl I r1 h1 h2 h3 => by
  obtain ⟨T, id, a, b, c⟩ := h pins s σ v vl vu sl I r1 h1 h2 h3
  exact ⟨T, id, a, b, thn c fun u s' ⟨v, H', I', r, z⟩ => ⟨v, H', I', r, q v H' z⟩⟩
theorem wO_of {f : Value → Value → Sem Value} {ρ : R2} {x y : V} (p : OpR X f ρ) (h : ρ x y H Q) : wO X f x y H Q := fun pins s σ v u I r1 r2 => p pins s σ H x y v u Q I r1 r2 h
theorem wU_of {f : Value → Sem Value} {ρ : V → Hp → VK → Prop} {x : V} (p : UnR X f ρ) (h : ρ x H Q) : wU X f x H Q := fun pins s σ v I r1 => p pins s σ H x v Q I r1 h
theorem wX_of {ρ : R2} {x y : V} (p : IxR X ρ) (h : ρ x y H Q) : wX X x y H Q := fun value slice pins s σ v u I r1 r2 e => p value slice pins s σ H x y v u Q I r1 r2 h e
theorem wC_of {f : Value} {ρ : List V → Hp → VK → Prop} {xs : List V} (p : CallR X f ρ) (h : ρ xs H Q) : wC X f xs H Q := fun pins s σ us I r => p pins s σ H xs us Q I r h
theorem wM_of {id : String} {ρ : V → List V → Hp → VK → Prop} {x : V} {xs : List V} (p : MtR X id ρ) (h : ρ x xs H Q) : wM X id x xs H Q := fun pins s σ v us I r1 r2 => p pins s σ H x xs v us Q I r1 r2 h
theorem wL_of {ρ : V → Option Int → Option Int → Hp → VK → Prop} {x : V} {lo hi : Option Int} (p : SlR X ρ) (h : ρ x lo hi H Q) : wL X x lo hi H Q := fun pins s σ v vl vu sl I r1 h1 h2 h3 => p pins s σ H x v vl vu lo hi sl Q I r1 h1 h2 h3 h
end
/-! the values' questions over slots -/
def BinV (X : Cx) (f : Value → Value → Sem Value) (r q : R) (env : Env) (Q : R → Env → Prop) : Prop :=
  ∀ F G H σ v w, Rp X.K F G H σ env → Rrs X.K F G H env [v, w] [r, q] → wO X f v w H (PV X.K F G σ Q)
def UnV (X : Cx) (f : Value → Sem Value) (r : R) (env : Env) (Q : R → Env → Prop) : Prop :=
  ∀ F G H σ v, Rp X.K F G H σ env → Rr X.K F G H env v r → wU X f v H (PV X.K F G σ Q)
def SubV (X : Cx) (r q : R) (env : Env) (Q : R → Env → Prop) : Prop :=
  ∀ F G H σ v w, Rp X.K F G H σ env → Rrs X.K F G H env [v, w] [r, q] → wX X v w H (PV X.K F G σ Q)
def CallV (X : Cx) (f : Value) (rs : List R) (env : Env) (Q : R → Env → Prop) : Prop :=
  ∀ F G H σ vs, Rp X.K F G H σ env → Rrs X.K F G H env vs rs → wC X f vs H (PV X.K F G σ Q)
def MetV (X : Cx) (T : String) (id : String) (r : R) (rs : List R) (env : Env) (Q : R → Env → Prop) : Prop :=
  ∀ F G H σ v vs, Rp X.K F G H σ env → Rrs X.K F G H env (v :: vs) (r :: rs) → wM X id v vs H (PV X.K F G σ Q)
def SlV (X : Cx) (r : R) (lo hi : Option Int) (env : Env) (Q : R → Env → Prop) : Prop :=
  ∀ F G H σ v, Rp X.K F G H σ env → Rr X.K F G H env v r → wL X v lo hi H (PV X.K F G σ Q)

section
variable {X : Cx} {env : Env} {Q : R → Env → Prop} {a b e : Expr} {es : List Expr} {pos : Pos}
theorem PV.imp {K : PySem.W.Frag} {F F1 G : Hp} {σ : L2.St} {Q Q' : R → Env → Prop} {v : V} {H : Hp} (s : Same F F1) (h : PV K F1 G σ Q v H) (q : ∀ r env, Q r env → Q' r env) : PV K F G σ Q' v H := by
  obtain ⟨F', r, env', s', R, rr, z⟩ := h
  exact ⟨F', r, env', s.trans s', R, rr, q _ _ z⟩
theorem wE.same {K : PySem.W.Frag} {F F1 G H : Hp} {σ : L2.St} {e : Expr} (s : Same F F1) (h : wE X e σ H (PV X.K F1 G σ Q)) : wE X e σ H (PV X.K F G σ Q) := h.imp fun v H' z => z.imp s fun _ _ z => z
theorem VE.imp {Q' : R → Env → Prop} (h : VE X e env Q) (q : ∀ r env', Q r env' → Q' r env') : VE X e env Q' := fun F G H σ Rq => (h F G H σ Rq).imp fun v H' z => z.imp (.refl _) q
/-- data as an end -/
theorem pv_d {K : PySem.W.Frag} {F F1 G H : Hp} {σ : L2.St} {v : V} {x : PyData} (s : Same F F1) (R : Rp K F1 G H σ env) (h : Dq K F1 v x) (q : Q (dd x) env) : PV K F G σ Q v H := ⟨F1, _, env, s, R, .d h, q⟩
theorem pv_int {K : PySem.W.Frag} {F G H : Hp} {σ : L2.St} {i : Int} (R : Rp K F G H σ env) (q : Q (dd (.int i)) env) : PV K F G σ Q (.int i) H := pv_d (.refl _) R (.int i) q
theorem pv_bl {K : PySem.W.Frag} {F G H : Hp} {σ : L2.St} {i : Bool} (R : Rp K F G H σ env) (q : Q (dd (.bool i)) env) : PV K F G σ Q (.bl i) H := pv_d (.refl _) R (.bl i) q
theorem pv_str {K : PySem.W.Frag} {F G H : Hp} {σ : L2.St} {i : Str} (R : Rp K F G H σ env) (q : Q (dd (.str i)) env) : PV K F G σ Q (.str i) H := pv_d (.refl _) R (.str i) q
theorem pv_non {K : PySem.W.Frag} {F G H : Hp} {σ : L2.St} (R : Rp K F G H σ env) (q : Q (dd .none) env) : PV K F G σ Q .non H := pv_d (.refl _) R .non q
/-- a new tuple's object -/
def tupO (us : List Value) : Obj := { cls := .type "tuple", data := .seq us.toArray }
/-- a new tuple of data -/
theorem pv_tup {K : PySem.W.Frag} {F G H : Hp} {σ : L2.St} {p : Addr} {us : List Value} {vs : List V} {xs : List PyData} (R : Rp K F G H σ env) (n : H p = none) (h : Dqs K F vs xs) (q : Q (dd (.tuple xs)) env) : PV K F G σ Q (.ref p) (upd H p (.frz (tupO us) (.tup vs))) := by
  have g := Gw.still R.bs n (.frz (tupO us) (.tup vs))
  exact pv_d g.ff (R.grow g) (.tup (.inl ⟨_, upd_same, rfl⟩) (dqs_mono g.ff _ _ h)) q
/-- what is known of a new tuple -/
theorem tup_laid {pins : List (Addr × Obj)} {σ : L2.St} {H : Hp} {s : Shared} {us : List Value} {vs : List V} {t : Nat} (I : Inv X pins σ H s) (r : Vals vs us) (z : vs.length ≤ sizeLine) :
    Inv X pins σ (upd H s.heap.objs.size (.frz (tupO us) (.tup vs))) { s with heap := s.heap.push (tupO us), toks := t } :=
  I.laid (fun b u e => Heap.get?_push_of_some _ e) (Nat.le_refl _) ⟨Heap.get?_push_size _ rfl, z, us, r, ⟨_, Heap.get?_push_size _ rfl, rfl, _, rfl⟩⟩
def tTupF (t : TA) : TE := fun σ H Q => t σ H fun xs H1 => xs.length ≤ sizeLine ∧ ∀ p us, H1 p = none → Q (.ref p) (upd H1 p (.frz (tupO us) (.tup xs)))
theorem pe_tupF {x1} {t : TA} (h : PA X es t) : PE X (.Tuple es x1 pos) (tTupF t) := by
  refine ⟨fun pins s σ H Q I hq => ?_⟩
  refine wpAny_Tuple_spliced (thn (h.run pos pins s σ H _ I hq) fun us s1 ⟨xs, H1, I1, r, z, q⟩ => ⟨by rw [← r.length]; exact z, ?_⟩)
  exact ⟨.ref s1.heap.objs.size, _, tup_laid (t := s1.toks) I1 r z, rfl, q _ us (I1.hok.fresh (Nat.le_refl _))⟩
/-- a new list of one's own -/
theorem pv_lst {K : PySem.W.Frag} {F G H : Hp} {σ : L2.St} {p : Addr} {vs : List V} {ts : List T} (R : Rp K F G H σ env) (n : H p = none) (h : reps K F H ts vs) (nd : (nodesL ts).Nodup) (fr : ∀ a ∈ nodesL ts, a ∉ nodesE env ∧ F a = none ∧ G a = none)
    (q : Q (.own (.nd p .lst ts)) env) : PV K F G σ Q (.ref p) (upd H p (.lst vs)) := by
  have g : Gw F G H F (upd H p (Kd.lst.ho vs)) := Gw.own R.bs n .lst vs
  have hn : ∀ a ∈ nodesL ts, a ≠ p := fun a ha e => by
    obtain ⟨k, us, z⟩ := reps_there ts vs h a ha
    rw [e, n] at z
    cases z
  have hr : rep K F (upd H p (.lst vs)) (.nd p .lst ts) (.ref p) := ⟨rfl, vs, upd_same, trivial, reps_frame (.refl _) ts vs (fun a ha => upd_ne (hn a ha)) h⟩
  refine ⟨F, .own (.nd p .lst ts), env, .refl _, R.grow g, ⟨hr, List.nodup_cons.mpr ⟨fun ha => hn p ha rfl, nd⟩, fun a ha => ?_⟩, q⟩
  rcases List.mem_cons.mp ha with rfl | ha
  · refine ⟨fun hm => ?_, none_of R.bs.fh n, none_of R.bs.gh n⟩
    obtain ⟨k, us, z⟩ := R.re.there a hm
    rw [n] at z
    cases z
  · exact fr a ha
theorem pv_lstd {K : PySem.W.Frag} {F G H : Hp} {σ : L2.St} {p : Addr} {vs : List V} {xs : List PyData} (R : Rp K F G H σ env) (n : H p = none) (h : Dqs K F vs xs) (q : Q (.own (.nd p .lst (xs.map T.d))) env) :
    PV K F G σ Q (.ref p) (upd H p (.lst vs)) := pv_lst R n (reps_d.mpr h) (by rw [nodesL_d]; exact List.nodup_nil) (fun a ha => by rw [nodesL_d] at ha; cases ha) q

/-! ### 6. expressions -/
theorem ve_name (i : Nat) {x : Str} {t : T} (e : env[i]? = some (some t)) (q : Q (R.of t) env) (hN : X.N[i]? = some x := by rfl) (hv : Vis X.env.scope x := by first | exact Or.inl rfl | exact Or.inr (Or.inl rfl) | exact Or.inr (Or.inr rfl))
    (hd : (x == ("__debug__" : Str)) = false := by decide) (hcd : (x == ("__classdict__" : Str)) = false := by decide) : VE X (.Name x pos) env Q := fun F G H σ Rq => by
  obtain ⟨v, h1, h2⟩ := Rq.re.get e
  refine wE_of (pe_var (i := i) hN hv hd hcd) ⟨v, h1, F, R.of t, env, .refl _, Rq, ?_, q⟩
  cases t with
  | d x => exact .d h2
  | nd p k ts =>
    obtain ⟨rfl, _⟩ := h2
    exact .rf
theorem ve_int {i j} (q : Q (dd (.int i)) env) : VE X (.Constant (.int i) j pos) env Q := fun F G H σ Rq => wE_of pe_int (pv_int Rq q)
theorem ve_bl {i j} (q : Q (dd (.bool i)) env) : VE X (.Constant (.bool i) j pos) env Q := fun F G H σ Rq => wE_of pe_bl (pv_bl Rq q)
theorem ve_str {i j} (q : Q (dd (.str i)) env) : VE X (.Constant (.str i) j pos) env Q := fun F G H σ Rq => wE_of pe_str (pv_str Rq q)
theorem ve_non {j} (q : Q (dd .none) env) : VE X (.Constant .none j pos) env Q := fun F G H σ Rq => wE_of pe_non (pv_non Rq q)
/-- a module's constant -/
theorem ve_glob {x : Str} {v : V} {u : Value} {c : PyData} (hg : Gl X x) (hm : X.mg x = some u) (r : RelV v u) (h : ∀ F, Dq X.K F v c) (q : Q (dd c) env) (hd : (x == ("__debug__" : Str)) = false := by decide) : VE X (.Name x pos) env Q := fun F G H σ Rq =>
  wE_of (pe_glob hg hm r hd) (pv_d (.refl _) Rq (h F) q)

theorem ve_bin {op : Operator} (h : VE X a env fun r e1 => VE X b e1 fun q e2 => BinV X (binaryOp op) r q e2 Q) : VE X (.BinOp a op b pos) env Q := fun F G H σ Rq =>
  wE_of (pe_op wO_ok pe_w pe_w) (ve_two (Q := fun r q e2 => BinV X (binaryOp op) r q e2 Q) Rq h fun v w H2 F2 r q e2 s R2 q2 z => (z F2 G H2 σ v w R2 q2).imp fun _ _ p => p.imp s fun _ _ p => p)
theorem ve_un {op : UnaryOp} (h : VE X a env fun r e1 => UnV X (unaryOp op) r e1 Q) : VE X (.UnaryOp op a pos) env Q := fun F G H σ Rq =>
  wE_of (pe_un wU_ok pe_w) ((h F G H σ Rq).imp fun v H1 ⟨F1, r, e1, s, R1, q1, z⟩ => (z F1 G H1 σ v R1 q1).imp fun _ _ p => p.imp s fun _ _ p => p)
theorem ve_cmp {op : CmpOp} (h : VE X a env fun r e1 => VE X b e1 fun q e2 => BinV X (compareOp op) r q e2 Q) (hm : behindInMarks op b = false := by first | exact nomark _ | rfl) : VE X (.Compare a [op] [b] pos) env Q := fun F G H σ Rq =>
  wE_of (pe_cmpR wO_ok pe_w pe_w hm) (ve_two (Q := fun r q e2 => BinV X (compareOp op) r q e2 Q) Rq h fun v w H2 F2 r q e2 s R2 q2 z => (z F2 G H2 σ v w R2 q2).imp fun _ _ p => p.imp s fun _ _ p => p)
theorem ve_sub (h : VE X a env fun r e1 => VE X b e1 fun q e2 => SubV X r q e2 Q) (hs : PlainIx b := by exact fun _ _ => rfl) : VE X (.Subscript a b pos) env Q := fun F G H σ Rq =>
  wE_of (pe_ix wX_ok pe_w pe_w hs) (ve_two (Q := fun r q e2 => SubV X r q e2 Q) Rq h fun v w H2 F2 r q e2 s R2 q2 z => (z F2 G H2 σ v w R2 q2).imp fun _ _ p => p.imp s fun _ _ p => p)
theorem ve_callB {x : Str} {id : String} {p : Pos} (hm : X.mg x = none) (hv : bootBuiltins x = some (.builtin id)) (h : VEs X (e :: es) env fun rs e1 => CallV X (.builtin id) rs e1 Q) (hg : Gl X x := by rfl)
    (hn : x ≠ "__name__" := by decide) (hdb : (x == ("__debug__" : Str)) = false := by decide) (he : starEach (e :: es) X.env = (false, eval e X.env) :: starEach es X.env := by rfl) (hpl : (backTo pos (starEach es X.env)).any (·.1) = false := by rfl) :
    VE X (.Call (.Name x p) (e :: es) [] pos) env Q := fun F G H σ Rq =>
  wE_of (pe_callB wC_ok hg hm hv pa_w hn hdb he hpl) ((h F G H σ Rq).imp fun vs H1 ⟨F1, rs, e1, s, R1, q1, z⟩ => (z F1 G H1 σ vs R1 q1).imp fun _ _ p => p.imp s fun _ _ p => p)
theorem ve_callTy {x : Str} {T : String} {p : Pos} (hm : X.mg x = none) (hv : bootBuiltins x = some (.type T)) (h : VEs X (e :: es) env fun rs e1 => CallV X (.type T) rs e1 Q) (hg : Gl X x := by rfl)
    (hn : x ≠ "__name__" := by decide) (hdb : (x == ("__debug__" : Str)) = false := by decide) (he : starEach (e :: es) X.env = (false, eval e X.env) :: starEach es X.env := by rfl) (hpl : (backTo pos (starEach es X.env)).any (·.1) = false := by rfl) :
    VE X (.Call (.Name x p) (e :: es) [] pos) env Q := fun F G H σ Rq =>
  wE_of (pe_callTy wC_ok hg hm hv pa_w hn hdb he hpl) ((h F G H σ Rq).imp fun vs H1 ⟨F1, rs, e1, s, R1, q1, z⟩ => (z F1 G H1 σ vs R1 q1).imp fun _ _ p => p.imp s fun _ _ p => p)

/-! #### displays -/
/-- items of data and trees out of results: all of them one's own -/
theorem rreps_own {K : PySem.W.Frag} {F H : Hp} : ∀ {ts : List T} {vs : List V}, rreps K F H (ts.map R.own) vs ↔ reps K F H ts vs
  | [], _ => Iff.rfl
  | t :: ts, vs => ⟨fun ⟨v, r, e, h1, h2⟩ => ⟨v, r, e, h1, rreps_own.mp h2⟩, fun ⟨v, r, e, h1, h2⟩ => ⟨v, r, e, h1, rreps_own.mpr h2⟩⟩
theorem rnodesL_own : ∀ (ts : List T), rnodesL (ts.map R.own) = nodesL ts
  | [] => rfl
  | t :: ts => by
    show nodes t ++ rnodesL (ts.map R.own) = _
    rw [rnodesL_own ts]
    rfl
theorem rreps_dd {K : PySem.W.Frag} {F H : Hp} {xs : List PyData} {vs : List V} : rreps K F H (xs.map dd) vs ↔ Dqs K F vs xs := by
  have e : xs.map dd = (xs.map T.d).map R.own := by rw [List.map_map]; rfl
  rw [e, rreps_own, reps_d]
theorem ve_list (h : VEs X es env fun rs e1 => ∃ ts : List T, rs = ts.map R.own ∧ ts.length ≤ sizeLine ∧ ∀ p, Q (.own (.nd p .lst ts)) e1) : VE X (.List es pos) env Q := fun F G H σ Rq => by
  refine wE_of (pe_lst pa_w) ((h F G H σ Rq).imp fun vs H1 ⟨F1, rs, e1, s, R1, q1, ts, ets, hz, z⟩ => ?_)
  subst ets
  have h2 := rreps_own.mp q1.rp
  refine ⟨by rw [reps_len h2]; exact hz, fun p n => (pv_lst R1 n h2 (by rw [← rnodesL_own]; exact q1.nd) (fun a ha => q1.fr a (by rw [rnodesL_own]; exact ha)) (z p)).imp s fun _ _ p => p⟩
theorem ve_tuple {k} (h : VEs X es env fun rs e1 => ∃ xs : List PyData, rs = xs.map dd ∧ xs.length ≤ sizeLine ∧ Q (dd (.tuple xs)) e1) : VE X (.Tuple es k pos) env Q := fun F G H σ Rq => by
  refine wE_of (pe_tupF pa_w) ((h F G H σ Rq).imp fun vs H1 ⟨F1, rs, e1, s, R1, q1, xs, exs, hz, z⟩ => ?_)
  subst exs
  have h2 := rreps_dd.mp q1.rp
  have hl : vs.length = xs.length := by
    have := reps_len (K := X.K) (F := F1) (H := H1) (reps_d.mpr h2)
    rw [this, List.length_map]
  exact ⟨by rw [hl]; exact hz, fun p us n => (pv_tup R1 n h2 z).imp s fun _ _ p => p⟩
end
end VL

/-! text VL4 -/
set_option Elab.async false
set_option linter.all false
set_option maxRecDepth 100000
set_option maxHeartbeats 2000000
namespace VL
open PySem PySem.Spec L2

/-! ### 7. tests -/
section
variable {X : Cx} {env : Env} {Q : Bool → Env → Prop} {QR : R → Env → Prop} {a b c e : Expr} {es : List Expr} {pos : Pos}
theorem PB.imp {K : PySem.W.Frag} {F F1 G : Hp} {σ : L2.St} {Q Q' : Bool → Env → Prop} {v : Bool} {H : Hp} (s : Same F F1) (h : PB K F1 G σ Q v H) (q : ∀ r env, Q r env → Q' r env) : PB K F G σ Q' v H := by
  obtain ⟨F', env', s', R, z⟩ := h
  exact ⟨F', env', s.trans s', R, q _ _ z⟩
/-- the truth of a result that is data -/
def TruD : PyData → Option Bool
  | .none => some false
  | .bool b => some b
  | .int i => some (i != 0)
  | .str y => some ((y.length : Int) != 0)
  | .list xs => some (!xs.isEmpty)
  | .tuple xs => some (!xs.isEmpty)
  | .dict _ => none
theorem dpa_empty {K : PySem.W.Frag} {F : Hp} {vs : List V} {xs : List PyData} (h : Dqs K F vs xs) : vs.isEmpty = xs.isEmpty := by cases h <;> rfl
/-- a value that is a bool, as a test -/
theorem vt_val (h : VE X e env fun r e1 => ∃ k, r = dd (.bool k) ∧ Q k e1) (he : ∀ whole, isTrue e X.env whole = (do let v ← whole; standAt e.pos; holding [v] (truthy v)) := by intro _; rfl) : VT X e env Q := fun F G H σ Rq =>
  wT_of (pt_val pe_w he) ((h F G H σ Rq).imp fun v H1 ⟨F1, r, e1, s, R1, q1, k, er, z⟩ => by
    subst er
    have q : Dq X.K F1 v (.bool k) := q1.rp
    cases q
    exact ⟨k, rfl, F1, e1, s, R1, z⟩)
/-- a value's truth -/
theorem vt_tru (h : VE X e env fun r e1 => ∃ x k, r = dd x ∧ TruD x = some k ∧ (∀ y, x = .str y → y.length ≤ sizeLine) ∧ Q k e1) (he : ∀ whole, isTrue e X.env whole = (do let v ← whole; standAt e.pos; holding [v] (truthy v)) := by intro _; rfl) : VT X e env Q := fun F G H σ Rq =>
  wT_of (pt_truth pe_w he) ((h F G H σ Rq).imp fun v H1 ⟨F1, r, e1, s, R1, q1, x, k, er, ek, hz, z⟩ => by
    subst er
    have q : Dq X.K F1 v x := q1.rp
    refine ⟨k, ?_, F1, e1, s, R1, z⟩
    cases q with
    | non => exact (Option.some.inj ek).symm
    | bl b => exact (Option.some.inj ek).symm
    | int i => exact (Option.some.inj ek).symm
    | str y => exact ⟨hz y rfl, (Option.some.inj ek).symm⟩
    | lst hs ha => exact .inl ⟨_, (hs.up R1.bs.fh).sq, by rw [dpa_empty ha]; exact (Option.some.inj ek).symm⟩
    | tup hs ha => exact .inr (.inl ⟨_, (hs.up R1.bs.fh).sq, by rw [dpa_empty ha]; exact (Option.some.inj ek).symm⟩))
theorem vt_cmp {op : CmpOp} (h : VE X a env fun r e1 => VE X b e1 fun q e2 => BinV X (compareOp op) r q e2 fun r e3 => ∃ k, r = dd (.bool k) ∧ Q k e3) (hm : behindInMarks op b = false := by first | exact nomark _ | rfl) : VT X (.Compare a [op] [b] pos) env Q := fun F G H σ Rq => by
  have h1 : VE X (.Compare a [op] [b] pos) env fun r e3 => ∃ k, r = dd (.bool k) ∧ Q k e3 := ve_cmp h hm
  refine wT_of (pt_cmpR wO_ok pe_w pe_w hm) (ve_two (Q := fun r q e2 => BinV X (compareOp op) r q e2 fun r e3 => ∃ k, r = dd (.bool k) ∧ Q k e3) Rq h fun v w H2 F2 r q e2 s R2 q2 z => (z F2 G H2 σ v w R2 q2).imp fun v H3 ⟨F3, r, e3, s3, R3, q3, k, er, zz⟩ => ?_)
  subst er
  have q : Dq X.K F3 v (.bool k) := q3.rp
  cases q
  exact ⟨k, rfl, F3, e3, s.trans s3, R3, zz⟩
theorem vt_not (h : VT X a env fun k e1 => Q (!k) e1) : VT X (.UnaryOp .Not a pos) env Q := fun F G H σ Rq =>
  wT_of (pt_not pt_w) ((h F G H σ Rq).imp fun v H1 p => p)
theorem vt_w (h : VW X e env Q) : VT X e env Q := fun F G H σ Rq => wT_of (pw_w.pt) (h F G H σ Rq)
theorem vw_and1 (h : VT X a env Q) : VW X (.BoolOp .And [a] pos) env Q := fun F G H σ Rq => wW_of (pw_and1 pt_w) (h F G H σ Rq)
theorem vw_or1 (h : VT X a env Q) : VW X (.BoolOp .Or [a] pos) env Q := fun F G H σ Rq => wW_of (pw_or1 pt_w) (h F G H σ Rq)
theorem vw_and {rest : List Expr} (h : VT X a env fun k e1 => if k = true then VW X (.BoolOp .And (b :: rest) pos) e1 Q else Q false e1) : VW X (.BoolOp .And (a :: b :: rest) pos) env Q := fun F G H σ Rq =>
  wW_of (pw_and pt_w pw_w) ((h F G H σ Rq).imp fun v H1 ⟨F1, e1, s, R1, z⟩ => by
    cases v with
    | true => exact wW.imp ((show VW X (.BoolOp .And (b :: rest) pos) e1 Q from z) F1 G H1 σ R1) fun _ _ p => p.imp s fun _ _ p => p
    | false => exact ⟨F1, e1, s, R1, z⟩)
theorem vw_or {rest : List Expr} (h : VT X a env fun k e1 => if k = true then Q true e1 else VW X (.BoolOp .Or (b :: rest) pos) e1 Q) : VW X (.BoolOp .Or (a :: b :: rest) pos) env Q := fun F G H σ Rq =>
  wW_of (pw_or pt_w pw_w) ((h F G H σ Rq).imp fun v H1 ⟨F1, e1, s, R1, z⟩ => by
    cases v with
    | false => exact wW.imp ((show VW X (.BoolOp .Or (b :: rest) pos) e1 Q from z) F1 G H1 σ R1) fun _ _ p => p.imp s fun _ _ p => p
    | true => exact ⟨F1, e1, s, R1, z⟩)
/-- and, or, not, as values: all but the last are bools -/
theorem ve_one {op} (h : VE X a env QR) : VE X (.BoolOp op [a] pos) env QR := fun F G H σ Rq => wE_of (pe_one pe_w) (h F G H σ Rq)
theorem ve_and {rest : List Expr} (h : VE X a env fun r e1 => ∃ k, r = dd (.bool k) ∧ if k = true then VE X (.BoolOp .And (b :: rest) pos) e1 QR else QR (dd (.bool false)) e1) : VE X (.BoolOp .And (a :: b :: rest) pos) env QR := fun F G H σ Rq =>
  wE_of (pe_and pe_w pe_w) ((h F G H σ Rq).imp fun v H1 ⟨F1, r, e1, s, R1, q1, k, er, z⟩ => by
    subst er
    have q : Dq X.K F1 v (.bool k) := q1.rp
    cases q
    refine ⟨k, rfl, ?_⟩
    cases k with
    | true => exact wE.imp ((show VE X (.BoolOp .And (b :: rest) pos) e1 QR from z) F1 G H1 σ R1) fun _ _ p => p.imp s fun _ _ p => p
    | false => exact (pv_bl R1 z).imp s fun _ _ p => p)
theorem ve_or {rest : List Expr} (h : VE X a env fun r e1 => ∃ k, r = dd (.bool k) ∧ if k = true then QR (dd (.bool true)) e1 else VE X (.BoolOp .Or (b :: rest) pos) e1 QR) : VE X (.BoolOp .Or (a :: b :: rest) pos) env QR := fun F G H σ Rq =>
  wE_of (pe_or pe_w pe_w) ((h F G H σ Rq).imp fun v H1 ⟨F1, r, e1, s, R1, q1, k, er, z⟩ => by
    subst er
    have q : Dq X.K F1 v (.bool k) := q1.rp
    cases q
    refine ⟨k, rfl, ?_⟩
    cases k with
    | false => exact wE.imp ((show VE X (.BoolOp .Or (b :: rest) pos) e1 QR from z) F1 G H1 σ R1) fun _ _ p => p.imp s fun _ _ p => p
    | true => exact (pv_bl R1 z).imp s fun _ _ p => p)
theorem ve_not (h : VE X a env fun r e1 => ∃ k, r = dd (.bool k) ∧ QR (dd (.bool (!k))) e1) : VE X (.UnaryOp .Not a pos) env QR := fun F G H σ Rq =>
  wE_of (pe_not pe_w) ((h F G H σ Rq).imp fun v H1 ⟨F1, r, e1, s, R1, q1, k, er, z⟩ => by
    subst er
    have q : Dq X.K F1 v (.bool k) := q1.rp
    cases q
    exact ⟨k, rfl, (pv_bl R1 z).imp s fun _ _ p => p⟩)
theorem ve_ifExp (h : VT X c env fun k e1 => if k = true then VE X a e1 QR else VE X b e1 QR) : VE X (.IfExp c a b pos) env QR := fun F G H σ Rq =>
  wE_of (pe_ifExp pt_w pe_w pe_w) ((h F G H σ Rq).imp fun v H1 ⟨F1, e1, s, R1, z⟩ => by
    cases v with
    | true => exact wE.imp ((show VE X a e1 QR from z) F1 G H1 σ R1) fun _ _ p => p.imp s fun _ _ p => p
    | false => exact wE.imp ((show VE X b e1 QR from z) F1 G H1 σ R1) fun _ _ p => p.imp s fun _ _ p => p)
end

/-! ### 8. statements -/
section
variable {X : Cx} {env : Env} {D : Dn} {a b c e : Expr} {es : List Expr} {pos : Pos} {st : Stmt} {sts : List Stmt}
theorem SP.imp {X : Cx} {pins : List (Addr × Obj)} {D D' : Ends} {f : Flow} {s' : Shared} (h : SP X pins D f s') (h1 : ∀ σ H, D.nx σ H → D'.nx σ H) (h2 : ∀ v H, D.rt v H → D'.rt v H) (h3 : ∀ σ H, D.bk σ H → D'.bk σ H) (h4 : ∀ σ H, D.ct σ H → D'.ct σ H) : SP X pins D' f s' := by
  cases f with
  | next => obtain ⟨σ, H, I, q⟩ := h; exact ⟨σ, H, I, h1 _ _ q⟩
  | brk => obtain ⟨σ, H, I, q⟩ := h; exact ⟨σ, H, I, h3 _ _ q⟩
  | cont => obtain ⟨σ, H, I, q⟩ := h; exact ⟨σ, H, I, h4 _ _ q⟩
  | ret u => obtain ⟨v, σ, H, I, r, q⟩ := h; exact ⟨v, σ, H, I, r, h2 _ _ q⟩
theorem wS.imp {D D' : Ends} {σ : L2.St} {H : Hp} (h : wS X st D σ H) (h1 : ∀ σ H, D.nx σ H → D'.nx σ H) (h2 : ∀ v H, D.rt v H → D'.rt v H) (h3 : ∀ σ H, D.bk σ H → D'.bk σ H) (h4 : ∀ σ H, D.ct σ H → D'.ct σ H) : wS X st D' σ H :=
  fun pins s I => thn (h pins s I) fun f s' q => SP.imp q h1 h2 h3 h4
theorem wSs.imp {D D' : Ends} {σ : L2.St} {H : Hp} (h : wSs X sts D σ H) (h1 : ∀ σ H, D.nx σ H → D'.nx σ H) (h2 : ∀ v H, D.rt v H → D'.rt v H) (h3 : ∀ σ H, D.bk σ H → D'.bk σ H) (h4 : ∀ σ H, D.ct σ H → D'.ct σ H) : wSs X sts D' σ H :=
  fun pins s I => thn (h pins s I) fun f s' q => SP.imp q h1 h2 h3 h4
theorem wSs.same {K : PySem.W.Frag} {F F1 G H : Hp} {σ : L2.St} (s : Same F F1) (h : wSs X sts (D.at K F1 G) σ H) : wSs X sts (D.at K F G) σ H :=
  h.imp (fun σ H ⟨F', e, s', z⟩ => ⟨F', e, s.trans s', z⟩) (fun v H ⟨F', t, e, σ, s', z⟩ => ⟨F', t, e, σ, s.trans s', z⟩) (fun σ H ⟨F', e, s', z⟩ => ⟨F', e, s.trans s', z⟩) (fun σ H ⟨F', e, s', z⟩ => ⟨F', e, s.trans s', z⟩)
theorem Dn.nx_at {K : PySem.W.Frag} {F F1 G H : Hp} {σ : L2.St} (s : Same F F1) (R : Rp K F1 G H σ env) (h : D.nx env) : (D.at K F G).nx σ H := ⟨F1, env, s, R, h⟩
theorem vss_nil (h : D.nx env) : VSs X [] env D := fun F G H σ Rq => wSs_of pss_nil (D.nx_at (.refl _) Rq h)
theorem vss_cons (h : VS X st env { D with nx := fun e1 => VSs X sts e1 D }) : VSs X (st :: sts) env D := fun F G H σ Rq => by
  refine wSs_of (pss_cons ps_w pss_w) ((h F G H σ Rq).imp (fun σ1 H1 ⟨F1, e1, s, R1, z⟩ => (z F1 G H1 σ1 R1).same s) (fun _ _ z => z) (fun _ _ z => z) (fun _ _ z => z))
theorem vss_one (h : VS X st env D) : VSs X [st] env D := fun F G H σ Rq => wSs_of (pss_one ps_w) (h F G H σ Rq)
theorem vs_pass (h : D.nx env) : VS X (.Pass pos) env D := fun F G H σ Rq => wS_of ps_pass (D.nx_at (.refl _) Rq h)
theorem vs_break (h : D.bk env) : VS X (.Break pos) env D := fun F G H σ Rq => wS_of ps_break ⟨F, env, .refl _, Rq, h⟩
theorem vs_cont (h : D.ct env) : VS X (.Continue pos) env D := fun F G H σ Rq => wS_of ps_continue ⟨F, env, .refl _, Rq, h⟩
theorem vs_expr (h : VE X e env fun _ e1 => D.nx e1) (hs : swapsWith e none pos.line X.env = pure false := by rfl) : VS X (.Expr e pos) env D := fun F G H σ Rq =>
  wS_of (ps_expr pe_w hs) ((h F G H σ Rq).imp fun v H1 ⟨F1, r, e1, s, R1, q1, z⟩ => D.nx_at s R1 z)
/-- a result becomes a thing of one's own: an object of a slot leaves the slot -/
inductive Take (env : Env) : R → T → Env → Prop
  | own (t : T) : Take env (.own t) t env
  | mv (i : Nat) {p : Addr} {k : Kd} {ts : List T} : env[i]? = some (some (.nd p k ts)) → Take env (.rf p) (.nd p k ts) (env.set i none)
theorem Take.to {K : PySem.W.Frag} {F G H : Hp} {σ : L2.St} {env env' : Env} {r : R} {t : T} {v : V} (k : Take env r t env') (R : Rp K F G H σ env) (q : Rr K F G H env v r) : Rp K F G H σ env' ∧ Vr K F G H env' v t := by
  cases k with
  | own t => exact ⟨R, q.vr⟩
  | mv i e =>
    obtain ⟨w, h1, h2, h3⟩ := R.take e
    have ev : v = .ref _ := q.rp
    have ew : w = .ref _ := h3.rp.1
    rw [ev, ← ew]
    exact ⟨h2, h3⟩
theorem vs_ret (h : VE X e env fun r e1 => ∃ t e2, Take e1 r t e2 ∧ D.rt t e2) : VS X (.Return (some e) pos) env D := fun F G H σ Rq =>
  wS_of (ps_ret pe_w) ((h F G H σ Rq).imp fun v H1 ⟨F1, r, e1, s, R1, q1, t, e2, k, z⟩ => by
    obtain ⟨R2, q2⟩ := k.to R1 q1
    exact ⟨F1, t, e2, σ, s, R2, q2, z⟩)
theorem vs_retN (h : D.rt (.d .none) env) : VS X (.Return none pos) env D := fun F G H σ Rq => wS_of ps_retN ⟨F, _, env, σ, .refl _, Rq, .d .non, h⟩
theorem vs_if {els : List Stmt} (h : VT X c env fun k e1 => if k = true then VSs X sts e1 D else VSs X els e1 D) : VS X (.If c sts els pos) env D := fun F G H σ Rq =>
  wS_of (ps_if pt_w pss_w pss_w) ((h F G H σ Rq).imp fun v H1 ⟨F1, e1, s, R1, z⟩ => by
    cases v with
    | true => exact wSs.same s ((show VSs X sts e1 D from z) F1 G H1 σ R1)
    | false => exact wSs.same s ((show VSs X els e1 D from z) F1 G H1 σ R1))
end
end VL

/-! text VL5 -/
set_option Elab.async false
set_option linter.all false
set_option maxRecDepth 100000
set_option maxHeartbeats 2000000
namespace VL
open PySem PySem.Spec L2

/-! ### 9. targets -/
/-- what a target is told: a thing of one's own, or a pair's (a tuple's) items -/
inductive Itm where
  | one (t : T)
  | row (xs : List PyData)
abbrev it (x : PyData) : Itm := .one (.d x)
def itn : Itm → Prop
  | .one t => nodes t = []
  | .row _ => True
def ItR (K : PySem.W.Frag) (F G H : Hp) (env : Env) (v : V) : Itm → Prop
  | .one t => Vr K F G H env v t
  | .row xs => ∃ a vs, v = .ref a ∧ SqT K H a vs ∧ Dqs K F vs xs
/-- a target that changes the slots vs alone -/
def VGt (X : Cx) (tg : Expr) (is : List Nat) (t : Itm) (env : Env) (Q : Env → Prop) : Prop := ∀ F G H σ v, Rp X.K F G H σ env → ItR X.K F G H env v t →
  wG X tg v σ H (fun σ' H' => ∃ F' env', Same F F' ∧ Rp X.K F' G H' σ' env' ∧ wipe σ' is = wipe σ is ∧ Q env')
theorem wipe_set {i : Nat} {a : Option V} : ∀ {is : List Nat} {σ : L2.St}, i ∈ is → wipe (σ.set i a) is = wipe σ is
  | [], _, h => by cases h
  | j :: is, σ, h => by
    show (wipe (σ.set i a) is).set j none = (wipe σ is).set j none
    by_cases hi : i ∈ is
    · rw [wipe_set hi]
    · have hj : i = j := by
        rcases List.mem_cons.mp h with e | e
        · exact e
        · exact absurd e hi
      subst hj
      have out : ∀ {ks : List Nat} {τ : L2.St}, i ∉ ks → wipe (τ.set i a) ks = (wipe τ ks).set i a := by
        intro ks
        induction ks with
        | nil => intro τ _; rfl
        | cons k ks ih =>
          intro τ hk
          show (wipe (τ.set i a) ks).set k none = ((wipe τ ks).set k none).set i a
          rw [ih (fun z => hk (List.mem_cons_of_mem _ z))]
          exact List.set_comm _ _ (fun z => hk (z ▸ List.mem_cons_self))
      rw [out hi, List.set_set]
section
variable {X : Cx} {env : Env} {Q : Env → Prop} {D : Dn} {a b c e tg iter : Expr} {es : List Expr} {pos : Pos} {st : Stmt} {sts body : List Stmt} {t : T} {is : List Nat}
theorem vg_name (i : Nat) {x : Str} (q : Q (env.set i (some t))) (hm : i ∈ is := by simp) (hN : X.N.Nodup := by assumption) (hi : X.N[i]? = some x := by rfl) (hx : Loc X.env.scope x := by first | exact Or.inl rfl | exact Or.inr rfl)
    (hf : X.fn x = true ∨ X.env.scope.names.lookup x = some .local := by first | exact .inl rfl | exact .inr rfl | assumption) : VGt X (.Name x pos) is (.one t) env Q := fun F G H σ v Rq q1 =>
  wG_of (pg_name hN hi hx hf) ⟨F, env.set i (some t), .refl _, Rq.set q1, wipe_set hm, q⟩
/-- names told from the items of data -/
def setAll : List Nat → List PyData → Env → Env
  | i :: is, x :: xs, env => setAll is xs (env.set i (some (.d x)))
  | _, _, env => env
structure NmT (X : Cx) (e : Expr) (i : Nat) : Prop where
  ex : ∃ x pos, e = .Name x pos ∧ X.N[i]? = some x ∧ Loc X.env.scope x ∧ (X.fn x = true ∨ X.env.scope.names.lookup x = some .local)
theorem nmT (i : Nat) {x : Str} {pos : Pos} (hi : X.N[i]? = some x := by rfl) (hx : Loc X.env.scope x := by first | exact Or.inl rfl | exact Or.inr rfl)
    (hf : X.fn x = true ∨ X.env.scope.names.lookup x = some .local := by first | exact .inl rfl | exact .inr rfl | assumption) : NmT X (.Name x pos) i := ⟨_, _, rfl, hi, hx, hf⟩
theorem dp_items {K : PySem.W.Frag} {F G H : Hp} {v : V} {xs : List PyData} (b : Bs F G H) (h : Dq K F v (.tuple xs)) : ∃ a vs, v = .ref a ∧ TupAt K F a vs ∧ Dqs K F vs xs := by
  cases h with
  | tup hs ha => exact ⟨_, _, rfl, hs, ha⟩
theorem dpa_len {K : PySem.W.Frag} {F : Hp} : ∀ {vs : List V} {xs : List PyData}, Dqs K F vs xs → vs.length = xs.length
  | [], _, h => by cases h; rfl
  | _ :: _, _, h => by
    cases h with
    | cons h1 h2 => simp [dpa_len h2]
/-- several names -/
inductive NmTs (X : Cx) : List Expr → List Nat → Prop
  | nil : NmTs X [] []
  | cons {e : Expr} {es : List Expr} {i : Nat} {is : List Nat} : NmT X e i → NmTs X es is → NmTs X (e :: es) (i :: is)
theorem names_run (hN : X.N.Nodup) {js : List Nat} : ∀ {es : List Expr} {is : List Nat} {vs : List V} {xs : List PyData} {env : Env} {F G H : Hp} {σ : L2.St}, NmTs X es is → (∀ i ∈ is, i ∈ js) → Rp X.K F G H σ env → Dqs X.K F vs xs → xs.length = es.length →
    ∃ t, PGs X es t ∧ ∀ Q : L2.St → Hp → Prop, (∀ σ', Rp X.K F G H σ' (setAll is xs env) → wipe σ' js = wipe σ js → Q σ' H) → t vs σ H Q
  | [], _, vs, xs, env, F, G, H, σ, n, _, R, d, hl => by
    cases n
    cases xs with
    | nil =>
      cases d
      exact ⟨_, pgs_nil, fun Q q => ⟨rfl, q σ R rfl⟩⟩
    | cons x xs => simp at hl
  | e :: es, _, vs, xs, env, F, G, H, σ, n, hj, R, d, hl => by
    cases n with
    | @cons _ _ i is n1 n2 =>
      obtain ⟨x, pos, rfl, hi, hx, hf⟩ := n1.ex
      cases d with
      | nil => simp at hl
      | @cons v vs d ds d1 d2 =>
        have R1 := R.set (i := i) (.d (G := G) (H := H) (env := env) d1)
        obtain ⟨t, p, k⟩ := names_run hN n2 (fun i hi => hj i (List.mem_cons_of_mem _ hi)) R1 d2 (by simpa using hl)
        exact ⟨_, pgs_cons (pg_name hN hi hx hf) p (by rfl), fun Q q => ⟨v, vs, rfl, k Q fun σ' R' w => q σ' R' (w.trans (wipe_set (hj i List.mem_cons_self)))⟩⟩
theorem nmTs_len {es : List Expr} {is : List Nat} (n : NmTs X es is) : (assignEach es X.env).length = es.length ∧ (assignEach es X.env).findIdx? (·.1) = none := by
  induction n with
  | nil => exact ⟨rfl, rfl⟩
  | cons h1 h2 ih =>
    obtain ⟨x, pos, rfl, _⟩ := h1.ex
    refine ⟨?_, ?_⟩
    · show (_ :: assignEach _ X.env).length = _
      simp [ih.1]
    · show ((false, _) :: assignEach _ X.env).findIdx? (·.1) = none
      simp [List.findIdx?_cons, ih.2]
theorem vg_tup {k : Nat} {xs : List PyData} (n : NmTs X es is) (hl : xs.length = es.length) (q : Q (setAll is xs env)) (hc : X.calm = true := by rfl) (hN : X.N.Nodup := by assumption) : VGt X (.Tuple es k pos) is (.row xs) env Q := fun F G H σ v Rq q1 => by
  obtain ⟨a, vs, rfl, hs, ha⟩ := q1
  obtain ⟨l1, l2⟩ := nmTs_len n
  obtain ⟨t, p, kk⟩ := names_run hN n (fun i hi => hi) Rq ha hl
  exact wG_of (pg_tup hc p l1 l2) ⟨a, vs, rfl, hs, by rw [dpa_len ha, hl], kk _ fun σ' R' w => ⟨F, _, .refl _, R', w, q⟩⟩
theorem vg_row {xs : List PyData} (h : VGt X tg is (.row xs) env Q) : VGt X tg is (it (.tuple xs)) env Q := fun F G H σ v Rq q1 => by
  obtain ⟨a, vs, rfl, hs, ha⟩ := dp_items Rq.bs q1.rp
  exact h F G H σ _ Rq ⟨a, vs, rfl, (hs.up Rq.bs.fh).sq, ha⟩

/-! ### 10. assignments -/
theorem vs_asg (is : List Nat) (h : VE X e env fun r e1 => ∃ t e2, Take e1 r t e2 ∧ VGt X tg is (.one t) e2 D.nx) (hs : swapsWithSole [tg] e pos.line X.env = pure false := by rfl) (hw : swappedStores [tg] e X.env = pure none := by rfl)
    (h1 : (assignEach [tg] X.env).map (·.2) = [assign tg X.env] := by rfl) : VS X (.Assign [tg] e pos) env D := fun F G H σ Rq =>
  wS_of (ps_asg pe_w pg_w hs hw h1) ((h F G H σ Rq).imp fun v H1 ⟨F1, r, e1, s, R1, q1, t, e2, k, z⟩ => by
    obtain ⟨R2, q2⟩ := k.to R1 q1
    exact (z F1 G H1 σ v R2 q2).imp fun σ' H' ⟨F', env', s', R', _, q⟩ => ⟨F', env', s.trans s', R', q⟩)
theorem vs_set (i : Nat) {x : Str} {pos' : Pos} (h : VE X e env fun r e1 => ∃ t e2, Take e1 r t e2 ∧ D.nx (e2.set i (some t))) (hN : X.N.Nodup := by assumption) (hi : X.N[i]? = some x := by rfl) (hx : Loc X.env.scope x := by first | exact Or.inl rfl | exact Or.inr rfl)
    (hs : swapsWith e (some (.Name x pos')) pos.line X.env = pure false := by rfl) (hf : X.fn x = true ∨ X.env.scope.names.lookup x = some .local := by first | exact .inl rfl | exact .inr rfl | assumption) : VS X (.Assign [.Name x pos'] e pos) env D := fun F G H σ Rq =>
  wS_of (ps_set hN hi hx pe_w hs hf) ((h F G H σ Rq).imp fun v H1 ⟨F1, r, e1, s, R1, q1, t, e2, k, z⟩ => by
    obtain ⟨R2, q2⟩ := k.to R1 q1
    exact ⟨F1, _, s, R2.set q2, z⟩)
/-- x, y = a, b with two local names -/
theorem vs_par (i j : Nat) {x y : Str} {px py pt : Pos} {kt k2 pt2} (h : VEs X [a, b] env fun rs e1 => ∃ t u, rs = [.own t, .own u] ∧ D.nx ((e1.set i (some t)).set j (some u)))
    (hw : swappedStores [.Tuple [.Name x px, .Name y py] kt pt] (.Tuple [a, b] k2 pt2) X.env = pure (some [x, y]) := by rfl) (hij : i ≠ j := by decide) (hc : X.calm = true := by rfl) (hN : X.N.Nodup := by assumption) (hi : X.N[i]? = some x := by rfl) (hj : X.N[j]? = some y := by rfl)
    (hx : X.env.scope.names.lookup x = some .local := by rfl) (hy : X.env.scope.names.lookup y = some .local := by rfl)
    (hs : swapsWithSole [.Tuple [.Name x px, .Name y py] kt pt] (.Tuple [a, b] k2 pt2) pos.line X.env = pure false := by rfl) :
    VS X (.Assign [.Tuple [.Name x px, .Name y py] kt pt] (.Tuple [a, b] k2 pt2) pos) env D := fun F G H σ Rq =>
  wS_of (ps_par hc hN hi hj hij hx hy pa_w hw hs) ((h F G H σ Rq).imp fun vs H1 ⟨F1, rs, e1, s, R1, q1, t, u, er, z⟩ => by
    subst er
    obtain ⟨⟨v, r1, ev, h1, ⟨w, r2, ew, h2, h3⟩⟩, nd, fr⟩ := q1
    have h3' : r2 = [] := h3
    subst h3'
    subst ew
    subst ev
    have nd' : (nodes t ++ (nodes u ++ [])).Nodup := nd
    rw [List.append_nil] at nd'
    obtain ⟨n1, n2, n3⟩ := List.nodup_append.mp nd'
    have q2 : Vr X.K F1 G H1 e1 v t := ⟨h1, n1, fun p hp => fr p (List.mem_append_left _ hp)⟩
    have q3 : Vr X.K F1 G H1 (e1.set i (some t)) w u := ⟨h2, n2, fun p hp => by
      have hp' : p ∈ rnodesL [R.own t, R.own u] := List.mem_append_right _ (List.mem_append_left _ hp)
      refine ⟨fun hm => ?_, (fr p hp').2⟩
      rcases mem_setE hm with hm | hm
      · exact n3 p hm p hp rfl
      · exact (fr p hp').1 hm⟩
    exact ⟨v, w, rfl, F1, _, s, (R1.set q2).set q3, z⟩)

/-! ### 11. loops -/
/-- what is walked: its items, on what it leans -/
def JOk (K : PySem.W.Frag) (F1 : Hp) (J : It) (xs : List Itm) (C : Env → Prop) : Prop := ∀ F' G' H' σ' e' i, Same F1 F' → Rp K F' G' H' σ' e' → C e' →
  (∀ x, xs[i]? = some x → itn x ∧ J.go i H' ∧ ∀ v H'', J.yld i H' v H'' → ∃ F'', Gw F' G' H' F'' H'' ∧ ItR K F'' G' H'' e' v x) ∧ (xs.length ≤ i → J.stop i H')
def VI (X : Cx) (tg iter : Expr) (env : Env) (Q : List Itm → (Env → Prop) → Env → Prop) : Prop := ∃ wi, PI X tg iter wi ∧ ∀ F G H σ, Rp X.K F G H σ env →
  ∀ S : It → Hp → Prop, (∀ J H1 F1 xs C e1, Same F F1 → Rp X.K F1 G H1 σ e1 → JOk X.K F1 J xs C → Q xs C e1 → S J H1) → wi σ H S
theorem vs_for (is : List Nat) (h : VI X tg iter env fun xs C e1 => ∃ I : Nat → Env → Prop, I 0 e1 ∧ (∀ i e, I i e → C e) ∧ (∀ i x e, xs[i]? = some x → I i e → VGt X tg is x e fun e2 => VSs X body e2 { D with nx := I (i + 1), ct := I (i + 1), bk := D.nx }) ∧ ∀ e, I xs.length e → D.nx e)
    (hp : PassesOwn (model X.prog X.w) X.A X.env X.xe := by exact PassesOwn.never) (hc : X.calm = true := by rfl) (hs : ∀ x, foldedSetIterable iter X.env x = pure x := by intro _; rfl) : VS X (.For tg iter body [] pos) env D := fun F G H σ Rq => by
  obtain ⟨wi, pi, k⟩ := h
  refine wS_of (ps_for hp hc pi pg_w pss_w hs) (k F G H σ Rq _ fun J H1 F1 xs C e1 s1 R1 jok ⟨I, h0, hC, ht, hd⟩ => ?_)
  refine ⟨fun i m σ H2 => i + m = xs.length ∧ ∃ F2 e, Same F1 F2 ∧ Rp X.K F2 G H2 σ e ∧ I i e, ⟨xs.length, by omega, F1, e1, .refl _, R1, h0⟩, fun i m σ2 H2 ⟨em, F2, e2, s2, R2, hI⟩ => ?_⟩
  obtain ⟨j1, j2⟩ := jok F2 G H2 σ2 e2 i s2 R2 (hC _ _ hI)
  cases ex : xs[i]? with
  | none =>
    have hi : xs.length ≤ i := List.getElem?_eq_none_iff.mp ex
    have ei : i = xs.length := by omega
    subst ei
    exact .inl ⟨j2 hi, F2, e2, s1.trans s2, R2, hd _ hI⟩
  | some x =>
    have hi : i < xs.length := (List.getElem?_eq_some_iff.mp ex).1
    obtain ⟨_, go, yl⟩ := j1 x ex
    refine .inr ⟨go, fun σ' H' => ∃ F2 e, Same F1 F2 ∧ Rp X.K F2 G H' σ' e ∧ I (i + 1) e, fun σ' H' z => ⟨m - 1, by omega, by omega, z⟩, fun v H3 hy => ?_⟩
    obtain ⟨F3, g, dv⟩ := yl v H3 hy
    have R3 := R2.grow g
    refine ((ht i x e2 ex hI) F3 G H3 σ2 v R3 dv).imp fun σ4 H4 ⟨F4, e4, s4, R4, _, z⟩ => ?_
    have s14 : Same F1 F4 := (s2.trans g.ff).trans s4
    exact (z F4 G H4 σ4 R4).imp (fun σ H ⟨F', e, s', R', q⟩ => ⟨F', e, s14.trans s', R', q⟩) (fun v H ⟨F', t, e, σ, s', q⟩ => ⟨F', t, e, σ, (s1.trans s14).trans s', q⟩)
      (fun σ H ⟨F', e, s', q⟩ => ⟨F', e, (s1.trans s14).trans s', q⟩) (fun σ H ⟨F', e, s', R', q⟩ => ⟨F', e, s14.trans s', R', q⟩)
/-- while: I with a measure -/
theorem vs_while (I : Nat → Env → Prop) (h0 : ∃ m, I m env) (h : ∀ m e, I m e → VT X c e fun b e1 => if b = true then VSs X body e1 { D with nx := fun e2 => ∃ m', m' < m ∧ I m' e2, ct := fun e2 => ∃ m', m' < m ∧ I m' e2, bk := D.nx } else D.nx e1)
    (hp : PassesOwn (model X.prog X.w) X.A X.env X.xe := by exact PassesOwn.never) : VS X (.While c body [] pos) env D := fun F G H σ Rq => by
  refine wS_of (ps_while hp pt_w pss_w) ⟨fun m σ H2 => ∃ F2 e, Same F F2 ∧ Rp X.K F2 G H2 σ e ∧ I m e, ?_, fun m σ2 H2 ⟨F2, e2, s2, R2, hI⟩ => ?_⟩
  · obtain ⟨m, hm⟩ := h0
    exact ⟨m, F, env, .refl _, Rq, hm⟩
  · refine (h m e2 hI F2 G H2 σ2 R2).imp fun b H3 ⟨F3, e3, s3, R3, z⟩ => ?_
    have s13 := s2.trans s3
    cases b with
    | false => exact ⟨F3, e3, s13, R3, z⟩
    | true =>
      refine ⟨fun σ' H' => ∃ m', m' < m ∧ ∃ F2 e, Same F F2 ∧ Rp X.K F2 G H' σ' e ∧ I m' e, fun σ' H' z => z, ?_⟩
      exact ((show VSs X body e3 _ from z) F3 G H3 σ2 R3).imp (fun σ H ⟨F', e, s', R', m', hm, q⟩ => ⟨m', hm, F', e, s13.trans s', R', q⟩) (fun v H ⟨F', t, e, σ, s', q⟩ => ⟨F', t, e, σ, s13.trans s', q⟩)
        (fun σ H ⟨F', e, s', q⟩ => ⟨F', e, s13.trans s', q⟩) (fun σ H ⟨F', e, s', R', m', hm, q⟩ => ⟨m', hm, F', e, s13.trans s', R', q⟩)

/-! ### 12. list comprehensions -/
def wTs (X : Cx) (ifs : List Expr) : TT := fun σ H Q => ∀ (pins : List (Addr × Obj)) (s : Shared), Inv X pins σ H s →
  wpAny (model X.prog X.w) X.A (forIn ifs true fun c r => if r = true then do let ok ← isTrue c X.env (eval c X.env); pure (ForInStep.yield ok) else pure (ForInStep.yield r)) (TP X pins σ Q) X.xe s
theorem pts_w {ifs : List Expr} : PTs X ifs (wTs X ifs) := ⟨fun pins s σ H Q I h => h pins s I⟩
def VTs (X : Cx) (ifs : List Expr) (env : Env) (Q : Bool → Env → Prop) : Prop := ∀ F G H σ, Rp X.K F G H σ env → wTs X ifs σ H (PB X.K F G σ Q)
theorem vts_nil {Q : Bool → Env → Prop} (h : Q true env) : VTs X [] env Q := fun F G H σ Rq pins s I => pts_nil.run pins s σ H _ I ⟨F, env, .refl _, Rq, h⟩
theorem vts_one {Q : Bool → Env → Prop} (h : VT X c env Q) : VTs X [c] env Q := fun F G H σ Rq pins s I => (pts_one pt_w).run pins s σ H _ I (h F G H σ Rq)
def wipeE (env : Env) : List Nat → Env
  | [] => env
  | v :: vs => (wipeE env vs).set v none
end
theorem Rp.wipe {K : PySem.W.Frag} {F G H : Hp} {σ : L2.St} {env : Env} (R : Rp K F G H σ env) : ∀ is : List Nat, Rp K F G H (L2.wipe σ is) (wipeE env is)
  | [] => R
  | i :: is => by
    have h := R.wipe is
    exact ⟨h.bs, nodup_dropE h.nd, fun p hp => h.fr p (mem_dropE hp), h.re.set (a := none) (o := none) trivial i⟩
theorem RE.unset {K : PySem.W.Frag} {F H : Hp} {i : Nat} : ∀ {σ : L2.St} {env : Env}, RE K F H (σ.set i none) env → RE K F H σ (env.set i none) := by
  intro σ
  induction σ generalizing i with
  | nil =>
    intro env h
    cases env with
    | nil => exact h
    | cons o r => exact h.elim
  | cons a σ ih =>
    intro env h
    cases env with
    | nil => cases i <;> exact h.elim
    | cons o r =>
      cases i with
      | zero => exact ⟨by cases a <;> trivial, h.2⟩
      | succ i => exact ⟨h.1, ih h.2⟩
theorem Rp.unwipe {K : PySem.W.Frag} {F G H : Hp} : ∀ {is : List Nat} {σ : L2.St} {env : Env}, Rp K F G H (L2.wipe σ is) env → Rp K F G H σ (wipeE env is.reverse)
  | [], _, _, R => R
  | i :: is, σ, env, R => by
    have h : Rp K F G H (L2.wipe σ is) (env.set i none) := ⟨R.bs, nodup_dropE R.nd, fun p hp => R.fr p (mem_dropE hp), R.re.unset⟩
    have h2 := Rp.unwipe h
    have e : ∀ (js : List Nat) (e0 : Env), wipeE e0 (js ++ [i]) = wipeE (e0.set i none) js := by
      intro js
      induction js with
      | nil => intro e0; rfl
      | cons j js ih => intro e0; show (wipeE e0 (js ++ [i])).set j none = _; rw [ih]; rfl
    rw [List.reverse_cons, e]
    exact h2
end VL

/-! text VL6 -/
set_option Elab.async false
set_option linter.all false
set_option maxRecDepth 100000
set_option maxHeartbeats 2000000
namespace VL
open PySem PySem.Spec L2

theorem Bs.write {F G H : Hp} (b : Bs F G H) {p : Addr} (nF : F p = none) (nG : G p = none) (k : Kd) (vs : List V) : Bs F G (upd H p (k.ho vs)) := by
  refine ⟨fun c o h => ?_, fun c o h => ?_, b.gf⟩
  · rw [upd_ne (ne_of_none h nF)]; exact b.fh _ _ h
  · rw [upd_ne (ne_of_none h nG)]; exact b.gh _ _ h
theorem Rp.write {K : PySem.W.Frag} {F G H : Hp} {σ : L2.St} {env : Env} (R : Rp K F G H σ env) {p : Addr} (nE : p ∉ nodesE env) (nF : F p = none) (nG : G p = none) (k : Kd) (vs : List V) : Rp K F G (upd H p (k.ho vs)) σ env :=
  ⟨R.bs.write nF nG k vs, R.nd, R.fr, R.re.frame (.refl _) fun a ha => upd_ne fun e => nE (e ▸ ha)⟩
theorem Vr.push {K : PySem.W.Frag} {F G H : Hp} {env : Env} {p : Addr} {ts : List T} {t : T} {v : V} {vs : List V} (q : Vr K F G H env (.ref p) (.nd p .lst ts)) (hv : H p = some (.lst vs)) (h : Vr K F G H env v t) (d : ∀ a ∈ nodes t, a ∉ nodes (.nd p .lst ts)) :
    Vr K F G (upd H p (.lst (vs ++ [v]))) env (.ref p) (.nd p .lst (ts ++ [t])) := by
  obtain ⟨⟨_, us, hp, _, hr⟩, nd, fr⟩ := q
  have e : vs = us := by
    have z := hv.symm.trans hp
    exact HO.lst.inj (Option.some.inj z)
  subst e
  obtain ⟨n1, n2⟩ := List.nodup_cons.mp (show (p :: nodesL ts).Nodup from nd)
  have hn : nodesL (ts ++ [t]) = nodesL ts ++ nodes t := by
    rw [nodesL_app]
    show nodesL ts ++ (nodes t ++ []) = _
    rw [List.append_nil]
  have pt : p ∉ nodes t := fun z => d p z List.mem_cons_self
  refine ⟨⟨rfl, vs ++ [v], upd_same, trivial, reps_app (reps_frame (.refl _) ts vs (fun a ha => upd_ne fun e => n1 (e ▸ ha)) hr) ⟨v, [], rfl, rep_frame (.refl _) t v (fun a ha => upd_ne fun e => pt (e ▸ ha)) h.rp, rfl⟩⟩, ?_, fun a ha => ?_⟩
  · show (p :: nodesL (ts ++ [t])).Nodup
    rw [hn]
    refine List.nodup_cons.mpr ⟨fun z => ?_, nodup_app n2 h.nd fun a h1 h2 => d a h2 (List.mem_cons_of_mem _ h1)⟩
    rcases List.mem_append.mp z with z | z
    · exact n1 z
    · exact pt z
  · have ha' : a ∈ p :: (nodesL ts ++ nodes t) := by
      rw [← hn]
      exact ha
    rcases List.mem_cons.mp ha' with rfl | ha'
    · exact fr _ List.mem_cons_self
    · rcases List.mem_append.mp ha' with ha' | ha'
      · exact fr a (List.mem_cons_of_mem _ ha')
      · exact h.fr a ha'

theorem wipe_wipe (is : List Nat) : ∀ (js : List Nat) (τ : L2.St), (∀ j ∈ js, j ∈ is) → L2.wipe (L2.wipe τ js) is = L2.wipe τ is
  | [], _, _ => rfl
  | j :: js, τ, hj => by
    show L2.wipe ((L2.wipe τ js).set j none) is = _
    rw [wipe_set (hj j List.mem_cons_self), wipe_wipe is js τ fun a ha => hj a (List.mem_cons_of_mem _ ha)]
theorem mem_wipeE {p : Addr} : ∀ (js : List Nat) {e : Env}, p ∈ nodesE (wipeE e js) → p ∈ nodesE e
  | [], _, z => z
  | j :: js, _, z => mem_wipeE js (mem_dropE z)
theorem it_lend {K : PySem.W.Frag} {F G H : Hp} {env : Env} {v : V} {as : List Addr} : ∀ {x : Itm}, itn x → ItR K F G H env v x → ItR K F (gAdd G H as) H env v x
  | .one t, n, h => ⟨h.rp, h.nd, fun p hp => by rw [show nodes t = [] from n] at hp; cases hp⟩
  | .row xs, _, h => h
structure BP where
  s : Shared
  H : Hp
  C : Addr
  cl : List (Str × Addr)
  fp : List Addr
abbrev bk (X : Cx) (scope : Scope) (p : BP) : Cx := X.blk p.s p.H scope (compEnvC scope p.cl p.C X.env) p.fp
section
variable {X : Cx} {env : Env} {Q : R → Env → Prop} {D : Dn} {elt tg iter : Expr} {ifs : List Expr} {scope : Scope} {pos : Pos} {is : List Nat}
/-- the question of a comprehension: I by the turn, the items so far, the slots -/
def LcQ (X : Cx) (scope : Scope) (is : List Nat) (tg : Expr) (ifs : List Expr) (elt : Expr) (Q : R → Env → Prop) (xs : List Itm) (C : Env → Prop) (e1 : Env) : Prop :=
  ∃ I : Nat → List T → Env → Prop, I 0 [] (wipeE e1 is) ∧ (∀ i acc e, I i acc e → C e ∧ (i < xs.length → acc.length < sizeLine)) ∧
    (∀ i x acc e, xs[i]? = some x → I i acc e → ∀ p1, VGt (bk X scope p1) tg is x e fun e2 => ∀ p2, VTs (bk X scope p2) ifs e2 fun b e3 =>
      if b = true then ∀ p3, VE (bk X scope p3) elt e3 fun r e4 => ∃ t e5, Take e4 r t e5 ∧ I (i + 1) (acc ++ [t]) (wipeE e5 is) else I (i + 1) acc (wipeE e3 is)) ∧
    ∀ acc e, I xs.length acc e → ∀ p, Q (.own (.nd p .lst acc)) (wipeE e is.reverse)
theorem lc_read {wi : TI} {F G H : Hp} {σ : L2.St} {QV : VK} (hQ : ∀ v H', PV X.K F G σ Q v H' → QV v H')
    (k : ∀ S : It → Hp → Prop, (∀ J H1 F1 xs C e1, Same F F1 → Rp X.K F1 G H1 σ e1 → JOk X.K F1 J xs C → LcQ X scope is tg ifs elt Q xs C e1 → S J H1) → wi σ H S) :
    tLc wi (fun v σ H Q => ∀ p, wG (bk X scope p) tg v σ H Q) (fun σ H Q => ∀ p, wTs (bk X scope p) ifs σ H Q) (fun σ H Q => ∀ p, wE (bk X scope p) elt σ H Q) is σ H QV := by
  refine k _ fun J H1 F1 xs C e1 s1 R1 jok ⟨I, h0, hC, ht, hd⟩ D hD => ?_
  have nF1 : F1 D = none := none_of R1.bs.fh hD
  have nG : G D = none := none_of R1.bs.gh hD
  refine ⟨fun i m Hc => i + m = xs.length ∧ ∃ F2 e acc, Same F1 F2 ∧ Rp X.K F2 G Hc (L2.wipe σ is) e ∧ Vr X.K F2 G Hc e (.ref D) (.nd D .lst acc) ∧ I i acc e, ⟨xs.length, by omega, F1, wipeE e1 is, [], .refl _, ?_, ?_, h0⟩, fun i m Hc ⟨em, F2, e2, acc, s2, R2, q2, hI⟩ => ?_⟩
  · have g : Gw F1 G H1 F1 (upd H1 D (Kd.lst.ho [])) := Gw.own R1.bs hD .lst []
    exact (R1.grow g).wipe is
  · refine ⟨⟨rfl, [], upd_same, trivial, rfl⟩, List.nodup_cons.mpr ⟨(by intro z; cases z), List.nodup_nil⟩, fun p hp => ?_⟩
    rcases List.mem_cons.mp hp with rfl | hp
    · refine ⟨fun hm => ?_, nF1, nG⟩
      obtain ⟨kk, vs, z⟩ := (R1.wipe is).re.there p hm
      rw [hD] at z
      cases z
    · cases hp
  · obtain ⟨c1, c2⟩ := hC _ _ _ hI
    obtain ⟨j1, j2⟩ := jok F2 G Hc _ e2 i s2 R2 c1
    cases ex : xs[i]? with
    | none =>
      have hi : xs.length ≤ i := List.getElem?_eq_none_iff.mp ex
      have ei : i = xs.length := by omega
      subst ei
      refine .inl ⟨j2 hi, hQ _ _ ⟨F2, .own (.nd D .lst acc), wipeE e2 is.reverse, s1.trans s2, R2.unwipe, Rr.own ⟨q2.rp, q2.nd, fun p hp => ⟨fun hm => (q2.fr p hp).1 (mem_wipeE _ hm), (q2.fr p hp).2⟩⟩, hd _ _ hI D⟩⟩
    | some x =>
      have hi : i < xs.length := (List.getElem?_eq_some_iff.mp ex).1
      obtain ⟨nx, go, yl⟩ := j1 x ex
      refine .inr ⟨go, fun H' => ∃ F2 e acc, Same F1 F2 ∧ Rp X.K F2 G H' (L2.wipe σ is) e ∧ Vr X.K F2 G H' e (.ref D) (.nd D .lst acc) ∧ I (i + 1) acc e, fun H' z => ⟨m - 1, by omega, by omega, z⟩, fun v H3 hy p1 => ?_⟩
      obtain ⟨F3, g, dv⟩ := yl v H3 hy
      have R3 := R2.grow g
      have q3 := q2.grow g
      obtain ⟨R3', fin⟩ := lend_step (.refl _) R3 (Rr.own q3)
      refine ((ht i x acc e2 ex hI p1) F3 _ H3 _ v R3' (it_lend nx dv)).imp fun σ4 H4 ⟨F4, e4, s4, R4, w4, z4⟩ => ⟨?_, fun p2 => ?_⟩
      · rw [w4]
        exact wipe_wipe is is σ fun j hj => hj
      · have w4' : L2.wipe σ4 is = L2.wipe σ is := by
          rw [w4]
          exact wipe_wipe is is σ fun j hj => hj
        intro pins s' I'
        refine thn (z4 p2 F4 _ H4 σ4 R4 pins s' I') fun b s'' ⟨H5, I5, F5, e5, s5, R5, z5⟩ => ⟨H5, I5, ?_⟩
        have s15 : Same F1 F5 := ((s2.trans g.ff).trans s4).trans s5
        cases b with
        | false =>
          obtain ⟨y1, y2, y3, _⟩ := fin (s4.trans s5) R5
          have R6 := y2.wipe is
          rw [w4'] at R6
          refine ⟨F5, _, acc, s15, R6, ⟨y3.rp, y3.nd, fun p hp => ⟨fun hm => (y3.fr p hp).1 (mem_wipeE _ hm), (y3.fr p hp).2⟩⟩, z5⟩
        | true =>
          intro p3
          refine ((show ∀ p3, VE (bk X scope p3) elt e5 _ from z5) p3 F5 _ H5 σ4 R5).imp fun y H6 ⟨F6, r, e6, s6, R6, q6, t, e7, tk, z6⟩ => ?_
          obtain ⟨R7, q7⟩ := tk.to R6 q6
          obtain ⟨y1, y2, y3, y4⟩ := fin ((s4.trans s5).trans s6) R7
          obtain ⟨vs, hv, _, hr⟩ := (show rep _ _ _ (.nd D .lst acc) (.ref D) from y3.rp).2
          have yD := y3.fr D List.mem_cons_self
          have lv : vs.length = acc.length := reps_len hr
          have qt : Vr X.K F6 G H6 e7 y t := ⟨q7.rp, q7.nd, fun p hp => ⟨(q7.fr p hp).1, (q7.fr p hp).2.1, by
            have h3 := (q7.fr p hp).2.2
            by_cases hm : p ∈ rnodes (R.own (.nd D .lst acc))
            · exact absurd h3 (y4 p hm)
            · rw [gAdd_out hm] at h3; exact h3⟩⟩
          have dj : ∀ a ∈ nodes t, a ∉ nodes (.nd D .lst acc) := fun a ha hb => y4 a hb (q7.fr a ha).2.2
          have Rw := (y2.write yD.1 yD.2.1 yD.2.2 .lst (vs ++ [y])).wipe is
          rw [w4'] at Rw
          have qp := Vr.push y3.vr hv qt dj
          refine ⟨vs, hv, by rw [lv]; exact c2 hi, F6, _, acc ++ [t], s15.trans s6, Rw, ⟨qp.rp, qp.nd, fun p hp => ⟨fun hm => (qp.fr p hp).1 (mem_wipeE _ hm), (qp.fr p hp).2⟩⟩, z6⟩
theorem blk_wG : ∀ (s : Shared) (H : Hp) (C : Addr) (cl : List (Str × Addr)) (fp : List Addr), PG (X.blk s H scope (compEnvC scope cl C X.env) fp) tg (fun v σ H Q => ∀ p, wG (bk X scope p) tg v σ H Q) :=
  fun s H C cl fp => ⟨fun pins s' σ H' v u Q I r h => h ⟨s, H, C, cl, fp⟩ pins s' u I r⟩
theorem blk_wT : ∀ (s : Shared) (H : Hp) (C : Addr) (cl : List (Str × Addr)) (fp : List Addr), PTs (X.blk s H scope (compEnvC scope cl C X.env) fp) ifs (fun σ H Q => ∀ p, wTs (bk X scope p) ifs σ H Q) :=
  fun s H C cl fp => ⟨fun pins s' σ H' Q I h => h ⟨s, H, C, cl, fp⟩ pins s' I⟩
theorem blk_wE : ∀ (s : Shared) (H : Hp) (C : Addr) (cl : List (Str × Addr)) (fp : List Addr), PE (X.blk s H scope (compEnvC scope cl C X.env) fp) elt (fun σ H Q => ∀ p, wE (bk X scope p) elt σ H Q) :=
  fun s H C cl fp => ⟨fun pins s' σ H' Q I h => h ⟨s, H, C, cl, fp⟩ pins s' I⟩
/-- [elt for tg in iter if ..]; own: the comprehension's names and slots -/
theorem ve_lc (own : List (Str × Nat)) (h : VI X tg iter env (LcQ X scope (own.map (·.2)) tg ifs elt Q)) (ok : blkC X.N X.env.scope scope own = true := by rfl) (hc : X.calm = true := by rfl) (hN : X.N.Nodup := by assumption)
    (hs : ∀ x, foldedSetIterable iter X.env x = pure x := by intro _; rfl) : VE X (.ListComp elt [⟨tg, iter, ifs, 0⟩] scope pos) env Q := fun F G H σ Rq => by
  obtain ⟨wi, pi, k⟩ := h
  exact wE_of (pe_lc (own := own) hc hN pi (blkOk_by ok) blk_wG blk_wT blk_wE hs) (lc_read (fun _ _ z => z) (k F G H σ Rq))
/-- y = [..] on one line -/
theorem vs_lc (i : Nat) (own : List (Str × Nat)) {y : Str} {py spos : Pos} (h : VI X tg iter env (LcQ X scope (own.map (·.2)) tg ifs elt fun r e1 => ∃ t e2, Take e1 r t e2 ∧ D.nx (e2.set i (some t))))
    (hsw : swapsWith (.ListComp elt [⟨tg, iter, ifs, 0⟩] scope pos) (some (.Name y py)) spos.line X.env = pure true := by exact sw_true rfl rfl rfl (by decide +kernel))
    (ok : blkC X.N X.env.scope scope own = true := by rfl) (hc : X.calm = true := by rfl) (hN : X.N.Nodup := by assumption) (hy : X.N[i]? = some y := by rfl) (hyl : X.env.scope.names.lookup y = some .local := by rfl)
    (hs : ∀ x, foldedSetIterable iter X.env x = pure x := by intro _; rfl) : VS X (.Assign [.Name y py] (.ListComp elt [⟨tg, iter, ifs, 0⟩] scope pos) spos) env D := fun F G H σ Rq => by
  obtain ⟨wi, pi, k⟩ := h
  refine wS_of (ps_setLc (own := own) hc hN hy hyl hsw pi (blkOk_by ok) blk_wG blk_wT blk_wE hs) (lc_read ?_ (k F G H σ Rq))
  intro v H1 ⟨F1, r, e1, s, R1, q1, t, e2, tk, z⟩
  obtain ⟨R2, q2⟩ := tk.to R1 q1
  exact ⟨F1, _, s, R2.set q2, z⟩
end
end VL

/-! text VL7 -/
set_option Elab.async false
set_option linter.all false
set_option maxRecDepth 100000
set_option maxHeartbeats 2000000
namespace VL
open PySem PySem.Spec L2

/-! ### 13. a def's promise over data -/
/-- room, and nothing is shown that is being shown -/
structure RG (k : Nat) (A : Around) : Prop where
  room : Room k A
  gs : A.guards = some []
theorem RG.mono {j k : Nat} {A : Around} (r : RG k A) (h : j ≤ k) : RG j A := ⟨r.room.mono h, r.gs⟩
theorem RG.deeper {k : Nat} {A : Around} (r : RG (k + 1) A) (env : PySem.Env) : RG k (A.deeper env) := ⟨r.room.deeper env, r.gs⟩
/-- arguments, what is wanted of the answer and of the arguments behind the call -/
abbrev Sv := List T → (T → List T → Prop) → Prop
def CQ (K : PySem.W.Frag) (F G : Hp) (vs : List V) (Q : T → List T → Prop) : VK := fun v H' => ∃ F' t ts', Same F F' ∧ Bs F' G H' ∧ Vs K F' G H' [] (v :: vs) (t :: ts') ∧ Q t ts'
structure FnV (P : Program) (w : World) (K : PySem.W.Frag) (mg : Str → Option Value) (base : Heap) (k : Nat) (f : Addr) (fd : FuncData) (ps : List Str) (sp : Sv) : Prop where
  len : ∀ ts Q, sp ts Q → ts.length = ps.length
  run : ∀ (A : Around) (outer : List PySem.Env) (s : Shared) (F G H : Hp) (args : Args) (us : List Value) (vs : List V) (ts : List T) (Q : T → List T → Prop), RG k A → Env0 P w K mg base A outer s H →
    BindsTo s fd args (ps.zip us) → Vals vs us → Bs F G H → Vs K F G H [] vs ts → sp ts Q → codeAny (model P w) A (.call (.ref f) args) (CR CX0 outer P w H s (CQ K F G vs Q) E0) s
theorem FnV.mono {P : Program} {w : World} {K : PySem.W.Frag} {mg : Str → Option Value} {base : Heap} {j k : Nat} {f : Addr} {fd : FuncData} {ps : List Str} {sp : Sv} (q : FnV P w K mg base j f fd ps sp) (h : j ≤ k) : FnV P w K mg base k f fd ps sp :=
  ⟨q.len, fun A outer s F G H args us vs ts Q hr => q.run A outer s F G H args us vs ts Q (hr.mono h)⟩
/-- the arguments as they stand behind the body -/
def Back : List T → Env → List T → Prop
  | [], _, r => r = []
  | .d x :: ts, _ :: e, r => ∃ r', r = .d x :: r' ∧ Back ts e r'
  | .nd p _ _ :: ts, o :: e, r => ∃ k' kids' r', o = some (.nd p k' kids') ∧ r = .nd p k' kids' :: r' ∧ Back ts e r'
  | _ :: _, [], _ => False
theorem back_rep {K : PySem.W.Frag} {F F' H H' : Hp} (s : Same F F') : ∀ {ts : List T} {e : Env} {r : List T} {vs : List V} {σ : L2.St}, Back ts e r → reps K F H ts vs → RE K F' H' σ e → reps K F' H' r vs
  | [], _, _, _, _, b, h, _ => by
    rw [show _ = [] from b]
    exact h
  | .d x :: ts, _ :: e, _, _, [], b, h, q => q.elim
  | .d x :: ts, _ :: e, _, _, a :: σ, b, h, q => by
    obtain ⟨r', rfl, b'⟩ := b
    obtain ⟨v, vs', rfl, h1, h2⟩ := h
    exact ⟨v, vs', rfl, dq_mono s x v h1, back_rep s b' h2 q.2⟩
  | .nd p k0 ks :: ts, o :: e, _, _, [], b, h, q => q.elim
  | .nd p k0 ks :: ts, o :: e, _, _, a :: σ, b, h, q => by
    obtain ⟨k', kids', r', rfl, rfl, b'⟩ := b
    obtain ⟨v, vs', rfl, h1, h2⟩ := h
    cases a with
    | none => exact q.1.elim
    | some v' =>
      have e1 : v' = .ref p := (show rep K F' H' (.nd p k' kids') v' from q.1).1
      have e2 : v = .ref p := (show rep K F H (.nd p k0 ks) v from h1).1
      refine ⟨v, vs', rfl, ?_, back_rep s b' h2 q.2⟩
      rw [e2, ← e1]
      exact q.1
  | .d _ :: _, [], _, _, _, b, _, _ => b.elim
  | .nd _ _ _ :: _, [], _, _, _, b, _, _ => b.elim
theorem back_sub : ∀ {ts : List T} {e : Env} {r : List T}, Back ts e r → (nodesL r).Sublist (nodesE e)
  | [], _, _, b => by
    rw [show _ = [] from b]
    exact List.nil_sublist _
  | .d x :: ts, o :: e, _, b => by
    obtain ⟨r', rfl, b'⟩ := b
    exact (back_sub b').trans (List.sublist_append_right _ _)
  | .nd p _ _ :: ts, o :: e, _, b => by
    obtain ⟨k', kids', r', rfl, rfl, b'⟩ := b
    exact List.Sublist.append (List.Sublist.refl _) (back_sub b')
  | .d _ :: _, [], _, b => b.elim
  | .nd _ _ _ :: _, [], _, b => b.elim
theorem back_fin {K : PySem.W.Frag} {F F' G H H' : Hp} {ts r : List T} {e : Env} {vs : List V} {σ : L2.St} {v : V} {t : T} (s : Same F F') (b : Back ts e r) (h : reps K F H ts vs) (R : Rp K F' G H' σ e) (q : Vr K F' G H' e v t) : Vs K F' G H' [] (v :: vs) (t :: r) := by
  refine ⟨⟨v, vs, rfl, q.rp, back_rep s b h R.re⟩, nodup_app q.nd (R.nd.sublist (back_sub b)) fun a ha hb => (q.fr a ha).1 ((back_sub b).subset hb), fun p hp => ⟨(by intro z; cases z), ?_⟩⟩
  rcases List.mem_append.mp hp with hp | hp
  · exact (q.fr p hp).2
  · exact R.fr p ((back_sub b).subset hp)
theorem back_d : ∀ {xs : List PyData} {e : Env}, xs.length ≤ e.length → Back (xs.map T.d) e (xs.map T.d)
  | [], _, _ => rfl
  | x :: xs, [], h => by simp at h
  | x :: xs, o :: e, h => ⟨_, rfl, back_d (by simpa using h)⟩

def envS (N : List Str) (ts : List T) : Env := ts.map some ++ List.replicate (N.length - ts.length) none
theorem re_start {K : PySem.W.Frag} {F H : Hp} : ∀ {ts : List T} {vs : List V} (n : Nat), reps K F H ts vs → RE K F H (vs.map some ++ List.replicate n none) (ts.map some ++ List.replicate n none)
  | [], _, n, h => by
    rw [show _ = [] from h]
    induction n with
    | zero => exact trivial
    | succ n ih => exact ⟨trivial, ih⟩
  | t :: ts, _, n, h => by
    obtain ⟨v, r, rfl, h1, h2⟩ := h
    exact ⟨h1, re_start n h2⟩
theorem nodesE_start : ∀ (ts : List T) (n : Nat), nodesE (ts.map some ++ List.replicate n none) = nodesL ts
  | [], n => by
    induction n with
    | zero => rfl
    | succ n ih =>
      show [] ++ nodesE (List.replicate n none) = []
      exact ih
  | t :: ts, n => by
    show nodes t ++ nodesE (ts.map some ++ List.replicate n none) = _
    rw [nodesE_start ts n]
    rfl
/-- behind a body -/
def Dn.fn (ts : List T) (Q : T → List T → Prop) : Dn where
  nx := fun e => ∃ r, Back ts e r ∧ Q (.d .none) r
  rt := fun t e => ∃ r, Back ts e r ∧ Q t r
section
variable {P : Program} {w : World} {K : PySem.W.Frag} {mg : Str → Option Value} {base : Heap}
/-- a def of the text by its body over slots of data -/
theorem FnV.of {x qual : Str} {st : Stmt} {f : Addr} {fd : FuncData} {N ps : List Str} {k : Nat} {sp : Sv} (Fu : Fun K x qual st f fd) (S : FnScope N ps (defScope st)) (len : ∀ ts Q, sp ts Q → ts.length = ps.length)
    (hb : ∀ (X : Cx) (ts : List T) (Q : T → List T → Prop), X.prog = P → X.w = w → X.K = K → X.mg = mg → X.base = base → X.N = N → X.calm = true → X.fn = (fun _ => true) → X.xe = (fun _ _ => False) → X.env.scope = defScope st → RG k X.A → sp ts Q →
      (∃ (cdv : Value) (A : Around) (outer : List PySem.Env) (s : Shared) (H : Hp), X = (cxOf CX0 P w K mg base N qual (defScope st) f cdv A outer s H E0).nox) → VSs X (defBody st) (envS N ts) (Dn.fn ts Q)) : FnV P w K mg base (k + 1) f fd ps sp := by
  obtain ⟨oc, od, kV, doc, pm, an, cdv, ct, osl, rfl, lk, hcd⟩ := Fu.ex
  refine ⟨len, fun A outer s F G H args us vs ts Q hr e0 hbd r bs hv hsp => ?_⟩
  have lts := len _ _ hsp
  have lvs : vs.length = ps.length := (reps_len hv.rp).trans lts
  have inK : K.In s.heap := e0.mod.kin.keeps fun b o e => (e0.bs b o e).1
  have lim : s.heap.NoLimit := e0.mod.nolimit.keeps fun b o e => (e0.bs b o e).1
  have kinds : ∀ y ∈ ps.zip us, (defScope st).names.lookup y.1 = some .local ∨ ((defScope st).names.lookup y.1 = some .cell ∧ ((cellsFrom (s.heap.objs.size + 1) (defScope st).names []).lookup y.1).isSome = true) := by
    rintro ⟨n, v⟩ hy
    rcases S.par n (List.of_mem_zip hy).1 with q | q
    · exact Or.inl q
    · exact Or.inr ⟨q, PySem.W.cellsFrom_some _ _ _ (Or.inl q)⟩
  refine codeAny_call_function hr.room.depth (inK _ _ lk) rfl S.co S.gen rfl (PySem.W.codeRec_of inK hcd) (hbd _ _ _ _ ?_)
  refine wpAny_newFunctionEnv_cells S.kind kinds fun env he s1 x => ?_
  subst he
  refine ⟨lim.keeps x.toInCall.keep, codeAny_func ?_⟩
  have I : Inv (cxOf CX0 P w K mg base N qual (defScope st) f cdv A outer s H E0) [] (L2.start N vs) H s1 := inv_start S hr.room.hd e0 lvs r x
  have R : Rp K F G H (L2.start N vs) (envS N ts) := by
    have es : L2.start N vs = vs.map some ++ List.replicate (N.length - ts.length) none := by
      unfold L2.start
      rw [reps_len hv.rp]
    rw [es]
    refine ⟨bs, ?_, fun p hp => ?_, re_start _ hv.rp⟩
    · show (nodesE (ts.map some ++ _)).Nodup
      rw [nodesE_start]
      exact hv.nd
    · have hp' : p ∈ nodesL ts := by
        rw [← nodesE_start]
        exact hp
      exact (hv.fr p hp').2
  have body := (PSs.nox ⟨fun pins s σ H D I h => h pins s I⟩ : PSs (cxOf CX0 P w K mg base N qual (defScope st) f cdv A outer s H E0) (defBody st) (wSs (cxOf CX0 P w K mg base N qual (defScope st) f cdv A outer s H E0).nox (defBody st))).run [] s1 _ H _ I
    (hb _ ts Q rfl rfl rfl rfl rfl rfl rfl rfl rfl rfl (hr.deeper _) hsp ⟨cdv, A, outer, s, H, rfl⟩ F G H _ R)
  refine wpAny_mono body (fun fl s' hs => ?_) fun e s' hs => hs
  have fin : ∀ {σ' : L2.St} {H' : Hp} {v : V} {u : Value}, Inv (cxOf CX0 P w K mg base N qual (defScope st) f cdv A outer s H E0) [] σ' H' s' → RelV v u → CQ K F G vs Q v H' → CE outer P w H s (CQ K F G vs Q) u s' :=
    fun {σ' H' v u} J rv q => ⟨v, H', J.os, J.bare, J.base, J.hok, rv, q⟩
  cases fl with
  | ret u =>
    obtain ⟨v, σ', H', J, rv, F', t, e', σ2, s2, R2, q2, r2, b2, hq⟩ := hs
    exact fin J rv ⟨F', t, r2, s2, R2.bs, back_fin s2 b2 hv.rp R2 q2, hq⟩
  | next =>
    obtain ⟨σ', H', J, F', e', s2, R2, r2, b2, hq⟩ := hs
    exact fin (v := V.non) (u := Value.none) J rfl ⟨F', .d .none, r2, s2, R2.bs, back_fin s2 b2 hv.rp R2 (.d .non), hq⟩
  | brk =>
    obtain ⟨_, _, _, _, _, _, _, q⟩ := hs
    exact False.elim q
  | cont =>
    obtain ⟨_, _, _, _, _, _, _, q⟩ := hs
    exact False.elim q
/-- a name of the module that is a def with a promise -/
structure DefV (P : Program) (w : World) (K : PySem.W.Frag) (mg : Str → Option Value) (base : Heap) (k : Nat) (x : Str) (sp : Sv) : Prop where
  ex : ∃ (f : Addr) (fd : FuncData) (ps : List Str), mg x = some (.ref f) ∧ PySem.W.keepIn K (.ref f) = true ∧ Binds K fd ps [] ∧ FnV P w K mg base k f fd ps sp
theorem DefV.mono {j k : Nat} {x : Str} {sp : Sv} (q : DefV P w K mg base j x sp) (h : j ≤ k) : DefV P w K mg base k x sp := by
  obtain ⟨f, fd, ps, a, b, c, d⟩ := q.ex
  exact ⟨f, fd, ps, a, b, c, d.mono h⟩
theorem FnV.imp {k : Nat} {f : Addr} {fd : FuncData} {ps : List Str} {sp sp' : Sv} (q : FnV P w K mg base k f fd ps sp) (h : ∀ ts Q, sp' ts Q → sp ts Q) : FnV P w K mg base k f fd ps sp' :=
  ⟨fun ts Q z => q.len _ _ (h _ _ z), fun A outer s F G H args us vs ts Q hr e0 hb r b v z => q.run A outer s F G H args us vs ts Q hr e0 hb r b v (h _ _ z)⟩
theorem DefV.imp {k : Nat} {x : Str} {sp sp' : Sv} (q : DefV P w K mg base k x sp) (h : ∀ ts Q, sp' ts Q → sp ts Q) : DefV P w K mg base k x sp' := by
  obtain ⟨f, fd, ps, a, b, c, d⟩ := q.ex
  exact ⟨f, fd, ps, a, b, c, d.imp h⟩
end
section
variable {X : Cx} {env : Env} {Q : R → Env → Prop} {e : Expr} {es : List Expr} {x : Str} {p pos : Pos} {k : Nat} {sp : Sv}
/-- the call by values: the slots' own objects are others' for the callee -/
theorem run_v {f : Addr} {fd : FuncData} {ps : List Str} {pins : List (Addr × Obj)} {σ : L2.St} {F G H : Hp} {s : Shared} {us : List Value} {vs : List V} {ts : List T} {QT : T → List T → Prop} (q : FnV X.prog X.w X.K X.mg X.base k f fd ps sp) (hr : RG k X.A) (hb : Binds X.K fd ps [])
    (I : Inv X pins σ H s) (r : Vals vs us) (b : Bs F G H) (hv : Vs X.K F G H [] vs ts) (h : sp ts QT) : wpAny (model X.prog X.w) X.A (call (.ref f) us) (EP X pins σ (CQ X.K F G vs QT)) X.xe s := by
  have hl : us.length = ps.length := by rw [← r.length, reps_len hv.rp]; exact q.len _ _ h
  have hb' := hb s us I.kIn (by rw [List.append_nil]; exact hl)
  rw [List.append_nil] at hb'
  refine wpAny_call (codeAny_mono (q.run X.A X.stack s F G H ⟨us, []⟩ us vs ts QT hr I.env0 hb' r b hv h) fun res s' hq => ?_)
  cases res with
  | error e => exact False.elim hq
  | ok fl =>
    cases fl with
    | ret u => exact I.after hq
    | next => exact False.elim hq
    | brk => exact False.elim hq
    | cont => exact False.elim hq
theorem vs_own {K : PySem.W.Frag} {F G H : Hp} {σ : L2.St} {env : Env} {vs : List V} {ts : List T} (R : Rp K F G H σ env) (q : Rrs K F G H env vs (ts.map VL.R.own)) : Bs F (gAdd G H (nodesE env)) H ∧ Vs K F (gAdd G H (nodesE env)) H [] vs ts := by
  have hp : ∀ p ∈ nodesL ts, p ∉ nodesE env ∧ F p = none ∧ G p = none := fun p hp => q.fr p (by rw [rnodesL_own]; exact hp)
  refine ⟨⟨R.bs.fh, fun a o h => ?_, fun a o h => ?_⟩, ⟨rreps_own.mp q.rp, by rw [← rnodesL_own]; exact q.nd, fun p h => ⟨(by intro z; cases z), (hp p h).2.1, ?_⟩⟩⟩
  · by_cases hm : a ∈ nodesE env
    · rw [gAdd_in hm] at h; exact h
    · rw [gAdd_out hm] at h; exact R.bs.gh _ _ h
  · by_cases hm : a ∈ nodesE env
    · exact (R.fr a hm).1
    · rw [gAdd_out hm] at h; exact R.bs.gf _ _ h
  · rw [gAdd_out (hp p h).1]
    exact (hp p h).2.2
/-- .. and back -/
theorem own_back {K : PySem.W.Frag} {F F' G H H' : Hp} {σ : L2.St} {env : Env} {vs : List V} {ts : List T} (R : Rp K F G H σ env) (s : Same F F') (b : Bs F' (gAdd G H (nodesE env)) H') (q : Vs K F' (gAdd G H (nodesE env)) H' [] vs ts) :
    Rp K F' G H' σ env ∧ Vs K F' G H' env vs ts := by
  have there : ∀ a ∈ nodesE env, ∃ o, H a = some o := fun a ha => by
    obtain ⟨k, vs, e⟩ := R.re.there a ha
    exact ⟨_, e⟩
  have keep : ∀ a ∈ nodesE env, H' a = H a ∧ F' a = none := fun a ha => by
    obtain ⟨o, e⟩ := there a ha
    have eg : gAdd G H (nodesE env) a = some o := by rw [gAdd_in ha, e]
    exact ⟨by rw [e]; exact b.gh _ _ eg, b.gf _ _ eg⟩
  refine ⟨⟨b.back fun p hp => (R.fr p hp).2, R.nd, fun p hp => ⟨(keep p hp).2, (R.fr p hp).2⟩, R.re.frame s fun a ha => (keep a ha).1⟩, q.rp, q.nd, fun p hp => ?_⟩
  obtain ⟨z1, z2⟩ := gAdd_none (q.fr p hp).2.2 there
  exact ⟨z1, (q.fr p hp).2.1, z2⟩
/-- f(e, ..), all arguments handed over -/
theorem ve_call (C : DefV X.prog X.w X.K X.mg X.base k x sp) (hr : RG k X.A) (h : VEs X (e :: es) env fun rs e1 => ∃ ts : List T, rs = ts.map R.own ∧ sp ts fun t _ => Q (.own t) e1) (hg : Gl X x := by rfl)
    (hdb : (x == ("__debug__" : Str)) = false := by decide) (he : starEach (e :: es) X.env = (false, eval e X.env) :: starEach es X.env := by rfl) (hpl : (backTo pos (starEach es X.env)).any (·.1) = false := by rfl) : VE X (.Call (.Name x p) (e :: es) [] pos) env Q := fun F G H σ Rq pins s I => by
  obtain ⟨f, fd, ps, hm, hk, hb, hf⟩ := C.ex
  refine wpAny_Call_Name_kw (ld_glob I hg hm ?_ hdb)
  refine PySem.W.callWith_K (h₀ := X.base) I.ok.mod.kin hk (thn (h F G H σ Rq pos pins s I) fun us s1 ⟨vs, H1, I1, r, F1, rs, e1, s', R1, q1, ts, ets, z⟩ => ⟨I1.kIn, ?_⟩) he hpl
  subst ets
  obtain ⟨b, hv⟩ := vs_own R1 q1
  refine thn (run_v hf hr hb I1 r b hv z) fun u s2 ⟨v, H2, I2, rv, F2, t, ts', sF, b2, hv2, hq⟩ => ⟨v, H2, I2, rv, F2, .own t, e1, s'.trans sF, ?_⟩
  obtain ⟨R2, q2⟩ := own_back R1 sF b2 hv2
  obtain ⟨⟨_, _, e', h1, _⟩, nd, fr⟩ := q2
  cases e'
  exact ⟨R2, ⟨h1, (List.nodup_append.mp nd).1, fun p hp => fr p (List.mem_append_left _ hp)⟩, hq⟩
/-- f() -/
theorem ve_call0 (C : DefV X.prog X.w X.K X.mg X.base k x sp) (hr : RG k X.A) (h : sp [] fun t _ => Q (.own t) env) (hg : Gl X x := by rfl) (hdb : (x == ("__debug__" : Str)) = false := by decide) : VE X (.Call (.Name x p) [] [] pos) env Q := fun F G H σ Rq pins s I => by
  obtain ⟨f, fd, ps, hm, hk, hb, hf⟩ := C.ex
  refine wpAny_Call_Name_kw (ld_glob I hg hm ?_ hdb)
  obtain ⟨b, hv⟩ := vs_own (ts := []) (vs := []) Rq ⟨rfl, List.nodup_nil, fun p hp => by cases hp⟩
  refine PySem.W.callWith_K0 I.kIn hk (thn (run_v (us := []) hf hr hb I .nil b hv h) fun u s2 ⟨v, H2, I2, rv, F2, t, ts', sF, b2, hv2, hq⟩ => ⟨v, H2, I2, rv, F2, .own t, env, sF, ?_⟩)
  obtain ⟨R2, q2⟩ := own_back Rq sF b2 hv2
  obtain ⟨⟨_, _, e', h1, _⟩, nd, fr⟩ := q2
  cases e'
  exact ⟨R2, ⟨h1, (List.nodup_append.mp nd).1, fun p hp => fr p (List.mem_append_left _ hp)⟩, hq⟩
/-- f(y, ..), y a name whose object the callee may change -/
theorem ve_callL (i : Nat) (C : DefV X.prog X.w X.K X.mg X.base k x sp) (hr : RG k X.A) (h : VEs X (e :: es) env fun rs e1 => ∃ (p : Addr) (kd : Kd) (kids : List T) (ts : List T), rs = .rf p :: ts.map R.own ∧ e1[i]? = some (some (.nd p kd kids)) ∧
      sp (.nd p kd kids :: ts) fun t r => ∃ t1 r', r = t1 :: r' ∧ Q (.own t) (e1.set i (some t1))) (hg : Gl X x := by rfl)
    (hdb : (x == ("__debug__" : Str)) = false := by decide) (he : starEach (e :: es) X.env = (false, eval e X.env) :: starEach es X.env := by rfl) (hpl : (backTo pos (starEach es X.env)).any (·.1) = false := by rfl) : VE X (.Call (.Name x p) (e :: es) [] pos) env Q := fun F G H σ Rq pins s I => by
  obtain ⟨f, fd, ps, hm, hk, hb, hf⟩ := C.ex
  refine wpAny_Call_Name_kw (ld_glob I hg hm ?_ hdb)
  refine PySem.W.callWith_K (h₀ := X.base) I.ok.mod.kin hk (thn (h F G H σ Rq pos pins s I) fun us s1 ⟨vs, H1, I1, r, F1, rs, e1, s', R1, q1, p, kd, kids, ts, ets, ei, z⟩ => ⟨I1.kIn, ?_⟩) he hpl
  subst ets
  obtain ⟨v0, hv0, R1', q0⟩ := R1.take ei
  obtain ⟨⟨va, vr, evs, hva, hvr⟩, nd, fr⟩ := q1
  subst evs
  have eva : va = .ref p := hva
  have ev0 : v0 = .ref p := q0.rp.1
  subst eva
  subst ev0
  have q1' : Rrs X.K F1 G H1 (e1.set i none) (.ref p :: vr) ((T.nd p kd kids :: ts).map R.own) := by
    refine ⟨⟨_, _, rfl, q0.rp, hvr⟩, nodup_app q0.nd nd fun a ha hb => (fr a hb).1 (mem_getE ha ei), fun a ha => ?_⟩
    rcases List.mem_append.mp ha with ha | ha
    · exact q0.fr a ha
    · exact ⟨fun hm => (fr a ha).1 (mem_dropE hm), (fr a ha).2⟩
  obtain ⟨b, hv⟩ := vs_own R1' q1'
  refine thn (run_v hf hr hb I1 r b hv z) fun u s2 ⟨v, H2, I2, rv, F2, t, ts', sF, b2, hv2, t1, r', er, hq⟩ => ⟨v, H2, I2, rv, F2, .own t, e1.set i (some t1), s'.trans sF, ?_⟩
  subst er
  obtain ⟨R2, q2⟩ := own_back R1' sF b2 hv2
  obtain ⟨⟨_, _, e', h1, ⟨_, _, e'', h2, _⟩⟩, nd2, fr2⟩ := q2
  cases e'
  cases e''
  have nd2' : (nodes t ++ (nodes t1 ++ nodesL r')).Nodup := nd2
  obtain ⟨n1, n2, n3⟩ := List.nodup_append.mp nd2'
  have R3 : Rp X.K F2 G H2 σ ((e1.set i none).set i (some t1)) := R2.put hv0 ⟨h2, (List.nodup_append.mp n2).1, fun a ha => fr2 a (List.mem_append_right _ (List.mem_append_left _ ha))⟩
  rw [List.set_set] at R3
  refine ⟨R3, ⟨h1, n1, fun a ha => ⟨fun hm => ?_, (fr2 a (List.mem_append_left _ ha)).2⟩⟩, hq⟩
  have e3 : e1.set i (some t1) = (e1.set i none).set i (some t1) := by rw [List.set_set]
  rw [e3] at hm
  rcases mem_setE hm with hm | hm
  · exact n3 a ha a (List.mem_append_left _ hm) rfl
  · exact (fr2 a (List.mem_append_left _ ha)).1 hm
end
end VL

/-! text VL8 -/
set_option Elab.async false
set_option linter.all false
set_option maxRecDepth 100000
set_option maxHeartbeats 2000000
namespace VL
open PySem PySem.Spec L2

/-! ### 14. the end of a law -/
theorem rg_caller {k : Nat} (h : Room k callerA) : RG k callerA := ⟨h, rfl⟩
theorem law_end {P : Program} {w : World} {K : PySem.W.Frag} {mg mb : Str → Option Value} {k : Nat} {fa a : Addr} {fd : FuncData} {x : Str} {sp : Sv} {s1 : Shared} {vs : List Value} {ns : List Int}
    (KX : K.In s1.heap) (hns : s1.heap.Ns mainGlobals mg) (hb : s1.heap.Ns builtinsNs mb) (hbb : ∀ x : Str, x ≠ "__name__" → mb x = bootBuiltins x) (hlim : s1.heap.NoLimit) (hg : s1.gens = #[])
    (ha : s1.heap.get? a = some { cls := .type "list", data := .seq vs.toArray }) (hi : PyProof.Rows.IntsAre vs ns) (hl : ns.length ≤ sizeLine) (hr : Room k callerA)
    (hF : ∀ base : Heap, K.In base → base.Ns mainGlobals mg → FnV P w K mg base k fa fd [x] sp) (hbind : ∀ (s : Shared) (u : Value), BindsTo s fd ⟨[u], []⟩ [(x, u)])
    (hsp : sp [.d (.list (ns.map .int))] fun t _ => t = .d (.bool true)) :
    codeAny (model P w) callerA (.call (.ref fa) ⟨[.ref a], []⟩) (fun r s' => r = .ok (.ret (.bool true)) ∧ OldK s1.heap s'.heap ∧ s'.os = s1.os ∧ PyProof.Rows.AllBare s'.gens) s1 := by
  have rv : Vals (ns.map V.int) vs := vals_ints hi
  have dpi : ∀ (F : Hp) (ms : List Int), Dqs K F (ms.map V.int) (ms.map PyData.int) := by
    intro F ms
    induction ms with
    | nil => exact .nil
    | cons m ms ih => exact .cons (.int m) ih
  have main : ∀ H : Hp, Only H → LstAt K H a (ns.map V.int) → HOk P w H s1.heap → (∀ b, H b ≠ none → b = a) → (H a ≠ none → K.lookup a = none) →
      codeAny (model P w) callerA (.call (.ref fa) ⟨[.ref a], []⟩) (fun r s' => r = .ok (.ret (.bool true)) ∧ OldK s1.heap s'.heap ∧ s'.os = s1.os ∧ PyProof.Rows.AllBare s'.gens) s1 := by
    intro H hO hS hok hA hK
    have stays : ∀ {b : Addr} {o : Obj} {es : Array DictEntry} {ep : Nat}, s1.heap.get? b = some o → o.data = .dict es ep → H b = none := by
      intro b o es ep e d
      cases q : H b with
      | none => rfl
      | some u =>
        obtain rfl : b = a := hA b (by rw [q]; simp)
        rw [ha] at e
        cases e
        cases (show Data.seq vs.toArray _ = Data.dict es ep from d)
    have nsUp : ∀ {b : Addr} {m : Str → Option Value}, s1.heap.Ns b m → (hidT s1.heap H).Ns b m := by
      rintro b m ⟨o, es, ep, e, d, r⟩
      exact ⟨o, es, ep, hidT_get e (stays e d), d, r⟩
    have inB : K.In (hidT s1.heap H) := by
      intro b o e
      refine hidT_get (KX b o e) ?_
      cases q : H b with
      | none => rfl
      | some u =>
        obtain rfl : b = a := hA b (by rw [q]; simp)
        rw [hK (by rw [q]; simp)] at e
        cases e
    have md : Mod K mg (hidT s1.heap H) := ⟨inB, nsUp hns, ⟨mb, nsUp hb, hbb⟩, (by
      obtain ⟨mc, h1, h2⟩ := hlim
      exact ⟨mc, nsUp h1, h2⟩)⟩
    have e0 : Env0 P w K mg (hidT s1.heap H) callerA [] s1 H := ⟨rfl, md, fun b o e => of_hidT e, Nat.le_of_eq (hidT_size _ _), trivial, fun b hb => absurd (show b ∈ ([] : List Addr) from hb) (by simp), hok, .of_eq hg⟩
    have bs : Bs H (fun _ => none) H := ⟨.refl _, fun b o e => (by cases e), fun b o e => (by cases e)⟩
    have v0 : Vs K H (fun _ => none) H [] [.ref a] [.d (.list (ns.map .int))] := ⟨⟨_, [], rfl, .lst hS (dpi _ _), rfl⟩, List.nodup_nil, fun p hp => by cases hp⟩
    refine codeAny_mono ((hF _ inB (nsUp hns)).run callerA [] s1 H _ H ⟨[.ref a], []⟩ [.ref a] [.ref a] _ _ (rg_caller hr) e0 (hbind s1 (.ref a)) (.cons rfl .nil) bs v0 hsp) fun r s' h => ?_
    cases r with
    | error e => exact False.elim h
    | ok fl =>
      cases fl with
      | next => exact False.elim h
      | brk => exact False.elim h
      | cont => exact False.elim h
      | ret u =>
        obtain ⟨v, H', os, bare, un, hok', r', F', t, ts', _, _, hv, q⟩ := h
        subst q
        obtain ⟨v', _, ev, hd, _⟩ := hv.rp
        cases ev
        cases (show Dq K F' v (.bool true) from hd)
        obtain rfl : u = Value.bool true := r'
        refine ⟨rfl, OldK.of_keep fun b o e => ?_, os, bare⟩
        cases q : H b with
        | none => exact un.keep b o e q (by intro z; exact absurd (show b ∈ ([] : List Addr) from z) (by simp)) (by simp)
        | some u =>
          rcases hO b with z | ⟨ob, xs, z⟩
          · rw [q] at z
            cases z
          · have z2 := un.frzs b ob _ z
            obtain ⟨e1, _⟩ := hok b _ z
            obtain ⟨e2, _⟩ := hok' b _ z2
            rw [e] at e1
            cases e1
            exact e2
  cases hk : K.lookup a with
  | some o =>
    have e := KX a o hk
    rw [ha] at e
    cases e
    exact main (fun _ => none) (fun _ => Or.inl rfl) (Or.inr ⟨vs.toArray, _, hk, by rw [List.size_toArray, hi.length]; exact hl, by simpa using rv⟩) (fun b u z => by
      have z' : (none : Option HO) = some u := z
      cases z') (fun b z => absurd rfl z) fun z => absurd rfl z
  | none =>
    refine main (fun b => if b = a then some (.frz { cls := .type "list", data := .seq vs.toArray } (.lst (ns.map V.int))) else none) (fun b => ?_) (Or.inl (Or.inr ⟨{ cls := .type "list", data := .seq vs.toArray }, if_pos rfl⟩)) (fun b u z => ?_) (fun b z => ?_) fun _ => hk
    · by_cases hb : b = a
      · exact Or.inr ⟨_, _, if_pos hb⟩
      · exact Or.inl (if_neg hb)
    · by_cases hb : b = a
      · have z' := (if_pos hb).symm.trans z
        cases z'
        subst hb
        exact ⟨ha, by rw [List.length_map]; exact hl, vs, _, rv, ha⟩
      · have z' := (if_neg hb).symm.trans z
        cases z'
    · by_cases hb : b = a
      · exact hb
      · exact absurd (if_neg hb) z
theorem law_walk {l : PySem.W.OpenLaw} {n k : Nat} {q : Program} {loose : List Str} {XP : (Str → Option Value) → Heap → Prop} {YP : World → Heap → Prop} {d : DefRec} {x : Str}
    (hn : l.most = some n) (hn2 : n ≤ sizeLine) (hdf : d.params.defaults = []) (hr : Room k callerA)
    (hF : ∀ (w : World) (mg : Str → Option Value) (fa : Addr) (h : Heap), YP w h → h.Ns mainGlobals mg → mg d.name = some (.ref fa) →
      ∃ (K : PySem.W.Frag) (fd : FuncData) (sp : Sv), K.In h ∧ (∀ (s : Shared) (u : Value), BindsTo s fd ⟨[u], []⟩ [(x, u)]) ∧
        (∀ (ns : List Int), ns.length ≤ n → sp [.d (.list (ns.map .int))] fun t _ => t = .d (.bool true)) ∧ ∀ base : Heap, K.In base → base.Ns mainGlobals mg → FnV l.prog w K mg base k fa fd [x] sp) :
    PySem.W.WalkO q loose XP YP l.row.toRowW d [] (fun f vs => PySem.call f vs) := by
  refine Att.attach_call hn hdf fun w s0 s1 mg mb fa o pm cd doc a vs ns G Y ho hd hcd hmg hobj hints hlen hg => ?_
  obtain ⟨K, fd, sp, KX, hb, hsp, hF'⟩ := hF w mg fa _ Y G.T.g hmg
  exact law_end KX G.T.g G.T.b G.T.builtins G.T.nolimit hg hobj hints (Nat.le_trans hlen hn2) hr hF' hb (hsp ns hlen)
/-! a def of the head's facts -/
theorem fun_of {K : PySem.W.Frag} {x : Str} {st : Stmt} {f : Addr} {fd : FuncData} (h : FunD K x x (defArgs st) (defBody st) (defScope st) [] [] f fd) : Fun K x x st f fd := by
  obtain ⟨oc, od, dV, kV, doc, pm, an, cdv, ct, osl, e, lk, hc, hd, hk⟩ := h.ex
  rcases hd with ⟨_, rfl⟩ | ⟨hn, _⟩
  · exact ⟨⟨oc, od, kV, doc, pm, an, cdv, ct, osl, e, lk, hc⟩, h.kp⟩
  · exact absurd rfl hn
end VL

/-! text VL9 -/
set_option Elab.async false
set_option linter.all false
set_option maxRecDepth 100000
set_option maxHeartbeats 2000000
namespace VL
open PySem PySem.Spec L2

/-! ### 15. what is read of a result -/
/-- an owned list of data -/
abbrev ls (p : Addr) (xs : List PyData) : T := .nd p .lst (xs.map T.d)
inductive Sees (env : Env) : R → PyData → Prop
  | d (x : PyData) : Sees env (dd x) x
  | nd (p : Addr) (xs : List PyData) : Sees env (.own (ls p xs)) (.list xs)
  | rf (i : Nat) {p : Addr} {xs : List PyData} : env[i]? = some (some (ls p xs)) → Sees env (.rf p) (.list xs)
/-- its items -/
inductive Sq (env : Env) : R → List PyData → Prop
  | dl (xs : List PyData) : Sq env (dd (.list xs)) xs
  | dt (xs : List PyData) : Sq env (dd (.tuple xs)) xs
  | nd (p : Addr) (xs : List PyData) : Sq env (.own (ls p xs)) xs
  | rf (i : Nat) {p : Addr} {xs : List PyData} : env[i]? = some (some (ls p xs)) → Sq env (.rf p) xs
section
variable {X : Cx} {K : PySem.W.Frag} {F G H : Hp} {σ : L2.St} {env : Env} {Q : R → Env → Prop} {r q : R} {v : V} {xs ys : List PyData} {x y : PyData}
theorem nd_dp (b : Bs F G H) {p : Addr} (h : rep K F H (ls p xs) v) : ∃ vs, v = .ref p ∧ H p = some (.lst vs) ∧ Dqs K F vs xs := by
  obtain ⟨rfl, vs, hp, _, hr⟩ := h
  exact ⟨vs, rfl, hp, reps_d.mp hr⟩
theorem sees_dp (s : Sees env r x) (R : Rp K F G H σ env) (h : rrep K F H r v) : Dp K H v x := by
  cases s with
  | d x => exact dq_dp R.bs.fh _ _ h
  | nd p xs =>
    obtain ⟨vs, rfl, hp, hd⟩ := nd_dp R.bs h
    exact .lst (SqL.of hp) (dqs_dp R.bs.fh _ _ hd)
  | rf i e =>
    obtain ⟨w, _, hr⟩ := R.re.get e
    obtain ⟨vs, _, hp, hd⟩ := nd_dp R.bs hr
    rw [show v = .ref _ from h]
    exact .lst (SqL.of hp) (dqs_dp R.bs.fh _ _ hd)
theorem sq_rep (s : Sq env r xs) (R : Rp K F G H σ env) (h : rrep K F H r v) : ∃ a vs, v = .ref a ∧ (SqL K H a vs ∨ SqT K H a vs) ∧ Dqs K F vs xs := by
  cases s with
  | dl xs =>
    cases (show Dq K F v (.list xs) from h) with
    | lst hs ha => exact ⟨_, _, rfl, .inl (hs.up R.bs.fh).sq, ha⟩
  | dt xs =>
    cases (show Dq K F v (.tuple xs) from h) with
    | tup hs ha => exact ⟨_, _, rfl, .inr (hs.up R.bs.fh).sq, ha⟩
  | nd p xs =>
    obtain ⟨vs, rfl, hp, hd⟩ := nd_dp R.bs h
    exact ⟨_, vs, rfl, .inl (SqL.of hp), hd⟩
  | rf i e =>
    obtain ⟨w, _, hr⟩ := R.re.get e
    obtain ⟨vs, _, hp, hd⟩ := nd_dp R.bs hr
    exact ⟨_, vs, h, .inl (SqL.of hp), hd⟩
theorem dqs_get : ∀ {vs : List V} {xs : List PyData} {i : Nat} {x : PyData}, Dqs K F vs xs → xs[i]? = some x → ∃ v, vs[i]? = some v ∧ Dq K F v x
  | _, [], _, _, _, e => by simp at e
  | _, x :: xs, 0, _, h, e => by
    cases h with
    | cons h1 h2 =>
      simp at e
      subst e
      exact ⟨_, rfl, h1⟩
  | _, x :: xs, i + 1, _, h, e => by
    cases h with
    | cons h1 h2 =>
      obtain ⟨w, hw, hd⟩ := dqs_get (i := i) h2 (by simpa using e)
      exact ⟨w, by simpa using hw, hd⟩
theorem dqs_app : ∀ {vs ws : List V} {xs ys : List PyData}, Dqs K F vs xs → Dqs K F ws ys → Dqs K F (vs ++ ws) (xs ++ ys)
  | _, _, [], _, h, h' => by cases h; exact h'
  | _, _, x :: xs, _, h, h' => by
    cases h with
    | cons h1 h2 => exact .cons h1 (dqs_app h2 h')
theorem dqs_take : ∀ (n : Nat) {vs : List V} {xs : List PyData}, Dqs K F vs xs → Dqs K F (vs.take n) (xs.take n)
  | 0, _, _, _ => .nil
  | n + 1, _, [], h => by cases h; exact .nil
  | n + 1, _, x :: xs, h => by
    cases h with
    | cons h1 h2 => exact .cons h1 (dqs_take n h2)
theorem dqs_drop : ∀ (n : Nat) {vs : List V} {xs : List PyData}, Dqs K F vs xs → Dqs K F (vs.drop n) (xs.drop n)
  | 0, _, _, h => h
  | n + 1, _, [], h => by cases h; exact .nil
  | n + 1, _, x :: xs, h => by
    cases h with
    | cons h1 h2 => exact dqs_drop n h2
theorem dqs_rev : ∀ {vs : List V} {xs : List PyData}, Dqs K F vs xs → Dqs K F vs.reverse xs.reverse
  | _, [], h => by cases h; exact .nil
  | _, x :: xs, h => by
    cases h with
    | cons h1 h2 =>
      rw [List.reverse_cons, List.reverse_cons]
      exact dqs_app (dqs_rev h2) (.cons h1 .nil)
theorem dqs_set : ∀ (n : Nat) {vs : List V} {xs : List PyData} {v : V} {x : PyData}, Dqs K F vs xs → Dq K F v x → Dqs K F (vs.set n v) (xs.set n x)
  | _, _, [], _, _, h, _ => by cases h; exact .nil
  | 0, _, x :: xs, _, _, h, q => by
    cases h with
    | cons h1 h2 => exact .cons q h2
  | n + 1, _, x :: xs, _, _, h, q => by
    cases h with
    | cons h1 h2 => exact .cons h1 (dqs_set n h2 q)
theorem dqs_erase : ∀ (n : Nat) {vs : List V} {xs : List PyData}, Dqs K F vs xs → Dqs K F (vs.eraseIdx n) (xs.eraseIdx n)
  | _, _, [], h => by cases h; exact .nil
  | 0, _, x :: xs, h => by
    cases h with
    | cons h1 h2 => exact h2
  | n + 1, _, x :: xs, h => by
    cases h with
    | cons h1 h2 => exact .cons h1 (dqs_erase n h2)
theorem dqs_ints : ∀ {vs : List V} {ns : List Int}, Dqs K F vs (ns.map PyData.int) → vs = ns.map V.int
  | _, [], h => by cases h; rfl
  | _, n :: ns, h => by
    cases h with
    | cons h1 h2 =>
      cases h1
      rw [dqs_ints h2]
      rfl
theorem ints_dqs : ∀ (ns : List Int), Dqs K F (ns.map V.int) (ns.map PyData.int)
  | [] => .nil
  | n :: ns => .cons (.int n) (ints_dqs ns)
theorem dqs_bools : ∀ {vs : List V} {ns : List Bool}, Dqs K F vs (ns.map PyData.bool) → vs = ns.map V.bl
  | _, [], h => by cases h; rfl
  | _, n :: ns, h => by
    cases h with
    | cons h1 h2 =>
      cases h1
      rw [dqs_bools h2]
      rfl

/-! ### 16. numbers -/
def _root_.VL.isNone : PyData → Bool
  | .none => true
  | _ => false
theorem two_int {i j : Int} {env' : Env} {w : V} (h : Rrs K F G H env [v, w] [dd (.int i), dd (.int j)]) : v = .int i ∧ w = .int j := by
  obtain ⟨h1, h2⟩ := h.two
  cases (show Dq K F v (.int i) from h1)
  cases (show Dq K F w (.int j) from h2)
  exact ⟨rfl, rfl⟩
theorem add_i {i j : Int} (z : Q (dd (.int (i + j))) env) : BinV X (binaryOp .Add) (dd (.int i)) (dd (.int j)) env Q := fun F G H σ v w R rr => by
  obtain ⟨rfl, rfl⟩ := two_int (env' := env) rr
  exact wO_of op_add ⟨i, j, rfl, rfl, pv_int R z⟩
theorem sub_i {i j : Int} (z : Q (dd (.int (i - j))) env) : BinV X (binaryOp .Sub) (dd (.int i)) (dd (.int j)) env Q := fun F G H σ v w R rr => by
  obtain ⟨rfl, rfl⟩ := two_int (env' := env) rr
  exact wO_of op_sub ⟨i, j, rfl, rfl, pv_int R z⟩
theorem mul_i {i j : Int} (c : CMul i j) (z : Q (dd (.int (i * j))) env) : BinV X (binaryOp .Mult) (dd (.int i)) (dd (.int j)) env Q := fun F G H σ v w R rr => by
  obtain ⟨rfl, rfl⟩ := two_int (env' := env) rr
  exact wO_of op_mul ⟨i, j, rfl, rfl, c, pv_int R z⟩
theorem mod_i {i j : Int} (c : 0 < j) (z : Q (dd (.int (i % j))) env) : BinV X (binaryOp .Mod) (dd (.int i)) (dd (.int j)) env Q := fun F G H σ v w R rr => by
  obtain ⟨rfl, rfl⟩ := two_int (env' := env) rr
  exact wO_of op_mod ⟨i, j, rfl, rfl, c, pv_int R z⟩
theorem fdiv_i {i j : Int} (c : 0 < j ∧ j < 1073741824) (z : Q (dd (.int (i / j))) env) : BinV X (binaryOp .FloorDiv) (dd (.int i)) (dd (.int j)) env Q := fun F G H σ v w R rr => by
  obtain ⟨rfl, rfl⟩ := two_int (env' := env) rr
  exact wO_of op_fdiv ⟨i, j, rfl, rfl, c, pv_int R z⟩
theorem pow_i {i j : Int} (c : CPow i j) (z : Q (dd (.int (i ^ j.toNat))) env) : BinV X (binaryOp .Pow) (dd (.int i)) (dd (.int j)) env Q := fun F G H σ v w R rr => by
  obtain ⟨rfl, rfl⟩ := two_int (env' := env) rr
  exact wO_of op_pow ⟨i, j, rfl, rfl, c, pv_int R z⟩
theorem neg_i {i : Int} (z : Q (dd (.int (-i))) env) : UnV X (unaryOp .USub) (dd (.int i)) env Q := fun F G H σ v R rr => by
  cases (show Dq X.K F v (.int i) from rr.rp)
  exact wU_of un_neg ⟨i, rfl, pv_int R z⟩
theorem lt_i {i j : Int} (z : Q (dd (.bool (decide (i < j)))) env) : BinV X (compareOp .Lt) (dd (.int i)) (dd (.int j)) env Q := fun F G H σ v w R rr => by
  obtain ⟨rfl, rfl⟩ := two_int (env' := env) rr
  exact wO_of op_lt ⟨i, j, rfl, rfl, pv_bl R z⟩
theorem le_i {i j : Int} (z : Q (dd (.bool (decide (i ≤ j)))) env) : BinV X (compareOp .LtE) (dd (.int i)) (dd (.int j)) env Q := fun F G H σ v w R rr => by
  obtain ⟨rfl, rfl⟩ := two_int (env' := env) rr
  exact wO_of op_le ⟨i, j, rfl, rfl, pv_bl R z⟩
theorem gt_i {i j : Int} (z : Q (dd (.bool (decide (j < i)))) env) : BinV X (compareOp .Gt) (dd (.int i)) (dd (.int j)) env Q := fun F G H σ v w R rr => by
  obtain ⟨rfl, rfl⟩ := two_int (env' := env) rr
  exact wO_of op_gt ⟨i, j, rfl, rfl, pv_bl R z⟩
theorem ge_i {i j : Int} (z : Q (dd (.bool (decide (j ≤ i)))) env) : BinV X (compareOp .GtE) (dd (.int i)) (dd (.int j)) env Q := fun F G H σ v w R rr => by
  obtain ⟨rfl, rfl⟩ := two_int (env' := env) rr
  exact wO_of op_ge ⟨i, j, rfl, rfl, pv_bl R z⟩
/-- == and != of data -/
theorem eq_d (hu : X.A.units + 64 < cLine) (s : Sees env r x) (s' : Sees env q y) (h1 : SeqAt.shaped x = true) (h2 : SeqAt.shaped y = true) (z : Q (dd (.bool (PyData.eqv x y))) env) : BinV X (compareOp .Eq) r q env Q := fun F G H σ v w R rr => by
  obtain ⟨a, b⟩ := rr.two
  exact wO_of (op_eqD hu) ⟨x, y, sees_dp s R a, sees_dp s' R b, h1, h2, pv_bl R z⟩
theorem ne_d (hu : X.A.units + 64 < cLine) (s : Sees env r x) (s' : Sees env q y) (h1 : SeqAt.shaped x = true) (h2 : SeqAt.shaped y = true) (z : Q (dd (.bool (!PyData.eqv x y))) env) : BinV X (compareOp .NotEq) r q env Q := fun F G H σ v w R rr => by
  obtain ⟨a, b⟩ := rr.two
  exact wO_of (op_neD hu) ⟨x, y, sees_dp s R a, sees_dp s' R b, h1, h2, pv_bl R z⟩
/-- texts -/
theorem two_str {i j : Str} {w : V} (h : Rrs K F G H env [v, w] [dd (.str i), dd (.str j)]) : v = .str i ∧ w = .str j := by
  obtain ⟨h1, h2⟩ := h.two
  cases (show Dq K F v (.str i) from h1)
  cases (show Dq K F w (.str j) from h2)
  exact ⟨rfl, rfl⟩
theorem eq_s {i j : Str} (z : Q (dd (.bool (decide (i = j)))) env) : BinV X (compareOp .Eq) (dd (.str i)) (dd (.str j)) env Q := fun F G H σ v w R rr => by
  obtain ⟨rfl, rfl⟩ := two_str rr
  refine wO_of op_eq ⟨rfl, ?_⟩
  have e : decide (V.str i = V.str j) = decide (i = j) := by simp
  rw [e]
  exact pv_bl R z
theorem ne_s {i j : Str} (z : Q (dd (.bool (!decide (i = j)))) env) : BinV X (compareOp .NotEq) (dd (.str i)) (dd (.str j)) env Q := fun F G H σ v w R rr => by
  obtain ⟨rfl, rfl⟩ := two_str rr
  refine wO_of op_ne ⟨rfl, ?_⟩
  have e : decide (V.str i = V.str j) = decide (i = j) := by simp
  rw [e]
  exact pv_bl R z
theorem eq_i {i j : Int} (z : Q (dd (.bool (decide (i = j)))) env) : BinV X (compareOp .Eq) (dd (.int i)) (dd (.int j)) env Q := fun F G H σ v w R rr => by
  obtain ⟨rfl, rfl⟩ := two_int (env' := env) rr
  refine wO_of op_eq ⟨rfl, ?_⟩
  have e : decide (V.int i = V.int j) = decide (i = j) := by simp
  rw [e]
  exact pv_bl R z
theorem ne_i {i j : Int} (z : Q (dd (.bool (!decide (i = j)))) env) : BinV X (compareOp .NotEq) (dd (.int i)) (dd (.int j)) env Q := fun F G H σ v w R rr => by
  obtain ⟨rfl, rfl⟩ := two_int (env' := env) rr
  refine wO_of op_ne ⟨rfl, ?_⟩
  have e : decide (V.int i = V.int j) = decide (i = j) := by simp
  rw [e]
  exact pv_bl R z
/-- is None, is not None -/
theorem dq_none {F : Hp} (h : Dq K F v x) : decide (v = .non) = isNone x := by
  cases h <;> simp [isNone]
theorem is_n (z : Q (dd (.bool (isNone x))) env) : BinV X (compareOp .Is) (dd x) (dd .none) env Q := fun F G H σ v w R rr => by
  obtain ⟨h1, h2⟩ := rr.two
  cases (show Dq X.K F w .none from h2)
  refine wO_of op_isN ⟨rfl, ?_⟩
  rw [dq_none (show Dq X.K F v x from h1)]
  exact pv_bl R z
theorem isnot_n (z : Q (dd (.bool (!isNone x))) env) : BinV X (compareOp .IsNot) (dd x) (dd .none) env Q := fun F G H σ v w R rr => by
  obtain ⟨h1, h2⟩ := rr.two
  cases (show Dq X.K F w .none from h2)
  refine wO_of op_notN ⟨rfl, ?_⟩
  rw [dq_none (show Dq X.K F v x from h1)]
  exact pv_bl R z
/-- a number in a list or tuple of numbers -/
theorem inV_int (k : Int) : ∀ ns : List Int, inV (.int k) (ns.map V.int) = decide (k ∈ ns)
  | [] => rfl
  | n :: ns => by
    have ih := inV_int k ns
    unfold inV at ih ⊢
    rw [List.map_cons, List.any_cons, ih]
    show ((n == k) || decide (k ∈ ns)) = decide (k ∈ n :: ns)
    by_cases e : n = k
    · subst e; simp
    · have e' : ¬ k = n := fun h => e h.symm
      simp [e, e']
theorem flat_ints : ∀ ns : List Int, (ns.map V.int).all flatV = true
  | [] => rfl
  | n :: ns => by
    rw [List.map_cons, List.all_cons, flat_ints ns]
    rfl
theorem in_i {k : Int} {ns : List Int} (s : Sq env q (ns.map PyData.int)) (z : Q (dd (.bool (decide (k ∈ ns)))) env) : BinV X (compareOp .In) (dd (.int k)) q env Q := fun F G H σ v w R rr => by
  obtain ⟨h1, h2⟩ := rr.two
  cases (show Dq X.K F v (.int k) from h1)
  obtain ⟨a, vs, rfl, hs, hd⟩ := sq_rep s R h2
  obtain rfl := dqs_ints hd
  refine wO_of op_in_seq ⟨a, _, rfl, hs, rfl, flat_ints ns, ?_⟩
  rw [if_neg Bool.false_ne_true, inV_int]
  exact pv_bl R z
theorem notin_i {k : Int} {ns : List Int} (s : Sq env q (ns.map PyData.int)) (z : Q (dd (.bool (!decide (k ∈ ns)))) env) : BinV X (compareOp .NotIn) (dd (.int k)) q env Q := fun F G H σ v w R rr => by
  obtain ⟨h1, h2⟩ := rr.two
  cases (show Dq X.K F v (.int k) from h1)
  obtain ⟨a, vs, rfl, hs, hd⟩ := sq_rep s R h2
  obtain rfl := dqs_ints hd
  refine wO_of op_notIn_seq ⟨a, _, rfl, hs, rfl, flat_ints ns, ?_⟩
  rw [if_pos rfl, inV_int]
  exact pv_bl R z

/-! ### 17. places -/
theorem atI_dq {vs : List V} {xs : List PyData} {k : Int} {F : Hp} (hd : Dqs K F vs xs) (e : atI xs k = some x) : ∃ v, atI vs k = some v ∧ Dq K F v x := by
  have hl := dpa_len hd
  unfold atI at e ⊢
  rw [hl]
  cases hj : ixN xs.length k with
  | none => rw [hj] at e; cases e
  | some j =>
    rw [hj] at e
    exact dqs_get hd e
theorem ix_d {k : Int} (s : Sq env r xs) (e : atI xs k = some x) (z : Q (dd x) env) : SubV X r (dd (.int k)) env Q := fun F G H σ v w R rr => by
  obtain ⟨h1, h2⟩ := rr.two
  cases (show Dq X.K F w (.int k) from h2)
  obtain ⟨a, vs, rfl, hs, hd⟩ := sq_rep s R h1
  obtain ⟨u, hu, hq⟩ := atI_dq hd e
  rcases hs with hs | hs
  · exact wX_of ix_list ⟨a, vs, k, u, rfl, rfl, hs, hu, pv_d (.refl _) R hq z⟩
  · exact wX_of ix_tup ⟨a, vs, k, u, rfl, rfl, hs, hu, pv_d (.refl _) R hq z⟩
/-- len -/
theorem len_d (s : Sq env r xs) (z : Q (dd (.int xs.length)) env) : CallV X (.builtin "len") [r] env Q := fun F G H σ vs R rr => by
  obtain ⟨v, _, rfl, h1, h2⟩ := rr.rp
  rw [show _ = [] from h2]
  obtain ⟨a, us, rfl, hs, hd⟩ := sq_rep s R h1
  refine wC_of call_len_seq ⟨a, us, rfl, hs, ?_⟩
  rw [dpa_len hd]
  exact pv_int R z
/-- list(xs), tuple(xs) -/
theorem list_d (s : Sq env r xs) (z : ∀ p, Q (.own (ls p xs)) env) : CallV X (.type "list") [r] env Q := fun F G H σ vs R rr => by
  obtain ⟨v, _, rfl, h1, h2⟩ := rr.rp
  rw [show _ = [] from h2]
  obtain ⟨a, us, rfl, hs, hd⟩ := sq_rep s R h1
  exact wC_of call_list_of ⟨a, us, rfl, hs, fun l n => pv_lstd R n hd (z l)⟩
end
end VL

/-! text VL10 -/
set_option Elab.async false
set_option linter.all false
set_option maxRecDepth 100000
set_option maxHeartbeats 2000000
namespace VL
open PySem PySem.Spec L2

/-! ### 18. methods of built-in types -/
def TyOk (X : Cx) (T : String) (r : R) (env : Env) : Prop := ∀ F G H σ v, Rp X.K F G H σ env → rrep X.K F H r v → ∀ (pins : List (Addr × Obj)) (s : Shared) (σ' : L2.St) (u : Value), Inv X pins σ' H s → RelV v u →
  s.TypeIs u T ∧ ∀ a, u = .ref a → ∃ ob, s.heap.get? a = some ob ∧ ob.dict = none
section
variable {X : Cx} {F G H : Hp} {σ : L2.St} {env : Env} {Q : R → Env → Prop} {r q : R} {v : V} {xs ys : List PyData} {x y : PyData} {o e : Expr} {es : List Expr} {name : Str} {apos cpos : Pos} {T id : String}
theorem tupAt_is {pins : List (Addr × Obj)} {s : Shared} {σ' : L2.St} {a : Addr} {vs : List V} (I : Inv X pins σ' H s) (h : TupAt X.K H a vs) : ∃ its : List Value, Vals vs its ∧ ∃ ob n, s.heap.get? a = some ob ∧ ob.cls = .type "tuple" ∧ ob.dict = none ∧ ob.data = .seq its.toArray n := by
  rcases h with ⟨o, e, d⟩ | ⟨o, its, n, a1, a2, a3, a4, a5, a6⟩
  · obtain ⟨e1, z, its, r, ob, e2, c, n, hd⟩ := I.hok a _ e
    rw [e1] at e2
    cases e2
    exact ⟨its, r, o, n, e1, c, d, hd⟩
  · exact ⟨its.toList, a6, o, n, I.kIn a o a1, a2, a3, a4⟩
theorem ty_tup : TyOk X "tuple" (dd (.tuple xs)) env := fun F G H σ v R h pins s σ' u I ru => by
  cases (show Dq X.K F v (.tuple xs) from h) with
  | tup hs ha =>
    cases ru
    obtain ⟨its, _, ob, n, e, c, d, _⟩ := tupAt_is I (hs.up R.bs.fh)
    exact ⟨⟨ob, e, c⟩, fun b eb => by cases eb; exact ⟨ob, e, d⟩⟩
theorem ty_lst (s : Sees env r (.list xs)) : TyOk X "list" r env := fun F G H σ v R h pins s' σ' u I ru => by
  cases sees_dp s R h with
  | lst hs ha => exact tyV_is I ru (.inl ⟨rfl, _, hs⟩)
theorem ty_str {z : Str} : TyOk X "str" (dd (.str z)) env := fun F G H σ v R h pins s' σ' u I ru => by
  cases (show Dq X.K F v (.str z) from h)
  exact tyV_is I ru rfl
theorem ve_bm0 (pa : PlainAttrs T) (slot : Slot T name id) (hty : typeOf (.builtin id) = pure (.type "method_descriptor")) (h : VE X o env fun r e1 => TyOk X T r e1 ∧ MetV X T id r [] e1 Q)
    (hbase : attributeBase o name X.env (eval o X.env) = eval o X.env := by rfl) (hline : (apos.endLine == cpos.line) = true := by rfl) : VE X (.Call (.Attribute o name apos) [] [] cpos) env Q := fun F G H σ Rq pins s I => by
  refine wpAny_Call_method0_late hbase hline (thn (h F G H σ Rq pins s I) fun u s1 ⟨v, H1, I1, r1, F1, r, e1, sF, R1, q1, ty, z⟩ => ?_)
  obtain ⟨h1, h2⟩ := ty F1 G H1 σ v R1 q1.rp pins s1 σ u I1 r1
  have q1' : Rrs X.K F1 G H1 e1 [v] [r] := ⟨⟨v, [], rfl, q1.rp, rfl⟩, by show (rnodes r ++ []).Nodup; rw [List.append_nil]; exact q1.nd, fun p hp => q1.fr p (by
    rcases List.mem_append.mp hp with hp | hp
    · exact hp
    · cases hp)⟩
  exact ⟨T, id, pa, slot, hty, h1, h2, Calls.callWith_builtin rfl (PySem.evalArgs_none (thn (z F1 G H1 σ v [] R1 q1' pins s1 σ u [] I1 r1 .nil) fun u' s2 ⟨v', H2, I2, r2, p⟩ => ⟨v', H2, I2, r2, p.imp sF fun _ _ p => p⟩))⟩
theorem ve_bm (pa : PlainAttrs T) (slot : Slot T name id) (hty : typeOf (.builtin id) = pure (.type "method_descriptor")) (h : VE X o env fun r e1 => TyOk X T r e1 ∧ VEs X (e :: es) e1 fun rs e2 => MetV X T id r rs e2 Q)
    (hbase : attributeBase o name X.env (eval o X.env) = eval o X.env := by rfl)
    (hfew : ((backTo cpos (starEach (e :: es) X.env)).all (fun x => !x.1) && (backToKw cpos (keywordEach [] X.env)).all (fun x => x.1.isSome)
      && decide ((e :: es).length + ([] : List Keyword).length + (if ([] : List Keyword).isEmpty then 0 else 1) < 30)) = true := by rfl)
    (hline : (apos.endLine == cpos.line) = true := by rfl) (hs : starEach (e :: es) X.env = (false, eval e X.env) :: starEach es X.env := by rfl) (hplain : (backTo cpos (starEach es X.env)).any (·.1) = false := by rfl) :
    VE X (.Call (.Attribute o name apos) (e :: es) [] cpos) env Q := fun F G H σ Rq pins s I => by
  refine wpAny_Call_method_late hbase hfew hline rfl (thn (h F G H σ Rq pins s I) fun u s1 ⟨v, H1, I1, r1, F1, r, e1, sF, R1, q1, ty, z⟩ => ?_)
  obtain ⟨h1, h2⟩ := ty F1 G H1 σ v R1 q1.rp pins s1 σ u I1 r1
  obtain ⟨R1', fin⟩ := lend_step sF R1 q1
  refine ⟨T, id, pa, slot, hty, h1, h2, ?_⟩
  have hA := z F1 _ H1 σ R1' cpos pins s1 I1
  rw [hs] at hA ⊢
  refine Calls.callWith_builtin (by show (false || (backTo cpos (starEach es X.env)).any (·.1)) = false; rw [hplain] <;> rfl) (Calls.evalArgs_plain (thn hA fun us s2 ⟨vs, H2, I2, r2, F2, rs, e2, s2F, R2, q2, zz⟩ => ?_))
  obtain ⟨z1, z2, z3, z4⟩ := fin s2F R2
  have qq : Rrs X.K F2 G H2 e2 (v :: vs) (r :: rs) := ⟨⟨v, vs, rfl, z3.rp, q2.rp⟩, nodup_app z3.nd q2.nd fun a ha hb => z4 a ha (q2.fr a hb).2.2, fun p hp => by
    rcases List.mem_append.mp hp with hp | hp
    · exact z3.fr p hp
    · have h3 := q2.fr p hp
      refine ⟨h3.1, h3.2.1, ?_⟩
      by_cases hm : p ∈ rnodes r
      · exact (z3.fr p hm).2.2
      · have := h3.2.2
        rw [gAdd_out hm] at this
        exact this⟩
  exact thn (zz F2 G H2 σ v vs z2 qq pins s2 σ u us I2 r1 r2) fun u' s3 ⟨v', H3, I3, r3, p⟩ => ⟨v', H3, I3, r3, p.imp z1 fun _ _ p => p⟩

/-! ### 19. data compared, looked for -/
theorem dp_reads {pins : List (Addr × Obj)} {s : Shared} {σ' : L2.St} {u : Value} (I : Inv X pins σ' H s) (h : Dp X.K H v x) (ru : RelV v u) : ∃ as, Reads s.heap u x as := Dp.reads I x v u h ru
/-- == and != of plain data -/
theorem eq_p (hu : X.A.units + 64 < cLine) (s : Sees env r x) (s' : Sees env q y) (h1 : x.plain = true) (h2 : y.plain = true) (hd : x.depth ≤ 60) (z : Q (dd (.bool (PyData.eqv x y))) env) : BinV X (compareOp .Eq) r q env Q := fun F G H σ v w R rr pins s0 σ' u u' I r1 r2 => by
  obtain ⟨a, b⟩ := rr.two
  obtain ⟨as, ra⟩ := dp_reads I (sees_dp s R a) r1
  obtain ⟨bs, rb⟩ := dp_reads I (sees_dp s' R b) r2
  exact SeqAt.eq_plain ra rb h1 h2 (by have := Nat.min_le_left x.depth y.depth; omega) ⟨.bl _, H, I, rfl, pv_bl R z⟩
theorem ne_p (hu : X.A.units + 64 < cLine) (s : Sees env r x) (s' : Sees env q y) (h1 : x.plain = true) (h2 : y.plain = true) (hd : x.depth ≤ 60) (z : Q (dd (.bool (!PyData.eqv x y))) env) : BinV X (compareOp .NotEq) r q env Q := fun F G H σ v w R rr pins s0 σ' u u' I r1 r2 => by
  obtain ⟨a, b⟩ := rr.two
  obtain ⟨as, ra⟩ := dp_reads I (sees_dp s R a) r1
  obtain ⟨bs, rb⟩ := dp_reads I (sees_dp s' R b) r2
  exact SeqAt.ne_plain ra rb h1 h2 (by have := Nat.min_le_left x.depth y.depth; omega) ⟨.bl _, H, I, rfl, pv_bl R z⟩
/-- x in xs, x not in xs -/
theorem sq_sees (s : Sq env r xs) : Sees env r (.list xs) ∨ r = dd (.tuple xs) := by
  cases s with
  | dl xs => exact .inl (.d _)
  | dt xs => exact .inr rfl
  | nd p xs => exact .inl (.nd p xs)
  | rf i e => exact .inl (.rf i e)
theorem in_p (hu : X.A.units + 64 < cLine) (s' : Sq env q xs) (h1 : x.plain = true) (h2 : PyData.plainAll xs = true) (hd : x.depth ≤ 60) (z : Q (dd (.bool (xs.any fun y => PyData.eqv y x))) env) : BinV X (compareOp .In) (dd x) q env Q := fun F G H σ v w R rr pins s0 σ' u u' I r1 r2 => by
  obtain ⟨a, b⟩ := rr.two
  obtain ⟨as, ra⟩ := dp_reads I (sees_dp (.d x) R a) r1
  have hm : X.A.units + 1 + min (PyData.depthAll xs) x.depth < cLine := by have := Nat.min_le_right (PyData.depthAll xs) x.depth; omega
  rcases sq_sees s' with s1 | rfl
  · obtain ⟨bs, rb⟩ := dp_reads I (sees_dp s1 R b) r2
    exact SeqAt.in_list_data rb ra h2 h1 hm ⟨.bl _, H, I, rfl, pv_bl R z⟩
  · obtain ⟨bs, rb⟩ := dp_reads I (sees_dp (.d _) R b) r2
    exact SeqAt.in_tuple_data rb ra h2 h1 hm ⟨.bl _, H, I, rfl, pv_bl R z⟩
theorem notin_p (hu : X.A.units + 64 < cLine) (s' : Sq env q xs) (h1 : x.plain = true) (h2 : PyData.plainAll xs = true) (hd : x.depth ≤ 60) (z : Q (dd (.bool (!xs.any fun y => PyData.eqv y x))) env) : BinV X (compareOp .NotIn) (dd x) q env Q := fun F G H σ v w R rr pins s0 σ' u u' I r1 r2 => by
  obtain ⟨a, b⟩ := rr.two
  obtain ⟨as, ra⟩ := dp_reads I (sees_dp (.d x) R a) r1
  have hm : X.A.units + 1 + min (PyData.depthAll xs) x.depth < cLine := by have := Nat.min_le_right (PyData.depthAll xs) x.depth; omega
  rcases sq_sees s' with s1 | rfl
  · obtain ⟨bs, rb⟩ := dp_reads I (sees_dp s1 R b) r2
    exact SeqAt.notIn_list_data rb ra h2 h1 hm ⟨.bl _, H, I, rfl, pv_bl R z⟩
  · obtain ⟨bs, rb⟩ := dp_reads I (sees_dp (.d _) R b) r2
    exact SeqAt.notIn_tuple_data rb ra h2 h1 hm ⟨.bl _, H, I, rfl, pv_bl R z⟩
theorem dqs_reads {pins : List (Addr × Obj)} {s : Shared} {σ' : L2.St} {F : Hp} {vs : List V} {us : List Value} (I : Inv X pins σ' H s) (sF : Same F H) (h : Dqs X.K F vs xs) (ru : Vals vs us) : ∃ as, ReadsAll s.heap us xs as := Dp.readsAll I xs vs us (dqs_dp sF _ _ h) ru
/-- t.count(x) -/
theorem tup_count (hu : X.A.units + 64 < cLine) (h1 : x.plain = true) (h2 : PyData.plainAll xs = true) (hd : x.depth ≤ 60) (z : Q (dd (.int ((xs.countP fun y => PyData.eqv y x : Nat) : Int))) env) : MetV X "tuple" "tuple.count" (dd (.tuple xs)) [dd x] env Q := fun F G H σ v vs R rr pins s0 σ' u us I r1 r2 => by
  obtain ⟨⟨va, vb, ea, ha, ⟨w, vc, eb, hb, hc⟩⟩, _, _⟩ := rr
  cases ea
  subst eb
  rw [show vc = [] from hc] at r2
  cases r2 with
  | cons rw' rt =>
    cases rt
    rename_i uw
    cases (show Dq X.K F v (.tuple xs) from ha) with
    | tup hs hq =>
      cases r1
      obtain ⟨its, rv, ob, n, e, c, d, hd'⟩ := tupAt_is I (hs.up R.bs.fh)
      obtain ⟨as, ra⟩ := dp_reads I (sees_dp (.d x) R hb) rw'
      obtain ⟨bs, rb⟩ := dqs_reads I R.bs.fh hq rv
      refine SeqAt.count_tuple_data (vs := its.toArray) ⟨ob, e, c, n, hd'⟩ (by simpa using rb) ra h2 h1 (by have := Nat.min_le_right (PyData.depthAll xs) x.depth; omega) ⟨.int _, H, I.tok _, ⟨_, rfl⟩, pv_int R z⟩
/-- t.index(n), t a tuple of numbers -/
theorem holdAll_ints {h : Heap} {us : List Value} {ns : List Int} (r : Vals (ns.map V.int) us) : PySem.W.HoldAll h us ns := PySem.W.HoldAll.of_ints (Vals.ints r)
theorem tup_index {ns : List Int} {k : Int} (hu : X.A.units + 64 < cLine) (hm : k ∈ ns) (z : Q (dd (.int ((ns.idxOf k : Nat) : Int))) env) : MetV X "tuple" "tuple.index" (dd (.tuple (ns.map PyData.int))) [dd (.int k)] env Q := fun F G H σ v vs R rr pins s0 σ' u us I r1 r2 => by
  obtain ⟨⟨va, vb, ea, ha, ⟨w, vc, eb, hb, hc⟩⟩, _, _⟩ := rr
  cases ea
  subst eb
  rw [show vc = [] from hc] at r2
  cases r2 with
  | cons rw' rt =>
    cases rt
    rename_i uw
    cases (show Dq X.K F v (.tuple (ns.map PyData.int)) from ha) with
    | tup hs hq =>
      cases r1
      obtain ⟨its, rv, ob, n, e, c, d, hd'⟩ := tupAt_is I (hs.up R.bs.fh)
      obtain rfl := dqs_ints hq
      cases (show Dq X.K F w (.int k) from hb)
      obtain ⟨t, rfl⟩ := rw'
      exact PySem.W.index_tuple_datum (xs := ns) (x := k) ⟨ob, e, c, n, hd'⟩ (holdAll_ints rv) (PySem.W.holds_int _ _) (by show X.A.units + 1 + 0 < cLine; omega) hm ⟨.int _, H, I.tok _, ⟨_, rfl⟩, pv_int R z⟩
end
end VL

/-! text VL11 -/
set_option Elab.async false
set_option linter.all false
set_option maxRecDepth 100000
set_option maxHeartbeats 2000000
namespace VL
open PySem PySem.Spec L2

/-! ### 20. objects of a slot written -/
section
variable {X : Cx} {K : PySem.W.Frag} {F G H : Hp} {σ : L2.St} {env : Env} {Q : R → Env → Prop} {r q : R} {v : V} {xs ys : List PyData} {x y : PyData} {o e : Expr} {es : List Expr} {name : Str} {apos cpos : Pos} {T' id : String}
/-- where an object of a slot stands, and how the slots look when it is another one -/
inductive Loc (env : Env) (p : Addr) (k : Kd) (ts : List T) : (Kd → List T → Env) → Prop
  | sl (i : Nat) : env[i]? = some (some (.nd p k ts)) → Loc env p k ts fun k' ts' => env.set i (some (.nd p k' ts'))
  | kid (i j : Nat) {p0 : Addr} {k0 : Kd} {ts0 : List T} : env[i]? = some (some (.nd p0 k0 ts0)) → ts0[j]? = some (.nd p k ts) → Loc env p k ts fun k' ts' => env.set i (some (.nd p0 k0 (ts0.set j (.nd p k' ts'))))
theorem nodesL_get {t : T} {a : Addr} (ha : a ∈ nodes t) : ∀ {ts : List T} {j : Nat}, ts[j]? = some t → a ∈ nodesL ts
  | [], _, e => by simp at e
  | u :: ts, 0, e => by
    simp at e
    subst e
    exact List.mem_append_left _ ha
  | u :: ts, j + 1, e => List.mem_append_right _ (nodesL_get ha (j := j) (by simpa using e))
theorem nodesL_setS {t t' : T} (s : (nodes t').Sublist (nodes t)) : ∀ {ts : List T} {j : Nat}, ts[j]? = some t → (nodesL (ts.set j t')).Sublist (nodesL ts)
  | [], _, e => by simp at e
  | u :: ts, 0, e => by
    simp at e
    subst e
    exact List.Sublist.append s (List.Sublist.refl _)
  | u :: ts, j + 1, e => List.Sublist.append (List.Sublist.refl _) (nodesL_setS s (j := j) (by simpa using e))
theorem reps_set {t' : T} {w : V} (q : rep K F H t' w) : ∀ {ts : List T} {vs : List V} {j : Nat}, reps K F H ts vs → vs[j]? = some w → reps K F H (ts.set j t') vs
  | [], vs, j, h, e => by
    rw [show vs = [] from h] at e
    simp at e
  | t :: ts, vs, 0, h, e => by
    obtain ⟨v, r, rfl, h1, h2⟩ := h
    simp at e
    subst e
    exact ⟨v, r, rfl, q, h2⟩
  | t :: ts, vs, j + 1, h, e => by
    obtain ⟨v, r, rfl, h1, h2⟩ := h
    exact ⟨v, r, rfl, h1, reps_set q (j := j) h2 (by simpa using e)⟩
/-- reading there -/
theorem Loc.read {p : Addr} {k : Kd} {ts : List T} {put : Kd → List T → Env} (L : Loc env p k ts put) (R : Rp K F G H σ env) : rep K F H (.nd p k ts) (.ref p) := by
  cases L with
  | sl i e =>
    obtain ⟨w, _, hr⟩ := R.re.get e
    obtain ⟨rfl, z⟩ := hr
    exact ⟨rfl, z⟩
  | kid i j e ej =>
    obtain ⟨w, _, hr⟩ := R.re.get e
    obtain ⟨rfl, vs, _, _, hrs⟩ := hr
    obtain ⟨u, hu, hq⟩ := reps_get hrs ej
    obtain ⟨rfl, z⟩ := hq
    exact ⟨rfl, z⟩
/-- writing there: no new objects -/
theorem Loc.write {p : Addr} {k k' : Kd} {ts ts' : List T} {put : Kd → List T → Env} {vs' : List V} (L : Loc env p k ts put) (R : Rp K F G H σ env) (hf : k'.fit vs'.length) (hs : (nodesL ts').Sublist (nodesL ts)) (hr : reps K F H ts' vs') :
    Rp K F G (upd H p (k'.ho vs')) σ (put k' ts') := by
  have key : ∀ {t t' : T} {v : V} {i : Nat}, env[i]? = some (some t) → p ∈ nodes t → (nodes t').Sublist (nodes t) → (rep K F H t v → (nodes t).Nodup → rep K F (upd H p (k'.ho vs')) t' v) → σ[i]? = some (some v) → Rp K F G (upd H p (k'.ho vs')) σ (env.set i (some t')) := by
    intro t t' v i e hp hs' hrep hv
    obtain ⟨w, hw, R1, q1⟩ := R.take e
    rw [hv] at hw
    cases hw
    have n1 := q1.fr p hp
    have R2 := R1.write n1.1 n1.2.1 n1.2.2 k' vs'
    have R3 := R2.put (t := t') hv ⟨hrep q1.rp q1.nd, q1.nd.sublist hs', fun a ha => q1.fr a (hs'.subset ha)⟩
    rw [List.set_set] at R3
    exact R3
  cases L with
  | sl i e =>
    obtain ⟨w, hw, hr0⟩ := R.re.get e
    have ew : w = .ref p := hr0.1
    subst ew
    refine key e List.mem_cons_self (List.Sublist.cons_cons p hs) (fun h nd => ⟨rfl, vs', upd_same, hf, reps_frame (.refl _) ts' vs' (fun a ha => upd_ne fun ea => ?_) hr⟩) hw
    exact (List.nodup_cons.mp (show (p :: nodesL ts).Nodup from nd)).1 (ea ▸ hs.subset ha)
  | @kid i j p0 k0 ts0 e ej =>
    obtain ⟨w, hw, hr0⟩ := R.re.get e
    have ew : w = .ref p0 := hr0.1
    subst ew
    have hin : p ∈ nodesL ts0 := nodesL_get (t := .nd p k ts) List.mem_cons_self ej
    have sb : (nodesL (ts0.set j (.nd p k' ts'))).Sublist (nodesL ts0) := nodesL_setS (t := .nd p k ts) (t' := .nd p k' ts') (List.Sublist.cons_cons p hs) ej
    refine key e (List.mem_cons_of_mem _ hin) (List.Sublist.cons_cons p0 sb) (fun h nd => ?_) hw
    obtain ⟨_, vs, h0, hf0, hrs⟩ := h
    obtain ⟨n1, n2⟩ := List.nodup_cons.mp (show (p0 :: nodesL ts0).Nodup from nd)
    have np : p0 ≠ p := fun ea => n1 (ea ▸ hin)
    obtain ⟨u, hu, hq⟩ := reps_get hrs ej
    have eu : u = .ref p := hq.1
    subst eu
    refine ⟨rfl, vs, by rw [upd_ne np]; exact h0, hf0, ?_⟩
    -- the kid itself, and the others
    have kid' : rep K F (upd H p (k'.ho vs')) (.nd p k' ts') (.ref p) := by
      refine ⟨rfl, vs', upd_same, hf, reps_frame (.refl _) ts' vs' (fun a ha => upd_ne fun ea => ?_) hr⟩
      have nk : (p :: nodesL ts).Nodup := by
        have go : ∀ {us : List T} {j : Nat}, (nodesL us).Nodup → us[j]? = some (.nd p k ts) → (p :: nodesL ts).Nodup := by
          intro us
          induction us with
          | nil => intro j _ e; simp at e
          | cons t us ih =>
            intro j nd e
            obtain ⟨a1, a2, _⟩ := List.nodup_append.mp (show (nodes t ++ nodesL us).Nodup from nd)
            cases j with
            | zero =>
              simp at e
              subst e
              exact a1
            | succ j => exact ih a2 (j := j) (by simpa using e)
        exact go n2 ej
      exact (List.nodup_cons.mp nk).1 (ea ▸ hs.subset ha)
    have go : ∀ {us : List T} {ws : List V} {j : Nat}, (nodesL us).Nodup → us[j]? = some (.nd p k ts) → reps K F H us ws → reps K F (upd H p (k'.ho vs')) (us.set j (.nd p k' ts')) ws := by
      intro us
      induction us with
      | nil => intro ws j _ e; simp at e
      | cons t us ih =>
        intro ws j nd e h
        obtain ⟨v, r, rfl, h1, h2⟩ := h
        obtain ⟨a1, a2, a3⟩ := List.nodup_append.mp (show (nodes t ++ nodesL us).Nodup from nd)
        cases j with
        | zero =>
          simp at e
          subst e
          have ev : v = .ref p := h1.1
          subst ev
          exact ⟨_, r, rfl, kid', reps_frame (.refl _) us r (fun a ha => upd_ne fun ea => a3 p List.mem_cons_self a ha ea.symm) h2⟩
        | succ j =>
          have e' : us[j]? = some (.nd p k ts) := by simpa using e
          have hp' : p ∈ nodesL us := nodesL_get (t := .nd p k ts) List.mem_cons_self e'
          exact ⟨v, r, rfl, rep_frame (.refl _) t v (fun a ha => upd_ne fun ea => a3 a ha p hp' ea) h1, ih a2 e' h2⟩
    exact go n2 ej hrs

/-! ### 21. lists written -/
theorem rf_is {p : Addr} (h : rrep K F H (.rf p) v) : v = .ref p := h
theorem lst_append {p : Addr} {put : Kd → List T → Env} (L : Loc env p .lst (xs.map T.d) put) (hl : xs.length < sizeLine) (z : Q (dd .none) (put .lst ((xs ++ [x]).map T.d))) : MetV X "list" "list.append" (.rf p) [dd x] env Q := fun F G H σ v vs R rr => by
  obtain ⟨⟨va, vb, ea, ha, ⟨w, vc, eb, hb, hc⟩⟩, _, _⟩ := rr
  cases ea
  subst eb
  rw [show vc = [] from hc]
  rw [rf_is ha]
  obtain ⟨_, us, hp, _, hr⟩ := L.read R
  have hd := reps_d.mp hr
  refine wM_of mt_append ⟨p, us, w, rfl, rfl, hp, by rw [dpa_len hd]; exact hl, ?_⟩
  have R2 := L.write (k' := .lst) (ts' := (xs ++ [x]).map T.d) (vs' := us ++ [w]) R trivial (by rw [nodesL_d, nodesL_d]; exact List.Sublist.refl _) (reps_d.mpr (dqs_app hd (.cons hb .nil)))
  exact pv_non R2 z
theorem lst_pop {p : Addr} {put : Kd → List T → Env} (L : Loc env p .lst (xs.map T.d) put) (hl : xs[xs.length - 1]? = some x) (z : Q (dd x) (put .lst (xs.dropLast.map T.d))) : MetV X "list" "list.pop" (.rf p) [] env Q := fun F G H σ v vs R rr => by
  obtain ⟨⟨va, vb, ea, ha, hc⟩, _, _⟩ := rr
  cases ea
  rw [show vs = [] from hc]
  rw [rf_is ha]
  obtain ⟨_, us, hp, _, hr⟩ := L.read R
  have hd := reps_d.mp hr
  obtain ⟨u, hu, hq⟩ := dqs_get hd hl
  have hl' : us.length = xs.length := dpa_len hd
  refine wM_of mt_pop ⟨p, us, u, rfl, rfl, hp, by rw [hl']; exact hu, ?_⟩
  have hd2 : Dqs X.K F us.dropLast xs.dropLast := by
    rw [List.dropLast_eq_take, List.dropLast_eq_take, hl']
    exact dqs_take _ hd
  have R2 := L.write (k' := .lst) (ts' := xs.dropLast.map T.d) (vs' := us.dropLast) R trivial (by rw [nodesL_d, nodesL_d]; exact List.Sublist.refl _) (reps_d.mpr hd2)
  exact pv_d (.refl _) R2 hq z
theorem seqIx_nat {n k : Nat} (h : k < n) : seqIndex? (k : Int) n = some k := (ixN_seq (i := (k : Int)) (by
  unfold ixN
  rw [if_pos (by omega), if_pos (by omega)]
  simp)).1
theorem lst_popAt {p : Addr} {put : Kd → List T → Env} {k : Nat} (L : Loc env p .lst (xs.map T.d) put) (hl : xs[k]? = some x) (hz : xs.length < 2 ^ 62) (z : Q (dd x) (put .lst ((xs.eraseIdx k).map T.d))) : MetV X "list" "list.pop" (.rf p) [dd (.int k)] env Q := fun F G H σ v vs R rr => by
  obtain ⟨⟨va, vb, ea, ha, ⟨w, vc, eb, hb, hc⟩⟩, _, _⟩ := rr
  cases ea
  subst eb
  rw [show vc = [] from hc]
  rw [rf_is ha]
  cases (show Dq X.K F w (.int k) from hb)
  obtain ⟨_, us, hp, _, hr⟩ := L.read R
  have hd := reps_d.mp hr
  obtain ⟨u, hu, hq⟩ := dqs_get hd hl
  have hl' : us.length = xs.length := dpa_len hd
  have hk : k < xs.length := (List.getElem?_eq_some_iff.mp hl).1
  refine wM_of mt_popAt ⟨p, us, k, k, u, rfl, rfl, hp, by omega, by omega, seqIx_nat (by omega), hu, ?_⟩
  have R2 := L.write (k' := .lst) (ts' := (xs.eraseIdx k).map T.d) (vs' := us.eraseIdx k) R trivial (by rw [nodesL_d, nodesL_d]; exact List.Sublist.refl _) (reps_d.mpr (dqs_erase k hd))
  exact pv_d (.refl _) R2 hq z
end
end VL

/-! text VL12 -/
set_option Elab.async false
set_option linter.all false
set_option maxRecDepth 100000
set_option maxHeartbeats 2000000
namespace VL
open PySem PySem.Spec L2

/-! ### 22. lists and tuples made of others -/
section
variable {X : Cx} {K : PySem.W.Frag} {F G H : Hp} {σ : L2.St} {env : Env} {Q : R → Env → Prop} {r q : R} {v : V} {xs ys : List PyData} {x y : PyData}
theorem lstAt_is {pins : List (Addr × Obj)} {s : Shared} {σ' : L2.St} {a : Addr} {vs : List V} (I : Inv X pins σ' H s) (h : LstAt X.K H a vs) : ∃ (its : List Value) (n : Nat), Vals vs its ∧ s.heap.get? a = some { cls := .type "list", data := .seq its.toArray n } ∧ vs.length ≤ sizeLine := by
  rcases h with (e | ⟨o, e⟩) | ⟨its, n, a1, a2, a3⟩
  · obtain ⟨z, its, n, r, e1⟩ := I.hok a _ e
    exact ⟨its, n, r, e1, z⟩
  · obtain ⟨_, z, its, n, r, e1⟩ := I.hok a _ e
    exact ⟨its, n, r, e1, z⟩
  · exact ⟨its.toList, n, a3, I.kIn a _ a1, by rw [a3.length]; simpa using a2⟩
theorem sees_lst (s : Sees env r (.list xs)) (R : Rp K F G H σ env) (h : rrep K F H r v) : ∃ a vs, v = .ref a ∧ LstAt K H a vs ∧ Dqs K F vs xs := by
  cases s with
  | d x =>
    cases (show Dq K F v (.list xs) from h) with
    | lst hs ha => exact ⟨_, _, rfl, hs.up R.bs.fh, ha⟩
  | nd p xs =>
    obtain ⟨vs, rfl, hp, hd⟩ := nd_dp R.bs h
    exact ⟨p, vs, rfl, .inl (.inl hp), hd⟩
  | rf i e =>
    obtain ⟨w, _, hr⟩ := R.re.get e
    obtain ⟨vs, _, hp, hd⟩ := nd_dp R.bs hr
    exact ⟨_, vs, h, .inl (.inl hp), hd⟩
theorem tup_at (R : Rp K F G H σ env) (h : rrep K F H (dd (.tuple xs)) v) : ∃ a vs, v = .ref a ∧ TupAt K H a vs ∧ Dqs K F vs xs := by
  cases (show Dq K F v (.tuple xs) from h) with
  | tup hs ha => exact ⟨_, _, rfl, hs.up R.bs.fh, ha⟩
theorem inv_tup {pins : List (Addr × Obj)} {s : Shared} {σ' : L2.St} {a : Addr} {vs : List V} (I : Inv X pins σ' H s) (h : TupAt X.K H a vs) : ∃ its : List Value, Vals vs its ∧ PyProof.Rows.IsTup s.heap a its.toArray ∧ vs.length ≤ sizeLine := I.tuple h.sq
/-- xs + ys, lists -/
theorem add_l (s : Sees env r (.list xs)) (s' : Sees env q (.list ys)) (hz : xs.length + ys.length ≤ sizeLine) (z : ∀ p, Q (.own (ls p (xs ++ ys))) env) : BinV X (binaryOp .Add) r q env Q := fun F G H σ v w R rr pins s0 σ' u u' I r1 r2 => by
  obtain ⟨h1, h2⟩ := rr.two
  obtain ⟨a, vs, rfl, ha, da⟩ := sees_lst s R h1
  obtain ⟨b, ws, rfl, hb, db⟩ := sees_lst s' R h2
  cases r1
  cases r2
  obtain ⟨its, n, rv, e, _⟩ := lstAt_is I ha
  obtain ⟨its2, n2, rv2, e2, _⟩ := lstAt_is I hb
  have l1 := rv.length
  have l2 := rv2.length
  have l3 := dpa_len da
  have l4 := dpa_len db
  refine PySem.P.add_list e e2 ?_ (by rw [List.size_toArray, List.size_toArray]; omega)
  have ea : its.toArray ++ its2.toArray = (its ++ its2).toArray := by simp
  rw [ea]
  exact ⟨.ref _, _, I.lnew (t' := s0.toks) (rv.append rv2) (by rw [List.length_append]; omega), rfl, pv_lstd R I.fresh (dqs_app da db) (z _)⟩
theorem tup_new {pins : List (Addr × Obj)} {s : Shared} {σ' : L2.St} {us : List Value} {vs : List V} (R : Rp X.K F G H σ env) (I : Inv X pins σ' H s) (r : Vals vs us) (hz : vs.length ≤ sizeLine) (hd : Dqs X.K F vs xs) (z : Q (dd (.tuple xs)) env) (t : Nat) :
    EP X pins σ' (PV X.K F G σ Q) (.ref s.heap.objs.size) { s with heap := s.heap.push { cls := .type "tuple", data := .seq us.toArray }, toks := t } :=
  ⟨.ref _, _, tup_laid (t := t) I r hz, rfl, pv_tup R I.fresh hd z⟩
/-- t + u, tuples -/
theorem add_t (hz : xs.length + ys.length ≤ sizeLine) (z : Q (dd (.tuple (xs ++ ys))) env) : BinV X (binaryOp .Add) (dd (.tuple xs)) (dd (.tuple ys)) env Q := fun F G H σ v w R rr pins s0 σ' u u' I r1 r2 => by
  obtain ⟨h1, h2⟩ := rr.two
  obtain ⟨a, vs, rfl, ha, da⟩ := tup_at R h1
  obtain ⟨b, ws, rfl, hb, db⟩ := tup_at R h2
  cases r1
  cases r2
  obtain ⟨its, rv, p1, _⟩ := inv_tup I ha
  obtain ⟨its2, rv2, p2, _⟩ := inv_tup I hb
  have l1 := rv.length
  have l2 := rv2.length
  have l3 := dpa_len da
  have l4 := dpa_len db
  by_cases hx : its = []
  · subst hx
    have hx0 : xs = [] := by
      rw [List.length_nil] at l1
      exact List.eq_nil_of_length_eq_zero (by omega)
    subst hx0
    exact cat_tup0 p1 p2 ⟨.ref b, H, I, rfl, pv_d (.refl _) R h2 z⟩
  · refine HT.cat_tup p1 p2 hx (fun hy => ?_) (fun hy => tup_new R I (rv.append rv2) (by rw [List.length_append]; omega) (dqs_app da db) z _) (by omega)
    have hy0 : ys = [] := by
      subst hy
      rw [List.length_nil] at l2
      exact List.eq_nil_of_length_eq_zero (by omega)
    subst hy0
    rw [List.append_nil] at z
    exact ⟨.ref a, H, I, rfl, pv_d (.refl _) R h1 z⟩
/-- tuple(xs) -/
theorem tuple_d (s : Sq env r xs) (z : Q (dd (.tuple xs)) env) : CallV X (.type "tuple") [r] env Q := fun F G H σ vs R rr pins s0 σ' us I ru => by
  obtain ⟨v, _, rfl, h1, h2⟩ := rr.rp
  rw [show _ = [] from h2] at ru
  obtain ⟨u, rfl, rx⟩ := vals1 ru
  rcases sq_sees s with sl | rfl
  · obtain ⟨a, ws, rfl, ha, da⟩ := sees_lst sl R h1
    cases rx
    obtain ⟨its, n, rv, e, hz⟩ := lstAt_is I ha
    refine call_tuple_list ⟨_, e, rfl, n, rfl⟩ (fun h' kp => ?_) (by have := rv.length; rw [List.size_toArray]; omega)
    exact tup_new R (I.kept (t' := s0.toks) kp) rv hz da z _
  · obtain ⟨a, ws, rfl, ha, da⟩ := tup_at R h1
    cases rx
    obtain ⟨its, rv, p1, _⟩ := inv_tup I ha
    exact call_tuple_same p1 ⟨.ref a, H, I, rfl, pv_d (.refl _) R h1 z⟩
/-- xs * k, a list -/
theorem dqs_rep {F : Hp} {vs : List V} (h : Dqs K F vs xs) : ∀ k : Nat, Dqs K F (List.replicate k vs).flatten (List.replicate k xs).flatten
  | 0 => .nil
  | k + 1 => by
    rw [List.replicate_succ, List.replicate_succ, List.flatten_cons, List.flatten_cons]
    exact dqs_app h (dqs_rep h k)
theorem mul_l {p : Addr} {k : Int} (h0 : -(2 ^ 63) ≤ k) (h1 : k < 2 ^ 63) (hz : xs.length * k.toNat ≤ sizeLine) (z : ∀ p, Q (.own (ls p (List.replicate k.toNat xs).flatten)) env) : BinV X (binaryOp .Mult) (.own (ls p xs)) (dd (.int k)) env Q := fun F G H σ v w R rr => by
  obtain ⟨a, b⟩ := rr.two
  cases (show Dq X.K F w (.int k) from b)
  obtain ⟨vs, rfl, hp, hd⟩ := nd_dp R.bs a
  exact wO_of op_rep ⟨p, k, vs, rfl, rfl, hp, h0, h1, by rw [dpa_len hd]; exact hz, fun p' n => pv_lstd R n (dqs_rep hd _) (z p')⟩

/-! ### 23. slices -/
def cutL {α : Type} (xs : List α) (lo hi : Option Int) : List α := (xs.drop (HT.sIx xs.length 0 lo)).take (HT.sIx xs.length xs.length hi - HT.sIx xs.length 0 lo)
theorem dqs_cut {F : Hp} {vs : List V} {lo hi : Option Int} (h : Dqs K F vs xs) : Dqs K F (cutV vs lo hi) (cutL xs lo hi) := by
  unfold cutV cutL
  rw [dpa_len h]
  exact dqs_take _ (dqs_drop _ h)
theorem sl_l {lo hi : Option Int} (s : Sees env r (.list xs)) (z : ∀ p, Q (.own (ls p (cutL xs lo hi))) env) : SlV X r lo hi env Q := fun F G H σ v R rr => by
  obtain ⟨a, vs, rfl, ha, da⟩ := sees_lst s R rr.rp
  exact wL_of sl_list ⟨a, vs, rfl, ha.sq, fun p n => pv_lstd R n (dqs_cut da) (z p)⟩
theorem sl_t {lo hi : Option Int} (z : Q (dd (.tuple (cutL xs lo hi))) env) : SlV X (dd (.tuple xs)) lo hi env Q := fun F G H σ v R rr pins s σ' u vl vu sl I rx hs pl pu => by
  obtain ⟨a, vs, rfl, ha, da⟩ := tup_at R rr.rp
  cases rx
  obtain ⟨its, rv, ht, hz⟩ := inv_tup I ha
  have hlen : its.toArray.size = vs.length := by rw [List.size_toArray]; exact rv.length.symm
  have hlx := dpa_len da
  refine ⟨"tuple", _, PyProof.Rows.slot_tuple_getitem.lookup, ht.typeIs, ?_⟩
  by_cases hw : HT.sIx vs.length 0 lo = 0 ∧ HT.sIx vs.length vs.length hi = vs.length
  · refine getItem_tuple_whole ht hs pl pu (by rw [hlen]; exact hw) ⟨.ref a, H, I, rfl, pv_d (.refl _) R rr.rp ?_⟩
    have e : cutL xs lo hi = xs := by
      unfold cutL
      rw [← hlx, hw.1, hw.2, hlx]
      simp
    rw [e] at z
    exact z
  · refine HT.getItem_tuple_cut ht hs pl pu (by rw [hlen]; exact hw) ?_ (by rw [hlen]; exact hz)
    rw [hlen]
    exact tup_new R I ((rv.drop (HT.sIx vs.length 0 lo)).take (HT.sIx vs.length vs.length hi - HT.sIx vs.length 0 lo)) (Nat.le_trans (cutV_length vs lo hi) hz) (dqs_cut (lo := lo) (hi := hi) da) z _
end
/-- a part of a slice -/
def wP (X : Cx) (e : Option Expr) : TO := fun σ H Q => ∀ (pins : List (Addr × Obj)) (s : Shared), Inv X pins σ H s → wpAny (model X.prog X.w) X.A (evalPart e X.env) (fun u s' => ∃ o H', Inv X pins σ H' s' ∧ IsPart u o ∧ Q o H') X.xe s
def VO (X : Cx) (e : Option Expr) (env : Env) (Q : Option Int → Env → Prop) : Prop := ∀ F G H σ, Rp X.K F G H σ env → wP X e σ H fun o H' => ∃ F' env', Same F F' ∧ Rp X.K F' G H' σ env' ∧ Q o env'
section
variable {X : Cx} {env : Env} {Q : R → Env → Prop} {QO : Option Int → Env → Prop} {e : Expr} {lo hi : Option Expr} {pos p2 : Pos}
theorem po_w : PO X lo (wP X lo) := ⟨fun pins s σ H Q I h => h pins s I⟩
theorem vo_none (h : QO none env) : VO X none env QO := fun F G H σ Rq pins s I => po_none.run pins s σ H _ I ⟨F, env, .refl _, Rq, h⟩
theorem vo_some (h : VE X e env fun r e1 => ∃ i : Int, r = dd (.int i) ∧ QO (some i) e1) : VO X (some e) env QO := fun F G H σ Rq pins s I =>
  (po_some pe_w).run pins s σ H _ I ((h F G H σ Rq).imp fun v H1 ⟨F1, r, e1, s1, R1, q1, i, er, z⟩ => by
    subst er
    cases (show Dq X.K F1 v (.int i) from q1.rp)
    exact ⟨i, rfl, F1, e1, s1, R1, z⟩)
theorem ve_slice (h : VE X e env fun r e1 => VO X lo e1 fun o1 e2 => VO X hi e2 fun o2 e3 => SlV X r o1 o2 e3 Q) : VE X (.Subscript e (.Slice lo hi none p2) pos) env Q := fun F G H σ Rq => by
  refine wE_of (pe_slice wL_ok pe_w po_w po_w) ((h F G H σ Rq).imp fun v H1 ⟨F1, r, e1, s1, R1, q1, z1⟩ => ?_)
  obtain ⟨R1', fin⟩ := lend_step s1 R1 q1
  intro pins s I
  refine thn (z1 F1 _ H1 σ R1' pins s I) fun u s' ⟨o1, H2, I2, p1, F2, e2, s2, R2, z2⟩ => ⟨o1, H2, I2, p1, ?_⟩
  intro pins' s'' I'
  refine thn (z2 F2 _ H2 σ R2 pins' s'' I') fun u' s3 ⟨o2, H3, I3, p3, F3, e3, s3', R3, z3⟩ => ⟨o2, H3, I3, p3, ?_⟩
  obtain ⟨y1, y2, y3, _⟩ := fin (s2.trans s3') R3
  exact (z3 F3 G H3 σ v y2 y3).imp fun _ _ p => p.imp y1 fun _ _ p => p
/-- xs[::-1] of a list -/
theorem ve_revL {k : Nat} {p1 p2 p3 : Pos} (h : VE X e env fun r e1 => ∃ xs, Sees e1 r (.list xs) ∧ ∀ p, Q (.own (ls p xs.reverse)) e1) : VE X (.Subscript e (.Slice none none (some (.UnaryOp .USub (.Constant (.int 1) k p1) p2)) p3) pos) env Q := fun F G H σ Rq =>
  wE_of (pe_revL pe_w) ((h F G H σ Rq).imp fun v H1 ⟨F1, r, e1, s1, R1, q1, xs, sl, z⟩ => by
    obtain ⟨a, vs, rfl, ha, da⟩ := sees_lst sl R1 q1.rp
    exact ⟨a, vs, rfl, ha.sq, fun p n => (pv_lstd R1 n (dqs_rev da) (z p)).imp s1 fun _ _ p => p⟩)

/-! ### 24. built-in functions -/
theorem int_i {i : Int} (z : Q (dd (.int i)) env) : CallV X (.type "int") [dd (.int i)] env Q := fun F G H σ vs R rr => by
  obtain ⟨v, _, rfl, h1, h2⟩ := rr.rp
  rw [show _ = [] from h2]
  cases (show Dq X.K F v (.int i) from h1)
  exact wC_of call_int1 (.inl ⟨i, rfl, pv_int R z⟩)
theorem abs_i {i : Int} (z : Q (dd (.int (if i < 0 then -i else i))) env) : CallV X (.builtin "abs") [dd (.int i)] env Q := fun F G H σ vs R rr => by
  obtain ⟨v, _, rfl, h1, h2⟩ := rr.rp
  rw [show _ = [] from h2]
  cases (show Dq X.K F v (.int i) from h1)
  exact wC_of call_abs ⟨i, rfl, pv_int R z⟩
theorem min2_i {i j : Int} (hc : X.calm = true) (z : Q (dd (.int (if j < i then j else i))) env) : CallV X (.builtin "min") [dd (.int i), dd (.int j)] env Q := fun F G H σ vs R rr => by
  obtain ⟨v, _, rfl, h1, ⟨w, _, rfl, h2, h3⟩⟩ := rr.rp
  rw [show _ = [] from h3]
  cases (show Dq X.K F v (.int i) from h1)
  cases (show Dq X.K F w (.int j) from h2)
  exact wC_of (call_min2 hc) ⟨i, j, rfl, pv_int R z⟩
theorem max2_i {i j : Int} (hc : X.calm = true) (z : Q (dd (.int (if j > i then j else i))) env) : CallV X (.builtin "max") [dd (.int i), dd (.int j)] env Q := fun F G H σ vs R rr => by
  obtain ⟨v, _, rfl, h1, ⟨w, _, rfl, h2, h3⟩⟩ := rr.rp
  rw [show _ = [] from h3]
  cases (show Dq X.K F v (.int i) from h1)
  cases (show Dq X.K F w (.int j) from h2)
  exact wC_of (call_max2 hc) ⟨i, j, rfl, pv_int R z⟩
theorem sq_ints {K : PySem.W.Frag} {F G H : Hp} {σ : L2.St} {v : V} {r : R} {ns : List Int} (s : Sq env r (ns.map PyData.int)) (R : Rp K F G H σ env) (h : rrep K F H r v) : ∃ a, v = .ref a ∧ (SqL K H a (ns.map V.int) ∨ SqT K H a (ns.map V.int)) := by
  obtain ⟨a, vs, rfl, hs, hd⟩ := sq_rep s R h
  rw [dqs_ints hd] at hs
  exact ⟨a, rfl, hs⟩
theorem sum_i {r : R} {ns : List Int} (hc : X.calm = true) (s : Sq env r (ns.map PyData.int)) (z : Q (dd (.int ns.sum)) env) : CallV X (.builtin "sum") [r] env Q := fun F G H σ vs R rr pins s0 σ' us I ru => by
  obtain ⟨v, _, rfl, h1, h2⟩ := rr.rp
  rw [show _ = [] from h2] at ru
  obtain ⟨a, rfl, hs⟩ := sq_ints s R h1
  rcases hs with hs | hs
  · exact cr_sum hc pins s0 σ' H _ us _ I ru ⟨a, ns, rfl, hs, pv_int R z⟩
  · obtain ⟨u, rfl, rx⟩ := vals1 ru
    cases rx
    obtain ⟨its, rv, p1, _⟩ := I.tuple hs
    have hi := rv.ints
    obtain ⟨xs, e⟩ := hi.allInts.items
    have hn : PySem.numsOf (PySem.intItems xs).toList = ns := by rw [← e]; exact hi.numsOf
    rw [PySem.nums_intItems] at hn
    rw [e] at p1
    refine PySem.W.ktm_sumG (I.ok.hd hc) p1 fun h' tk t' hk => ?_
    rw [PySem.preSum_eq, List.take_of_length_le (by simp), hn]
    exact ⟨.int _, H, I.kept hk, ⟨_, rfl⟩, pv_int R z⟩
theorem minL_i {r : R} {ns : List Int} (hc : X.calm = true) (s : Sees env r (.list (ns.map PyData.int))) (hne : 0 < ns.length) (z : ∀ m, m ∈ ns → (∀ a ∈ ns, m ≤ a) → Q (dd (.int m)) env) : CallV X (.builtin "min") [r] env Q := fun F G H σ vs R rr => by
  obtain ⟨v, _, rfl, h1, h2⟩ := rr.rp
  rw [show _ = [] from h2]
  obtain ⟨a, ws, rfl, ha, da⟩ := sees_lst s R h1
  rw [dqs_ints da] at ha
  exact wC_of (cr_min hc) ⟨a, ns, rfl, ha.sq, hne, fun m hm hle => pv_int R (z m hm hle)⟩
theorem maxL_i {r : R} {ns : List Int} (hc : X.calm = true) (s : Sees env r (.list (ns.map PyData.int))) (hne : 0 < ns.length) (z : ∀ m, m ∈ ns → (∀ a ∈ ns, a ≤ m) → Q (dd (.int m)) env) : CallV X (.builtin "max") [r] env Q := fun F G H σ vs R rr => by
  obtain ⟨v, _, rfl, h1, h2⟩ := rr.rp
  rw [show _ = [] from h2]
  obtain ⟨a, ws, rfl, ha, da⟩ := sees_lst s R h1
  rw [dqs_ints da] at ha
  exact wC_of (cr_max hc) ⟨a, ns, rfl, ha.sq, hne, fun m hm hle => pv_int R (z m hm hle)⟩
theorem minT_i {n : Int} {ns : List Int} (hc : X.calm = true) (hu : X.A.units + 64 < cLine) (z : Q (dd (.int (PySem.W.minOf n ns))) env) : CallV X (.builtin "min") [dd (.tuple ((n :: ns).map PyData.int))] env Q := fun F G H σ vs R rr pins s0 σ' us I ru => by
  obtain ⟨v, _, rfl, h1, h2⟩ := rr.rp
  rw [show _ = [] from h2] at ru
  obtain ⟨a, ws, rfl, ha, da⟩ := tup_at R h1
  obtain ⟨u, rfl, rx⟩ := vals1 ru
  cases rx
  obtain rfl := dqs_ints da
  obtain ⟨its, rv, p1, _⟩ := inv_tup I ha
  refine PySem.W.min_tuple_datum (α := Int) (I.ok.hd hc) p1 (holdAll_ints rv) (by show X.A.units + 1 + 0 < cLine; omega) fun i v h' tk hi hh hk => ?_
  obtain ⟨as, hr⟩ := hh
  cases hr
  exact ⟨.int _, H, I.kept hk, ⟨_, rfl⟩, pv_int R z⟩
/-- sorted of numbers -/
theorem sorted_i {r : R} {ns : List Int} (s : Sees env r (.list (ns.map PyData.int))) (z : ∀ (ns' : List Int) (p : Addr), ns'.Perm ns → ns'.Pairwise (· ≤ ·) → Q (.own (ls p (ns'.map PyData.int))) env) : CallV X (.builtin "sorted") [r] env Q := fun F G H σ vs R rr => by
  obtain ⟨v, _, rfl, h1, h2⟩ := rr.rp
  rw [show _ = [] from h2]
  obtain ⟨a, ws, rfl, ha, da⟩ := sees_lst s R h1
  rw [dqs_ints da] at ha
  exact wC_of cr_sortedI ⟨a, ns, rfl, ha.sq, fun ns' p hp hw n => pv_lstd R n (ints_dqs ns') (z ns' p hp hw)⟩
/-- all, any of a list of truth values -/
theorem all_b {r : R} {bs : List Bool} (hc : X.calm = true) (s : Sees env r (.list (bs.map PyData.bool))) (z : Q (dd (.bool (bs.all id))) env) : CallV X (.builtin "all") [r] env Q := fun F G H σ vs R rr => by
  obtain ⟨v, _, rfl, h1, h2⟩ := rr.rp
  rw [show _ = [] from h2]
  obtain ⟨a, ws, rfl, ha, da⟩ := sees_lst s R h1
  rw [dqs_bools da] at ha
  exact wC_of (cr_all hc) ⟨a, bs, rfl, ha.sq, pv_bl R z⟩
theorem noDictAll {xs : List PyData} (h : ∀ x ∈ xs, x.hasDict = false) : PyData.hasDictAll xs = false := by
  induction xs with
  | nil => rfl
  | cons x xs ih =>
    simp only [PyData.hasDictAll, h x List.mem_cons_self, ih fun y hy => h y (List.mem_cons_of_mem _ hy), Bool.or_false]
mutual
theorem plain_noDict : ∀ x : PyData, x.plain = true → x.hasDict = false
  | .none, _ => by simp [PyData.hasDict]
  | .bool _, _ => by simp [PyData.hasDict]
  | .int _, _ => by simp [PyData.hasDict]
  | .str _, _ => by simp [PyData.hasDict]
  | .list xs, h => by
    simp only [PyData.hasDict]
    exact plain_noDictAll xs (by simpa [PyData.plain] using h)
  | .tuple xs, h => by
    simp only [PyData.hasDict]
    exact plain_noDictAll xs (by simpa [PyData.plain] using h)
  | .dict _, h => by simp [PyData.plain] at h
theorem plain_noDictAll : ∀ xs : List PyData, PyData.plainAll xs = true → PyData.hasDictAll xs = false
  | [], _ => by simp [PyData.hasDictAll]
  | x :: xs, h => by
    have h' : x.plain = true ∧ PyData.plainAll xs = true := by simpa [PyData.plainAll] using h
    simp [PyData.hasDictAll, plain_noDict x h'.1, plain_noDictAll xs h'.2]
end
/-- repr of data -/
theorem repr_d {r : R} {x : PyData} (hg : X.A.guards = some []) (hu : X.A.units + 64 < cLine) (s : Sees env r x) (h1 : x.plain = true) (h2 : x.showable = true) (hd : x.depth ≤ 60) (hz : x.shown.length ≤ sizeLine) (z : Q (dd (.str x.shown)) env) : CallV X (.builtin "repr") [r] env Q := fun F G H σ vs R rr pins s0 σ' us I ru => by
  obtain ⟨v, _, rfl, h1', h2'⟩ := rr.rp
  rw [show _ = [] from h2'] at ru
  obtain ⟨u, rfl, rx⟩ := vals1 ru
  have dp := sees_dp s R h1'
  obtain ⟨as, ra⟩ := dp_reads I dp rx
  have fin : ∀ (h' : Heap) (u' : Tok) (tk : Nat), (∀ b o, s0.heap.get? b = some o → h'.get? b = some o) → EP X pins σ' (PV X.K F G σ Q) (.str x.shown u') { s0 with heap := h', toks := tk } :=
    fun h' u' tk hk => ⟨.str x.shown, H, I.kept hk, ⟨_, rfl⟩, pv_str R z⟩
  have fin0 : ∀ (u' : Tok) (tk : Nat) (y : Str), y = x.shown → EP X pins σ' (PV X.K F G σ Q) (.str y u') { s0 with toks := tk } := by
    intro u' tk y e
    subst e
    exact ⟨.str x.shown, H, I.tok tk, ⟨_, rfl⟩, pv_str R z⟩
  cases ra with
  | none => exact PySem.P.repr_of_none (fin0 _ _ _ (by simp [PyData.shown]))
  | bool b => exact PySem.P.repr_of_bool (fin0 _ _ _ (by simp [PyData.shown]))
  | int i t => exact PySem.P.repr_of_int (by simpa [PyData.showable] using h2) (fin0 _ _ _ (by simp [PyData.shown]))
  | str y t => exact PySem.P.repr_of_str (fin0 _ _ _ (by simp [PyData.shown])) (by simpa [PyData.shown] using hz)
  | list a1 a2 a3 a4 => exact repr_of_reads' (.list a1 a2 a3 a4) h2 (fun h => absurd h (by rw [plain_noDict _ h1]; simp)) hg (by omega) (fun _ _ e => e) (fun h' u' tk hk => fin h' u' tk hk) hz
  | tuple a1 a2 a3 a4 => exact repr_of_reads' (.tuple a1 a2 a3 a4) h2 (fun h => absurd h (by rw [plain_noDict _ h1]; simp)) hg (by omega) (fun _ _ e => e) (fun h' u' tk hk => fin h' u' tk hk) hz
  | dict a1 a2 a3 a4 a5 => simp [PyData.plain] at h1
end
end VL

/-! text VL13 -/
set_option Elab.async false
set_option linter.all false
set_option maxRecDepth 100000
set_option maxHeartbeats 2000000
namespace VL
open PySem PySem.Spec L2

/-! ### 20. what is walked -/
theorem Gw.same {F G H F' H' : Hp} (g : Gw F G H F' H') : Same F F' := g.ff
section
variable {X : Cx} {K : PySem.W.Frag} {F G H : Hp} {σ : L2.St} {env : Env} {Q : R → Env → Prop} {D : Dn} {tg e a b : Expr} {p pos tpos : Pos} {xs : List PyData}
/-- an object of one's own, told to stand still -/
theorem freeze {v : V} {q : Addr} (R : Rp K F G H σ env) (h : Vr K F G H env v (ls q xs)) : ∃ F', Same F F' ∧ Rp K F' G H σ env ∧ Dq K F' v (.list xs) := by
  obtain ⟨vs, rfl, hp, hd⟩ := nd_dp R.bs h.rp
  have hq : q ∈ nodes (ls q xs) := List.mem_cons_self
  obtain ⟨f1, f2, f3⟩ := h.fr q hq
  have s : Same F (upd F q (.lst vs)) := fun a o ha => by
    by_cases ea : a = q
    · subst ea; rw [f2] at ha; cases ha
    · rw [upd_ne ea]; exact ha
  have b : Bs (upd F q (.lst vs)) G H := ⟨fun a o ha => by
    by_cases ea : a = q
    · subst ea; rw [upd_same] at ha; cases ha; exact hp
    · rw [upd_ne ea] at ha; exact R.bs.fh a o ha, R.bs.gh, fun a o ha => by
    by_cases ea : a = q
    · subst ea; rw [f3] at ha; cases ha
    · rw [upd_ne ea]; exact R.bs.gf a o ha⟩
  refine ⟨_, s, ⟨b, R.nd, fun a ha => ⟨?_, (R.fr a ha).2⟩, R.re.frame s fun _ _ => rfl⟩, .lst (.inl (.inl (upd_same ..))) (dqs_mono s _ _ hd)⟩
  by_cases ea : a = q
  · subst ea; exact absurd ha f1
  · rw [upd_ne ea]; exact (R.fr a ha).1
theorem ve_still (h : VE X e env fun r e1 => ∃ q xs, r = .own (ls q xs) ∧ Q (dd (.list xs)) e1) : VE X e env Q := fun F G H σ Rq =>
  (h F G H σ Rq).imp fun v H1 ⟨F1, r, e1, s, R1, q1, q, xs, er, z⟩ => by
    subst er
    obtain ⟨F2, s2, R2, d⟩ := freeze R1 q1.vr
    exact ⟨F2, _, e1, s.trans s2, R2, .d d, z⟩
theorem jok_seq {xs : List PyData} {vs : List V} {J : It} (hd : Dqs K F vs xs)
    (go : ∀ F' G' H' σ' e' i v, Same F F' → Rp K F' G' H' σ' e' → vs[i]? = some v → J.go i H') (yl : ∀ F' G' H' σ' e' i v w H'', Same F F' → Rp K F' G' H' σ' e' → vs[i]? = some v → J.yld i H' w H'' → H'' = H' ∧ w = v)
    (st : ∀ F' G' H' σ' e' i, Same F F' → Rp K F' G' H' σ' e' → vs.length ≤ i → J.stop i H') : JOk K F J (xs.map it) (fun _ => True) := fun F' G' H' σ' e' i s R _ => by
  refine ⟨fun x hx => ?_, fun hl => st F' G' H' σ' e' i s R (by rw [dpa_len hd]; simpa using hl)⟩
  rw [List.getElem?_map] at hx
  cases ex : xs[i]? with
  | none => rw [ex] at hx; cases hx
  | some d =>
    rw [ex] at hx
    cases hx
    obtain ⟨v, hv, dv⟩ := dqs_get hd ex
    refine ⟨rfl, go F' G' H' σ' e' i v s R hv, fun w H'' hy => ?_⟩
    obtain ⟨rfl, rfl⟩ := yl F' G' H' σ' e' i v w H'' s R hv hy
    exact ⟨F', .refl R.bs, Vr.d (dq_mono s _ _ dv)⟩
theorem vi_list {Q : List Itm → (Env → Prop) → Env → Prop} (h : VE X e env fun r e1 => ∃ xs, r = dd (.list xs) ∧ Q (xs.map it) (fun _ => True) e1) : VI X tg e env Q :=
  ⟨_, pi_list pe_w, fun F G H σ Rq S k => (h F G H σ Rq).imp fun v H1 ⟨F1, r, e1, s, R1, q1, xs, er, z⟩ => by
    subst er
    cases (show Dq X.K F1 v (.list xs) from q1.rp) with
    | @lst a vs _ hs hd =>
      refine ⟨a, rfl, ⟨vs, (hs.up R1.bs.fh).sq⟩, k _ H1 F1 (xs.map it) (fun _ => True) e1 s R1 (jok_seq hd (fun F' G' H' σ' e' i v s R hv => ⟨vs, v, ((hs.up s).up R.bs.fh).sq, hv⟩) (fun F' G' H' σ' e' i v w H'' s R hv ⟨e1, e2⟩ => ⟨e1, ?_⟩) fun F' G' H' σ' e' i s R hl => ⟨vs, ((hs.up s).up R.bs.fh).sq, hl⟩) z⟩
      have := e2 vs ((hs.up s).up R.bs.fh).sq
      rw [hv] at this
      exact (Option.some.inj this).symm⟩
theorem vi_tup {Q : List Itm → (Env → Prop) → Env → Prop} (h : VE X e env fun r e1 => ∃ xs, r = dd (.tuple xs) ∧ Q (xs.map it) (fun _ => True) e1) : VI X tg e env Q :=
  ⟨_, pi_tup pe_w, fun F G H σ Rq S k => (h F G H σ Rq).imp fun v H1 ⟨F1, r, e1, s, R1, q1, xs, er, z⟩ => by
    subst er
    cases (show Dq X.K F1 v (.tuple xs) from q1.rp) with
    | @tup a vs _ hs hd =>
      refine ⟨a, rfl, ⟨vs, (hs.up R1.bs.fh).sq⟩, k _ H1 F1 (xs.map it) (fun _ => True) e1 s R1 (jok_seq hd (fun F' G' H' σ' e' i v s R hv => ⟨vs, v, ((hs.up s).up R.bs.fh).sq, hv⟩) (fun F' G' H' σ' e' i v w H'' s R hv ⟨e1, e2⟩ => ⟨e1, ?_⟩) fun F' G' H' σ' e' i s R hl => ⟨vs, ((hs.up s).up R.bs.fh).sq, hl⟩) z⟩
      have := e2 vs ((hs.up s).up R.bs.fh).sq
      rw [hv] at this
      exact (Option.some.inj this).symm⟩
/-- lo, lo + 1, .. -/
def rng (lo : Int) (n : Nat) : List Itm := (List.range n).map fun i => it (.int (lo + (i : Nat)))
theorem rng_len (lo : Int) (n : Nat) : (rng lo n).length = n := by simp [rng]
theorem rng_get {lo : Int} {n i : Nat} {x : Itm} (h : (rng lo n)[i]? = some x) : i < n ∧ x = it (.int (lo + (i : Nat))) := by
  unfold rng at h
  rw [List.getElem?_map] at h
  by_cases hi : i < n
  · rw [List.getElem?_range hi] at h
    exact ⟨hi, (Option.some.inj h).symm⟩
  · rw [List.getElem?_eq_none (by simp; omega)] at h
    cases h
theorem jok_rng (lo : Int) (n : Nat) : JOk K F (Itr lo n) (rng lo n) (fun _ => True) := fun F' G' H' σ' e' i s R _ => by
  refine ⟨fun x hx => ?_, fun hl => by rw [rng_len] at hl; exact hl⟩
  obtain ⟨hi, rfl⟩ := rng_get hx
  exact ⟨rfl, hi, fun w H'' ⟨e1, e2⟩ => by subst e1 e2; exact ⟨F', .refl R.bs, Vr.d (.int _)⟩⟩
theorem vi_range1 {Q : List Itm → (Env → Prop) → Env → Prop} (h : VE X a env fun r e1 => ∃ j : Int, r = dd (.int j) ∧ -(2 ^ 62) ≤ j ∧ j < 2 ^ 62 ∧ Q (rng 0 j.toNat) (fun _ => True) e1)
    (hg : Gl X "range" := by rfl) (hm : X.mg "range" = none := by assumption) (hs : starEach [a] X.env = [(false, eval a X.env)] := by rfl) : VI X tg (.Call (.Name "range" p) [a] [] pos) env Q :=
  ⟨_, pi_range1 hg hm pa_w hs, fun F G H σ Rq S k => ((ves_cons (X := X) (env := env) (e := a) (es := []) (Q := fun rs e1 => ∃ j : Int, rs = [dd (.int j)] ∧ -(2 ^ 62) ≤ j ∧ j < 2 ^ 62 ∧ Q (rng 0 j.toNat) (fun _ => True) e1)
    (h.imp fun r e1 ⟨j, er, l1, l2, z⟩ => ves_nil ⟨j, by rw [er], l1, l2, z⟩) (by rw [hs]; rfl)) F G H σ Rq).imp fun vs H1 ⟨F1, rs, e1, s, R1, q1, j, er, l1, l2, z⟩ => by
    subst er
    obtain ⟨v, r1, ev, h1, h3⟩ := q1.rp
    cases (show Dq X.K F1 v (.int j) from h1)
    have h3' : r1 = [] := h3
    subst h3' ev
    exact ⟨j, rfl, l1, l2, k _ H1 F1 _ (fun _ => True) e1 s R1 (jok_rng 0 _) z⟩⟩
theorem vi_range2 {Q : List Itm → (Env → Prop) → Env → Prop} (h : VEs X [a, b] env fun rs e1 => ∃ i j : Int, rs = [dd (.int i), dd (.int j)] ∧ (-(2 ^ 62) ≤ i ∧ i < 2 ^ 62 ∧ -(2 ^ 62) ≤ j ∧ j < 2 ^ 62) ∧ Q (rng i (j - i).toNat) (fun _ => True) e1)
    (hg : Gl X "range" := by rfl) (hm : X.mg "range" = none := by assumption) (hs : starEach [a, b] X.env = [(false, eval a X.env), (false, eval b X.env)] := by rfl) (hs2 : starEach [b] X.env = [(false, eval b X.env)] := by rfl) : VI X tg (.Call (.Name "range" p) [a, b] [] pos) env Q :=
  ⟨_, pi_range2 hg hm pa_w hs hs2, fun F G H σ Rq S k => (h F G H σ Rq).imp fun vs H1 ⟨F1, rs, e1, s, R1, q1, i, j, er, l, z⟩ => by
    subst er
    obtain ⟨v, r1, ev, h1, ⟨w, r2, ew, h2, h3⟩⟩ := q1.rp
    cases (show Dq X.K F1 v (.int i) from h1)
    cases (show Dq X.K F1 w (.int j) from h2)
    have h3' : r2 = [] := h3
    subst h3' ew ev
    exact ⟨i, j, rfl, l, k _ H1 F1 _ (fun _ => True) e1 s R1 (jok_rng i _) z⟩⟩
end
end VL

/-! text VL14 -/
set_option Elab.async false
set_option linter.all false
set_option maxRecDepth 100000
set_option maxHeartbeats 2000000
namespace VL
open PySem PySem.Spec L2
open Sem (wp)
open AutoSeq1 (wpAny_loadPart')

/-! enumerate(tuple) -/
theorem meets_enumT {v : Value} {o : Obj} {H : Heap → Prop} (B : Begins v o H) :
    Meets (Builtin.«enumerate.__new__» ⟨[.type "enumerate", v], []⟩) (fun _ R s => H s.heap ∧
      R (.ok (.ret (.ref (s.heap.push o).objs.size))) { s with heap := (s.heap.push o).push { cls := .type "enumerate", data := .fields #[.none, .bool false, .ref s.heap.objs.size, rawInt 0, .none, .none] } }) :=
  .of_wp fun prog w A R s h => by
    obtain ⟨hp, g, d, tk, os⟩ := s; obtain ⟨h1, h⟩ := h
    have hsub := sub_enumerate
    have q1 : ∀ {A' : Around} {E : Value → Shared → Prop} {Q : Value → Shared → Prop}, Q (.ref hp.objs.size) ⟨hp.push o, g, d, tk, os⟩ → wpAny (model prog w) A' (pyIter v) Q E ⟨hp, g, d, tk, os⟩ :=
      fun q => B.iter prog w _ _ ⟨hp, g, d, tk, os⟩ _ h1 q
    wp_walk using q1
    refine wpAny_stack_any fun st => wpAny_pure ?_
    split
    · rename_i c _ _ _ _ _
      cases (c == Value.type "enumerate")
      · wp_walk using q1
        exact ⟨_, rfl, h⟩
      · wp_walk using q1
        exact ⟨_, rfl, h⟩
    · wp_walk using q1
      exact ⟨_, rfl, h⟩

section
variable {prog : Program} {w : World} {A : Around} {E : Value → Shared → Prop} {s : Shared}
theorem call_enumT {v : Value} {o : Obj} {H : Heap → Prop} {Q : Value → Shared → Prop} (B : Begins v o H) (h1 : H s.heap)
    (h : ∀ h', IsEnum h' (s.heap.objs.size + 1) s.heap.objs.size 0 .none → h'.get? s.heap.objs.size = some o → h'.objs.size = s.heap.objs.size + 2 →
      (∀ b o, s.heap.get? b = some o → h'.get? b = some o) → Q (.ref (s.heap.objs.size + 1)) { s with heap := h' }) :
    wpAny (model prog w) A (call (.type "enumerate") [v]) Q E s := by
  refine callType_new F.called_enumerate (by decide) (F.typeCall_enumerate_1 _) (F.newCall_enumerate_1 _) (fun obj => F.args_object_init_2 obj _) F.entry_enumerate_new
    (meets_enumT B) ⟨h1, ?_⟩
  have hz : (s.heap.push o).objs.size = s.heap.objs.size + 1 := Heap.size_push ..
  show _ ∧ _
  rw [hz]
  have he : IsEnum ((s.heap.push o).push { cls := .type "enumerate", data := .fields #[.none, .bool false, .ref s.heap.objs.size, rawInt 0, .none, .none] }) (s.heap.objs.size + 1) s.heap.objs.size 0 .none := by
    have := Heap.get?_push_size (s.heap.push o) (o := { cls := .type "enumerate", data := .fields #[.none, .bool false, .ref s.heap.objs.size, rawInt 0, .none, .none] }) rfl
    rw [hz] at this; exact this
  exact ⟨⟨_, he, rfl⟩, h _ he (Heap.get?_push_of_some _ (Heap.get?_push_size _ B.free)) (by rw [Heap.size_push, hz]) fun b o x => Heap.get?_push_of_some _ (Heap.get?_push_of_some _ x)⟩
end
/-- the tuple at a, each item in a new pair -/
def IteT (K : PySem.W.Frag) (a : Addr) : It :=
  ⟨fun i H => ∃ (xs : List V) (x : V), SqT K H a xs ∧ xs[i]? = some x, fun i H v H' => ∃ T x, v = .ref T ∧ H T = none ∧ H' = upd H T (.tup [.int (i : Nat), x]) ∧ ∀ xs, SqT K H a xs → xs[i]? = some x, fun i H => ∃ xs : List V, SqT K H a xs ∧ xs.length ≤ i⟩
theorem turn_enumT {P : Program} {w : World} {K : PySem.W.Frag} {elts : List Expr} {kk : Nat} {tpos : Pos} (a e it : Addr) :
    Turn P w K (.Tuple elts kk tpos) (IteT K a) [e, it] e (fun i h => (∃ old, IsEnum h e it ((i : Nat) : Int) old) ∧ h.IsTupleIter it a i ∧ e ≠ it) where
  mem := by simp
  obj := fun i h st b hb => by
    obtain ⟨⟨old, he⟩, ⟨o, ho, hc, hd⟩, _⟩ := st
    have e' : b = e ∨ b = it := by simpa using hb
    rcases e' with z | z
    · rw [z]; exact ⟨_, he, fun v q => nomatch q⟩
    · rw [z]; exact ⟨o, ho, fun v q => by rw [hd] at q; cases q⟩
  keep := fun i h h' st k => let ⟨⟨old, he⟩, hi, hne⟩ := st; ⟨⟨old, k e (by simp) _ he⟩, hi.at fun o q => k it (by simp) o q, hne⟩
  item := by
    intro X hP hw hK hc i pins s σ H E I hf st hg
    subst hP hw hK
    obtain ⟨⟨old, he⟩, hit, hne⟩ := st
    obtain ⟨xs, x, hq, hx⟩ := hg
    obtain ⟨its, rv, p, hz⟩ := I.tuple hq
    obtain ⟨u, hu, ru⟩ := rv.get hx
    have p' : s.heap.IsTuple a its.toArray := p
    have hel : e < s.heap.objs.size := Heap.lt_size he
    have hil : it < s.heap.objs.size := by obtain ⟨_, q, _⟩ := hit; exact Heap.lt_size q
    have hta : a ≠ it := fun z => by
      obtain ⟨o1, q1, c1, _⟩ := hit
      obtain ⟨o2, q2, c2, _⟩ := p'
      rw [z, q1] at q2
      cases q2
      rw [c1] at c2
      exact absurd c2 (by decide)
    have hea : a ≠ e := fun z => by
      obtain ⟨o2, q2, c2, _⟩ := p'
      rw [z, he] at q2
      cases q2
      exact absurd (show Value.type "enumerate" = Value.type "tuple" from c2) (by decide)
    have D := Draws.tuple (prog := X.prog) (w := X.w) (A := X.A.in1) (I.ok.hd hc) it a hta its.toArray
    have hlt : i < its.toArray.size := by
      have hl := (List.getElem?_eq_some_iff.mp hu).1
      simpa using hl
    refine wpAny_pyNext_enum_itemD D he ⟨hit, p'⟩ hlt hne (by simp; exact ⟨hne, hea.symm⟩) fun x' h' tk hPx ho hst hT hsz hk => ?_
    have ex : x' = u := by
      have : its.toArray[i]? = some x' := hPx
      have h2 : its.toArray[i]? = some u := by simpa using hu
      rw [this] at h2
      exact Option.some.inj h2
    subst ex
    obtain ⟨hit', _⟩ := hst
    refine ⟨_, rfl, wpAny_letOwnedTupleGo_enum (s := { s with heap := h', toks := tk + 1 }) ho fun h'' he' sb => ?_⟩
    have hT2 : h''.get? s.heap.objs.size = some { cls := .type "tuple", data := .seq #[.int i tk, x'] } := (sb.2 _ (Nat.ne_of_gt hel)).trans hT
    have new : ObjOk X.prog X.w (upd H s.heap.objs.size (.tup [.int (i : Nat), x])) h'' s.heap.objs.size (.tup [.int (i : Nat), x]) :=
      ⟨by show 2 ≤ sizeLine; decide, [.int i tk, x'], .cons ⟨_, rfl⟩ (.cons ru .nil), ⟨_, hT2, rfl, _, rfl⟩⟩
    have I1 : Inv X pins σ (upd H s.heap.objs.size (.tup [.int (i : Nat), x])) { s with heap := h'', toks := tk + 1 } :=
      I.turnedNew (ch := [e, it]) (fun b ob hb q => (sb.2 b (fun z => hb (by simp [z]))).trans (hk b ob (fun z => hb (by simp [z])) (fun z => hb (by simp [z])) q)) hf (Nat.le_refl _) new
    refine ⟨.ref s.heap.objs.size, _, I1, rfl, ⟨_, x, rfl, I.hok.fresh (Nat.le_refl _), rfl, fun ys hy => by rw [I.tuple_inj hy hq]; exact hx⟩, ⟨⟨x', ?_⟩, hit'.at fun o q => (sb.2 it (Ne.symm hne)).trans q, hne⟩, fun b hb => ?_⟩
    · have e1 : ((i + 1 : Nat) : Int) = (i : Int) + 1 := by omega
      rw [e1]; exact he'
    · have hb' : b < s.heap.objs.size := by
        have e' : b = e ∨ b = it := by simpa using hb
        rcases e' with z | z
        · rw [z]; exact hel
        · rw [z]; exact hil
      rw [upd_ne (Nat.ne_of_lt hb')]
      exact (hf b hb).1
  done := by
    intro X hP hw hK hc i pins s σ H E I hf st hg
    subst hP hw hK
    obtain ⟨⟨old, he⟩, hit, hne⟩ := st
    obtain ⟨xs, hq, hx⟩ := hg
    obtain ⟨its, rv, p, hz⟩ := I.tuple hq
    have p' : s.heap.IsTuple a its.toArray := p
    have hl := rv.length
    have hta : a ≠ it := fun z => by
      obtain ⟨o1, q1, c1, _⟩ := hit
      obtain ⟨o2, q2, c2, _⟩ := p'
      rw [z, q1] at q2
      cases q2
      rw [c1] at c2
      exact absurd c2 (by decide)
    have hxn : its.toArray[i]? = none := Array.getElem?_eq_none (by simp; omega)
    have D : Draws X.prog X.w X.A.in1 it [it, a] i (fun _ _ => False) (fun j h => j = i ∧ h.IsTupleIter it a i ∧ h.IsTuple a its.toArray) := {
      live := fun _ _ st => let ⟨o, ho, _⟩ := st.2.1; ⟨o, ho⟩
      frame := fun _ _ _ st hk => ⟨st.1, st.2.1.at fun o e => hk it (by simp) o e, st.2.2.at fun o e => hk a (by simp) o e⟩
      item := fun j s Q E hi st hQ => absurd hi (by rw [st.1]; exact Nat.lt_irrefl _)
      done := fun s Q E st hE => wpAny_nextOf_tuple_end (I.ok.hd hc) st.2.1 st.2.2 hxn hE }
    exact wpAny_pyNext_enum_endD D he ⟨rfl, hit, p'⟩ fun h' eb => ⟨rfl, I.turned (t' := s.toks) (fun b o hb q => eb b o hb q) (hf it (by simp)).1 (hf it (by simp)).2.1 (hf it (by simp)).2.2.2.1 (hf it (by simp)).2.2.2.2.1 (hf it (by simp)).2.2.2.2.2⟩
  self := fun A i s Q E st h => let ⟨⟨_, he⟩, _⟩ := st; wpAny_pyIter_enum he h
def iEnumT (K : PySem.W.Frag) (ta : TA) : TI := fun σ H R => ta σ H fun vs H1 => ∃ a xs, vs = [.ref a] ∧ SqT K H1 a xs ∧ R (IteT K a) H1
theorem pi_enumT {X : Cx} {e : Expr} {ta : TA} {p pos tpos : Pos} {elts : List Expr} {kk : Nat} (hg : Gl X "enumerate") (hm : X.mg "enumerate" = none) (ha : PA X [e] ta) (hs : starEach [e] X.env = [(false, eval e X.env)] := by rfl) :
    PI X (.Tuple elts kk tpos) (.Call (.Name "enumerate" p) [e] [] pos) (iEnumT X.K ta) := by
  refine ⟨fun pins s σ H R I h => ?_⟩
  refine PyProof.Rows.Call_ (ld_blt I hg hm PyProof.Rows.boot_enumerate (PyProof.Rows.callWith_type1 (thn (ha.run pos pins s σ H _ I h) fun us s1 ⟨vs, H1, I1, r1, q1⟩ => ?_) hs rfl))
  obtain ⟨a, xs, ex, hq, q⟩ := q1
  subst ex
  cases r1 with
  | cons r rr =>
    cases rr
    cases r
    obtain ⟨its, rv, p', hz⟩ := I1.tuple hq
    have p'' : s1.heap.IsTuple a its.toArray := p'
    refine call_enumT (begins_tuple a its.toArray) p'' fun h' he hit hsz hk => wpAny_pyIter_enum he ?_
    have I2 : Inv X pins σ H1 { s1 with heap := h' } := I1.kept (t' := s1.toks) hk
    refine ⟨s1.heap.objs.size + 1, [s1.heap.objs.size + 1, s1.heap.objs.size], _, _, H1, rfl, I2, turn_enumT a (s1.heap.objs.size + 1) s1.heap.objs.size, ⟨⟨.none, he⟩, ⟨_, hit, rfl, rfl⟩, Nat.succ_ne_self _⟩, fun b hb => ?_, q⟩
    have e' : b = s1.heap.objs.size + 1 ∨ b = s1.heap.objs.size := by simpa using hb
    have hle : s1.heap.objs.size ≤ b := by
      rcases e' with z | z
      · rw [z]; exact Nat.le_add_right _ _
      · rw [z]; exact Nat.le_refl _
    exact I1.fpOk hle (I1.hok.fresh hle)
/-- pairs of numbers and items -/
def enu (xs : List PyData) : List Itm := (List.range xs.length).map fun i => .row [.int (i : Nat), xs.getD i .none]
theorem enu_len (xs : List PyData) : (enu xs).length = xs.length := by simp [enu]
theorem enu_get {xs : List PyData} {i : Nat} {x : Itm} (h : (enu xs)[i]? = some x) : ∃ d, xs[i]? = some d ∧ x = .row [.int (i : Nat), d] := by
  unfold enu at h
  rw [List.getElem?_map] at h
  by_cases hi : i < xs.length
  · rw [List.getElem?_range hi] at h
    exact ⟨xs[i], List.getElem?_eq_getElem hi, by simpa [List.getD, hi] using (Option.some.inj h).symm⟩
  · rw [List.getElem?_eq_none (by simp; omega)] at h
    cases h
section
variable {X : Cx} {K : PySem.W.Frag} {F G H : Hp} {σ : L2.St} {env : Env} {e : Expr} {p pos tpos : Pos} {elts : List Expr} {kk : Nat}
theorem jok_enu {xs : List PyData} {vs : List V} {J : It} (hd : Dqs K F vs xs)
    (go : ∀ F' G' H' σ' e' i v, Same F F' → Rp K F' G' H' σ' e' → vs[i]? = some v → J.go i H')
    (yl : ∀ F' G' H' σ' e' i v w H'', Same F F' → Rp K F' G' H' σ' e' → vs[i]? = some v → J.yld i H' w H'' → ∃ T, w = .ref T ∧ H' T = none ∧ H'' = upd H' T (.tup [.int (i : Nat), v]))
    (st : ∀ F' G' H' σ' e' i, Same F F' → Rp K F' G' H' σ' e' → vs.length ≤ i → J.stop i H') : JOk K F J (enu xs) (fun _ => True) := fun F' G' H' σ' e' i s R _ => by
  refine ⟨fun x hx => ?_, fun hl => st F' G' H' σ' e' i s R (by rw [dpa_len hd]; simpa [enu_len] using hl)⟩
  obtain ⟨d, ex, rfl⟩ := enu_get hx
  obtain ⟨v, hv, dv⟩ := dqs_get hd ex
  refine ⟨trivial, go F' G' H' σ' e' i v s R hv, fun w H'' hy => ?_⟩
  obtain ⟨T, rfl, hn, rfl⟩ := yl F' G' H' σ' e' i v w H'' s R hv hy
  exact ⟨F', Gw.any R.bs hn _, T, _, rfl, SqT.of (upd_same ..), .cons (.int _) (.cons (dq_mono s _ _ dv) .nil)⟩
theorem vi_enumT {Q : List Itm → (Env → Prop) → Env → Prop} (h : VE X e env fun r e1 => ∃ xs, r = dd (.tuple xs) ∧ Q (enu xs) (fun _ => True) e1)
    (hg : Gl X "enumerate" := by rfl) (hm : X.mg "enumerate" = none := by assumption) (hs : starEach [e] X.env = [(false, eval e X.env)] := by rfl) : VI X (.Tuple elts kk tpos) (.Call (.Name "enumerate" p) [e] [] pos) env Q :=
  ⟨_, pi_enumT hg hm pa_w hs, fun F G H σ Rq S k => ((ves_cons (X := X) (env := env) (e := e) (es := []) (Q := fun rs e1 => ∃ xs, rs = [dd (.tuple xs)] ∧ Q (enu xs) (fun _ => True) e1)
    (h.imp fun r e1 ⟨xs, er, z⟩ => ves_nil ⟨xs, by rw [er], z⟩) (by rw [hs]; rfl)) F G H σ Rq).imp fun vs H1 ⟨F1, rs, e1, s, R1, q1, xs, er, z⟩ => by
    subst er
    obtain ⟨v, r1, ev, h1, h3⟩ := q1.rp
    have h3' : r1 = [] := h3
    subst h3' ev
    cases (show Dq X.K F1 v (.tuple xs) from h1) with
    | @tup a vs _ hs hd =>
      refine ⟨a, vs, rfl, (hs.up R1.bs.fh).sq, k _ H1 F1 (enu xs) (fun _ => True) e1 s R1 (jok_enu hd (fun F' G' H' σ' e' i v s R hv => ⟨vs, v, ((hs.up s).up R.bs.fh).sq, hv⟩) (fun F' G' H' σ' e' i v w H'' s R hv ⟨T, y, e1, e2, e3, e4⟩ => ⟨T, e1, e2, ?_⟩) fun F' G' H' σ' e' i s R hl => ⟨vs, ((hs.up s).up R.bs.fh).sq, hl⟩) z⟩
      have := e4 vs ((hs.up s).up R.bs.fh).sq
      rw [hv] at this
      rw [e3, Option.some.inj this]⟩
theorem vi_enumL {Q : List Itm → (Env → Prop) → Env → Prop} (h : VE X e env fun r e1 => ∃ xs, r = dd (.list xs) ∧ Q (enu xs) (fun _ => True) e1)
    (hg : Gl X "enumerate" := by rfl) (hm : X.mg "enumerate" = none := by assumption) (hs : starEach [e] X.env = [(false, eval e X.env)] := by rfl) : VI X (.Tuple elts kk tpos) (.Call (.Name "enumerate" p) [e] [] pos) env Q :=
  ⟨_, pi_enum hg hm pa_w hs, fun F G H σ Rq S k => ((ves_cons (X := X) (env := env) (e := e) (es := []) (Q := fun rs e1 => ∃ xs, rs = [dd (.list xs)] ∧ Q (enu xs) (fun _ => True) e1)
    (h.imp fun r e1 ⟨xs, er, z⟩ => ves_nil ⟨xs, by rw [er], z⟩) (by rw [hs]; rfl)) F G H σ Rq).imp fun vs H1 ⟨F1, rs, e1, s, R1, q1, xs, er, z⟩ => by
    subst er
    obtain ⟨v, r1, ev, h1, h3⟩ := q1.rp
    have h3' : r1 = [] := h3
    subst h3' ev
    cases (show Dq X.K F1 v (.list xs) from h1) with
    | @lst a vs _ hs hd =>
      refine ⟨a, vs, rfl, (hs.up R1.bs.fh).sq, k _ H1 F1 (enu xs) (fun _ => True) e1 s R1 (jok_enu hd (fun F' G' H' σ' e' i v s R hv => ⟨vs, v, ((hs.up s).up R.bs.fh).sq, hv⟩) (fun F' G' H' σ' e' i v w H'' s R hv ⟨T, y, e1, e2, e3, e4⟩ => ⟨T, e1, e2, ?_⟩) fun F' G' H' σ' e' i s R hl => ⟨vs, ((hs.up s).up R.bs.fh).sq, hl⟩) z⟩
      have := e4 vs ((hs.up s).up R.bs.fh).sq
      rw [hv] at this
      rw [e3, Option.some.inj this]⟩
end
end VL

/-! text VL15 -/
set_option Elab.async false
set_option linter.all false
set_option maxRecDepth 100000
set_option maxHeartbeats 2000000
namespace VL
open PySem PySem.Spec L2

/-! ### 22. dicts with ints and texts for keys -/
abbrev KT := List (Key × T)
def keyD : Key → PyData
  | .inl i => .int i
  | .inr x => .str x
theorem keyD_v {K : PySem.W.Frag} {F : Hp} {v : V} : ∀ {k : Key}, Dq K F v (keyD k) → v = kV k
  | .inl i, h => by cases h; rfl
  | .inr x, h => by cases h; rfl
/-- a dict of one's own -/
abbrev dct (p : Addr) (kts : KT) : T := .nd p (.dk (kts.map Prod.fst)) (kts.map Prod.snd)
def getT (kts : KT) (k : Key) : Option T := (kts.find? fun kv => decide (kv.1 = k)).map (·.2)
def putT (kts : KT) (k : Key) (t : T) : KT := if (kts.any fun kv => decide (kv.1 = k)) = true then kts.map (fun kv => if kv.1 = k then (kv.1, t) else kv) else kts ++ [(k, t)]
abbrev zipT (kts : KT) (vs : List V) : List (Key × V) := (kts.map Prod.fst).zip vs
section
variable {K : PySem.W.Frag} {F H : Hp}
theorem getT_pos {p : Key × T} {r : KT} {k : Key} (e : p.1 = k) : getT (p :: r) k = some p.2 := by simp [getT, List.find?_cons, e]
theorem getT_neg {p : Key × T} {r : KT} {k : Key} (e : ¬ p.1 = k) : getT (p :: r) k = getT r k := by simp [getT, List.find?_cons, e]
theorem val_rel (k : Key) : ∀ {kts : KT} {vs : List V}, reps K F H (kts.map Prod.snd) vs → (getT kts k = none → valV (zipT kts vs) k = none) ∧ ∀ t, getT kts k = some t → ∃ v, valV (zipT kts vs) k = some v ∧ rep K F H t v
  | [], vs, h => by
    rw [show vs = [] from h]
    exact ⟨fun _ => rfl, fun t e => (by cases e)⟩
  | (k0, t0) :: kts, vs, h => by
    obtain ⟨v, r, rfl, h1, h2⟩ := h
    by_cases ek : k0 = k
    · rw [getT_pos (p := (k0, t0)) ek]
      refine ⟨fun e => (by cases e), fun t e => ?_⟩
      cases e
      exact ⟨v, by rw [show zipT ((k0, t0) :: kts) (v :: r) = (k0, v) :: zipT kts r from rfl, valV_pos (p := (k0, v)) ek], h1⟩
    · rw [getT_neg (p := (k0, t0)) ek, show zipT ((k0, t0) :: kts) (v :: r) = (k0, v) :: zipT kts r from rfl, valV_neg (p := (k0, v)) ek]
      exact val_rel k h2
theorem any_rel (k : Key) : ∀ {kts : KT} {vs : List V}, reps K F H (kts.map Prod.snd) vs → ((zipT kts vs).any fun kv => decide (kv.1 = k)) = kts.any fun kv => decide (kv.1 = k)
  | [], vs, h => by
    rw [show vs = [] from h]
    rfl
  | (k0, t0) :: kts, vs, h => by
    obtain ⟨v, r, rfl, h1, h2⟩ := h
    rw [show zipT ((k0, t0) :: kts) (v :: r) = (k0, v) :: zipT kts r from rfl, List.any_cons, List.any_cons, any_rel k h2]
theorem map_rel (k : Key) {t : T} {v : V} (q : rep K F H t v) : ∀ {kts : KT} {vs : List V}, reps K F H (kts.map Prod.snd) vs → ∃ vs', (zipT kts vs).map (fun kv => if kv.1 = k then (kv.1, v) else kv) = zipT (kts.map fun kv => if kv.1 = k then (kv.1, t) else kv) vs' ∧ reps K F H ((kts.map fun kv => if kv.1 = k then (kv.1, t) else kv).map Prod.snd) vs'
  | [], vs, h => ⟨[], by rw [show vs = [] from h]; rfl, rfl⟩
  | (k0, t0) :: kts, vs, h => by
    obtain ⟨w, r, rfl, h1, h2⟩ := h
    obtain ⟨vs', e1, e2⟩ := map_rel k q h2
    by_cases ek : k0 = k
    · refine ⟨v :: vs', ?_, v, vs', rfl, ?_, e2⟩
      · show (if k0 = k then (k0, v) else (k0, w)) :: (zipT kts r).map _ = _
        rw [e1, if_pos ek]
        simp [zipT, ek]
      · show rep K F H (if k0 = k then (k0, t) else (k0, t0)).2 v
        rw [if_pos ek]; exact q
    · refine ⟨w :: vs', ?_, w, vs', rfl, ?_, e2⟩
      · show (if k0 = k then (k0, v) else (k0, w)) :: (zipT kts r).map _ = _
        rw [e1, if_neg ek]
        simp [zipT, ek]
      · show rep K F H (if k0 = k then (k0, t) else (k0, t0)).2 w
        rw [if_neg ek]; exact h1
theorem put_rel (k : Key) {t : T} {v : V} (q : rep K F H t v) {kts : KT} {vs : List V} (h : reps K F H (kts.map Prod.snd) vs) : ∃ vs', putK (zipT kts vs) k v = zipT (putT kts k t) vs' ∧ reps K F H ((putT kts k t).map Prod.snd) vs' := by
  unfold putK putT
  rw [any_rel k h]
  split
  · exact map_rel k q h
  · refine ⟨vs ++ [v], ?_, ?_⟩
    · have hl : vs.length = kts.length := by simpa using reps_len h
      rw [zipT, zipT, List.map_append, List.zip_append (by simp [hl])]
      rfl
    · rw [List.map_append]
      exact reps_app h ⟨v, [], rfl, q, rfl⟩
theorem putT_nodes (k : Key) (x : PyData) : ∀ kts : KT, (nodesL ((putT kts k (.d x)).map Prod.snd)).Sublist (nodesL (kts.map Prod.snd)) := by
  have go : ∀ kts : KT, (nodesL ((kts.map fun kv => if kv.1 = k then (kv.1, T.d x) else kv).map Prod.snd)).Sublist (nodesL (kts.map Prod.snd)) := by
    intro kts
    induction kts with
    | nil => exact List.Sublist.refl _
    | cons p r ih =>
      refine List.Sublist.append ?_ ih
      show (nodes (if p.1 = k then (p.1, T.d x) else p).2).Sublist (nodes p.2)
      split
      · exact List.nil_sublist _
      · exact List.Sublist.refl _
  intro kts
  unfold putT
  split
  · exact go kts
  · rw [List.map_append, nodesL_app]
    show (nodesL (kts.map Prod.snd) ++ ([] ++ [])).Sublist _
    rw [List.append_nil, List.append_nil]
    exact List.Sublist.refl _
theorem putT_len (kts : KT) (k : Key) (t : T) : (putT kts k t).length ≤ kts.length + 1 := by
  unfold putT
  split <;> simp
end
section
variable {X : Cx} {K : PySem.W.Frag} {F G H : Hp} {σ : L2.St} {env : Env} {Q : R → Env → Prop} {D : Dn} {r q : R} {v : V} {x : PyData} {o e i value : Expr} {pos pos' : Pos} {kts : KT} {k : Key} {p : Addr} {put : Kd → List T → Env}
/-- where a dict stands -/
abbrev LcD (env : Env) (p : Addr) (kts : KT) (put : Kd → List T → Env) : Prop := Loc env p (.dk (kts.map Prod.fst)) (kts.map Prod.snd) put
theorem LcD.get (L : LcD env p kts put) (R : Rp K F G H σ env) : ∃ vs, H p = some (.dK (zipT kts vs)) ∧ vs.length = kts.length ∧ reps K F H (kts.map Prod.snd) vs := by
  obtain ⟨_, vs, hp, hf, hr⟩ := L.read R
  exact ⟨vs, hp, by simpa using reps_len hr, hr⟩
theorem LcD.dget (L : LcD env p kts put) (R : Rp K F G H σ env) (k : Key) : (getT kts k = none → DGet H p (kV k) none) ∧ ∀ t, getT kts k = some t → ∃ v, DGet H p (kV k) (some v) ∧ rep K F H t v := by
  obtain ⟨vs, hp, _, hr⟩ := L.get R
  obtain ⟨h1, h2⟩ := val_rel k hr
  refine ⟨fun e => ?_, fun t e => ?_⟩
  · have := DGet.k (k := k) hp
    rw [h1 e] at this
    exact this
  · obtain ⟨v, e1, e2⟩ := h2 t e
    have := DGet.k (k := k) hp
    rw [e1] at this
    exact ⟨v, this, e2⟩
theorem rep_of_R {t : T} (h : rep K F H t v) : Rr K F G H env v (R.of t) := by
  cases t with
  | d x => exact .d h
  | nd p k ts =>
    obtain ⟨rfl, _⟩ := h
    exact .rf
/-- d[k] -/
theorem ve_dget (hu : X.A.units + 1 < cLine) (h : VE X o env fun r e1 => VE X i e1 fun q e2 => ∃ p kts put k t, r = .rf p ∧ q = dd (keyD k) ∧ LcD e2 p kts put ∧ getT kts k = some t ∧ Q (R.of t) e2) (hs : NoSl i := by exact fun _ _ => rfl) : VE X (.Subscript o i pos) env Q := fun F G H σ Rq =>
  wE_of (pe_dget hu pe_w pe_w hs) (ve_two Rq h fun v w H2 F2 r q e2 s R2 rr ⟨p, kts, put, k, t, er, eq, L, eg, z⟩ => by
    subst er eq
    obtain ⟨a, b⟩ := rr.two
    rw [show v = .ref p from a, keyD_v b]
    obtain ⟨u, g, hr⟩ := (L.dget R2 k).2 t eg
    exact ⟨p, u, rfl, g, F2, _, e2, s, R2, rep_of_R hr, z⟩)
/-- k in d, k not in d -/
theorem in_k (hu : X.A.units + 1 < cLine) (L : LcD env p kts put) (z : Q (dd (.bool (getT kts k).isSome)) env) : BinV X (compareOp .In) (dd (keyD k)) (.rf p) env Q := fun F G H σ v w R rr pins s0 σ' u u' I r1 r2 => by
  obtain ⟨a, b⟩ := rr.two
  rw [keyD_v a] at r1
  rw [show w = .ref p from b] at r2
  obtain rfl : u' = Value.ref p := r2
  cases e : getT kts k with
  | none =>
    rw [e] at z
    exact d_in hu I ((L.dget R k).1 e) r1 fun s' I' => ⟨.bl false, H, I', rfl, pv_bl R z⟩
  | some t =>
    rw [e] at z
    obtain ⟨x, g, _⟩ := (L.dget R k).2 t e
    exact d_in hu I g r1 fun s' I' => ⟨.bl true, H, I', rfl, pv_bl R z⟩
theorem notin_k (hu : X.A.units + 1 < cLine) (L : LcD env p kts put) (z : Q (dd (.bool (getT kts k).isNone)) env) : BinV X (compareOp .NotIn) (dd (keyD k)) (.rf p) env Q := fun F G H σ v w R rr pins s0 σ' u u' I r1 r2 => by
  obtain ⟨a, b⟩ := rr.two
  rw [keyD_v a] at r1
  rw [show w = .ref p from b] at r2
  obtain rfl : u' = Value.ref p := r2
  cases e : getT kts k with
  | none =>
    rw [e] at z
    exact d_notIn hu I ((L.dget R k).1 e) r1 fun s' I' => ⟨.bl true, H, I', rfl, pv_bl R z⟩
  | some t =>
    rw [e] at z
    obtain ⟨x, g, _⟩ := (L.dget R k).2 t e
    exact d_notIn hu I g r1 fun s' I' => ⟨.bl false, H, I', rfl, pv_bl R z⟩
theorem LcD.write (L : LcD env p kts put) (R : Rp K F G H σ env) (hl : kts.length < sizeLine) (hx : Dq K F v x) : ∃ H', DPut H p (kV k) v H' ∧ Rp K F G H' σ (put (.dk ((putT kts k (.d x)).map Prod.fst)) ((putT kts k (.d x)).map Prod.snd)) := by
  obtain ⟨vs, hp, hl2, hr⟩ := L.get R
  obtain ⟨vs', e1, e2⟩ := put_rel k (t := .d x) (v := v) hx hr
  refine ⟨_, DPut.k hp (by rw [List.length_zip]; simp; omega), ?_⟩
  rw [e1]
  exact Loc.write L (k' := .dk ((putT kts k (.d x)).map Prod.fst)) R (by show _ = _; rw [reps_len e2]; simp) (putT_nodes k x kts) e2
/-- d[k] = data -/
theorem vs_dput (hu : X.A.units + 1 < cLine) (h : VE X value env fun r0 e0 => ∃ x, r0 = dd x ∧ VE X o e0 fun r e1 => VE X i e1 fun q e2 => ∃ p kts put k, r = .rf p ∧ q = dd (keyD k) ∧ LcD e2 p kts put ∧ kts.length < sizeLine ∧ D.nx (put (.dk ((putT kts k (.d x)).map Prod.fst)) ((putT kts k (.d x)).map Prod.snd)))
    (hs : swapsWith value (some (.Subscript o i pos')) pos.line X.env = pure false := by rfl) : VS X (.Assign [.Subscript o i pos'] value pos) env D := fun F G H σ Rq =>
  wS_of (ps_dput hu pe_w pe_w pe_w hs) ((h F G H σ Rq).imp fun v0 H0 ⟨F0, r0, e0, s0, R0, q0, x, er0, h0⟩ => by
    subst er0
    have hx : Dq X.K F0 v0 x := q0.rp
    exact ve_two R0 h0 fun v w H2 F2 r q e2 s R2 rr ⟨p, kts, put, k, er, eq, L, hl, z⟩ => by
      subst er eq
      obtain ⟨a, b⟩ := rr.two
      rw [show v = .ref p from a, keyD_v b]
      obtain ⟨H', g, R'⟩ := L.write (k := k) R2 hl (dq_mono s _ _ hx)
      exact ⟨p, H', rfl, g, F2, _, s0.trans s, R', z⟩)
/-- {} -/
theorem ve_dnew (h : ∀ p, Q (.own (dct p [])) env) : VE X (.Dict [] [] pos) env Q := fun F G H σ Rq => wE_of pe_dnewK fun p hn =>
  ⟨F, _, env, .refl _, Rq.grow (Gw.own Rq.bs hn (.dk []) []), Rr.own ⟨show rep X.K F _ (dct p []) (.ref p) from ⟨rfl, [], upd_same, rfl, rfl⟩, (by show [p].Nodup; simp), fun a ha => by
    have ea : a = p := by
      rcases List.mem_cons.mp ha with e | e
      · exact e
      · cases e
    subst ea
    refine ⟨fun hm => ?_, ?_, ?_⟩
    · obtain ⟨k, vs, e⟩ := Rq.re.there a hm
      rw [hn] at e; cases e
    · exact none_of Rq.bs.fh hn
    · exact none_of Rq.bs.gh hn⟩, h p⟩
end
end VL

/-! text VL16 -/
set_option Elab.async false
set_option linter.all false
set_option maxRecDepth 100000
set_option maxHeartbeats 2000000
namespace VL
open PySem PySem.Spec L2

section
variable {X : Cx} {K : PySem.W.Frag} {F G H : Hp} {σ : L2.St} {env : Env} {Q : R → Env → Prop} {D : Dn} {r q : R} {v : V} {x : PyData} {o e f i value : Expr} {pos pos' apos cpos : Pos} {kts : KT} {k : Key} {p : Addr} {put : Kd → List T → Env}
def orD (o : Option T) (y : PyData) : R := match o with
  | some t => R.of t
  | none => dd y
/-- d.get(k, x) -/
theorem ve_dget2 (hu : X.A.units + 1 < cLine) (h : VE X o env fun r e1 => ∃ p kts put, r = .rf p ∧ LcD e1 p kts put ∧ VE X e e1 fun q e2 => VE X f e2 fun d e3 => ∃ k y put', q = dd (keyD k) ∧ d = dd y ∧ LcD e3 p kts put' ∧ Q (orD (getT kts k) y) e3)
    (m : M2 X o "get" apos e f cpos := by exact ⟨rfl, rfl, rfl, rfl⟩) : VE X (.Call (.Attribute o "get" apos) [e, f] [] cpos) env Q := fun F G H σ Rq =>
  wE_of (pe_dget2 hu pe_w pe_w pe_w m) ((h F G H σ Rq).imp fun v H1 ⟨F1, r, e1, s1, R1, q1, p, kts, put, er, L, z⟩ => by
    subst er
    rw [show v = .ref p from q1.rp]
    obtain ⟨vs, hp, _, _⟩ := L.get R1
    refine ⟨p, rfl, .inl ⟨_, .inl hp⟩, ve_two R1 z fun v w H2 F2 r q e2 s R2 rr ⟨k, y, put', eq, ed, L2, z⟩ => ?_⟩
    subst eq ed
    obtain ⟨a, b⟩ := rr.two
    rw [keyD_v a]
    cases e : getT kts k with
    | none =>
      rw [e] at z
      exact ⟨none, (L2.dget R2 k).1 e, F2, _, e2, s1.trans s, R2, .d b, z⟩
    | some t =>
      rw [e] at z
      obtain ⟨u, g, hr⟩ := (L2.dget R2 k).2 t e
      exact ⟨some u, g, F2, _, e2, s1.trans s, R2, rep_of_R hr, z⟩)

/-! displays -/
def repP (K : PySem.W.Frag) (F H : Hp) (kts : KT) (ps : List (V × V)) : Prop := ∃ vs, reps K F H (kts.map Prod.snd) vs ∧ ps = (zipT kts vs).map fun kv => (kV kv.1, kv.2)
def VPs (X : Cx) (es : List (Expr × Expr)) (env : Env) (Q : KT → Env → Prop) : Prop := ∀ F G H σ, Rp X.K F G H σ env →
  tPairs (es.map fun p => (wE X p.1, wE X p.2)) σ H fun ps H' => ∃ F' kts env', Same F F' ∧ Rp X.K F' G H' σ env' ∧ repP X.K F' H' kts ps ∧ (nodesL (kts.map Prod.snd)).Nodup ∧ (∀ a ∈ nodesL (kts.map Prod.snd), a ∉ nodesE env' ∧ F' a = none ∧ G a = none) ∧ Q kts env'
theorem tPairs_imp : ∀ {es : List (Expr × Expr)} {σ : L2.St} {H : Hp} {P P' : List (V × V) → Hp → Prop}, tPairs (es.map fun p => (wE X p.1, wE X p.2)) σ H P → (∀ ps H', P ps H' → P' ps H') → tPairs (es.map fun p => (wE X p.1, wE X p.2)) σ H P'
  | [], _, _, _, _, h, k => k _ _ h
  | _ :: _, _, _, _, _, h, k => wE.imp h fun x H1 h1 => wE.imp h1 fun y H2 h2 => tPairs_imp h2 fun ps H3 h3 => k _ _ h3
theorem vps_nil {Q : KT → Env → Prop} (h : Q [] env) : VPs X [] env Q := fun F G H σ Rq => ⟨F, [], env, .refl _, Rq, ⟨[], rfl, rfl⟩, List.nodup_nil, fun a ha => (by cases ha), h⟩
theorem vps_cons {es : List (Expr × Expr)} {Q : KT → Env → Prop} (h : VE X e env fun r e1 => ∃ k, r = dd (keyD k) ∧ VE X f e1 fun q e2 => ∃ t, q = .own t ∧ VPs X es e2 fun kts e3 => Q ((k, t) :: kts) e3) : VPs X ((e, f) :: es) env Q := fun F G H σ Rq => by
  refine (h F G H σ Rq).imp fun v H1 ⟨F1, r, e1, s1, R1, q1, k, er, h1⟩ => ?_
  subst er
  have ev := keyD_v (show Dq X.K F1 v (keyD k) from q1.rp)
  subst ev
  refine (h1 F1 G H1 σ R1).imp fun w H2 ⟨F2, q, e2, s2, R2, q2, t, eq, h2⟩ => ?_
  subst eq
  obtain ⟨R2', fin⟩ := lend_step (.refl _) R2 q2
  refine tPairs_imp (h2 F2 _ H2 σ R2') fun ps H3 ⟨F3, kts, e3, s3, R3, ⟨vs, q3, eps⟩, nd3, fr3, z⟩ => ?_
  obtain ⟨z1, z2, z3, z4⟩ := fin s3 R3
  have z5 := z3.vr
  refine ⟨F3, (k, t) :: kts, e3, (s1.trans s2).trans s3, z2, ⟨w :: vs, ⟨w, vs, rfl, z5.rp, q3⟩, by rw [eps]; rfl⟩, nodup_app z5.nd nd3 fun a ha hb => z4 a ha (fr3 a hb).2.2, fun a ha => ?_, z⟩
  rcases List.mem_append.mp ha with ha | ha
  · exact z5.fr a ha
  · have h3 := fr3 a ha
    refine ⟨h3.1, h3.2.1, ?_⟩
    by_cases hm : a ∈ rnodes (.own t)
    · exact (z3.fr a hm).2.2
    · have := h3.2.2
      rw [gAdd_out hm] at this
      exact this
theorem mergeK_nodup : ∀ {more kvs : List (Key × V)}, (∀ a ∈ more, ∀ b ∈ kvs, b.1 ≠ a.1) → (more.map Prod.fst).Nodup → mergeK kvs more = kvs ++ more
  | [], kvs, _, _ => by simp [mergeK]
  | m :: more, kvs, h, nd => by
    have nd' := List.nodup_cons.mp (show (m.1 :: more.map Prod.fst).Nodup from nd)
    have e : putK kvs m.1 m.2 = kvs ++ [m] := by
      unfold putK
      rw [if_neg]
      intro ha
      obtain ⟨b, hb, eb⟩ := List.any_eq_true.mp ha
      exact h m List.mem_cons_self b hb (of_decide_eq_true eb)
    show mergeK (putK kvs m.1 m.2) more = _
    rw [e, mergeK_nodup (fun a ha b hb => ?_) nd'.2, List.append_assoc]
    · rfl
    · rcases List.mem_append.mp hb with hb | hb
      · exact h a (List.mem_cons_of_mem _ ha) b hb
      · have eb : b = m := by simpa using hb
        subst eb
        exact fun z => nd'.1 (z ▸ List.mem_map_of_mem ha)
/-- a pair of expressions, taken apart -/
theorem pps_of : ∀ (es : List (Expr × Expr)) {pos : Pos}, PPs X pos (es.map fun p => some p.1) (es.map Prod.snd) (es.map fun p => (wE X p.1, wE X p.2))
  | [], _ => pps_nil
  | _ :: es, _ => pps_cons pe_w pe_w (pps_of es)
theorem ve_disp (es : List (Expr × Expr)) {ks : List (Option Expr)} {vs : List Expr} (h : VPs X es env fun kts e1 => (kts.map Prod.fst).Nodup ∧ kts.length ≤ 15 ∧ ∀ p, Q (.own (dct p kts)) e1) (hk : ks = es.map fun p => some p.1 := by rfl) (hv : vs = es.map Prod.snd := by rfl) (h0 : es ≠ [] := by exact (fun z => nomatch z))
    (h15 : es.length ≤ 15 := by decide) : VE X (.Dict ks vs pos) env Q := fun F G H σ Rq => by
  subst hk hv
  refine wE_of (pe_disp (pps_of es) (by induction es <;> simp_all) (by simp) (by simpa using h0) (by simpa using h15)) fun p hn => ?_
  have R1 : Rp X.K F G (upd H p (.dK [])) σ env := Rq.grow (Gw.own Rq.bs hn (.dk []) [])
  have nE : p ∉ nodesE env := fun hm => by
    obtain ⟨k, vs, e⟩ := Rq.re.there p hm
    rw [hn] at e; cases e
  have nF := none_of Rq.bs.fh hn
  have nG := none_of Rq.bs.gh hn
  have fr1 : ∀ a ∈ [p], a ∉ nodesE env ∧ F a = none ∧ G a = none := fun a ha => by
    have ea : a = p := by simpa using ha
    subst ea
    exact ⟨nE, nF, nG⟩
  have R2 := R1.lend fr1
  refine tPairs_imp (h F _ _ σ R2) fun ps H2 ⟨F2, kts, e2, s2, R3, ⟨vs, q3, eps⟩, nd3, fr3, hnd, hl, z⟩ => ?_
  obtain ⟨R4, k4⟩ := R3.unlend (fun a ha => (fr1 a ha).2.2) fun a ha => by
    have ea : a = p := by simpa using ha
    subst ea
    exact ⟨_, upd_same⟩
  obtain ⟨m1, m2, m3⟩ := k4 p (by simp)
  rw [upd_same] at m3
  have hl2 : vs.length = kts.length := by simpa using reps_len q3
  have hp3 : p ∉ nodesL (kts.map Prod.snd) := fun hm => by
    have := (fr3 p hm).2.2
    rw [gAdd_in (by simp), upd_same] at this
    cases this
  refine ⟨m3, zipT kts vs, eps, by rw [List.length_zip]; simp; omega, ?_⟩
  rw [mergeK_nodup (fun a _ b hb => by cases hb) (by rw [zipT, List.map_fst_zip (by simp [hl2])]; exact hnd), List.nil_append]
  have R5 := R4.write m1 m2 nG (.dk (kts.map Prod.fst)) vs
  refine ⟨F2, _, e2, s2, R5, Rr.own (t := dct p kts) ⟨⟨rfl, vs, upd_same, by simp [Kd.fit, hl2], reps_frame (.refl _) _ _ (fun a ha => upd_ne fun ea => hp3 (ea ▸ ha)) q3⟩, List.nodup_cons.mpr ⟨hp3, nd3⟩, fun a ha => ?_⟩, z p⟩
  rcases List.mem_cons.mp ha with ea | ha
  · subst ea
    exact ⟨m1, m2, nG⟩
  · have h3 := fr3 a ha
    refine ⟨h3.1, h3.2.1, ?_⟩
    have ne : a ∉ [p] := fun hm => hp3 ((by simpa using hm : a = p) ▸ ha)
    have := h3.2.2
    rw [gAdd_out ne] at this
    exact this
/-! a kid's own things -/
theorem len_kid {xs : List PyData} (L : Loc env p .lst (xs.map T.d) put) (z : Q (dd (.int xs.length)) env) : CallV X (.builtin "len") [.rf p] env Q := fun F G H σ vs R rr => by
  obtain ⟨⟨va, vb, ea, ha, hc⟩, _, _⟩ := rr
  rw [show vb = [] from hc] at ea
  subst ea
  rw [show va = .ref p from ha]
  obtain ⟨_, us, hp, _, hr⟩ := L.read R
  refine wC_of call_len_seq ⟨p, us, rfl, .inl (SqL.of hp), ?_⟩
  rw [show us.length = xs.length from dpa_len (reps_d.mp hr)]
  exact pv_int R z
theorem ty_kid {xs : List PyData} (L : ∃ put, Loc env p .lst (xs.map T.d) put) : TyOk X "list" (.rf p) env := fun F G H σ v R h pins s' σ' u I ru => by
  obtain ⟨put, L⟩ := L
  rw [show v = .ref p from h] at ru
  obtain ⟨_, us, hp, _, hr⟩ := L.read R
  exact tyV_is I ru (.inl ⟨rfl, _, SqL.of hp⟩)
end
end VL

/-! text VL17 -/
set_option Elab.async false
set_option linter.all false
set_option maxRecDepth 100000
set_option maxHeartbeats 2000000
namespace VL
open PySem PySem.Spec L2

/-! ### 23. isinstance -/
def tyD : PyData → String
  | .none => "NoneType"
  | .bool _ => "bool"
  | .int _ => "int"
  | .str _ => "str"
  | .list _ => "list"
  | .tuple _ => "tuple"
  | .dict _ => "dict"
section
variable {X : Cx} {K : PySem.W.Frag} {F G H : Hp} {σ : L2.St} {env : Env} {Q : R → Env → Prop} {r q : R} {v : V} {x : PyData} {e : Expr} {pos p p2 : Pos} {b : Bool}
theorem dq_ty (s : Same F H) (h : Dq K F v x) : TyX K H v (.type (tyD x)) := by
  cases h with
  | non => exact .base .non
  | bl b => exact .base (.bl b)
  | int i => exact .base (.int i)
  | str x => exact .base (.str x)
  | lst hs ha =>
    rcases hs with hs | ⟨its, n, e, _⟩
    · rcases hs with e | ⟨o, e⟩
      · exact .base (.lst (s _ _ e))
      · exact .base (.frz (s _ _ e))
    · exact .kList e rfl
  | tup hs ha =>
    rcases hs with ⟨o, e, _⟩ | ⟨o, its, n, e, c, _⟩
    · exact .fTuple (s _ _ e)
    · exact .kTuple e c
/-- isinstance(e, T), e data -/
theorem ve_isi {y : Str} (T : String) (h : VE X e env fun r e1 => ∃ x b, r = dd x ∧ kitB (tyD x) T = some b ∧ Q (dd (.bool b)) e1) (hm1 : X.mg "isinstance" = none := by assumption) (hm2 : X.mg y = none := by assumption) (hg1 : Gl X "isinstance" := by rfl) (hg2 : Gl X y := by rfl)
    (hb1 : bootBuiltins "isinstance" = some (.builtin "isinstance") := by exact PyProof.Rows.boot_isinstance) (hb2 : bootBuiltins y = some (.type T) := by first | exact PyProof.Rows.boot_int | exact PyProof.Rows.boot_bool | exact PyProof.Rows.boot_tuple | exact PyProof.Rows.boot_list | exact PyProof.Rows.boot_str | exact PyProof.Rows.boot_dict)
    (hn : y ≠ "__name__" := by decide) (hdb : (y == ("__debug__" : Str)) = false := by decide) 
    (h0 : starEach [e, .Name y p2] X.env = (false, eval e X.env) :: starEach [.Name y p2] X.env := by rfl) (h1 : starEach [.Name y p2] X.env = (false, eval (.Name y p2) X.env) :: starEach [] X.env := by rfl) (hpl : (backTo pos (starEach [.Name y p2] X.env)).any (·.1) = false := by rfl) :
    VE X (.Call (.Name "isinstance" p) [e, .Name y p2] [] pos) env Q := fun F G H σ Rq =>
  wE_of (pe_callB call_isi hg1 hm1 hb1 (pa_cons pe_w (pa_cons (pe_bltn (v := .ty T) hg2 hm2 hb2 rfl hn hdb) pa_nil h1) h0) (by decide) (by decide) h0 hpl)
    ((h F G H σ Rq).imp fun v H1 ⟨F1, r, e1, s, R1, q1, x, b, er, hk, z⟩ => by
      subst er
      exact ⟨v, .ty T, .type (tyD x), .type T, b, rfl, .ty T, dq_ty R1.bs.fh (show Dq X.K F1 v x from q1.rp), kit_ty hk, pv_bl (R1) z |>.imp s fun _ _ p => p⟩)
end
end VL

/-! text VL18 -/
set_option Elab.async false
set_option linter.all false
set_option maxRecDepth 100000
set_option maxHeartbeats 2000000
namespace VL
open PySem PySem.Spec L2

/-! ### 24. list(range(..)), tuple(range(..)) -/
/-- the numbers lo .. hi - 1 -/
def rgD (a b : Int) : List PyData := (List.range (b - a).toNat).map fun i => PyData.int (a + (i : Nat))
section
variable {X : Cx} {K : PySem.W.Frag} {F G H : Hp} {σ : L2.St} {env : Env} {Q : R → Env → Prop} {a e : Expr} {pos p p2 pos2 : Pos}
theorem rgV_dqs (F : Hp) (a b : Int) : Dqs K F (rgV a b) (rgD a b) := by
  have e1 : rgV a b = ((List.range (b - a).toNat).map fun i => a + ((i : Nat) : Int)).map V.int := by unfold rgV; rw [List.map_map]; rfl
  have e2 : rgD a b = ((List.range (b - a).toNat).map fun i => a + ((i : Nat) : Int)).map PyData.int := by unfold rgD; rw [List.map_map]; rfl
  rw [e1, e2]
  exact ints_dqs _
theorem ve_listRg (h : VE X a env fun r e1 => ∃ j : Int, r = dd (.int j) ∧ RgOk 0 j ∧ ∀ q, Q (.own (ls q (rgD 0 j))) e1) (hm : X.mg "list" = none := by assumption) (hm2 : X.mg "range" = none := by assumption) (hc : X.calm = true := by rfl) (hg : Gl X "list" := by rfl) (hg2 : Gl X "range" := by rfl)
    (n1 : starEach [a] X.env = (false, eval a X.env) :: starEach [] X.env := by rfl) (n2 : starEach [.Call (.Name "range" p2) [a] [] pos2] X.env = (false, eval (.Call (.Name "range" p2) [a] [] pos2) X.env) :: starEach [] X.env := by rfl) :
    VE X (.Call (.Name "list" p) [.Call (.Name "range" p2) [a] [] pos2] [] pos) env Q := fun F G H σ Rq =>
  wE_of (pe_listRg hc hg hm (prg_1 hg2 hm2 pe_w n1) n2) ((h F G H σ Rq).imp fun v H1 ⟨F1, r, e1, s, R1, q1, j, er, ok, z⟩ => by
    subst er
    cases (show Dq X.K F1 v (.int j) from q1.rp)
    refine ⟨j, rfl, ok, fun q hn => ?_⟩
    exact (pv_lstd R1 hn (rgV_dqs F1 0 j) (z q)).imp s fun _ _ p => p)
/-- tuple(range(e)), laid so that its methods can be called -/
def tTupRgF (te : St → Hp → (Int → Int → Hp → Prop) → Prop) : TE := fun σ H Q => te σ H fun a b H1 => RgOk a b ∧ ∀ q us, H1 q = none → Q (.ref q) (upd H1 q (.frz (tupO us) (.tup (rgV a b))))
theorem pe_tupRgF {te : St → Hp → (Int → Int → Hp → Prop) → Prop} (hc : X.calm = true) (hg : Gl X "tuple") (hm : X.mg "tuple" = none) (he : PRg X e te) (na : starEach [e] X.env = (false, eval e X.env) :: starEach [] X.env := by rfl) : PE X (.Call (.Name "tuple" p) [e] [] pos) (tTupRgF te) := by
  refine ⟨fun pins s σ H Q I h => ?_⟩
  refine PyProof.Rows.Call_ (ld_blt I hg hm PyProof.Rows.boot_tuple (PyProof.Rows.callWith_type1 (PyProof.Rows.args_cons (thn (he pins s σ H _ I h) fun x s1 ⟨r, a, b, t, u, v, H1, ex, hr, I1, ok, q⟩ => PyProof.Rows.args_nil ?_) na) na))
  subst ex
  obtain ⟨b1, b2, b3, b4, b5⟩ := ok
  refine call_tuple_range (n := (b - a).toNat) (I1.ok.hd hc) hr (small_one b1 b2 b3 b4) (PyProof.Rows.rangeSize_nat a b) b5 fun h' tk acc hk hi => ?_
  have I2 : Inv X pins σ H1 { s1 with heap := h', toks := tk } := I1.kept hk
  have I3 := tup_laid (t := tk) I2 (vals_rg hi) (by rw [rgV_length, sizeLine_eq]; omega)
  have e : tupO acc.toList = { cls := .type "tuple", data := .seq acc } := by unfold tupO; rw [Array.toArray_toList]
  rw [e] at I3
  have q' := q h'.objs.size acc.toList (I2.hok.fresh (Nat.le_refl _))
  rw [e] at q'
  exact ⟨.ref h'.objs.size, _, I3, rfl, q'⟩
theorem ve_tupRg (h : VE X a env fun r e1 => ∃ j : Int, r = dd (.int j) ∧ RgOk 0 j ∧ Q (dd (.tuple (rgD 0 j))) e1) (hm : X.mg "tuple" = none := by assumption) (hm2 : X.mg "range" = none := by assumption) (hc : X.calm = true := by rfl) (hg : Gl X "tuple" := by rfl) (hg2 : Gl X "range" := by rfl)
    (n1 : starEach [a] X.env = (false, eval a X.env) :: starEach [] X.env := by rfl) (n2 : starEach [.Call (.Name "range" p2) [a] [] pos2] X.env = (false, eval (.Call (.Name "range" p2) [a] [] pos2) X.env) :: starEach [] X.env := by rfl) :
    VE X (.Call (.Name "tuple" p) [.Call (.Name "range" p2) [a] [] pos2] [] pos) env Q := fun F G H σ Rq =>
  wE_of (pe_tupRgF hc hg hm (prg_1 hg2 hm2 pe_w n1) n2) ((h F G H σ Rq).imp fun v H1 ⟨F1, r, e1, s, R1, q1, j, er, ok, z⟩ => by
    subst er
    cases (show Dq X.K F1 v (.int j) from q1.rp)
    refine ⟨j, rfl, ok, fun q us hn => ?_⟩
    exact (pv_tup R1 hn (rgV_dqs F1 0 j) z).imp s fun _ _ p => p)
end
end VL

/-! text VL19 -/
set_option Elab.async false
set_option linter.all false
set_option maxRecDepth 100000
set_option maxHeartbeats 2000000
namespace VL
open PySem PySem.Spec L2

/-! ### 25. isinstance by kinds -/
def isInt : PyData → Bool
  | .int _ => true
  | .bool _ => true
  | _ => false
def isBool : PyData → Bool
  | .bool _ => true
  | _ => false
def isTuple : PyData → Bool
  | .tuple _ => true
  | _ => false
def isList : PyData → Bool
  | .list _ => true
  | _ => false
def isStr : PyData → Bool
  | .str _ => true
  | _ => false
theorem kit_int (x : PyData) : kitB (tyD x) "int" = some (isInt x) := by
  cases x <;> (simp only [tyD, isInt]; decide +kernel)
theorem kit_bool (x : PyData) : kitB (tyD x) "bool" = some (isBool x) := by
  cases x <;> (simp only [tyD, isBool]; decide +kernel)
theorem kit_tuple (x : PyData) : kitB (tyD x) "tuple" = some (isTuple x) := by
  cases x <;> (simp only [tyD, isTuple]; decide +kernel)
theorem kit_list (x : PyData) : kitB (tyD x) "list" = some (isList x) := by
  cases x <;> (simp only [tyD, isList]; decide +kernel)
theorem kit_str (x : PyData) : kitB (tyD x) "str" = some (isStr x) := by
  cases x <;> (simp only [tyD, isStr]; decide +kernel)
/-! ### 26. defs of data -/
/-- a def that is handed data and answers with data: P tells which -/
def spF (P : List PyData → PyData → Prop) : Sv := fun ts Q => ∃ xs y, ts = xs.map T.d ∧ P xs y ∧ Q (.d y) (xs.map T.d)
def Dd (y : PyData) (n : Nat) : Dn where
  nx := fun e => y = .none ∧ Nat.ble n e.length = true
  rt := fun t e => t = .d y ∧ Nat.ble n e.length = true
section
variable {X : Cx} {env : Env} {D D' : Dn} {e : Expr} {pos : Pos} {sts : List Stmt} {y : PyData} {n : Nat}
theorem VSs.imp (h : VSs X sts env D) (h1 : ∀ e, D.nx e → D'.nx e) (h2 : ∀ t e, D.rt t e → D'.rt t e) (h3 : ∀ e, D.bk e → D'.bk e) (h4 : ∀ e, D.ct e → D'.ct e) : VSs X sts env D' := fun F G H σ Rq =>
  (h F G H σ Rq).imp (fun σ H ⟨F', e, s, R, z⟩ => ⟨F', e, s, R, h1 e z⟩) (fun v H ⟨F', t, e, σ', s, R, q, z⟩ => ⟨F', t, e, σ', s, R, q, h2 t e z⟩) (fun σ H ⟨F', e, s, z⟩ => ⟨F', e, s, z.1, h3 e z.2⟩) (fun σ H ⟨F', e, s, R, z⟩ => ⟨F', e, s, R, h4 e z⟩)
theorem vs_retD (h : VE X e env fun r e1 => r = dd y ∧ Nat.ble n e1.length = true) : VS X (.Return (some e) pos) env (Dd y n) := vs_ret (h.imp fun r e1 ⟨z1, z2⟩ => ⟨.d y, e1, z1 ▸ .own _, rfl, z2⟩)
theorem vs_retD' {D : Dn} (hD : D.rt = (Dd y n).rt) (h : VE X e env fun r e1 => r = dd y ∧ Nat.ble n e1.length = true) : VS X (.Return (some e) pos) env D := vs_ret (h.imp fun r e1 ⟨z1, z2⟩ => ⟨.d y, e1, z1 ▸ .own _, by rw [hD]; exact ⟨rfl, z2⟩⟩)
end
section
variable {P : Program} {w : World} {K : PySem.W.Frag} {mg : Str → Option Value} {base : Heap}
theorem FnV.ofD {x qual : Str} {st : Stmt} {f : Addr} {fd : FuncData} {N ps : List Str} {k : Nat} {Pr : List PyData → PyData → Prop} (Fu : Fun K x qual st f fd) (S : FnScope N ps (defScope st)) (len : ∀ xs y, Pr xs y → xs.length = ps.length)
    (hb : ∀ (X : Cx) (xs : List PyData) (y : PyData), RG k X.A → X.N.Nodup → Pr xs y → 
      (∃ (cdv : Value) (A : Around) (outer : List PySem.Env) (s : Shared) (H : Hp), X = (cxOf CX0 P w K mg base N qual (defScope st) f cdv A outer s H E0).nox) → VSs X (defBody st) (envS N (xs.map T.d)) (Dd y xs.length)) : FnV P w K mg base (k + 1) f fd ps (spF Pr) := by
  refine FnV.of Fu S (fun ts Q h => ?_) (fun X ts Q h1 h2 h3 h4 h5 hN h6 h7 h8 h9 hr h hX => ?_)
  · obtain ⟨xs, y, rfl, hp, _⟩ := h
    rw [List.length_map]
    exact len _ _ hp
  · obtain ⟨xs, y, rfl, hp, hQ⟩ := h
    have nd : X.N.Nodup := by rw [hN]; exact S.nd
    refine (hb X xs y hr nd hp hX).imp (fun e ⟨z1, z2⟩ => ⟨xs.map T.d, back_d (Nat.le_of_ble_eq_true z2), ?_⟩) (fun t e ⟨z1, z2⟩ => ⟨xs.map T.d, back_d (Nat.le_of_ble_eq_true z2), ?_⟩) (fun e z => z.elim) (fun e z => z.elim)
    · rw [z1] at hQ; exact hQ
    · rw [z1]; exact hQ
end

section
variable {X : Cx} {env : Env} {Q : R → Env → Prop} {e : Expr} {es : List Expr} {x : Str} {p pos : Pos} {k : Nat} {Pr : List PyData → PyData → Prop}
theorem ve_callF (C : DefV X.prog X.w X.K X.mg X.base k x (spF Pr)) (hr : RG k X.A) (h : VEs X (e :: es) env fun rs e1 => ∃ xs y, rs = xs.map dd ∧ Pr xs y ∧ Q (dd y) e1) (hg : Gl X x := by rfl)
    (hdb : (x == ("__debug__" : Str)) = false := by decide) (he : starEach (e :: es) X.env = (false, eval e X.env) :: starEach es X.env := by rfl) (hpl : (backTo pos (starEach es X.env)).any (·.1) = false := by rfl) : VE X (.Call (.Name x p) (e :: es) [] pos) env Q :=
  ve_call C hr (by
    refine fun F G H σ Rq => wA.imp (h F G H σ Rq) fun vs H1 ⟨F1, rs, e1, s, R1, q, xs, y, er, hp, z⟩ => ⟨F1, rs, e1, s, R1, q, xs.map T.d, by rw [er, List.map_map]; rfl, xs, y, rfl, hp, z⟩) hg hdb he hpl
end
end VL

/-! text VL20 -/
set_option Elab.async false
set_option linter.all false
set_option maxRecDepth 100000
set_option maxHeartbeats 2000000
namespace VL
open PySem PySem.Spec L2

/-! ### 27. calls by name, in one step -/
theorem bb_len : bootBuiltins "len" = some (.builtin "len") := by decide +kernel
theorem bb_min : bootBuiltins "min" = some (.builtin "min") := by decide +kernel
theorem bb_max : bootBuiltins "max" = some (.builtin "max") := by decide +kernel
theorem bb_sum : bootBuiltins "sum" = some (.builtin "sum") := by decide +kernel
theorem bb_abs : bootBuiltins "abs" = some (.builtin "abs") := by decide +kernel
theorem bb_all : bootBuiltins "all" = some (.builtin "all") := by decide +kernel
theorem bb_repr : bootBuiltins "repr" = some (.builtin "repr") := by decide +kernel
theorem bb_sorted : bootBuiltins "sorted" = some (.builtin "sorted") := by decide +kernel
theorem bb_tuple : bootBuiltins "tuple" = some (.type "tuple") := by decide +kernel
theorem bb_list : bootBuiltins "list" = some (.type "list") := by decide +kernel
theorem bb_int : bootBuiltins "int" = some (.type "int") := by decide +kernel
theorem sz {n : Nat} (h : Nat.ble n 16777216 = true) : n ≤ sizeLine := by rw [sizeLine_eq]; exact Nat.le_of_ble_eq_true h
theorem RG.u {k : Nat} {A : Around} (r : RG k A) : A.units + 64 < cLine := by have := r.room.un; omega
theorem RG.u1 {k : Nat} {A : Around} (r : RG k A) : A.units + 1 < cLine := by have := r.room.un; omega
section
variable {X : Cx} {env : Env} {Q : R → Env → Prop} {D : Dn} {a e : Expr} {p pos apos cpos : Pos} {x : PyData} {xs : List PyData}
theorem ve_c1 {y : Str} {id : String} (hv : bootBuiltins y = some (.builtin id)) (h : VE X e env fun r e1 => CallV X (.builtin id) [r] e1 Q) (hm : X.mg y = none := by assumption) (hg : Gl X y := by rfl) (hn : y ≠ "__name__" := by decide) (hdb : (y == ("__debug__" : Str)) = false := by decide)
    (he : starEach [e] X.env = (false, eval e X.env) :: starEach [] X.env := by rfl) (hpl : (backTo pos (starEach [] X.env)).any (·.1) = false := by rfl) : VE X (.Call (.Name y p) [e] [] pos) env Q :=
  ve_callB hm hv (ves_cons (h.imp fun r e1 z => ves_nil z) he) hg hn hdb he hpl
theorem ve_t1 {y : Str} {T : String} (hv : bootBuiltins y = some (.type T)) (h : VE X e env fun r e1 => CallV X (.type T) [r] e1 Q) (hm : X.mg y = none := by assumption) (hg : Gl X y := by rfl) (hn : y ≠ "__name__" := by decide) (hdb : (y == ("__debug__" : Str)) = false := by decide)
    (he : starEach [e] X.env = (false, eval e X.env) :: starEach [] X.env := by rfl) (hpl : (backTo pos (starEach [] X.env)).any (·.1) = false := by rfl) : VE X (.Call (.Name y p) [e] [] pos) env Q :=
  ve_callTy hm hv (ves_cons (h.imp fun r e1 z => ves_nil z) he) hg hn hdb he hpl
/-- y.append(e), y the name of an own list of data -/
theorem ve_append (i : Nat) {o : Expr} {q : Addr} {ys : List PyData} (ho : ∀ Q' : R → Env → Prop, Q' (.rf q) env → VE X o env Q') (e0 : env[i]? = some (some (ls q ys))) (h : VE X e env fun r e1 => ∃ xs x, e1[i]? = some (some (ls q xs)) ∧ r = dd x ∧ xs.length < sizeLine ∧ Q (dd .none) (e1.set i (some (ls q (xs ++ [x])))))
    (hbase : attributeBase o "append" X.env (eval o X.env) = eval o X.env := by rfl)
    (hfew : ((backTo cpos (starEach [e] X.env)).all (fun x => !x.1) && (backToKw cpos (keywordEach [] X.env)).all (fun x => x.1.isSome)
      && decide (([e] : List Expr).length + ([] : List Keyword).length + (if ([] : List Keyword).isEmpty then 0 else 1) < 30)) = true := by rfl)
    (hline : (apos.endLine == cpos.line) = true := by rfl) (hs : starEach [e] X.env = (false, eval e X.env) :: starEach [] X.env := by rfl) (hplain : (backTo cpos (starEach [] X.env)).any (·.1) = false := by rfl) :
    VE X (.Call (.Attribute o "append" apos) [e] [] cpos) env Q :=
  ve_bm PySem.F.plainAttrs_list PySem.F.slot_list_append PySem.F.type_list_append (ho _ ⟨ty_lst (.rf i e0), ves_cons (h.imp fun r e1 ⟨xs, x, e2, er, hl, z⟩ => ves_nil (er ▸ lst_append (.sl i e2) hl z)) hs⟩) hbase hfew hline hs hplain
/-- y.pop(e), y the name of an own list of data -/
theorem ve_popAt (i : Nat) {o : Expr} {q : Addr} {ys : List PyData} (ho : ∀ Q' : R → Env → Prop, Q' (.rf q) env → VE X o env Q') (e0 : env[i]? = some (some (ls q ys))) (h : VE X e env fun r e1 => ∃ xs x, ∃ k : Nat, e1[i]? = some (some (ls q xs)) ∧ r = dd (.int k) ∧ xs[k]? = some x ∧ xs.length < 2 ^ 62 ∧ Q (dd x) (e1.set i (some (ls q (xs.eraseIdx k)))))
    (hbase : attributeBase o "pop" X.env (eval o X.env) = eval o X.env := by rfl)
    (hfew : ((backTo cpos (starEach [e] X.env)).all (fun x => !x.1) && (backToKw cpos (keywordEach [] X.env)).all (fun x => x.1.isSome)
      && decide (([e] : List Expr).length + ([] : List Keyword).length + (if ([] : List Keyword).isEmpty then 0 else 1) < 30)) = true := by rfl)
    (hline : (apos.endLine == cpos.line) = true := by rfl) (hs : starEach [e] X.env = (false, eval e X.env) :: starEach [] X.env := by rfl) (hplain : (backTo cpos (starEach [] X.env)).any (·.1) = false := by rfl) :
    VE X (.Call (.Attribute o "pop" apos) [e] [] cpos) env Q :=
  ve_bm PySem.F.plainAttrs_list PySem.F.slot_list_pop PySem.F.type_list_pop (ho _ ⟨ty_lst (.rf i e0), ves_cons (h.imp fun r e1 ⟨xs, x, k, e2, er, hx, hl, z⟩ => ves_nil (er ▸ lst_popAt (.sl i e2) hx hl z)) hs⟩) hbase hfew hline hs hplain
/-- o.pop(), o a dict's own list -/
theorem ve_popKid {o : Expr} (h : VE X o env fun r e1 => ∃ (q : Addr) (xs : List PyData) (x : PyData) (put : Kd → List T → Env), r = .rf q ∧ Loc e1 q .lst (xs.map T.d) put ∧ xs[xs.length - 1]? = some x ∧ Q (dd x) (put .lst (xs.dropLast.map T.d)))
    (hbase : attributeBase o "pop" X.env (eval o X.env) = eval o X.env := by rfl) (hline : (apos.endLine == cpos.line) = true := by rfl) : VE X (.Call (.Attribute o "pop" apos) [] [] cpos) env Q :=
  ve_bm0 PySem.F.plainAttrs_list PySem.F.slot_list_pop PySem.F.type_list_pop (h.imp fun r e1 ⟨q, xs, x, put, er, L, hx, z⟩ => ⟨er ▸ ty_kid ⟨put, L⟩, er ▸ lst_pop L hx z⟩) hbase hline
/-- t.index(e) -/
theorem ve_index {o : Expr} (hu : X.A.units + 64 < cLine) (h : VE X o env fun r e1 => ∃ ns : List Int, r = dd (.tuple (ns.map PyData.int)) ∧ VE X e e1 fun q e2 => ∃ k : Int, q = dd (.int k) ∧ k ∈ ns ∧ Q (dd (.int ((ns.idxOf k : Nat) : Int))) e2)
    (hbase : attributeBase o "index" X.env (eval o X.env) = eval o X.env := by rfl)
    (hfew : ((backTo cpos (starEach [e] X.env)).all (fun x => !x.1) && (backToKw cpos (keywordEach [] X.env)).all (fun x => x.1.isSome)
      && decide (([e] : List Expr).length + ([] : List Keyword).length + (if ([] : List Keyword).isEmpty then 0 else 1) < 30)) = true := by rfl)
    (hline : (apos.endLine == cpos.line) = true := by rfl) (hs : starEach [e] X.env = (false, eval e X.env) :: starEach [] X.env := by rfl) (hplain : (backTo cpos (starEach [] X.env)).any (·.1) = false := by rfl) :
    VE X (.Call (.Attribute o "index" apos) [e] [] cpos) env Q :=
  ve_bm PySem.F.plainAttrs_tuple PySem.F.slot_tuple_index PySem.F.type_tuple_index (h.imp fun r e1 ⟨ns, er, z⟩ => ⟨er ▸ ty_tup, ves_cons (z.imp fun q e2 ⟨k, eq, hk, z⟩ => ves_nil (er ▸ eq ▸ tup_index hu hk z)) hs⟩) hbase hfew hline hs hplain
end
end VL

/-! text VL21 -/
set_option Elab.async false
set_option linter.all false
set_option maxRecDepth 100000
set_option maxHeartbeats 2000000
namespace VL
open PySem PySem.Spec L2

/-! ### 28. comprehensions of data -/
section
variable {X : Cx} {Q : R → Env → Prop} {elt tg : Expr} {ifs : List Expr} {scope : Scope} {is : List Nat} {C : Env → Prop} {e1 : Env}
/-- the items c x, g x what comes of each -/
theorem lcq_l {α : Type} (l : List α) (c : α → PyData) (g : α → Option PyData) {xs : List Itm} (e0 : Env) (hx : xs = l.map fun x => it (c x)) (h0 : wipeE e1 is = e0) (hC : C e0) (hz : l.length ≤ sizeLine)
    (h : ∀ (i : Nat) (x : α), l[i]? = some x → ∀ p1, VGt (bk X scope p1) tg is (it (c x)) e0 fun e2 => ∀ p2, VTs (bk X scope p2) ifs e2 fun b e3 =>
      if b = true then ∀ p3, VE (bk X scope p3) elt e3 fun r e4 => ∃ y, r = dd y ∧ g x = some y ∧ wipeE e4 is = e0 else g x = none ∧ wipeE e3 is = e0)
    (hQ : ∀ p, Q (.own (ls p (l.filterMap g))) (wipeE e0 is.reverse)) : LcQ X scope is tg ifs elt Q xs C e1 := by
  subst hx
  have len : ∀ i, ((l.take i).filterMap g).length ≤ i := fun i => by
    have h1 := List.length_filterMap_le g (l.take i)
    have h2 := List.length_take_le i l
    omega
  refine ⟨fun i acc e => e = e0 ∧ acc = ((l.take i).filterMap g).map T.d, ⟨h0, rfl⟩, ?_, ?_, ?_⟩
  · rintro i acc e ⟨rfl, rfl⟩
    refine ⟨hC, fun hi => ?_⟩
    rw [List.length_map] at hi ⊢
    have := len i
    omega
  · rintro i x acc e hx ⟨rfl, rfl⟩ p1
    rw [List.getElem?_map] at hx
    cases ex : l[i]? with
    | none => rw [ex] at hx; cases hx
    | some d =>
      rw [ex] at hx
      cases hx
      have tk : (l.take (i + 1)).filterMap g = (l.take i).filterMap g ++ (g d).toList := by
        rw [List.take_succ, ex, List.filterMap_append]
        have : List.filterMap g (some d).toList = (g d).toList := by
          show List.filterMap g [d] = _
          rw [List.filterMap_cons]
          cases g d <;> rfl
        rw [this]
      intro F G H σ v R q
      refine wG.imp (h i d ex p1 F G H σ v R q) fun σ' H' ⟨F', e2, s, R2, w, z⟩ => ⟨F', e2, s, R2, w, fun p2 => ?_⟩
      intro F G H σ Rq pins s0 I0
      refine thn (z p2 F G H σ Rq pins s0 I0) fun b s1 ⟨H1, I1, F1, e3, s, R3, z⟩ => ⟨H1, I1, F1, e3, s, R3, ?_⟩
      cases b with
      | true =>
        rw [if_pos rfl] at z ⊢
        exact fun p3 => (z p3).imp fun r e4 ⟨y, er, eg, ew⟩ => ⟨.d y, e4, er ▸ .own _, ew, by rw [tk, eg, List.map_append]; rfl⟩
      | false =>
        rw [if_neg Bool.false_ne_true] at z ⊢
        exact ⟨z.2, by rw [tk, z.1]; simp⟩
  · rintro acc e ⟨rfl, rfl⟩ p
    rw [List.length_map, List.take_length]
    exact hQ p
end
end VL

/-! text VL22 -/
set_option Elab.async false
set_option linter.all false
set_option maxRecDepth 100000
set_option maxHeartbeats 2000000
namespace VL
open PySem PySem.Spec L2

section
variable {X : Cx} {Q : R → Env → Prop} {elt tg : Expr} {ifs : List Expr} {scope : Scope} {is : List Nat} {C : Env → Prop} {e1 : Env}
/-- the items c x of any kind, g x what comes of each -/
theorem lcq_i {α : Type} (l : List α) (c : α → Itm) (g : α → Option PyData) {xs : List Itm} (e0 : Env) (hx : xs = l.map c) (h0 : wipeE e1 is = e0) (hC : C e0) (hz : l.length ≤ sizeLine)
    (h : ∀ (i : Nat) (x : α), l[i]? = some x → ∀ p1, VGt (bk X scope p1) tg is (c x) e0 fun e2 => ∀ p2, VTs (bk X scope p2) ifs e2 fun b e3 =>
      if b = true then ∀ p3, VE (bk X scope p3) elt e3 fun r e4 => ∃ y, r = dd y ∧ g x = some y ∧ wipeE e4 is = e0 else g x = none ∧ wipeE e3 is = e0)
    (hQ : ∀ p, Q (.own (ls p (l.filterMap g))) (wipeE e0 is.reverse)) : LcQ X scope is tg ifs elt Q xs C e1 := by
  subst hx
  have len : ∀ i, ((l.take i).filterMap g).length ≤ i := fun i => by
    have h1 := List.length_filterMap_le g (l.take i)
    have h2 := List.length_take_le i l
    omega
  refine ⟨fun i acc e => e = e0 ∧ acc = ((l.take i).filterMap g).map T.d, ⟨h0, rfl⟩, ?_, ?_, ?_⟩
  · rintro i acc e ⟨rfl, rfl⟩
    refine ⟨hC, fun hi => ?_⟩
    rw [List.length_map] at hi ⊢
    have := len i
    omega
  · rintro i x acc e hx ⟨rfl, rfl⟩ p1
    rw [List.getElem?_map] at hx
    cases ex : l[i]? with
    | none => rw [ex] at hx; cases hx
    | some d =>
      rw [ex] at hx
      cases hx
      have tk : (l.take (i + 1)).filterMap g = (l.take i).filterMap g ++ (g d).toList := by
        rw [List.take_succ, ex, List.filterMap_append]
        have : List.filterMap g (some d).toList = (g d).toList := by
          show List.filterMap g [d] = _
          rw [List.filterMap_cons]
          cases g d <;> rfl
        rw [this]
      intro F G H σ v R q
      refine wG.imp (h i d ex p1 F G H σ v R q) fun σ' H' ⟨F', e2, s, R2, w, z⟩ => ⟨F', e2, s, R2, w, fun p2 => ?_⟩
      intro F G H σ Rq pins s0 I0
      refine thn (z p2 F G H σ Rq pins s0 I0) fun b s1 ⟨H1, I1, F1, e3, s, R3, z⟩ => ⟨H1, I1, F1, e3, s, R3, ?_⟩
      cases b with
      | true =>
        rw [if_pos rfl] at z ⊢
        exact fun p3 => (z p3).imp fun r e4 ⟨y, er, eg, ew⟩ => ⟨.d y, e4, er ▸ .own _, ew, by rw [tk, eg, List.map_append]; rfl⟩
      | false =>
        rw [if_neg Bool.false_ne_true] at z ⊢
        exact ⟨z.2, by rw [tk, z.1]; simp⟩
  · rintro acc e ⟨rfl, rfl⟩ p
    rw [List.length_map, List.take_length]
    exact hQ p
end
section
variable {X : Cx} {env : Env} {Q : R → Env → Prop} {a b c : Expr} {k1 k2 v1 v2 k3 v3 k4 v4 : Expr} {pos : Pos}
/-- a < b < c of numbers -/
theorem ve_chain {op op' : CmpOp} (h : VE X a env fun r e1 => ∃ i : Int, r = dd (.int i) ∧ VE X b e1 fun q e2 => ∃ j : Int, q = dd (.int j) ∧ BinV X (compareOp op) (dd (.int i)) (dd (.int j)) e2 fun z e3 => ∃ k, z = dd (.bool k) ∧
      if k = true then VE X c e3 fun w e4 => ∃ l : Int, w = dd (.int l) ∧ BinV X (compareOp op') (dd (.int j)) (dd (.int l)) e4 Q else Q (dd (.bool false)) e3)
    (hm : lastMarks [op, op'] [b, c] = false := by with_unfolding_all rfl) : VE X (.Compare a [op, op'] [b, c] pos) env Q := fun F G H σ Rq =>
  wE_of (pe_chain wO_ok wO_ok pe_w pe_w pe_w hm) ((h F G H σ Rq).imp fun v H1 ⟨F1, r, e1, s1, R1, q1, i, er, z1⟩ => by
    subst er
    cases (show Dq X.K F1 v (.int i) from q1.rp)
    refine (z1 F1 G H1 σ R1).imp fun w H2 ⟨F2, q, e2, s2, R2, q2, j, eq, z2⟩ => ?_
    subst eq
    cases (show Dq X.K F2 w (.int j) from q2.rp)
    have two : ∀ (F : Hp) (H : Hp) (e : Env) (i j : Int), Rrs X.K F G H e [.int i, .int j] [dd (.int i), dd (.int j)] := fun F H e i j => ⟨⟨_, _, rfl, .int i, _, _, rfl, .int j, rfl⟩, List.nodup_nil, fun p hp => by cases hp⟩
    refine (z2 F2 G H2 σ _ _ R2 (two F2 H2 e2 i j)).imp fun u H3 ⟨F3, z, e3, s3, R3, q3, k, ez, z3⟩ => ?_
    subst ez
    cases (show Dq X.K F3 u (.bool k) from q3.rp)
    refine ⟨k, rfl, ?_⟩
    cases k with
    | false =>
      rw [if_neg Bool.false_ne_true] at z3 ⊢
      exact pv_bl R3 z3 |>.imp ((s1.trans s2).trans s3) fun _ _ p => p
    | true =>
      rw [if_pos rfl] at z3 ⊢
      refine (z3 F3 G H3 σ R3).imp fun w H4 ⟨F4, q, e4, s4, R4, q4, l, el, z4⟩ => ?_
      subst el
      cases (show Dq X.K F4 w (.int l) from q4.rp)
      exact (z4 F4 G H4 σ _ _ R4 (two F4 H4 e4 j l)).imp fun _ _ p => p.imp (((s1.trans s2).trans s3).trans s4) fun _ _ p => p)
theorem ve_disp2 (h : VPs X [(k1, v1), (k2, v2)] env fun kts e1 => (kts.map Prod.fst).Nodup ∧ kts.length ≤ 15 ∧ ∀ p, Q (.own (dct p kts)) e1) : VE X (.Dict [some k1, some k2] [v1, v2] pos) env Q := ve_disp [(k1, v1), (k2, v2)] h rfl rfl (fun z => nomatch z) (Nat.le_of_ble_eq_true rfl)
theorem ve_disp4 (h : VPs X [(k1, v1), (k2, v2), (k3, v3), (k4, v4)] env fun kts e1 => (kts.map Prod.fst).Nodup ∧ kts.length ≤ 15 ∧ ∀ p, Q (.own (dct p kts)) e1) : VE X (.Dict [some k1, some k2, some k3, some k4] [v1, v2, v3, v4] pos) env Q := ve_disp [(k1, v1), (k2, v2), (k3, v3), (k4, v4)] h rfl rfl (fun z => nomatch z) (Nat.le_of_ble_eq_true rfl)
end
/-! lists and their data -/
theorem cutL_from {α : Type} (xs : List α) (k : Nat) : cutL xs (some (k : Int)) none = xs.drop k := by
  unfold cutL
  rw [HT.sIx_none, HT.sIx_nat]
  by_cases h : k ≤ xs.length
  · rw [Nat.min_eq_left h]
    rw [List.take_of_length_le (by simp)]
  · rw [Nat.min_eq_right (by omega), List.drop_eq_nil_of_le (Nat.le_refl _), List.drop_eq_nil_of_le (by omega)]
    simp
theorem cutL_to {α : Type} (xs : List α) (k : Nat) : cutL xs none (some (k : Int)) = xs.take k := by
  unfold cutL
  rw [HT.sIx_none, HT.sIx_nat, List.drop_zero]
  by_cases h : k ≤ xs.length
  · rw [Nat.min_eq_left h]; simp
  · rw [Nat.min_eq_right (by omega), List.take_of_length_le (by simp), List.take_of_length_le (by omega)]
theorem plainAll_of {xs : List PyData} (h : ∀ x ∈ xs, x.plain = true) : PyData.plainAll xs = true := by
  induction xs with
  | nil => rfl
  | cons x xs ih =>
    simp only [PyData.plainAll, h x List.mem_cons_self, ih fun y hy => h y (List.mem_cons_of_mem _ hy), Bool.and_self]
theorem plain_list {xs : List PyData} (h : ∀ x ∈ xs, x.plain = true) : (PyData.list xs).plain = true := by
  simp only [PyData.plain]; exact plainAll_of h
theorem plain_tuple {xs : List PyData} (h : ∀ x ∈ xs, x.plain = true) : (PyData.tuple xs).plain = true := by
  simp only [PyData.plain]; exact plainAll_of h
theorem eqv_nilL (xs : List PyData) : PyData.eqv (.list xs) (.list []) = xs.isEmpty := by
  cases xs <;> simp [PyData.eqv, PyData.eqvAll]
theorem eqvAll_map {α : Type} [DecidableEq α] {c : α → PyData} (h : ∀ x y, PyData.eqv (c x) (c y) = decide (x = y)) : ∀ l m : List α, PyData.eqvAll (l.map c) (m.map c) = decide (l = m)
  | [], [] => by simp [PyData.eqvAll]
  | [], y :: m => by simp [PyData.eqvAll]
  | x :: l, [] => by simp [PyData.eqvAll]
  | x :: l, y :: m => by
    rw [List.map_cons, List.map_cons, PyData.eqvAll, h, eqvAll_map h l m]
    simp
theorem eqv_tup_map {α : Type} [DecidableEq α] {c : α → PyData} (h : ∀ x y, PyData.eqv (c x) (c y) = decide (x = y)) (l m : List α) : PyData.eqv (.tuple (l.map c)) (.tuple (m.map c)) = decide (l = m) := by
  rw [PyData.eqv, eqvAll_map h]
theorem eqv_list_map {α : Type} [DecidableEq α] {c : α → PyData} (h : ∀ x y, PyData.eqv (c x) (c y) = decide (x = y)) (l m : List α) : PyData.eqv (.list (l.map c)) (.list (m.map c)) = decide (l = m) := by
  rw [PyData.eqv, eqvAll_map h]
theorem eqv_nat (x y : Nat) : PyData.eqv (.int (x : Int)) (.int (y : Int)) = decide (x = y) := by
  rw [PyData.eqv, Bool.eq_iff_iff]
  simp
  omega
theorem depthAll_le {d : Nat} : ∀ {xs : List PyData}, (∀ x ∈ xs, x.depth ≤ d) → PyData.depthAll xs ≤ d
  | [], _ => Nat.zero_le _
  | x :: xs, h => by
    rw [PyData.depthAll]
    exact Nat.max_le.mpr ⟨h x List.mem_cons_self, depthAll_le fun y hy => h y (List.mem_cons_of_mem _ hy)⟩
theorem depth_tuple {d : Nat} {xs : List PyData} (h : ∀ x ∈ xs, x.depth ≤ d) : (PyData.tuple xs).depth ≤ d + 1 := by
  rw [PyData.depth]
  exact Nat.succ_le_succ (depthAll_le h)
theorem depth_list {d : Nat} {xs : List PyData} (h : ∀ x ∈ xs, x.depth ≤ d) : (PyData.list xs).depth ≤ d + 1 := by
  rw [PyData.depth]
  exact Nat.succ_le_succ (depthAll_le h)
theorem showableAll_of {xs : List PyData} (h : ∀ x ∈ xs, x.showable = true) : PyData.showableAll xs = true := by
  induction xs with
  | nil => rfl
  | cons x xs ih => simp only [PyData.showableAll, h x List.mem_cons_self, ih fun y hy => h y (List.mem_cons_of_mem _ hy), Bool.and_self]
theorem leavesAll_of {B : Nat} {xs : List PyData} (h : ∀ x ∈ xs, PyData.leavesShort B x = true) : PyData.leavesShortAll B xs = true := by
  induction xs with
  | nil => rfl
  | cons x xs ih => simp only [PyData.leavesShortAll, h x List.mem_cons_self, ih fun y hy => h y (List.mem_cons_of_mem _ hy), Bool.and_self]
end VL

/-! text VL23 -/
set_option Elab.async false
set_option linter.all false
set_option maxRecDepth 100000
set_option maxHeartbeats 2000000
namespace VL
open PySem PySem.Spec L2

/-! ### 29. what can be shown -/
structure Nice (d W : Nat) (x : PyData) : Prop where
  p : x.plain = true
  s : x.showable = true
  d : x.depth ≤ d
  l : PyData.leavesShort 13 x = true
  w : x.weight ≤ W
theorem log2_lt {n : Nat} (h : n < 10 ^ 12) : n.log2 < 40 := by
  by_cases h0 : n = 0
  · subst h0; decide
  · exact (Nat.log2_lt h0).mpr (by omega)
theorem Nice.int {i : Int} (h : i.natAbs < 10 ^ 12) : Nice 0 40 (.int i) := by
  have hl := log2_lt h
  refine ⟨rfl, ?_, Nat.le_refl _, ?_, ?_⟩
  · simp only [PyData.showable]; exact decide_eq_true (by omega)
  · simp only [PyData.leavesShort]; exact decide_eq_true (PyData.shown_int_le h)
  · simp only [PyData.weight]; split <;> omega
theorem Nice.bool (b : Bool) : Nice 0 40 (.bool b) := ⟨rfl, rfl, Nat.le_refl _, rfl, Nat.zero_le _⟩
theorem Nice.none : Nice 0 40 .none := ⟨rfl, rfl, Nat.le_refl _, rfl, Nat.zero_le _⟩
theorem Nice.str {y : Str} (h1 : (y.cps.toList.all fun c => decide (c < 16 ^ 8)) = true) (h2 : y.cps.size ≤ 40) : Nice 0 40 (.str y) := ⟨rfl, rfl, Nat.le_refl _, by simp only [PyData.leavesShort]; exact h1, by simp only [PyData.weight]; exact h2⟩
theorem Nice.mono {d W d' W' : Nat} {x : PyData} (h : Nice d W x) (h1 : d ≤ d') (h2 : W ≤ W') : Nice d' W' x := ⟨h.p, h.s, Nat.le_trans h.d h1, h.l, Nat.le_trans h.w h2⟩
theorem weightAll_le {W : Nat} : ∀ {xs : List PyData}, (∀ x ∈ xs, x.weight ≤ W) → PyData.weightAll xs ≤ (W + 1) * xs.length
  | [], _ => by simp [PyData.weightAll]
  | x :: xs, h => by
    have h1 := h x List.mem_cons_self
    have h2 := weightAll_le (xs := xs) fun y hy => h y (List.mem_cons_of_mem _ hy)
    rw [PyData.weightAll, List.length_cons, Nat.mul_add]
    omega
theorem Nice.tuple {d W : Nat} {xs : List PyData} (h : ∀ x ∈ xs, Nice d W x) : Nice (d + 1) ((W + 1) * xs.length) (.tuple xs) :=
  ⟨plain_tuple fun x hx => (h x hx).p, by simp only [PyData.showable]; exact showableAll_of fun x hx => (h x hx).s, depth_tuple fun x hx => (h x hx).d, by simp only [PyData.leavesShort]; exact leavesAll_of fun x hx => (h x hx).l, by simp only [PyData.weight]; exact weightAll_le fun x hx => (h x hx).w⟩
theorem Nice.list {d W : Nat} {xs : List PyData} (h : ∀ x ∈ xs, Nice d W x) : Nice (d + 1) ((W + 1) * xs.length) (.list xs) :=
  ⟨plain_list fun x hx => (h x hx).p, by simp only [PyData.showable]; exact showableAll_of fun x hx => (h x hx).s, depth_list fun x hx => (h x hx).d, by simp only [PyData.leavesShort]; exact leavesAll_of fun x hx => (h x hx).l, by simp only [PyData.weight]; exact weightAll_le fun x hx => (h x hx).w⟩
section
variable {X : Cx} {env : Env} {Q : R → Env → Prop} {e : Expr} {p pos : Pos}
/-- repr(e) -/
theorem ve_repr {k d W : Nat} (hr : RG k X.A) (h : VE X e env fun r e1 => ∃ x, Sees e1 r x ∧ Nice d W x ∧ d ≤ 60 ∧ W ≤ 1000000 ∧ Q (dd (.str x.shown)) e1) (hm : X.mg "repr" = none := by assumption) (hg : Gl X "repr" := by rfl)
    (he : starEach [e] X.env = (false, eval e X.env) :: starEach [] X.env := by rfl) (hpl : (backTo pos (starEach [] X.env)).any (·.1) = false := by rfl) : VE X (.Call (.Name "repr" p) [e] [] pos) env Q :=
  ve_c1 bb_repr (h.imp fun r e1 ⟨x, s, n, h1, h2, z⟩ => by
    have h3 := PyData.shown_le 13 (by decide) x n.l
    have h4 := n.w
    have h5 := n.d
    exact repr_d hr.gs hr.u s n.p n.s (by omega) (by rw [sizeLine_eq]; omega) z) hm hg (by decide) (by decide) he hpl
end
end VL

/-! text VL24 -/
set_option Elab.async false
set_option linter.all false
set_option maxRecDepth 100000
set_option maxHeartbeats 2000000
namespace VL
open PySem PySem.Spec L2

/-! ### 30. a slot's own list, told to stand still -/
section
variable {X : Cx} {K : PySem.W.Frag} {F G H : Hp} {σ : L2.St} {env : Env} {Q : R → Env → Prop} {D : Dn} {e : Expr} {st : Stmt} {sts : List Stmt} {p : Addr} {xs : List PyData}
theorem Rp.freeze (i : Nat) (R : Rp K F G H σ env) (e : env[i]? = some (some (ls p xs))) : ∃ F', Same F F' ∧ Rp K F' G H σ (env.set i (some (.d (.list xs)))) := by
  obtain ⟨v, hv, R1, q⟩ := R.take e
  obtain ⟨F', s, R2, d⟩ := VL.freeze R1 q
  have R3 := R2.put hv (.d (H := H) d)
  rw [List.set_set] at R3
  exact ⟨F', s, R3⟩
theorem vss_still (i : Nat) (e : env[i]? = some (some (ls p xs))) (h : VSs X sts (env.set i (some (.d (.list xs)))) D) : VSs X sts env D := fun F G H σ Rq => by
  obtain ⟨F', s, R'⟩ := Rq.freeze i e
  exact (h F' G H σ R').same s
theorem ve_stillS (i : Nat) {a : Expr} (e : env[i]? = some (some (ls p xs))) (h : VE X a (env.set i (some (.d (.list xs)))) Q) : VE X a env Q := fun F G H σ Rq => by
  obtain ⟨F', s, R'⟩ := Rq.freeze i e
  exact wE.same (K := X.K) s (h F' G H σ R')
end
end VL

/-! text VL25 -/
set_option Elab.async false
set_option linter.all false
set_option maxRecDepth 100000
set_option maxHeartbeats 2000000
namespace VL
open PySem PySem.Spec L2

/-! ### 31. sorted, of any data alike -/
section
variable {X : Cx} {K : PySem.W.Frag} {F G H : Hp} {σ : L2.St} {env : Env} {Q : R → Env → Prop} {r : R} {β : Type} {enc : β → PyData}
theorem each_dq {F : Hp} : ∀ {bs : List β} {ws : List V} {us : List Value}, Dqs K F ws (bs.map enc) → Vals ws us → PySem.W.EachIs (fun v b => ∃ w, RelV w v ∧ Dq K F w (enc b)) us bs
  | [], ws, us, d, r => by
    cases (show Dqs K F ws [] from d)
    cases r
    exact .nil
  | b :: bs, ws, us, d, r => by
    cases (show Dqs K F ws (enc b :: bs.map enc) from d) with
    | cons d1 d2 =>
      cases r with
      | cons r1 r2 => exact .cons ⟨_, r1, d1⟩ (each_dq d2 r2)
theorem dq_each {F : Hp} : ∀ {bs : List β} {us : List Value}, PySem.W.EachIs (fun v b => ∃ w, RelV w v ∧ Dq K F w (enc b)) us bs → ∃ ws, Vals ws us ∧ Dqs K F ws (bs.map enc)
  | _, _, .nil => ⟨[], .nil, .nil⟩
  | _, _, .cons ⟨w, h1, h2⟩ t => by
    obtain ⟨ws, h3, h4⟩ := dq_each t
    exact ⟨w :: ws, .cons h1 h3, .cons h2 h4⟩
theorem each_reads {pins : List (Addr × Obj)} {s : Shared} {σ' : L2.St} {F : Hp} (I : Inv X pins σ' H s) (sF : Same F H) : ∀ {bs : List β} {us : List Value}, PySem.W.EachIs (fun v b => ∃ w, RelV w v ∧ Dq X.K F w (enc b)) us bs → PySem.W.EachIs (fun v b => ∃ as, Reads s.heap v (enc b) as) us bs
  | _, _, .nil => .nil
  | _, _, .cons ⟨w, h1, h2⟩ t => .cons (dp_reads I (dq_dp sF _ _ h2) h1) (each_reads I sF t)
theorem sorted_e (enc : β → PyData) (bs : List β) (hu : X.A.units + 64 < cLine) (s : Sees env r (.list (bs.map enc))) (hal : PySem.W.AllAlike (bs.map enc)) (hk : PySem.W.Sortable (bs.map enc)) (hd : ∀ b ∈ bs, (enc b).depth ≤ 60)
    (z : ∀ p, Q (.own (ls p ((bs.mergeSort (PySem.W.dataLe false enc)).map enc))) env) : CallV X (.builtin "sorted") [r] env Q := fun F G H σ vs R rr pins s0 σ' us I rv => by
  obtain ⟨v, _, rfl, h1, h2⟩ := rr.rp
  rw [show _ = [] from h2] at rv
  obtain ⟨a, ws, rfl, ha, da⟩ := sees_lst s R h1
  cases rv with
  | cons r1 r2 =>
    cases r2
    cases r1
    obtain ⟨its, n, rv, hg, hz⟩ := lstAt_is I ha
    have hl : s0.heap.IsList a its.toArray := ⟨_, hg, rfl, n, rfl⟩
    have e := each_dq da rv
    have hlen : ws.length = bs.length := by rw [dpa_len da, List.length_map]
    refine PySem.W.sorted_data hl e (each_reads I R.bs.fh e) hal hk (by omega) (fun b hb => by have := hd b hb; omega) fun out ho eo => ?_
    obtain ⟨ws', rv', dq'⟩ := dq_each eo
    obtain ⟨c, hc⟩ := PyProof.Rows.sortedAll_at s0.heap its (List.toArray out)
    have hn : H (s0.heap.objs.size + 1) = none := I.hok.fresh (Nat.le_succ _)
    refine ⟨.ref (s0.heap.objs.size + 1), _, I.laid (a := s0.heap.objs.size + 1) (o := .lst ws') (t' := s0.toks) (fun b o q => PyProof.Rows.sortedAll_old q) (Nat.le_succ _) ⟨?_, out, c, rv', hc⟩, rfl, pv_lstd R hn dq' (z _)⟩
    rw [rv'.length, ho]
    omega
end
end VL

/-! text VL26 -/
set_option Elab.async false
set_option linter.all false
set_option maxRecDepth 100000
set_option maxHeartbeats 2000000
namespace VL
open PySem PySem.Spec L2

/-! ### 32. a list's place told anew -/
section
variable {X : Cx} {env : Env} {D : Dn} {o i value : Expr} {pos pos' : Pos}
/-- o[i] = data, o a slot's own list (or a dict's own list) -/
theorem vs_lput (h : VE X value env fun r0 e0 => ∃ x, r0 = dd x ∧ VE X o e0 fun r e1 => VE X i e1 fun q e2 => ∃ (p : Addr) (xs : List PyData) (put : Kd → List T → Env) (k : Int) (j : Nat), r = .rf p ∧ q = dd (.int k) ∧ Loc e2 p .lst (xs.map T.d) put ∧ ixN xs.length k = some j ∧ D.nx (put .lst ((xs.set j x).map T.d)))
    (hs : swapsWithSole [.Subscript o i pos'] value pos.line X.env = pure false := by rfl) (hw : swappedStores [.Subscript o i pos'] value X.env = pure none := by rfl)
    (h1 : (assignEach [.Subscript o i pos'] X.env).map (·.2) = [assign (.Subscript o i pos') X.env] := by rfl)
    (ha : ∀ v, assign (.Subscript o i pos') X.env v = (do
      let ov ← holding [v] (eval o X.env)
      let iv ← holding [v, ov] (eval i X.env)
      standAt pos'
      holding [v, ov, iv] (setItem ov iv v)
      release [v, ov, iv] []) := by intro _; rfl) : VS X (.Assign [.Subscript o i pos'] value pos) env D := fun F G H σ Rq =>
  wS_of (ps_asg pe_w (pg_sub pe_w pe_w set_list ha) hs hw h1) ((h F G H σ Rq).imp fun v0 H0 ⟨F0, r0, e0, s0, R0, q0, x, er0, h0⟩ => by
    subst er0
    have hx : Dq X.K F0 v0 x := q0.rp
    exact ve_two R0 h0 fun v w H2 F2 r q e2 s R2 rr ⟨p, xs, put, k, j, er, eq, L, hj, z⟩ => by
      subst er eq
      obtain ⟨a, b⟩ := rr.two
      rw [show v = .ref p from a]
      cases (show Dq X.K F2 w (.int k) from b)
      obtain ⟨_, us, hp, _, hr⟩ := L.read R2
      have hd := reps_d.mp hr
      have R3 := L.write (k' := .lst) (ts' := (xs.set j x).map T.d) (vs' := us.set j v0) R2 trivial (by rw [nodesL_d, nodesL_d]; exact List.Sublist.refl _) (reps_d.mpr (dqs_set j hd (dq_mono s _ _ hx)))
      exact ⟨p, us, k, j, rfl, rfl, hp, by rw [dpa_len hd]; exact hj, F2, _, s0.trans s, R3, z⟩)
theorem ixN_nat {n k : Nat} (h : k < n) : ixN n (k : Int) = some k := by
  unfold ixN
  rw [if_pos (by omega), if_pos (by omega)]
  simp
end
end VL

/-! text VL27 -/
set_option Elab.async false
set_option linter.all false
set_option maxRecDepth 100000
set_option maxHeartbeats 2000000
namespace VL
open PySem PySem.Spec L2

/-! ### 33. range with a step -/
/-- lo, lo + c, .. -/
def rngC (lo c : Int) (n : Nat) : List Itm := (List.range n).map fun i => it (.int (lo + (i : Nat) * c))
section
variable {X : Cx} {K : PySem.W.Frag} {F G H : Hp} {σ : L2.St} {env : Env} {tg a b c : Expr} {p pos : Pos}
theorem rngC_get {lo c : Int} {n i : Nat} {x : Itm} (h : (rngC lo c n)[i]? = some x) : i < n ∧ x = it (.int (lo + (i : Nat) * c)) := by
  unfold rngC at h
  rw [List.getElem?_map] at h
  by_cases hi : i < n
  · rw [List.getElem?_range hi] at h
    exact ⟨hi, (Option.some.inj h).symm⟩
  · rw [List.getElem?_eq_none (by simp; omega)] at h
    cases h
theorem jok_rngC (lo c : Int) (n : Nat) : JOk K F (Itc lo c n) (rngC lo c n) (fun _ => True) := fun F' G' H' σ' e' i s R _ => by
  refine ⟨fun x hx => ?_, fun hl => (show n ≤ i by simpa [rngC] using hl)⟩
  obtain ⟨hi, rfl⟩ := rngC_get hx
  exact ⟨rfl, hi, fun w H'' ⟨e1, e2⟩ => by subst e1 e2; exact ⟨F', .refl R.bs, Vr.d (.int _)⟩⟩
theorem vi_range3 {Q : List Itm → (Env → Prop) → Env → Prop} (h : VEs X [a, b, c] env fun rs e1 => ∃ (i j k : Int) (n : Nat), rs = [dd (.int i), dd (.int j), dd (.int k)] ∧ RgC i j k n ∧ Q (rngC i k n) (fun _ => True) e1)
    (hg : Gl X "range" := by rfl) (hm : X.mg "range" = none := by assumption) (hs : starEach [a, b, c] X.env = (false, eval a X.env) :: starEach [b, c] X.env := by rfl) (hpl : (backTo pos (starEach [b, c] X.env)).any (·.1) = false := by rfl) : VI X tg (.Call (.Name "range" p) [a, b, c] [] pos) env Q :=
  ⟨_, pi_range3 hg hm pa_w hs hpl, fun F G H σ Rq S k => (h F G H σ Rq).imp fun vs H1 ⟨F1, rs, e1, s, R1, q1, i, j, c, n, er, l, z⟩ => by
    subst er
    obtain ⟨v, r1, ev, h1, ⟨w, r2, ew, h2, ⟨u, r3, eu, h3, h4⟩⟩⟩ := q1.rp
    cases (show Dq X.K F1 v (.int i) from h1)
    cases (show Dq X.K F1 w (.int j) from h2)
    cases (show Dq X.K F1 u (.int c) from h3)
    have h4' : r3 = [] := h4
    subst h4' eu ew ev
    exact ⟨i, j, c, n, rfl, l, k _ H1 F1 _ (fun _ => True) e1 s R1 (jok_rngC i c n) z⟩⟩
/-- sorted(d), d an own dict with numbers for keys: fewer than 64 -/
theorem sorted_dk {r : R} {Q : R → Env → Prop} {q : Addr} {kts : KT} {ks : List Int} (hc : X.calm = true) (hk : kts.map Prod.fst = ks.map Sum.inl) (h64 : ks.length < 64) (z : ∀ (ys : List Int) (p : Addr), ys.Perm ks → ys.Pairwise (· ≤ ·) → Q (.own (ls p (ys.map PyData.int))) env) : CallV X (.builtin "sorted") [.own (dct q kts)] env Q := fun F G H σ vs R rr => by
  obtain ⟨v, _, rfl, h1, h2⟩ := rr.rp
  rw [show _ = [] from h2]
  obtain ⟨rfl, us, hp, hf, hr⟩ := (show rep X.K F H (dct q kts) v from h1)
  have hl : us.length = kts.length := by simpa using reps_len hr
  have e : (zipT kts us).map (·.1) = kts.map Prod.fst := by rw [zipT, List.map_fst_zip (by simp [hl])]
  exact wC_of (call_sortedDI hc) ⟨q, zipT kts us, ks, rfl, .inl hp, by rw [e]; exact hk, h64, fun ys p h3 h4 n => pv_lstd R n (ints_dqs ys) (z ys p h3 h4)⟩
end
end VL

/-! text VL28 -/
set_option Elab.async false
set_option linter.all false
set_option maxRecDepth 100000
set_option maxHeartbeats 2000000
set_option pp.maxSteps 400
namespace VL
open PySem PySem.Spec L2

/-! ### 34. dict comprehensions of data -/
section
variable {X : Cx} {env : Env} {Q : R → Env → Prop} {D : Dn} {kx vx tg iter : Expr} {ifs : List Expr} {scope : Scope} {pos : Pos} {is : List Nat}
def DcQ (X : Cx) (scope : Scope) (is : List Nat) (tg : Expr) (ifs : List Expr) (kx vx : Expr) (Q : R → Env → Prop) (xs : List Itm) (C : Env → Prop) (e1 : Env) : Prop :=
  ∃ I : Nat → KT → Env → Prop, I 0 [] (wipeE e1 is) ∧ (∀ i acc e, I i acc e → C e ∧ (i < xs.length → acc.length < sizeLine)) ∧
    (∀ i x acc e, xs[i]? = some x → I i acc e → ∀ p1, VGt (bk X scope p1) tg is x e fun e2 => ∀ p2, VTs (bk X scope p2) ifs e2 fun b e3 =>
      if b = true then ∀ p3, VE (bk X scope p3) kx e3 fun r e4 => ∃ k, r = dd (keyD k) ∧ ∀ p4, VE (bk X scope p4) vx e4 fun q e5 => ∃ y, q = dd y ∧ I (i + 1) (putT acc k (.d y)) (wipeE e5 is) else I (i + 1) acc (wipeE e3 is)) ∧
    ∀ acc e, I xs.length acc e → ∀ p, Q (.own (dct p acc)) (wipeE e is.reverse)
theorem dc_read {wi : TI} {F G H : Hp} {σ : L2.St} (k : ∀ S : It → Hp → Prop, (∀ J H1 F1 xs C e1, Same F F1 → Rp X.K F1 G H1 σ e1 → JOk X.K F1 J xs C → DcQ X scope is tg ifs kx vx Q xs C e1 → S J H1) → wi σ H S) :
    tDc wi (fun v σ H Q => ∀ p, wG (bk X scope p) tg v σ H Q) (fun σ H Q => ∀ p, wTs (bk X scope p) ifs σ H Q) (fun σ H Q => ∀ p, wE (bk X scope p) kx σ H Q) (fun σ H Q => ∀ p, wE (bk X scope p) vx σ H Q) is σ H (PV X.K F G σ Q) := by
  refine k _ fun J H1 F1 xs C e1 s1 R1 jok ⟨I, h0, hC, ht, hd⟩ D hD => ?_
  have nF1 : F1 D = none := none_of R1.bs.fh hD
  have nG : G D = none := none_of R1.bs.gh hD
  refine ⟨fun i m Hc => i + m = xs.length ∧ ∃ F2 e acc, Same F1 F2 ∧ Rp X.K F2 G Hc (L2.wipe σ is) e ∧ Vr X.K F2 G Hc e (.ref D) (dct D acc) ∧ nodesL (acc.map Prod.snd) = [] ∧ I i acc e, ⟨xs.length, by omega, F1, wipeE e1 is, [], .refl _, ?_, ?_, rfl, h0⟩, fun i m Hc ⟨em, F2, e2, acc, s2, R2, q2, hn, hI⟩ => ?_⟩
  · have g : Gw F1 G H1 F1 (upd H1 D ((Kd.dk []).ho [])) := Gw.own R1.bs hD (.dk []) []
    exact (R1.grow g).wipe is
  · refine ⟨⟨rfl, [], upd_same, rfl, rfl⟩, List.nodup_cons.mpr ⟨(by intro z; cases z), List.nodup_nil⟩, fun p hp => ?_⟩
    rcases List.mem_cons.mp hp with rfl | hp
    · refine ⟨fun hm => ?_, nF1, nG⟩
      obtain ⟨kk, vs, z⟩ := (R1.wipe is).re.there p hm
      rw [hD] at z
      cases z
    · cases hp
  · obtain ⟨c1, c2⟩ := hC _ _ _ hI
    obtain ⟨j1, j2⟩ := jok F2 G Hc _ e2 i s2 R2 c1
    cases ex : xs[i]? with
    | none =>
      have hi : xs.length ≤ i := List.getElem?_eq_none_iff.mp ex
      have ei : i = xs.length := by omega
      subst ei
      exact .inl ⟨j2 hi, F2, .own (dct D acc), wipeE e2 is.reverse, s1.trans s2, R2.unwipe, Rr.own ⟨q2.rp, q2.nd, fun p hp => ⟨fun hm => (q2.fr p hp).1 (mem_wipeE _ hm), (q2.fr p hp).2⟩⟩, hd _ _ hI D⟩
    | some x =>
      have hi : i < xs.length := (List.getElem?_eq_some_iff.mp ex).1
      obtain ⟨nx, go, yl⟩ := j1 x ex
      refine .inr ⟨go, fun H' => ∃ F2 e acc, Same F1 F2 ∧ Rp X.K F2 G H' (L2.wipe σ is) e ∧ Vr X.K F2 G H' e (.ref D) (dct D acc) ∧ nodesL (acc.map Prod.snd) = [] ∧ I (i + 1) acc e, fun H' z => ⟨m - 1, by omega, by omega, z⟩, fun v H3 hy p1 => ?_⟩
      obtain ⟨F3, g, dv⟩ := yl v H3 hy
      have R3 := R2.grow g
      have q3 := q2.grow g
      obtain ⟨R3', fin⟩ := lend_step (.refl _) R3 (Rr.own q3)
      refine ((ht i x acc e2 ex hI p1) F3 _ H3 _ v R3' (it_lend nx dv)).imp fun σ4 H4 ⟨F4, e4, s4, R4, w4, z4⟩ => ⟨?_, fun p2 => ?_⟩
      · rw [w4]
        exact wipe_wipe is is σ fun j hj => hj
      · have w4' : L2.wipe σ4 is = L2.wipe σ is := by
          rw [w4]
          exact wipe_wipe is is σ fun j hj => hj
        intro pins s' I'
        refine thn (z4 p2 F4 _ H4 σ4 R4 pins s' I') fun b s'' ⟨H5, I5, F5, e5, s5, R5, z5⟩ => ⟨H5, I5, ?_⟩
        have s15 : Same F1 F5 := ((s2.trans g.ff).trans s4).trans s5
        cases b with
        | false =>
          obtain ⟨y1, y2, y3, _⟩ := fin (s4.trans s5) R5
          have R6 := y2.wipe is
          rw [w4'] at R6
          exact ⟨F5, _, acc, s15, R6, ⟨y3.rp, y3.nd, fun p hp => ⟨fun hm => (y3.fr p hp).1 (mem_wipeE _ hm), (y3.fr p hp).2⟩⟩, hn, z5⟩
        | true =>
          intro p3
          refine ((show ∀ p3, VE (bk X scope p3) kx e5 _ from z5) p3 F5 _ H5 σ4 R5).imp fun y H6 ⟨F6, r, e6, s6, R6, q6, kk, er, z6⟩ => ?_
          subst er
          have ey := keyD_v (show Dq X.K F6 y (keyD kk) from q6.rp)
          intro p4
          refine (z6 p4 F6 _ H6 σ4 R6).imp fun u H7 ⟨F7, r7, e7, s7, R7, q7, yy, eyy, z7⟩ => ?_
          subst eyy
          obtain ⟨y1, y2, y3, y4⟩ := fin (((s4.trans s5).trans s6).trans s7) R7
          obtain ⟨vs, hv, _, hr⟩ := (show rep _ _ _ (dct D acc) (.ref D) from y3.rp).2
          have yD := y3.fr D List.mem_cons_self
          have lv : vs.length = acc.length := by simpa using reps_len hr
          obtain ⟨vs', ep, hr'⟩ := put_rel kk (t := .d yy) (v := u) (show rep X.K F7 H7 (.d yy) u from q7.rp) hr
          have hn' : nodesL ((putT acc kk (.d yy)).map Prod.snd) = [] := by
            have := putT_nodes kk yy acc
            rw [hn] at this
            exact List.sublist_nil.mp this
          have Rw := (y2.write yD.1 yD.2.1 yD.2.2 (.dk ((putT acc kk (.d yy)).map Prod.fst)) vs').wipe is
          rw [w4'] at Rw
          have hl' : vs'.length = (putT acc kk (.d yy)).length := by simpa using reps_len hr'
          refine ⟨zipT acc vs, kk, ey, hv, by rw [List.length_zip]; have := c2 hi; simp; omega, ?_⟩
          rw [ep]
          refine ⟨F7, _, putT acc kk (.d yy), (s15.trans s6).trans s7, Rw, ⟨⟨rfl, vs', upd_same, by simp [Kd.fit, hl'], reps_frame (.refl _) _ _ (fun a ha => by rw [hn'] at ha; cases ha) hr'⟩, ?_, fun p hp => ?_⟩, hn', z7⟩
          · show (D :: nodesL ((putT acc kk (.d yy)).map Prod.snd)).Nodup
            rw [hn']
            simp
          · have : p = D := by
              rcases List.mem_cons.mp hp with h | h
              · exact h
              · rw [hn'] at h; cases h
            subst this
            exact ⟨fun hm => yD.1 (mem_wipeE _ hm), yD.2⟩
/-- {kx: vx for tg in iter if ..} -/
theorem ve_dc (own : List (Str × Nat)) (h : VI X tg iter env (DcQ X scope (own.map (·.2)) tg ifs kx vx Q)) (ok : blkC X.N X.env.scope scope own = true := by rfl) (hc : X.calm = true := by rfl) (hN : X.N.Nodup := by assumption)
    (hs : ∀ x, foldedSetIterable iter X.env x = pure x := by intro _; rfl) : VE X (.DictComp kx vx [⟨tg, iter, ifs, 0⟩] scope pos) env Q := fun F G H σ Rq => by
  obtain ⟨wi, pi, k⟩ := h
  exact wE_of (pe_dc (own := own) hc hN pi (blkOk_by ok) blk_wG blk_wT blk_wE blk_wE hs) (dc_read (k F G H σ Rq))
end
end VL

/-! text VL29 -/
set_option Elab.async false
set_option linter.all false
set_option maxRecDepth 100000
set_option maxHeartbeats 2000000
set_option pp.maxSteps 400
namespace VL
open PySem PySem.Spec L2
section
variable {X : Cx} {a b c e : Expr} {pos pt px py pz apos cpos : Pos} {env : VL.Env} {D : Dn} {Q : R → VL.Env → Prop}
/-- x, y, z = a, b, c with three local names -/
theorem vs_par3 (i j l : Nat) {x y z : Str} {kt k2 pt2} (h : VEs X [a, b, c] env fun rs e1 => ∃ t u v, rs = [.own t, .own u, .own v] ∧ D.nx (((e1.set i (some t)).set j (some u)).set l (some v)))
    (hw : swappedStores [.Tuple [.Name x px, .Name y py, .Name z pz] kt pt] (.Tuple [a, b, c] k2 pt2) X.env = pure (some [x, y, z]) := by rfl) (hij : i ≠ j := by decide) (hil : i ≠ l := by decide) (hjl : j ≠ l := by decide) (hc : X.calm = true := by rfl) (hN : X.N.Nodup := by assumption) (hi : X.N[i]? = some x := by rfl) (hj : X.N[j]? = some y := by rfl) (hl : X.N[l]? = some z := by rfl)
    (hx : X.env.scope.names.lookup x = some .local := by rfl) (hy : X.env.scope.names.lookup y = some .local := by rfl) (hz : X.env.scope.names.lookup z = some .local := by rfl)
    (hs : swapsWithSole [.Tuple [.Name x px, .Name y py, .Name z pz] kt pt] (.Tuple [a, b, c] k2 pt2) pos.line X.env = pure false := by rfl) :
    VS X (.Assign [.Tuple [.Name x px, .Name y py, .Name z pz] kt pt] (.Tuple [a, b, c] k2 pt2) pos) env D := fun F G H σ Rq =>
  wS_of (ps_par3 hc hN hi hj hl hij hil hjl hx hy hz pa_w hw hs) ((h F G H σ Rq).imp fun vs H1 ⟨F1, rs, e1, s, R1, q1, t, u, v, er, zz⟩ => by
    subst er
    obtain ⟨⟨v1, r1, ev, h1, ⟨v2, r2, ew, h2, ⟨v3, r3, ex, h3, h4⟩⟩⟩, nd, fr⟩ := q1
    have h4' : r3 = [] := h4
    subst h4' ex ew ev
    have nd' : (nodes t ++ (nodes u ++ (nodes v ++ []))).Nodup := nd
    rw [List.append_nil] at nd'
    obtain ⟨n1, n23, n4⟩ := List.nodup_append.mp nd'
    obtain ⟨n2, n3, n5⟩ := List.nodup_append.mp n23
    have q1 : Vr X.K F1 G H1 e1 v1 t := ⟨h1, n1, fun p hp => fr p (List.mem_append_left _ hp)⟩
    have q2 : Vr X.K F1 G H1 (e1.set i (some t)) v2 u := ⟨h2, n2, fun p hp => by
      have hp' : p ∈ rnodesL [R.own t, R.own u, R.own v] := List.mem_append_right _ (List.mem_append_left _ hp)
      refine ⟨fun hm => ?_, (fr p hp').2⟩
      rcases mem_setE hm with hm | hm
      · exact n4 p hm p (List.mem_append_left _ hp) rfl
      · exact (fr p hp').1 hm⟩
    have q3 : Vr X.K F1 G H1 ((e1.set i (some t)).set j (some u)) v3 v := ⟨h3, n3, fun p hp => by
      have hp' : p ∈ rnodesL [R.own t, R.own u, R.own v] := List.mem_append_right _ (List.mem_append_right _ (List.mem_append_left _ hp))
      refine ⟨fun hm => ?_, (fr p hp').2⟩
      rcases mem_setE hm with hm | hm
      · exact n5 p hm p hp rfl
      · rcases mem_setE hm with hm | hm
        · exact n4 p hm p (List.mem_append_right _ hp) rfl
        · exact (fr p hp').1 hm⟩
    exact ⟨v1, v2, v3, rfl, F1, _, s, ((R1.set q1).set q2).set q3, zz⟩)
/-- sorted(t), t a tuple of fewer than 64 numbers -/
theorem sorted_t {ns : List Int} (h64 : ns.length < 64) (hc : X.calm = true) (z : ∀ (ys : List Int) (p : Addr), ys.Perm ns → ys.Pairwise (· ≤ ·) → Q (.own (ls p (ys.map PyData.int))) env) : CallV X (.builtin "sorted") [dd (.tuple (ns.map PyData.int))] env Q := fun F G H σ vs R rr pins s σ' us I r => by
  obtain ⟨v, _, rfl, h1, h2⟩ := rr.rp
  rw [show _ = [] from h2] at r
  obtain ⟨d, ws, rfl, ha, da⟩ := tup_at R h1
  obtain rfl := dqs_ints da
  obtain ⟨its, rv, ht, hz⟩ := inv_tup I ha
  rw [Vals.ref1 r]
  have hi := rv.ints
  have hlen : its.length = ns.length := by
    have := rv.length
    rw [List.length_map] at this
    exact this.symm
  obtain ⟨o, n, ho, hcl, hdt⟩ : ∃ o n, s.heap.get? d = some o ∧ o.cls = .type "tuple" ∧ o.data = .seq its.toArray n := by
    obtain ⟨o, ho, hcl, n, hdt⟩ := ht
    exact ⟨o, n, ho, hcl, hdt⟩
  have hsz : its.length ≤ sizeLine := by rw [hlen, sizeLine_eq]; omega
  refine Calls.call_function_entry PyProof.Rows.kind_sorted PyProof.Rows.plain_sorted PyProof.Rows.entry_sorted (PyProof.Rows.args_sorted1 _) (?_ : wpAny _ _ (Builtin.«sorted» _) _ _ _)
  unfold Builtin.«sorted»
  refine wpAny_bind (m := checkCount "sorted" 1 1 _) (wpAny_pure ?_); refine wpAny_bind (wpAny_collect_seq d (.inr rfl) ho hcl hdt (fun h' hk => ?_) (by simpa using hsz))
  refine wpAny_bind (wpAny_newList ?_ (by simpa using hsz))
  have J : Inv X pins σ' H { s with heap := h' } := I.kept (t' := s.toks) hk
  have hoL : (h'.push (PyProof.Rows.seqObj "list" its.toArray.toList.toArray 0)).get? h'.objs.size = some (PyProof.Rows.seqObj "list" its.toArray.toList.toArray 0) := Heap.get?_push_size _ rfl
  refine wpAny_bind (wpAny_holding (wpAny_call_entry PyProof.Rows.slot_list_sort ⟨_, hoL, rfl⟩ PyProof.Rows.entry_list_sort (PyProof.Rows.list_sort_tree (s := { s with heap := h'.push (PyProof.Rows.seqObj "list" its.toArray.toList.toArray 0) }) hoL (by simpa using hi) (by simpa [hlen] using h64) fun out ys g1 g2 g3 => ⟨_, rfl, ?_⟩) (PyProof.Rows.args_list_sort _)))
  obtain ⟨m, hm⟩ := PyProof.Rows.sortedHeap_at (vs := its.toArray.toList) (out := out) hoL
  have hy : (ys.map V.int).length ≤ sizeLine := by rw [List.length_map, g2.length_eq, ← hlen]; exact hsz
  refine wpAny_pure ⟨_, rfl, .ref h'.objs.size, upd H h'.objs.size (.lst (ys.map V.int)), J.laid (t' := s.toks) (fun k u ek => ?_) (Nat.le_refl _)
    (show ObjOk X.prog X.w _ _ _ (.lst (ys.map V.int)) from ⟨hy, out.toList, m, vals_of_ints g1, by rw [Array.toArray_toList]; exact hm⟩), rfl, pv_lstd R (J.hok.fresh (Nat.le_refl _)) (ints_dqs ys) (z ys _ g2 g3)⟩
  have hlt : k < h'.objs.size := Heap.lt_size ek
  rw [PyProof.Rows.sortedHeap_old (Nat.ne_of_lt hlt) (by rw [PyProof.Rows.size_push']; exact Nat.lt_succ_of_lt hlt)]
  exact Heap.get?_push_of_some _ ek
/-- xs.count(x), xs a list -/
theorem lst_count {r : R} {xs : List PyData} {x : PyData} (hu : X.A.units + 64 < cLine) (s' : Sees env r (.list xs)) (h1 : x.plain = true) (h2 : PyData.plainAll xs = true) (hd : x.depth ≤ 60) (z : Q (dd (.int ((xs.countP fun y => PyData.eqv y x : Nat) : Int))) env) : MetV X "list" "list.count" r [dd x] env Q := fun F G H σ v vs R rr pins s0 σ' u us I r1 r2 => by
  obtain ⟨⟨va, vb, ea, ha, ⟨w, vc, eb, hb, hc⟩⟩, _, _⟩ := rr
  cases ea
  subst eb
  rw [show vc = [] from hc] at r2
  cases r2 with
  | cons rw' rt =>
    cases rt
    rename_i uw
    obtain ⟨q, ws, rfl, hl, hq⟩ := sees_lst s' R ha
    cases r1
    obtain ⟨its, n, rv, ho, hz⟩ := lstAt_is I hl
    obtain ⟨as, ra⟩ := dp_reads I (sees_dp (.d x) R hb) rw'
    obtain ⟨bs, rb⟩ := dqs_reads I R.bs.fh hq rv
    exact SeqAt.count_list_data (vs := its.toArray) ⟨_, ho, rfl, n, rfl⟩ (by simpa using rb) ra h2 h1 (by have := Nat.min_le_right (PyData.depthAll xs) x.depth; omega) ⟨.int _, H, I.tok _, ⟨_, rfl⟩, pv_int R z⟩
theorem ve_countL {o : Expr} (hu : X.A.units + 64 < cLine) (h : VE X o env fun r e1 => ∃ xs, Sees e1 r (.list xs) ∧ VE X e e1 fun q e2 => ∃ x, q = dd x ∧ Sees e2 r (.list xs) ∧ x.plain = true ∧ PyData.plainAll xs = true ∧ x.depth ≤ 60 ∧ Q (dd (.int ((xs.countP fun y => PyData.eqv y x : Nat) : Int))) e2)
    (hbase : attributeBase o "count" X.env (eval o X.env) = eval o X.env := by rfl)
    (hfew : ((backTo cpos (starEach [e] X.env)).all (fun x => !x.1) && (backToKw cpos (keywordEach [] X.env)).all (fun x => x.1.isSome)
      && decide (([e] : List Expr).length + ([] : List Keyword).length + (if ([] : List Keyword).isEmpty then 0 else 1) < 30)) = true := by rfl)
    (hline : (apos.endLine == cpos.line) = true := by rfl) (hs : starEach [e] X.env = (false, eval e X.env) :: starEach [] X.env := by rfl) (hplain : (backTo cpos (starEach [] X.env)).any (·.1) = false := by rfl) :
    VE X (.Call (.Attribute o "count" apos) [e] [] cpos) env Q :=
  ve_bm PySem.F.plainAttrs_list PySem.F.slot_list_count PySem.F.type_list_count (h.imp fun r e1 ⟨xs, sr, z⟩ => ⟨ty_lst sr, ves_cons (z.imp fun q e2 ⟨x, eq, s2, h1, h2, h3, z⟩ => ves_nil (eq ▸ lst_count hu s2 h1 h2 h3 z)) hs⟩) hbase hfew hline hs hplain
end
end VL

/-! text VL30 -/
set_option Elab.async false
set_option linter.all false
set_option maxRecDepth 100000
set_option maxHeartbeats 2000000
set_option pp.maxSteps 400
namespace VL
open PySem PySem.Spec L2

/-! ### dicts with tuples of numbers for keys -/
section
variable {κ : Type} [DecidableEq κ]
abbrev KG (κ : Type) := List (κ × T)
def getG (kts : KG κ) (k : κ) : Option T := (kts.find? fun kv => decide (kv.1 = k)).map (·.2)
def putG (kts : KG κ) (k : κ) (t : T) : KG κ := if (kts.any fun kv => decide (kv.1 = k)) = true then kts.map (fun kv => if kv.1 = k then (kv.1, t) else kv) else kts ++ [(k, t)]
abbrev zipG (kts : KG κ) (vs : List V) : List (κ × V) := (kts.map Prod.fst).zip vs
theorem getG_pos {p : κ × T} {r : KG κ} {k : κ} (e : p.1 = k) : getG (p :: r) k = some p.2 := by simp [getG, List.find?_cons, e]
theorem getG_neg {p : κ × T} {r : KG κ} {k : κ} (e : ¬ p.1 = k) : getG (p :: r) k = getG r k := by simp [getG, List.find?_cons, e]
theorem getG_map (k : κ) (t : T) : ∀ kts : KG κ, getG (kts.map fun kv => if kv.1 = k then (kv.1, t) else kv) k = (getG kts k).map fun _ => t
  | [] => rfl
  | p :: r => by
    rw [List.map_cons]
    by_cases e : p.1 = k
    · rw [if_pos e, getG_pos (p := (p.1, t)) e, getG_pos e]
      rfl
    · rw [if_neg e, getG_neg e, getG_neg e, getG_map k t r]
theorem getG_map_ne {k j : κ} (t : T) (h : j ≠ k) : ∀ kts : KG κ, getG (kts.map fun kv => if kv.1 = k then (kv.1, t) else kv) j = getG kts j
  | [] => rfl
  | p :: r => by
    rw [List.map_cons]
    by_cases e : p.1 = k
    · have e2 : ¬ p.1 = j := fun z => h (z.symm.trans e)
      rw [if_pos e, getG_neg (p := (p.1, t)) e2, getG_neg e2, getG_map_ne t h r]
    · rw [if_neg e]
      by_cases e2 : p.1 = j
      · rw [getG_pos e2, getG_pos e2]
      · rw [getG_neg e2, getG_neg e2, getG_map_ne t h r]
theorem getG_any (k : κ) : ∀ kts : KG κ, (kts.any fun kv => decide (kv.1 = k)) = (getG kts k).isSome
  | [] => rfl
  | p :: r => by
    rw [List.any_cons]
    by_cases e : p.1 = k
    · rw [getG_pos e, decide_eq_true e]
      rfl
    · rw [getG_neg e, decide_eq_false e, getG_any k r]
      rfl
theorem getG_app (k j : κ) (t : T) : ∀ kts : KG κ, getG (kts ++ [(k, t)]) j = if (getG kts j).isSome = true then getG kts j else if k = j then some t else none
  | [] => by
    show getG [(k, t)] j = _
    by_cases e : k = j
    · rw [getG_pos (p := (k, t)) e]; simp [getG, e]
    · rw [getG_neg (p := (k, t)) e]; simp [getG, e]
  | p :: r => by
    rw [List.cons_append]
    by_cases e : p.1 = j
    · rw [getG_pos e, getG_pos e]
      rfl
    · rw [getG_neg e, getG_neg e, getG_app k j t r]
/-- what a look-up gives behind a store -/
theorem getG_put (kts : KG κ) (k j : κ) (t : T) : getG (putG kts k t) j = if j = k then some t else getG kts j := by
  unfold putG
  rw [getG_any]
  by_cases e : j = k
  · subst e
    rw [if_pos rfl]
    cases h : getG kts j with
    | some u =>
      rw [if_pos (by rfl), getG_map, h]
      rfl
    | none =>
      rw [if_neg (by simp), getG_app, h]
      simp
  · rw [if_neg e]
    split
    · exact getG_map_ne t e kts
    · rw [getG_app]
      cases h : getG kts j with
      | some u => simp
      | none => rw [if_neg (by simp), if_neg fun z : k = j => e z.symm]
theorem putG_len (kts : KG κ) (k : κ) (t : T) : (putG kts k t).length ≤ kts.length + 1 := by
  unfold putG
  split <;> simp
variable {K : PySem.W.Frag} {F H : Hp}
theorem val_relG (k : κ) : ∀ {kts : KG κ} {vs : List V}, reps K F H (kts.map Prod.snd) vs → (getG kts k = none → valV (zipG kts vs) k = none) ∧ ∀ t, getG kts k = some t → ∃ v, valV (zipG kts vs) k = some v ∧ rep K F H t v
  | [], vs, h => by
    rw [show vs = [] from h]
    exact ⟨fun _ => rfl, fun t e => (by cases e)⟩
  | p :: kts, vs, h => by
    obtain ⟨v, r, rfl, h1, h2⟩ := h
    have ez : zipG (p :: kts) (v :: r) = (p.1, v) :: zipG kts r := rfl
    by_cases ek : p.1 = k
    · rw [getG_pos ek]
      refine ⟨fun e => (by cases e), fun t e => ?_⟩
      cases e
      exact ⟨v, by rw [ez, valV_pos (p := (p.1, v)) ek], h1⟩
    · rw [getG_neg ek, ez, valV_neg (p := (p.1, v)) ek]
      exact val_relG k h2
theorem any_relG (k : κ) : ∀ {kts : KG κ} {vs : List V}, reps K F H (kts.map Prod.snd) vs → ((zipG kts vs).any fun kv => decide (kv.1 = k)) = kts.any fun kv => decide (kv.1 = k)
  | [], vs, h => by
    rw [show vs = [] from h]
    rfl
  | p :: kts, vs, h => by
    obtain ⟨v, r, rfl, h1, h2⟩ := h
    have ez : zipG (p :: kts) (v :: r) = (p.1, v) :: zipG kts r := rfl
    rw [ez, List.any_cons, List.any_cons, any_relG k h2]
theorem map_relG (k : κ) {t : T} {v : V} (q : rep K F H t v) : ∀ {kts : KG κ} {vs : List V}, reps K F H (kts.map Prod.snd) vs → ∃ vs', (zipG kts vs).map (fun kv => if kv.1 = k then (kv.1, v) else kv) = zipG (kts.map fun kv => if kv.1 = k then (kv.1, t) else kv) vs' ∧ reps K F H ((kts.map fun kv => if kv.1 = k then (kv.1, t) else kv).map Prod.snd) vs'
  | [], vs, h => ⟨[], by rw [show vs = [] from h]; rfl, rfl⟩
  | (k0, t0) :: kts, vs, h => by
    obtain ⟨w, r, rfl, h1, h2⟩ := h
    obtain ⟨vs', e1, e2⟩ := map_relG k q h2
    by_cases ek : k0 = k
    · refine ⟨v :: vs', ?_, v, vs', rfl, ?_, e2⟩
      · show (if k0 = k then (k0, v) else (k0, w)) :: (zipG kts r).map _ = _
        rw [e1, if_pos ek]
        simp [zipG, ek]
      · show rep K F H (if k0 = k then (k0, t) else (k0, t0)).2 v
        rw [if_pos ek]
        exact q
    · refine ⟨w :: vs', ?_, w, vs', rfl, ?_, e2⟩
      · show (if k0 = k then (k0, v) else (k0, w)) :: (zipG kts r).map _ = _
        rw [e1, if_neg ek]
        simp [zipG, ek]
      · show rep K F H (if k0 = k then (k0, t) else (k0, t0)).2 w
        rw [if_neg ek]
        exact h1
theorem put_relG (k : κ) {t : T} {v : V} (q : rep K F H t v) {kts : KG κ} {vs : List V} (h : reps K F H (kts.map Prod.snd) vs) : ∃ vs', putK (zipG kts vs) k v = zipG (putG kts k t) vs' ∧ reps K F H ((putG kts k t).map Prod.snd) vs' := by
  unfold putK putG
  rw [any_relG k h]
  split
  · exact map_relG k q h
  · refine ⟨vs ++ [v], ?_, ?_⟩
    · have hl : vs.length = kts.length := by simpa using reps_len h
      rw [zipG, zipG, List.map_append, List.zip_append (by simp [hl])]
      rfl
    · rw [List.map_append]
      exact reps_app h ⟨v, [], rfl, q, rfl⟩
theorem putG_nodes (k : κ) (x : PyData) (kts : KG κ) : (nodesL ((putG kts k (.d x)).map Prod.snd)).Sublist (nodesL (kts.map Prod.snd)) := by
  have go : ∀ kts : KG κ, (nodesL ((kts.map fun kv => if kv.1 = k then (kv.1, T.d x) else kv).map Prod.snd)).Sublist (nodesL (kts.map Prod.snd)) := by
    intro kts
    induction kts with
    | nil => exact List.Sublist.refl _
    | cons p r ih =>
      refine List.Sublist.append ?_ ih
      show (nodes (if p.1 = k then (p.1, T.d x) else p).2).Sublist (nodes p.2)
      split
      · exact List.nil_sublist _
      · exact List.Sublist.refl _
  unfold putG
  split
  · exact go kts
  · rw [List.map_append, nodesL_app]
    show (nodesL (kts.map Prod.snd) ++ ([] ++ [])).Sublist _
    rw [List.append_nil, List.append_nil]
    exact List.Sublist.refl _
end
abbrev KTt := KG (List Key)
abbrev ik (ks : List Int) : List Key := ks.map Sum.inl
/-- a dict of one's own, its keys tuples -/
abbrev dcT (p : Addr) (kts : KTt) : T := .nd p (.dt (kts.map Prod.fst)) (kts.map Prod.snd)
abbrev LcT (env : VL.Env) (p : Addr) (kts : KTt) (put : Kd → List T → VL.Env) : Prop := Loc env p (.dt (kts.map Prod.fst)) (kts.map Prod.snd) put
section
variable {X : Cx} {K : PySem.W.Frag} {F G H : Hp} {σ : L2.St} {env : VL.Env} {Q : R → VL.Env → Prop} {D : Dn} {v : V} {x : PyData} {o value : Expr} {es : List Expr} {pos pos' pos2 : Pos} {k2 : Nat} {kts : KTt} {p : Addr} {put : Kd → List T → VL.Env}
theorem LcT.get (L : LcT env p kts put) (R : Rp K F G H σ env) : ∃ vs, H p = some (.dT (zipG kts vs)) ∧ vs.length = kts.length ∧ reps K F H (kts.map Prod.snd) vs := by
  obtain ⟨_, vs, hp, hf, hr⟩ := L.read R
  exact ⟨vs, hp, by simpa using reps_len hr, hr⟩
theorem LcT.dget (L : LcT env p kts put) (R : Rp K F G H σ env) {b : Addr} {k : List Key} (eb : H b = some (.tup (k.map kV))) : (getG kts k = none → DGet H p (.ref b) none) ∧ ∀ t, getG kts k = some t → ∃ v, DGet H p (.ref b) (some v) ∧ rep K F H t v := by
  obtain ⟨vs, hp, _, hr⟩ := L.get R
  obtain ⟨h1, h2⟩ := val_relG k hr
  have g := DGet.t (k := k) hp eb
  refine ⟨fun e => ?_, fun t e => ?_⟩
  · rw [h1 e] at g
    exact g
  · obtain ⟨v, e1, e2⟩ := h2 t e
    rw [e1] at g
    exact ⟨v, g, e2⟩
theorem LcT.write (L : LcT env p kts put) (R : Rp K F G H σ env) {b : Addr} {k : List Key} (eb : H b = some (.tup (k.map kV))) (hl : kts.length < sizeLine) (hx : Dq K F v x) : ∃ H', DPut H p (.ref b) v H' ∧ Rp K F G H' σ (put (.dt ((putG kts k (.d x)).map Prod.fst)) ((putG kts k (.d x)).map Prod.snd)) := by
  obtain ⟨vs, hp, hl2, hr⟩ := L.get R
  obtain ⟨vs', e1, e2⟩ := put_relG k (t := .d x) (v := v) hx hr
  refine ⟨_, DPut.t hp eb (by rw [List.length_zip]; simp; omega), ?_⟩
  rw [e1]
  exact Loc.write L (k' := .dt ((putG kts k (.d x)).map Prod.fst)) R (by show _ = _; rw [reps_len e2]; simp) (putG_nodes k x kts) e2
/-- the items of a written tuple of numbers -/
theorem key_vals {F G H : Hp} {vs : List V} {ks : List Int} {env : VL.Env} (q : Rrs K F G H env vs (ks.map fun i => dd (.int i))) : vs = (ik ks).map kV := by
  have h := rreps_dd (xs := ks.map PyData.int) |>.mp (by rw [List.map_map]; exact q.rp)
  rw [dqs_ints h, List.map_map]
  rfl
/-- {} -/
theorem ve_dnewT (h : ∀ p, Q (.own (dcT p [])) env) : VE X (.Dict [] [] pos) env Q := fun F G H σ Rq => wE_of pe_dnewT fun p hn =>
  ⟨F, _, env, .refl _, Rq.grow (Gw.own Rq.bs hn (.dt []) []), Rr.own ⟨show rep X.K F _ (dcT p []) (.ref p) from ⟨rfl, [], upd_same, rfl, rfl⟩, (by show [p].Nodup; simp), fun a ha => by
    have ea : a = p := by
      rcases List.mem_cons.mp ha with e | e
      · exact e
      · cases e
    subst ea
    refine ⟨fun hm => ?_, none_of Rq.bs.fh hn, none_of Rq.bs.gh hn⟩
    obtain ⟨k, vs, e⟩ := Rq.re.there a hm
    rw [hn] at e
    cases e⟩, h p⟩
/-- d[e, ..] -/
theorem ve_dgetT (hu : X.A.units + 1 < cLine) (h : VE X o env fun r e1 => VEs X es e1 fun rs e2 => ∃ p kts put, ∃ ks : List Int, ∃ t, r = .rf p ∧ rs = ks.map (fun i => dd (.int i)) ∧ ks.length ≤ 100 ∧ LcT e2 p kts put ∧ getG kts (ik ks) = some t ∧ Q (R.of t) e2)
    (hs : NoSl (.Tuple es k2 pos2) := by exact fun _ _ => rfl) : VE X (.Subscript o (.Tuple es k2 pos2) pos) env Q := fun F G H σ Rq =>
  wE_of (pe_dget hu pe_w (pe_tup pa_w) hs) ((h F G H σ Rq).imp fun v H1 ⟨F1, r, e1, s1, R1, q1, h1⟩ => by
    obtain ⟨R1', fin⟩ := lend_step s1 R1 q1
    refine (h1 F1 _ H1 σ R1').imp fun vs H2 ⟨F2, rs, e2, s2, R2, q2, p, kts, put, ks, t, er, ers, hl, L, eg, z⟩ => ?_
    subst er ers
    obtain ⟨z1, z2, z3, _⟩ := fin s2 R2
    have ev := key_vals q2
    subst ev
    refine ⟨by rw [List.length_map, List.length_map, sizeLine_eq]; omega, fun b hb => ?_⟩
    have R3 := z2.grow (Gw.any z2.bs hb (.tup ((ik ks).map kV)))
    obtain ⟨u, g, hr⟩ := (L.dget R3 (upd_same ..)).2 t eg
    exact ⟨p, u, (show v = .ref p from z3.rp), g, F2, _, e2, z1, R3, rep_of_R hr, z⟩)
/-- d[e, ..] = data -/
theorem vs_dputT (hu : X.A.units + 1 < cLine) (h : VE X value env fun r0 e0 => ∃ x, r0 = dd x ∧ VE X o e0 fun r e1 => VEs X es e1 fun rs e2 => ∃ p kts put, ∃ ks : List Int, r = .rf p ∧ rs = ks.map (fun i => dd (.int i)) ∧ ks.length ≤ 100 ∧ LcT e2 p kts put ∧ kts.length < sizeLine ∧ D.nx (put (.dt ((putG kts (ik ks) (.d x)).map Prod.fst)) ((putG kts (ik ks) (.d x)).map Prod.snd)))
    (hs : swapsWith value (some (.Subscript o (.Tuple es k2 pos2) pos')) pos.line X.env = pure false := by rfl) : VS X (.Assign [.Subscript o (.Tuple es k2 pos2) pos'] value pos) env D := fun F G H σ Rq =>
  wS_of (ps_dput hu pe_w (pe_tup pa_w) pe_w hs) ((h F G H σ Rq).imp fun v0 H0 ⟨F0, r0, e0, s0, R0, q0, x, er0, h0⟩ => by
    subst er0
    have hx : Dq X.K F0 v0 x := q0.rp
    refine (h0 F0 G H0 σ R0).imp fun v H1 ⟨F1, r, e1, s1, R1, q1, h1⟩ => ?_
    obtain ⟨R1', fin⟩ := lend_step s1 R1 q1
    refine (h1 F1 _ H1 σ R1').imp fun vs H2 ⟨F2, rs, e2, s2, R2, q2, p, kts, put, ks, er, ers, hl, L, hlt, z⟩ => ?_
    subst er ers
    obtain ⟨z1, z2, z3, _⟩ := fin s2 R2
    have ev := key_vals q2
    subst ev
    refine ⟨by rw [List.length_map, List.length_map, sizeLine_eq]; omega, fun b hb => ?_⟩
    have R3 := z2.grow (Gw.any z2.bs hb (.tup ((ik ks).map kV)))
    obtain ⟨H', g, R'⟩ := L.write (k := ik ks) R3 (upd_same ..) hlt (dq_mono z1 _ _ hx)
    exact ⟨p, H', (show v = .ref p from z3.rp), g, F2, _, s0.trans z1, R', z⟩)
end
end VL

/-! text VL31 -/
set_option Elab.async false
set_option linter.all false
set_option maxRecDepth 100000
set_option maxHeartbeats 2000000
set_option pp.maxSteps 400
namespace VL
open PySem PySem.Spec L2

/-! ### dicts of data: len, list, dict(list(d.items()) + pairs) -/
abbrev KX := List (Key × PyData)
def kx (l : KX) : KT := l.map fun p => (p.1, .d p.2)
def putD (l : KX) (k : Key) (x : PyData) : KX := if (l.any fun p => decide (p.1 = k)) = true then l.map (fun p => if p.1 = k then (p.1, x) else p) else l ++ [(k, x)]
def mrgD (acc l : KX) : KX := l.foldl (fun a p => putD a p.1 p.2) acc
abbrev prD2 (p : Key × PyData) : PyData := .tuple [keyD p.1, p.2]
theorem kx_any (l : KX) (k : Key) : ((kx l).any fun kv => decide (kv.1 = k)) = l.any fun p => decide (p.1 = k) := by
  unfold kx
  rw [List.any_map]
  rfl
theorem kx_put (l : KX) (k : Key) (x : PyData) : putT (kx l) k (.d x) = kx (putD l k x) := by
  unfold putT putD
  rw [kx_any]
  split
  · unfold kx
    rw [List.map_map, List.map_map]
    refine List.map_congr_left fun p _ => ?_
    show (if p.1 = k then (p.1, T.d x) else (p.1, T.d p.2)) = ((if p.1 = k then (p.1, x) else p).1, T.d (if p.1 = k then (p.1, x) else p).2)
    split <;> rfl
  · unfold kx
    rw [List.map_append]
    rfl
theorem kx_snd (l : KX) : (kx l).map Prod.snd = (l.map Prod.snd).map T.d := by
  unfold kx
  rw [List.map_map, List.map_map]
  rfl
theorem kx_fst (l : KX) : (kx l).map Prod.fst = l.map Prod.fst := by
  unfold kx
  rw [List.map_map]
  rfl
theorem putD_len (l : KX) (k : Key) (x : PyData) : (putD l k x).length ≤ l.length + 1 := by
  unfold putD
  split <;> simp
theorem mrgD_len : ∀ (l acc : KX), (mrgD acc l).length ≤ acc.length + l.length
  | [], acc => Nat.le_refl _
  | p :: l, acc => by
    have h1 := mrgD_len l (putD acc p.1 p.2)
    have h2 := putD_len acc p.1 p.2
    show (mrgD (putD acc p.1 p.2) l).length ≤ _
    rw [List.length_cons]
    omega
section
variable {X : Cx} {K : PySem.W.Frag} {F G H : Hp} {σ : L2.St} {env : VL.Env} {Q : R → VL.Env → Prop} {D : Dn} {v : V} {x : PyData} {o e : Expr} {p : Addr} {put : Kd → List T → VL.Env} {kts : KT}
theorem mrg_rel : ∀ (l acc : KX) (vs avs : List V), Dqs K F vs (l.map Prod.snd) → Dqs K F avs (acc.map Prod.snd) → ∃ avs', mergeK (zipT (kx acc) avs) ((l.map Prod.fst).zip vs) = zipT (kx (mrgD acc l)) avs' ∧ Dqs K F avs' ((mrgD acc l).map Prod.snd)
  | [], acc, vs, avs, h, ha => by
    cases h
    exact ⟨avs, rfl, ha⟩
  | p :: l, acc, vs, avs, h, ha => by
    cases h with
    | cons h1 h2 =>
      rename_i v vs
      obtain ⟨a1, e1, e2⟩ := put_rel (K := K) (F := F) (H := F) p.1 (t := .d p.2) (v := v) h1 (kts := kx acc) (vs := avs) (by rw [kx_snd]; exact reps_d.mpr ha)
      rw [kx_put] at e1 e2
      rw [kx_snd] at e2
      obtain ⟨a2, e3, e4⟩ := mrg_rel l (putD acc p.1 p.2) vs a1 h2 (reps_d.mp e2)
      refine ⟨a2, ?_, e4⟩
      show mergeK (putK (zipT (kx acc) avs) p.1 v) ((l.map Prod.fst).zip vs) = _
      rw [e1, e3]
      rfl
/-- len(d) -/
theorem len_dct (L : LcD env p kts put) (z : Q (dd (.int kts.length)) env) : CallV X (.builtin "len") [.rf p] env Q := fun F G H σ vs R rr => by
  obtain ⟨⟨va, vb, ea, ha, hc⟩, _, _⟩ := rr
  rw [show vb = [] from hc] at ea
  subst ea
  rw [show va = .ref p from ha]
  obtain ⟨us, hp, hl, hr⟩ := L.get R
  refine wC_of call_lenD ⟨p, _, rfl, hp, ?_⟩
  rw [List.length_zip]
  simp only [List.length_map, hl, Nat.min_self]
  exact pv_int R z
theorem keys_dqs (F : Hp) : ∀ (ks : List Key) (us : List V), us.length = ks.length → Dqs K F ((ks.zip us).map fun kv => kV kv.1) (ks.map keyD)
  | [], us, h => .nil
  | k :: ks, [], h => by simp at h
  | k :: ks, u :: us, h => by
    refine .cons ?_ (keys_dqs F ks us (by simpa using h))
    cases k with
    | inl i => exact .int i
    | inr s => exact .str s
/-- list(d) -/
theorem list_dct (hc : X.calm = true) (L : LcD env p kts put) (z : ∀ q, Q (.own (ls q (kts.map fun kv => keyD kv.1))) env) : CallV X (.type "list") [.rf p] env Q := fun F G H σ vs R rr => by
  obtain ⟨⟨va, vb, ea, ha, hc2⟩, _, _⟩ := rr
  rw [show vb = [] from hc2] at ea
  subst ea
  rw [show va = .ref p from ha]
  obtain ⟨us, hp, hl, hr⟩ := L.get R
  refine wC_of (call_listD hc) ⟨p, _, rfl, .inl hp, fun q n => pv_lstd R n ?_ (z q)⟩
  have := keys_dqs (K := X.K) F (kts.map Prod.fst) us (by simpa using hl)
  rw [List.map_map] at this
  exact this
theorem Paired.mapP' {α β : Type} {P P' : α → β → Prop} : ∀ {xs : List α} {ys : List β}, Paired P xs ys → (∀ x y, x ∈ xs → P x y → P' x y) → Paired P' xs ys
  | _, _, .nil, _ => .nil
  | _, _, .cons a b, h => .cons (h _ _ List.mem_cons_self a) (Paired.mapP' b fun x y hx hp => h x y (List.mem_cons_of_mem _ hx) hp)
theorem pair_app {α β : Type} {P : α → β → Prop} : ∀ {xs : List α} {ys : List β} {zs : List α} {ws : List β}, Paired P xs ys → Paired P zs ws → Paired P (xs ++ zs) (ys ++ ws)
  | _, _, _, _, .nil, h => h
  | _, _, _, _, .cons a b, h => .cons a (pair_app b h)
/-- pairs that are data, as dict(..) asks -/
theorem pairs_dq : ∀ {l : KX} {vs : List V}, Dqs K F vs (l.map prD2) → Same F H → ∃ (ps : List Addr) (us : List V), vs = ps.map V.ref ∧ Dqs K F us (l.map Prod.snd) ∧ us.length = l.length ∧ Paired (fun p (kv : Key × V) => SqT K H p [kV kv.1, kv.2]) ps ((l.map Prod.fst).zip us)
  | [], vs, h, s => by
    cases h
    exact ⟨[], [], rfl, .nil, rfl, .nil⟩
  | p :: l, vs, h, s => by
    cases h with
    | cons h1 h2 =>
      obtain ⟨ps, us, e1, e2, e3, e4⟩ := pairs_dq h2 s
      cases h1 with
      | tup ht hd =>
        rename_i a xs
        cases hd with
        | cons d1 d2 =>
          cases d2 with
          | cons d3 d4 =>
            cases d4
            have ek := keyD_v d1
            subst ek e1
            exact ⟨a :: ps, _ :: us, rfl, .cons d3 e2, by rw [List.length_cons, List.length_cons, e3], .cons (ht.up s).sq e4⟩
/-- a new dict of data -/
theorem pv_dct {l : KX} {us : List V} {q : Addr} (R : Rp K F G H σ env) (n : H q = none) (h : Dqs K F us (l.map Prod.snd)) (z : Q (.own (dct q (kx l))) env) : PV K F G σ Q (.ref q) (upd H q (.dK (zipT (kx l) us))) := by
  have hl : us.length = l.length := by simpa using dpa_len h
  refine ⟨F, _, env, .refl _, R.grow (Gw.own R.bs n (.dk ((kx l).map Prod.fst)) us), Rr.own ⟨show rep K F _ (dct q (kx l)) (.ref q) from ⟨rfl, us, upd_same, by simp [Kd.fit, kx, hl], by rw [kx_snd]; exact reps_d.mpr h⟩, ?_, fun a ha => ?_⟩, z⟩
  · show (q :: nodesL ((kx l).map Prod.snd)).Nodup
    rw [kx_snd, nodesL_d]
    simp
  · have ea : a = q := by
      have ha' : a ∈ q :: nodesL ((kx l).map Prod.snd) := ha
      rw [kx_snd, nodesL_d] at ha'
      simpa using ha'
    subst ea
    refine ⟨fun hm => ?_, none_of R.bs.fh n, none_of R.bs.gh n⟩
    obtain ⟨k, vs, e⟩ := R.re.there a hm
    rw [n] at e
    cases e
/-- dict(ps), ps an own list of pairs -/
theorem dict_d {q : Addr} {l : KX} (hc : X.calm = true) (z : ∀ p', Q (.own (dct p' (kx (mrgD [] l)))) env) : CallV X (.type "dict") [.own (ls q (l.map prD2))] env Q := fun F G H σ vs R rr => by
  obtain ⟨v, _, rfl, h1, h2⟩ := rr.rp
  rw [show _ = [] from h2]
  obtain ⟨us, rfl, hp, hd⟩ := nd_dp R.bs h1
  obtain ⟨ps, ws, e1, e2, e3, e4⟩ := pairs_dq hd R.bs.fh
  subst e1
  obtain ⟨ws', e5, e6⟩ := mrg_rel (K := X.K) (F := F) l [] ws [] e2 .nil
  refine wC_of (call_dictP hc) ⟨q, ps, _, rfl, SqL.of hp, e4, fun p' n => ?_⟩
  have e7 : mergeK [] ((l.map Prod.fst).zip ws) = zipT (kx (mrgD [] l)) ws' := e5
  rw [e7]
  exact pv_dct R n e6 (z p')
end
section
variable {X : Cx} {env : VL.Env} {Q : R → VL.Env → Prop} {d b : Expr} {apos cpos pd pl pos pos2 pos3 : Pos}
theorem grow_far {K : PySem.W.Frag} {F G H H' : Hp} {σ : L2.St} {env : VL.Env} (R : Rp K F G H σ env) (s : Same H H') : Rp K F G H' σ env :=
  R.grow ⟨s, .refl _, ⟨fun a o h => s a o (R.bs.fh a o h), fun a o h => s a o (R.bs.gh a o h), R.bs.gf⟩, fun _ _ _ e => e⟩
/-- dict(list(d.items()) + pairs) -/
theorem ve_dictAdd (h : VE X d env fun r e1 => ∃ p, ∃ l : KX, ∃ put, r = .rf p ∧ LcD e1 p (kx l) put ∧ VE X b e1 fun q e2 => ∃ q', ∃ more : KX, q = .own (ls q' (more.map prD2)) ∧ l.length + more.length ≤ sizeLine ∧ ∀ p', Q (.own (dct p' (kx (mrgD [] (l ++ more))))) e2)
    (hm1 : X.mg "list" = none := by assumption) (hm2 : X.mg "dict" = none := by assumption) (hc : X.calm = true := by rfl) (hg1 : Gl X "list" := by rfl) (hg2 : Gl X "dict" := by rfl)
    (hbase : attributeBase d "items" X.env (eval d X.env) = eval d X.env := by rfl) (hline : (apos.endLine == cpos.line) = true := by rfl)
    (hs : starEach [.Call (.Attribute d "items" apos) [] [] cpos] X.env = (false, eval (.Call (.Attribute d "items" apos) [] [] cpos) X.env) :: starEach [] X.env := by rfl)
    (hs2 : starEach [.BinOp (.Call (.Name "list" pl) [.Call (.Attribute d "items" apos) [] [] cpos] [] pos2) .Add b pos3] X.env = (false, eval (.BinOp (.Call (.Name "list" pl) [.Call (.Attribute d "items" apos) [] [] cpos] [] pos2) .Add b pos3) X.env) :: starEach [] X.env := by rfl)
    (hpl : (backTo pos (starEach [] X.env)).any (·.1) = false := by rfl) :
    VE X (.Call (.Name "dict" pd) [.BinOp (.Call (.Name "list" pl) [.Call (.Attribute d "items" apos) [] [] cpos] [] pos2) .Add b pos3] [] pos) env Q := fun F G H σ Rq => by
  refine wE_of (pe_callTy (call_dictP hc) hg2 hm2 (by decide +kernel) (pa_cons (pe_op op_cat (LiI.pe_listItems hc pe_w hg1 hm1 (by decide +kernel) hbase hline hs) pe_w) pa_nil) (by decide) (by decide) hs2 hpl) ?_
  refine (h F G H σ Rq).imp fun v H1 ⟨F1, r, e1, s1, R1, q1, p, l, put, er, L, hb⟩ => ?_
  subst er
  rw [show v = .ref p from q1.rp]
  obtain ⟨us, hp, hl, hr⟩ := L.get R1
  rw [kx_snd] at hr
  have hdq := reps_d.mp hr
  refine ⟨p, _, rfl, hp, fun H2 c ts hk nc nt hct hc2 hts => ?_⟩
  have R2 := grow_far R1 hk
  have fr : ∀ a ∈ c :: ts, a ∉ nodesE e1 ∧ F1 a = none ∧ G a = none := fun a ha => by
    have na : H1 a = none := by
      rcases List.mem_cons.mp ha with rfl | ha
      · exact nc
      · exact nt a ha
    refine ⟨fun hm => ?_, none_of R1.bs.fh na, none_of R1.bs.gh na⟩
    obtain ⟨k, ws, e⟩ := R1.re.there a hm
    rw [na] at e
    cases e
  have there : ∀ a ∈ c :: ts, ∃ o, H2 a = some o := fun a ha => by
    rcases List.mem_cons.mp ha with rfl | ha
    · exact ⟨_, hc2⟩
    · obtain ⟨j, y, hj, hy, e⟩ := LiI.paired_ix hts ha
      exact ⟨_, e⟩
  refine (hb F1 _ H2 σ (R2.lend fr)).imp fun w H3 ⟨F3, q, e3, s3, R3, q3, q', more, eq, hz, z⟩ => ?_
  subst eq
  obtain ⟨R4, same⟩ := R3.unlend (fun a ha => (fr a ha).2.2) there
  have q4 : rep X.K F3 H3 (ls q' (more.map prD2)) w := q3.rp
  obtain ⟨ws, rfl, hq', hd⟩ := nd_dp R4.bs q4
  have hcl : H3 c = some (.lst (ts.map V.ref)) := by rw [(same c List.mem_cons_self).2.2]; exact hc2
  have hlen : (ts.map V.ref).length + ws.length ≤ sizeLine := by
    have h1 := Paired.length hts
    have h2 := dpa_len hd
    rw [List.length_zip] at h1
    simp only [List.length_map] at h1 h2 hl ⊢
    unfold kx at h1 hl
    simp only [List.length_map] at h1 hl
    rw [hl, Nat.min_self] at h1
    omega
  refine ⟨c, q', _, ws, rfl, rfl, hcl, hq', hlen, fun p5 n5 => ?_⟩
  have R5 := R4.grow (Gw.any R4.bs n5 (.lst (ts.map V.ref ++ ws)))
  obtain ⟨ps, xs, e5, e6, e7, e8⟩ := pairs_dq (H := upd H3 p5 (.lst (ts.map V.ref ++ ws))) hd R5.bs.fh
  subst e5
  have P1 : Paired (fun (t : Addr) (kv : Key × V) => SqT X.K (upd H3 p5 (.lst (ts.map V.ref ++ ps.map V.ref))) t [kV kv.1, kv.2]) ts (zipT (kx l) us) := by
    refine VL.Paired.mapP' hts fun t kv ht e => ?_
    have e3 : H3 t = H2 t := (same t (List.mem_cons_of_mem _ ht)).2.2
    refine SqT.of ?_
    rw [upd_ne (fun z2 => ?_), e3]
    · exact e
    · rw [← z2, e3, e] at n5
      cases n5
  have ez : zipT (kx l) us ++ (more.map Prod.fst).zip xs = ((l ++ more).map Prod.fst).zip (us ++ xs) := by
    have hl' : us.length = l.length := by simpa [kx] using hl
    rw [zipT, kx_fst, List.map_append, List.zip_append (by rw [List.length_map]; exact hl'.symm)]
  have hda : Dqs X.K F3 (us ++ xs) ((l ++ more).map Prod.snd) := by
    rw [List.map_append]
    exact dqs_app (dqs_mono (s3) _ _ hdq) e6
  obtain ⟨ws', e9, e10⟩ := mrg_rel (K := X.K) (F := F3) (l ++ more) [] (us ++ xs) [] hda .nil
  refine ⟨p5, ts ++ ps, _, rfl, ?_, pair_app P1 e8, fun p6 n6 => ?_⟩
  · rw [List.map_append]
    exact SqL.of (upd_same ..)
  · rw [ez]
    have e11 : mergeK [] (((l ++ more).map Prod.fst).zip (us ++ xs)) = zipT (kx (mrgD [] (l ++ more))) ws' := e9
    rw [e11]
    obtain ⟨F', r, e', a1, a2, a3, a4⟩ := pv_dct (Q := Q) R5 n6 e10 (z p6)
    exact ⟨F', r, e', (s1.trans s3).trans a1, a2, a3, a4⟩
end
end VL

/-! text VL32 -/
set_option Elab.async false
set_option linter.all false
set_option maxRecDepth 100000
set_option maxHeartbeats 2000000
set_option pp.maxSteps 400
namespace VL
open PySem PySem.Spec L2 PyProof.Rows
section
variable {prog : Program} {w : World} {A : Around} {E : Value → Shared → Prop} {s : Shared}
theorem rev_applied {sl : Addr} {vs : Value} {n : Nat} {Q' : Int × Int × Nat → Shared → Prop} (hs : s.heap.IsSliceOf sl .none .none vs) (ps : IsPart vs (some (-1)))
    (h : Q' ((n : Int) - 1, -1, n) s) : wpAny (model prog w) A (Builtin.Slice.sliceApplied (.ref sl) (pure (n : Int))) Q' E s := by
  obtain ⟨os, hos, hcs, hds⟩ := id hs
  unfold Builtin.Slice.sliceApplied Builtin.Slice.sliceFields
  refine wpAny_bind (wpAny_bind (wpAny_field hos hds (x := Value.none) rfl (wpAny_bind (wpAny_field hos hds (x := Value.none) rfl (wpAny_bind (wpAny_field hos hds (x := vs) rfl (wpAny_pure ?_)))))))
  refine wpAny_bind (HT.slicePart_ ps ?_)
  show wpAny _ _ (if ((-1 : Int) == 0) = true then _ else _) _ _ s
  rw [if_neg (by decide)]
  refine wpAny_bind (HT.slicePart_ .none (wpAny_bind (HT.slicePart_ .none (wpAny_bind (wpAny_pure ?_)))))
  have e1 : Builtin.Slice.sliceAdjust none none (-1) (n : Int) = ((n : Int) - 1, -1) := by
    unfold Builtin.Slice.sliceAdjust
    rfl
  have e2 : Builtin.Slice.slicePlaces ((n : Int) - 1) (-1) (-1) = n := by
    unfold Builtin.Slice.slicePlaces
    rw [if_neg (by decide)]
    split
    · rw [show (-(-1 : Int)) = 1 by decide, Int.ediv_one]
      omega
    · omega
  show wpAny _ _ (match Builtin.Slice.sliceAdjust none none (-1) (n : Int) with | (lo, hi) => pure (lo, (-1 : Int), Builtin.Slice.slicePlaces lo hi (-1))) _ _ s
  rw [e1]
  show wpAny _ _ (pure ((n : Int) - 1, (-1 : Int), Builtin.Slice.slicePlaces ((n : Int) - 1) (-1) (-1))) _ _ s
  rw [e2]
  exact wpAny_pure h
theorem fm_congr {α β : Type} {f g : α → Option β} : ∀ {l : List α}, (∀ x ∈ l, f x = g x) → l.filterMap f = l.filterMap g
  | [], _ => rfl
  | x :: l, h => by
    rw [List.filterMap_cons, List.filterMap_cons, h x List.mem_cons_self, fm_congr fun y hy => h y (List.mem_cons_of_mem _ hy)]
theorem rev_pick (xs : Array Value) : ((List.range xs.size).filterMap fun (k : Nat) => xs[(((xs.size : Int) - 1) + (k : Int) * (-1)).toNat]?).toArray = xs.toList.reverse.toArray := by
  have e : (List.range xs.size).filterMap (fun (k : Nat) => xs[(((xs.size : Int) - 1) + (k : Int) * (-1)).toNat]?) = ((List.range xs.size).map fun k => xs.size - 1 - k).filterMap fun i => xs[i]? := by
    rw [List.filterMap_map]
    refine fm_congr fun k hk => ?_
    have hk' := List.mem_range.mp hk
    show _ = xs[xs.size - 1 - k]?
    rw [show (((xs.size : Int) - 1) + (k : Int) * (-1)).toNat = xs.size - 1 - k by omega]
  rw [e, PySem.W.krv_range, List.filterMap_reverse, PySem.W.krv_all]
theorem getItem_rev {t sl : Addr} {items : Array Value} {vs : Value} {Q' : Value → Shared → Prop} (ht : IsTup s.heap t items) (hs : s.heap.IsSliceOf sl .none .none vs) (ps : IsPart vs (some (-1)))
    (h : Q' (.ref s.heap.objs.size) { s with heap := s.heap.push { cls := .type "tuple", data := .seq items.toList.reverse.toArray } }) (hsz : items.size ≤ sizeLine) : wpAny (model prog w) A (getItem (.ref t) (.ref sl)) Q' E s := by
  have hfit : sizeOk (.seq items.toList.reverse.toArray) := by
    show items.toList.reverse.toArray.size ≤ sizeLine
    rw [List.size_toArray, List.length_reverse, Array.length_toList]
    exact hsz
  obtain ⟨os, hos, hcs, hds⟩ := id hs
  have hTs : s.TypeIs (.ref sl) "slice" := ⟨os, hos, hcs⟩
  unfold getItem
  try with_reducible refine wpAny_holding ?_
  first | refine wpAny_bind (wpAny_pure ?_) | skip
  refine wpAny_bind (wpAny_sequenceKey ht.typeIs (by decide) ?_)
  refine wpAny_bind (wpAny_callSpecial?_slot (name := Str.ofString "__getitem__") ht.typeIs PyProof.Rows.slot_tuple_getitem (wpAny_call_entry PyProof.Rows.slot_tuple_getitem ht.typeIs entry_tuple_getitem ?_ (args_tuple_getitem _ _)))
  show wpAny _ _ (Builtin.Tuple.tupleItemsOf (.ref t) >>= _) _ _ s
  refine wpAny_bind (tupleItemsOf_ ht (wpAny_bind (wpAny_typeOf hTs ?_)))
  rw [if_pos (by decide)]
  refine wpAny_bind (rev_applied hs ps ?_)
  have hno : ¬ ((((items.size : Int) - 1) == 0 && (-1 : Int) == 1 && items.size == items.size) = true) := by
    rw [show ((-1 : Int) == 1) = false by decide, Bool.and_false, Bool.false_and]
    exact Bool.false_ne_true
  show wpAny _ _ (if (((items.size : Int) - 1) == 0 && (-1 : Int) == 1 && items.size == items.size) = true then _ else _) _ _ s
  rw [if_neg hno, rev_pick]
  first
    | exact wpAny_bind (m := Builtin.Tuple.tupleExact _) (wpAny_newObj_type (wpAny_pure ⟨_, rfl, wpAny_pure h⟩) hfit)
    | exact wpAny_bind (m := Builtin.Tuple.tupleExact _) (wpAny_newObj_type (wpAny_bind (wpAny_pure (wpAny_pure ⟨_, rfl, wpAny_pure h⟩))) hfit)
    | exact wpAny_bind (wpAny_bind (m := Builtin.Tuple.tupleExact _) (wpAny_newObj_type (wpAny_pure (wpAny_pure ⟨_, rfl, wpAny_pure h⟩)) hfit))
    | exact wpAny_bind (wpAny_bind (m := Builtin.Tuple.tupleExact _) (wpAny_newObj_type (wpAny_pure ⟨_, rfl, wpAny_pure h⟩) hfit))
end
section
variable {X : Cx} {F G H : Hp} {σ : L2.St} {env : VL.Env} {Q : R → VL.Env → Prop} {D : Dn} {e o : Expr} {pos apos cpos : Pos} {xs ys : List PyData} {p : Addr} {put : Kd → List T → VL.Env}
/-- t[::-1], a tuple -/
theorem ve_revT {k : Nat} {p1 p2 p3 : Pos} (h : VE X e env fun r e1 => ∃ xs, r = dd (.tuple xs) ∧ Q (dd (.tuple xs.reverse)) e1) : VE X (.Subscript e (.Slice none none (some (.UnaryOp .USub (.Constant (.int 1) k p1) p2)) p3) pos) env Q := fun F G H σ Rq => by
  intro pins s I
  refine Subscript_ (thn (h F G H σ Rq pins s I) fun v s1 ⟨x, H1, I1, r1, F1, r, e1, s01, R1, q1, xs, er, z⟩ => ?_)
  subst er
  obtain ⟨a, ws, ea, ha, da⟩ := tup_at R1 q1.rp
  subst ea
  cases r1
  have hst : PO X (some (.UnaryOp .USub (.Constant (.int 1) k p1) p2)) (tPart (tUn (rU fun i => .int (-i)) (tC (.int 1)))) := po_some (pe_un un_neg pe_int)
  refine wpAny_Slice (thn (po_none.run pins s1 σ H1 (fun o H2 => o = none ∧ H2 = H1) I1 ⟨rfl, rfl⟩) fun vl s2 ⟨l, H2, I2, pl, el, e2⟩ => ?_)
  subst el e2
  cases pl
  refine thn (po_none.run pins s2 σ H2 (fun o H3 => o = none ∧ H3 = H2) I2 ⟨rfl, rfl⟩) fun vu s3 ⟨u, H3, I3, pu, eu, e3⟩ => ?_
  subst eu e3
  cases pu
  refine thn (hst.run pins s3 σ H3 (fun o H4 => o = some (-1) ∧ H4 = H3) I3 ⟨1, rfl, -1, rfl, rfl, rfl⟩) fun vs s4 ⟨o, H4, I4, ps, eo, e4⟩ => ?_
  subst eo e4
  have I5 : Inv X pins σ H4 { s4 with heap := s4.heap.push { cls := .type "slice", data := .fields #[.none, .none, vs] } } := I4.kept (t' := s4.toks) fun b ob q => Heap.get?_push_of_some _ q
  obtain ⟨its, rv, ht, hz⟩ := inv_tup I5 ha
  show wpAny (model X.prog X.w) X.A (subscriptTail e (.Slice none none (some (.UnaryOp .USub (.Constant (.int 1) k p1) p2)) p3) (.ref a) (.ref s4.heap.objs.size)) _ X.xe { s4 with heap := s4.heap.push { cls := .type "slice", data := .fields #[.none, .none, vs] } }
  refine tail_any (ops := [.ref a, .ref s4.heap.objs.size]) ht.typeIs PyProof.Rows.slot_tuple_getitem.lookup ?_ (by with_unfolding_all rfl)
  have hlen : its.length = ws.length := rv.length.symm
  refine getItem_rev ht (Heap.IsSliceOf.new _ _ _ vs) ps ?_ (by rw [List.size_toArray, hlen]; exact hz)
  rw [show its.toArray.toList = its by simp]
  have hp := tup_new (Q := Q) R1 I5 rv.reverse (by rw [List.length_reverse]; exact hz) (dqs_rev da) z s4.toks
  obtain ⟨v', H', a1, a2, a3⟩ := hp
  exact ⟨v', H', a1, a2, a3.imp s01 fun _ _ z => z⟩
/-- xs.extend(ys), an own list of a slot, an own new list -/
theorem lst_extend {q : Addr} (L : Loc env p .lst (xs.map T.d) put) (hl : xs.length + ys.length ≤ sizeLine) (z : Q (dd .none) (put .lst ((xs ++ ys).map T.d))) : MetV X "list" "list.extend" (.rf p) [.own (ls q ys)] env Q := fun F G H σ v vs R rr => by
  obtain ⟨⟨va, vb, ea, ha, ⟨w, vc, eb, hb, hc⟩⟩, _, _⟩ := rr
  cases ea
  subst eb
  rw [show vc = [] from hc]
  rw [rf_is ha]
  obtain ⟨_, us, hp, _, hr⟩ := L.read R
  have hd := reps_d.mp hr
  obtain ⟨ws, rfl, hq, hd2⟩ := nd_dp R.bs hb
  refine wM_of mt_extend ⟨p, q, us, ws, rfl, rfl, hp, hq, by rw [dpa_len hd, dpa_len hd2]; exact hl, ?_⟩
  have R2 := L.write (k' := .lst) (ts' := (xs ++ ys).map T.d) (vs' := us ++ ws) R trivial (by rw [nodesL_d, nodesL_d]; exact List.Sublist.refl _) (reps_d.mpr (dqs_app hd hd2))
  exact pv_non R2 z
/-- y.extend(e), y the name of an own list of data -/
theorem ve_extend (i : Nat) {q : Addr} {zs : List PyData} (ho : ∀ Q' : R → VL.Env → Prop, Q' (.rf q) env → VE X o env Q') (e0 : env[i]? = some (some (ls q zs))) (h : VE X e env fun r e1 => ∃ xs q2 ys, e1[i]? = some (some (ls q xs)) ∧ r = .own (ls q2 ys) ∧ xs.length + ys.length ≤ sizeLine ∧ Q (dd .none) (e1.set i (some (ls q (xs ++ ys)))))
    (hbase : attributeBase o "extend" X.env (eval o X.env) = eval o X.env := by rfl)
    (hfew : ((backTo cpos (starEach [e] X.env)).all (fun x => !x.1) && (backToKw cpos (keywordEach [] X.env)).all (fun x => x.1.isSome) && decide (([e] : List Expr).length + ([] : List Keyword).length + (if ([] : List Keyword).isEmpty then 0 else 1) < 30)) = true := by rfl)
    (hline : (apos.endLine == cpos.line) = true := by rfl) (hs : starEach [e] X.env = (false, eval e X.env) :: starEach [] X.env := by rfl) (hplain : (backTo cpos (starEach [] X.env)).any (·.1) = false := by rfl) :
    VE X (.Call (.Attribute o "extend" apos) [e] [] cpos) env Q :=
  ve_bm PySem.F.plainAttrs_list PySem.F.slot_list_extend PySem.F.type_list_extend (ho _ ⟨ty_lst (.rf i e0), ves_cons (h.imp fun r e1 ⟨xs, q2, ys, e2, er, hl, z⟩ => ves_nil (er ▸ lst_extend (.sl i e2) hl z)) hs⟩) hbase hfew hline hs hplain
end
end VL

/-! text VL33 -/
set_option Elab.async false
set_option linter.all false
set_option maxRecDepth 100000
set_option maxHeartbeats 2000000
set_option pp.maxSteps 400
namespace VL
open PySem PySem.Spec L2
section
variable {X : Cx} {F G H : Hp} {σ : L2.St} {env : VL.Env} {Q : R → VL.Env → Prop} {Qe : VL.Env → Prop} {D : Dn} {e o i t1 t2 : Expr} {pos apos cpos : Pos} {xs ys : List PyData} {x y : PyData} {p q : Addr} {put : Kd → List T → VL.Env} {is : List Nat} {sts : List Stmt}
/-- t * k, a tuple -/
theorem mul_t {k : Int} (hne : xs ≠ []) (h1 : 2 ≤ k) (h2 : k ≤ 1000) (hz : xs.length ≤ 1000) (z : Q (dd (.tuple (List.replicate k.toNat xs).flatten)) env) : BinV X (binaryOp .Mult) (dd (.tuple xs)) (dd (.int k)) env Q := fun F G H σ v w R rr pins s σ' u u' I r1 r2 => by
  obtain ⟨ha, hb⟩ := rr.two
  cases (show Dq X.K F w (.int k) from hb)
  obtain ⟨a, vs, rfl, hT, hd⟩ := tup_at R ha
  cases r1
  obtain ⟨tk, rfl⟩ := r2
  obtain ⟨its, r, ⟨⟨cls, dd0, data, sl⟩, ho, hc, n, hd0⟩, _⟩ := inv_tup I hT
  simp only at hc hd0
  subst hc hd0
  have hlv : vs.length = xs.length := dpa_len hd
  have hle : its.length = xs.length := r.length.symm.trans hlv
  have hn : its ≠ [] := fun e => hne (List.eq_nil_of_length_eq_zero (by rw [← hle, e]; rfl))
  have hi : its.toArray.isEmpty = false := by
    cases its with
    | nil => exact absurd rfl hn
    | cons a b => rfl
  have hsz : its.toArray.size = xs.length := by rw [List.size_toArray, hle]
  have hm : ((its.toArray.size : Nat) : Int) * k ≤ 1000000 := by
    rw [hsz]
    have a1 : ((xs.length : Nat) : Int) * k ≤ 1000 * k := Int.mul_le_mul_of_nonneg_right (by omega) (by omega)
    omega
  have hk1000 : k.toNat * xs.length ≤ 1000 * 1000 := Nat.mul_le_mul (by omega) hz
  have flen : (List.replicate k.toNat its).flatten.length ≤ sizeLine := by
    rw [PyProof.Rows.lm_len_rep_flat, hle, sizeLine_eq]
    omega
  have c0 : (decide (k < -(2 ^ 63)) || decide (k ≥ 2 ^ 63)) = false := by
    rw [decide_eq_false (show ¬ k < -(2 ^ 63) by omega), decide_eq_false (show ¬ k ≥ 2 ^ 63 by omega)]
    rfl
  have c1 : (its.toArray.isEmpty || k == 1) = false := by
    rw [hi, Bool.false_or]
    exact beq_eq_false_iff_ne.mpr (by omega)
  have c2 : (decide (k ≤ 0) || its.toArray.isEmpty) = false := by
    rw [hi, Bool.or_false]
    exact decide_eq_false (show ¬ k ≤ 0 by omega)
  have c4 : Builtin.Tuple.tupleTooMany (((its.toArray.size : Nat) : Int) * k) = false := by
    unfold Builtin.Tuple.tupleTooMany
    rw [sizeLine_eq]
    exact decide_eq_false (by omega)
  refine wpAny_binaryOp_repeat_ref (T := "tuple") (U := "int") (by decide) ⟨_, ho, rfl⟩ (fun s' => typeIs_int s' k tk) noFill_tuple_mul PySem.F.fills_int_mul PySem.F.slot_int_rmul repeat_tuple PySem.F.slot_int_index.lookup
    (call_meets PySem.F.slot_int_rmul (typeIs_int s k tk) PySem.F.entry_int_rmul (PySem.F.args_int_rmul_2 _ _) (int_rmul_tuple k tk a its.toArray n dd0 sl) ⟨ho, rfl, ⟨_, ho, rfl⟩, call_meets PySem.F.slot_tuple_mul ⟨_, ho, rfl⟩ PySem.F.entry_tuple_mul (PySem.F.args_tuple_mul_2 _ _) (tuple_mulW a its.toArray n dd0 sl k tk c0 c1 c2 (by omega) c4 (by rw [size_rep, List.size_toArray]; exact flen)) ⟨ho, ?_⟩⟩)
  rw [size_rep]
  exact tup_new R I (r.rep k.toNat) (by rw [PyProof.Rows.lm_len_rep_flat, hlv, sizeLine_eq]; omega) (dqs_rep hd k.toNat) z s.toks
/-! ### own lists of own lists -/
/-- rows[k], rows a slot's own list, its items own lists -/
theorem ix_kid {k : Nat} {ts kids : List T} {kd : Kd} (j : Nat) (e1 : env[j]? = some (some (.nd p .lst ts))) (e2 : ts[k]? = some (.nd q kd kids)) (z : Q (.rf q) env) : SubV X (.rf p) (dd (.int (k : Nat))) env Q := fun F G H σ v w R rr => by
  obtain ⟨h1, h2⟩ := rr.two
  cases (show Dq X.K F w (.int (k : Nat)) from h2)
  rw [show v = .ref p from h1]
  obtain ⟨u, hu, hr⟩ := R.re.get e1
  obtain ⟨rfl, vs, hp, _, hrs⟩ := hr
  obtain ⟨w', hw, hq⟩ := reps_get hrs e2
  obtain ⟨rfl, _⟩ := hq
  exact wX_of ix_list ⟨p, vs, k, .ref q, rfl, rfl, SqL.of hp, atI_nat hw, ⟨F, _, env, .refl _, R, .rf, z⟩⟩
/-- row[k], row such an item -/
theorem ix_kidD {k : Int} (L : Loc env q .lst (xs.map T.d) put) (e : atI xs k = some x) (z : Q (dd x) env) : SubV X (.rf q) (dd (.int k)) env Q := fun F G H σ v w R rr => by
  obtain ⟨h1, h2⟩ := rr.two
  cases (show Dq X.K F w (.int k) from h2)
  rw [show v = .ref q from h1]
  obtain ⟨_, us, hp, _, hr⟩ := L.read R
  obtain ⟨u, hu, hq⟩ := atI_dq (reps_d.mp hr) e
  exact wX_of ix_list ⟨q, us, k, u, rfl, rfl, SqL.of hp, hu, pv_d (.refl _) R hq z⟩
/-- o[i] as a target, o an own list -/
theorem vg_subL (h : VE X o env fun r e1 => VE X i e1 fun q e2 => ∃ (p : Addr) (xs : List PyData) (put : Kd → List T → VL.Env) (k : Int) (j : Nat), r = .rf p ∧ q = dd (.int k) ∧ Loc e2 p .lst (xs.map T.d) put ∧ ixN xs.length k = some j ∧ Qe (put .lst ((xs.set j x).map T.d)))
    (ha : ∀ v, assign (.Subscript o i pos) X.env v = (do
      let ov ← holding [v] (eval o X.env)
      let iv ← holding [v, ov] (eval i X.env)
      standAt pos
      holding [v, ov, iv] (setItem ov iv v)
      release [v, ov, iv] []) := by intro _; rfl) : VGt X (.Subscript o i pos) is (it x) env Qe := fun F G H σ v0 Rq hv => by
  have hx : Dq X.K F v0 x := hv.rp
  refine wG_of (pg_sub pe_w pe_w set_list ha) (ve_two Rq h fun v w H2 F2 r q e2 s R2 rr ⟨p, xs, put, k, j, er, eq, L, hj, z⟩ => ?_)
  subst er eq
  obtain ⟨a, b⟩ := rr.two
  rw [show v = .ref p from a]
  cases (show Dq X.K F2 w (.int k) from b)
  obtain ⟨_, us, hp, _, hr⟩ := L.read R2
  have hd := reps_d.mp hr
  have R3 := L.write (k' := .lst) (ts' := (xs.set j x).map T.d) (vs' := us.set j v0) R2 trivial (by rw [nodesL_d, nodesL_d]; exact List.Sublist.refl _) (reps_d.mpr (dqs_set j hd (dq_mono s _ _ hx)))
  exact ⟨p, us, k, j, rfl, rfl, hp, by rw [dpa_len hd]; exact hj, F2, _, s, R3, rfl, z⟩
/-- a pair of targets -/
theorem vg_pair {k : Nat} (h : VGt X t1 is (it x) env fun e1 => VGt X t2 is (it y) e1 Qe) (hc : X.calm = true := by rfl)
    (h1 : (assignEach [t1, t2] X.env).map (·.2) = assign t1 X.env :: (assignEach [t2] X.env).map (·.2) := by rfl) (h2 : (assignEach [t2] X.env).map (·.2) = assign t2 X.env :: (assignEach [] X.env).map (·.2) := by rfl)
    (hn : (assignEach [t1, t2] X.env).length = 2 := by rfl) (hst : (assignEach [t1, t2] X.env).findIdx? (·.1) = none := by rfl) : VGt X (.Tuple [t1, t2] k pos) is (.row [x, y]) env Qe := fun F G H σ v Rq q1 => by
  obtain ⟨a, vs, rfl, hs, ha⟩ := q1
  cases ha with
  | cons d1 d2 =>
    cases d2 with
    | cons d3 d4 =>
      cases d4
      refine wG_of (pg_tup hc (pgs_cons pg_w (pgs_cons pg_w pgs_nil h2) h1) hn hst) ⟨a, _, rfl, hs, rfl, _, _, rfl, ?_⟩
      refine (h F G H σ _ Rq (Vr.d d1)).imp fun σ1 H1 ⟨F1, e1, s1, R1, w1, z⟩ => ⟨_, _, rfl, ?_⟩
      refine (z F1 G H1 σ1 _ R1 (Vr.d (dq_mono s1 _ _ d3))).imp fun σ2 H2 ⟨F2, e2, s2, R2, w2, z2⟩ => ⟨rfl, F2, e2, s1.trans s2, R2, w2.trans w1, z2⟩
/-! ### a slot's own list of own lists, told to stand still -/
theorem stillF {K : PySem.W.Frag} {F G H : Hp} {σ : L2.St} {env : VL.Env} {q : Addr} {vs : List V} (R : Rp K F G H σ env) (hp : H q = some (.lst vs)) (h : q ∉ nodesE env ∧ F q = none ∧ G q = none) : Same F (upd F q (.lst vs)) ∧ Rp K (upd F q (.lst vs)) G H σ env := by
  obtain ⟨f1, f2, f3⟩ := h
  have s : Same F (upd F q (.lst vs)) := fun a o ha => by
    by_cases ea : a = q
    · subst ea; rw [f2] at ha; cases ha
    · rw [upd_ne ea]; exact ha
  have b : Bs (upd F q (.lst vs)) G H := ⟨fun a o ha => by
    by_cases ea : a = q
    · subst ea; rw [upd_same] at ha; cases ha; exact hp
    · rw [upd_ne ea] at ha; exact R.bs.fh a o ha, R.bs.gh, fun a o ha => by
    by_cases ea : a = q
    · subst ea; rw [f3] at ha; cases ha
    · rw [upd_ne ea]; exact R.bs.gf a o ha⟩
  refine ⟨s, ⟨b, R.nd, fun a ha => ⟨?_, (R.fr a ha).2⟩, R.re.frame s fun _ _ => rfl⟩⟩
  by_cases ea : a = q
  · subst ea; exact absurd ha f1
  · rw [upd_ne ea]; exact (R.fr a ha).1
abbrev lls (rows : List (Addr × List PyData)) : List T := rows.map fun r => ls r.1 r.2
theorem nodes_lls : ∀ rows : List (Addr × List PyData), nodesL (lls rows) = rows.map (·.1)
  | [] => rfl
  | r :: rows => by
    show (r.1 :: nodesL (r.2.map T.d)) ++ nodesL (lls rows) = _
    rw [nodesL_d, nodes_lls rows]
    rfl
theorem still_rows {K : PySem.W.Frag} {G H : Hp} {σ : L2.St} {env : VL.Env} : ∀ (rows : List (Addr × List PyData)) {F : Hp} {vs : List V}, Rp K F G H σ env → reps K F H (lls rows) vs → (rows.map (·.1)).Nodup → (∀ a ∈ rows.map (·.1), a ∉ nodesE env ∧ F a = none ∧ G a = none) →
    ∃ F', Same F F' ∧ Rp K F' G H σ env ∧ Dqs K F' vs (rows.map fun r => .list r.2) ∧ ∀ a, a ∉ rows.map (·.1) → F' a = F a
  | [], F, vs, R, h, _, _ => by
    rw [show vs = [] from h]
    exact ⟨F, .refl _, R, .nil, fun _ _ => rfl⟩
  | (q, xs) :: rows, F, vs, R, h, nd, fr => by
    obtain ⟨v, r, rfl, h1, h2⟩ := h
    obtain ⟨us, rfl, hp, hd⟩ := nd_dp R.bs h1
    obtain ⟨n1, n2⟩ := List.nodup_cons.mp nd
    obtain ⟨s1, R1⟩ := stillF R hp (fr q List.mem_cons_self)
    have ne : ∀ a ∈ rows.map (·.1), a ≠ q := fun a ha e => n1 (e ▸ ha)
    obtain ⟨F2, s2, R2, d2, keep⟩ := still_rows rows R1 (reps_frame s1 _ _ (fun _ _ => rfl) h2) n2 fun a ha => by
      obtain ⟨a1, a2, a3⟩ := fr a (List.mem_cons_of_mem _ ha)
      exact ⟨a1, by rw [upd_ne (ne a ha)]; exact a2, a3⟩
    refine ⟨F2, s1.trans s2, R2, .cons (.lst (.inl (.inl (s2 _ _ (upd_same ..)))) (dqs_mono (s1.trans s2) _ _ hd)) d2, fun a ha => ?_⟩
    have h1 : a ≠ q := fun e => ha (e ▸ List.mem_cons_self)
    have h2 : a ∉ rows.map (·.1) := fun hm => ha (List.mem_cons_of_mem _ hm)
    rw [keep a h2, upd_ne h1]
theorem vss_stillR (j : Nat) {rows : List (Addr × List PyData)} (e : env[j]? = some (some (.nd p .lst (lls rows)))) (h : VSs X sts (env.set j (some (.d (.list (rows.map fun r => .list r.2))))) D) : VSs X sts env D := fun F G H σ Rq => by
  obtain ⟨v, hv, R1, q⟩ := Rq.take e
  obtain ⟨rfl, vs, hp, _, hr⟩ := q.rp
  have hnd : (p :: nodesL (lls rows)).Nodup := q.nd
  rw [nodes_lls] at hnd
  obtain ⟨n1, n2⟩ := List.nodup_cons.mp hnd
  have hfr : ∀ a ∈ p :: rows.map (·.1), a ∉ nodesE (env.set j none) ∧ F a = none ∧ G a = none := fun a ha => q.fr a (by
    show a ∈ p :: nodesL (lls rows)
    rw [nodes_lls]
    exact ha)
  obtain ⟨F2, s2, R2, d2, keep⟩ := still_rows rows R1 hr n2 fun a ha => hfr a (List.mem_cons_of_mem _ ha)
  obtain ⟨a1, a2, a3⟩ := hfr p List.mem_cons_self
  obtain ⟨s3, R3⟩ := stillF R2 hp ⟨a1, by rw [keep p n1]; exact a2, a3⟩
  have R4 := R3.put hv (.d (H := H) (.lst (.inl (.inl (upd_same ..))) (dqs_mono s3 _ _ d2)))
  rw [List.set_set] at R4
  exact (h _ G H σ R4).same (s2.trans s3)
end
end VL

/-! text VL34 -/
set_option Elab.async false
set_option linter.all false
set_option maxRecDepth 100000
set_option maxHeartbeats 2000000
set_option pp.maxSteps 400
namespace VL
open PySem PySem.Spec L2 PyProof.Rows PpSet

/-! ### len({e for ..}), e numbers or texts -/
def hasK (l : List Key) (k : Key) : Bool := l.any fun j => decide (k = j)
/-- how many unlike ones -/
def dis : List Key → Nat
  | [] => 0
  | k :: l => if hasK l k = true then dis l else dis l + 1
theorem dis_le : ∀ l : List Key, dis l ≤ l.length
  | [] => Nat.le_refl _
  | k :: l => by
    have := dis_le l
    unfold dis
    rw [List.length_cons]
    split <;> omega
/-- the set of the keys told so far, at D -/
def sK (X : Cx) (D : Addr) (acc : List Key) : HO := SetK X.prog X.w D (hasK acc) (dis acc)
section
variable {X : Cx}
theorem sK_add (D : Addr) (k : Key) (acc : List Key) : SetK X.prog X.w D (fun j => hasK acc j || decide (j = k)) (if hasK acc k = true then dis acc else dis acc + 1) = sK X D (k :: acc) := by
  unfold sK
  congr 1
  funext j
  show _ = (decide (j = k) || hasK acc j)
  rw [Bool.or_comm]
theorem sK_nil (D : Addr) : sK X D [] = SetK X.prog X.w D (fun _ => false) 0 := by
  unfold sK
  congr 1
theorem sK_new (P : Program) (w : World) (h : Heap) : (h.push { cls := .type "set", dict := none, data := .set #[] 0 (.fresh 0 0 (!w.params.followText "set-order")) }).SetOf (mixKind P w) h.objs.size (fun _ => false) 0 :=
  ⟨_, #[], 0, _, Heap.get?_push_size _ rfl, ⟨rfl, rfl, rfl⟩, rfl, (fun e he => by simp at he), (fun k => by simp), (by decide), (by rfl), rfl⟩
/-- one more key -/
theorem sK_put {pins : List (Addr × Obj)} {σ : L2.St} {H : Hp} {s : Shared} {E : Value → Shared → Prop} {D : Addr} {acc : List Key} {k : Key} {u : Value} {Q : Value → Shared → Prop} (I : Inv X pins σ H s) (hD : H D = some (sK X D acc)) (hl : acc.length + 1 < 4096) (ru : RelV (kV k) u)
    (h : ∀ v s', Inv X pins σ (upd H D (sK X D (k :: acc))) s' → Q v s') : wpAny (model X.prog X.w) X.A (call (.builtin "set.add") [.ref D, u]) Q E s := by
  have room : dis acc + 1 < scanBound := by
    have := dis_le acc
    show dis acc + 1 < 4096
    omega
  refine call_set_add (kV_is ru) (key_scan ru) (setK_get I hD) room fun g same new => h _ _ ?_
  have ex : ∃ o, g.get? D = some o := by
    obtain ⟨o, _, _, _, ho, _⟩ := new
    exact ⟨o, ho⟩
  have I2 := I.write (e := D) (o := SetK X.prog X.w D (fun j => hasK acc j || decide (j = k)) (if hasK acc k = true then dis acc else dis acc + 1)) (t' := s.toks + 1) (by rw [hD]; trivial) (.inl rfl) (fun b o nb ob => (same.2 b nb).trans ob) ex (setK_new new)
  rw [sK_add] at I2
  exact I2
abbrev BC (X : Cx) (scope : Scope) (s : Shared) (H : Hp) (ce : PySem.Env) (fp : List Addr) : Cx := X.blk s H scope ce fp
/-- the question of such a comprehension -/
def tSk (X : Cx) (wi : TI) (g : TG) (tt : TT) (te : TE) (vs : List Nat) (σ : L2.St) (H : Hp) (Q : Addr → Hp → Prop) : Prop := wi σ H fun J H1 => ∀ D, H1 D = none → ∃ W : Nat → Nat → Hp → Prop, (∃ m, W 0 m (upd H1 D (sK X D []))) ∧
  ∀ i m H, W i m H → (J.stop i H ∧ Q D H) ∨ (J.go i H ∧ ∃ Nx : Hp → Prop, (∀ H', Nx H' → ∃ m', m' < m ∧ W (i + 1) m' H') ∧ ∀ x H', J.yld i H x H' → g x (wipe σ vs) H' fun σ2 H2 => wipe σ2 vs = wipe σ vs ∧
    tt σ2 H2 fun b H3 => if b = true then te σ2 H3 fun y H4 => ∃ (k : Key) (acc : List Key), y = kV k ∧ H4 D = some (sK X D acc) ∧ acc.length + 1 < 4096 ∧ Nx (upd H4 D (sK X D (k :: acc))) else Nx H3)
theorem pe_sk {elt tg iter : Expr} {ifs : List Expr} {scope : Scope} {own : List (Str × Nat)} {pos : Pos} {wi : TI} {g : TG} {tt : TT} {te : TE} (hc : X.calm = true) (hN : X.N.Nodup) (hi : PI X tg iter wi) (ok : BlkOk X.N X.env.scope scope own)
    (hg : ∀ s H C cl fp, PG (BC X scope s H (compEnvC scope cl C X.env) fp) tg g) (ht : ∀ s H C cl fp, PTs (BC X scope s H (compEnvC scope cl C X.env) fp) ifs tt) (he : ∀ s H C cl fp, PE (BC X scope s H (compEnvC scope cl C X.env) fp) elt te)
    (hs : ∀ x, foldedSetIterable iter X.env x = pure x := by intro _; rfl) :
    PE X (.SetComp elt [⟨tg, iter, ifs, 0⟩] scope pos) (fun σ H Q => tSk X wi g tt te (own.map (·.2)) σ H fun D H' => Q (.ref D) H') := by
  refine ⟨fun pins s σ H Q I ask => ?_⟩
  rw [eval_SetComp]
  have free : ∀ y ∈ scope.names, y.2 = .free → ∃ c, X.env.cells.lookup y.1 = some c := fun y hy e => (ok.free y hy e).elim (fun k => I.ok.has _ (.inl k)) fun k => I.ok.has _ (.inr k)
  refine wpAny_comprehension_free rfl hs (closure_ok free) ok.kind (fun y hy e => by rw [ok.uniq y hy, e]) (thn (hi.run pins s σ H _ I ask) fun xv sa hx => thn hx fun itv sb hb => ?_)
  obtain ⟨it, fp, tn, J, Ha, e, Ia, T, sta, fpa, turns⟩ := hb
  subst e
  refine newSet_ok (newEnv_comp ?_)
  generalize eD : sb.heap.objs.size = D
  have freshD : Ha D = none := Ia.hok.fresh (Nat.le_of_eq eD)
  obtain ⟨W, ⟨m0, w0⟩, turn⟩ := turns D freshD
  generalize esc : ({ sb with heap := sb.heap.push { cls := .type "set", dict := none, data := .set #[] 0 (.fresh 0 0 (!X.w.params.followText "set-order")) } } : Shared) = sc
  have hcx : sc.heap = sb.heap.push { cls := .type "set", dict := none, data := .set #[] 0 (.fresh 0 0 (!X.w.params.followText "set-order")) } := by rw [← esc]
  have Ic : Inv X pins σ (upd Ha D (sK X D [])) sc := by
    rw [← esc, sK_nil]
    refine Ia.laid (t' := sb.toks) (fun b o q => Heap.get?_push_of_some _ q) (Nat.le_of_eq eD) ?_
    rw [← eD]
    exact setK_new (sK_new X.prog X.w sb.heap)
  have below : ∀ b ∈ fp, b < sb.heap.objs.size := fun b hb => let ⟨_, q, _⟩ := T.obj _ _ sta b hb; Heap.lt_size q
  have fpc : ∀ b ∈ fp, FpOk X pins (upd Ha D (sK X D [])) b ∧ b < sc.heap.objs.size := fun b hb => by
    refine ⟨⟨?_, (fpa b hb).2⟩, by rw [hcx, Heap.size_push]; exact Nat.lt_succ_of_lt (below b hb)⟩
    rw [upd_ne (by rw [← eD]; exact Nat.ne_of_lt (below b hb))]
    exact (fpa b hb).1
  have stc : tn 0 sc.heap := T.keep _ _ _ sta fun b _ o q => by rw [hcx]; exact Heap.get?_push_of_some _ q
  have Id := block_start Ic ok hN fpc
  have pG := hg sc (upd Ha D (sK X D [])) sc.heap.objs.size (cellsFrom (sc.heap.objs.size + 1) scope.names (cloFrom X.env.cells scope.names [])) fp
  have pT := ht sc (upd Ha D (sK X D [])) sc.heap.objs.size (cellsFrom (sc.heap.objs.size + 1) scope.names (cloFrom X.env.cells scope.names [])) fp
  have pE := he sc (upd Ha D (sK X D [])) sc.heap.objs.size (cellsFrom (sc.heap.objs.size + 1) scope.names (cloFrom X.env.cells scope.names [])) fp
  show codeAny _ _ (.compStart (.SetComp elt [⟨tg, iter, ifs, 0⟩] scope pos) 0 (.ref it) (.ref D) (compEnvC scope (cellsFrom (sc.heap.objs.size + 1) scope.names (cloFrom X.env.cells scope.names [])) sc.heap.objs.size X.env)) _ { sc with heap := pushCells (sc.heap.push { cls := .type "dict", data := .dict #[] }) scope.names }
  have noneC : ∀ b ∈ fp, (upd Ha D (sK X D [])) b = none := fun b hb => (fpc b hb).1.1
  generalize ece : compEnvC scope (cellsFrom (sc.heap.objs.size + 1) scope.names (cloFrom X.env.cells scope.names [])) sc.heap.objs.size X.env = ce at Id pG pT pE ⊢
  have loc : ce.locals = sc.heap.objs.size := by subst ece; rfl
  generalize eHc : upd Ha D (sK X D []) = Hc at Ic Id pG pT pE w0 noneC fpc
  generalize esd : ({ sc with heap := pushCells (sc.heap.push { cls := .type "dict", data := .dict #[] }) scope.names } : Shared) = sd at Id ⊢
  have std : tn 0 sd.heap := T.keep _ _ _ stc fun b _ o q => by rw [← esd]; exact pushCells_keeps _ _ _ _ (Heap.get?_push_of_some _ q)
  have held : ∀ {τ : L2.St} {Hx : Hp} {sx : Shared}, Inv (BC X scope sc Hc ce fp) [] τ Hx sx → (∀ b ∈ fp, Hx b = none) → ∀ b ∈ fp, FpOk (BC X scope sc Hc ce fp) [] Hx b := fun {τ Hx sx} Ix nx b hb =>
    ⟨nx b hb, (Ix.ok.exf b hb).1, Ix.ok.exfs b hb, .inl hb, fun x c q => (Ix.ok.exf b hb).2 x c q, fun p hp => absurd (show p ∈ ([] : List (Addr × Obj)) ++ [] from hp) (by simp)⟩
  refine codeAny_compStart_set ?loop (T.self X.A 0 _ _ _ std ?loop)
  case loop =>
    refine compLoopS_any (fun n sx => ∃ i Hx, Inv (BC X scope sc Hc ce fp) [] (wipe σ (own.map (·.2))) Hx sx ∧ tn i sx.heap ∧ (∀ b ∈ fp, Hx b = none) ∧ W i n Hx) ?_ m0 ⟨0, Hc, Id, std, noneC, w0⟩
    rintro n sx ⟨i, Hx, Ix, stx, nx, wx⟩
    rcases turn i n Hx wx with ⟨stop, done⟩ | ⟨go, Nx, hNx, step⟩
    · refine thnF (T.done (BC X scope sc Hc ce fp) rfl rfl rfl hc i [] sx _ Hx (fun _ _ => False) Ix (held Ix nx) stx stop) fun r sy ⟨hr, Iy⟩ => ?_
      subst hr
      have Iz : Inv X pins σ Hx sy := Ic.call' (ch := fp) Iy.os Iy.base Iy.hok Iy.bare fun b hb => ⟨(fpc b hb).1.2.2.2.1, (fpc b hb).1.2.1, (fpc b hb).1.2.2.2.2.1, (fpc b hb).1.2.2.2.2.2⟩
      have nC : Hx sc.heap.objs.size = none := by
        have z : Hx ce.locals = none := Iy.free
        rw [loc] at z
        exact z
      obtain ⟨mm, hn, _⟩ := Iy.loc
      have hn : sy.heap.Ns ce.locals mm := hn
      rw [loc] at hn
      obtain ⟨f0, f1, _, f3, f4, f5⟩ := Ic.fpOk (Nat.le_refl _) nC
      exact ⟨mm, hn, fun h'' same => ⟨.ref D, Hx, Iz.turned (t' := sy.toks) (fun b o hb q => (same.2 b hb).trans q) f0 f1 f3 f4 f5, rfl, done⟩⟩
    · refine thnF (T.item (BC X scope sc Hc ce fp) rfl rfl rfl hc i [] sx _ Hx (fun _ _ => False) Ix (held Ix nx) stx go) fun r sy ⟨u, hr, hy⟩ => ?_
      subst hr
      refine thnF hy fun _ s7 ⟨x, H7, I7, r7, y7, st7, n7⟩ => ?_
      have I7' := I7.pinned (held I7 n7) (T.obj _ _ st7)
      refine thnF (pG.run _ s7 _ H7 x u _ I7' r7 (step x H7 y7)) fun _ s8 ⟨τ, H8, I8, hw8, q8⟩ => thnF (pT.run _ s8 τ H8 _ I8 q8) fun b s9 ⟨H9, I9, q9⟩ => ?_
      have fin : ∀ {se : Shared} {He : Hp}, Inv (BC X scope sc Hc ce fp) ([] ++ pinsAt fp s7.heap) τ He se → Nx He → ∃ m, m < n ∧ ∃ i H', Inv (BC X scope sc Hc ce fp) [] (wipe σ (own.map (·.2))) H' se ∧ tn i se.heap ∧ (∀ b ∈ fp, H' b = none) ∧ W i m H' := fun {se He} Ie ne => by
        obtain ⟨m', hm, w'⟩ := hNx He ne
        have still : ∀ b ∈ fp, ∀ o, s7.heap.get? b = some o → se.heap.get? b = some o ∧ He b = none := fun b hb o q =>
          let z := Ie.pin (b, o) (List.mem_append_right _ (List.mem_append_right _ (mem_pinsAt hb q)))
          ⟨z.1, z.2.1⟩
        refine ⟨m', hm, i + 1, He, (Ie.unpinned (pins := [])).weak (by rw [← hw8, wipe_length]) (fun j v q => ?_), T.keep _ _ _ st7 fun b hb o q => (still b hb o q).1, fun b hb => ?_, w'⟩
        · rw [← hw8] at q
          exact (wipe_some q).1
        · obtain ⟨o, q, _⟩ := T.obj _ _ st7 b hb
          exact (still b hb o q).2
      cases b with
      | false =>
        simp only [Bool.false_eq_true, if_false] at q9 ⊢
        exact fin I9 q9
      | true =>
        simp only [if_true] at q9 ⊢
        refine thnF (pE.run _ s9 τ H9 _ I9 q9) fun z s10 ⟨yv, H10, I10, r10, k, acc, ey, hD10, hl10, ne⟩ => ?_
        subst ey
        exact sK_put (X := BC X scope sc Hc ce fp) I10 hD10 hl10 r10 fun v s11 I11 => fin I11 ne
end
end VL

/-! text VL35 -/
set_option Elab.async false
set_option linter.all false
set_option maxRecDepth 100000
set_option maxHeartbeats 2000000
set_option pp.maxSteps 400
namespace VL
open PySem PySem.Spec L2
section
variable {X : Cx} {K : PySem.W.Frag} {F G H : Hp} {σ : L2.St} {env : VL.Env} {Q : R → VL.Env → Prop} {elt tg iter : Expr} {ifs : List Expr} {scope : Scope} {pos pos2 p : Pos} {is : List Nat} {D : Addr} {u u' : HO}
theorem Rp.told (R : Rp K F G H σ env) (hD : H D = none) (u : HO) : Rp K F (upd G D u) (upd H D u) σ env := by
  have nF := none_of R.bs.fh hD
  have ne : ∀ a ∈ nodesE env, a ≠ D := fun a ha e => by
    obtain ⟨k, vs, z⟩ := R.re.there a ha
    rw [e, hD] at z
    cases z
  refine ⟨⟨fun a o h => ?_, fun a o h => ?_, fun a o h => ?_⟩, R.nd, fun a ha => ⟨(R.fr a ha).1, by rw [upd_ne (ne a ha)]; exact (R.fr a ha).2⟩, R.re.frame (.refl _) fun a ha => upd_ne (ne a ha)⟩
  · rw [upd_ne (fun e => by rw [e, nF] at h; cases h)]
    exact R.bs.fh a o h
  · by_cases e : a = D
    · subst e
      rw [upd_same] at h ⊢
      exact h
    · rw [upd_ne e] at h ⊢
      exact R.bs.gh a o h
  · by_cases e : a = D
    · rw [e]
      exact nF
    · rw [upd_ne e] at h
      exact R.bs.gf a o h
theorem Rp.retold (R : Rp K F (upd G D u) H σ env) (u' : HO) : Rp K F (upd G D u') (upd H D u') σ env := by
  have nF : F D = none := R.bs.gf D u upd_same
  have ne : ∀ a ∈ nodesE env, a ≠ D := fun a ha e => by
    have z := (R.fr a ha).2
    rw [e, upd_same] at z
    cases z
  refine ⟨⟨fun a o h => ?_, fun a o h => ?_, fun a o h => ?_⟩, R.nd, fun a ha => ⟨(R.fr a ha).1, ?_⟩, R.re.frame (.refl _) fun a ha => upd_ne (ne a ha)⟩
  · rw [upd_ne (fun e => by rw [e, nF] at h; cases h)]
    exact R.bs.fh a o h
  · by_cases e : a = D
    · subst e
      rw [upd_same] at h ⊢
      exact h
    · rw [upd_ne e] at h ⊢
      exact R.bs.gh a o (by rw [upd_ne e]; exact h)
  · by_cases e : a = D
    · rw [e]
      exact nF
    · rw [upd_ne e] at h
      exact R.bs.gf a o (by rw [upd_ne e]; exact h)
  · have z := (R.fr a ha).2
    rw [upd_ne (ne a ha)] at z ⊢
    exact z
theorem Rp.untold (R : Rp K F (upd G D u) H σ env) (hG : G D = none) : Rp K F G H σ env := by
  have up : ∀ a o, G a = some o → upd G D u a = some o := fun a o h => by
    rw [upd_ne (fun e => by rw [e, hG] at h; cases h)]
    exact h
  refine ⟨⟨R.bs.fh, fun a o h => R.bs.gh a o (up a o h), fun a o h => R.bs.gf a o (up a o h)⟩, R.nd, fun a ha => ⟨(R.fr a ha).1, ?_⟩, R.re⟩
  have z := (R.fr a ha).2
  have ne : a ≠ D := fun e => by rw [e, upd_same] at z; cases z
  rw [upd_ne ne] at z
  exact z
/-- len of such a set -/
theorem cr_lenK : CallR X (.builtin "len") (fun xs H Q => ∃ a acc, xs = [V.ref a] ∧ H a = some (sK X a acc) ∧ acc.length < 4096 ∧ Q (.int (dis acc : Nat)) H) := by
  intro pins s σ H xs us Q I r h
  obtain ⟨a, acc, rfl, ha, hl, q⟩ := h
  rw [Vals.ref1 r]
  obtain ⟨o, es, ep, t, ho, hex, hd, h1, h2, h3, hf, hn⟩ := setK_get I ha
  have hle := dis_le acc
  refine PySem.call_len_set ho hex hd hf (by rw [hn]; omega) ?_
  rw [hn]
  exact ⟨.int (dis acc : Nat), H, (I.tok _).tok _, ⟨_, rfl⟩, q⟩
def SkQ (X : Cx) (scope : Scope) (is : List Nat) (tg : Expr) (ifs : List Expr) (elt : Expr) (Q : R → VL.Env → Prop) (xs : List Itm) (C : VL.Env → Prop) (e1 : VL.Env) : Prop :=
  ∃ I : Nat → List Key → VL.Env → Prop, I 0 [] (wipeE e1 is) ∧ (∀ i acc e, I i acc e → C e ∧ acc.length < 4095) ∧
    (∀ i x acc e, xs[i]? = some x → I i acc e → ∀ p1, VGt (bk X scope p1) tg is x e fun e2 => ∀ p2, VTs (bk X scope p2) ifs e2 fun b e3 =>
      if b = true then ∀ p3, VE (bk X scope p3) elt e3 fun r e4 => ∃ k, r = dd (keyD k) ∧ I (i + 1) (k :: acc) (wipeE e4 is) else I (i + 1) acc (wipeE e3 is)) ∧
    ∀ acc e, I xs.length acc e → Q (dd (.int (dis acc : Nat))) (wipeE e is.reverse)
/-- len({elt for tg in iter if ..}) -/
theorem ve_dis (own : List (Str × Nat)) (h : VI X tg iter env (SkQ X scope (own.map (·.2)) tg ifs elt Q)) (hm : X.mg "len" = none := by assumption) (ok : blkC X.N X.env.scope scope own = true := by rfl) (hc : X.calm = true := by rfl) (hN : X.N.Nodup := by assumption) (hg : Gl X "len" := by rfl)
    (hs : ∀ x, foldedSetIterable iter X.env x = pure x := by intro _; rfl) (he : starEach [.SetComp elt [⟨tg, iter, ifs, 0⟩] scope pos2] X.env = (false, eval (.SetComp elt [⟨tg, iter, ifs, 0⟩] scope pos2) X.env) :: starEach [] X.env := by rfl) (hpl : (backTo pos (starEach [] X.env)).any (·.1) = false := by rfl) :
    VE X (.Call (.Name "len" p) [.SetComp elt [⟨tg, iter, ifs, 0⟩] scope pos2] [] pos) env Q := fun F G H σ Rq => by
  obtain ⟨wi, pi, k⟩ := h
  refine wE_of (pe_callB cr_lenK hg hm bb_len (pa_cons (pe_sk (own := own) hc hN pi (blkOk_by ok) (g := fun v σ H Q => ∀ p, wG (bk X scope p) tg v σ H Q) (tt := fun σ H Q => ∀ p, wTs (bk X scope p) ifs σ H Q) (te := fun σ H Q => ∀ p, wE (bk X scope p) elt σ H Q) blk_wG blk_wT blk_wE hs) pa_nil) (by decide) (by decide) he hpl) ?_
  generalize own.map (·.2) = is at k
  refine k F G H σ Rq _ fun J H1 F1 xs C e1 s1 R1 jok ⟨I, h0, hC, ht, hd⟩ D hD => ?_
  have nG : G D = none := none_of R1.bs.gh hD
  refine ⟨fun i m Hc => i + m = xs.length ∧ ∃ F2 e acc, Same F1 F2 ∧ Rp X.K F2 (upd G D (sK X D acc)) Hc (L2.wipe σ is) e ∧ I i acc e, ⟨xs.length, by omega, F1, wipeE e1 is, [], .refl _, (R1.told hD _).wipe is, h0⟩, fun i m Hc ⟨em, F2, e2, acc, s2, R2, hI⟩ => ?_⟩
  obtain ⟨c1, c2⟩ := hC _ _ _ hI
  obtain ⟨j1, j2⟩ := jok F2 _ Hc _ e2 i s2 R2 c1
  have hDc : Hc D = some (sK X D acc) := R2.bs.gh D _ upd_same
  cases ex : xs[i]? with
  | none =>
    have hi : xs.length ≤ i := List.getElem?_eq_none_iff.mp ex
    have ei : i = xs.length := by omega
    subst ei
    refine .inl ⟨j2 hi, ?_⟩
    exact ⟨D, acc, rfl, hDc, by omega, F2, _, wipeE e2 is.reverse, s1.trans s2, (R2.untold nG).unwipe, .d (.int _), hd _ _ hI⟩
  | some x =>
    have hi : i < xs.length := (List.getElem?_eq_some_iff.mp ex).1
    obtain ⟨nx, go, yl⟩ := j1 x ex
    refine .inr ⟨go, fun H' => ∃ F2 e acc, Same F1 F2 ∧ Rp X.K F2 (upd G D (sK X D acc)) H' (L2.wipe σ is) e ∧ I (i + 1) acc e, fun H' z => ⟨m - 1, by omega, by omega, z⟩, fun v H3 hy p1 => ?_⟩
    obtain ⟨F3, g, dv⟩ := yl v H3 hy
    have R3 := R2.grow g
    refine ((ht i x acc e2 ex hI p1) F3 _ H3 _ v R3 dv).imp fun σ4 H4 ⟨F4, e4, s4, R4, w4, z4⟩ => ?_
    have w4' : L2.wipe σ4 is = L2.wipe σ is := by
      rw [w4]
      exact wipe_wipe is is σ fun j hj => hj
    refine ⟨w4', fun p2 => ?_⟩
    intro pins s' I'
    refine thn (z4 p2 F4 _ H4 σ4 R4 pins s' I') fun b s'' ⟨H5, I5, F5, e5, s5, R5, z5⟩ => ⟨H5, I5, ?_⟩
    have s15 : Same F1 F5 := ((s2.trans g.ff).trans s4).trans s5
    cases b with
    | false =>
      have R6 := R5.wipe is
      rw [w4'] at R6
      exact ⟨F5, _, acc, s15, R6, z5⟩
    | true =>
      intro p3
      refine ((show ∀ p3, VE (bk X scope p3) elt e5 _ from z5) p3 F5 _ H5 σ4 R5).imp fun y H6 ⟨F6, r, e6, s6, R6, q6, kk, er, z6⟩ => ?_
      subst er
      have ey := keyD_v (show Dq X.K F6 y (keyD kk) from q6.rp)
      have R7 := (R6.retold (sK X D (kk :: acc))).wipe is
      rw [w4'] at R7
      exact ⟨kk, acc, ey, R6.bs.gh D _ upd_same, by omega, F6, _, kk :: acc, s15.trans s6, R7, z6⟩
end
end VL

/-! text VL36 -/
set_option Elab.async false
set_option linter.all false
set_option maxRecDepth 100000
set_option maxHeartbeats 2000000
set_option pp.maxSteps 400
namespace VL
open PySem PySem.Spec L2
section
variable {X : Cx} {env : VL.Env} {Q : R → VL.Env → Prop} {D : Dn} {a b e : Expr} {pos pos' pos2 p p2 : Pos}
/-- x += e, numbers -/
theorem vs_augI (i : Nat) {x : Str} {m : Int} (e0 : env[i]? = some (some (.d (.int m)))) (h : VE X e env fun r e1 => ∃ n : Int, r = dd (.int n) ∧ D.nx (e1.set i (some (.d (.int (m + n))))))
    (hN : X.N.Nodup := by assumption) (hi : X.N[i]? = some x := by rfl) (hx : L2.Loc X.env.scope x := by first | exact Or.inl rfl | exact Or.inr rfl) (hf : X.fn x = true ∨ X.env.scope.names.lookup x = some .local := by first | exact .inl rfl | exact .inr rfl | assumption) :
    VS X (.AugAssign (.Name x pos') .Add e pos) env D := fun F G H σ Rq => by
  obtain ⟨v, hv, hr⟩ := Rq.re.get e0
  cases (show Dq X.K F v (.int m) from hr)
  refine wS_of (ps_aug hN hi hx pe_w ip_add hf) ⟨_, hv, (h F G H σ Rq).imp fun y H1 ⟨F1, r, e1, s, R1, q1, n, er, z⟩ => ?_⟩
  subst er
  cases (show Dq X.K F1 y (.int n) from q1.rp)
  exact ⟨m, n, rfl, rfl, F1, _, s, R1.set (Vr.d (.int _)), z⟩
/-- tuple(range(a, b)) -/
theorem ve_tupRg2 (h : VE X a env fun r e1 => VE X b e1 fun q e2 => ∃ i j : Int, r = dd (.int i) ∧ q = dd (.int j) ∧ RgOk i j ∧ Q (dd (.tuple (rgD i j))) e2) (hm : X.mg "tuple" = none := by assumption) (hm2 : X.mg "range" = none := by assumption) (hc : X.calm = true := by rfl) (hg : Gl X "tuple" := by rfl) (hg2 : Gl X "range" := by rfl)
    (n1 : starEach [a, b] X.env = (false, eval a X.env) :: starEach [b] X.env := by rfl) (n3 : starEach [b] X.env = (false, eval b X.env) :: starEach [] X.env := by rfl) (hp : (backTo pos2 (starEach [b] X.env)).any (·.1) = false := by rfl)
    (n2 : starEach [.Call (.Name "range" p2) [a, b] [] pos2] X.env = (false, eval (.Call (.Name "range" p2) [a, b] [] pos2) X.env) :: starEach [] X.env := by rfl) :
    VE X (.Call (.Name "tuple" p) [.Call (.Name "range" p2) [a, b] [] pos2] [] pos) env Q := fun F G H σ Rq =>
  wE_of (pe_tupRgF hc hg hm (prg_2 hg2 hm2 pe_w pe_w n1 n3 hp) n2) (ve_two Rq h fun v w H2 F2 r q e2 s R2 rr ⟨i, j, er, eq, ok, z⟩ => by
    subst er eq
    obtain ⟨h1, h2⟩ := rr.two
    cases (show Dq X.K F2 v (.int i) from h1)
    cases (show Dq X.K F2 w (.int j) from h2)
    exact ⟨i, j, rfl, rfl, ok, fun q us hn => (pv_tup R2 hn (rgV_dqs F2 i j) z).imp s fun _ _ p => p⟩)
theorem ve_disp1 {k1 v1 : Expr} (h : VPs X [(k1, v1)] env fun kts e1 => (kts.map Prod.fst).Nodup ∧ kts.length ≤ 15 ∧ ∀ p, Q (.own (dct p kts)) e1) : VE X (.Dict [some k1] [v1] pos) env Q := ve_disp [(k1, v1)] h rfl rfl (fun z => nomatch z) (Nat.le_of_ble_eq_true rfl)
end
end VL

/-! text VL37 -/
set_option Elab.async false
set_option linter.all false
set_option maxRecDepth 100000
set_option maxHeartbeats 2000000
namespace VL
open PySem PySem.Spec L2
section
variable {X : Cx} {K : PySem.W.Frag} {F G H : Hp} {σ : L2.St} {env : VL.Env} {D : Dn} {sts : List Stmt}
theorem Rp.forget (i : Nat) (R : Rp K F G H σ env) : Rp K F G H σ (env.set i none) := by
  cases e : env[i]? with
  | none =>
    have hl : env.length ≤ i := List.getElem?_eq_none_iff.mp e
    rw [List.set_eq_of_length_le hl]
    exact R
  | some o =>
    cases o with
    | none =>
      have : env.set i none = env := by
        obtain ⟨hi, e2⟩ := List.getElem?_eq_some_iff.mp e
        rw [← e2, List.set_getElem_self]
      rw [this]
      exact R
    | some t =>
      obtain ⟨v, hv, R1, q⟩ := R.take e
      exact R1
/-- a slot is let go -/
theorem vss_forget (i : Nat) (h : VSs X sts (env.set i none) D) : VSs X sts env D := fun F G H σ Rq => h F G H σ (Rq.forget i)
end
end VL

/-! text VL38 -/
set_option Elab.async false
set_option linter.all false
set_option maxRecDepth 100000
set_option maxHeartbeats 2000000
set_option pp.maxSteps 400
namespace VL
open PySem PySem.Spec L2
section
variable {X : Cx} {a b c e : Expr} {pos pt px py pz apos cpos : Pos} {env : VL.Env} {D : Dn} {Q : R → VL.Env → Prop}
/-- x, y = a, b where one of the names is a cell: a tuple is made and taken apart -/
theorem vs_parC (i j : Nat) {x y : Str} {kt k2 pt2} (h : VEs X [a, b] env fun rs e1 => ∃ t u, rs = [.own t, .own u] ∧ D.nx ((e1.set i (some t)).set j (some u)))
    (hw : swappedStores [.Tuple [.Name x px, .Name y py] kt pt] (.Tuple [a, b] k2 pt2) X.env = pure none := by rfl) (hij : i ≠ j := by decide) (hc : X.calm = true := by rfl) (hN : X.N.Nodup := by assumption) (hi : X.N[i]? = some x := by rfl) (hj : X.N[j]? = some y := by rfl)
    (hx : L2.Loc X.env.scope x := by first | exact Or.inl rfl | exact Or.inr rfl) (hy : L2.Loc X.env.scope y := by first | exact Or.inl rfl | exact Or.inr rfl)
    (fx : X.fn x = true ∨ X.env.scope.names.lookup x = some .local := by first | exact .inl rfl | exact .inr rfl | assumption) (fy : X.fn y = true ∨ X.env.scope.names.lookup y = some .local := by first | exact .inl rfl | exact .inr rfl | assumption)
    (hs : swapsWithSole [.Tuple [.Name x px, .Name y py] kt pt] (.Tuple [a, b] k2 pt2) pos.line X.env = pure false := by rfl)
    (h1 : (assignEach [.Tuple [.Name x px, .Name y py] kt pt] X.env).map (·.2) = [assign (.Tuple [.Name x px, .Name y py] kt pt) X.env] := by rfl) :
    VS X (.Assign [.Tuple [.Name x px, .Name y py] kt pt] (.Tuple [a, b] k2 pt2) pos) env D := fun F G H σ Rq =>
  wS_of (ps_asg (pe_tupF pa_w) (pg_tup hc (pgs_cons (pg_name hN hi hx fx) (pgs_cons (pg_name hN hj hy fy) pgs_nil (by rfl)) (by rfl)) rfl rfl) hs hw h1) ((h F G H σ Rq).imp fun vs H1 ⟨F1, rs, e1, s, R1, q1, t, u, er, z⟩ => by
    subst er
    obtain ⟨⟨v, r1, ev, h1, ⟨w, r2, ew, h2, h3⟩⟩, nd, fr⟩ := q1
    have h3' : r2 = [] := h3
    subst h3'
    subst ew
    subst ev
    refine ⟨by rw [sizeLine_eq]; show 2 ≤ _; omega, fun p us n => ?_⟩
    have nd' : (nodes t ++ (nodes u ++ [])).Nodup := nd
    rw [List.append_nil] at nd'
    obtain ⟨n1, n2, n3⟩ := List.nodup_append.mp nd'
    have q2 : Vr X.K F1 G H1 e1 v t := ⟨h1, n1, fun p hp => fr p (List.mem_append_left _ hp)⟩
    have q3 : Vr X.K F1 G H1 (e1.set i (some t)) w u := ⟨h2, n2, fun p hp => by
      have hp' : p ∈ rnodesL [R.own t, R.own u] := List.mem_append_right _ (List.mem_append_left _ hp)
      refine ⟨fun hm => ?_, (fr p hp').2⟩
      rcases mem_setE hm with hm | hm
      · exact n3 p hm p hp rfl
      · exact (fr p hp').1 hm⟩
    have g := Gw.any R1.bs n (.frz (tupO us) (.tup [v, w]))
    exact ⟨p, [v, w], rfl, .inl (.inr ⟨_, upd_same⟩), rfl, v, [w], rfl, w, [], rfl, rfl, F1, _, s, ((R1.grow g).set (q2.grow g)).set (q3.grow g), z⟩)
end
end VL

/-! text VL39 -/
set_option Elab.async false
set_option linter.all false
set_option maxRecDepth 100000
set_option maxHeartbeats 2000000
set_option pp.maxSteps 400
namespace VL
open PySem PySem.Spec L2
/-! ### displays of data of one kind -/
section
variable {X : Cx} {env : VL.Env} {Q : R → VL.Env → Prop} {e : Expr} {es : List Expr} {pos : Pos} {Pd : PyData → Prop}
/-- data of that kind, the slots as they were -/
def VP (X : Cx) (e : Expr) (env : VL.Env) (Pd : PyData → Prop) : Prop := VE X e env fun r e1 => ∃ x, r = dd x ∧ Pd x ∧ e1 = env
inductive AllP (X : Cx) (env : VL.Env) (Pd : PyData → Prop) : List Expr → Prop
  | nil : AllP X env Pd []
  | cons {e : Expr} {es : List Expr} : VP X e env Pd → AllP X env Pd es → (hs : starEach (e :: es) X.env = (false, eval e X.env) :: starEach es X.env := by rfl) → AllP X env Pd (e :: es)
theorem ves_P : ∀ {es : List Expr} {Q : List R → VL.Env → Prop}, AllP X env Pd es → (∀ xs : List PyData, (∀ x ∈ xs, Pd x) → xs.length = es.length → Q (xs.map dd) env) → VEs X es env Q
  | [], Q, _, h => ves_nil (h [] (fun _ hx => by cases hx) rfl)
  | e :: es, Q, a, h => by
    cases a with
    | cons a1 a2 hs =>
      refine ves_cons (hs := hs) (VE.imp a1 fun r e1 ⟨x, er, px, ee⟩ => ?_)
      rw [er, ee]
      refine ves_P a2 fun xs hx hl => h (x :: xs) (fun y hy => ?_) (by rw [List.length_cons, List.length_cons, hl])
      rcases List.mem_cons.mp hy with rfl | hy
      · exact px
      · exact hx y hy
theorem ve_listP (a : AllP X env Pd es) (hz : es.length ≤ 1000) (h : ∀ xs : List PyData, (∀ x ∈ xs, Pd x) → xs.length = es.length → ∀ p, Q (.own (ls p xs)) env) : VE X (.List es pos) env Q :=
  ve_list (ves_P a fun xs hx hl => ⟨xs.map T.d, by rw [List.map_map]; rfl, by rw [List.length_map, sizeLine_eq]; omega, fun p => h xs hx hl p⟩)
theorem ve_tupleP {k} (a : AllP X env Pd es) (hz : es.length ≤ 1000) (h : ∀ xs : List PyData, (∀ x ∈ xs, Pd x) → xs.length = es.length → Q (dd (.tuple xs)) env) : VE X (.Tuple es k pos) env Q :=
  ve_tuple (ves_P a fun xs hx hl => ⟨xs, rfl, by rw [sizeLine_eq]; omega, h xs hx hl⟩)
end
section
variable {X : Cx} {env : VL.Env} {a b c : Expr} {pos : Pos} {st : Stmt} {D : Dn} {QB : Bool → VL.Env → Prop}
/-- a < b < c of numbers as a test -/
theorem vt_chain {op op' : CmpOp} (h : VE X a env fun r e1 => ∃ i : Int, r = dd (.int i) ∧ VE X b e1 fun q e2 => ∃ j : Int, q = dd (.int j) ∧ BinV X (compareOp op) (dd (.int i)) (dd (.int j)) e2 fun z e3 => ∃ k, z = dd (.bool k) ∧
      if k = true then VE X c e3 fun w e4 => ∃ l : Int, w = dd (.int l) ∧ BinV X (compareOp op') (dd (.int j)) (dd (.int l)) e4 fun z e5 => ∃ k, z = dd (.bool k) ∧ QB k e5 else QB false e3)
    (hm : lastMarks [op, op'] [b, c] = false := by with_unfolding_all rfl) : VT X (.Compare a [op, op'] [b, c] pos) env QB := fun F G H σ Rq =>
  wT_of (pt_chain wO_ok wO_ok pe_w pe_w pe_w hm) ((h F G H σ Rq).imp fun v H1 ⟨F1, r, e1, s1, R1, q1, i, er, z1⟩ => by
    subst er
    cases (show Dq X.K F1 v (.int i) from q1.rp)
    refine (z1 F1 G H1 σ R1).imp fun w H2 ⟨F2, q, e2, s2, R2, q2, j, eq, z2⟩ => ?_
    subst eq
    cases (show Dq X.K F2 w (.int j) from q2.rp)
    have two : ∀ (F : Hp) (H : Hp) (e : VL.Env) (i j : Int), Rrs X.K F G H e [.int i, .int j] [dd (.int i), dd (.int j)] := fun F H e i j => ⟨⟨_, _, rfl, .int i, _, _, rfl, .int j, rfl⟩, List.nodup_nil, fun p hp => by cases hp⟩
    refine (z2 F2 G H2 σ _ _ R2 (two F2 H2 e2 i j)).imp fun u H3 ⟨F3, z, e3, s3, R3, q3, k, ez, z3⟩ => ?_
    subst ez
    cases (show Dq X.K F3 u (.bool k) from q3.rp)
    refine ⟨k, rfl, ?_⟩
    cases k with
    | false =>
      rw [if_neg Bool.false_ne_true] at z3 ⊢
      exact ⟨false, rfl, F3, e3, (s1.trans s2).trans s3, R3, z3⟩
    | true =>
      rw [if_pos rfl] at z3 ⊢
      refine (z3 F3 G H3 σ R3).imp fun w H4 ⟨F4, q, e4, s4, R4, q4, l, el, z4⟩ => ?_
      subst el
      cases (show Dq X.K F4 w (.int l) from q4.rp)
      refine (z4 F4 G H4 σ _ _ R4 (two F4 H4 e4 j l)).imp fun u5 H5 ⟨F5, r5, e5, s5, R5, q5, k5, er5, z5⟩ => ?_
      subst er5
      cases (show Dq X.K F5 u5 (.bool k5) from q5.rp)
      exact ⟨k5, rfl, F5, e5, (((s1.trans s2).trans s3).trans s4).trans s5, R5, z5⟩)
/-- a statement, told in between -/
theorem vs_mid (Pm : VL.Env → Prop) (h : VS X st env { D with nx := Pm }) (k : ∀ e, Pm e → D.nx e) : VS X st env D := fun F G H σ Rq =>
  (h F G H σ Rq).imp (fun _ _ ⟨F1, e1, s, R1, z⟩ => ⟨F1, e1, s, R1, k e1 z⟩) (fun _ _ z => z) (fun _ _ z => z) (fun _ _ z => z)
end
theorem cutL_mem {α : Type} {xs : List α} {lo hi : Option Int} {x : α} (h : x ∈ cutL xs lo hi) : x ∈ xs := List.mem_of_mem_drop (List.mem_of_mem_take h)
theorem cutL_len {α : Type} (xs : List α) (lo hi : Option Int) : (cutL xs lo hi).length ≤ xs.length := by
  unfold cutL
  rw [List.length_take, List.length_drop]
  omega
theorem cutL_last {α : Type} (xs : List α) : (cutL xs (some (-1)) none).length ≤ 1 := by
  unfold cutL
  rw [List.length_take, List.length_drop]
  have : HT.sIx xs.length 0 (some (-1)) = ((-1 : Int) + (xs.length : Int)).toNat := rfl
  rw [this]
  omega
end VL

/-! text PM1 -/
set_option Elab.async false
set_option linter.all false
/-! Turns of numbers: their powers, cycles. Plain Lean. -/
namespace PM
def ap (a : List Nat) (i : Nat) : Nat := a.getD i 0
def pw (a : List Nat) : Nat → Nat → Nat
  | 0, i => i
  | k + 1, i => ap a (pw a k i)
structure Turn (a : List Nat) : Prop where
  nd : a.Nodup
  lt : ∀ x ∈ a, x < a.length
variable {a : List Nat}
theorem ap_get {i : Nat} (h : i < a.length) : a[i]? = some (ap a i) := by simp [ap, List.getD, h]
theorem ap_mem {i : Nat} (h : i < a.length) : ap a i ∈ a := List.mem_of_getElem? (ap_get h)
theorem Turn.ap_lt (t : Turn a) {i : Nat} (h : i < a.length) : ap a i < a.length := t.lt _ (ap_mem h)
theorem ap_eq {i : Nat} (h : i < a.length) : ap a i = a[i] := by simp [ap, List.getD, h]
theorem Turn.ap_inj (t : Turn a) {i j : Nat} (hi : i < a.length) (hj : j < a.length) (e : ap a i = ap a j) : i = j := by
  rw [ap_eq hi, ap_eq hj] at e
  exact (List.getElem_inj t.nd).mp e
theorem pw_add (j k i : Nat) : pw a (j + k) i = pw a j (pw a k i) := by
  induction j with
  | zero => simp [pw]
  | succ j ih => rw [Nat.succ_add]; simp only [pw]; rw [ih]
theorem pw_comm (j k i : Nat) : pw a j (pw a k i) = pw a k (pw a j i) := by rw [← pw_add, ← pw_add, Nat.add_comm]
theorem Turn.pw_lt (t : Turn a) {i : Nat} (h : i < a.length) : ∀ k, pw a k i < a.length
  | 0 => h
  | k + 1 => t.ap_lt (t.pw_lt h k)
theorem Turn.pw_inj (t : Turn a) {i j : Nat} (hi : i < a.length) (hj : j < a.length) : ∀ k, pw a k i = pw a k j → i = j
  | 0, e => e
  | k + 1, e => t.pw_inj hi hj k (t.ap_inj (t.pw_lt hi k) (t.pw_lt hj k) e)
theorem nodup_bound : ∀ (n : Nat) (l : List Nat), l.Nodup → (∀ x ∈ l, x < n) → l.length ≤ n
  | 0, l, _, h => by
    cases l with
    | nil => simp
    | cons x l => exact absurd (h x List.mem_cons_self) (Nat.not_lt_zero _)
  | n + 1, l, nd, h => by
    have h2 := nodup_bound n (l.erase n) (nd.erase n) fun x hx => by
      obtain ⟨h1, h2⟩ := nd.mem_erase_iff.mp hx
      have := h x h2
      omega
    have h3 := List.length_erase_of_mem (a := n) (l := l)
    by_cases hm : n ∈ l
    · rw [h3 hm] at h2; omega
    · rw [List.erase_of_not_mem hm] at h2; omega
theorem nodup_map {α β : Type} {f : α → β} : ∀ {l : List α}, (∀ x ∈ l, ∀ y ∈ l, f x = f y → x = y) → l.Nodup → (l.map f).Nodup
  | [], _, _ => List.nodup_nil
  | x :: l, h, nd => by
    obtain ⟨n1, n2⟩ := List.nodup_cons.mp nd
    refine List.nodup_cons.mpr ⟨fun hm => ?_, nodup_map (fun u hu v hv => h u (List.mem_cons_of_mem _ hu) v (List.mem_cons_of_mem _ hv)) n2⟩
    obtain ⟨y, hy, e⟩ := List.mem_map.mp hm
    exact n1 (h y (List.mem_cons_of_mem _ hy) x List.mem_cons_self e ▸ hy)
theorem Turn.back (t : Turn a) {i : Nat} (h : i < a.length) : ∃ k, 0 < k ∧ k ≤ a.length ∧ pw a k i = i := by
  apply Classical.byContradiction
  intro hn
  have hn' : ∀ k, 0 < k → k ≤ a.length → pw a k i ≠ i := fun k h1 h2 h3 => hn ⟨k, h1, h2, h3⟩
  have key : ∀ j k, j < k → k ≤ a.length → pw a j i ≠ pw a k i := fun j k h1 h2 e => by
    have e2 : pw a k i = pw a j (pw a (k - j) i) := by rw [← pw_add]; congr 1; omega
    rw [e2] at e
    exact hn' (k - j) (by omega) (by omega) (t.pw_inj h (t.pw_lt h _) j e).symm
  have nd : ((List.range (a.length + 1)).map fun k => pw a k i).Nodup := nodup_map (fun x hx y hy e => by
    have hx' := List.mem_range.mp hx
    have hy' := List.mem_range.mp hy
    rcases Nat.lt_trichotomy x y with h1 | h1 | h1
    · exact absurd e (key x y h1 (by omega))
    · exact h1
    · exact absurd e.symm (key y x h1 (by omega))) List.nodup_range
  have := nodup_bound a.length _ nd fun x hx => by
    obtain ⟨k, _, rfl⟩ := List.mem_map.mp hx
    exact t.pw_lt h k
  rw [List.length_map, List.length_range] at this
  omega
/-- the least k from m on that leads back -/
def perF (a : List Nat) (i : Nat) : Nat → Nat → Nat
  | 0, m => m
  | f + 1, m => if pw a m i = i then m else perF a i f (m + 1)
theorem perF_spec {i : Nat} : ∀ (f m : Nat), (∃ k, m ≤ k ∧ k < m + f ∧ pw a k i = i) → m ≤ perF a i f m ∧ perF a i f m < m + f ∧ pw a (perF a i f m) i = i ∧ ∀ k, m ≤ k → k < perF a i f m → pw a k i ≠ i
  | 0, m, ⟨k, h1, h2, _⟩ => by omega
  | f + 1, m, ⟨k, h1, h2, h3⟩ => by
    unfold perF
    by_cases e : pw a m i = i
    · rw [if_pos e]
      exact ⟨Nat.le_refl _, by omega, e, fun k h1 h2 => by omega⟩
    · rw [if_neg e]
      have hk : m ≠ k := fun z => e (z ▸ h3)
      obtain ⟨p1, p2, p3, p4⟩ := perF_spec f (m + 1) ⟨k, by omega, by omega, h3⟩
      refine ⟨by omega, by omega, p3, fun k h1 h2 => ?_⟩
      by_cases ek : k = m
      · rw [ek]; exact e
      · exact p4 k (by omega) h2
def per (a : List Nat) (i : Nat) : Nat := perF a i a.length 1
section
variable (t : Turn a) {i : Nat} (h : i < a.length)
include t h
theorem Turn.per_spec : 1 ≤ per a i ∧ per a i ≤ a.length ∧ pw a (per a i) i = i ∧ ∀ k, 1 ≤ k → k < per a i → pw a k i ≠ i := by
  obtain ⟨k, h1, h2, h3⟩ := t.back h
  obtain ⟨p1, p2, p3, p4⟩ := perF_spec (a := a) (i := i) a.length 1 ⟨k, h1, by omega, h3⟩
  exact ⟨p1, by unfold per; omega, p3, p4⟩
theorem Turn.per_pos : 0 < per a i := (t.per_spec h).1
theorem Turn.pw_mul (m : Nat) : pw a (per a i * m) i = i := by
  induction m with
  | zero => rfl
  | succ m ih => rw [Nat.mul_succ, pw_add, (t.per_spec h).2.2.1, ih]
theorem Turn.pw_mod (k : Nat) : pw a k i = pw a (k % per a i) i := by
  have e : k = k % per a i + per a i * (k / per a i) := (Nat.mod_add_div k (per a i)).symm
  have e2 : pw a k i = pw a (k % per a i + per a i * (k / per a i)) i := by rw [← e]
  rw [e2, pw_add, t.pw_mul h]
theorem Turn.pw_dvd (k : Nat) : pw a k i = i ↔ per a i ∣ k := by
  constructor
  · intro e
    rw [t.pw_mod h] at e
    have h1 := Nat.mod_lt k (t.per_pos h)
    refine Nat.dvd_of_mod_eq_zero (Classical.byContradiction fun hn => ?_)
    exact (t.per_spec h).2.2.2 _ (by omega) h1 e
  · rintro ⟨m, rfl⟩
    exact t.pw_mul h m
theorem Turn.per_pw (k : Nat) : per a (pw a k i) = per a i := by
  have hx := t.pw_lt h k
  have key : ∀ m, pw a m (pw a k i) = pw a k i ↔ pw a m i = i := fun m => by
    rw [pw_comm]
    exact ⟨fun e => t.pw_inj (t.pw_lt h m) h k e, fun e => by rw [e]⟩
  refine Nat.dvd_antisymm ?_ ?_
  · rw [← t.pw_dvd hx, key, t.pw_dvd h]; exact Nat.dvd_refl _
  · rw [← t.pw_dvd h, ← key, t.pw_dvd hx]; exact Nat.dvd_refl _
end
/-- the cycle of a number, begun with it -/
def cyc (a : List Nat) (i : Nat) : List Nat := (List.range (per a i)).map fun k => pw a k i
theorem cyc_len (a : List Nat) (i : Nat) : (cyc a i).length = per a i := by simp [cyc]
theorem mem_cyc {x i : Nat} : x ∈ cyc a i ↔ ∃ k, k < per a i ∧ pw a k i = x := by simp [cyc]
theorem cyc_get {i k : Nat} (h : k < per a i) : (cyc a i)[k]? = some (pw a k i) := by simp [cyc, h]
section
variable (t : Turn a) {i : Nat} (h : i < a.length)
include t h
theorem Turn.mem_cyc' (k : Nat) : pw a k i ∈ cyc a i := mem_cyc.mpr ⟨k % per a i, Nat.mod_lt _ (t.per_pos h), (t.pw_mod h k).symm⟩
theorem Turn.self_cyc : i ∈ cyc a i := t.mem_cyc' h 0
theorem Turn.cyc_lt {x : Nat} (hx : x ∈ cyc a i) : x < a.length := by
  obtain ⟨k, _, rfl⟩ := mem_cyc.mp hx
  exact t.pw_lt h k
theorem Turn.cyc_nd : (cyc a i).Nodup := nodup_map (fun x hx y hy e => by
  have hx' := List.mem_range.mp hx
  have hy' := List.mem_range.mp hy
  have key : ∀ j k, j < k → k < per a i → pw a j i ≠ pw a k i := fun j k h1 h2 e => by
    have e2 : pw a k i = pw a j (pw a (k - j) i) := by rw [← pw_add]; congr 1; omega
    rw [e2] at e
    exact (t.per_spec h).2.2.2 (k - j) (by omega) (by omega) (t.pw_inj h (t.pw_lt h _) j e).symm
  rcases Nat.lt_trichotomy x y with h1 | h1 | h1
  · exact absurd e (key x y h1 (by omega))
  · exact h1
  · exact absurd e.symm (key y x h1 (by omega))) List.nodup_range
theorem Turn.cyc_symm {x : Nat} (hx : x ∈ cyc a i) : i ∈ cyc a x := by
  obtain ⟨k, hk, rfl⟩ := mem_cyc.mp hx
  have e : i = pw a (per a i - k) (pw a k i) := by
    rw [← pw_add, show per a i - k + k = per a i by omega]
    exact ((t.per_spec h).2.2.1).symm
  have := t.mem_cyc' (t.pw_lt h k) (per a i - k)
  rw [← e] at this
  exact this
theorem Turn.cyc_trans {x y : Nat} (hx : x ∈ cyc a i) (hy : y ∈ cyc a x) : y ∈ cyc a i := by
  obtain ⟨k, hk, rfl⟩ := mem_cyc.mp hx
  obtain ⟨m, hm, rfl⟩ := mem_cyc.mp hy
  rw [← pw_add]
  exact t.mem_cyc' h _
theorem Turn.cyc_ap {x : Nat} (hx : x ∈ cyc a i) : ap a x ∈ cyc a i := by
  obtain ⟨k, hk, rfl⟩ := mem_cyc.mp hx
  exact t.mem_cyc' h (k + 1)
end
/-- a number is the least one of its cycle -/
def isRep (a : List Nat) (i : Nat) : Bool := (cyc a i).all fun x => decide (i ≤ x)
theorem isRep_iff {i : Nat} : isRep a i = true ↔ ∀ x ∈ cyc a i, i ≤ x := by simp [isRep]
theorem exists_min : ∀ {l : List Nat}, l ≠ [] → ∃ m, m ∈ l ∧ ∀ x ∈ l, m ≤ x
  | [], h => absurd rfl h
  | [x], _ => ⟨x, by simp, by simp⟩
  | x :: y :: l, _ => by
    obtain ⟨m, h1, h2⟩ := exists_min (l := y :: l) (by simp)
    by_cases hx : x ≤ m
    · exact ⟨x, List.mem_cons_self, fun z hz => by
        rcases List.mem_cons.mp hz with rfl | hz
        · exact Nat.le_refl _
        · exact Nat.le_trans hx (h2 z hz)⟩
    · exact ⟨m, List.mem_cons_of_mem _ h1, fun z hz => by
        rcases List.mem_cons.mp hz with rfl | hz
        · omega
        · exact h2 z hz⟩
section
variable (t : Turn a) {i : Nat} (h : i < a.length)
include t h
theorem Turn.rep : ∃ m, m < a.length ∧ m ≤ i ∧ isRep a m = true ∧ i ∈ cyc a m ∧ m ∈ cyc a i := by
  obtain ⟨m, h1, h2⟩ := exists_min (l := cyc a i) (List.ne_nil_of_mem (t.self_cyc h))
  have hm := t.cyc_lt h h1
  exact ⟨m, hm, h2 i (t.self_cyc h), isRep_iff.mpr fun x hx => h2 x (t.cyc_trans h h1 hx), t.cyc_symm h h1, h1⟩
theorem Turn.rep_uniq {j x : Nat} (hj : j < a.length) (ri : isRep a i = true) (rj : isRep a j = true) (hi : x ∈ cyc a i) (hx : x ∈ cyc a j) : i = j := by
  have h1 : j ∈ cyc a i := t.cyc_trans h hi (t.cyc_symm hj hx)
  have h2 : i ∈ cyc a j := t.cyc_symm h h1
  exact Nat.le_antisymm (isRep_iff.mp ri j h1) (isRep_iff.mp rj i h2)
end
/-- the cycles, each from its least number on -/
def reps (a : List Nat) : List Nat := (List.range a.length).filter (isRep a)
def cycs (a : List Nat) : List (List Nat) := (reps a).map (cyc a)
theorem mem_reps {i : Nat} : i ∈ reps a ↔ i < a.length ∧ isRep a i = true := by simp [reps]
theorem Turn.flat_nd (t : Turn a) : (cycs a).flatten.Nodup := by
  refine List.pairwise_flatten.mpr ⟨fun l hl => ?_, ?_⟩
  · obtain ⟨i, hi, rfl⟩ := List.mem_map.mp hl
    exact t.cyc_nd (mem_reps.mp hi).1
  · unfold cycs
    refine List.pairwise_map.mpr ?_
    have nd : (reps a).Nodup := List.nodup_range.sublist List.filter_sublist
    refine List.Pairwise.imp_of_mem (fun {i j} hi hj hne x hx y hy e => ?_) nd
    subst e
    exact hne (t.rep_uniq (mem_reps.mp hi).1 (mem_reps.mp hj).1 (mem_reps.mp hi).2 (mem_reps.mp hj).2 hx hy)
theorem Turn.mem_flat (t : Turn a) {x : Nat} : x ∈ (cycs a).flatten ↔ x < a.length := by
  constructor
  · intro hx
    obtain ⟨l, hl, hx⟩ := List.mem_flatten.mp hx
    obtain ⟨i, hi, rfl⟩ := List.mem_map.mp hl
    exact t.cyc_lt (mem_reps.mp hi).1 hx
  · intro hx
    obtain ⟨m, h1, h2, h3, h4, _⟩ := t.rep hx
    exact List.mem_flatten.mpr ⟨_, List.mem_map.mpr ⟨m, mem_reps.mpr ⟨h1, h3⟩, rfl⟩, h4⟩
theorem Turn.flat_perm (t : Turn a) : (cycs a).flatten.Perm (List.range a.length) := (List.perm_ext_iff_of_nodup t.flat_nd List.nodup_range).mpr fun x => by rw [t.mem_flat]; simp
theorem Turn.flat_len (t : Turn a) : ((cycs a).map List.length).sum = a.length := by
  rw [← List.length_flatten, t.flat_perm.length_eq, List.length_range]
/-! ### orders -/
def lens (a : List Nat) : List Nat := (cycs a).map List.length
def lcmL (ls : List Nat) : Nat := ls.foldl Nat.lcm 1
theorem lcmL_dvd : ∀ (ls : List Nat) (s k : Nat), ls.foldl Nat.lcm s ∣ k ↔ s ∣ k ∧ ∀ l ∈ ls, l ∣ k
  | [], s, k => by simp
  | l :: ls, s, k => by
    rw [List.foldl_cons, lcmL_dvd ls, Nat.lcm_dvd_iff]
    simp [and_assoc]
theorem lcmL_pos : ∀ (ls : List Nat) (s : Nat), 0 < s → (∀ l ∈ ls, 0 < l) → 0 < ls.foldl Nat.lcm s
  | [], s, h, _ => h
  | l :: ls, s, h, hl => lcmL_pos ls _ (Nat.lcm_pos h (hl l List.mem_cons_self)) fun x hx => hl x (List.mem_cons_of_mem _ hx)
theorem Turn.lens_per (t : Turn a) {i : Nat} (h : i < a.length) : per a i ∈ lens a := by
  obtain ⟨m, h1, h2, h3, h4, _⟩ := t.rep h
  obtain ⟨k, _, e⟩ := mem_cyc.mp h4
  have : per a i = per a m := by rw [← e]; exact t.per_pw h1 k
  rw [this, ← cyc_len]
  exact List.mem_map.mpr ⟨_, List.mem_map.mpr ⟨m, mem_reps.mpr ⟨h1, h3⟩, rfl⟩, rfl⟩
theorem Turn.lens_spec (t : Turn a) {l : Nat} (h : l ∈ lens a) : ∃ i, i < a.length ∧ l = per a i := by
  obtain ⟨c, hc, rfl⟩ := List.mem_map.mp h
  obtain ⟨i, hi, rfl⟩ := List.mem_map.mp hc
  exact ⟨i, (mem_reps.mp hi).1, cyc_len a i⟩
/-- a power is nothing exactly if the least common multiple divides -/
theorem Turn.ord (t : Turn a) (k : Nat) {ls : List Nat} (hp : ls.Perm (lens a)) : (List.range a.length).map (pw a k) = List.range a.length ↔ lcmL ls ∣ k := by
  have e1 : (List.range a.length).map (pw a k) = List.range a.length ↔ ∀ i, i < a.length → pw a k i = i := by
    constructor
    · intro e i hi
      have : ((List.range a.length).map (pw a k))[i]? = (List.range a.length)[i]? := by rw [e]
      simpa [hi] using this
    · intro e
      have : (List.range a.length).map (pw a k) = (List.range a.length).map id := List.map_congr_left fun x hx => e x (List.mem_range.mp hx)
      simpa using this
  rw [e1, lcmL, lcmL_dvd]
  constructor
  · intro e
    refine ⟨Nat.one_dvd _, fun l hl => ?_⟩
    obtain ⟨i, hi, rfl⟩ := t.lens_spec (hp.mem_iff.mp hl)
    exact (t.pw_dvd hi k).mp (e i hi)
  · rintro ⟨_, e⟩ i hi
    exact (t.pw_dvd hi k).mpr (e _ (hp.mem_iff.mpr (t.lens_per hi)))
theorem Turn.ord_pos (t : Turn a) {ls : List Nat} (hp : ls.Perm (lens a)) : 0 < lcmL ls := lcmL_pos _ _ Nat.one_pos fun l hl => by
  obtain ⟨i, hi, rfl⟩ := t.lens_spec (hp.mem_iff.mp hl)
  exact t.per_pos hi
end PM

/-! text PM2 -/
set_option Elab.async false
set_option linter.all false
/-! Exchanges and falls. Plain Lean. -/
namespace PM
def sw (i j x : Nat) : Nat := if x = i then j else if x = j then i else x
theorem sw_sw (i j x : Nat) : sw i j (sw i j x) = x := by
  unfold sw
  split
  · rename_i h; subst h
    by_cases h2 : j = x
    · simp [h2]
    · simp [h2]
  · rename_i h
    by_cases h2 : x = j
    · simp [h2]
    · simp [h, h2]
theorem sw_inj {i j x y : Nat} (h : sw i j x = sw i j y) : x = y := by rw [← sw_sw i j x, h, sw_sw]
theorem sw_lt {i j x n : Nat} (hi : i < n) (hj : j < n) (h : x < n) : sw i j x < n := by
  unfold sw
  split
  · exact hj
  · split
    · exact hi
    · exact h
theorem sw_map (i j : Nat) (a : List Nat) : (a.map (sw i j)).map (sw i j) = a := by
  rw [List.map_map]
  have : sw i j ∘ sw i j = id := funext fun x => sw_sw i j x
  rw [this, List.map_id]
theorem Turn.ex {a : List Nat} (t : Turn a) {i j : Nat} (hi : i < a.length) (hj : j < a.length) : Turn (a.map (sw i j)) :=
  ⟨nodup_map (fun x _ y _ h => sw_inj h) t.nd, fun x hx => by
    obtain ⟨y, hy, rfl⟩ := List.mem_map.mp hx
    rw [List.length_map]
    exact sw_lt hi hj (t.lt y hy)⟩
theorem turn_range (n : Nat) : Turn (List.range n) := ⟨List.nodup_range, fun x hx => by simpa using hx⟩
theorem Turn.mem {a : List Nat} (t : Turn a) {x : Nat} : x ∈ a ↔ x < a.length := by
  constructor
  · exact t.lt x
  · intro h
    have hc := t.cyc_symm h (x := ap a x) (t.mem_cyc' h 1)
    obtain ⟨m, hm, e⟩ := mem_cyc.mp hc
    -- x = pw m (ap x): one more step back
    have h1 : x = ap a (pw a m x) := by
      have : pw a m (ap a x) = pw a (m + 1) x := by rw [pw_add]; rfl
      rw [this] at e
      exact e.symm
    rw [h1]
    exact ap_mem (t.pw_lt h m)
theorem Turn.perm {a : List Nat} (t : Turn a) : a.Perm (List.range a.length) := (List.perm_ext_iff_of_nodup t.nd List.nodup_range).mpr fun x => by rw [t.mem]; simp
/-! ### falls -/
def inv : List Nat → Nat
  | [] => 0
  | x :: xs => xs.countP (fun y => decide (y < x)) + inv xs
theorem count_le {p : Nat → Bool} {f : Nat → Nat} {q : Nat → Bool} : ∀ {l : List Nat}, (∀ y ∈ l, q (f y) = p y) → (l.map f).countP q = l.countP p
  | [], _ => rfl
  | y :: l, h => by
    rw [List.map_cons, List.countP_cons, List.countP_cons, count_le fun z hz => h z (List.mem_cons_of_mem _ hz), h y List.mem_cons_self]
/-- an order kept -/
theorem inv_keep {f : Nat → Nat} : ∀ {l : List Nat}, (∀ x ∈ l, ∀ y ∈ l, f x < f y ↔ x < y) → inv (l.map f) = inv l
  | [], _ => rfl
  | x :: l, h => by
    show (l.map f).countP _ + inv (l.map f) = l.countP _ + inv l
    rw [inv_keep fun u hu v hv => h u (List.mem_cons_of_mem _ hu) v (List.mem_cons_of_mem _ hv), count_le fun y hy => ?_]
    have := h y (List.mem_cons_of_mem _ hy) x List.mem_cons_self
    simp [this]
theorem sw_keep {k x y : Nat} (h : ¬ (x = k ∧ y = k + 1)) (h' : ¬ (x = k + 1 ∧ y = k)) : sw k (k + 1) x < sw k (k + 1) y ↔ x < y := by
  unfold sw
  split <;> split <;> (try split) <;> (try split) <;> omega
/-- k and k + 1 exchanged: one fall more or less, by which of them stands ahead -/
theorem inv_adj {k : Nat} : ∀ {l : List Nat}, l.Nodup → k ∈ l → k + 1 ∈ l → (l.idxOf k < l.idxOf (k + 1) → inv (l.map (sw k (k + 1))) = inv l + 1) ∧ (l.idxOf (k + 1) < l.idxOf k → inv l = inv (l.map (sw k (k + 1))) + 1)
  | [], _, h, _ => by cases h
  | x :: l, nd, h1, h2 => by
    obtain ⟨n1, n2⟩ := List.nodup_cons.mp nd
    have other : ∀ c d : Nat, (c = k ∧ d = k + 1) ∨ (c = k + 1 ∧ d = k) → c ∉ l → d ∈ l → inv (l.map (sw k (k + 1))) = inv l := fun c d hcd hc hd => inv_keep fun u hu v hv => sw_keep (fun z => by
      rcases hcd with ⟨rfl, rfl⟩ | ⟨rfl, rfl⟩
      · exact hc (z.1 ▸ hu)
      · exact hc (z.2 ▸ hv)) (fun z => by
      rcases hcd with ⟨rfl, rfl⟩ | ⟨rfl, rfl⟩
      · exact hc (z.2 ▸ hv)
      · exact hc (z.1 ▸ hu))
    by_cases e1 : x = k
    · subst e1
      have hk : x + 1 ∈ l := by
        rcases List.mem_cons.mp h2 with z | z
        · omega
        · exact z
      have ix : (x :: l).idxOf x = 0 := by simp
      have iy : (x :: l).idxOf (x + 1) = l.idxOf (x + 1) + 1 := by
        rw [List.idxOf_cons]
        have : (x == x + 1) = false := by simp
        simp [this]
      rw [ix, iy]
      refine ⟨fun _ => ?_, fun z => by omega⟩
      show (l.map (sw x (x + 1))).countP (fun y => decide (y < sw x (x + 1) x)) + inv (l.map (sw x (x + 1))) = l.countP _ + inv l + 1
      rw [other x (x + 1) (.inl ⟨rfl, rfl⟩) n1 hk]
      have es : sw x (x + 1) x = x + 1 := by simp [sw]
      rw [es]
      have cnt : ∀ {m : List Nat}, m.Nodup → x ∉ m → (m.map (sw x (x + 1))).countP (fun y => decide (y < x + 1)) = m.countP (fun y => decide (y < x)) + if x + 1 ∈ m then 1 else 0 := by
        intro m
        induction m with
        | nil => intro _ _; rfl
        | cons y m ih =>
          intro nd hx
          obtain ⟨m1, m2⟩ := List.nodup_cons.mp nd
          have hxy : x ≠ y := fun z => hx (z ▸ List.mem_cons_self)
          have hxm : x ∉ m := fun z => hx (List.mem_cons_of_mem _ z)
          rw [List.map_cons, List.countP_cons, List.countP_cons, ih m2 hxm]
          by_cases ey : y = x + 1
          · subst ey
            have e3 : sw x (x + 1) (x + 1) = x := by simp [sw]
            rw [e3, if_neg m1]
            simp
          · have e3 : sw x (x + 1) y = y := by simp [sw, Ne.symm hxy, ey]
            rw [e3]
            have e4 : (x + 1 ∈ y :: m) ↔ x + 1 ∈ m := by
              rw [List.mem_cons]
              exact ⟨fun z => z.resolve_left fun q => ey q.symm, .inr⟩
            have e5 : decide (y < x + 1) = decide (y < x) := by
              have : y < x + 1 ↔ y < x := by omega
              simp [this]
            rw [e5]
            simp only [e4]
            omega
      rw [cnt n2 n1, if_pos hk]
      omega
    · by_cases e2 : x = k + 1
      · subst e2
        have hk : k ∈ l := by
          rcases List.mem_cons.mp h1 with z | z
          · omega
          · exact z
        have ix : ((k + 1) :: l).idxOf (k + 1) = 0 := by simp
        have iy : ((k + 1) :: l).idxOf k = l.idxOf k + 1 := by
          rw [List.idxOf_cons]
          have : (k + 1 == k) = false := by simp
          simp [this]
        rw [ix, iy]
        refine ⟨fun z => by omega, fun _ => ?_⟩
        show l.countP _ + inv l = (l.map (sw k (k + 1))).countP (fun y => decide (y < sw k (k + 1) (k + 1))) + inv (l.map (sw k (k + 1))) + 1
        rw [other (k + 1) k (.inr ⟨rfl, rfl⟩) n1 hk]
        have es : sw k (k + 1) (k + 1) = k := by simp [sw]
        rw [es]
        have cnt : ∀ {m : List Nat}, m.Nodup → k + 1 ∉ m → m.countP (fun y => decide (y < k + 1)) = (m.map (sw k (k + 1))).countP (fun y => decide (y < k)) + if k ∈ m then 1 else 0 := by
          intro m
          induction m with
          | nil => intro _ _; rfl
          | cons y m ih =>
            intro nd hx
            obtain ⟨m1, m2⟩ := List.nodup_cons.mp nd
            have hxy : k + 1 ≠ y := fun z => hx (z ▸ List.mem_cons_self)
            have hxm : k + 1 ∉ m := fun z => hx (List.mem_cons_of_mem _ z)
            rw [List.map_cons, List.countP_cons, List.countP_cons, ih m2 hxm]
            by_cases ey : y = k
            · subst ey
              have e3 : sw y (y + 1) y = y + 1 := by simp [sw]
              rw [e3, if_neg m1]
              simp
            · have e3 : sw k (k + 1) y = y := by simp [sw, Ne.symm hxy, ey]
              rw [e3]
              have e4 : (k ∈ y :: m) ↔ k ∈ m := by
                rw [List.mem_cons]
                exact ⟨fun z => z.resolve_left fun q => ey q.symm, .inr⟩
              have e5 : decide (y < k + 1) = decide (y < k) := by
                have : y < k + 1 ↔ y < k := by omega
                simp [this]
              rw [e5]
              simp only [e4]
              omega
        rw [cnt n2 n1, if_pos hk]
        omega
      · have hk1 : k ∈ l := by
          rcases List.mem_cons.mp h1 with z | z
          · exact absurd z.symm e1
          · exact z
        have hk2 : k + 1 ∈ l := by
          rcases List.mem_cons.mp h2 with z | z
          · exact absurd z.symm e2
          · exact z
        have b1 : (x == k) = false := by simp [e1]
        have b2 : (x == k + 1) = false := by simp [e2]
        rw [List.idxOf_cons, List.idxOf_cons, b1, b2]
        simp only [cond_false]
        obtain ⟨i1, i2⟩ := inv_adj n2 hk1 hk2
        have es : sw k (k + 1) x = x := by simp [sw, e1, e2]
        have ec : (l.map (sw k (k + 1))).countP (fun y => decide (y < x)) = l.countP fun y => decide (y < x) := count_le fun y _ => by
          have := sw_keep (k := k) (x := y) (y := x) (fun z => e2 z.2) (fun z => e1 z.2)
          rw [es] at this
          simp [this]
        have es2 : inv ((x :: l).map (sw k (k + 1))) = (l.map (sw k (k + 1))).countP (fun y => decide (y < x)) + inv (l.map (sw k (k + 1))) := by
          show (l.map (sw k (k + 1))).countP (fun y => decide (y < sw k (k + 1) x)) + _ = _
          rw [es]
        rw [es2, ec]
        show (_ → _ = l.countP _ + inv l + 1) ∧ (_ → l.countP _ + inv l = _)
        exact ⟨fun z => by rw [i1 (by omega)]; omega, fun z => by rw [i2 (by omega)]; omega⟩
theorem idx_ne {l : List Nat} {x y : Nat} (hx : x ∈ l) (hy : y ∈ l) (h : x ≠ y) : l.idxOf x ≠ l.idxOf y := fun e => h (by
  have h1 := List.getElem_idxOf (List.idxOf_lt_length_iff.mpr hx)
  have h2 := List.getElem_idxOf (List.idxOf_lt_length_iff.mpr hy)
  rw [← h1, ← h2]
  congr 1)
theorem inv_par1 {l : List Nat} (nd : l.Nodup) {k : Nat} (h1 : k ∈ l) (h2 : k + 1 ∈ l) : inv (l.map (sw k (k + 1))) % 2 = (inv l + 1) % 2 := by
  obtain ⟨i1, i2⟩ := inv_adj nd h1 h2
  have hne := idx_ne h1 h2 (by omega)
  rcases Nat.lt_or_gt_of_ne hne with h | h
  · rw [i1 h]
  · rw [i2 h]; omega
theorem sw_conj {i j : Nat} (h : i < j) (x : Nat) : sw i (j + 1) x = sw j (j + 1) (sw i j (sw j (j + 1) x)) := by
  by_cases e1 : x = i
  · subst e1
    simp [sw]
    repeat (first | omega | split)
  · by_cases e2 : x = j
    · subst e2
      simp [sw]
      repeat (first | omega | split)
    · by_cases e3 : x = j + 1
      · subst e3
        simp [sw]
        repeat (first | omega | split)
      · simp [sw, e1, e2, e3]
/-- any exchange changes the evenness of the falls -/
theorem Turn.inv_par {a : List Nat} (t : Turn a) {i j : Nat} (hij : i < j) (hj : j < a.length) : inv (a.map (sw i j)) % 2 = (inv a + 1) % 2 := by
  obtain ⟨d, rfl⟩ : ∃ d, j = i + 1 + d := ⟨j - (i + 1), by omega⟩
  induction d generalizing a with
  | zero => exact inv_par1 t.nd (t.mem.mpr (by omega)) (t.mem.mpr (by omega))
  | succ d ih =>
    have e : a.map (sw i (i + 1 + (d + 1))) = ((a.map (sw (i + 1 + d) (i + 1 + d + 1))).map (sw i (i + 1 + d))).map (sw (i + 1 + d) (i + 1 + d + 1)) := by
      rw [List.map_map, List.map_map]
      refine List.map_congr_left fun x _ => ?_
      exact sw_conj (i := i) (j := i + 1 + d) (by omega) x
    have l1 : i + 1 + d < a.length := by omega
    have l2 : i + 1 + d + 1 < a.length := by omega
    have t1 := t.ex l1 l2
    have t2 := t1.ex (i := i) (j := i + 1 + d) (by simp; omega) (by simp; omega)
    rw [e, inv_par1 t2.nd (t2.mem.mpr (by simp; omega)) (t2.mem.mpr (by simp; omega))]
    have h1 := ih t1 (by omega) (by simp; omega)
    have h2 := inv_par1 t.nd (t.mem.mpr l1) (t.mem.mpr l2)
    omega
/-! ### rows of exchanges -/
abbrev Row := List (Nat × Nat)
def led (s : List Nat) (row : Row) : List Nat := row.foldl (fun f p => f.map (sw p.1 p.2)) s
theorem led_len : ∀ (row : Row) (s : List Nat), (led s row).length = s.length
  | [], s => rfl
  | p :: row, s => by
    show (led (s.map _) row).length = _
    rw [led_len row, List.length_map]
theorem led_app (s : List Nat) (r q : Row) : led s (r ++ q) = led (led s r) q := by simp [led]
def okRow (n : Nat) (row : Row) : Prop := ∀ p ∈ row, p.1 < p.2 ∧ p.2 < n
theorem led_turn : ∀ {row : Row} {s : List Nat}, Turn s → okRow s.length row → Turn (led s row) ∧ inv (led s row) % 2 = (inv s + row.length) % 2
  | [], s, t, _ => ⟨t, rfl⟩
  | p :: row, s, t, h => by
    obtain ⟨h1, h2⟩ := h p List.mem_cons_self
    have t1 := t.ex (i := p.1) (j := p.2) (by omega) h2
    obtain ⟨t2, e⟩ := led_turn (row := row) t1 (fun q hq => by rw [List.length_map]; exact h q (List.mem_cons_of_mem _ hq))
    refine ⟨t2, ?_⟩
    have := t.inv_par h1 h2
    show inv (led (s.map (sw p.1 p.2)) row) % 2 = _
    rw [e, List.length_cons]
    omega
theorem inv_range (n : Nat) : inv (List.range n) = 0 := by
  have go : ∀ (l : List Nat), l.Pairwise (· < ·) → inv l = 0 := by
    intro l
    induction l with
    | nil => intro _; rfl
    | cons x l ih =>
      intro h
      obtain ⟨h1, h2⟩ := List.pairwise_cons.mp h
      show l.countP _ + inv l = 0
      rw [ih h2, Nat.add_zero, List.countP_eq_zero]
      intro y hy
      have := h1 y hy
      simp; omega
  exact go _ List.pairwise_lt_range
/-- what a row does to a number -/
def leadF (row : Row) (x : Nat) : Nat := row.foldl (fun y p => sw p.1 p.2 y) x
theorem led_map : ∀ (row : Row) (s : List Nat), led s row = s.map (leadF row)
  | [], s => by
    have : leadF [] = id := rfl
    rw [this, List.map_id]
    rfl
  | p :: row, s => by
    show led (s.map _) row = _
    rw [led_map row, List.map_map]
    rfl
theorem leadF_app (r q : Row) (x : Nat) : leadF (r ++ q) x = leadF q (leadF r x) := by simp [leadF]
end PM

/-! text PM3 -/
set_option Elab.async false
set_option linter.all false
/-! Rows of exchanges that lead to a turn. Plain Lean. -/
namespace PM
variable {a : List Nat}
/-! ### fewest exchanges -/
def rowc (c : Nat) (ys : List Nat) : Row := ys.map fun y => (c, y)
theorem leadF_rowc (c : Nat) : ∀ {ys : List Nat}, (c :: ys).Nodup → (∀ (t x : Nat), (c :: ys)[t]? = some x → (ys ++ [c])[t]? = some (leadF (rowc c ys) x)) ∧ ∀ x, x ∉ c :: ys → leadF (rowc c ys) x = x
  | [], _ => ⟨fun t x e => by
      cases t with
      | zero => simp at e; subst e; rfl
      | succ t => simp at e, fun x _ => rfl⟩
  | y :: zs, nd => by
    have nd' : (c :: zs).Nodup := nd.sublist (List.Sublist.cons_cons c (List.sublist_cons_self y zs))
    obtain ⟨i1, i2⟩ := leadF_rowc c nd'
    obtain ⟨n1, n2⟩ := List.nodup_cons.mp nd
    obtain ⟨n3, n4⟩ := List.nodup_cons.mp n2
    have cy : c ≠ y := fun z => n1 (z ▸ List.mem_cons_self)
    have step : ∀ x, leadF (rowc c (y :: zs)) x = leadF (rowc c zs) (sw c y x) := fun x => rfl
    refine ⟨fun t x e => ?_, fun x hx => ?_⟩
    · cases t with
      | zero =>
        simp at e
        subst e
        rw [step, show sw c y c = y by simp [sw], i2 y (fun z => by
          rcases List.mem_cons.mp z with z | z
          · exact cy z.symm
          · exact n3 z)]
        rfl
      | succ t =>
        cases t with
        | zero =>
          simp at e
          subst e
          rw [step, show sw c y y = c by simp [sw, Ne.symm cy]]
          have := i1 0 c rfl
          exact this
        | succ t =>
          have e' : zs[t]? = some x := by simpa using e
          have hx : x ∈ zs := List.mem_of_getElem? e'
          have e1 : x ≠ c := fun z => n1 (z ▸ List.mem_cons_of_mem _ hx)
          have e2 : x ≠ y := fun z => n3 (z ▸ hx)
          rw [step, show sw c y x = x by simp [sw, e1, e2]]
          have := i1 (t + 1) x (by simpa using e')
          exact this
    · have e1 : x ≠ c := fun z => hx (z ▸ List.mem_cons_self)
      have e2 : x ≠ y := fun z => hx (z ▸ List.mem_cons_of_mem _ List.mem_cons_self)
      rw [step, show sw c y x = x by simp [sw, e1, e2]]
      exact i2 x fun z => hx (by
        rcases List.mem_cons.mp z with z | z
        · exact absurd z e1
        · exact List.mem_cons_of_mem _ (List.mem_cons_of_mem _ z))
/-- the exchanges of a cycle -/
def rowOf (c : List Nat) : Row := rowc (c.headD 0) c.tail
def exch (a : List Nat) : Row := (cycs a).flatMap rowOf
theorem Turn.cyc_cons (t : Turn a) {i : Nat} (h : i < a.length) : cyc a i = i :: (cyc a i).tail := by
  have hp := t.per_pos h
  have : (cyc a i)[0]? = some i := cyc_get hp
  cases e : cyc a i with
  | nil => rw [e] at this; simp at this
  | cons x l => rw [e] at this; simp at this; rw [this]; rfl
theorem Turn.lead_cyc (t : Turn a) {i : Nat} (h : i < a.length) (x : Nat) : leadF (rowOf (cyc a i)) x = if x ∈ cyc a i then ap a x else x := by
  have ec := t.cyc_cons h
  have nd := t.cyc_nd h
  have hr : rowOf (cyc a i) = rowc i (cyc a i).tail := by
    unfold rowOf
    have : (cyc a i).headD 0 = i := by rw [ec]; rfl
    rw [this]
  rw [ec] at nd
  obtain ⟨h1, h2⟩ := leadF_rowc i nd
  rw [hr]
  by_cases hx : x ∈ cyc a i
  · rw [if_pos hx]
    obtain ⟨k, hk, rfl⟩ := mem_cyc.mp hx
    have h3 := h1 k (pw a k i) (by rw [← ec]; exact cyc_get hk)
    have hl : (cyc a i).tail.length = per a i - 1 := by rw [List.length_tail, cyc_len]
    by_cases hk2 : k + 1 < per a i
    · rw [List.getElem?_append_left (by omega)] at h3
      have h4 : (cyc a i).tail[k]? = some (pw a (k + 1) i) := by
        have := cyc_get hk2
        rw [ec] at this
        simpa using this
      rw [h4] at h3
      exact (Option.some.inj h3).symm
    · have ek : k = per a i - 1 := by omega
      rw [List.getElem?_append_right (by omega)] at h3
      have e0 : k - (cyc a i).tail.length = 0 := by omega
      rw [e0] at h3
      have h5 : leadF (rowc i (cyc a i).tail) (pw a k i) = i := by simpa using h3.symm
      rw [h5]
      have e6 : ap a (pw a k i) = pw a (k + 1) i := rfl
      rw [e6, show k + 1 = per a i by omega]
      exact ((t.per_spec h).2.2.1).symm
  · rw [if_neg hx]
    exact h2 x (by rw [← ec]; exact hx)
theorem Turn.lead_reps (t : Turn a) : ∀ (L : List Nat), L.Nodup → (∀ i ∈ L, i ∈ reps a) → ∀ x, leadF ((L.map (cyc a)).flatMap rowOf) x = if ∃ i ∈ L, x ∈ cyc a i then ap a x else x
  | [], _, _, x => by
    rw [if_neg (by rintro ⟨i, h, _⟩; cases h)]
    rfl
  | i :: L, nd, hL, x => by
    obtain ⟨n1, n2⟩ := List.nodup_cons.mp nd
    have ih := t.lead_reps L n2 fun j hj => hL j (List.mem_cons_of_mem _ hj)
    have hi := mem_reps.mp (hL i List.mem_cons_self)
    show leadF (rowOf (cyc a i) ++ (L.map (cyc a)).flatMap rowOf) x = _
    rw [leadF_app, t.lead_cyc hi.1]
    by_cases hx : x ∈ cyc a i
    · rw [if_pos hx, if_pos ⟨i, List.mem_cons_self, hx⟩, ih, if_neg]
      rintro ⟨j, hj, hm⟩
      have hj' := mem_reps.mp (hL j (List.mem_cons_of_mem _ hj))
      have : i = j := t.rep_uniq hi.1 hj'.1 hi.2 hj'.2 (t.cyc_ap hi.1 hx) hm
      exact n1 (this ▸ hj)
    · rw [if_neg hx, ih]
      have : (∃ j ∈ L, x ∈ cyc a j) ↔ ∃ j ∈ i :: L, x ∈ cyc a j := by
        constructor
        · rintro ⟨j, hj, hm⟩
          exact ⟨j, List.mem_cons_of_mem _ hj, hm⟩
        · rintro ⟨j, hj, hm⟩
          rcases List.mem_cons.mp hj with rfl | hj
          · exact absurd hm hx
          · exact ⟨j, hj, hm⟩
      simp only [this]
theorem reps_nd (a : List Nat) : (reps a).Nodup := List.nodup_range.sublist List.filter_sublist
theorem map_ap (a : List Nat) : (List.range a.length).map (ap a) = a := by
  apply List.ext_getElem?
  intro i
  by_cases h : i < a.length
  · rw [List.getElem?_map, List.getElem?_range h, ap_get h]; rfl
  · rw [List.getElem?_eq_none (by simp; omega), List.getElem?_eq_none (by omega)]
theorem Turn.led_exch (t : Turn a) : led (List.range a.length) (exch a) = a := by
  rw [led_map]
  have : (List.range a.length).map (leadF (exch a)) = (List.range a.length).map (ap a) := List.map_congr_left fun x hx => by
    have hx' := List.mem_range.mp hx
    show leadF ((cycs a).flatMap rowOf) x = _
    unfold cycs
    rw [t.lead_reps (reps a) (reps_nd a) fun i hi => hi]
    obtain ⟨m, h1, h2, h3, h4, _⟩ := t.rep hx'
    rw [if_pos ⟨m, mem_reps.mpr ⟨h1, h3⟩, h4⟩]
  rw [this, map_ap]
theorem Turn.ok_exch (t : Turn a) : okRow a.length (exch a) := by
  intro p hp
  obtain ⟨c, hc, hp⟩ := List.mem_flatMap.mp hp
  obtain ⟨i, hi, rfl⟩ := List.mem_map.mp hc
  obtain ⟨hi1, hi2⟩ := mem_reps.mp hi
  obtain ⟨y, hy, rfl⟩ := List.mem_map.mp hp
  have ec := t.cyc_cons hi1
  have e1 : (cyc a i).headD 0 = i := by rw [ec]; rfl
  have hy2 : y ∈ cyc a i := by rw [ec]; exact List.mem_cons_of_mem _ hy
  have nd := t.cyc_nd hi1
  rw [ec] at nd
  have hne : y ≠ i := fun z => (List.nodup_cons.mp nd).1 (z ▸ hy)
  have hle := isRep_iff.mp hi2 y hy2
  show (cyc a i).headD 0 < y ∧ y < _
  rw [e1]
  exact ⟨by omega, t.cyc_lt hi1 hy2⟩
theorem Turn.len_exch (t : Turn a) : (exch a).length + (cycs a).length = a.length := by
  have go : ∀ (L : List Nat), (∀ i ∈ L, i < a.length) → ((L.map (cyc a)).flatMap rowOf).length + (L.map (cyc a)).length = ((L.map (cyc a)).map List.length).sum := by
    intro L
    induction L with
    | nil => intro _; rfl
    | cons i L ih =>
      intro h
      have hi := h i List.mem_cons_self
      have := ih fun j hj => h j (List.mem_cons_of_mem _ hj)
      have hp := t.per_pos hi
      have e1 : (rowOf (cyc a i)).length = per a i - 1 := by simp [rowOf, rowc, cyc_len]
      simp only [List.map_cons, List.flatMap_cons, List.length_append, List.length_cons, List.sum_cons, cyc_len] at *
      omega
  have := go (reps a) fun i hi => (mem_reps.mp hi).1
  have h2 := t.flat_len
  unfold exch
  unfold cycs at *
  omega
theorem Turn.even (t : Turn a) : inv a % 2 = (a.length - (cycs a).length) % 2 := by
  have h := (led_turn (turn_range a.length) (by simpa using t.ok_exch)).2
  rw [t.led_exch, inv_range] at h
  have := t.len_exch
  rw [h]
  congr 1
  omega
/-! ### fewest exchanges of neighbours -/
def fb (a : List Nat) : Option Nat := (List.range (a.length - 1)).find? fun k => decide (a.idxOf (k + 1) < a.idxOf k)
def nbF : Nat → List Nat → Row
  | 0, _ => []
  | m + 1, a => match fb a with
    | none => []
    | some k => (k, k + 1) :: nbF m (a.map (sw k (k + 1)))
theorem Turn.fb_some (t : Turn a) {k : Nat} (e : fb a = some k) : k + 1 < a.length ∧ inv a = inv (a.map (sw k (k + 1))) + 1 := by
  obtain ⟨h1, h2, _⟩ := List.find?_range_eq_some.mp e
  have hk : k + 1 < a.length := by have := List.mem_range.mp h2; omega
  exact ⟨hk, (inv_adj t.nd (t.mem.mpr (by omega)) (t.mem.mpr hk)).2 (of_decide_eq_true h1)⟩
theorem Turn.fb_none (t : Turn a) (e : fb a = none) : a = List.range a.length := by
  have h0 : ∀ k, k + 1 < a.length → a.idxOf k < a.idxOf (k + 1) := fun k hk => by
    have := List.find?_eq_none.mp e k (List.mem_range.mpr (by omega))
    have hne := idx_ne (t.mem.mpr (show k < a.length by omega)) (t.mem.mpr hk) (by omega)
    simp at this
    omega
  have lo : ∀ k, k < a.length → k ≤ a.idxOf k := fun k => by
    induction k with
    | zero => intro _; omega
    | succ k ih => intro hk; have := h0 k hk; have := ih (by omega); omega
  have hi : ∀ d k, k + d + 1 = a.length → a.idxOf k ≤ k := fun d => by
    induction d with
    | zero =>
      intro k hk
      have := List.idxOf_lt_length_iff.mpr (t.mem.mpr (show k < a.length by omega))
      omega
    | succ d ih =>
      intro k hk
      have h1 := ih (k + 1) (by omega)
      have h2 := h0 k (by omega)
      omega
  have eq : ∀ k, k < a.length → a.idxOf k = k := fun k hk => Nat.le_antisymm (hi (a.length - 1 - k) k (by omega)) (lo k hk)
  apply List.ext_getElem?
  intro i
  by_cases h : i < a.length
  · rw [List.getElem?_range h]
    have h2 := List.getElem_idxOf (List.idxOf_lt_length_iff.mpr (t.mem.mpr h))
    have h3 : a[a.idxOf i]? = some i := by rw [List.getElem?_eq_getElem (List.idxOf_lt_length_iff.mpr (t.mem.mpr h)), h2]
    rw [eq i h] at h3
    exact h3
  · rw [List.getElem?_eq_none (by omega), List.getElem?_eq_none (by simp; omega)]
theorem Turn.nb (m : Nat) : ∀ {a : List Nat}, Turn a → inv a = m → led (List.range a.length) (nbF m a).reverse = a ∧ (nbF m a).length = m ∧ ∀ p ∈ nbF m a, p.2 = p.1 + 1 ∧ p.2 < a.length := by
  induction m with
  | zero =>
    intro a t e
    have : fb a = none := by
      cases h : fb a with
      | none => rfl
      | some k => have := (t.fb_some h).2; omega
    exact ⟨(t.fb_none this).symm, rfl, fun p hp => by cases hp⟩
  | succ m ih =>
    intro a t e
    cases h : fb a with
    | none =>
      have := t.fb_none h
      rw [this, inv_range] at e
      omega
    | some k =>
      obtain ⟨h1, h2⟩ := t.fb_some h
      have t' := t.ex (i := k) (j := k + 1) (by omega) h1
      obtain ⟨i1, i2, i3⟩ := ih t' (by omega)
      have e2 : nbF (m + 1) a = (k, k + 1) :: nbF m (a.map (sw k (k + 1))) := by
        show (match fb a with | none => [] | some k => _) = _
        rw [h]
      rw [e2]
      rw [List.length_map] at i1 i3
      refine ⟨?_, by rw [List.length_cons, i2], fun p hp => ?_⟩
      · rw [List.reverse_cons, led_app, i1]
        show (a.map (sw k (k + 1))).map (sw k (k + 1)) = a
        exact sw_map _ _ a
      · rcases List.mem_cons.mp hp with rfl | hp
        · exact ⟨rfl, h1⟩
        · exact i3 p hp
/-! ### falls by places -/
def fal (a : List Nat) : Nat := ((List.range a.length).map fun i => (List.range (a.length - (i + 1))).countP fun d => decide (ap a (i + 1 + d) < ap a i)).sum
theorem count_ap (p : Nat → Bool) : ∀ l : List Nat, (List.range l.length).countP (fun d => p (ap l d)) = l.countP p := fun l => by
  have h := map_ap l
  have e : ((List.range l.length).map (ap l)).countP p = l.countP p := by rw [h]
  rw [List.countP_map] at e
  exact e
theorem fal_inv : ∀ a : List Nat, fal a = inv a
  | [] => rfl
  | x :: l => by
    have e1 : fal (x :: l) = (List.range (l.length + 1 - (0 + 1))).countP (fun d => decide (ap (x :: l) (0 + 1 + d) < ap (x :: l) 0)) + fal l := by
      unfold fal
      rw [List.length_cons, List.range_succ_eq_map, List.map_cons, List.sum_cons, List.map_map]
      congr 2
      refine List.map_congr_left fun i hi => ?_
      show (List.range (l.length + 1 - (i + 1 + 1))).countP (fun d => decide (ap (x :: l) (i + 1 + 1 + d) < ap (x :: l) (i + 1))) = _
      rw [show l.length + 1 - (i + 1 + 1) = l.length - (i + 1) by omega]
      refine List.countP_congr fun d _ => ?_
      rw [show i + 1 + 1 + d = (i + 1 + d) + 1 by omega]
      rfl
    rw [e1, fal_inv l]
    show _ = l.countP (fun y => decide (y < x)) + inv l
    congr 1
    rw [← count_ap (fun y => decide (y < x)) l]
    rw [show l.length + 1 - (0 + 1) = l.length by omega]
    refine List.countP_congr fun d _ => ?_
    rw [show 0 + 1 + d = d + 1 by omega]
    rfl
theorem inv_snoc (x : Nat) : ∀ l : List Nat, inv (l ++ [x]) = inv l + l.countP fun y => decide (x < y)
  | [] => rfl
  | y :: l => by
    show (l ++ [x]).countP (fun z => decide (z < y)) + inv (l ++ [x]) = l.countP _ + inv l + (y :: l).countP _
    rw [inv_snoc x l, List.countP_append, List.countP_cons, List.countP_cons, List.countP_nil]
    omega
def felTo (a : List Nat) (m : Nat) : Nat := ((List.range m).map fun j => (List.range j).countP fun i => decide (ap a j < ap a i)).sum
theorem felTo_inv (a : List Nat) : ∀ m, m ≤ a.length → felTo a m = inv (a.take m)
  | 0, _ => rfl
  | m + 1, h => by
    have e1 : felTo a (m + 1) = felTo a m + (List.range m).countP fun i => decide (ap a m < ap a i) := by
      unfold felTo
      rw [List.range_succ, List.map_append, List.sum_append]
      simp
    have e2 : a.take (m + 1) = a.take m ++ [ap a m] := by
      rw [List.take_succ, ap_get (by omega)]
      rfl
    rw [e1, felTo_inv a m (by omega), e2, inv_snoc]
    congr 1
    rw [← count_ap (fun y => decide (ap a m < y)) (a.take m), List.length_take, Nat.min_eq_left (by omega)]
    refine List.countP_congr fun i hi => ?_
    have hi' := List.mem_range.mp hi
    have : ap (a.take m) i = ap a i := by simp [ap, List.getD, hi']
    rw [this]
end PM

/-! text PM4 -/
set_option Elab.async false
set_option linter.all false
/-! The greatest divisor of m made of what divides l. Plain Lean. -/
namespace PM
structure Bun (l m d : Nat) : Prop where
  dvd : d ∣ m
  cop : Nat.Coprime (m / d) l
  pow : ∃ k, d ∣ l ^ k
theorem Bun.pos {l m d : Nat} (h : Bun l m d) (hm : 0 < m) : 0 < d := Nat.pos_of_dvd_of_pos h.dvd hm
theorem Bun.dvd_of {l m d e : Nat} (h : Bun l m d) (g : Bun l m e) : d ∣ e := by
  obtain ⟨k, hk⟩ := h.pow
  have c : Nat.Coprime (m / e) (l ^ k) := g.cop.pow_right k
  have c2 : Nat.Coprime d (m / e) := (Nat.Coprime.coprime_dvd_left hk c.symm)
  have e2 : m = e * (m / e) := (Nat.mul_div_cancel' g.dvd).symm
  have h3 : d ∣ e * (m / e) := e2 ▸ h.dvd
  exact c2.dvd_of_dvd_mul_right h3
theorem Bun.uniq {l m d e : Nat} (h : Bun l m d) (g : Bun l m e) : d = e := Nat.dvd_antisymm (h.dvd_of g) (g.dvd_of h)
/-- the program's way: what is left -/
def restF (l : Nat) : Nat → Nat → Nat
  | 0, r => r
  | f + 1, r => if 1 < Nat.gcd r l then restF l f (r / Nat.gcd r l) else r
theorem restF_spec {l m : Nat} (hm : 0 < m) : ∀ (f r : Nat), r ∣ m → r ≤ f → (∃ k, m / r ∣ l ^ k) → 0 < r → restF l f r ∣ m ∧ Nat.Coprime (restF l f r) l ∧ ∃ k, m / restF l f r ∣ l ^ k
  | 0, r, _, h, _, h0 => by omega
  | f + 1, r, hd, hf, hk, h0 => by
    unfold restF
    by_cases hg : 1 < Nat.gcd r l
    · rw [if_pos hg]
      have g1 := Nat.gcd_dvd_left r l
      have g2 := Nat.gcd_dvd_right r l
      have hlt : r / Nat.gcd r l < r := Nat.div_lt_self h0 hg
      have hpos : 0 < r / Nat.gcd r l := Nat.div_pos (Nat.le_of_dvd h0 g1) (by omega)
      have hr : r = (r / Nat.gcd r l) * Nat.gcd r l := (Nat.div_mul_cancel g1).symm
      obtain ⟨k, hk⟩ := hk
      refine restF_spec hm f _ (Nat.dvd_trans ⟨Nat.gcd r l, hr⟩ hd) (by omega) ⟨k + 1, ?_⟩ hpos
      obtain ⟨c, hc⟩ := hd
      have e1 : m / r = c := by rw [hc]; exact Nat.mul_div_cancel_left c h0
      have e2 : m / (r / Nat.gcd r l) = Nat.gcd r l * c := by
        have : m = (r / Nat.gcd r l) * (Nat.gcd r l * c) := by rw [← Nat.mul_assoc, ← hr]; exact hc
        rw [this]
        exact Nat.mul_div_cancel_left _ hpos
      rw [e2, Nat.pow_succ, Nat.mul_comm]
      rw [e1] at hk
      exact Nat.mul_dvd_mul hk g2
    · rw [if_neg hg]
      refine ⟨hd, ?_, hk⟩
      have : 0 < Nat.gcd r l := Nat.gcd_pos_of_pos_left _ h0
      show Nat.gcd r l = 1
      omega
def bunP (l m : Nat) : Nat := m / restF l m m
theorem bunP_spec {l m : Nat} (hm : 0 < m) : Bun l m (bunP l m) := by
  obtain ⟨h1, h2, k, h3⟩ := restF_spec (l := l) hm m m (Nat.dvd_refl m) (Nat.le_refl m) ⟨0, by rw [Nat.div_self hm]; exact Nat.dvd_refl 1⟩ hm
  have hp : 0 < restF l m m := Nat.pos_of_dvd_of_pos h1 hm
  refine ⟨⟨restF l m m, (Nat.div_mul_cancel h1).symm⟩, ?_, k, h3⟩
  have : m / bunP l m = restF l m m := Nat.div_div_self h1 (by omega)
  rw [this]
  exact h2
theorem pow_dvd {a b : Nat} (h : a ∣ b) : ∀ k, a ^ k ∣ b ^ k
  | 0 => Nat.dvd_refl 1
  | k + 1 => by
    rw [Nat.pow_succ, Nat.pow_succ]
    exact Nat.mul_dvd_mul (pow_dvd h k) h
/-- the law's way: found of the numbers below p that divide l, rest of l without them -/
structure BI (l m found rest p : Nat) : Prop where
  p2 : 2 ≤ p
  r0 : 0 < rest
  least : ∀ d, d ∣ rest → 1 < d → p ≤ d
  fm : found ∣ m
  fl : ∃ k, found ∣ l ^ k
  fr : Nat.Coprime found rest
  rl : rest ∣ l
  rest_ : ∃ c, l ∣ rest * c ∧ Nat.Coprime (m / found) c
theorem BI.start {l m : Nat} (hl : 0 < l) : BI l m 1 l 2 := ⟨Nat.le_refl _, hl, fun d _ h => h, Nat.one_dvd _, ⟨0, Nat.dvd_refl 1⟩, Nat.coprime_one_left l, Nat.dvd_refl l, ⟨1, by rw [Nat.mul_one]; exact Nat.dvd_refl l, Nat.coprime_one_right _⟩⟩
theorem BI.done {l m found p : Nat} (h : BI l m found 1 p) : Bun l m found := by
  obtain ⟨c, h1, h2⟩ := h.rest_
  rw [Nat.one_mul] at h1
  exact ⟨h.fm, Nat.Coprime.coprime_dvd_right h1 h2, h.fl⟩
/-- p divides nothing of rest -/
theorem BI.skip {l m found rest p : Nat} (h : BI l m found rest p) (hp : ¬ p ∣ rest) : BI l m found rest (p + 1) :=
  ⟨by have := h.p2; omega, h.r0, fun d hd h1 => by
    have := h.least d hd h1
    have : d ≠ p := fun z => hp (z ▸ hd)
    omega, h.fm, h.fl, h.fr, h.rl, h.rest_⟩
theorem BI.cop {l m found rest p x : Nat} (h : BI l m found rest p) (hp : p ∣ rest) (hx : ¬ p ∣ x) : Nat.Coprime x p := by
  show Nat.gcd x p = 1
  have g1 := Nat.gcd_dvd_left x p
  have g2 := Nat.gcd_dvd_right x p
  have p2 := h.p2
  have h0 : 0 < Nat.gcd x p := Nat.gcd_pos_of_pos_right _ (by omega)
  apply Classical.byContradiction
  intro hn
  have := h.least _ (Nat.dvd_trans g2 hp) (by omega)
  have h3 : Nat.gcd x p ≤ p := Nat.le_of_dvd (by omega) g2
  have h4 : Nat.gcd x p = p := by omega
  exact hx (h4 ▸ g1)
theorem BI.take {l m found rest p v late w rest' : Nat} (h : BI l m found rest p) (hp : p ∣ rest) (hm : m = late * p ^ v) (hl : ¬ p ∣ late) (hr : rest = rest' * p ^ w) (hr' : ¬ p ∣ rest') (hm0 : 0 < m) : BI l m (found * p ^ v) rest' (p + 1) := by
  have p2 := h.p2
  have cl := h.cop hp hl
  have cr := h.cop hp hr'
  have fp : Nat.Coprime found p := Nat.Coprime.coprime_dvd_right hp h.fr
  have hf : found ∣ late := (fp.pow_right v).dvd_of_dvd_mul_right (hm ▸ h.fm)
  obtain ⟨c, hc⟩ := hf
  have hfp : 0 < found := Nat.pos_of_dvd_of_pos h.fm hm0
  have hpv : 0 < p ^ v := Nat.pow_pos (by omega)
  have e1 : m / (found * p ^ v) = c := by
    rw [hm, hc, show found * c * p ^ v = (found * p ^ v) * c by rw [Nat.mul_assoc, Nat.mul_comm c, ← Nat.mul_assoc]]
    exact Nat.mul_div_cancel_left c (Nat.mul_pos hfp hpv)
  have e2 : m / found = c * p ^ v := by
    rw [hm, hc, Nat.mul_assoc]
    exact Nat.mul_div_cancel_left _ hfp
  have rd : rest' ∣ rest := ⟨p ^ w, hr⟩
  refine ⟨by omega, Nat.pos_of_dvd_of_pos rd h.r0, fun d hd h1 => ?_, ?_, ?_, ?_, Nat.dvd_trans rd h.rl, ?_⟩
  · have h2 := h.least d (Nat.dvd_trans hd rd) h1
    have : d ≠ p := fun z => hr' (z ▸ hd)
    omega
  · rw [hm, hc, Nat.mul_assoc, Nat.mul_comm c, ← Nat.mul_assoc]
    exact Nat.dvd_mul_right _ _
  · obtain ⟨k, hk⟩ := h.fl
    refine ⟨k + v, ?_⟩
    rw [Nat.pow_add]
    exact Nat.mul_dvd_mul hk (pow_dvd (Nat.dvd_trans hp h.rl) v)
  · exact Nat.Coprime.mul_left (Nat.Coprime.coprime_dvd_right rd h.fr) (cr.symm.pow_left v)
  · obtain ⟨c', h1, h2⟩ := h.rest_
    refine ⟨c' * p ^ w, ?_, ?_⟩
    · rw [hr, Nat.mul_assoc, Nat.mul_comm (p ^ w)] at h1
      exact h1
    · rw [e1]
      rw [e2] at h2
      have h3 : Nat.Coprime c c' := Nat.Coprime.coprime_dvd_left (Nat.dvd_mul_right c (p ^ v)) h2
      have h4 : Nat.Coprime c p := Nat.Coprime.coprime_dvd_left ⟨found, by rw [hc, Nat.mul_comm]⟩ cl
      exact Nat.Coprime.mul_right h3 (h4.pow_right w)
end PM

/-! text PM5 -/
set_option Elab.async false
set_option linter.all false
/-! A turn by its cycles. Plain Lean. -/
namespace PM
/-- a cycle told into a list, its first m numbers -/
def setTo (c : List Nat) : Nat → List Nat → List Nat
  | 0, s => s
  | m + 1, s => (setTo c m s).set (c.getD m 0) (c.getD ((m + 1) % c.length) 0)
theorem setTo_len (c s : List Nat) : ∀ m, (setTo c m s).length = s.length
  | 0 => rfl
  | m + 1 => by rw [setTo, List.length_set, setTo_len c s m]
theorem setTo_out {c s : List Nat} {x : Nat} : ∀ m, (∀ k, k < m → c.getD k 0 ≠ x) → (setTo c m s)[x]? = s[x]?
  | 0, _ => rfl
  | m + 1, h => by
    rw [setTo, List.getElem?_set_ne (h m (Nat.lt_succ_self m))]
    exact setTo_out m fun k hk => h k (Nat.lt_succ_of_lt hk)
theorem setTo_in {c s : List Nat} {k : Nat} (nd : c.Nodup) (hk : k < c.length) (hx : c.getD k 0 < s.length) : ∀ m, m ≤ c.length → k < m → (setTo c m s)[c.getD k 0]? = some (c.getD ((k + 1) % c.length) 0)
  | 0, _, h => absurd h (Nat.not_lt_zero _)
  | m + 1, hm, h => by
    rw [setTo]
    by_cases e : k = m
    · subst e
      rw [List.getElem?_set_self (by rw [setTo_len]; exact hx)]
    · have hne : c.getD m 0 ≠ c.getD k 0 := fun z => by
        have hm' : m < c.length := by omega
        rw [List.getD, List.getD, List.getElem?_eq_getElem hm', List.getElem?_eq_getElem hk] at z
        have := (List.getElem_inj nd).mp (show c[m] = c[k] from z)
        omega
      rw [List.getElem?_set_ne hne]
      exact setTo_in nd hk hx m (by omega) (by omega)
def ofC (n : Nat) (rows : List (List Nat)) : List Nat := rows.foldl (fun s c => setTo c c.length s) (List.range n)
theorem fold_len : ∀ (rows : List (List Nat)) (s : List Nat), (rows.foldl (fun s c => setTo c c.length s) s).length = s.length
  | [], _ => rfl
  | c :: rows, s => by rw [List.foldl_cons, fold_len rows, setTo_len]
theorem getD_mem {c : List Nat} {k : Nat} (h : k < c.length) : c.getD k 0 ∈ c := by
  rw [List.getD, List.getElem?_eq_getElem h]
  exact List.getElem_mem h
theorem fold_out {x : Nat} : ∀ (rows : List (List Nat)) (s : List Nat), (∀ c ∈ rows, x ∉ c) → (rows.foldl (fun s c => setTo c c.length s) s)[x]? = s[x]?
  | [], _, _ => rfl
  | c :: rows, s, h => by
    rw [List.foldl_cons, fold_out rows _ fun d hd => h d (List.mem_cons_of_mem _ hd)]
    exact setTo_out _ fun k hk e => h c List.mem_cons_self (e ▸ getD_mem hk)
theorem fold_in {c : List Nat} {k : Nat} : ∀ (rows : List (List Nat)) (s : List Nat), rows.flatten.Nodup → c ∈ rows → k < c.length → c.getD k 0 < s.length → (rows.foldl (fun s c => setTo c c.length s) s)[c.getD k 0]? = some (c.getD ((k + 1) % c.length) 0)
  | [], _, _, h, _, _ => by cases h
  | d :: rows, s, nd, hc, hk, hx => by
    have nd' : (d ++ rows.flatten).Nodup := nd
    obtain ⟨n1, n2, n3⟩ := List.nodup_append.mp nd'
    rw [List.foldl_cons]
    rcases List.mem_cons.mp hc with rfl | hc
    · rw [fold_out rows _ fun e he hm => n3 _ (getD_mem hk) _ (List.mem_flatten.mpr ⟨e, he, hm⟩) rfl]
      exact setTo_in n1 hk hx _ (Nat.le_refl _) hk
    · exact fold_in rows _ n2 hc hk (by rw [setTo_len]; exact hx)
/-- the turn of its cycles, those of one number left out or not -/
theorem Turn.of_cycs {a : List Nat} (t : Turn a) (p : List Nat → Bool) (hp : ∀ c ∈ cycs a, p c = false → c.length = 1) : ofC a.length ((cycs a).filter p) = a := by
  have sub : ((cycs a).filter p).flatten.Nodup := by
    have h := t.flat_nd
    obtain ⟨h1, h2⟩ := List.pairwise_flatten.mp h
    exact List.pairwise_flatten.mpr ⟨fun l hl => h1 l (List.mem_filter.mp hl).1, h2.sublist List.filter_sublist⟩
  apply List.ext_getElem?
  intro x
  by_cases hx : x < a.length
  · rw [ap_get hx]
    obtain ⟨m, h1, h2, h3, h4, _⟩ := t.rep hx
    have hm : cyc a m ∈ cycs a := List.mem_map.mpr ⟨m, mem_reps.mpr ⟨h1, h3⟩, rfl⟩
    obtain ⟨k, hk, e⟩ := mem_cyc.mp h4
    have hget : (cyc a m).getD k 0 = x := by rw [List.getD, cyc_get hk, e]; rfl
    cases hpc : p (cyc a m) with
    | true =>
      have := fold_in (c := cyc a m) (k := k) ((cycs a).filter p) (List.range a.length) sub (List.mem_filter.mpr ⟨hm, hpc⟩) (by rw [cyc_len]; exact hk) (by rw [hget, List.length_range]; exact hx)
      rw [hget] at this
      show ((cycs a).filter p |>.foldl _ _)[x]? = _
      rw [this, cyc_len]
      congr 1
      have hp0 := t.per_pos h1
      have hmod : (k + 1) % per a m < per a m := Nat.mod_lt _ hp0
      rw [List.getD, cyc_get hmod]
      show pw a ((k + 1) % per a m) m = ap a x
      rw [← t.pw_mod h1, ← e]
      rfl
    | false =>
      have h5 := hp _ hm hpc
      rw [cyc_len] at h5
      show ((cycs a).filter p |>.foldl _ _)[x]? = _
      rw [fold_out]
      · rw [List.getElem?_range hx]
        congr 1
        have e1 : pw a 1 x = x := by
          have := t.per_pw h1 k
          rw [e, h5] at this
          have h6 := (t.per_spec hx).2.2.1
          rw [this] at h6
          exact h6
        exact e1.symm
      · intro c hc hxc
        obtain ⟨hc1, hc2⟩ := List.mem_filter.mp hc
        obtain ⟨j, hj, rfl⟩ := List.mem_map.mp hc1
        have := t.rep_uniq h1 (mem_reps.mp hj).1 h3 (mem_reps.mp hj).2 h4 hxc
        subst this
        rw [hpc] at hc2
        cases hc2
  · rw [List.getElem?_eq_none (by unfold ofC; rw [fold_len, List.length_range]; omega), List.getElem?_eq_none (by omega)]
end PM

/-! text PM6 -/
set_option Elab.async false
set_option linter.all false
/-! Cycles bound together. Plain Lean. -/
namespace PM
theorem bound_inj {L m b j t j' t' : Nat} (h : Bun L m b) (hb : 0 < b) (hj : j < b) (hj' : j' < b) (ht : t < L) (ht' : t' < L) (e : (j + t * m) % (L * b) = (j' + t' * m) % (L * b)) : j = j' ∧ t = t' := by
  obtain ⟨q, hq⟩ := h.dvd
  have hq' : m / b = q := by rw [hq]; exact Nat.mul_div_cancel_left q hb
  have cq : Nat.Coprime q L := hq' ▸ h.cop
  have e1 : j % b = j' % b := by
    have h1 : (j + t * m) % (L * b) % b = (j' + t' * m) % (L * b) % b := by rw [e]
    rw [Nat.mod_mul_left_mod, Nat.mod_mul_left_mod, hq, ← Nat.mul_assoc, ← Nat.mul_assoc, Nat.mul_comm t b, Nat.mul_comm t' b, Nat.mul_assoc, Nat.mul_assoc, Nat.add_mul_mod_self_left, Nat.add_mul_mod_self_left] at h1
    exact h1
  rw [Nat.mod_eq_of_lt hj, Nat.mod_eq_of_lt hj'] at e1
  subst e1
  refine ⟨rfl, ?_⟩
  have key : ∀ {u v : Nat}, u ≤ v → v < L → (j + u * m) % (L * b) = (j + v * m) % (L * b) → u = v := by
    intro u v huv hv e
    have h1 : L * b ∣ (v - u) * m := by
      have h2 : j + v * m = (j + u * m) + (v - u) * m := by
        rw [Nat.sub_mul]
        have := Nat.mul_le_mul_right m huv
        omega
      rw [h2] at e
      have h3 : ((j + u * m) + (v - u) * m - (j + u * m)) % (L * b) = 0 := Nat.sub_mod_eq_zero_of_mod_eq e.symm
      rw [Nat.add_sub_cancel_left] at h3
      exact Nat.dvd_of_mod_eq_zero h3
    have h2 : b * L ∣ b * ((v - u) * q) := by
      rw [Nat.mul_comm b L]
      have : (v - u) * m = b * ((v - u) * q) := by rw [hq, ← Nat.mul_assoc, Nat.mul_comm (v - u) b, Nat.mul_assoc]
      rw [← this]
      exact h1
    have h3 : L ∣ (v - u) * q := Nat.dvd_of_mul_dvd_mul_left hb h2
    have h4 : L ∣ v - u := cq.symm.dvd_of_dvd_mul_right h3
    apply Classical.byContradiction
    intro hne
    have := Nat.le_of_dvd (by omega) h4
    omega
  rcases Nat.le_total t t' with hle | hle
  · exact key hle ht' e
  · exact (key hle ht e.symm).symm
end PM

/-! text PM7 -/
set_option Elab.async false
set_option linter.all false
/-! Powers of a turn of cycles. Plain Lean. -/
namespace PM
theorem pw_place {n : Nat} {rows : List (List Nat)} {c : List Nat} (nd : rows.flatten.Nodup) (hc : c ∈ rows) (hn : ∀ x ∈ c, x < n) {k : Nat} (hk : k < c.length) : ∀ s, pw (ofC n rows) s (c.getD k 0) = c.getD ((k + s) % c.length) 0
  | 0 => by rw [Nat.add_zero, Nat.mod_eq_of_lt hk]; rfl
  | s + 1 => by
    have hl : 0 < c.length := by omega
    have hk' : (k + s) % c.length < c.length := Nat.mod_lt _ hl
    show ap (ofC n rows) (pw (ofC n rows) s (c.getD k 0)) = _
    rw [pw_place nd hc hn hk s]
    have h := fold_in (c := c) (k := (k + s) % c.length) rows (List.range n) nd hc hk' (by rw [List.length_range]; exact hn _ (getD_mem hk'))
    have e : ap (ofC n rows) (c.getD ((k + s) % c.length) 0) = c.getD (((k + s) % c.length + 1) % c.length) 0 := by
      unfold ap
      rw [List.getD]
      show ((rows.foldl (fun s c => setTo c c.length s) (List.range n))[c.getD ((k + s) % c.length) 0]?).getD 0 = _
      rw [h]
      rfl
    rw [e, Nat.mod_add_mod, Nat.add_assoc]
end PM

/-! text PM8 -/
set_option Elab.async false
set_option linter.all false
/-! Roots of turns: cycles of one length bound together. Plain Lean. -/
namespace PM
theorem perm_of_sub {α : Type} [DecidableEq α] : ∀ {s l : List α}, s.Nodup → (∀ x ∈ s, x ∈ l) → l.length ≤ s.length → s.Perm l
  | [], l, _, _, h => by
    have : l = [] := List.length_eq_zero_iff.mp (by simpa using h)
    subst this
    exact .refl _
  | x :: s, l, nd, hs, h => by
    obtain ⟨h1, h2⟩ := List.nodup_cons.mp nd
    have hx := hs x List.mem_cons_self
    have hp := List.perm_cons_erase hx
    have hl := hp.length_eq
    have ih := perm_of_sub (s := s) (l := l.erase x) h2 (fun y hy => (List.mem_erase_of_ne (fun e => by subst e; exact h1 hy)).mpr (hs y (List.mem_cons_of_mem _ hy))) (by
      rw [List.length_cons] at hl h
      omega)
    exact (ih.cons x).trans hp.symm
/-! parts of a list, each of b items -/
def chunks {α : Type} (b : Nat) (l : List α) : List (List α) := (List.range (l.length / b)).map fun i => (l.drop (i * b)).take b
theorem chunks_to {α : Type} (b : Nat) (l : List α) : ∀ k, ((List.range k).map fun i => (l.drop (i * b)).take b).flatten = l.take (k * b)
  | 0 => by simp
  | k + 1 => by
    rw [List.range_succ, List.map_append, List.flatten_append, chunks_to b l k, Nat.add_mul, Nat.one_mul, List.take_add]
    simp
theorem chunks_flat {α : Type} {b : Nat} {l : List α} (h : b ∣ l.length) : (chunks b l).flatten = l := by
  unfold chunks
  rw [chunks_to, Nat.div_mul_cancel h, List.take_length]
theorem chunks_len {α : Type} {b : Nat} {l : List α} (h : b ∣ l.length) {c : List α} (hc : c ∈ chunks b l) : c.length = b := by
  obtain ⟨i, hi, rfl⟩ := List.mem_map.mp hc
  rw [List.length_take, List.length_drop]
  have h1 : i + 1 ≤ l.length / b := List.mem_range.mp hi
  have h2 := Nat.mul_le_mul_right b h1
  rw [Nat.div_mul_cancel h, Nat.add_mul, Nat.one_mul] at h2
  omega
/-! the bound cycle -/
def bd1 (N m j : Nat) (c : List Nat) : Nat → List Nat → List Nat
  | 0, s => s
  | t + 1, s => (bd1 N m j c t s).set ((j + t * m) % N) (c.getD t 0)
def bdA (N m : Nat) (S : List (List Nat)) : Nat → List Nat → List Nat
  | 0, s => s
  | j + 1, s => bd1 N m j (S.getD j []) (S.getD j []).length (bdA N m S j s)
def bdN (S : List (List Nat)) : Nat := (S.getD 0 []).length * S.length
def bd (m : Nat) (S : List (List Nat)) : List Nat := bdA (bdN S) m S S.length (List.replicate (bdN S) 0)
theorem bd1_len (N m j : Nat) (c s : List Nat) : ∀ t, (bd1 N m j c t s).length = s.length
  | 0 => rfl
  | t + 1 => by
    show ((bd1 N m j c t s).set _ _).length = _
    rw [List.length_set, bd1_len N m j c s t]
theorem bdA_len (N m : Nat) (S : List (List Nat)) (s : List Nat) : ∀ j, (bdA N m S j s).length = s.length
  | 0 => rfl
  | j + 1 => by
    show (bd1 N m j _ _ (bdA N m S j s)).length = _
    rw [bd1_len, bdA_len N m S s j]
theorem bd_len (m : Nat) (S : List (List Nat)) : (bd m S).length = bdN S := by
  unfold bd
  rw [bdA_len, List.length_replicate]
theorem bd1_out {N m j : Nat} {c s : List Nat} {p : Nat} : ∀ t, (∀ k, k < t → (j + k * m) % N ≠ p) → (bd1 N m j c t s)[p]? = s[p]?
  | 0, _ => rfl
  | t + 1, h => by
    show ((bd1 N m j c t s).set ((j + t * m) % N) _)[p]? = _
    rw [List.getElem?_set_ne (h t (Nat.lt_succ_self t)), bd1_out t fun k hk => h k (Nat.lt_succ_of_lt hk)]
theorem bd1_in {N m j : Nat} {c s : List Nat} {k : Nat} (hs : (j + k * m) % N < s.length) : ∀ t, k < t → (∀ i, k < i → i < t → (j + i * m) % N ≠ (j + k * m) % N) → (bd1 N m j c t s)[(j + k * m) % N]? = some (c.getD k 0)
  | 0, h, _ => absurd h (Nat.not_lt_zero _)
  | t + 1, h, hn => by
    show ((bd1 N m j c t s).set ((j + t * m) % N) (c.getD t 0))[(j + k * m) % N]? = _
    by_cases e : k = t
    · subst e
      rw [List.getElem?_set_self (by rw [bd1_len]; exact hs)]
    · have hk : k < t := by omega
      rw [List.getElem?_set_ne (hn t hk (Nat.lt_succ_self t)), bd1_in hs t hk fun i h1 h2 => hn i h1 (Nat.lt_succ_of_lt h2)]
/-- cycles of one length, as many as their bunch -/
structure Bs (L m : Nat) (S : List (List Nat)) : Prop where
  bun : Bun L m S.length
  pos : 0 < S.length
  lpos : 0 < L
  len : ∀ c ∈ S, c.length = L
section
variable {L m : Nat} {S : List (List Nat)} (h : Bs L m S)
include h
theorem Bs.N : bdN S = L * S.length := by
  unfold bdN
  have h1 : S[0]? = some (S.getD 0 []) := by
    rw [List.getD, List.getElem?_eq_getElem h.pos]
    rfl
  rw [h.len _ (List.mem_of_getElem? h1)]
theorem Bs.at_ {j : Nat} (hj : j < S.length) : S.getD j [] ∈ S := by
  have h1 : S[j]? = some (S.getD j []) := by
    rw [List.getD, List.getElem?_eq_getElem hj]
    rfl
  exact List.mem_of_getElem? h1
theorem Bs.npos : 0 < L * S.length := Nat.mul_pos h.lpos h.pos
theorem Bs.in_ {j t : Nat} (ht : t < L) (s : List Nat) (hs : s.length = L * S.length) : ∀ k, j < k → k ≤ S.length → (bdA (L * S.length) m S k s)[(j + t * m) % (L * S.length)]? = some ((S.getD j []).getD t 0)
  | 0, hk, _ => absurd hk (Nat.not_lt_zero _)
  | k + 1, hk, hl => by
    have hp : (j + t * m) % (L * S.length) < L * S.length := Nat.mod_lt _ h.npos
    have hk' : k < S.length := by omega
    have e1 : (S.getD k []).length = L := h.len _ (h.at_ hk')
    show (bd1 (L * S.length) m k (S.getD k []) (S.getD k []).length (bdA (L * S.length) m S k s))[_]? = _
    rw [e1]
    by_cases e : j = k
    · subst e
      refine bd1_in (by rw [bdA_len, hs]; exact hp) L ht fun i h1 h2 e => ?_
      have := (bound_inj h.bun h.pos hk' hk' h2 ht e).2
      omega
    · rw [bd1_out L fun i hi e2 => e (bound_inj h.bun h.pos hk' (by omega) hi ht e2).1.symm, Bs.in_ ht s hs k (by omega) (by omega)]
/-- the t-th number of the j-th cycle stands at its place -/
theorem Bs.get {j t : Nat} (hj : j < S.length) (ht : t < L) : (bd m S).getD ((j + t * m) % (L * S.length)) 0 = (S.getD j []).getD t 0 := by
  have := h.in_ ht (List.replicate (bdN S) 0) (by rw [List.length_replicate, h.N]) S.length hj (Nat.le_refl _)
  unfold bd
  rw [h.N] at this ⊢
  rw [List.getD, this]
  rfl
theorem Bs.flat_len : S.flatten.length = bdN S := by
  rw [h.N, List.length_flatten]
  have : S.map List.length = List.replicate S.length L := by
    rw [List.eq_replicate_iff]
    refine ⟨List.length_map _, fun x hx => ?_⟩
    obtain ⟨c, hc, rfl⟩ := List.mem_map.mp hx
    exact h.len c hc
  rw [this, List.sum_replicate_nat, Nat.mul_comm]
theorem Bs.mem {x : Nat} (hx : x ∈ S.flatten) : ∃ j t, j < S.length ∧ t < L ∧ (S.getD j []).getD t 0 = x := by
  obtain ⟨c, hc, hxc⟩ := List.mem_flatten.mp hx
  obtain ⟨j, hj, rfl⟩ := List.mem_iff_getElem.mp hc
  obtain ⟨t, ht, rfl⟩ := List.mem_iff_getElem.mp hxc
  refine ⟨j, t, hj, by rw [← h.len _ hc]; exact ht, ?_⟩
  simp [List.getD, hj, ht]
theorem Bs.mem_bd {x : Nat} (hx : x ∈ S.flatten) : x ∈ bd m S := by
  obtain ⟨j, t, hj, ht, rfl⟩ := h.mem hx
  rw [← h.get hj ht]
  exact getD_mem (by rw [bd_len, h.N]; exact Nat.mod_lt _ h.npos)
end
end PM

/-! text PM9 -/
set_option Elab.async false
set_option linter.all false
/-! A root of a turn out of bound cycles; a power's cycles. Plain Lean. -/
namespace PM
def ofLen (a : List Nat) (L : Nat) : List (List Nat) := (cycs a).filter fun c => decide (c.length = L)
/-- the lengths, ascending, each once -/
def ul (a : List Nat) : List Nat := (List.range (a.length + 1)).filter fun L => decide (L ∈ lens a)
def rootRows (a : List Nat) (m : Nat) : List (List Nat) := (ul a).flatMap fun L => (chunks (bunP L m) (ofLen a L)).map (bd m)
theorem ul_nd (a : List Nat) : (ul a).Nodup := List.nodup_range.filter _
theorem part_sum (L : Nat) : ∀ C : List (List Nat), (C.filter fun c => decide (c.length = L)).flatten.length + (C.filter fun c => !decide (c.length = L)).flatten.length = C.flatten.length
  | [] => rfl
  | c :: C => by
    have ih := part_sum L C
    by_cases e : c.length = L
    · rw [List.filter_cons_of_pos (by simp [e]), List.filter_cons_of_neg (by simp [e]), List.flatten_cons, List.flatten_cons, List.length_append, List.length_append]
      omega
    · rw [List.filter_cons_of_neg (by simp [e]), List.filter_cons_of_pos (by simp [e]), List.flatten_cons, List.flatten_cons, List.length_append, List.length_append]
      omega
theorem parts_le : ∀ (U : List Nat) (C : List (List Nat)), U.Nodup → (U.flatMap fun L => C.filter fun c => decide (c.length = L)).flatten.length ≤ C.flatten.length
  | [], C, _ => Nat.zero_le _
  | L :: U, C, nd => by
    obtain ⟨h1, h2⟩ := List.nodup_cons.mp nd
    have ih := parts_le U (C.filter fun c => !decide (c.length = L)) h2
    have e : (U.flatMap fun L' => (C.filter fun c => !decide (c.length = L)).filter fun c => decide (c.length = L')) = U.flatMap fun L' => C.filter fun c => decide (c.length = L') := by
      rw [List.flatMap_def, List.flatMap_def]
      congr 1
      refine List.map_congr_left fun L' hL' => ?_
      rw [List.filter_filter]
      congr 1
      funext c
      by_cases e : c.length = L'
      · have : ¬ c.length = L := fun e2 => h1 (by rw [← e2, e]; exact hL')
        simp [e]
        rw [e] at this
        exact this
      · simp [e]
    rw [e] at ih
    have hp := part_sum L C
    rw [List.flatMap_cons, List.flatten_append, List.length_append]
    omega
theorem bound_sum (m : Nat) : ∀ SS : List (List (List Nat)), (∀ S ∈ SS, (bd m S).length = S.flatten.length) → (SS.map (bd m)).flatten.length = SS.flatten.flatten.length
  | [], _ => rfl
  | S :: SS, h => by
    rw [List.map_cons, List.flatten_cons, List.flatten_cons, List.flatten_append, List.length_append, List.length_append, h S List.mem_cons_self, bound_sum m SS fun T hT => h T (List.mem_cons_of_mem _ hT)]
theorem flat_same {f g : Nat → List (List Nat)} : ∀ U : List Nat, (∀ L ∈ U, (f L).flatten.length = (g L).flatten.length) → (U.flatMap f).flatten.length = (U.flatMap g).flatten.length
  | [], _ => rfl
  | L :: U, h => by
    rw [List.flatMap_cons, List.flatMap_cons, List.flatten_append, List.flatten_append, List.length_append, List.length_append, h L List.mem_cons_self, flat_same U fun T hT => h T (List.mem_cons_of_mem _ hT)]
section
variable {a : List Nat} (t : Turn a) {m : Nat} (hm : 0 < m)
include t
theorem Turn.mem_ul {L : Nat} : L ∈ ul a ↔ L ∈ lens a := by
  unfold ul
  rw [List.mem_filter, List.mem_range]
  constructor
  · exact fun h => of_decide_eq_true h.2
  · intro h
    refine ⟨?_, decide_eq_true h⟩
    obtain ⟨i, hi, rfl⟩ := t.lens_spec h
    have := (t.per_spec hi).2.1
    omega
theorem Turn.ul_pos {L : Nat} (h : L ∈ ul a) : 0 < L := by
  obtain ⟨i, hi, rfl⟩ := t.lens_spec (t.mem_ul.mp h)
  exact (t.per_spec hi).1
theorem Turn.cyc_at {i k : Nat} (hi : i < a.length) (hk : k < per a i) : (cyc a i).getD k 0 = pw a k i := by
  rw [List.getD, cyc_get hk]
  rfl
include hm
theorem Turn.bs {L : Nat} (hL : L ∈ ul a) (h : bunP L m ∣ (ofLen a L).length) {S : List (List Nat)} (hS : S ∈ chunks (bunP L m) (ofLen a L)) : Bs L m S := by
  have e := chunks_len h hS
  refine ⟨by rw [e]; exact bunP_spec hm, by rw [e]; exact (bunP_spec hm).pos hm, t.ul_pos hL, fun c hc => ?_⟩
  have h1 : c ∈ (chunks (bunP L m) (ofLen a L)).flatten := List.mem_flatten.mpr ⟨S, hS, hc⟩
  rw [chunks_flat h] at h1
  exact of_decide_eq_true (List.mem_filter.mp h1).2
theorem Turn.in_ofLen {L : Nat} (h : bunP L m ∣ (ofLen a L).length) {S : List (List Nat)} (hS : S ∈ chunks (bunP L m) (ofLen a L)) {c : List Nat} (hc : c ∈ S) : c ∈ cycs a := by
  have h1 : c ∈ (chunks (bunP L m) (ofLen a L)).flatten := List.mem_flatten.mpr ⟨S, hS, hc⟩
  rw [chunks_flat h] at h1
  exact (List.mem_filter.mp h1).1
variable (h : ∀ L ∈ ul a, bunP L m ∣ (ofLen a L).length)
include h
theorem Turn.rows_len : (rootRows a m).flatten.length ≤ a.length := by
  have h1 : (rootRows a m).flatten.length = ((ul a).flatMap (ofLen a)).flatten.length := by
    refine flat_same _ fun L hL => ?_
    rw [bound_sum m _ fun S hS => ?_, chunks_flat (h L hL)]
    rw [(t.bs hm hL (h L hL) hS).flat_len, bd_len]
  rw [h1]
  have h2 := parts_le (ul a) (cycs a) (ul_nd a)
  have h3 := t.flat_perm.length_eq
  rw [List.length_range] at h3
  rw [← h3]
  exact h2
/-- where a number stands -/
theorem Turn.stands {x : Nat} (hx : x < a.length) : ∃ L S, L ∈ ul a ∧ S ∈ chunks (bunP L m) (ofLen a L) ∧ x ∈ S.flatten := by
  obtain ⟨i, hi, _, hr, hxi, _⟩ := t.rep hx
  have hc : cyc a i ∈ cycs a := List.mem_map.mpr ⟨i, mem_reps.mpr ⟨hi, hr⟩, rfl⟩
  have hL : per a i ∈ ul a := t.mem_ul.mpr (t.lens_per hi)
  have h1 : cyc a i ∈ ofLen a (per a i) := List.mem_filter.mpr ⟨hc, decide_eq_true (cyc_len a i)⟩
  rw [← chunks_flat (h _ hL)] at h1
  obtain ⟨S, hS, hcS⟩ := List.mem_flatten.mp h1
  exact ⟨_, S, hL, hS, List.mem_flatten.mpr ⟨_, hcS, hxi⟩⟩
theorem Turn.rows_perm : (List.range a.length).Perm (rootRows a m).flatten := by
  refine perm_of_sub List.nodup_range (fun x hx => ?_) (by rw [List.length_range]; exact t.rows_len hm h)
  obtain ⟨L, S, hL, hS, hxS⟩ := t.stands hm h (List.mem_range.mp hx)
  exact List.mem_flatten.mpr ⟨bd m S, List.mem_flatMap.mpr ⟨L, hL, List.mem_map.mpr ⟨S, hS, rfl⟩⟩, (t.bs hm hL (h L hL) hS).mem_bd hxS⟩
theorem Turn.rows_nd : (rootRows a m).flatten.Nodup := (t.rows_perm hm h).nodup_iff.mp List.nodup_range
theorem Turn.rows_lt {c : List Nat} (hc : c ∈ rootRows a m) {x : Nat} (hx : x ∈ c) : x < a.length := List.mem_range.mp ((t.rows_perm hm h).mem_iff.mpr (List.mem_flatten.mpr ⟨c, hc, hx⟩))
theorem ofC_len (n : Nat) (rows : List (List Nat)) : (ofC n rows).length = n := by
  unfold ofC
  rw [fold_len, List.length_range]
/-- the m-th power -/
theorem Turn.root_pw {x : Nat} (hx : x < a.length) : pw (ofC a.length (rootRows a m)) m x = ap a x ∧ ap (ofC a.length (rootRows a m)) x < a.length := by
  obtain ⟨L, S, hL, hS, hxS⟩ := t.stands hm h hx
  have B := t.bs hm hL (h L hL) hS
  have hrow : bd m S ∈ rootRows a m := List.mem_flatMap.mpr ⟨L, hL, List.mem_map.mpr ⟨S, hS, rfl⟩⟩
  obtain ⟨j, k, hj, hk, rfl⟩ := B.mem hxS
  have hN : (bd m S).length = L * S.length := by rw [bd_len, B.N]
  have hp : (j + k * m) % (L * S.length) < (bd m S).length := by rw [hN]; exact Nat.mod_lt _ B.npos
  have hpl := pw_place (t.rows_nd hm h) hrow (fun x hx => t.rows_lt hm h hrow hx) hp
  rw [← B.get hj hk]
  constructor
  · rw [hpl, hN, Nat.mod_add_mod]
    obtain ⟨i, hi, ei⟩ := List.mem_map.mp (t.in_ofLen hm (h L hL) hS (B.at_ hj))
    have hi' := (mem_reps.mp hi).1
    have eL : per a i = L := by rw [← cyc_len a i, ei]; exact B.len _ (B.at_ hj)
    rw [B.get hj hk, ← ei, t.cyc_at hi' (by omega)]
    by_cases hk1 : k + 1 < L
    · have e1 : j + k * m + m = j + (k + 1) * m := by rw [Nat.add_mul]; omega
      rw [e1, B.get hj hk1, ← ei, t.cyc_at hi' (by omega)]
      rfl
    · have ek : k + 1 = L := by omega
      have e1 : (j + k * m + m) % (L * S.length) = (j + 0 * m) % (L * S.length) := by
        obtain ⟨q, hq⟩ := B.bun.dvd
        have e2 : j + k * m + m = j + L * S.length * q := by
          have e3 : k * m + m = L * m := by rw [← ek, Nat.add_mul, Nat.one_mul]
          have e4 : L * S.length * q = L * m := by rw [Nat.mul_assoc, ← hq]
          omega
        rw [e2, Nat.add_mul_mod_self_left, Nat.zero_mul, Nat.add_zero]
      rw [e1, B.get hj B.lpos, ← ei, t.cyc_at hi' (by omega)]
      show pw a 0 i = pw a (k + 1) i
      rw [ek, ← eL, (t.per_spec hi').2.2.1]
      rfl
  · have h1 := pw_place (t.rows_nd hm h) hrow (fun x hx => t.rows_lt hm h hrow hx) hp 1
    have h2 : ap (ofC a.length (rootRows a m)) ((bd m S).getD ((j + k * m) % (L * S.length)) 0) = (bd m S).getD (((j + k * m) % (L * S.length) + 1) % (bd m S).length) 0 := h1
    rw [h2]
    exact t.rows_lt hm h hrow (getD_mem (Nat.mod_lt _ (by omega)))
theorem Turn.root : Turn (ofC a.length (rootRows a m)) ∧ (List.range a.length).map (pw (ofC a.length (rootRows a m)) m) = a := by
  have e1 : (List.range a.length).map (pw (ofC a.length (rootRows a m)) m) = (List.range a.length).map (ap a) := List.map_congr_left fun x hx => (t.root_pw hm h (List.mem_range.mp hx)).1
  have hl := ofC_len (a := a) t hm h a.length (rootRows a m)
  have e2 : (List.range a.length).map (ap (ofC a.length (rootRows a m))) = ofC a.length (rootRows a m) := by
    have := map_ap (ofC a.length (rootRows a m))
    rw [hl] at this
    exact this
  refine ⟨⟨?_, fun x hx => ?_⟩, by rw [e1, map_ap]⟩
  · rw [← e2]
    refine nodup_map (fun x hx y hy e => ?_) List.nodup_range
    have hx' := List.mem_range.mp hx
    have hy' := List.mem_range.mp hy
    have e3 : pw (ofC a.length (rootRows a m)) (m - 1 + 1) x = pw (ofC a.length (rootRows a m)) (m - 1 + 1) y := by
      rw [pw_add, pw_add]
      show pw _ (m - 1) (ap _ x) = pw _ (m - 1) (ap _ y)
      rw [e]
    rw [Nat.sub_add_cancel hm, (t.root_pw hm h hx').1, (t.root_pw hm h hy').1] at e3
    exact t.ap_inj hx' hy' e3
  · rw [hl]
    rw [← e2] at hx
    obtain ⟨y, hy, rfl⟩ := List.mem_map.mp hx
    exact (t.root_pw hm h (List.mem_range.mp hy)).2
end
/-! a power's cycles -/
def rs (a : List Nat) (m : Nat) : List Nat := (List.range a.length).map (pw a m)
theorem rs_len (a : List Nat) (m : Nat) : (rs a m).length = a.length := by simp [rs]
theorem rs_ap {a : List Nat} {m x : Nat} (hx : x < a.length) : ap (rs a m) x = pw a m x := by
  unfold ap rs
  rw [List.getD, List.getElem?_map, List.getElem?_range hx]
  rfl
section
variable {a : List Nat} (t : Turn a) (m : Nat)
include t
theorem Turn.rs : Turn (rs a m) := by
  refine ⟨nodup_map (fun x hx y hy e => t.pw_inj (List.mem_range.mp hx) (List.mem_range.mp hy) m e) List.nodup_range, fun x hx => ?_⟩
  obtain ⟨y, hy, rfl⟩ := List.mem_map.mp hx
  rw [rs_len]
  exact t.pw_lt (List.mem_range.mp hy) m
theorem Turn.rs_pw {x : Nat} (hx : x < a.length) : ∀ k, pw (PM.rs a m) k x = pw a (m * k) x
  | 0 => rfl
  | k + 1 => by
    show ap (PM.rs a m) (pw (PM.rs a m) k x) = _
    rw [Turn.rs_pw hx k, rs_ap (t.pw_lt hx _), Nat.mul_add, Nat.mul_one, Nat.add_comm, pw_add]
theorem Turn.rs_per {x : Nat} (hx : x < a.length) : per (PM.rs a m) x = per a x / Nat.gcd (per a x) m := by
  have T := t.rs m
  have hx' : x < (PM.rs a m).length := by rw [rs_len]; exact hx
  have key : ∀ k, per (PM.rs a m) x ∣ k ↔ per a x ∣ m * k := fun k => by
    rw [← T.pw_dvd hx' k, t.rs_pw m hx k, t.pw_dvd hx]
  have hc := t.per_pos hx
  have hg : 0 < Nat.gcd (per a x) m := Nat.gcd_pos_of_pos_left _ hc
  have d1 := Nat.gcd_dvd_left (per a x) m
  have d2 := Nat.gcd_dvd_right (per a x) m
  refine Nat.dvd_antisymm ((key _).mpr ?_) ?_
  · obtain ⟨q, hq⟩ := d2
    refine ⟨q, ?_⟩
    have e : m * (per a x / Nat.gcd (per a x) m) = Nat.gcd (per a x) m * (per a x / Nat.gcd (per a x) m) * q := by
      rw [Nat.mul_right_comm, ← hq]
    rw [e, Nat.mul_div_cancel' d1]
  · have h1 := (key _).mp (Nat.dvd_refl _)
    have h2 : per a x / Nat.gcd (per a x) m ∣ m / Nat.gcd (per a x) m * per (PM.rs a m) x := by
      refine Nat.dvd_of_mul_dvd_mul_left hg ?_
      rw [Nat.mul_div_cancel' d1, ← Nat.mul_assoc, Nat.mul_div_cancel' d2]
      exact h1
    exact (Nat.coprime_div_gcd_div_gcd hg).dvd_of_dvd_mul_left h2
theorem Turn.count_len (L : Nat) : ∀ R : List Nat, (∀ i ∈ R, i < a.length) → (R.map (cyc a)).flatten.countP (fun x => decide (per a x = L)) = ((R.map (cyc a)).filter fun c => decide (c.length = L)).length * L
  | [], _ => by simp
  | i :: R, h => by
    have hi := h i List.mem_cons_self
    have ih := Turn.count_len L R fun j hj => h j (List.mem_cons_of_mem _ hj)
    rw [List.map_cons, List.flatten_cons, List.countP_append, ih]
    by_cases e : per a i = L
    · rw [List.filter_cons_of_pos (by rw [cyc_len]; exact decide_eq_true e), List.length_cons, Nat.add_mul, Nat.one_mul]
      have : (cyc a i).countP (fun x => decide (per a x = L)) = (cyc a i).length := by
        rw [List.countP_eq_length]
        intro x hx
        obtain ⟨k, _, rfl⟩ := mem_cyc.mp hx
        rw [t.per_pw hi]
        exact decide_eq_true e
      rw [this, cyc_len, e, Nat.add_comm]
    · rw [List.filter_cons_of_neg (by rw [cyc_len]; simpa using e)]
      have : (cyc a i).countP (fun x => decide (per a x = L)) = 0 := by
        rw [List.countP_eq_zero]
        intro x hx
        obtain ⟨k, _, rfl⟩ := mem_cyc.mp hx
        rw [t.per_pw hi]
        simpa using e
      rw [this, Nat.zero_add]
theorem Turn.count_dvd (L d : Nat) (hd : ∀ c, c / Nat.gcd c m = L → 0 < c → d ∣ c) : ∀ R : List Nat, (∀ i ∈ R, i < a.length) → d ∣ (R.map (cyc a)).flatten.countP (fun x => decide (per (PM.rs a m) x = L))
  | [], _ => by simp
  | i :: R, h => by
    have hi := h i List.mem_cons_self
    have ih := Turn.count_dvd L d hd R fun j hj => h j (List.mem_cons_of_mem _ hj)
    rw [List.map_cons, List.flatten_cons, List.countP_append]
    refine (Nat.dvd_add_iff_left ih).mp ?_
    by_cases e : per a i / Nat.gcd (per a i) m = L
    · have : (cyc a i).countP (fun x => decide (per (PM.rs a m) x = L)) = (cyc a i).length := by
        rw [List.countP_eq_length]
        intro x hx
        obtain ⟨k, _, rfl⟩ := mem_cyc.mp hx
        rw [t.rs_per m (t.pw_lt hi k), t.per_pw hi]
        exact decide_eq_true e
      rw [this, cyc_len]
      exact hd _ e (t.per_pos hi)
    · have : (cyc a i).countP (fun x => decide (per (PM.rs a m) x = L)) = 0 := by
        rw [List.countP_eq_zero]
        intro x hx
        obtain ⟨k, _, rfl⟩ := mem_cyc.mp hx
        rw [t.rs_per m (t.pw_lt hi k), t.per_pw hi]
        simpa using e
      rw [this]
      exact Nat.dvd_zero _
/-- a power's cycles of a length are as many as a multiple of the bunch -/
theorem Turn.power_bunch (hm : 0 < m) {L : Nat} (hL : L ∈ ul (PM.rs a m)) : bunP L m ∣ (ofLen (PM.rs a m) L).length := by
  have T := t.rs m
  have hl := T.ul_pos hL
  have B := bunP_spec (l := L) hm
  have h1 : L * bunP L m ∣ (List.range a.length).countP (fun x => decide (per (PM.rs a m) x = L)) := by
    rw [← t.flat_perm.countP_eq]
    refine t.count_dvd m L _ (fun c e hc => ?_) (reps a) fun i hi => (mem_reps.mp hi).1
    have hg : 0 < Nat.gcd c m := Nat.gcd_pos_of_pos_left _ hc
    have hco := Nat.coprime_div_gcd_div_gcd hg
    rw [e] at hco
    have ec : c = L * Nat.gcd c m := by rw [← e, Nat.div_mul_cancel (Nat.gcd_dvd_left c m)]
    obtain ⟨k, hk⟩ := B.pow
    have hb : Nat.Coprime (bunP L m) (m / Nat.gcd c m) := (hco.pow_left k).coprime_dvd_left hk
    have hbm : bunP L m ∣ Nat.gcd c m * (m / Nat.gcd c m) := by
      rw [Nat.mul_div_cancel' (Nat.gcd_dvd_right c m)]
      exact B.dvd
    have hbg := hb.dvd_of_dvd_mul_right hbm
    obtain ⟨q, hq⟩ := hbg
    refine ⟨q, ?_⟩
    rw [Nat.mul_assoc, ← hq]
    exact ec
  have h2 : (List.range (PM.rs a m).length).countP (fun x => decide (per (PM.rs a m) x = L)) = (ofLen (PM.rs a m) L).length * L := by
    rw [← T.flat_perm.countP_eq]
    exact T.count_len L (reps (PM.rs a m)) fun i hi => (mem_reps.mp hi).1
  rw [rs_len] at h2
  rw [h2, Nat.mul_comm] at h1
  exact Nat.dvd_of_mul_dvd_mul_right hl h1
end
end PM

/-! text PM10 -/
set_option Elab.async false
set_option linter.all false
/-! Back, powers by any integer, products. Plain Lean. -/
namespace PM
def tm (a b : List Nat) : List Nat := a.map (ap b)
def bk (a : List Nat) : List Nat := (List.range a.length).map fun i => a.idxOf i
def bkTo (a : List Nat) : Nat → List Nat
  | 0 => List.replicate a.length 0
  | k + 1 => (bkTo a k).set (ap a k) k
theorem bkTo_len (a : List Nat) : ∀ k, (bkTo a k).length = a.length
  | 0 => List.length_replicate
  | k + 1 => by
    show ((bkTo a k).set _ _).length = _
    rw [List.length_set, bkTo_len a k]
theorem bk_len (a : List Nat) : (bk a).length = a.length := by simp [bk]
section
variable {a : List Nat} (t : Turn a)
include t
theorem Turn.bkTo_in {i : Nat} (hi : i < a.length) : ∀ k, i < k → k ≤ a.length → (bkTo a k)[ap a i]? = some i
  | 0, h, _ => absurd h (Nat.not_lt_zero _)
  | k + 1, h, hk => by
    show ((bkTo a k).set (ap a k) k)[ap a i]? = _
    by_cases e : i = k
    · subst e
      rw [List.getElem?_set_self (by rw [bkTo_len]; exact t.ap_lt hi)]
    · rw [List.getElem?_set_ne (fun e2 => e (t.ap_inj (by omega) hi e2).symm), Turn.bkTo_in hi k (by omega) (by omega)]
theorem Turn.idx_ap {i : Nat} (hi : i < a.length) : a.idxOf (ap a i) = i := by
  have hm := ap_mem hi
  have hl := List.idxOf_lt_length_of_mem hm
  have e : ap a (a.idxOf (ap a i)) = ap a i := by
    rw [ap_eq hl, List.getElem_idxOf]
  exact t.ap_inj hl hi e
theorem Turn.onto {x : Nat} (hx : x < a.length) : ∃ i, i < a.length ∧ ap a i = x ∧ a.idxOf x = i := by
  obtain ⟨i, hi, e⟩ := List.mem_iff_getElem.mp (t.mem.mpr hx)
  have e2 : ap a i = x := by rw [ap_eq hi, e]
  exact ⟨i, hi, e2, by rw [← e2, t.idx_ap hi]⟩
theorem Turn.bkTo_bk : bkTo a a.length = bk a := by
  refine List.ext_getElem? fun x => ?_
  by_cases hx : x < a.length
  · obtain ⟨i, hi, e, e2⟩ := t.onto hx
    rw [← e, t.bkTo_in hi _ hi (Nat.le_refl _)]
    unfold bk
    rw [List.getElem?_map, List.getElem?_range (by rw [e]; exact hx)]
    show some i = some (a.idxOf (ap a i))
    rw [t.idx_ap hi]
  · rw [List.getElem?_eq_none (by rw [bkTo_len]; omega), List.getElem?_eq_none (by rw [bk_len]; omega)]
theorem Turn.bk_turn : Turn (bk a) := by
  refine ⟨nodup_map (fun x hx y hy e => ?_) List.nodup_range, fun x hx => ?_⟩
  · obtain ⟨i, hi, e1, e2⟩ := t.onto (List.mem_range.mp hx)
    obtain ⟨j, hj, e3, e4⟩ := t.onto (List.mem_range.mp hy)
    rw [e2, e4] at e
    rw [← e1, ← e3, e]
  · obtain ⟨y, hy, rfl⟩ := List.mem_map.mp hx
    rw [bk_len]
    obtain ⟨i, hi, e1, e2⟩ := t.onto (List.mem_range.mp hy)
    rw [e2]
    exact hi
theorem Turn.tm {b : List Nat} (s : Turn b) (e : a.length = b.length) : Turn (tm a b) := by
  refine ⟨nodup_map (fun x hx y hy h => s.ap_inj (by rw [← e]; exact t.lt x hx) (by rw [← e]; exact t.lt y hy) h) t.nd, fun x hx => ?_⟩
  obtain ⟨y, hy, rfl⟩ := List.mem_map.mp hx
  show ap b y < (a.map (ap b)).length
  rw [List.length_map, e]
  exact s.ap_lt (by rw [← e]; exact t.lt y hy)
end
theorem tm_len (a b : List Nat) : (tm a b).length = a.length := by simp [tm]
/-- the k-th power, k any integer -/
def pwI (a : List Nat) (k : Int) : List Nat := if 0 ≤ k then rs a k.toNat else rs (bk a) (-k).toNat
theorem tm_rs {a : List Nat} (t : Turn a) (i : Nat) : tm (rs a i) a = rs a (i + 1) := by
  unfold tm rs
  rw [List.map_map]
  rfl
theorem rs_0 (a : List Nat) : rs a 0 = List.range a.length := by
  unfold rs
  have e : pw a 0 = id := funext fun x => rfl
  rw [e, List.map_id]
theorem nd_take {b : List Nat} (h : b.Nodup) {i c : Nat} (hc : b[i]? = some c) : c ∉ b.take i := by
  intro hm
  obtain ⟨j, hj, e⟩ := List.mem_iff_getElem.mp hm
  rw [List.length_take] at hj
  rw [List.getElem_take] at e
  obtain ⟨hi, e2⟩ := List.getElem?_eq_some_iff.mp hc
  have e3 : b[j]? = b[i]? := by rw [List.getElem?_eq_getElem (by omega), List.getElem?_eq_getElem hi, e, e2]
  have := (List.getElem?_inj (by omega) h).mp e3
  omega
end PM

/-! text PM11 -/
set_option Elab.async false
set_option linter.all false
namespace PM
theorem ofC_turn {n : Nat} {rows : List (List Nat)} (hp : rows.flatten.Perm (List.range n)) : Turn (ofC n rows) ∧ (ofC n rows).length = n := by
  have hl : (ofC n rows).length = n := by
    unfold ofC
    rw [fold_len, List.length_range]
  have nd : rows.flatten.Nodup := hp.nodup_iff.mpr List.nodup_range
  have key : (List.range n).Perm (ofC n rows) := by
    refine perm_of_sub List.nodup_range (fun x hx => ?_) (by rw [List.length_range, hl]; exact Nat.le_refl _)
    obtain ⟨c, hc, hxc⟩ := List.mem_flatten.mp (hp.mem_iff.mpr hx)
    obtain ⟨k, hk, rfl⟩ := List.mem_iff_getElem.mp hxc
    have hcl : 0 < c.length := by omega
    have hj : (k + c.length - 1) % c.length < c.length := Nat.mod_lt _ hcl
    have e : ((k + c.length - 1) % c.length + 1) % c.length = k := by
      rw [Nat.mod_add_mod, show k + c.length - 1 + 1 = k + c.length by omega, Nat.add_mod_right, Nat.mod_eq_of_lt hk]
    have hin : c.getD ((k + c.length - 1) % c.length) 0 < (List.range n).length := by
      rw [List.length_range]
      exact List.mem_range.mp (hp.mem_iff.mp (List.mem_flatten.mpr ⟨c, hc, getD_mem hj⟩))
    have h := fold_in rows (List.range n) nd hc hj hin
    rw [e] at h
    have e2 : c.getD k 0 = c[k] := by rw [List.getD, List.getElem?_eq_getElem hk]; rfl
    rw [e2] at h
    exact List.mem_of_getElem? h
  refine ⟨⟨key.nodup_iff.mp List.nodup_range, fun x hx => ?_⟩, hl⟩
  rw [hl]
  exact List.mem_range.mp (key.mem_iff.mpr hx)
end PM

/-! text PM12 -/
set_option Elab.async false
set_option linter.all false
/-! Tables of letters' leads. Plain Lean. -/
namespace PM
abbrev Tbl := List (List Nat)
def ent (T : Tbl) (a k : Nat) : Nat := (T.getD a []).getD k 0
structure Tb (m : Nat) (T : Tbl) : Prop where
  ne : 0 < T.length
  row : ∀ r ∈ T, r.length = m ∧ ∀ x ∈ r, x < T.length
  inj : ∀ k, k < m → ∀ a b, a < T.length → b < T.length → ent T a k = ent T b k → a = b
def colT (T : Tbl) (k : Nat) : List Nat := (List.range T.length).map fun a => ent T a k
def stp (T : Tbl) (a : Nat) (k : Int) : Nat := if 0 < k then ent T a (k.toNat - 1) else (colT T ((-k).toNat - 1)).idxOf a
def gon (T : Tbl) (a : Nat) (w : List Int) : Nat := w.foldl (stp T) a
def okL (m : Nat) (k : Int) : Prop := k ≠ 0 ∧ k.natAbs ≤ m
def sg (m : Nat) : List Int := (List.range m).flatMap fun k => [((k : Nat) : Int) + 1, -(((k : Nat) : Int) + 1)]
theorem mem_sg {m : Nat} {k : Int} : k ∈ sg m ↔ okL m k := by
  unfold sg okL
  rw [List.mem_flatMap]
  constructor
  · rintro ⟨j, hj, h⟩
    have hj' := List.mem_range.mp hj
    have h' : k = (j : Int) + 1 ∨ k = -((j : Int) + 1) := by simpa using h
    omega
  · rintro ⟨h0, h1⟩
    refine ⟨k.natAbs - 1, List.mem_range.mpr (by omega), ?_⟩
    have h2 : (((k.natAbs - 1 : Nat) : Int)) + 1 = (k.natAbs : Int) := by omega
    rw [h2]
    simp
    omega
inductive Rc (T : Tbl) (m : Nat) : Nat → Prop
  | z : Rc T m 0
  | s {a k : Nat} : Rc T m a → k < m → Rc T m (ent T a k)
section
variable {m : Nat} {T : Tbl} (h : Tb m T)
include h
theorem Tb.at_ {a : Nat} (ha : a < T.length) : T[a]? = some (T.getD a []) ∧ (T.getD a []).length = m ∧ ∀ x ∈ T.getD a [], x < T.length := by
  have e : T[a]? = some (T.getD a []) := by
    rw [List.getD, List.getElem?_eq_getElem ha]
    rfl
  exact ⟨e, h.row _ (List.mem_of_getElem? e)⟩
theorem Tb.lt {a k : Nat} (ha : a < T.length) (hk : k < m) : ent T a k < T.length := by
  obtain ⟨_, h1, h2⟩ := h.at_ ha
  exact h2 _ (getD_mem (by omega))
theorem Tb.get {a k : Nat} (ha : a < T.length) (hk : k < m) : (T.getD a [])[k]? = some (ent T a k) := by
  obtain ⟨_, h1, _⟩ := h.at_ ha
  unfold ent
  rw [List.getD_eq_getElem?_getD (l := T.getD a []), List.getElem?_eq_getElem (by omega)]
  rfl
theorem Tb.col {k : Nat} (hk : k < m) : Turn (colT T k) ∧ (colT T k).length = T.length := by
  have hl : (colT T k).length = T.length := by simp [colT]
  refine ⟨⟨nodup_map (fun x hx y hy e => h.inj k hk x y (List.mem_range.mp hx) (List.mem_range.mp hy) e) List.nodup_range, fun x hx => ?_⟩, hl⟩
  obtain ⟨a, ha, rfl⟩ := List.mem_map.mp hx
  rw [hl]
  exact h.lt (List.mem_range.mp ha) hk
theorem Tb.ap {a k : Nat} (ha : a < T.length) : ap (colT T k) a = ent T a k := by
  unfold PM.ap colT
  rw [List.getD, List.getElem?_map, List.getElem?_range ha]
  rfl
theorem Tb.idx {x k : Nat} (hx : x < T.length) (hk : k < m) : (colT T k).idxOf x < T.length ∧ ent T ((colT T k).idxOf x) k = x := by
  obtain ⟨t, hl⟩ := h.col hk
  obtain ⟨i, hi, e1, e2⟩ := t.onto (x := x) (by rw [hl]; exact hx)
  rw [hl] at hi
  rw [e2, ← h.ap hi]
  exact ⟨hi, e1⟩
theorem Tb.idx_ent {a k : Nat} (ha : a < T.length) (hk : k < m) : (colT T k).idxOf (ent T a k) = a := by
  obtain ⟨t, hl⟩ := h.col hk
  rw [← h.ap ha]
  exact t.idx_ap (by rw [hl]; exact ha)
theorem Tb.stp_lt {a : Nat} {k : Int} (ha : a < T.length) (hk : okL m k) : stp T a k < T.length := by
  obtain ⟨h0, h1⟩ := hk
  unfold stp
  split
  · exact h.lt ha (by omega)
  · exact (h.idx ha (by omega)).1
theorem Tb.gon_lt : ∀ {w : List Int} {a : Nat}, a < T.length → (∀ k ∈ w, okL m k) → gon T a w < T.length
  | [], a, ha, _ => ha
  | k :: w, a, ha, hw => Tb.gon_lt (w := w) (h.stp_lt ha (hw k List.mem_cons_self)) fun j hj => hw j (List.mem_cons_of_mem _ hj)
theorem Tb.rc_lt {x : Nat} (r : Rc T m x) : x < T.length := by
  induction r with
  | z => exact h.ne
  | s _ hk ih => exact h.lt ih hk
theorem Tb.rc_pw {x k : Nat} (r : Rc T m x) (hk : k < m) : ∀ j, Rc T m (pw (colT T k) j x)
  | 0 => r
  | j + 1 => by
    have ih := Tb.rc_pw r hk j
    show Rc T m (PM.ap (colT T k) (pw (colT T k) j x))
    rw [h.ap (h.rc_lt ih)]
    exact .s ih hk
theorem Tb.rc_back {x k : Nat} (r : Rc T m x) (hk : k < m) : Rc T m ((colT T k).idxOf x) := by
  obtain ⟨t, hl⟩ := h.col hk
  obtain ⟨h1, h2⟩ := h.idx (h.rc_lt r) hk
  have h1' : (colT T k).idxOf x < (colT T k).length := by rw [hl]; exact h1
  have hp := t.per_spec h1'
  have e : pw (colT T k) (per (colT T k) ((colT T k).idxOf x) - 1 + 1) ((colT T k).idxOf x) = (colT T k).idxOf x := by
    rw [Nat.sub_add_cancel hp.1]
    exact hp.2.2.1
  rw [pw_add] at e
  have e2 : pw (colT T k) 1 ((colT T k).idxOf x) = x := by
    show PM.ap (colT T k) _ = x
    rw [show pw (colT T k) 0 ((colT T k).idxOf x) = (colT T k).idxOf x from rfl, h.ap h1, h2]
  rw [e2] at e
  rw [← e]
  exact h.rc_pw r hk _
theorem Tb.rc_stp {x : Nat} {k : Int} (r : Rc T m x) (hk : okL m k) : Rc T m (stp T x k) := by
  obtain ⟨h0, h1⟩ := hk
  unfold stp
  split
  · exact .s r (by omega)
  · exact h.rc_back r (by omega)
/-- what is closed, begun at 0, within what is led to -/
theorem Tb.closed {l : List Nat} (h0 : 0 ∈ l) (hc : ∀ x ∈ l, ∀ k, k < m → ent T x k ∈ l) (hr : ∀ x ∈ l, Rc T m x) (x : Nat) : x ∈ l ↔ Rc T m x := by
  refine ⟨hr x, fun r => ?_⟩
  induction r with
  | z => exact h0
  | s _ hk ih => exact hc _ ih _ hk
end
theorem gon_snoc (T : Tbl) (a : Nat) (w : List Int) (k : Int) : gon T a (w ++ [k]) = stp T (gon T a w) k := by
  unfold gon
  rw [List.foldl_append]
  rfl
/-! the judge's answers -/
open Classical in
noncomputable def unr (T : Tbl) (m : Nat) : Option Nat := (List.range T.length).find? fun a => decide (¬ Rc T m a)
def badW (T : Tbl) (w : List Int) : Option Nat := (List.range T.length).find? fun a => decide (gon T a w ≠ a)
def relF (T : Tbl) : List (List Int) → Nat → Option (Nat × Nat)
  | [], _ => none
  | w :: ws, i => match badW T w with
    | some a => some (i, a)
    | none => relF T ws (i + 1)
def worF (T : Tbl) (ws : List (List Int)) : Option Nat := (List.range ws.length).find? fun i => decide (gon T 0 (ws.getD i []) ≠ 0)
theorem relF_at {T : Tbl} : ∀ {ws : List (List Int)} {i j a : Nat} {w : List Int}, ws[j]? = some w → badW T w = some a → (∀ u ∈ ws.take j, badW T u = none) → relF T ws i = some (i + j, a)
  | [], _, _, _, _, h, _, _ => by simp at h
  | u :: ws, i, 0, a, w, h, hb, _ => by
    have : u = w := by simpa using h
    subst this
    unfold relF
    rw [hb]
    rfl
  | u :: ws, i, j + 1, a, w, h, hb, hn => by
    unfold relF
    rw [hn u (by simp)]
    have := relF_at (T := T) (ws := ws) (i := i + 1) (j := j) (a := a) (w := w) (by simpa using h) hb fun v hv => hn v (by simp [hv])
    rw [this, show i + 1 + j = i + (j + 1) by omega]
theorem relF_none {T : Tbl} : ∀ {ws : List (List Int)} {i : Nat}, (∀ u ∈ ws, badW T u = none) → relF T ws i = none
  | [], _, _ => rfl
  | u :: ws, i, h => by
    unfold relF
    rw [h u List.mem_cons_self]
    exact relF_none fun v hv => h v (List.mem_cons_of_mem _ hv)
end PM

/-! text PM13 -/
set_option Elab.async false
set_option linter.all false
namespace PM
/-- rows of numbers within are a table exactly if no column tells a name twice -/
theorem tb_iff {m : Nat} {T : Tbl} (h0 : 0 < T.length) (hr : ∀ r ∈ T, r.length = m ∧ ∀ x ∈ r, x < T.length) : Tb m T ↔ ∀ k, k < m → (colT T k).Nodup := by
  constructor
  · exact fun h k hk => (h.col hk).1.nd
  · refine fun h => ⟨h0, hr, fun k hk a b ha hb e => ?_⟩
    have e1 : (colT T k)[a]? = some (ent T a k) := by unfold colT; rw [List.getElem?_map, List.getElem?_range ha]; rfl
    have e2 : (colT T k)[b]? = some (ent T b k) := by unfold colT; rw [List.getElem?_map, List.getElem?_range hb]; rfl
    have e3 : (colT T k)[a]? = (colT T k)[b]? := by rw [e1, e2, e]
    have hl : (colT T k).length = T.length := by simp [colT]
    exact (List.getElem?_inj (by rw [hl]; exact ha) (h k hk)).mp e3
end PM

/-! text B0 -/
set_option Elab.async false
set_option linter.all false
set_option maxRecDepth 100000
set_option maxHeartbeats 2000000
set_option pp.maxSteps 250
namespace K54
open PySem PySem.Spec L2 VL PM
def top (i : Nat) : Stmt := PySem.Challenge.pw_toldturns_k54_long_tables_judged.main.body.getD i (.Pass ⟨0, 0, 0, 0⟩)
abbrev FnP (K : PySem.W.Frag) (x : Str) (st : Stmt) (f : Addr) (fd : FuncData) : Prop := FunD K x x (defArgs st) (defBody st) (defScope st) [] [] f fd
abbrev ni (n : Nat) : PyData := .int (n : Int)
abbrev tn (l : List Nat) : PyData := .tuple (l.map ni)
structure Sm (a : List Nat) : Prop where
  t : Turn a
  z : a.length ≤ 4096
theorem at_tn {l : List Nat} {i x : Nat} (h : l[i]? = some x) : atI (l.map ni) (i : Int) = some (ni x) := atI_nat (by rw [List.getElem?_map, h]; rfl)
theorem at_ap {a : List Nat} {i : Nat} (h : i < a.length) : atI (a.map ni) (i : Int) = some (ni (ap a i)) := at_tn (ap_get h)
theorem ni_ints (l : List Nat) : l.map ni = (l.map fun n : Nat => (n : Int)).map PyData.int := by rw [List.map_map]; rfl
theorem rng_l {α : Type} (l : List α) (f : α → PyData) : rng 0 ((l.map f).length : Int).toNat = (List.range l.length).map fun i => it (ni i) := by simp [rng]
theorem range_get' {n i x : Nat} (h : (List.range n)[i]? = some x) : i < n ∧ x = i := by
  have h2 := (List.getElem?_eq_some_iff.mp h).1
  rw [List.length_range] at h2
  rw [List.getElem?_range h2] at h
  exact ⟨h2, (Option.some.inj h).symm⟩
def srt (l : List Nat) : List Nat := l.mergeSort fun x y => decide (x ≤ y)
theorem srt_perm (l : List Nat) : (srt l).Perm l := List.mergeSort_perm l _
theorem srt_pw (l : List Nat) : (srt l).Pairwise (· ≤ ·) := by
  have := List.pairwise_mergeSort (le := fun x y : Nat => decide (x ≤ y)) (fun a b c h1 h2 => by simp at *; omega) (fun a b => by simp; omega) l
  exact this.imp fun h => of_decide_eq_true h
theorem sort_uniq {l : List Nat} {ns : List Int} (hp : ns.Perm (l.map fun n : Nat => (n : Int))) (hs : ns.Pairwise (· ≤ ·)) : ns.map PyData.int = (srt l).map ni := by
  rw [ni_ints]
  congr 1
  refine List.Perm.eq_of_pairwise (le := (· ≤ ·)) (fun a b _ _ h1 h2 => by omega) hs ?_ (hp.trans ((srt_perm l).symm.map _))
  rw [List.pairwise_map]
  exact (srt_pw l).imp fun h => by omega
theorem rgD_tn (n : Nat) : PyData.tuple (rgD 0 (n : Int)) = tn (List.range n) := by
  unfold rgD tn
  congr 1
  rw [show ((n : Int) - 0).toNat = n by omega]
  refine List.map_congr_left fun i _ => ?_
  show PyData.int (0 + (i : Int)) = PyData.int (i : Int)
  rw [Int.zero_add]
theorem rgD_ln (n : Nat) : rgD 0 (n : Int) = (List.range n).map ni := by
  have := rgD_tn n
  injection this
theorem idxOf_cast (l : List Nat) (k : Nat) : (l.map fun n : Nat => (n : Int)).idxOf (k : Int) = l.idxOf k := by
  induction l with
  | nil => rfl
  | cons x l ih =>
    rw [List.map_cons, List.idxOf_cons, List.idxOf_cons, ih]
    have : (((x : Nat) : Int) == (k : Int)) = (x == k) := by
      rw [Bool.eq_iff_iff]
      simp
      omega
    rw [this]
def optD : Option Nat → PyData
  | none => .none
  | some k => ni k
theorem head_find (p : Nat → Bool) (l : List Nat) : (l.filterMap fun k => if p k = true then some (ni k) else none) = (l.filter p).map ni := by
  induction l with
  | nil => rfl
  | cons x l ih =>
    rw [List.filterMap_cons]
    cases h : p x <;> simp [h, ih]
theorem plain_ni : ∀ x : Nat, (ni x).plain = true := fun _ => rfl
theorem nis {l : List Nat} {x : PyData} (h : x ∈ l.map ni) : ∃ n, x = ni n := by
  obtain ⟨n, _, rfl⟩ := List.mem_map.mp h
  exact ⟨n, rfl⟩
theorem plain_lni (l : List Nat) : (PyData.list (l.map ni)).plain = true := plain_list fun x h => by
  obtain ⟨n, rfl⟩ := nis h
  rfl
theorem plain_tn (l : List Nat) : (tn l).plain = true := plain_tuple fun x h => by
  obtain ⟨n, rfl⟩ := nis h
  rfl
theorem depth_lni (l : List Nat) : (PyData.list (l.map ni)).depth ≤ 60 := by
  have := depth_list (d := 0) (xs := l.map ni) fun x h => by
    obtain ⟨n, rfl⟩ := nis h
    exact Nat.le_refl _
  omega
theorem depth_tn (l : List Nat) : (tn l).depth ≤ 60 := by
  have := depth_tuple (d := 0) (xs := l.map ni) fun x h => by
    obtain ⟨n, rfl⟩ := nis h
    exact Nat.le_refl _
  unfold tn
  omega
theorem emp_map {α : Type} (l : List α) (f : α → PyData) : (l.map f).isEmpty = l.isEmpty := by cases l <;> rfl
theorem at_tn' {xs : List PyData} {k : Nat} {x : PyData} (h : xs[k]? = some x) : atI xs (k : Int) = some x := atI_nat h
theorem map_get {l : List Nat} {i : Nat} {d : PyData} (h : (l.map ni)[i]? = some d) : ∃ c, l[i]? = some c ∧ d = ni c := by
  rw [List.getElem?_map] at h
  cases eb : l[i]? with
  | none => rw [eb] at h; cases h
  | some c => rw [eb] at h; cases h; exact ⟨c, rfl, rfl⟩
theorem in_nat {X : Cx} {env : VL.Env} {Q : VL.R → VL.Env → Prop} {q : VL.R} {k : Nat} {l : List Nat} (s : Sq env q (l.map ni)) (z : Q (dd (.bool (decide (k ∈ l)))) env) : BinV X (compareOp .In) (dd (ni k)) q env Q := by
  rw [ni_ints] at s
  refine in_i s ?_
  have e : decide ((k : Int) ∈ l.map fun n : Nat => (n : Int)) = decide (k ∈ l) := by
    rw [Bool.eq_iff_iff, decide_eq_true_iff, decide_eq_true_iff]
    constructor
    · intro h
      obtain ⟨m, hm, e⟩ := List.mem_map.mp h
      have : m = k := by omega
      subst this
      exact hm
    · exact fun h => List.mem_map.mpr ⟨k, h, rfl⟩
  rw [e]
  exact z
theorem rep_flat (n : Nat) : (List.replicate ((n : Nat) : Int).toNat [ni 0]).flatten = (List.replicate n 0).map ni := by
  rw [show ((n : Nat) : Int).toNat = n by omega]
  induction n with
  | zero => rfl
  | succ n ih => rw [List.replicate_succ, List.flatten_cons, ih, List.replicate_succ, List.map_cons]; rfl
theorem rows_get {rows : List (List Nat)} {i : Nat} {d : PyData} (h : (rows.map tn)[i]? = some d) : ∃ c, rows[i]? = some c ∧ d = tn c := by
  rw [List.getElem?_map] at h
  cases eb : rows[i]? with
  | none => rw [eb] at h; cases h
  | some c => rw [eb] at h; cases h; exact ⟨c, rfl, rfl⟩
end K54

/-! text B1 -/
set_option Elab.async false
set_option linter.all false
set_option maxRecDepth 100000
set_option maxHeartbeats 2000000
set_option pp.maxSteps 250
namespace K54
open PySem PySem.Spec L2 VL PM

abbrev tD (T : Tbl) : PyData := .tuple (T.map tn)
abbrev wD (w : List Int) : PyData := .tuple (w.map PyData.int)
theorem sg_succ (m : Nat) : sg (m + 1) = sg m ++ [((m : Nat) : Int) + 1, -(((m : Nat) : Int) + 1)] := by
  unfold sg
  rw [List.range_succ, List.flatMap_append]
  simp
theorem notin_nat {X : Cx} {env : VL.Env} {Q : VL.R → VL.Env → Prop} {q : VL.R} {k : Nat} {l : List Nat} (s : Sq env q (l.map ni)) (z : Q (dd (.bool (!decide (k ∈ l)))) env) : BinV X (compareOp .NotIn) (dd (ni k)) q env Q := by
  rw [ni_ints] at s
  refine notin_i s ?_
  have e : decide ((k : Int) ∈ l.map fun n : Nat => (n : Int)) = decide (k ∈ l) := by
    rw [Bool.eq_iff_iff, decide_eq_true_iff, decide_eq_true_iff]
    constructor
    · intro h
      obtain ⟨m, hm, e⟩ := List.mem_map.mp h
      have : m = k := by omega
      subst this
      exact hm
    · exact fun h => List.mem_map.mpr ⟨k, h, rfl⟩
  rw [e]
  exact z
/-- what the dict of leads tells -/
def LdOk (T : Tbl) (m : Nat) (kts : KTt) : Prop := ∀ (a : Nat) (k : Int), a < T.length → okL m k → getG kts (ik [(a : Int), k]) = some (.d (ni (stp T a k)))
/-- the places before the P-th of row A are told -/
structure LdTo (T : Tbl) (m : Nat) (kts : KTt) (A P : Nat) : Prop where
  fw : ∀ a p, a < T.length → p < m → (a < A ∨ (a = A ∧ p < P)) → getG kts (ik [(a : Int), (p : Int) + 1]) = some (.d (ni (ent T a p)))
  bw : ∀ a p, a < T.length → p < m → (a < A ∨ (a = A ∧ p < P)) → getG kts (ik [((ent T a p : Nat) : Int), -(p : Int) - 1]) = some (.d (ni a))
  len : kts.length ≤ 2 * (A * m + P)
theorem ik2 {a b c d : Int} : ik [a, b] = ik [c, d] ↔ a = c ∧ b = d := by
  unfold ik
  constructor
  · intro h
    have h1 : (Sum.inl a : Key) = Sum.inl c ∧ (Sum.inl b : Key) = Sum.inl d := by simpa using h
    exact ⟨Sum.inl.inj h1.1, Sum.inl.inj h1.2⟩
  · rintro ⟨rfl, rfl⟩
    rfl
theorem LdTo.put {T : Tbl} {m : Nat} (h : Tb m T) {kts : KTt} {A P : Nat} (L : LdTo T m kts A P) (hA : A < T.length) (hP : P < m) : LdTo T m (putG (putG kts (ik [(A : Int), (P : Int) + 1]) (.d (ni (ent T A P)))) (ik [((ent T A P : Nat) : Int), -(P : Int) - 1]) (.d (ni A))) A (P + 1) := by
  refine ⟨fun a p ha hp hd => ?_, fun a p ha hp hd => ?_, ?_⟩
  · rw [getG_put, getG_put]
    rw [if_neg (fun e => by have := (ik2.mp e).2; omega)]
    by_cases e : ik [(a : Int), (p : Int) + 1] = ik [(A : Int), (P : Int) + 1]
    · rw [if_pos e]
      obtain ⟨e1, e2⟩ := ik2.mp e
      have e3 : a = A := by omega
      have e4 : p = P := by omega
      rw [e3, e4]
    · rw [if_neg e]
      refine L.fw a p ha hp ?_
      rcases hd with hd | ⟨rfl, hd⟩
      · exact .inl hd
      · refine .inr ⟨rfl, ?_⟩
        by_cases e2 : p = P
        · subst e2
          exact absurd rfl e
        · omega
  · rw [getG_put, getG_put]
    by_cases e : ik [((ent T a p : Nat) : Int), -(p : Int) - 1] = ik [((ent T A P : Nat) : Int), -(P : Int) - 1]
    · rw [if_pos e]
      obtain ⟨e1, e2⟩ := ik2.mp e
      have e4 : p = P := by omega
      subst e4
      have e3 : a = A := h.inj p hp a A ha hA (by omega)
      rw [e3]
    · rw [if_neg e, if_neg (fun e5 => by have := (ik2.mp e5).2; omega)]
      refine L.bw a p ha hp ?_
      rcases hd with hd | ⟨rfl, hd⟩
      · exact .inl hd
      · refine .inr ⟨rfl, ?_⟩
        by_cases e2 : p = P
        · subst e2
          exact absurd rfl e
        · omega
  · have h1 := putG_len (putG kts (ik [(A : Int), (P : Int) + 1]) (.d (ni (ent T A P)))) (ik [((ent T A P : Nat) : Int), -(P : Int) - 1]) (.d (ni A))
    have h2 := putG_len kts (ik [(A : Int), (P : Int) + 1]) (.d (ni (ent T A P)))
    have h3 := L.len
    omega
theorem LdTo.next {T : Tbl} {m : Nat} {kts : KTt} {A : Nat} (L : LdTo T m kts A m) : LdTo T m kts (A + 1) 0 := by
  refine ⟨fun a p ha hp hd => L.fw a p ha hp (by omega), fun a p ha hp hd => L.bw a p ha hp (by omega), ?_⟩
  have := L.len
  rw [Nat.add_mul]
  omega
theorem LdTo.ok {T : Tbl} {m : Nat} (h : Tb m T) {kts : KTt} (L : LdTo T m kts T.length 0) : LdOk T m kts := fun a k ha hk => by
  obtain ⟨h0, h1⟩ := hk
  unfold stp
  by_cases hp : 0 < k
  · rw [if_pos hp]
    have := L.fw a (k.toNat - 1) ha (by omega) (.inl ha)
    rw [show (((k.toNat - 1 : Nat) : Int)) + 1 = k by omega] at this
    exact this
  · rw [if_neg hp]
    obtain ⟨i1, i2⟩ := h.idx (x := a) (k := (-k).toNat - 1) ha (by omega)
    have := L.bw _ ((-k).toNat - 1) i1 (by omega) (.inl i1)
    rw [i2, show -((((-k).toNat - 1 : Nat) : Int)) - 1 = k by omega] at this
    exact this
def spLeads : Sv := fun ts Q => ∃ (T : Tbl) (m : Nat), ts = [.d (tD T)] ∧ Tb m T ∧ T.length ≤ 1000 ∧ m ≤ 100 ∧ ∀ p kts, LdOk T m kts → Q (dcT p kts) ts
def pSigned (xs : List PyData) (y : PyData) : Prop := ∃ m : Nat, xs = [ni m] ∧ m ≤ 1000 ∧ y = .list ((sg m).map PyData.int)
def pGone (xs : List PyData) (y : PyData) : Prop := ∃ (T : Tbl) (m a : Nat) (w : List Int), xs = [tD T, ni a, wD w] ∧ Tb m T ∧ T.length ≤ 1000 ∧ m ≤ 100 ∧ a < T.length ∧ (∀ k ∈ w, okL m k) ∧ y = ni (gon T a w)
def spNames : Sv := fun ts Q => ∃ (T : Tbl) (m : Nat), ts = [.d (tD T)] ∧ Tb m T ∧ T.length ≤ 1000 ∧ m ≤ 100 ∧ ∀ l : List Nat, (∀ x, x ∈ l ↔ Rc T m x) → Q (.d (.list (l.map ni))) ts
section
variable {P : Program} {w : World} {K : PySem.W.Frag} {mg : Str → Option Value} {base : Heap} {f : Addr} {fd : FuncData}
theorem scSigned : FnScope ["m", "found", "k"] ["m"] (defScope (top 1)) := ⟨rfl, rfl, rfl, by decide +kernel, rfl, by decide +kernel, by decide +kernel⟩
theorem ok_signed (Fu : FnP K "signed_letters" (top 1) f fd) (m1 : mg "range" = none) : FnV P w K mg base 1 f fd ["m"] (spF pSigned) := by
  refine FnV.ofD (fun_of Fu) scSigned (fun xs y h => ?_) (fun X xs y hr hN h hX => ?_)
  · obtain ⟨m, rfl, _⟩ := h
    rfl
  · obtain ⟨cdv, A, outer, s, H, rfl⟩ := hX
    obtain ⟨m, rfl, hm, rfl⟩ := h
    refine vss_cons <| vs_set 1 <| ve_list <| ves_nil ⟨[], rfl, sz rfl, fun pf => ⟨_, _, .own _, ?_⟩⟩
    refine vss_cons <| vs_for [2] (vi_range2 <| ves_cons <| ve_int <| ves_cons <| ve_bin <| ve_name 0 rfl <| ve_int <| add_i <| ves_nil ⟨1, (m : Int) + 1, rfl, by omega, fun i e => ∃ o, i ≤ m ∧ e = [some (.d (ni m)), some (ls pf ((sg i).map PyData.int)), o], ⟨none, Nat.zero_le _, rfl⟩, fun _ _ _ => trivial, ?_, ?_⟩)
    · rintro i x e hx ⟨o, hi, rfl⟩
      obtain ⟨hi2, rfl⟩ := rng_get hx
      refine vg_name 2 <| vss_one <| vs_expr <| ve_extend 1 (fun _ h => ve_name 1 rfl h) rfl <| ve_list <| ves_cons <| ve_name 2 rfl <| ves_cons <| ve_un <| ve_name 2 rfl <| neg_i <| ves_nil ⟨[.d (.int (1 + (i : Nat))), .d (.int (-(1 + (i : Nat))))], rfl, sz rfl, fun p2 => ⟨(sg i).map PyData.int, p2, [.int (1 + (i : Nat)), .int (-(1 + (i : Nat)))], rfl, rfl, ?_, some (.d (.int (1 + (i : Nat)))), by omega, ?_⟩⟩
      · have h1 : (sg i).length = 2 * i := by
          clear hx hi hi2
          induction i with
          | zero => rfl
          | succ i ih => rw [sg_succ, List.length_append, ih]; simp; omega
        rw [List.length_map, sizeLine_eq, h1]
        simp
        omega
      · rw [sg_succ, List.map_append, show (1 : Int) + ((i : Nat) : Int) = ((i : Nat) : Int) + 1 by omega]
        rfl
    · rintro e ⟨o, hi, rfl⟩
      rw [rng_len, show ((m : Int) + 1 - 1).toNat = m by omega]
      exact vss_still 1 rfl <| vss_one <| vs_retD <| ve_name 1 rfl ⟨rfl, rfl⟩
theorem scLeads : FnScope ["table", "found", "a", "row", "place", "b"] ["table"] (defScope (top 2)) := ⟨rfl, rfl, rfl, by decide +kernel, rfl, by decide +kernel, by decide +kernel⟩
theorem ok_leads (Fu : FnP K "leads_of" (top 2) f fd) (m1 : mg "enumerate" = none) : FnV P w K mg base 1 f fd ["table"] spLeads := by
  refine FnV.of (fun_of Fu) scLeads (fun ts Q h => ?_) (fun X ts Q _ _ _ _ _ hN' _ _ _ _ hr h hX => ?_)
  · obtain ⟨T, m, rfl, _⟩ := h
    rfl
  · have hN : X.N.Nodup := by rw [hN']; exact scLeads.nd
    obtain ⟨cdv, A, outer, s, H, rfl⟩ := hX
    obtain ⟨T, m, rfl, tb, hn, hm, hQ⟩ := h
    refine vss_cons <| vs_set 1 <| ve_dnewT fun pd => ⟨_, _, .own _, ?_⟩
    refine vss_cons <| vs_for [2, 3] (vi_enumT <| ve_name 0 rfl ⟨_, rfl, fun i e => ∃ kts o2 o3 o4 o5, LdTo T m kts i 0 ∧ e = [some (.d (tD T)), some (dcT pd kts), o2, o3, o4, o5], ⟨[], none, none, none, none, ⟨fun _ _ _ _ h => by omega, fun _ _ _ _ h => by omega, Nat.zero_le _⟩, rfl⟩, fun _ _ _ => trivial, ?_, ?_⟩)
    · rintro i x e hx ⟨kts, o2, o3, o4, o5, L, rfl⟩
      obtain ⟨d, hd, rfl⟩ := enu_get hx
      obtain ⟨r, hr1, rfl⟩ := rows_get hd
      have hi : i < T.length := (List.getElem?_eq_some_iff.mp hr1).1
      obtain ⟨e1, hl, hlt⟩ := tb.at_ hi
      rw [hr1] at e1
      have e2 : T.getD i [] = r := (Option.some.inj e1).symm
      rw [e2] at hl hlt
      refine vg_tup (.cons (nmT 2) <| .cons (nmT 3) .nil) rfl ?_
      refine vss_one <| vs_for [4, 5] (vi_enumT <| ve_name 3 rfl ⟨_, rfl, fun j e => ∃ kts o4 o5, j ≤ m ∧ LdTo T m kts i j ∧ e = [some (.d (tD T)), some (dcT pd kts), some (.d (ni i)), some (.d (tn r)), o4, o5], ⟨kts, o4, o5, Nat.zero_le _, L, rfl⟩, fun _ _ _ => trivial, ?_, ?_⟩)
      · rintro j x e hx ⟨kts, o4, o5, _, L, rfl⟩
        obtain ⟨d, hd, rfl⟩ := enu_get hx
        obtain ⟨b, hb, rfl⟩ := map_get hd
        have hj : j < m := by rw [← hl]; exact (List.getElem?_eq_some_iff.mp hb).1
        have eb : b = ent T i j := by
          have := tb.get hi hj
          rw [e2, hb] at this
          exact Option.some.inj this
        subst eb
        have hlen := L.len
        have hsz : i * m ≤ 1000 * 100 := Nat.mul_le_mul (by omega) hm
        refine vg_tup (.cons (nmT 4) <| .cons (nmT 5) .nil) rfl ?_
        refine vss_cons <| vs_dputT hr.u1 <| ve_name 5 rfl ⟨_, rfl, ve_name 1 rfl <| ves_cons <| ve_name 2 rfl <| ves_cons <| ve_bin <| ve_name 4 rfl <| ve_int <| add_i <| ves_nil ⟨pd, kts, _, [(i : Int), (j : Int) + 1], rfl, rfl, Nat.le_of_ble_eq_true rfl, .sl 1 rfl, by rw [sizeLine_eq]; omega, ?_⟩⟩
        have hl1 := putG_len kts (ik [(i : Int), (j : Int) + 1]) (.d (ni (ent T i j)))
        refine vss_one <| vs_dputT hr.u1 <| ve_name 2 rfl ⟨_, rfl, ve_name 1 rfl <| ves_cons <| ve_name 5 rfl <| ves_cons <| ve_bin <| ve_un <| ve_name 4 rfl <| neg_i <| ve_int <| sub_i <| ves_nil ⟨pd, putG kts (ik [(i : Int), (j : Int) + 1]) (.d (ni (ent T i j))), _, [((ent T i j : Nat) : Int), -(j : Int) - 1], rfl, rfl, Nat.le_of_ble_eq_true rfl, .sl 1 rfl, by rw [sizeLine_eq]; omega, ?_⟩⟩
        exact ⟨_, some (.d (ni j)), some (.d (ni (ent T i j))), hj, L.put tb hi hj, rfl⟩
      · rintro e ⟨kts, o4, o5, _, L, rfl⟩
        rw [enu_len, List.length_map, hl] at L
        exact ⟨kts, _, _, o4, o5, L.next, rfl⟩
    · rintro e ⟨kts, o2, o3, o4, o5, L, rfl⟩
      rw [enu_len, List.length_map] at L
      exact vss_one <| vs_ret <| ve_name 1 rfl ⟨_, _, .mv 1 rfl, _, ⟨_, rfl, rfl⟩, hQ pd kts (L.ok tb)⟩
theorem scGone : FnScope ["table", "name", "word", "go", "k"] ["table", "name", "word"] (defScope (top 3)) := ⟨rfl, rfl, rfl, by decide +kernel, rfl, by decide +kernel, by decide +kernel⟩
theorem ok_gone (Fu : FnP K "gone_to" (top 3) f fd) (C1 : DefV P w K mg base 1 "leads_of" spLeads) : FnV P w K mg base 2 f fd ["table", "name", "word"] (spF pGone) := by
  refine FnV.ofD (fun_of Fu) scGone (fun xs y h => ?_) (fun X xs y hr hN h hX => ?_)
  · obtain ⟨T, m, a, w, rfl, _⟩ := h
    rfl
  · obtain ⟨cdv, A, outer, s, H, rfl⟩ := hX
    obtain ⟨T, m, a, w, rfl, tb, hn, hm, ha, hw, rfl⟩ := h
    refine vss_cons <| vs_set 3 <| ve_call C1 hr <| ves_cons <| ve_name 0 rfl <| ves_nil ⟨[.d (tD T)], rfl, T, m, rfl, tb, hn, hm, fun pd kts L => ⟨_, _, .own _, ?_⟩⟩
    refine vss_cons <| vs_for [4] (vi_tup <| ve_name 2 rfl ⟨_, rfl, fun i e => ∃ o4, e = [some (.d (tD T)), some (.d (ni (gon T a (w.take i)))), some (.d (wD w)), some (dcT pd kts), o4], ⟨none, rfl⟩, fun _ _ _ => trivial, ?_, ?_⟩)
    · rintro i x e hx ⟨o4, rfl⟩
      rw [List.getElem?_map, List.getElem?_map] at hx
      cases ex : w[i]? with
      | none => rw [ex] at hx; cases hx
      | some k =>
      rw [ex] at hx
      cases hx
      have hlt : gon T a (w.take i) < T.length := tb.gon_lt ha fun j hj => hw j (List.mem_of_mem_take hj)
      refine vg_name 4 <| vss_one <| vs_set 1 <| ve_dgetT hr.u1 <| ve_name 3 rfl <| ves_cons <| ve_name 1 rfl <| ves_cons <| ve_name 4 rfl <| ves_nil ⟨pd, kts, _, [((gon T a (w.take i) : Nat) : Int), k], _, rfl, rfl, Nat.le_of_ble_eq_true rfl, .sl 3 rfl, L _ k hlt (hw k (List.mem_of_getElem? ex)), _, _, .own _, some (.d (.int k)), ?_⟩
      rw [List.take_succ, ex]
      show _ = [_, some (VL.T.d (ni (gon T a (w.take i ++ [k])))), _, _, _]
      rw [gon_snoc]
      rfl
    · rintro e ⟨o4, rfl⟩
      rw [List.length_map, List.length_map, List.take_length]
      exact vss_one <| vs_retD <| ve_name 1 rfl ⟨rfl, rfl⟩
theorem scNames : FnScope ["table", "found", "at", "go", "k"] ["table"] (defScope (top 5)) := ⟨rfl, rfl, rfl, by decide +kernel, rfl, by decide +kernel, by decide +kernel⟩
theorem ok_names (Fu : FnP K "names_from_first" (top 5) f fd) (C1 : DefV P w K mg base 1 "leads_of" spLeads) (C2 : DefV P w K mg base 1 "signed_letters" (spF pSigned)) (m1 : mg "len" = none) : FnV P w K mg base 2 f fd ["table"] spNames := by
  refine FnV.of (fun_of Fu) scNames (fun ts Q h => ?_) (fun X ts Q _ _ _ _ _ hN' _ _ _ _ hr h hX => ?_)
  · obtain ⟨T, m, rfl, _⟩ := h
    rfl
  · have hN : X.N.Nodup := by rw [hN']; exact scNames.nd
    obtain ⟨cdv, A, outer, s, H, rfl⟩ := hX
    obtain ⟨T, m, rfl, tb, hn, hm, hQ⟩ := h
    refine vss_cons <| vs_par3 1 2 3 <| ves_cons <| ve_list <| ves_cons <| ve_int <| ves_nil ⟨[.d (ni 0)], rfl, sz rfl, fun pf => ves_cons <| ve_int <| ves_cons <| ve_call C1 hr <| ves_cons <| ve_name 0 rfl <| ves_nil ⟨[.d (tD T)], rfl, T, m, rfl, tb, hn, hm, fun pd kts L => ves_nil ⟨_, _, _, rfl, ?_⟩⟩⟩
    refine vss_cons <| vs_while (fun k e => ∃ (l : List Nat) (i : Nat) (o4 : Option VL.T), k + i = T.length ∧ i ≤ l.length ∧ l.Nodup ∧ 0 ∈ l ∧ (∀ x ∈ l, Rc T m x) ∧ (∀ j x, l[j]? = some x → j < i → ∀ c, okL m c → stp T x c ∈ l) ∧ e = [some (.d (tD T)), some (ls pf (l.map ni)), some (.d (ni i)), some (dcT pd kts), o4]) ⟨T.length, [0], 0, none, rfl, Nat.zero_le _, by simp, by simp, fun x hx => by
      have : x = 0 := by simpa using hx
      subst this
      exact .z, fun j x hj h => absurd h (Nat.not_lt_zero _), rfl⟩ ?_
    rintro k e ⟨l, i, o4, hk, hil, nd, h0, hrc, hcl, rfl⟩
    refine vt_cmp <| ve_name 2 rfl <| ve_c1 bb_len <| ve_name 1 rfl <| len_d (.rf 1 rfl) <| lt_i ⟨_, rfl, ?_⟩
    rw [List.length_map]
    have hll : l.length ≤ T.length := nodup_bound _ l nd fun x hx => tb.rc_lt (hrc x hx)
    by_cases hi : i < l.length
    · rw [if_pos (decide_eq_true (by omega))]
      have hx : l[i]? = some (l.getD i 0) := by rw [List.getD, List.getElem?_eq_getElem hi]; rfl
      have hxr := hrc _ (List.mem_of_getElem? hx)
      have h00 : (T.map tn)[0]? = some (tn (T.getD 0 [])) := by rw [List.getElem?_map, (tb.at_ tb.ne).1]; rfl
      refine vss_cons <| vs_for [4] (vi_list <| ve_callF C2 hr <| ves_cons <| ve_c1 bb_len <| ve_sub <| ve_name 0 rfl <| ve_int <| ix_d (.dt _) (atI_nat (j := 0) h00) <| len_d (.dt _) <| ves_nil ⟨[ni m], _, by rw [List.length_map, (tb.at_ tb.ne).2.1]; rfl, ⟨m, rfl, by omega, rfl⟩, _, rfl, fun j e => ∃ (l2 : List Nat) (o4 : Option VL.T), (∃ t, l2 = l ++ t) ∧ l2.Nodup ∧ (∀ x ∈ l2, Rc T m x) ∧ (∀ c ∈ (sg m).take j, stp T (l.getD i 0) c ∈ l2) ∧ e = [some (.d (tD T)), some (ls pf (l2.map ni)), some (.d (ni i)), some (dcT pd kts), o4], ⟨l, o4, ⟨[], by simp⟩, nd, hrc, fun c hc => by simp at hc, rfl⟩, fun _ _ _ => trivial, ?_, ?_⟩)
      · rintro j x e hxj ⟨l2, o4, ⟨t, rfl⟩, nd2, hrc2, hst, rfl⟩
        rw [List.getElem?_map, List.getElem?_map] at hxj
        cases ex : (sg m)[j]? with
        | none => rw [ex] at hxj; cases hxj
        | some c =>
        rw [ex] at hxj
        cases hxj
        have hc : okL m c := mem_sg.mp (List.mem_of_getElem? ex)
        have hx2 : (l ++ t)[i]? = some (l.getD i 0) := by rw [List.getElem?_append_left hi]; exact hx
        have hlt := tb.rc_lt hxr
        have hnew : Rc T m (stp T (l.getD i 0) c) := tb.rc_stp hxr hc
        have hl2 : (l ++ t).length ≤ T.length := nodup_bound _ _ nd2 fun x hx => tb.rc_lt (hrc2 x hx)
        refine vg_name 4 <| vss_one <| vs_if <| vt_cmp ?_
        refine ve_dgetT hr.u1 <| ve_name 3 rfl ?_
        refine ves_cons <| ve_sub <| ve_name 1 rfl <| ve_name 2 rfl ?_
        refine ix_d (.rf 1 rfl) (at_tn hx2) ?_
        refine ves_cons <| ve_name 4 rfl <| ves_nil ⟨pd, kts, _, [((l.getD i 0 : Nat) : Int), c], _, rfl, rfl, Nat.le_of_ble_eq_true rfl, .sl 3 rfl, L _ c hlt hc, ?_⟩
        refine ve_name 1 rfl <| notin_nat (.rf 1 rfl) ⟨_, rfl, ?_⟩
        have hst2 : ∀ l3 : List Nat, (∀ x ∈ l ++ t, x ∈ l3) → stp T (l.getD i 0) c ∈ l3 → ∀ d ∈ (sg m).take (j + 1), stp T (l.getD i 0) d ∈ l3 := fun l3 hsub hin d hd => by
          rw [List.take_succ, ex] at hd
          rcases List.mem_append.mp hd with hd | hd
          · exact hsub _ (hst d hd)
          · have : d = c := by simpa using hd
            subst this
            exact hin
        by_cases hmem : stp T (l.getD i 0) c ∈ l ++ t
        · rw [decide_eq_true hmem, if_neg (show ¬ (!true) = true from Bool.false_ne_true)]
          exact vss_nil ⟨l ++ t, some (.d (.int c)), ⟨t, rfl⟩, nd2, hrc2, hst2 _ (fun x hx => hx) hmem, rfl⟩
        · rw [decide_eq_false hmem, if_pos (show (!false) = true from rfl)]
          refine vss_one <| vs_expr <| ve_append 1 (fun _ h => ve_name 1 rfl h) rfl ?_
          refine ve_dgetT hr.u1 <| ve_name 3 rfl ?_
          refine ves_cons <| ve_sub <| ve_name 1 rfl <| ve_name 2 rfl ?_
          refine ix_d (.rf 1 rfl) (at_tn hx2) ?_
          refine ves_cons <| ve_name 4 rfl <| ves_nil ⟨pd, kts, _, [((l.getD i 0 : Nat) : Int), c], _, rfl, rfl, Nat.le_of_ble_eq_true rfl, .sl 3 rfl, L _ c hlt hc, ?_⟩
          refine ⟨_, _, rfl, rfl, by rw [List.length_map, sizeLine_eq]; omega, l ++ t ++ [stp T (l.getD i 0) c], some (.d (.int c)), ⟨t ++ [stp T (l.getD i 0) c], by rw [List.append_assoc]⟩, ?_, ?_, hst2 _ (fun x hx => List.mem_append_left _ hx) (by simp), ?_⟩
          · exact List.nodup_append.mpr ⟨nd2, by simp, fun x hx y hy e => by
              have : y = stp T (l.getD i 0) c := by simpa using hy
              subst this e
              exact hmem hx⟩
          · intro x hx
            rcases List.mem_append.mp hx with hx | hx
            · exact hrc2 x hx
            · have : x = stp T (l.getD i 0) c := by simpa using hx
              subst this
              exact hnew
          · rw [List.map_append (l₂ := [stp T (l.getD i 0) c])]
            rfl
      · rintro e ⟨l2, o4, ⟨t, rfl⟩, nd2, hrc2, hst, rfl⟩
        rw [List.length_map, List.length_map, List.take_length] at hst
        refine vss_one <| vs_augI 2 rfl <| ve_int ⟨1, rfl, k - 1, by omega, l ++ t, i + 1, o4, by omega, by rw [List.length_append]; omega, nd2, List.mem_append_left _ h0, hrc2, fun j x hj hji c hc => ?_, ?_⟩
        · by_cases e : j = i
          · subst e
            rw [List.getElem?_append_left hi, hx] at hj
            have : l.getD j 0 = x := Option.some.inj hj
            rw [← this]
            exact hst c (mem_sg.mpr hc)
          · have hj2 : l[j]? = some x := by
              rw [List.getElem?_append_left (by omega)] at hj
              exact hj
            exact List.mem_append_left _ (hcl j x hj2 (by omega) c hc)
        · rw [show ((i : Nat) : Int) + 1 = ((i + 1 : Nat) : Int) by omega]
          rfl
    · rw [if_neg (fun z => by have := of_decide_eq_true z; omega)]
      refine vss_still 1 rfl <| vss_one <| vs_ret <| ve_name 1 rfl ⟨_, _, .own _, _, ⟨_, rfl, rfl⟩, hQ l fun x => tb.closed h0 (fun x hx k hk => ?_) hrc x⟩
      obtain ⟨j, hj, ej⟩ := List.mem_iff_getElem.mp hx
      have hjl : l[j]? = some x := by rw [List.getElem?_eq_getElem hj, ej]
      have := hcl j x hjl (by omega) ((k : Int) + 1) ⟨by omega, by omega⟩
      unfold stp at this
      rw [if_pos (by omega), show ((k : Int) + 1).toNat - 1 = k by omega] at this
      exact this
end
end K54

/-! text B2 -/
set_option Elab.async false
set_option linter.all false
set_option maxRecDepth 100000
set_option maxHeartbeats 2000000
set_option pp.maxSteps 250
namespace K54
open PySem PySem.Spec L2 VL PM

theorem all_map_id {α : Type} (l : List α) (g : α → Bool) : l.filterMap (fun x => some (PyData.bool (g x))) = (l.map g).map PyData.bool := by
  rw [List.filterMap_eq_map', List.map_map]
  rfl
theorem eqv_nilT (xs : List PyData) : PyData.eqv (.tuple xs) (.tuple []) = xs.isEmpty := by
  cases xs <;> rfl
/-- a number from 0 on, below n -/
def inN (n : Nat) : PyData → Bool
  | .int i => decide (0 ≤ i) && decide (i < (n : Int))
  | _ => false
def rowOk (m n : Nat) : PyData → Bool
  | .tuple ys => decide (ys.length = m) && ys.all (inN n)
  | _ => false
theorem rowOk_tup {m n : Nat} {ys : List PyData} : rowOk m n (.tuple ys) = (decide (ys.length = m) && ys.all (inN n)) := rfl
theorem map_inj {α β : Type} {f : α → β} (hf : ∀ x y, f x = f y → x = y) : ∀ {l m : List α}, l.map f = m.map f → l = m
  | [], [], _ => rfl
  | [], _ :: _, h => by simp at h
  | _ :: _, [], h => by simp at h
  | x :: l, y :: m, h => by
    rw [List.map_cons, List.map_cons] at h
    injection h with h1 h2
    rw [hf x y h1, map_inj hf h2]
theorem ni_inj {x y : Nat} (h : ni x = ni y) : x = y := by
  have h2 : (x : Int) = (y : Int) := by injection h
  omega
theorem tn_inj {x y : List Nat} (h : tn x = tn y) : x = y := map_inj (fun _ _ => ni_inj) (by injection h)
theorem col_map {m : Nat} {T : Tbl} (k : Nat) : T.map (fun r => r.getD k 0) = colT T k := by
  refine List.ext_getElem? fun a => ?_
  unfold colT ent
  rw [List.getElem?_map, List.getElem?_map]
  by_cases ha : a < T.length
  · rw [List.getElem?_range ha, List.getElem?_eq_getElem ha]
    simp [List.getD, ha]
  · rw [List.getElem?_eq_none (by omega), List.getElem?_eq_none (by rw [List.length_range]; omega)]
    rfl
theorem inN_ni {n : Nat} : ∀ {y : PyData}, inN n y = true → ∃ x : Nat, y = ni x ∧ x < n
  | .int i, h => by
    have h' : 0 ≤ i ∧ i < (n : Int) := by simpa [inN] using h
    exact ⟨i.toNat, by show PyData.int i = PyData.int _; congr 1; omega, by omega⟩
theorem all_ni {n : Nat} : ∀ {ys : List PyData}, ys.all (inN n) = true → ∃ r : List Nat, ys = r.map ni ∧ ∀ x ∈ r, x < n
  | [], _ => ⟨[], rfl, fun _ h => by cases h⟩
  | y :: ys, h => by
    rw [List.all_cons, Bool.and_eq_true] at h
    obtain ⟨x, rfl, hx⟩ := inN_ni h.1
    obtain ⟨r, rfl, hr⟩ := all_ni h.2
    refine ⟨x :: r, rfl, fun z hz => ?_⟩
    rcases List.mem_cons.mp hz with rfl | hz
    · exact hx
    · exact hr z hz
theorem rowOk_tn {m n : Nat} : ∀ {x : PyData}, rowOk m n x = true → ∃ r : List Nat, x = tn r ∧ r.length = m ∧ ∀ e ∈ r, e < n
  | .tuple ys, h => by
    have h' : ys.length = m ∧ ys.all (inN n) = true := by
      have := h
      unfold rowOk at this
      rw [Bool.and_eq_true, decide_eq_true_iff] at this
      exact this
    obtain ⟨r, rfl, hr⟩ := all_ni h'.2
    exact ⟨r, rfl, by rw [← h'.1, List.length_map], hr⟩
theorem rows_tn {m n : Nat} : ∀ {xs : List PyData}, (∀ x ∈ xs, rowOk m n x = true) → ∃ T : Tbl, xs = T.map tn ∧ ∀ r ∈ T, r.length = m ∧ ∀ e ∈ r, e < n
  | [], _ => ⟨[], rfl, fun _ h => by cases h⟩
  | x :: xs, h => by
    obtain ⟨r, rfl, hr⟩ := rowOk_tn (h x List.mem_cons_self)
    obtain ⟨T, rfl, hT⟩ := rows_tn fun y hy => h y (List.mem_cons_of_mem _ hy)
    refine ⟨r :: T, rfl, fun z hz => ?_⟩
    rcases List.mem_cons.mp hz with rfl | hz
    · exact hr
    · exact hT z hz
theorem tn_rowOk {m n : Nat} {r : List Nat} (hl : r.length = m) (hr : ∀ e ∈ r, e < n) : rowOk m n (tn r) = true := by
  unfold rowOk
  rw [Bool.and_eq_true, decide_eq_true_iff, List.length_map, List.all_eq_true]
  refine ⟨hl, fun y hy => ?_⟩
  obtain ⟨x, hx, rfl⟩ := List.mem_map.mp hy
  have := hr x hx
  simp [inN]
  omega
def FormV (m : Nat) (v : PyData) : Prop := ∃ T : Tbl, v = tD T ∧ Tb m T
theorem FormV.rows {m : Nat} {xs : List PyData} (h : FormV m (.tuple xs)) : xs ≠ [] ∧ ∀ x ∈ xs, rowOk m xs.length x = true := by
  obtain ⟨T, e, tb⟩ := h
  have e1 : xs = T.map tn := by injection e
  subst e1
  refine ⟨fun z => ?_, fun x hx => ?_⟩
  · have := tb.ne
    have z2 : T = [] := by simpa using z
    rw [z2] at this
    cases this
  · obtain ⟨r, hr, rfl⟩ := List.mem_map.mp hx
    rw [List.length_map]
    exact tn_rowOk (tb.row r hr).1 (tb.row r hr).2
theorem dis_nd : ∀ l : List Key, dis l = l.length ↔ l.Nodup
  | [] => by simp [dis]
  | k :: l => by
    have ih := dis_nd l
    have hle := dis_le l
    rw [List.nodup_cons, List.length_cons]
    have hk : hasK l k = true ↔ k ∈ l := by
      unfold hasK
      rw [List.any_eq_true]
      exact ⟨fun ⟨j, hj, e⟩ => (of_decide_eq_true e) ▸ hj, fun h => ⟨k, h, decide_eq_true rfl⟩⟩
    show (if hasK l k = true then dis l else dis l + 1) = l.length + 1 ↔ _
    by_cases h : hasK l k = true
    · rw [if_pos h]
      constructor
      · intro e
        omega
      · exact fun e => absurd (hk.mp h) e.1
    · rw [if_neg h]
      constructor
      · exact fun e => ⟨fun z => h (hk.mpr z), ih.mp (by omega)⟩
      · exact fun e => by rw [ih.mpr e.2]
open Classical in
def pForm (xs : List PyData) (y : PyData) : Prop := ∃ (m : Nat) (v : PyData), xs = [ni m, v] ∧ m ≤ 100 ∧ v.plain = true ∧ v.depth ≤ 60 ∧ (∀ ys, v = .tuple ys → ys.length ≤ 1000) ∧ y = .bool (decide (FormV m v))
section
variable {P : Program} {w : World} {K : PySem.W.Frag} {mg : Str → Option Value} {base : Heap} {f : Addr} {fd : FuncData}
theorem scForm : FnScope ["m", "value", "row", "one", "k"] ["m", "value"] (defScope (top 4)) := ⟨rfl, rfl, rfl, by decide +kernel, rfl, by decide +kernel, by decide +kernel⟩
theorem ok_form (Fu : FnP K "is_table_form" (top 4) f fd) (m1 : mg "isinstance" = none) (m2 : mg "tuple" = none) (m3 : mg "len" = none) (m4 : mg "all" = none) (m5 : mg "int" = none) (m6 : mg "bool" = none) (m7 : mg "range" = none) : FnV P w K mg base 1 f fd ["m", "value"] (spF pForm) := by
  refine FnV.ofD (fun_of Fu) scForm (fun xs y h => ?_) (fun X xs y hr hN h hX => ?_)
  · obtain ⟨m, v, rfl, _⟩ := h
    rfl
  · obtain ⟨cdv, A, outer, s, H, rfl⟩ := hX
    obtain ⟨m, v, rfl, hm, hpl, hdp, hlen, rfl⟩ := h
    classical
    have no : ¬ FormV m v → VSs (cxOf CX0 P w K mg base ["m", "value", "row", "one", "k"] "is_table_form" (defScope (top 4)) f cdv A outer s H E0).nox [.Return (some (.Constant (.bool false) 0 ⟨31, 15, 31, 20⟩)) ⟨31, 8, 31, 20⟩] [some (.d (ni m)), some (.d v), none, none, none] (Dd (.bool (decide (FormV m v))) 2) := fun h => by
      rw [decide_eq_false h]
      exact vss_one <| vs_retD <| ve_bl ⟨rfl, rfl⟩
    refine vss_cons <| vs_if <| vt_w <| vw_or <| vt_not <| vt_val <| ve_isi "tuple" <| ve_name 1 rfl ⟨_, _, rfl, kit_tuple v, _, rfl, ?_⟩
    have htup : (!isTuple v) = true ∨ ∃ xs, v = .tuple xs := by
      cases v with
      | tuple xs => exact .inr ⟨xs, rfl⟩
      | _ => exact .inl rfl
    rcases htup with hnt | ⟨xs, rfl⟩
    · rw [if_pos hnt, if_pos rfl]
      refine vss_one <| vs_retD' rfl <| ve_bl ⟨?_, rfl⟩
      rw [decide_eq_false fun ⟨T, e, _⟩ => by rw [e] at hnt; simp [isTuple] at hnt]
    have hxl := hlen xs rfl
    rw [if_neg (by simp [isTuple])]
    refine vw_or1 <| vt_cmp <| ve_name 1 rfl <| ve_tuple <| ves_nil ⟨[], rfl, sz rfl, eq_p hr.u (.d _) (.d _) hpl rfl hdp ⟨_, rfl, ?_⟩⟩
    rw [eqv_nilT]
    by_cases hxe : xs = []
    · subst hxe
      rw [if_pos (show ([] : List PyData).isEmpty = true from rfl)]
      refine vss_one <| vs_retD' rfl <| ve_bl ⟨?_, rfl⟩
      rw [decide_eq_false fun h => h.rows.1 rfl]
    rw [if_neg (by simpa using hxe)]
    refine vss_nil <| vss_cons <| vs_for [2] (vi_tup <| ve_name 1 rfl ⟨_, rfl, fun i e => (∀ x ∈ xs.take i, rowOk m xs.length x = true) ∧ ∃ o2, e = [some (.d (ni m)), some (.d (.tuple xs)), o2, none, none], ⟨fun x hx => by simp at hx, none, rfl⟩, fun _ _ _ => trivial, ?_, ?_⟩)
    · rintro i x e hx ⟨hok, o2, rfl⟩
      rw [List.getElem?_map] at hx
      cases ex : xs[i]? with
      | none => rw [ex] at hx; cases hx
      | some d =>
      rw [ex] at hx
      cases hx
      have hdm := List.mem_of_getElem? ex
      have bad : rowOk m xs.length d = false → decide (FormV m (.tuple xs)) = false := fun hb => decide_eq_false fun h => by
        have := h.rows.2 d hdm
        rw [hb] at this
        cases this
      refine vg_name 2 <| vss_cons <| vs_if <| vt_w <| vw_or <| vt_not <| vt_val <| ve_isi "tuple" <| ve_name 2 rfl ⟨_, _, rfl, kit_tuple d, _, rfl, ?_⟩
      have hdt : (!isTuple d) = true ∨ ∃ ys, d = .tuple ys := by
        cases d with
        | tuple ys => exact .inr ⟨ys, rfl⟩
        | _ => exact .inl rfl
      rcases hdt with hnt | ⟨ys, rfl⟩
      · rw [if_pos hnt, if_pos rfl]
        refine vss_one <| vs_retD' rfl <| ve_bl ⟨?_, rfl⟩
        rw [bad (by cases d <;> first | rfl | simp [isTuple] at hnt)]
      rw [if_neg (by simp [isTuple])]
      refine vw_or1 <| vt_cmp <| ve_c1 bb_len <| ve_name 2 rfl <| len_d (.dt _) <| ve_name 0 rfl <| ne_i ⟨_, rfl, ?_⟩
      by_cases hyl : ys.length = m
      · rw [show (!decide ((ys.length : Int) = (m : Int))) = false by simp [hyl], if_neg Bool.false_ne_true]
        refine vss_nil <| vss_one <| vs_if <| vt_not <| vt_val <| ve_c1 bb_all <| ve_lc [("one", 3)] (vi_tup <| ve_name 2 rfl ⟨_, rfl, ?_⟩)
        refine lcq_l ys id (fun y => some (.bool (inN xs.length y))) [some (.d (ni m)), some (.d (.tuple xs)), some (.d (.tuple ys)), none, none] (by simp) rfl trivial (by rw [sizeLine_eq]; omega) ?_ ?_
        · intro i0 y hy p1
          refine vg_name 3 fun p2 => vts_nil ?_
          rw [if_pos rfl]
          refine fun p3 => ve_and <| ve_isi "int" <| ve_name 3 rfl ⟨_, _, rfl, kit_int y, _, rfl, ?_⟩
          cases y with
          | int j =>
            refine ve_and <| ve_not <| ve_isi "bool" <| ve_name 3 rfl ⟨_, _, rfl, kit_bool _, _, rfl, _, rfl, ?_⟩
            refine ve_one <| ve_chain <| ve_int ⟨0, rfl, ve_name 3 rfl ⟨j, rfl, le_i ⟨_, rfl, ?_⟩⟩⟩
            cases h0 : decide (0 ≤ j) with
            | true =>
              rw [if_pos rfl]
              refine ve_c1 bb_len <| ve_name 1 rfl <| len_d (.dt _) ⟨(xs.length : Int), rfl, lt_i ⟨_, rfl, ?_, rfl⟩⟩
              show some (PyData.bool (decide (0 ≤ j) && decide (j < (xs.length : Int)))) = _
              rw [h0, Bool.true_and]
            | false =>
              rw [if_neg Bool.false_ne_true]
              refine ⟨_, rfl, ?_, rfl⟩
              show some (PyData.bool (decide (0 ≤ j) && decide (j < (xs.length : Int)))) = _
              rw [h0, Bool.false_and]
          | bool b => exact ve_and <| ve_not <| ve_isi "bool" <| ve_name 3 rfl ⟨_, _, rfl, kit_bool _, _, rfl, _, rfl, _, rfl, rfl, rfl⟩
          | _ => exact ⟨_, rfl, rfl, rfl⟩
        · intro p
          rw [all_map_id]
          refine all_b rfl (.nd _ _) ⟨_, rfl, ?_⟩
          rw [show (ys.map (inN xs.length)).all id = ys.all (inN xs.length) by rw [List.all_map]; rfl]
          cases ha : ys.all (inN xs.length) with
          | false =>
            rw [if_pos (show (!false) = true from rfl)]
            refine vss_one <| vs_retD' rfl <| ve_bl ⟨?_, rfl⟩
            rw [bad (by rw [rowOk_tup, ha, Bool.and_false])]
          | true =>
            rw [if_neg (show ¬ (!true) = true from Bool.false_ne_true)]
            refine vss_nil ⟨fun x hx => ?_, _, rfl⟩
            rw [List.take_succ, ex] at hx
            rcases List.mem_append.mp hx with h | h
            · exact hok x h
            · have : x = .tuple ys := by simpa using h
              subst this
              rw [rowOk_tup, ha, decide_eq_true hyl]
              rfl
      · rw [show (!decide ((ys.length : Int) = (m : Int))) = true by simp; omega, if_pos rfl]
        refine vss_one <| vs_retD' rfl <| ve_bl ⟨?_, rfl⟩
        rw [bad (by rw [rowOk_tup, decide_eq_false hyl]; rfl)]
    · rintro e ⟨hok, o2, rfl⟩
      rw [List.length_map, List.take_length] at hok
      obtain ⟨T, hT, hrow⟩ := rows_tn hok
      subst hT
      rw [List.length_map] at hrow hxl
      have hT0 : 0 < T.length := List.length_pos_iff.mpr fun z => hxe (by rw [z]; rfl)
      have hform : FormV m (tD T) ↔ ∀ k, k < m → (colT T k).Nodup := by
        rw [← tb_iff hT0 hrow]
        constructor
        · rintro ⟨T', e, tb⟩
          have e1 : T.map tn = T'.map tn := by injection e
          have e2 : T = T' := map_inj (fun _ _ => tn_inj) e1
          rw [e2]
          exact tb
        · exact fun tb => ⟨T, rfl, tb⟩
      refine vss_forget 2 <| vss_one <| vs_retD <| ve_c1 bb_all <| ve_lc [("k", 4)] (vi_range1 <| ve_name 0 rfl ⟨_, rfl, by omega, by omega, ?_⟩)
      refine lcq_l (List.range m) ni (fun k => some (.bool (decide ((colT T k).Nodup)))) [some (.d (ni m)), some (.d (tD T)), none, none, none] (by simp [rng]) rfl trivial (by rw [sizeLine_eq, List.length_range]; omega) ?_ ?_
      · intro i0 k hk p1
        obtain ⟨hk, rfl⟩ := range_get' hk
        refine vg_name 4 fun p2 => vts_nil ?_
        rw [if_pos rfl]
        intro p3
        refine ve_cmp <| ve_dis [("row", 2)] (vi_tup <| ve_name 1 rfl ⟨_, rfl, ?_⟩)
        refine ⟨fun i acc e => acc = ((T.take i).map fun r => (Sum.inl ((r.getD k 0 : Nat) : Int) : Key)).reverse ∧ e = [some (.d (ni m)), some (.d (tD T)), none, none, some (.d (ni k))], ⟨by simp, rfl⟩, ?_, ?_, ?_⟩
        · rintro i acc e ⟨rfl, rfl⟩
          refine ⟨trivial, ?_⟩
          rw [List.length_reverse, List.length_map, List.length_take]
          omega
        · rintro i x acc e hx ⟨rfl, rfl⟩ p4
          rw [List.getElem?_map] at hx
          cases ex : (T.map tn)[i]? with
          | none => rw [ex] at hx; cases hx
          | some d =>
          rw [ex] at hx
          cases hx
          obtain ⟨r, hr1, rfl⟩ := rows_get ex
          have hrl := (hrow r (List.mem_of_getElem? hr1)).1
          refine vg_name 2 fun p5 => vts_nil ?_
          rw [if_pos rfl]
          refine fun p6 => ve_sub <| ve_name 2 rfl <| ve_name 4 rfl <| ix_d (.dt _) (at_tn (show r[k]? = some (r.getD k 0) by rw [List.getD, List.getElem?_eq_getElem (by omega)]; rfl)) ⟨.inl ((r.getD k 0 : Nat) : Int), rfl, ?_, rfl⟩
          rw [List.take_succ, hr1, List.map_append, List.reverse_append]
          rfl
        · rintro acc e ⟨rfl, rfl⟩
          rw [List.length_map, List.length_map, List.take_length]
          refine ve_c1 bb_len <| ve_name 1 rfl <| len_d (.dt _) <| eq_i ⟨_, rfl, ?_, rfl⟩
          congr 2
          have e1 : (T.map fun r => (Sum.inl ((r.getD k 0 : Nat) : Int) : Key)) = (colT T k).map fun x : Nat => (Sum.inl (x : Int) : Key) := by
            rw [← col_map (m := m) k, List.map_map]
            rfl
          have hcl : (colT T k).length = T.length := by simp [colT]
          rw [e1, List.length_map, Bool.eq_iff_iff, decide_eq_true_iff, decide_eq_true_iff]
          have hd := dis_nd ((colT T k).map fun x : Nat => (Sum.inl (x : Int) : Key)).reverse
          rw [List.length_reverse, List.length_map, hcl, (List.reverse_perm _).nodup_iff] at hd
          have hn : ((colT T k).map fun x : Nat => (Sum.inl (x : Int) : Key)).Nodup ↔ (colT T k).Nodup := by
            constructor
            · exact fun h => List.Pairwise.imp (fun {a b} h2 e => h2 (by rw [e])) (List.pairwise_map.mp h)
            · exact fun h => nodup_map (fun x _ y _ e => by have := Sum.inl.inj e; omega) h
          rw [← hn, ← hd]
          omega
      · intro p
        rw [all_map_id]
        refine all_b rfl (.nd _ _) ⟨?_, rfl⟩
        congr 2
        rw [Bool.eq_iff_iff, decide_eq_true_iff, hform, List.all_map, List.all_eq_true]
        exact ⟨fun h k hk => of_decide_eq_true (h k (List.mem_range.mpr hk)), fun h k hk => decide_eq_true (h k (List.mem_range.mp hk))⟩
end
end K54

/-! text B3 -/
set_option Elab.async false
set_option linter.all false
set_option maxRecDepth 100000
set_option maxHeartbeats 2000000
set_option pp.maxSteps 250
namespace K54
open PySem PySem.Spec L2 VL PM

abbrev wsD (ws : List (List Int)) : PyData := .tuple (ws.map wD)
abbrev telD (m : Nat) (rel words : List (List Int)) : PyData := .tuple [ni m, wsD rel, wsD words]
noncomputable def JT (m : Nat) (rel words : List (List Int)) (T : Tbl) : PyData := match unr T m with
  | some a => .tuple [.str "joined", ni a]
  | none => match relF T rel 0 with
    | some (i, a) => .tuple [.str "relator", ni i, ni a]
    | none => match worF T words with
      | some i => .tuple [.str "word", ni i]
      | none => .none
open Classical in
noncomputable def JV (m : Nat) (rel words : List (List Int)) (v : PyData) : PyData := if h : FormV m v then JT m rel words h.choose else .tuple [.str "form"]
theorem JV_no {m : Nat} {rel words : List (List Int)} {v : PyData} (h : ¬ FormV m v) : JV m rel words v = .tuple [.str "form"] := by
  unfold JV
  rw [dif_neg h]
theorem JV_tD {m : Nat} {rel words : List (List Int)} {T : Tbl} (tb : Tb m T) : JV m rel words (tD T) = JT m rel words T := by
  have h : FormV m (tD T) := ⟨T, rfl, tb⟩
  unfold JV
  rw [dif_pos h]
  have e := h.choose_spec.1
  have e1 : T.map tn = h.choose.map tn := by injection e
  rw [← map_inj (fun _ _ => tn_inj) e1]
theorem head_find' (p : Nat → Bool) (l : List Nat) : (l.filterMap fun k => if p k = true then some (ni k) else none) = (l.filter p).map ni := by
  induction l with
  | nil => rfl
  | cons x l ih =>
    rw [List.filterMap_cons]
    cases h : p x <;> simp [h, ih]
theorem find_cons {p : Nat → Bool} {l : List Nat} {x : Nat} {r : List Nat} (h : l.filter p = x :: r) : l.find? p = some x := by
  rw [← List.head?_filter, h]
  rfl
theorem find_nil {p : Nat → Bool} {l : List Nat} (h : l.filter p = []) : l.find? p = none := by
  rw [← List.head?_filter, h]
  rfl
structure Tel (m : Nat) (rel words : List (List Int)) : Prop where
  mm : m ≤ 100
  rl : rel.length ≤ 1000
  wl : words.length ≤ 1000
  rr : ∀ w ∈ rel, ∀ k ∈ w, okL m k
  ww : ∀ w ∈ words, ∀ k ∈ w, okL m k
def pJudge (xs : List PyData) (y : PyData) : Prop := ∃ (m : Nat) (rel words : List (List Int)) (v : PyData), xs = [telD m rel words, v] ∧ Tel m rel words ∧ v.plain = true ∧ v.depth ≤ 60 ∧ (∀ ys, v = .tuple ys → ys.length ≤ 1000) ∧ y = JV m rel words v
theorem ws_get {ws : List (List Int)} {i : Nat} {d : PyData} (h : (ws.map wD)[i]? = some d) : ∃ w, ws[i]? = some w ∧ d = wD w := by
  rw [List.getElem?_map] at h
  cases eb : ws[i]? with
  | none => rw [eb] at h; cases h
  | some c => rw [eb] at h; cases h; exact ⟨c, rfl, rfl⟩
section
variable {P : Program} {w : World} {K : PySem.W.Frag} {mg : Str → Option Value} {base : Heap} {f : Addr} {fd : FuncData}
theorem scJudge : FnScope ["telling", "value", "m", "relators", "words", "known", "missing", "a", "i", "word", "wrong"] ["telling", "value"] (defScope (top 6)) := ⟨rfl, rfl, rfl, by decide +kernel, rfl, by decide +kernel, by decide +kernel⟩
theorem ok_judge (Fu : FnP K "judge_table" (top 6) f fd) (C1 : DefV P w K mg base 2 "is_table_form" (spF pForm)) (C2 : DefV P w K mg base 2 "names_from_first" spNames) (C3 : DefV P w K mg base 2 "gone_to" (spF pGone)) (m1 : mg "range" = none) (m2 : mg "len" = none) (m3 : mg "enumerate" = none) : FnV P w K mg base 3 f fd ["telling", "value"] (spF pJudge) := by
  refine FnV.ofD (fun_of Fu) scJudge (fun xs y h => ?_) (fun X xs y hr hN h hX => ?_)
  · obtain ⟨m, rel, words, v, rfl, _⟩ := h
    rfl
  · obtain ⟨cdv, A, outer, s, H, rfl⟩ := hX
    obtain ⟨m, rel, words, v, rfl, tel, hpl, hdp, hlen, rfl⟩ := h
    classical
    have hm := tel.mm
    have hrl := tel.rl
    have hwl := tel.wl
    refine vss_cons <| vs_asg [2, 3, 4] <| ve_name 0 rfl ⟨_, _, .own _, vg_row <| vg_tup (.cons (nmT 2) <| .cons (nmT 3) <| .cons (nmT 4) .nil) rfl ?_⟩
    refine vss_cons <| vs_if <| vt_not <| vt_val <| ve_callF C1 hr <| ves_cons <| ve_name 2 rfl <| ves_cons <| ve_name 1 rfl <| ves_nil ⟨[ni m, v], _, rfl, ⟨m, v, rfl, tel.mm, hpl, hdp, hlen, rfl⟩, _, rfl, ?_⟩
    by_cases hf : FormV m v
    · obtain ⟨T, rfl, tb⟩ := hf
      rw [decide_eq_true (show FormV m (tD T) from ⟨T, rfl, tb⟩), if_neg (show ¬ (!true) = true from Bool.false_ne_true), JV_tD tb]
      have hn : T.length ≤ 1000 := by
        have := hlen _ rfl
        rw [List.length_map] at this
        exact this
      refine vss_nil <| vss_cons <| vs_set 5 <| ve_call C2 hr <| ves_cons <| ve_name 1 rfl <| ves_nil ⟨[.d (tD T)], rfl, T, m, rfl, tb, hn, tel.mm, fun l hl => ⟨_, _, .own _, ?_⟩⟩
      refine vss_cons <| vs_lc 6 [("a", 7)] (vi_range1 <| ve_c1 bb_len <| ve_name 1 rfl <| len_d (.dt _) ⟨_, rfl, by omega, by rw [List.length_map]; omega, ?_⟩)
      refine lcq_l (List.range T.length) ni (fun a => if decide (¬ Rc T m a) = true then some (ni a) else none) [some (.d (telD m rel words)), some (.d (tD T)), some (.d (ni m)), some (.d (wsD rel)), some (.d (wsD words)), some (.d (.list (l.map ni))), none, none, none, none, none] (rng_l _ _) rfl trivial (by rw [sizeLine_eq, List.length_range]; omega) ?_ ?_
      · intro i0 a ha p1
        obtain ⟨ha, rfl⟩ := range_get' ha
        refine vg_name 7 fun p2 => vts_one <| vt_cmp <| ve_name 7 rfl <| ve_name 5 rfl <| notin_nat (.dl _) ⟨_, rfl, ?_⟩
        have e : (!decide (a ∈ l)) = decide (¬ Rc T m a) := by
          rw [Bool.eq_iff_iff, Bool.not_eq_true', decide_eq_false_iff_not, decide_eq_true_iff, hl a]
        rw [e]
        cases hb : decide (¬ Rc T m a) with
        | true =>
          rw [if_pos rfl]
          exact fun p3 => ve_name 7 rfl ⟨_, rfl, if_pos rfl, rfl⟩
        | false =>
          rw [if_neg Bool.false_ne_true]
          exact ⟨if_neg Bool.false_ne_true, rfl⟩
      intro p1
      rw [head_find']
      refine ⟨_, _, .own _, ?_⟩
      cases hun : (List.range T.length).filter fun a => decide (¬ Rc T m a) with
      | cons a0 ar =>
        have hu : unr T m = some a0 := find_cons hun
        refine vss_cons <| vs_if <| vt_cmp <| ve_name 6 rfl <| ve_list <| ves_nil ⟨[], rfl, sz rfl, fun p4 => ?_⟩
        refine ne_p hr.u (.rf 6 rfl) (.nd p4 []) (plain_lni _) rfl (depth_lni _) ⟨_, rfl, ?_⟩
        rw [eqv_nilL, emp_map, if_pos (by simp)]
        refine vss_one <| vs_retD' rfl <| ve_tuple <| ves_cons <| ve_str <| ves_cons <| ve_sub <| ve_name 6 rfl <| ve_int <| ix_d (.rf 6 rfl) (at_tn (l := a0 :: ar) (i := 0) rfl) <| ves_nil ⟨[.str "joined", ni a0], rfl, sz rfl, ?_, rfl⟩
        unfold JT
        rw [hu]
      | nil =>
        have hu : unr T m = none := find_nil hun
        refine vss_cons <| vs_if <| vt_cmp <| ve_name 6 rfl <| ve_list <| ves_nil ⟨[], rfl, sz rfl, fun p4 => ?_⟩
        refine ne_p hr.u (.rf 6 rfl) (.nd p4 []) (plain_lni []) rfl (depth_lni _) ⟨_, rfl, ?_⟩
        rw [eqv_nilL, emp_map, if_neg (by simp)]
        refine vss_nil <| vss_cons <| vs_for [8, 9] (vi_enumT <| ve_name 3 rfl ⟨_, rfl, fun i e => (∀ u ∈ rel.take i, badW T u = none) ∧ ∃ o6 o7 o8 o9 o10, e = [some (.d (telD m rel words)), some (.d (tD T)), some (.d (ni m)), some (.d (wsD rel)), some (.d (wsD words)), some (.d (.list (l.map ni))), o6, o7, o8, o9, o10], ⟨fun u hu => by simp at hu, _, none, none, none, none, rfl⟩, fun _ _ _ => trivial, ?_, ?_⟩)
        · rintro i x e hx ⟨hbad, o6, o7, o8, o9, o10, rfl⟩
          obtain ⟨d, hd, rfl⟩ := enu_get hx
          obtain ⟨u, hu1, rfl⟩ := ws_get hd
          have huok := tel.rr u (List.mem_of_getElem? hu1)
          refine vg_tup (.cons (nmT 8) <| .cons (nmT 9) .nil) rfl ?_
          refine vss_forget 7 ?_
          refine vss_cons <| vs_lc 10 [("a", 7)] (vi_range1 <| ve_c1 bb_len <| ve_name 1 rfl <| len_d (.dt _) ⟨_, rfl, by omega, by rw [List.length_map]; omega, ?_⟩)
          refine lcq_l (List.range T.length) ni (fun a => if decide (gon T a u ≠ a) = true then some (ni a) else none) [some (.d (telD m rel words)), some (.d (tD T)), some (.d (ni m)), some (.d (wsD rel)), some (.d (wsD words)), some (.d (.list (l.map ni))), o6, none, some (.d (ni i)), some (.d (wD u)), o10] (rng_l _ _) rfl trivial (by rw [sizeLine_eq, List.length_range]; omega) ?_ ?_
          · intro i0 a ha p1
            obtain ⟨ha, rfl⟩ := range_get' ha
            refine vg_name 7 fun p2 => vts_one <| vt_cmp <| ve_callF C3 hr <| ves_cons <| ve_name 1 rfl <| ves_cons <| ve_name 7 rfl <| ves_cons <| ve_name 9 rfl <| ves_nil ⟨[tD T, ni a, wD u], _, rfl, ⟨T, m, a, u, rfl, tb, hn, hm, ha, huok, rfl⟩, ve_name 7 rfl <| ne_i ⟨_, rfl, ?_⟩⟩
            have e : (!decide (((gon T a u : Nat) : Int) = (a : Int))) = decide (gon T a u ≠ a) := by
              rw [Bool.eq_iff_iff, Bool.not_eq_true', decide_eq_false_iff_not, decide_eq_true_iff]
              omega
            rw [e]
            cases hb : decide (gon T a u ≠ a) with
            | true =>
              rw [if_pos rfl]
              exact fun p3 => ve_name 7 rfl ⟨_, rfl, if_pos rfl, rfl⟩
            | false =>
              rw [if_neg Bool.false_ne_true]
              exact ⟨if_neg Bool.false_ne_true, rfl⟩
          intro p5
          rw [head_find']
          refine ⟨_, _, .own _, ?_⟩
          cases hbw : (List.range T.length).filter fun a => decide (gon T a u ≠ a) with
          | cons a0 ar =>
            have hb : badW T u = some a0 := find_cons hbw
            refine vss_one <| vs_if <| vt_cmp <| ve_name 10 rfl <| ve_list <| ves_nil ⟨[], rfl, sz rfl, fun p4 => ?_⟩
            refine ne_p hr.u (.rf 10 rfl) (.nd p4 []) (plain_lni _) rfl (depth_lni _) ⟨_, rfl, ?_⟩
            rw [eqv_nilL, emp_map, if_pos (by simp)]
            refine vss_one <| vs_retD' rfl <| ve_tuple <| ves_cons <| ve_str <| ves_cons <| ve_name 8 rfl <| ves_cons <| ve_sub <| ve_name 10 rfl <| ve_int <| ix_d (.rf 10 rfl) (at_tn (l := a0 :: ar) (i := 0) rfl) <| ves_nil ⟨[.str "relator", ni i, ni a0], rfl, sz rfl, ?_, rfl⟩
            unfold JT
            rw [hu, relF_at hu1 hb hbad, Nat.zero_add]
          | nil =>
            have hb : badW T u = none := find_nil hbw
            refine vss_one <| vs_if <| vt_cmp <| ve_name 10 rfl <| ve_list <| ves_nil ⟨[], rfl, sz rfl, fun p4 => ?_⟩
            refine ne_p hr.u (.rf 10 rfl) (.nd p4 []) (plain_lni []) rfl (depth_lni _) ⟨_, rfl, ?_⟩
            rw [eqv_nilL, emp_map, if_neg (by simp)]
            refine vss_nil ⟨fun z hz => ?_, o6, none, some (.d (ni i)), some (.d (wD u)), _, rfl⟩
            rw [List.take_succ, hu1] at hz
            rcases List.mem_append.mp hz with h | h
            · exact hbad z h
            · have : z = u := by simpa using h
              rw [this]
              exact hb
        · rintro e ⟨hbad, o6, o7, o8, o9, o10, rfl⟩
          rw [enu_len, List.length_map, List.take_length] at hbad
          have hrf : relF T rel 0 = none := relF_none hbad
          refine vss_forget 8 <| vss_forget 9 ?_
          refine vss_cons <| vs_lc 10 [("i", 8), ("word", 9)] (vi_enumT <| ve_name 4 rfl ⟨_, rfl, ?_⟩)
          refine lcq_i (List.range (words.map wD).length) (fun i => .row [.int (i : Nat), (words.map wD).getD i .none]) (fun i => if decide (gon T 0 (words.getD i []) ≠ 0) = true then some (ni i) else none) [some (.d (telD m rel words)), some (.d (tD T)), some (.d (ni m)), some (.d (wsD rel)), some (.d (wsD words)), some (.d (.list (l.map ni))), o6, o7, none, none, o10] rfl rfl trivial (by rw [sizeLine_eq, List.length_range, List.length_map]; omega) ?_ ?_
          · intro i0 i hi p1
            obtain ⟨hi, rfl⟩ := range_get' hi
            rw [List.length_map] at hi
            have hu1 : words[i]? = some (words.getD i []) := by rw [List.getD, List.getElem?_eq_getElem hi]; rfl
            have eu : (words.map wD).getD i .none = wD (words.getD i []) := by
              rw [List.getD_eq_getElem?_getD, List.getElem?_map, hu1]
              rfl
            rw [eu]
            have huok := tel.ww _ (List.mem_of_getElem? hu1)
            refine vg_tup (.cons (nmT 8) <| .cons (nmT 9) .nil) rfl fun p2 => vts_one <| vt_cmp <| ve_callF C3 hr <| ves_cons <| ve_name 1 rfl <| ves_cons <| ve_int <| ves_cons <| ve_name 9 rfl <| ves_nil ⟨[tD T, ni 0, wD (words.getD i [])], _, rfl, ⟨T, m, 0, _, rfl, tb, hn, hm, tb.ne, huok, rfl⟩, ve_int <| ne_i ⟨_, rfl, ?_⟩⟩
            have e : (!decide (((gon T 0 (words.getD i []) : Nat) : Int) = 0)) = decide (gon T 0 (words.getD i []) ≠ 0) := by
              rw [Bool.eq_iff_iff, Bool.not_eq_true', decide_eq_false_iff_not, decide_eq_true_iff]
              omega
            rw [e]
            cases hb : decide (gon T 0 (words.getD i []) ≠ 0) with
            | true =>
              rw [if_pos rfl]
              exact fun p3 => ve_name 8 rfl ⟨_, rfl, if_pos rfl, rfl⟩
            | false =>
              rw [if_neg Bool.false_ne_true]
              exact ⟨if_neg Bool.false_ne_true, rfl⟩
          intro p5
          rw [head_find', List.length_map]
          refine ⟨_, _, .own _, vss_one <| vs_retD <| ve_ifExp <| vt_cmp <| ve_name 10 rfl <| ve_list <| ves_nil ⟨[], rfl, sz rfl, fun p4 => ?_⟩⟩
          cases hwf : (List.range words.length).filter fun i => decide (gon T 0 (words.getD i []) ≠ 0) with
          | cons a0 ar =>
            have hw : worF T words = some a0 := find_cons hwf
            refine ne_p hr.u (.rf 10 rfl) (.nd p4 []) (plain_lni _) rfl (depth_lni _) ⟨_, rfl, ?_⟩
            rw [eqv_nilL, emp_map, if_pos (by simp)]
            refine ve_tuple <| ves_cons <| ve_str <| ves_cons <| ve_sub <| ve_name 10 rfl <| ve_int <| ix_d (.rf 10 rfl) (at_tn (l := a0 :: ar) (i := 0) rfl) <| ves_nil ⟨[.str "word", ni a0], rfl, sz rfl, ?_, rfl⟩
            unfold JT
            rw [hu, hrf, hw]
          | nil =>
            have hw : worF T words = none := find_nil hwf
            refine ne_p hr.u (.rf 10 rfl) (.nd p4 []) (plain_lni []) rfl (depth_lni _) ⟨_, rfl, ?_⟩
            rw [eqv_nilL, emp_map, if_neg (by simp)]
            refine ve_non ⟨?_, rfl⟩
            unfold JT
            rw [hu, hrf, hw]
    · rw [decide_eq_false hf, if_pos (show (!false) = true from rfl), JV_no hf]
      exact vss_one <| vs_retD' rfl <| ve_tuple <| ves_cons <| ve_str <| ves_nil ⟨[.str "form"], rfl, sz rfl, rfl, rfl⟩
end
end K54

/-! text B4 -/
set_option Elab.async false
set_option linter.all false
set_option maxRecDepth 100000
set_option maxHeartbeats 2000000
set_option pp.maxSteps 250
namespace PM
/-- the letters of a row that a folding breaks -/
def badsR (T O : Tbl) (im : List Nat) (m a : Nat) : List Nat := (List.range m).filter fun k => decide (ent O (ap im a) k ≠ ap im (ent T a k))
def badsTo (T O : Tbl) (im : List Nat) (m i : Nat) : List (Nat × Nat) := (List.range i).flatMap fun a => (badsR T O im m a).map fun k => (a, k)
theorem badsTo_succ (T O : Tbl) (im : List Nat) (m i : Nat) : badsTo T O im m (i + 1) = badsTo T O im m i ++ (badsR T O im m i).map fun k => (i, k) := by
  unfold badsTo
  rw [List.range_succ, List.flatMap_append]
  simp
theorem badsTo_head {T O : Tbl} {im : List Nat} {m a k n : Nat} {r : List Nat} (h0 : badsTo T O im m a = []) (h1 : badsR T O im m a = k :: r) (ha : a < n) : (badsTo T O im m n).head? = some (a, k) := by
  have h2 : (badsTo T O im m (a + 1)).head? = some (a, k) := by
    rw [badsTo_succ, h0, h1]
    rfl
  have go : ∀ d, (badsTo T O im m (a + 1 + d)).head? = some (a, k) := by
    intro d
    induction d with
    | zero => exact h2
    | succ d ih =>
      rw [show a + 1 + (d + 1) = a + 1 + d + 1 by omega, badsTo_succ, List.head?_append, ih]
      rfl
  have := go (n - (a + 1))
  rwa [show a + 1 + (n - (a + 1)) = n by omega] at this
/-- two tables' shapes -/
structure Two (m q : Nat) (T O : Tbl) : Prop where
  q0 : 0 < q
  tl : T.length = q
  ol : O.length = q
  tr : ∀ r ∈ T, r.length = m ∧ ∀ x ∈ r, x < q
  or : ∀ r ∈ O, r.length = m ∧ ∀ x ∈ r, x < q
end PM
namespace K54
open PySem PySem.Spec L2 VL PM
theorem fm_filter {α : Type} (p : α → Bool) (g : α → PyData) (l : List α) : (l.filterMap fun k => if p k = true then some (g k) else none) = (l.filter p).map g := by
  induction l with
  | nil => rfl
  | cons x l ih =>
    rw [List.filterMap_cons]
    cases h : p x <;> simp [h, ih]
def FD (m q : Nat) (T O : Tbl) (im : List Nat) : PyData := if ap im 0 ≠ 0 then .tuple [.str "first"] else match (badsTo T O im m q).head? with
  | some (a, k) => .tuple [.str "letter", ni a, ni (k + 1)]
  | none => .none
open Classical in
noncomputable def FV (m q : Nat) (T O : Tbl) (v : PyData) : PyData := if h : ∃ im : List Nat, v = tn im ∧ im.length = q ∧ ∀ x ∈ im, x < q then FD m q T O h.choose else .tuple [.str "form"]
theorem FV_tn {m q : Nat} {T O : Tbl} {im : List Nat} (h1 : im.length = q) (h2 : ∀ x ∈ im, x < q) : FV m q T O (tn im) = FD m q T O im := by
  have h : ∃ im' : List Nat, tn im = tn im' ∧ im'.length = q ∧ ∀ x ∈ im', x < q := ⟨im, rfl, h1, h2⟩
  unfold FV
  rw [dif_pos h, ← tn_inj h.choose_spec.1]
theorem FV_no {m q : Nat} {T O : Tbl} {v : PyData} (h : ¬ ∃ im : List Nat, v = tn im ∧ im.length = q ∧ ∀ x ∈ im, x < q) : FV m q T O v = .tuple [.str "form"] := by
  unfold FV
  rw [dif_neg h]
def pNamed (xs : List PyData) (y : PyData) : Prop := ∃ (v : PyData) (n : Nat), xs = [v, ni n] ∧ y = .bool (inN n v)
def pFold (xs : List PyData) (y : PyData) : Prop := ∃ (m q : Nat) (T O : Tbl) (im : List Nat), xs = [tD T, tD O, tn im] ∧ Two m q T O ∧ q ≤ 1000 ∧ m ≤ 100 ∧ im.length = q ∧ (∀ x ∈ im, x < q) ∧ y = FD m q T O im
def pJFold (xs : List PyData) (y : PyData) : Prop := ∃ (m q : Nat) (T O : Tbl) (v : PyData), xs = [tD T, tD O, .tuple [.str "fold", v]] ∧ Two m q T O ∧ q ≤ 1000 ∧ m ≤ 100 ∧ y = FV m q T O v
theorem row_at {T : Tbl} {q m a : Nat} (hl : T.length = q) (hr : ∀ r ∈ T, r.length = m ∧ ∀ x ∈ r, x < q) (ha : a < q) : (T.map tn)[a]? = some (tn (T.getD a [])) ∧ (∀ k, k < m → (T.getD a [])[k]? = some (ent T a k) ∧ ent T a k < q) ∧ (T.getD a []).length = m := by
  have e : T[a]? = some (T.getD a []) := by
    rw [List.getD, List.getElem?_eq_getElem (by omega)]
    rfl
  obtain ⟨h1, h2⟩ := hr _ (List.mem_of_getElem? e)
  have h3 : ∀ k, k < m → (T.getD a [])[k]? = some (ent T a k) := fun k hk => by
    unfold ent
    rw [List.getD_eq_getElem?_getD (l := T.getD a []), List.getElem?_eq_getElem (by omega)]
    rfl
  refine ⟨by rw [List.getElem?_map, e]; rfl, fun k hk => ⟨h3 k hk, h2 _ (List.mem_of_getElem? (h3 k hk))⟩, h1⟩
section
variable {P : Program} {w : World} {K : PySem.W.Frag} {mg : Str → Option Value} {base : Heap} {f : Addr} {fd : FuncData}
theorem scNamed : FnScope ["value", "many"] ["value", "many"] (defScope (top 8)) := ⟨rfl, rfl, rfl, by decide +kernel, rfl, by decide +kernel, by decide +kernel⟩
theorem ok_named (Fu : FnP K "is_named" (top 8) f fd) (m1 : mg "isinstance" = none) (m2 : mg "int" = none) (m3 : mg "bool" = none) : FnV P w K mg base 1 f fd ["value", "many"] (spF pNamed) := by
  refine FnV.ofD (fun_of Fu) scNamed (fun xs y h => ?_) (fun X xs y hr hN h hX => ?_)
  · obtain ⟨v, n, rfl, _⟩ := h
    rfl
  · obtain ⟨cdv, A, outer, s, H, rfl⟩ := hX
    obtain ⟨v, n, rfl, rfl⟩ := h
    refine vss_one <| vs_retD <| ve_and <| ve_isi "int" <| ve_name 0 rfl ⟨_, _, rfl, kit_int v, _, rfl, ?_⟩
    cases v with
    | int j =>
      refine ve_and <| ve_not <| ve_isi "bool" <| ve_name 0 rfl ⟨_, _, rfl, kit_bool _, _, rfl, _, rfl, ?_⟩
      refine ve_one <| ve_chain <| ve_int ⟨0, rfl, ve_name 0 rfl ⟨j, rfl, le_i ⟨_, rfl, ?_⟩⟩⟩
      cases h0 : decide (0 ≤ j) with
      | true =>
        rw [if_pos rfl]
        refine ve_name 1 rfl ⟨(n : Int), rfl, lt_i ⟨?_, rfl⟩⟩
        show _ = dd (PyData.bool (decide (0 ≤ j) && decide (j < (n : Int))))
        rw [h0, Bool.true_and]
      | false =>
        rw [if_neg Bool.false_ne_true]
        refine ⟨?_, rfl⟩
        show _ = dd (PyData.bool (decide (0 ≤ j) && decide (j < (n : Int))))
        rw [h0, Bool.false_and]
    | bool b => exact ve_and <| ve_not <| ve_isi "bool" <| ve_name 0 rfl ⟨_, _, rfl, kit_bool _, _, rfl, _, rfl, rfl, rfl⟩
    | _ => exact ⟨rfl, rfl⟩
theorem scFold : FnScope ["table", "other", "images", "a", "row", "wrong", "k", "b"] ["table", "other", "images"] (defScope (top 10)) := ⟨rfl, rfl, rfl, by decide +kernel, rfl, by decide +kernel, by decide +kernel⟩
theorem ok_fold (Fu : FnP K "fold_fault" (top 10) f fd) (m1 : mg "enumerate" = none) : FnV P w K mg base 1 f fd ["table", "other", "images"] (spF pFold) := by
  refine FnV.ofD (fun_of Fu) scFold (fun xs y h => ?_) (fun X xs y hr hN h hX => ?_)
  · obtain ⟨m, q, T, O, im, rfl, _⟩ := h
    rfl
  · obtain ⟨cdv, A, outer, s, H, rfl⟩ := hX
    obtain ⟨m, q, T, O, im, rfl, two, hq, hm, hil, hi, rfl⟩ := h
    have q0 := two.q0
    have aplt : ∀ a, a < q → ap im a < q := fun a ha => hi _ (ap_mem (by omega))
    refine vss_cons <| vs_if <| vt_cmp <| ve_sub <| ve_name 2 rfl <| ve_int <| ix_d (.dt _) (at_ap (a := im) (i := 0) (by omega)) <| ve_int <| ne_i ⟨_, rfl, ?_⟩
    by_cases h0 : ap im 0 = 0
    · rw [if_neg (by simp [h0])]
      refine vss_nil <| vss_cons <| vs_for [3, 4] (vi_enumT <| ve_name 0 rfl ⟨_, rfl, fun i e => badsTo T O im m i = [] ∧ ∃ o3 o4 o5, e = [some (.d (tD T)), some (.d (tD O)), some (.d (tn im)), o3, o4, o5, none, none], ⟨rfl, none, none, none, rfl⟩, fun _ _ _ => trivial, ?_, ?_⟩)
      · rintro i x e hx ⟨hb, o3, o4, o5, rfl⟩
        obtain ⟨d, hd, rfl⟩ := enu_get hx
        obtain ⟨r, hr1, rfl⟩ := rows_get hd
        have hiq : i < q := by rw [← two.tl]; exact (List.getElem?_eq_some_iff.mp hr1).1
        obtain ⟨_, t2, t3⟩ := row_at two.tl two.tr hiq
        have er : T.getD i [] = r := by rw [List.getD, hr1]; rfl
        rw [er] at t2 t3
        have hai := aplt i hiq
        obtain ⟨o1, o2, _⟩ := row_at two.ol two.or hai
        refine vg_tup (.cons (nmT 3) <| .cons (nmT 4) .nil) rfl ?_
        refine vss_cons <| vs_lc 5 [("k", 6), ("b", 7)] (vi_enumT <| ve_name 4 rfl ⟨_, rfl, ?_⟩)
        refine lcq_i (List.range (r.map ni).length) (fun k => .row [.int (k : Nat), (r.map ni).getD k .none]) (fun k => if decide (ent O (ap im i) k ≠ ap im (ent T i k)) = true then some (ni (k + 1)) else none) [some (.d (tD T)), some (.d (tD O)), some (.d (tn im)), some (.d (ni i)), some (.d (tn r)), o5, none, none] rfl rfl trivial (by rw [sizeLine_eq, List.length_range, List.length_map]; omega) ?_ ?_
        · intro i0 k hk p1
          obtain ⟨hk, rfl⟩ := range_get' hk
          rw [List.length_map, t3] at hk
          obtain ⟨k1, k2⟩ := t2 k hk
          obtain ⟨k3, k4⟩ := o2 k hk
          have eb : (r.map ni).getD k .none = ni (ent T i k) := by
            rw [List.getD_eq_getElem?_getD, List.getElem?_map, k1]
            rfl
          rw [eb]
          refine vg_tup (.cons (nmT 6) <| .cons (nmT 7) .nil) rfl fun p2 => vts_one <| vt_cmp ?_
          refine ve_sub <| ve_sub <| ve_name 1 rfl <| ve_sub <| ve_name 2 rfl <| ve_name 3 rfl ?_
          refine ix_d (.dt _) (at_ap (by omega)) ?_
          refine ix_d (.dt _) (atI_nat o1) <| ve_name 6 rfl ?_
          refine ix_d (.dt _) (at_tn k3) <| ve_sub <| ve_name 2 rfl <| ve_name 7 rfl ?_
          refine ix_d (.dt _) (at_ap (by omega)) <| ne_i ⟨_, rfl, ?_⟩
          have e : (!decide (((ent O (ap im i) k : Nat) : Int) = ((ap im (ent T i k) : Nat) : Int))) = decide (ent O (ap im i) k ≠ ap im (ent T i k)) := by
            rw [Bool.eq_iff_iff, Bool.not_eq_true', decide_eq_false_iff_not, decide_eq_true_iff]
            omega
          rw [e]
          cases hbk : decide (ent O (ap im i) k ≠ ap im (ent T i k)) with
          | true =>
            rw [if_pos rfl]
            exact fun p3 => ve_bin <| ve_name 6 rfl <| ve_int <| add_i ⟨_, rfl, if_pos rfl, rfl⟩
          | false =>
            rw [if_neg Bool.false_ne_true]
            exact ⟨if_neg Bool.false_ne_true, rfl⟩
        intro p5
        have ef : (List.range (r.map ni).length).filterMap (fun k => if decide (ent O (ap im i) k ≠ ap im (ent T i k)) = true then some (ni (k + 1)) else none) = ((badsR T O im m i).map fun k => k + 1).map ni := by
          rw [List.length_map, t3]
          unfold badsR
          rw [List.map_map]
          exact fm_filter (fun k => decide (ent O (ap im i) k ≠ ap im (ent T i k))) (fun k => ni (k + 1)) (List.range m)
        rw [ef]
        refine ⟨_, _, .own _, ?_⟩
        cases hbw : badsR T O im m i with
        | cons k0 kr =>
          refine vss_one <| vs_if <| vt_cmp <| ve_name 5 rfl <| ve_list <| ves_nil ⟨[], rfl, sz rfl, fun p4 => ?_⟩
          refine ne_p hr.u (.rf 5 rfl) (.nd p4 []) (plain_lni _) rfl (depth_lni _) ⟨_, rfl, ?_⟩
          rw [eqv_nilL, emp_map, if_pos (by simp)]
          refine vss_one <| vs_retD' rfl <| ve_tuple <| ves_cons <| ve_str <| ves_cons <| ve_name 3 rfl <| ves_cons <| ve_sub <| ve_name 5 rfl <| ve_int <| ix_d (.rf 5 rfl) (at_tn (l := (k0 + 1) :: kr.map fun k => k + 1) (i := 0) rfl) <| ves_nil ⟨[.str "letter", ni i, ni (k0 + 1)], rfl, sz rfl, ?_, rfl⟩
          unfold FD
          rw [if_neg (by simpa using h0), badsTo_head hb hbw hiq]
        | nil =>
          refine vss_one <| vs_if <| vt_cmp <| ve_name 5 rfl <| ve_list <| ves_nil ⟨[], rfl, sz rfl, fun p4 => ?_⟩
          refine ne_p hr.u (.rf 5 rfl) (.nd p4 []) (plain_lni []) rfl (depth_lni _) ⟨_, rfl, ?_⟩
          rw [eqv_nilL, emp_map, if_neg (by simp)]
          refine vss_nil ⟨?_, _, _, _, rfl⟩
          rw [badsTo_succ, hb, hbw]
          rfl
      · rintro e ⟨hb, o3, o4, o5, rfl⟩
        rw [enu_len, List.length_map, two.tl] at hb
        refine vss_one <| vs_retD <| ve_non ⟨?_, rfl⟩
        unfold FD
        rw [if_neg (by simpa using h0), hb]
        rfl
    · rw [if_pos (by simp; omega)]
      refine vss_one <| vs_retD' rfl <| ve_tuple <| ves_cons <| ve_str <| ves_nil ⟨[.str "first"], rfl, sz rfl, ?_, rfl⟩
      unfold FD
      rw [if_pos h0]
theorem scJFold : FnScope ["table", "other", "value", "word", "told", "one"] ["table", "other", "value"] (defScope (top 11)) := ⟨rfl, rfl, rfl, by decide +kernel, rfl, by decide +kernel, by decide +kernel⟩
theorem ok_jfold (Fu : FnP K "judge_folding" (top 11) f fd) (C1 : DefV P w K mg base 1 "fold_fault" (spF pFold)) (C2 : DefV P w K mg base 1 "is_named" (spF pNamed)) (m1 : mg "isinstance" = none) (m2 : mg "tuple" = none) (m3 : mg "len" = none) (m4 : mg "str" = none) (m5 : mg "all" = none) : FnV P w K mg base 2 f fd ["table", "other", "value"] (spF pJFold) := by
  refine FnV.ofD (fun_of Fu) scJFold (fun xs y h => ?_) (fun X xs y hr hN h hX => ?_)
  · obtain ⟨m, q, T, O, v, rfl, _⟩ := h
    rfl
  · obtain ⟨cdv, A, outer, s, H, rfl⟩ := hX
    obtain ⟨m, q, T, O, v, rfl, two, hq, hm, rfl⟩ := h
    refine vss_cons <| vs_if <| vt_w <| vw_or <| vt_not <| vt_val <| ve_isi "tuple" <| ve_name 2 rfl ⟨_, _, rfl, kit_tuple _, _, rfl, ?_⟩
    rw [if_neg (by simp [isTuple])]
    refine vw_or <| vt_cmp <| ve_c1 bb_len <| ve_name 2 rfl <| len_d (.dt _) <| ve_int <| ne_i ⟨_, rfl, ?_⟩
    rw [if_neg (show ¬ (!decide (((([PyData.str "fold", v] : List PyData).length : Nat) : Int) = 2)) = true by simp)]
    refine vw_or1 <| vt_not <| vt_val <| ve_isi "str" <| ve_sub <| ve_name 2 rfl <| ve_int <| ix_d (.dt _) (atI_nat (j := 0) rfl) ⟨_, _, rfl, kit_str _, _, rfl, ?_⟩
    rw [if_neg (by simp [isStr])]
    refine vss_nil <| vss_cons <| vs_asg [3, 4] <| ve_name 2 rfl ⟨_, _, .own _, vg_row <| vg_tup (.cons (nmT 3) <| .cons (nmT 4) .nil) rfl ?_⟩
    have form : ¬ (∃ im : List Nat, v = tn im ∧ im.length = q ∧ ∀ x ∈ im, x < q) → ∀ e, e = [some (.d (tD T)), some (.d (tD O)), some (.d (.tuple [.str "fold", v])), some (.d (.str "fold")), some (.d v), none] → VSs (cxOf CX0 P w K mg base ["table", "other", "value", "word", "told", "one"] "judge_folding" (defScope (top 11)) f cdv A outer s H E0).nox ((defBody (top 11)).drop 3) e (Dd (FV m q T O v) 3) := by
      rintro hno e rfl
      refine vss_cons <| vs_if <| vt_w <| vw_or <| vt_cmp <| ve_name 3 rfl <| ve_str <| ne_s ⟨_, rfl, ?_⟩
      rw [if_pos (by decide), if_pos rfl]
      refine vss_one <| vs_retD' rfl <| ve_tuple <| ves_cons <| ve_str <| ves_nil ⟨[.str "form"], rfl, sz rfl, ?_, rfl⟩
      rw [FV_no hno]
    refine vss_cons <| vs_if <| vt_w <| vw_and <| vt_cmp <| ve_name 3 rfl <| ve_str <| eq_s ⟨_, rfl, ?_⟩
    rw [if_pos (by decide)]
    refine vw_and <| vt_val <| ve_isi "tuple" <| ve_name 4 rfl ⟨_, _, rfl, kit_tuple _, _, rfl, ?_⟩
    have hvt : isTuple v = false ∨ ∃ ys, v = .tuple ys := by
      cases v with
      | tuple xs => exact .inr ⟨xs, rfl⟩
      | _ => exact .inl rfl
    rcases hvt with hnt | ⟨ys, rfl⟩
    · rw [hnt, if_neg Bool.false_ne_true, if_neg Bool.false_ne_true]
      exact vss_nil <| form (fun ⟨im, e, _⟩ => by rw [e] at hnt; cases hnt) _ rfl
    rw [if_pos (show isTuple (.tuple ys) = true from rfl)]
    refine vw_and1 <| vt_cmp <| ve_c1 bb_len <| ve_name 4 rfl <| len_d (.dt _) <| ve_c1 bb_len <| ve_name 0 rfl <| len_d (.dt _) <| eq_i ⟨_, rfl, ?_⟩
    rw [List.length_map, two.tl]
    by_cases hl : ys.length = q
    · rw [if_pos (decide_eq_true (by omega))]
      refine vss_one <| vs_retD' rfl <| ve_ifExp <| vt_val <| ve_c1 bb_all <| ve_lc [("one", 5)] (vi_tup <| ve_name 4 rfl ⟨_, rfl, ?_⟩)
      refine lcq_l ys id (fun y => some (.bool (inN q y))) [some (.d (tD T)), some (.d (tD O)), some (.d (.tuple [.str "fold", .tuple ys])), some (.d (.str "fold")), some (.d (.tuple ys)), none] (by simp) rfl trivial (by rw [sizeLine_eq]; omega) ?_ ?_
      · intro i0 y hy p1
        refine vg_name 5 fun p2 => vts_nil ?_
        rw [if_pos rfl]
        exact fun p3 => ve_callF C2 hr <| ves_cons <| ve_name 5 rfl <| ves_cons <| ve_c1 bb_len <| ve_name 1 rfl <| len_d (.dt _) <| ves_nil ⟨[y, ni q], _, by rw [List.length_map, two.ol]; rfl, ⟨y, q, rfl, rfl⟩, _, rfl, rfl, rfl⟩
      · intro p
        rw [all_map_id]
        refine all_b rfl (.nd _ _) ⟨_, rfl, ?_⟩
        rw [show (ys.map (inN q)).all id = ys.all (inN q) by rw [List.all_map]; rfl]
        cases ha : ys.all (inN q) with
        | true =>
          rw [if_pos rfl]
          obtain ⟨im, rfl, him⟩ := all_ni ha
          rw [List.length_map] at hl
          refine ve_callF C1 hr <| ves_cons <| ve_name 0 rfl <| ves_cons <| ve_name 1 rfl <| ves_cons <| ve_name 4 rfl <| ves_nil ⟨[tD T, tD O, tn im], _, rfl, ⟨m, q, T, O, im, rfl, two, hq, hm, hl, him, rfl⟩, ?_, rfl⟩
          rw [FV_tn hl him]
        | false =>
          rw [if_neg Bool.false_ne_true]
          refine ve_tuple <| ves_cons <| ve_str <| ves_nil ⟨[.str "form"], rfl, sz rfl, ?_, rfl⟩
          rw [FV_no ?_]
          rintro ⟨im, e, h1, h2⟩
          have e1 : ys = im.map ni := by injection e
          have : ys.all (inN q) = true := by
            rw [e1, List.all_eq_true]
            intro y hy
            obtain ⟨x, hx, rfl⟩ := List.mem_map.mp hy
            have := h2 x hx
            simp [inN]
            omega
          rw [ha] at this
          cases this
    · rw [if_neg (fun z => hl (by have := of_decide_eq_true z; omega))]
      exact vss_nil <| form (fun ⟨im, e, h1, _⟩ => hl (by have e1 : ys = im.map ni := by injection e
                                                          rw [e1, List.length_map]; exact h1)) _ rfl
end
end K54

/-! text B5 -/
set_option Elab.async false
set_option linter.all false
set_option maxRecDepth 100000
set_option maxHeartbeats 2000000
set_option pp.maxSteps 250
namespace K54
open PySem PySem.Spec L2 VL PM
/-! the source of the drawn numbers -/
abbrev srcK (q : Addr) (cs : List Int) (l m t : Int) : VL.KT := [(.inr "cells", ls q (cs.map .int)), (.inr "left", .d (.int l)), (.inr "mixed", .d (.int m)), (.inr "turn", .d (.int t))]
abbrev srcT (p q : Addr) (cs : List Int) (l m t : Int) : T := dct p (srcK q cs l m t)
section
variable (q : Addr) (cs : List Int) (l m t x : Int)
theorem get_cells : getT (srcK q cs l m t) (.inr "cells") = some (ls q (cs.map .int)) := by rfl
theorem get_left : getT (srcK q cs l m t) (.inr "left") = some (.d (.int l)) := by rfl
theorem get_mixed : getT (srcK q cs l m t) (.inr "mixed") = some (.d (.int m)) := by rfl
theorem get_turn : getT (srcK q cs l m t) (.inr "turn") = some (.d (.int t)) := by rfl
theorem put_left : putT (srcK q cs l m t) (.inr "left") (.d (.int x)) = srcK q cs x m t := by rfl
theorem put_mixed : putT (srcK q cs l m t) (.inr "mixed") (.d (.int x)) = srcK q cs l x t := by rfl
theorem put_turn : putT (srcK q cs l m t) (.inr "turn") (.d (.int x)) = srcK q cs l m x := by rfl
end
def spSource : Sv := fun ts Q => ∃ ns : List Int, ts = [.d (.list (ns.map .int))] ∧ ns.length ≤ 63 ∧ ∀ p q cs l m t, Q (srcT p q cs l m t) ts
def spPick : Sv := fun ts Q => ∃ p q cs l m t, ∃ n : Int, ts = [srcT p q cs l m t, .d (.int n)] ∧ n < 1073741824 ∧ ∀ cs' l' m' t', ∀ r : Nat, (n < 2 ∧ r = 0) ∨ (r : Int) < n → Q (.d (ni r)) [srcT p q cs' l' m' t', .d (.int n)]
section
variable {P : Program} {w : World} {K : PySem.W.Frag} {mg : Str → Option Value} {base : Heap} {f : Addr} {fd : FuncData}
theorem scSource : FnScope ["script", "mixed", "cell"] ["script"] (defScope (top 13)) := ⟨rfl, rfl, rfl, by decide +kernel, rfl, by decide +kernel, by decide +kernel⟩
theorem ok_source (Fu : FnP K "_law_source" (top 13) f fd) (m1 : mg "int" = none) (m2 : mg "abs" = none) : FnV P w K mg base 1 f fd ["script"] spSource := by
  refine FnV.of (fun_of Fu) scSource (fun ts Q h => ?_) (fun X ts Q _ _ _ _ _ hN' _ _ _ _ hr h hX => ?_)
  · obtain ⟨ns, rfl, _⟩ := h
    rfl
  · have hN : X.N.Nodup := by rw [hN']; exact scSource.nd
    obtain ⟨cdv, A, outer, s, H, rfl⟩ := hX
    obtain ⟨ns, rfl, hns, hQ⟩ := h
    refine vss_cons <| vs_set 1 <| ve_int ⟨_, _, .own _, ?_⟩
    refine vss_cons <| vs_for [2] (vi_list <| ve_name 0 rfl ⟨_, rfl, fun i e => ∃ (x : Int) (o : Option T), e = [some (.d (.list (ns.map .int))), some (.d (.int x)), o], ⟨11, none, rfl⟩, fun _ _ _ => trivial, ?_, ?_⟩)
    · rintro i x e hx ⟨m, o, rfl⟩
      rw [List.getElem?_map, List.getElem?_map] at hx
      cases ex : ns[i]? with
      | none => rw [ex] at hx; cases hx
      | some c =>
        rw [ex] at hx
        cases hx
        exact vg_name 2 <| vss_one <| vs_set 1 <| ve_bin <| ve_t1 bb_int <| ve_bin <| ve_bin <| ve_bin <| ve_name 1 rfl <| ve_int <| mul_i (.inr ⟨by decide, by decide⟩) <| ve_bin <| ve_name 2 rfl <| ve_int <| mul_i (.inr ⟨by decide, by decide⟩) <| add_i <| ve_int <| add_i <| int_i <| ve_int <| mod_i (by decide) ⟨_, _, .own _, _, _, rfl⟩
    · rintro e ⟨m, o, rfl⟩
      refine vss_one <| vs_ret <| ve_disp4 <| vps_cons <| ve_str ⟨.inr "cells", rfl, ve_revL <| ve_lc [("cell", 2)] (vi_list <| ve_name 0 rfl ⟨_, rfl, ?_⟩)⟩
      refine lcq_l ns PyData.int (fun c => some (.int (if c < 0 then -c else c))) [some (.d (.list (ns.map .int))), some (.d (.int m)), none] List.map_map rfl trivial (by rw [sizeLine_eq]; omega) ?_ ?_
      · intro i0 c hx p1
        refine vg_name 2 fun p2 => vts_nil ?_
        rw [if_pos rfl]
        exact fun p3 => ve_c1 bb_abs <| ve_name 2 rfl <| abs_i ⟨_, rfl, rfl, rfl⟩
      · intro p1
        refine ⟨_, .nd _ _, fun q => ⟨_, rfl, ?_⟩⟩
        refine vps_cons <| ve_str ⟨.inr "left", rfl, ve_int ⟨_, rfl, vps_cons <| ve_str ⟨.inr "mixed", rfl, ve_name 1 rfl ⟨_, rfl, vps_cons <| ve_str ⟨.inr "turn", rfl, ve_int ⟨_, rfl, vps_nil ⟨?_, Nat.le_of_ble_eq_true rfl, fun p => ⟨_, _, .own _, _, ⟨_, rfl, rfl⟩, ?_⟩⟩⟩⟩⟩⟩⟩⟩
        · show ([.inr "cells", .inr "left", .inr "mixed", .inr "turn"] : List Key).Nodup
          decide +kernel
        · have e1 : (ns.filterMap fun c => some (PyData.int (if c < 0 then -c else c))).reverse = (ns.map fun c => if c < 0 then -c else c).reverse.map PyData.int := by
            rw [List.filterMap_eq_map', List.map_reverse, List.map_map]
            rfl
          rw [e1]
          exact hQ p q _ 1 m 0
theorem scPick : FnScope ["source", "many", "left", "mixed"] ["source", "many"] (defScope (top 14)) := ⟨rfl, rfl, rfl, by decide +kernel, rfl, by decide +kernel, by decide +kernel⟩
theorem ok_pick (Fu : FnP K "_law_pick" (top 14) f fd) (m1 : mg "int" = none) (m2 : mg "len" = none) (m3 : mg "max" = none) : FnV P w K mg base 1 f fd ["source", "many"] spPick := by
  refine FnV.of (fun_of Fu) scPick (fun ts Q h => ?_) (fun X ts Q _ _ _ _ _ hN' _ _ _ _ hr h hX => ?_)
  · obtain ⟨p, q, cs, l, m, t, n, rfl, _⟩ := h
    rfl
  · have hN : X.N.Nodup := by rw [hN']; exact scPick.nd
    obtain ⟨cdv, A, outer, s, H, rfl⟩ := hX
    obtain ⟨p, q, cs0, l0, m0, t0, n, rfl, hn, hQ⟩ := h
    refine vss_cons <| vs_while (fun k e => ∃ cs l m t, k = cs.length ∧ e = [some (srcT p q cs l m t), some (.d (.int n)), none, none]) ⟨_, cs0, l0, m0, t0, rfl, rfl⟩ ?_
    rintro k e ⟨cs, l, m, t, rfl, rfl⟩
    have rest' : ∀ cs l m t, ∀ e, e = [some (srcT p q cs l m t), some (.d (.int n)), none, none] → VSs (cxOf CX0 P w K mg base ["source", "many", "left", "mixed"] "_law_pick" (defScope (top 14)) f cdv A outer s H E0).nox ((defBody (top 14)).drop 1) e (Dn.fn [srcT p q cs0 l0 m0 t0, .d (.int n)] Q) := by
      rintro cs l m t e rfl
      refine vss_cons <| vs_set 2 <| ve_dget hr.u1 <| ve_name 0 rfl <| ve_str ⟨p, srcK q cs l m t, _, .inr "left", _, rfl, rfl, .sl 0 rfl, get_left q cs l m t, _, _, .own _, ?_⟩
      have mxe : ∃ mx : Int, (if n > 1 then n else 1) = mx ∧ 0 < mx ∧ mx < 1073741824 ∧ (n < 2 → mx = 1) ∧ (¬ n < 2 → mx = n) := by
        by_cases h1 : n > 1
        · exact ⟨n, if_pos h1, by omega, by omega, by omega, by omega⟩
        · exact ⟨1, if_neg h1, by omega, by omega, by omega, by omega⟩
      obtain ⟨mx, emx, mx0, mxb, mx1, mx2⟩ := mxe
      have first : ∀ e, e = [some (srcT p q cs l m t), some (.d (.int n)), some (.d (.int l)), none] → VSs (cxOf CX0 P w K mg base ["source", "many", "left", "mixed"] "_law_pick" (defScope (top 14)) f cdv A outer s H E0).nox (match (defBody (top 14)).getD 2 (.Pass ⟨0, 0, 0, 0⟩) with | .If _ b _ _ => b | _ => []) e { Dn.fn [srcT p q cs0 l0 m0 t0, .d (.int n)] Q with nx := fun e1 => VSs (cxOf CX0 P w K mg base ["source", "many", "left", "mixed"] "_law_pick" (defScope (top 14)) f cdv A outer s H E0).nox ((defBody (top 14)).drop 3) e1 (Dn.fn [srcT p q cs0 l0 m0 t0, .d (.int n)] Q) } := by
        rintro e rfl
        refine vss_cons <| vs_dput hr.u1 <| ve_bin <| ve_name 2 rfl <| ve_callB m3 bb_max (ves_cons <| ve_int <| ves_cons <| ve_name 1 rfl <| ves_nil <| max2_i rfl ?_)
        rw [emx]
        refine fdiv_i ⟨mx0, mxb⟩ ⟨_, rfl, ve_name 0 rfl <| ve_str ⟨p, srcK q cs l m t, _, .inr "left", rfl, rfl, .sl 0 rfl, (by rw [sizeLine_eq]; exact Nat.lt_of_succ_le (Nat.le_of_ble_eq_true rfl)), ?_⟩⟩
        rw [put_left]
        refine vss_one <| vs_ret <| ve_bin <| ve_t1 bb_int <| ve_name 2 rfl <| int_i <| ve_callB m3 bb_max (ves_cons <| ve_int <| ves_cons <| ve_name 1 rfl <| ves_nil <| max2_i rfl ?_)
        rw [emx]
        refine mod_i mx0 ⟨_, _, .own _, _, ⟨_, _, _, rfl, rfl, _, rfl, rfl⟩, ?_⟩
        have h1 := Int.emod_nonneg l (show mx ≠ 0 by omega)
        have h2 := Int.emod_lt_of_pos l mx0
        have := hQ cs (l / mx) m t (l % mx).toNat (by
          by_cases h : n < 2
          · have := mx1 h
            exact .inl ⟨h, by omega⟩
          · have := mx2 h
            exact .inr (by omega))
        rw [show ni (l % mx).toNat = .int (l % mx) by show PyData.int _ = _; congr 1; omega] at this
        exact this
      refine vss_cons <| vs_if <| vt_w <| vw_or <| vt_cmp <| ve_name 1 rfl <| ve_int <| lt_i ⟨_, rfl, ?_⟩
      by_cases hn2 : n < 2
      · rw [if_pos (decide_eq_true hn2), if_pos rfl]
        exact first _ rfl
      rw [if_neg (by simpa using hn2)]
      refine vw_or1 <| vt_cmp <| ve_name 2 rfl <| ve_int <| gt_i ⟨_, rfl, ?_⟩
      have hn0 : 0 < n := by omega
      by_cases hl : 1 < l
      · rw [if_pos (decide_eq_true hl)]
        exact first _ rfl
      · rw [if_neg (by simpa using hl)]
        refine vss_nil <| vss_cons <| vs_dput hr.u1 <| ve_bin <| ve_dget hr.u1 <| ve_name 0 rfl <| ve_str ⟨p, srcK q cs l m t, _, .inr "turn", _, rfl, rfl, .sl 0 rfl, get_turn q cs l m t, ve_int <| add_i ⟨_, rfl, ve_name 0 rfl <| ve_str ⟨p, srcK q cs l m t, _, .inr "turn", rfl, rfl, .sl 0 rfl, (by rw [sizeLine_eq]; exact Nat.lt_of_succ_le (Nat.le_of_ble_eq_true rfl)), ?_⟩⟩⟩
        rw [put_turn]
        refine vss_cons <| vs_set 3 <| ve_bin <| ve_t1 bb_int <| ve_bin <| ve_dget hr.u1 <| ve_name 0 rfl <| ve_str ⟨p, srcK q cs l m (t + 1), _, .inr "mixed", _, rfl, rfl, .sl 0 rfl, get_mixed q cs l m (t + 1), ?_⟩
        refine ve_bin <| ve_dget hr.u1 <| ve_name 0 rfl <| ve_str ⟨p, srcK q cs l m (t + 1), _, .inr "turn", _, rfl, rfl, .sl 0 rfl, get_turn q cs l m (t + 1), ve_int <| mul_i (.inr ⟨by decide, by decide⟩) <| add_i <| int_i <| ve_int <| mod_i (by decide) ⟨_, _, .own _, ?_⟩⟩
        have b1 := Int.emod_nonneg (m + (t + 1) * 104729) (show (998244353 : Int) ≠ 0 by decide)
        have b2 := Int.emod_lt_of_pos (m + (t + 1) * 104729) (show (0 : Int) < 998244353 by decide)
        refine vss_cons <| vs_set 3 <| ve_bin <| ve_t1 bb_int <| ve_bin <| ve_bin <| ve_name 3 rfl <| ve_name 3 rfl <| mul_i (.inr ⟨by omega, by omega⟩) <| ve_bin <| ve_dget hr.u1 <| ve_name 0 rfl <| ve_str ⟨p, srcK q cs l m (t + 1), _, .inr "turn", _, rfl, rfl, .sl 0 rfl, get_turn q cs l m (t + 1), ve_int <| mul_i (.inr ⟨by decide, by decide⟩) <| add_i <| int_i <| ve_int <| mod_i (by decide) ⟨_, _, .own _, ?_⟩⟩
        refine vss_cons <| vs_dput hr.u1 <| ve_name 3 rfl ⟨_, rfl, ve_name 0 rfl <| ve_str ⟨p, srcK q cs l m (t + 1), _, .inr "mixed", rfl, rfl, .sl 0 rfl, (by rw [sizeLine_eq]; exact Nat.lt_of_succ_le (Nat.le_of_ble_eq_true rfl)), ?_⟩⟩
        rw [put_mixed]
        refine vss_one <| vs_ret <| ve_bin <| ve_t1 bb_int <| ve_bin <| ve_name 3 rfl <| ve_int <| fdiv_i (by decide) <| int_i <| ve_name 1 rfl <| mod_i hn0 ⟨_, _, .own _, _, ⟨_, _, _, rfl, rfl, _, rfl, rfl⟩, ?_⟩
        generalize ((m + (t + 1) * 104729) % 998244353 * ((m + (t + 1) * 104729) % 998244353) + (t + 1) * 17) % 2147483647 = mm
        have h1 := Int.emod_nonneg (mm / 16) (show n ≠ 0 by omega)
        have h2 := Int.emod_lt_of_pos (mm / 16) hn0
        have := hQ cs l mm (t + 1) (mm / 16 % n).toNat (.inr (by omega))
        rw [show ni (mm / 16 % n).toNat = .int (mm / 16 % n) by show PyData.int _ = _; congr 1; omega] at this
        exact this
    refine vt_w <| vw_and <| vt_cmp <| ve_name 1 rfl <| ve_int <| gt_i ⟨_, rfl, ?_⟩
    by_cases hn1 : 1 < n
    case neg =>
      rw [if_neg (by simpa using hn1)]
      exact rest' cs l m t _ rfl
    rw [if_pos (decide_eq_true hn1)]
    refine vw_and <| vt_cmp <| ve_dget hr.u1 <| ve_name 0 rfl <| ve_str ⟨p, srcK q cs l m t, _, .inr "left", _, rfl, rfl, .sl 0 rfl, get_left q cs l m t, ve_int <| lt_i ⟨_, rfl, ?_⟩⟩
    by_cases hl : l < 2
    · rw [if_pos (decide_eq_true hl)]
      refine vw_and1 <| vt_cmp <| ve_c1 bb_len <| ve_dget hr.u1 <| ve_name 0 rfl <| ve_str ⟨p, srcK q cs l m t, _, .inr "cells", _, rfl, rfl, .sl 0 rfl, get_cells q cs l m t, len_kid (.kid 0 0 rfl rfl) <| ve_int <| gt_i ⟨_, rfl, ?_⟩⟩
      rw [List.length_map]
      by_cases hc : 0 < cs.length
      · rw [if_pos (decide_eq_true (by omega))]
        have hx : (cs.map PyData.int)[(cs.map PyData.int).length - 1]? = some (.int (cs.getD (cs.length - 1) 0)) := by
          rw [List.length_map, List.getElem?_map]
          have : cs[cs.length - 1]? = some (cs.getD (cs.length - 1) 0) := by
            rw [List.getD, List.getElem?_eq_getElem (by omega)]
            rfl
          rw [this]
          rfl
        refine vss_one <| vs_dput hr.u1 <| ve_popKid <| ve_dget hr.u1 <| ve_name 0 rfl <| ve_str ⟨p, srcK q cs l m t, _, .inr "cells", _, rfl, rfl, .sl 0 rfl, get_cells q cs l m t, q, cs.map .int, _, _, rfl, .kid 0 0 rfl rfl, hx, _, rfl, ?_⟩
        have ed : (cs.map PyData.int).dropLast = cs.dropLast.map PyData.int := by rw [List.map_dropLast]
        rw [ed]
        refine ve_name 0 rfl <| ve_str ⟨p, srcK q cs.dropLast l m t, _, .inr "left", rfl, rfl, .sl 0 rfl, (by rw [sizeLine_eq]; exact Nat.lt_of_succ_le (Nat.le_of_ble_eq_true rfl)), ?_⟩
        rw [put_left]
        exact ⟨_, (by rw [List.length_dropLast]; omega), cs.dropLast, _, m, t, rfl, rfl⟩
      · rw [if_neg (fun z => by have := of_decide_eq_true z; omega)]
        exact rest' cs l m t _ rfl
    · rw [if_neg (by simpa using hl)]
      exact rest' cs l m t _ rfl
end
def spOf : Sv := fun ts Q => ∃ p q cs l m t, ∃ xs : List PyData, ts = [srcT p q cs l m t, .d (.list xs)] ∧ 0 < xs.length ∧ xs.length ≤ 4096 ∧ ∀ cs' l' m' t' x, x ∈ xs → Q (.d x) [srcT p q cs' l' m' t', .d (.list xs)]
def spMixed : Sv := fun ts Q => ∃ p q cs l m t, ∃ xs : List Nat, ts = [srcT p q cs l m t, .d (.list (xs.map ni))] ∧ xs.length ≤ 4096 ∧ ∀ cs' l' m' t' p2, ∀ xs' : List Nat, xs'.Perm xs → Q (ls p2 (xs'.map ni)) [srcT p q cs' l' m' t', .d (.list (xs.map ni))]
theorem map_erase {α β : Type} (f : α → β) : ∀ (l : List α) (r : Nat), (l.map f).eraseIdx r = (l.eraseIdx r).map f
  | [], _ => rfl
  | x :: l, 0 => rfl
  | x :: l, r + 1 => by
    show f x :: (l.map f).eraseIdx r = f x :: (l.eraseIdx r).map f
    rw [map_erase f l r]
theorem erase_perm {α : Type} : ∀ (l : List α) (r : Nat) (h : r < l.length), (l[r] :: l.eraseIdx r).Perm l
  | [], _, h => absurd h (Nat.not_lt_zero _)
  | x :: l, 0, _ => .refl _
  | x :: l, r + 1, h => by
    have h' : r < l.length := by simpa using h
    show (l[r] :: x :: l.eraseIdx r).Perm (x :: l)
    exact (List.Perm.swap _ _ _).trans ((erase_perm l r h').cons x)
theorem pick_lt {n : Int} {r k : Nat} (hk : n = (k : Int)) (h0 : 0 < k) (h : (n < 2 ∧ r = 0) ∨ (r : Int) < n) : r < k := by omega
section
variable {P : Program} {w : World} {K : PySem.W.Frag} {mg : Str → Option Value} {base : Heap} {f : Addr} {fd : FuncData}
theorem scOf : FnScope ["source", "some"] ["source", "some"] (defScope (top 15)) := ⟨rfl, rfl, rfl, by decide +kernel, rfl, by decide +kernel, by decide +kernel⟩
theorem ok_of (Fu : FnP K "_law_of" (top 15) f fd) (C1 : DefV P w K mg base 1 "_law_pick" spPick) (m2 : mg "len" = none) : FnV P w K mg base 2 f fd ["source", "some"] spOf := by
  refine FnV.of (fun_of Fu) scOf (fun ts Q h => ?_) (fun X ts Q _ _ _ _ _ hN' _ _ _ _ hr h hX => ?_)
  · obtain ⟨p, q, cs, l, m, t, n, rfl, _⟩ := h
    rfl
  · have hN : X.N.Nodup := by rw [hN']; exact scOf.nd
    obtain ⟨cdv, A, outer, s, H, rfl⟩ := hX
    obtain ⟨p, q, cs, l, m, t, xs, rfl, h0, hz, hQ⟩ := h
    refine vss_one <| vs_ret <| ve_sub <| ve_name 1 rfl <| ve_callL 0 C1 hr <| ves_cons <| ve_name 0 rfl <| ves_cons <| ve_c1 bb_len <| ve_name 1 rfl <| len_d (.dl _) <| ves_nil ⟨p, _, _, [.d (.int xs.length)], rfl, rfl, p, q, cs, l, m, t, _, rfl, by omega, fun cs' l' m' t' r hr => ⟨_, _, rfl, ?_⟩⟩
    have hlt := pick_lt rfl h0 hr
    refine ix_d (.dl _) (at_tn' (List.getElem?_eq_getElem hlt)) ⟨_, _, .own _, _, ⟨_, _, _, rfl, rfl, _, rfl, rfl⟩, hQ cs' l' m' t' _ (List.getElem_mem hlt)⟩
end
end K54

/-! text B6 -/
set_option Elab.async false
set_option linter.all false
set_option maxRecDepth 100000
set_option maxHeartbeats 2000000
set_option pp.maxSteps 250
namespace PM
theorem perm_turn {l : List Nat} {n : Nat} (h : l.Perm (List.range n)) : Turn l ∧ l.length = n := by
  have e : l.length = n := by rw [h.length_eq, List.length_range]
  refine ⟨⟨h.nodup_iff.mpr List.nodup_range, fun x hx => ?_⟩, e⟩
  rw [e]
  exact List.mem_range.mp (h.mem_iff.mp hx)
end PM
namespace K54
open PySem PySem.Spec L2 VL PM
theorem pick_lt' {n : Int} {r k : Nat} (hk : n = (k : Int)) (h0 : 0 < k) (h : (n < 2 ∧ r = 0) ∨ (r : Int) < n) : r < k := by omega

def spTurn : Sv := fun ts Q => ∃ p q cs l m t, ∃ n : Nat, ts = [srcT p q cs l m t, .d (ni n)] ∧ n ≤ 4096 ∧ ∀ cs' l' m' t', ∀ a : List Nat, PM.Turn a → a.length = n → Q (.d (tn a)) [srcT p q cs' l' m' t', .d (ni n)]
def spWord : Sv := fun ts Q => ∃ p q cs l m t, ∃ n most : Nat, ts = [srcT p q cs l m t, .d (ni n), .d (ni most)] ∧ 0 < n ∧ n ≤ 1000 ∧ most ≤ 1000 ∧ ∀ cs' l' m' t', ∀ w : List Int, (∀ k ∈ w, okL n k) → w.length ≤ most → Q (.d (wD w)) [srcT p q cs' l' m' t', .d (ni n), .d (ni most)]
def pTimes (xs : List PyData) (y : PyData) : Prop := ∃ a b : List Nat, xs = [tn a, tn b] ∧ a.length ≤ 4096 ∧ (∀ x ∈ a, x < b.length) ∧ y = tn (tm a b)
def pBack (xs : List PyData) (y : PyData) : Prop := ∃ a, xs = [tn a] ∧ Sm a ∧ y = tn (bk a)
def colsD (m : Nat) (T : Tbl) : PyData := .list ((List.range m).map fun k => tn (colT T k))
def pWT (xs : List PyData) (y : PyData) : Prop := ∃ (m : Nat) (T : Tbl) (w : List Int), xs = [ni T.length, colsD m T, wD w] ∧ Tb m T ∧ T.length ≤ 1000 ∧ (∀ k ∈ w, okL m k) ∧ y = tn ((List.range T.length).map fun a => gon T a w)
section
variable {P : Program} {w : World} {K : PySem.W.Frag} {mg : Str → Option Value} {base : Heap} {f : Addr} {fd : FuncData}
theorem scBy : FnScope ["a", "b", "x"] ["a", "b"] (defScope (top 17)) := ⟨rfl, rfl, rfl, by decide +kernel, rfl, by decide +kernel, by decide +kernel⟩
theorem ok_by (Fu : FnP K "_law_by" (top 17) f fd) (m1 : mg "tuple" = none) : FnV P w K mg base 1 f fd ["a", "b"] (spF pTimes) := by
  refine FnV.ofD (fun_of Fu) scBy (fun xs y h => ?_) (fun X xs y hr hN h hX => ?_)
  · obtain ⟨a, b, rfl, _⟩ := h
    rfl
  · obtain ⟨cdv, A, outer, s, H, rfl⟩ := hX
    obtain ⟨a, b, rfl, z, hab, rfl⟩ := h
    refine vss_one <| vs_retD <| ve_t1 bb_tuple <| ve_lc [("x", 2)] (vi_tup <| ve_name 0 rfl ⟨_, rfl, ?_⟩)
    refine lcq_l a ni (fun x => some (ni (ap b x))) [some (.d (tn a)), some (.d (tn b)), none] List.map_map rfl trivial (by rw [sizeLine_eq]; omega) ?_ ?_
    · intro i0 y hy p1
      refine vg_name 2 fun p2 => vts_nil ?_
      rw [if_pos rfl]
      exact fun p3 => ve_sub <| ve_name 1 rfl <| ve_name 2 rfl <| ix_d (.dt _) (at_ap (hab y (List.mem_of_getElem? hy))) ⟨_, rfl, rfl, rfl⟩
    · intro p
      refine tuple_d (.nd _ _) ⟨?_, rfl⟩
      rw [List.filterMap_eq_map', tm, tn, List.map_map]
      rfl
theorem scBack : FnScope ["a", "found", "i", "x"] ["a"] (defScope (top 18)) := ⟨rfl, rfl, rfl, by decide +kernel, rfl, by decide +kernel, by decide +kernel⟩
theorem ok_back (Fu : FnP K "_law_back" (top 18) f fd) (m1 : mg "tuple" = none) (m2 : mg "len" = none) (m3 : mg "enumerate" = none) : FnV P w K mg base 1 f fd ["a"] (spF pBack) := by
  refine FnV.ofD (fun_of Fu) scBack (fun xs y h => ?_) (fun X xs y hr hN h hX => ?_)
  · obtain ⟨a, rfl, _⟩ := h
    rfl
  · obtain ⟨cdv, A, outer, s, H, rfl⟩ := hX
    obtain ⟨a, rfl, sm, rfl⟩ := h
    have t := sm.t
    have z := sm.z
    refine vss_cons <| vs_set 1 <| ve_bin <| ve_list <| ves_cons <| ve_int <| ves_nil ⟨[.d (ni 0)], rfl, sz rfl, fun p0 => ve_c1 bb_len <| ve_name 0 rfl <| len_d (.dt _) <| ?_⟩
    rw [List.length_map]
    refine mul_l (xs := [ni 0]) (by omega) (by omega) (by rw [sizeLine_eq]; show 1 * _ ≤ _; omega) fun pf => ⟨_, _, .own _, ?_⟩
    rw [rep_flat]
    refine vss_cons <| vs_for [2, 3] (vi_enumT <| ve_name 0 rfl ⟨_, rfl, fun i e => ∃ o2 o3, e = [some (.d (tn a)), some (ls pf ((bkTo a i).map ni)), o2, o3], ⟨none, none, rfl⟩, fun _ _ _ => trivial, ?_, ?_⟩)
    · rintro i x e hx ⟨o2, o3, rfl⟩
      obtain ⟨d, hd, rfl⟩ := enu_get hx
      obtain ⟨c, hc, rfl⟩ := map_get hd
      have hi : i < a.length := (List.getElem?_eq_some_iff.mp hc).1
      have ec : c = ap a i := by rw [ap_get hi] at hc; exact (Option.some.inj hc).symm
      subst ec
      refine vg_tup (.cons (nmT 2) <| .cons (nmT 3) .nil) rfl ?_
      refine vss_one <| vs_lput <| ve_name 2 rfl ⟨_, rfl, ve_name 1 rfl <| ve_name 3 rfl ⟨pf, (bkTo a i).map ni, _, (ap a i : Int), ap a i, rfl, rfl, .sl 1 rfl, ixN_nat (by rw [List.length_map, bkTo_len]; exact t.ap_lt hi), some (.d (ni i)), some (.d (ni (ap a i))), ?_⟩⟩
      have : ((bkTo a i).map ni).set (ap a i) (ni i) = (bkTo a (i + 1)).map ni := (List.map_set ..).symm
      rw [show PyData.int ((i : Nat) : Int) = ni i from rfl, this]
      rfl
    · rintro e ⟨o2, o3, rfl⟩
      rw [enu_len, List.length_map, t.bkTo_bk]
      exact vss_one <| vs_retD <| ve_t1 bb_tuple <| ve_name 1 rfl <| tuple_d (.rf 1 rfl) ⟨rfl, rfl⟩

theorem scMixed : FnScope ["source", "things", "rest", "turn"] ["source", "things"] (defScope (top 16)) := ⟨rfl, rfl, rfl, by decide +kernel, rfl, by decide +kernel, by decide +kernel⟩
theorem ok_mixed (Fu : FnP K "_law_mixed" (top 16) f fd) (C1 : DefV P w K mg base 1 "_law_pick" spPick) (m1 : mg "list" = none) (m2 : mg "len" = none) (m3 : mg "range" = none) : FnV P w K mg base 2 f fd ["source", "things"] spMixed := by
  refine FnV.of (fun_of Fu) scMixed (fun ts Q h => ?_) (fun X ts Q _ _ _ _ _ hN' _ _ _ _ hr h hX => ?_)
  · obtain ⟨p, q, cs, l, m, t, n, rfl, _⟩ := h
    rfl
  · have hN : X.N.Nodup := by rw [hN']; exact scMixed.nd
    obtain ⟨cdv, A, outer, s, H, rfl⟩ := hX
    obtain ⟨p, q, cs, l, m, t, xs, rfl, hz, hQ⟩ := h
    refine vss_cons <| vs_set 2 <| ve_t1 bb_list <| ve_name 1 rfl <| list_d (.dl _) fun p2 => ⟨_, _, .own _, ?_⟩
    refine vss_one <| vs_ret <| ve_lc [("turn", 3)] (vi_range1 <| ve_c1 bb_len <| ve_name 2 rfl <| len_d (.rf 2 rfl) ⟨_, rfl, by omega, by rw [List.length_map]; omega, ?_⟩)
    refine ⟨fun i acc e => ∃ cs l m t, ∃ taken rest : List Nat, acc = (taken.map ni).map VL.T.d ∧ taken.length = i ∧ (taken ++ rest).Perm xs ∧ e = [some (srcT p q cs l m t), some (.d (.list (xs.map ni))), some (ls p2 (rest.map ni)), none], ⟨cs, l, m, t, [], xs, rfl, rfl, .refl _, rfl⟩, ?_, ?_, ?_⟩
    · rintro i acc e ⟨cs, l, m, t, taken, rest, rfl, hi, hp, rfl⟩
      refine ⟨trivial, fun _ => ?_⟩
      have := hp.length_eq
      rw [List.length_append] at this
      rw [List.length_map, List.length_map, sizeLine_eq]
      omega
    · rintro i x acc e hx ⟨cs, l, m, t, taken, rest, rfl, hi, hp, rfl⟩ p1
      obtain ⟨hi2, rfl⟩ := rng_get hx
      rw [List.length_map] at hi2
      have hlen := hp.length_eq
      rw [List.length_append] at hlen
      have hpos : 0 < rest.length := by omega
      refine vg_name 3 fun p2' => vts_nil ?_
      rw [if_pos rfl]
      intro p3
      refine ve_popAt 2 (fun _ h => ve_name 2 rfl h) rfl <| ve_callL 0 C1 hr <| ves_cons <| ve_name 0 rfl <| ves_cons <| ve_c1 bb_len <| ve_name 2 rfl <| len_d (.rf 2 rfl) <| ves_nil ⟨p, _, _, [.d (.int (rest.map ni).length)], rfl, rfl, p, q, cs, l, m, t, _, rfl, by rw [List.length_map]; omega, fun cs' l' m' t' r hr' => ⟨_, _, rfl, ?_⟩⟩
      have hlt : r < rest.length := pick_lt' (by rw [List.length_map]) hpos hr'
      have hx' : (rest.map ni)[r]? = some (ni rest[r]) := by rw [List.getElem?_map, List.getElem?_eq_getElem hlt]; rfl
      refine ⟨rest.map ni, ni rest[r], r, rfl, rfl, hx', by rw [List.length_map]; omega, _, _, .own _, cs', l', m', t', taken ++ [rest[r]], rest.eraseIdx r, ?_, by rw [List.length_append, hi]; rfl, ?_, ?_⟩
      · rw [List.map_append, List.map_append]
        rfl
      · refine List.Perm.trans ?_ hp
        rw [List.append_assoc]
        exact List.Perm.append_left taken (erase_perm rest r hlt)
      · rw [map_erase ni rest r]
        rfl
    · rintro acc e ⟨cs, l, m, t, taken, rest, rfl, hi, hp, rfl⟩ p4
      rw [rng_len, List.length_map] at hi
      have hlen := hp.length_eq
      rw [List.length_append] at hlen
      have hr0 : rest = [] := List.eq_nil_of_length_eq_zero (by omega)
      subst hr0
      rw [List.append_nil] at hp
      exact ⟨_, _, .own _, _, ⟨_, _, _, rfl, rfl, _, rfl, rfl⟩, hQ cs l m t p4 taken hp⟩
theorem scTurn : FnScope ["source", "n"] ["source", "n"] (defScope (top 19)) := ⟨rfl, rfl, rfl, by decide +kernel, rfl, by decide +kernel, by decide +kernel⟩
theorem ok_turn (Fu : FnP K "_law_turn" (top 19) f fd) (C1 : DefV P w K mg base 2 "_law_mixed" spMixed) (m1 : mg "tuple" = none) (m2 : mg "list" = none) (m3 : mg "range" = none) : FnV P w K mg base 3 f fd ["source", "n"] spTurn := by
  refine FnV.of (fun_of Fu) scTurn (fun ts Q h => ?_) (fun X ts Q _ _ _ _ _ hN' _ _ _ _ hr h hX => ?_)
  · obtain ⟨p, q, cs, l, m, t, n, rfl, _⟩ := h
    rfl
  · have hN : X.N.Nodup := by rw [hN']; exact scTurn.nd
    obtain ⟨cdv, A, outer, s, H, rfl⟩ := hX
    obtain ⟨p, q, cs, l, m, t, n, rfl, hn, hQ⟩ := h
    refine vss_one <| vs_ret <| ve_t1 bb_tuple <| ve_callL 0 C1 hr <| ves_cons <| ve_name 0 rfl <| ves_cons <| ve_still <| ve_listRg <| ve_name 1 rfl ⟨_, rfl, RgOk.of_le (by omega) (by omega) (by omega) (by omega), fun q1 => ⟨q1, _, rfl, ves_nil ⟨p, _, _, [.d (.list ((List.range n).map ni))], by rw [rgD_ln]; rfl, rfl, p, q, cs, l, m, t, List.range n, rfl, by rw [List.length_range]; exact hn, fun cs1 l1 m1 t1 p2 xs hp => ⟨_, _, rfl, tuple_d (.nd _ _) ?_⟩⟩⟩⟩
    obtain ⟨ta, hl⟩ := perm_turn hp
    exact ⟨_, _, .own _, _, ⟨_, _, _, rfl, rfl, _, rfl, rfl⟩, hQ cs1 l1 m1 t1 xs ta hl⟩
theorem scWT : FnScope ["n", "turns", "word", "found", "k"] ["n", "turns", "word"] (defScope (top 20)) := ⟨rfl, rfl, rfl, by decide +kernel, rfl, by decide +kernel, by decide +kernel⟩
theorem ok_wt (Fu : FnP K "_law_word_turn" (top 20) f fd) (C1 : DefV P w K mg base 1 "_law_by" (spF pTimes)) (C2 : DefV P w K mg base 1 "_law_back" (spF pBack)) (m1 : mg "tuple" = none) (m2 : mg "range" = none) : FnV P w K mg base 2 f fd ["n", "turns", "word"] (spF pWT) := by
  refine FnV.ofD (fun_of Fu) scWT (fun xs y h => ?_) (fun X xs y hr hN h hX => ?_)
  · obtain ⟨m, T, w, rfl, _⟩ := h
    rfl
  · obtain ⟨cdv, A, outer, s, H, rfl⟩ := hX
    obtain ⟨m, T, wd, rfl, tb, hn, hw, rfl⟩ := h
    refine vss_cons <| vs_set 3 <| ve_tupRg <| ve_name 0 rfl ⟨_, rfl, RgOk.of_le (by omega) (by omega) (by omega) (by omega), _, _, .own _, ?_⟩
    rw [rgD_tn]
    have e00 : (List.range T.length).map (fun a => gon T a (wd.take 0)) = List.range T.length := by
      rw [List.take_zero]
      exact List.map_id' _
    refine vss_cons <| vs_for [4] (vi_tup <| ve_name 2 rfl ⟨_, rfl, fun i e => ∃ o4, e = [some (.d (ni T.length)), some (.d (colsD m T)), some (.d (wD wd)), some (.d (tn ((List.range T.length).map fun a => gon T a (wd.take i)))), o4], ⟨none, by rw [e00]; rfl⟩, fun _ _ _ => trivial, ?_, ?_⟩)
    · rintro i x e hx ⟨o4, rfl⟩
      rw [List.getElem?_map, List.getElem?_map] at hx
      cases ex : wd[i]? with
      | none => rw [ex] at hx; cases hx
      | some k =>
      rw [ex] at hx
      cases hx
      obtain ⟨k0, k1⟩ := hw k (List.mem_of_getElem? ex)
      have enext : ∀ c : List Nat, (∀ a, a < T.length → ap c a = stp T a k) → tm ((List.range T.length).map fun a => gon T a (wd.take i)) c = (List.range T.length).map fun a => gon T a (wd.take (i + 1)) := fun c hc => by
        unfold tm
        rw [List.map_map]
        refine List.map_congr_left fun a ha => ?_
        rw [List.take_succ, ex]
        show ap c (gon T a (wd.take i)) = gon T a (wd.take i ++ [k])
        rw [gon_snoc, hc _ (tb.gon_lt (List.mem_range.mp ha) fun j hj => hw j (List.mem_of_mem_take hj))]
      have fin : ∀ c : List Nat, c.length = T.length → (∀ a, a < T.length → ap c a = stp T a k) → pTimes [tn ((List.range T.length).map fun a => gon T a (wd.take i)), tn c] (tn ((List.range T.length).map fun a => gon T a (wd.take (i + 1)))) := fun c hcl hc => by
        refine ⟨_, c, rfl, by rw [List.length_map, List.length_range]; omega, fun x hx => ?_, by rw [enext c hc]⟩
        obtain ⟨a, ha, rfl⟩ := List.mem_map.mp hx
        rw [hcl]
        exact tb.gon_lt (List.mem_range.mp ha) fun j hj => hw j (List.mem_of_mem_take hj)
      refine vg_name 4 <| vss_one <| vs_set 3 <| ve_callF C1 hr <| ves_cons <| ve_name 3 rfl <| ves_cons <| ve_ifExp <| vt_cmp <| ve_name 4 rfl <| ve_int <| gt_i ⟨_, rfl, ?_⟩
      by_cases hk : 0 < k
      · rw [if_pos (decide_eq_true hk)]
        have hkm : k.toNat - 1 < m := by omega
        have hcol : ((List.range m).map fun k => tn (colT T k))[k.toNat - 1]? = some (tn (colT T (k.toNat - 1))) := by rw [List.getElem?_map, List.getElem?_range hkm]; rfl
        refine ve_sub <| ve_name 1 rfl <| ve_bin <| ve_name 4 rfl <| ve_int <| sub_i ?_
        rw [show k - 1 = ((k.toNat - 1 : Nat) : Int) by omega]
        refine ix_d (.dl _) (atI_nat hcol) <| ves_nil ⟨[tn ((List.range T.length).map fun a => gon T a (wd.take i)), tn (colT T (k.toNat - 1))], _, rfl, fin _ (tb.col hkm).2 (fun a ha => ?_), _, _, .own _, some (.d (.int k)), rfl⟩
        rw [tb.ap ha]
        unfold stp
        rw [if_pos hk]
      · rw [if_neg (by simpa using hk)]
        have hkm : (-k).toNat - 1 < m := by omega
        obtain ⟨tc, hcl⟩ := tb.col hkm
        have hcol : ((List.range m).map fun k => tn (colT T k))[(-k).toNat - 1]? = some (tn (colT T ((-k).toNat - 1))) := by rw [List.getElem?_map, List.getElem?_range hkm]; rfl
        refine ve_callF C2 hr <| ves_cons <| ve_sub <| ve_name 1 rfl <| ve_bin <| ve_bin <| ve_int <| ve_name 4 rfl <| sub_i <| ve_int <| sub_i ?_
        rw [show 0 - k - 1 = (((-k).toNat - 1 : Nat) : Int) by omega]
        refine ix_d (.dl _) (atI_nat hcol) <| ves_nil ⟨[tn (colT T ((-k).toNat - 1))], _, rfl, ⟨_, rfl, ⟨tc, by omega⟩, rfl⟩, ves_nil ⟨[tn ((List.range T.length).map fun a => gon T a (wd.take i)), tn (bk (colT T ((-k).toNat - 1)))], _, rfl, fin _ (by rw [bk_len, hcl]) (fun a ha => ?_), _, _, .own _, some (.d (.int k)), rfl⟩⟩
        unfold stp
        rw [if_neg hk]
        unfold ap PM.bk
        rw [List.getD, List.getElem?_map, List.getElem?_range (by rw [hcl]; exact ha)]
        rfl
    · rintro e ⟨o4, rfl⟩
      rw [List.length_map, List.length_map, List.take_length]
      exact vss_one <| vs_retD <| ve_name 3 rfl ⟨rfl, rfl⟩
theorem scWord : FnScope ["source", "m", "most", "member"] ["source", "m", "most"] (defScope (top 21)) := ⟨rfl, rfl, rfl, by decide +kernel, rfl, by decide +kernel, by decide +kernel⟩
theorem ok_word (Fu : FnP K "_law_word" (top 21) f fd) (C1 : DefV P w K mg base 2 "_law_pick" spPick) (C2 : DefV P w K mg base 2 "_law_of" spOf) (m1 : mg "tuple" = none) (m2 : mg "range" = none) : FnV P w K mg base 3 f fd ["source", "m", "most"] spWord := by
  refine FnV.of (fun_of Fu) scWord (fun ts Q h => ?_) (fun X ts Q _ _ _ _ _ hN' _ _ _ _ hr h hX => ?_)
  · obtain ⟨p, q, cs, l, m, t, n, most, rfl, _⟩ := h
    rfl
  · have hN : X.N.Nodup := by rw [hN']; exact scWord.nd
    obtain ⟨cdv, A, outer, s, H, rfl⟩ := hX
    obtain ⟨p, q, cs, l, m, t, n, most, rfl, hn0, hn, hmost, hQ⟩ := h
    refine vss_one <| vs_ret <| ve_t1 bb_tuple <| ve_lc [("member", 3)] (vi_range1 <| ve_callL 0 C1 hr <| ves_cons <| ve_name 0 rfl <| ves_cons <| ve_bin <| ve_name 2 rfl <| ve_int <| add_i <| ves_nil ⟨p, _, _, [.d (.int ((most : Int) + 1))], rfl, rfl, p, q, cs, l, m, t, _, rfl, by omega, fun cs1 l1 m1 t1 r0 hr0 => ⟨_, _, rfl, _, rfl, by omega, by omega, ?_⟩⟩)
    have hr1 : r0 ≤ most := by
      have := pick_lt' (k := most + 1) (by push_cast; rfl) (by omega) hr0
      omega
    refine ⟨fun i acc e => ∃ cs l m t, ∃ wd : List Int, acc = (wd.map PyData.int).map VL.T.d ∧ wd.length = i ∧ i ≤ r0 ∧ (∀ k ∈ wd, okL n k) ∧ e = [some (srcT p q cs l m t), some (.d (ni n)), some (.d (ni most)), none], ⟨cs1, l1, m1, t1, [], rfl, rfl, Nat.zero_le _, (by simp), rfl⟩, ?_, ?_, ?_⟩
    · rintro i acc e ⟨cs, l, m, t, wd, rfl, hi, hir, hw, rfl⟩
      refine ⟨trivial, fun _ => ?_⟩
      rw [List.length_map, List.length_map, sizeLine_eq]
      omega
    · rintro i x acc e hx ⟨cs, l, m, t, wd, rfl, hi, hir, hw, rfl⟩ p1
      obtain ⟨hi2, rfl⟩ := rng_get hx
      refine vg_name 3 fun p2' => vts_nil ?_
      rw [if_pos rfl]
      intro p3
      refine ve_bin <| ve_bin <| ve_int <| ve_callL 0 C1 hr <| ves_cons <| ve_name 0 rfl <| ves_cons <| ve_name 1 rfl <| ves_nil ⟨p, _, _, [.d (ni n)], rfl, rfl, p, q, cs, l, m, t, _, rfl, by omega, fun cs' l' m' t' r hr' => ⟨_, _, rfl, add_i ?_⟩⟩
      have hlt : r < n := pick_lt' rfl hn0 hr'
      refine ve_callL 0 C2 hr <| ves_cons <| ve_name 0 rfl <| ves_cons <| ve_still <| ve_list <| ves_cons <| ve_int <| ves_cons <| ve_un <| ve_int <| neg_i <| ves_nil ⟨[.d (.int 1), .d (.int (-1))], rfl, sz rfl, fun q2 => ⟨q2, [.int 1, .int (-1)], rfl, ves_nil ⟨p, _, _, [.d (.list [.int 1, .int (-1)])], rfl, rfl, p, q, cs', l', m', t', [.int 1, .int (-1)], rfl, by decide, by decide, fun cs2 l2 m2 t2 y hy => ⟨_, _, rfl, ?_⟩⟩⟩⟩
      have hy' : y = .int 1 ∨ y = .int (-1) := by simpa using hy
      have go : ∀ sgn : Int, (sgn = 1 ∨ sgn = -1) → okL n ((1 + (r : Int)) * sgn) := by
        rintro sgn (rfl | rfl)
        · exact ⟨by omega, by omega⟩
        · exact ⟨by omega, by omega⟩
      have fin : ∀ sgn : Int, (sgn = 1 ∨ sgn = -1) → ∃ cs l m t, ∃ wd' : List Int, (wd.map PyData.int).map VL.T.d ++ [VL.T.d (.int ((1 + (r : Int)) * sgn))] = (wd'.map PyData.int).map VL.T.d ∧ wd'.length = i + 1 ∧ i + 1 ≤ r0 ∧ (∀ k ∈ wd', okL n k) ∧ [some (srcT p q cs2 l2 m2 t2), some (.d (ni n)), some (.d (ni most)), none] = [some (srcT p q cs l m t), some (.d (ni n)), some (.d (ni most)), none] := fun sgn hs => by
        refine ⟨cs2, l2, m2, t2, wd ++ [(1 + (r : Int)) * sgn], ?_, by rw [List.length_append, hi]; rfl, by omega, fun k hk => ?_, rfl⟩
        · rw [List.map_append, List.map_append]
          rfl
        · rcases List.mem_append.mp hk with h | h
          · exact hw k h
          · have : k = (1 + (r : Int)) * sgn := by simpa using h
            rw [this]
            exact go sgn hs
      rcases hy' with rfl | rfl
      · exact mul_i (.inr ⟨by decide, by decide⟩) ⟨_, _, .own _, fin 1 (.inl rfl)⟩
      · exact mul_i (.inr ⟨by decide, by decide⟩) ⟨_, _, .own _, fin (-1) (.inr rfl)⟩
    · rintro acc e ⟨cs, l, m, t, wd, rfl, hi, hir, hw, rfl⟩ p4
      exact tuple_d (.nd _ _) ⟨_, _, .own _, _, ⟨_, _, _, rfl, rfl, _, rfl, _, rfl, rfl⟩, hQ cs l m t wd hw (by omega)⟩
end
end K54

/-! text B7 -/
set_option Elab.async false
set_option linter.all false
set_option maxRecDepth 100000
set_option maxHeartbeats 2000000
set_option pp.maxSteps 250
namespace K54
open PySem PySem.Spec L2 VL PM
structure RightV (rel : List (List Int)) (cols : List (List Nat)) (n : Nat) : Prop where
  n0 : 12 ≤ n
  n1 : n ≤ 60
  c0 : 2 ≤ cols.length
  c1 : cols.length ≤ 3
  cl : ∀ c ∈ cols, c.length = n ∧ ∀ x ∈ c, x < n
  rl : rel.length ≤ 3
  rr : ∀ w ∈ rel, w.length ≤ 100 ∧ ∀ k ∈ w, okL 2 k
def colsT (cols : List (List Nat)) : PyData := .list (cols.map tn)
def spRight : Sv := fun ts Q => ∃ p q cs l m t, ts = [srcT p q cs l m t] ∧ ∀ cs' l' m' t' rel cols n, RightV rel cols n → Q (.d (.tuple [wsD rel, colsT cols, ni n])) [srcT p q cs' l' m' t']
def colF (n : Nat) (f : Nat → Int) : List Nat := (List.range n).map fun x => (f x).toNat
theorem colF_ok {n : Nat} {f : Nat → Int} (h : ∀ x, x < n → 0 ≤ f x ∧ f x < n) : (colF n f).length = n ∧ ∀ x ∈ colF n f, x < n := by
  refine ⟨by simp [colF], fun x hx => ?_⟩
  obtain ⟨y, hy, rfl⟩ := List.mem_map.mp hx
  have := h y (List.mem_range.mp hy)
  omega
theorem rng_n {j : Int} {n : Nat} (h : j = (n : Int)) : rng 0 j.toNat = (List.range n).map fun i => it (ni i) := by subst h; simp [rng]
theorem colF_fm {n : Nat} {f : Nat → Int} (h : ∀ x, x < n → 0 ≤ f x ∧ f x < n) : (List.range n).filterMap (fun x => some (PyData.int (f x))) = (colF n f).map ni := by
  rw [List.filterMap_eq_map', colF, List.map_map]
  refine List.map_congr_left fun x hx => ?_
  have := h x (List.mem_range.mp hx)
  show PyData.int (f x) = PyData.int (((f x).toNat : Nat) : Int)
  congr 1
  omega
theorem block_lt {x i j : Nat} (hj : 0 < j) (hx : x < i * j) : 0 ≤ (x : Int) / (j : Int) * (j : Int) + ((x : Int) % (j : Int) + 1) % (j : Int) ∧ (x : Int) / (j : Int) * (j : Int) + ((x : Int) % (j : Int) + 1) % (j : Int) < ((i * j : Nat) : Int) := by
  have h1 : x / j < i := Nat.div_lt_of_lt_mul (by rw [Nat.mul_comm]; exact hx)
  have h2 : (x / j + 1) * j ≤ i * j := Nat.mul_le_mul_right j h1
  have h3 : (x % j + 1) % j < j := Nat.mod_lt _ hj
  have e : (x : Int) / (j : Int) * (j : Int) + ((x : Int) % (j : Int) + 1) % (j : Int) = ((x / j * j + (x % j + 1) % j : Nat) : Int) := by push_cast; rfl
  rw [e]
  rw [Nat.add_mul] at h2
  omega
theorem rep_tup {k : Int} {n : Nat} (h : k = (n : Int)) (x : Int) : (List.replicate k.toNat [PyData.int x]).flatten = (List.replicate n x).map PyData.int := by
  subst h
  rw [Int.toNat_natCast]
  induction n with
  | zero => rfl
  | succ n ih => rw [List.replicate_succ, List.flatten_cons, ih, List.replicate_succ, List.map_cons]; rfl
section
variable {P : Program} {w : World} {K : PySem.W.Frag} {mg : Str → Option Value} {base : Heap} {f : Addr} {fd : FuncData}
theorem scRight : FnScope ["source", "way", "k", "turns", "i", "j", "one", "other", "q", "x"] ["source"] (defScope (top 22)) := ⟨rfl, rfl, rfl, by decide +kernel, rfl, by decide +kernel, by decide +kernel⟩
theorem ok_right (Fu : FnP K "_law_right" (top 22) f fd) (C1 : DefV P w K mg base 3 "_law_pick" spPick) (C2 : DefV P w K mg base 3 "_law_turn" spTurn) (m1 : mg "tuple" = none) (m2 : mg "range" = none) : FnV P w K mg base 4 f fd ["source"] spRight := by
  refine FnV.of (fun_of Fu) scRight (fun ts Q h => ?_) (fun X ts Q _ _ _ _ _ hN' _ _ _ _ hr h hX => ?_)
  · obtain ⟨p, q, cs, l, m, t, rfl, _⟩ := h
    rfl
  · have hN : X.N.Nodup := by rw [hN']; exact scRight.nd
    obtain ⟨cdv, A, outer, s, H, rfl⟩ := hX
    obtain ⟨p, q, cs, l, m, t, rfl, hQ⟩ := h
    refine vss_cons <| vs_set 1 <| ve_callL 0 C1 hr <| ves_cons <| ve_name 0 rfl <| ves_cons <| ve_int <| ves_nil ⟨p, _, _, [.d (.int 3)], rfl, rfl, p, q, cs, l, m, t, _, rfl, by omega, fun cs1 l1 m1 t1 way hway => ⟨_, _, rfl, _, _, .own _, ?_⟩⟩
    refine vss_cons <| vs_if <| vt_cmp <| ve_name 1 rfl <| ve_int <| eq_i ⟨_, rfl, ?_⟩
    by_cases h0 : way = 0
    · subst h0
      rw [if_pos (by rfl)]
      refine vss_cons <| vs_set 2 <| ve_bin <| ve_int <| ve_callL 0 C1 hr <| ves_cons <| ve_name 0 rfl <| ves_cons <| ve_int <| ves_nil ⟨p, _, _, [.d (.int 25)], rfl, rfl, p, q, cs1, l1, m1, t1, _, rfl, by omega, fun cs2 l2 m2 t2 r hr0 => ⟨_, _, rfl, add_i ⟨_, _, .own _, ?_⟩⟩⟩
      have hr1 : r < 25 := pick_lt rfl (by omega) hr0
      obtain ⟨k, hk⟩ : ∃ k : Nat, k = 6 + r := ⟨_, rfl⟩
      rw [show (6 : Int) + (r : Int) = (k : Int) by omega]
      have hN2 : ∀ x : Nat, x < 2 * k → 0 ≤ (0 - (x : Int)) % (2 * (k : Int)) ∧ (0 - (x : Int)) % (2 * (k : Int)) < ((2 * k : Nat) : Int) := fun x _ => by
        have := Int.emod_nonneg (0 - (x : Int)) (show (2 * (k : Int)) ≠ 0 by omega)
        have := Int.emod_lt_of_pos (0 - (x : Int)) (show 0 < (2 * (k : Int)) by omega)
        omega
      have hN3 : ∀ x : Nat, x < 2 * k → 0 ≤ (1 - (x : Int)) % (2 * (k : Int)) ∧ (1 - (x : Int)) % (2 * (k : Int)) < ((2 * k : Nat) : Int) := fun x _ => by
        have := Int.emod_nonneg (1 - (x : Int)) (show (2 * (k : Int)) ≠ 0 by omega)
        have := Int.emod_lt_of_pos (1 - (x : Int)) (show 0 < (2 * (k : Int)) by omega)
        omega
      obtain ⟨cA, cAok, cAfm⟩ : ∃ c : List Nat, (c.length = 2 * k ∧ ∀ x ∈ c, x < 2 * k) ∧ (List.range (2 * k)).filterMap (fun x : Nat => some (PyData.int ((0 - (x : Int)) % (2 * (k : Int))))) = c.map ni := ⟨_, colF_ok hN2, colF_fm hN2⟩
      obtain ⟨cB, cBok, cBfm⟩ : ∃ c : List Nat, (c.length = 2 * k ∧ ∀ x ∈ c, x < 2 * k) ∧ (List.range (2 * k)).filterMap (fun x : Nat => some (PyData.int ((1 - (x : Int)) % (2 * (k : Int))))) = c.map ni := ⟨_, colF_ok hN3, colF_fm hN3⟩
      refine vss_cons <| vs_set 3 <| ve_list <| ves_cons <| ve_t1 bb_tuple <| ve_lc [("x", 9)] (vi_range1 <| ve_bin <| ve_int <| ve_name 2 rfl <| mul_i (.inr ⟨by omega, by omega⟩) ⟨_, rfl, by omega, by omega, ?_⟩)
      refine lcq_l (List.range (2 * k)) ni (fun x => some (.int ((0 - (x : Int)) % (2 * (k : Int))))) [some (srcT p q cs2 l2 m2 t2), some (.d (ni 0)), some (.d (ni k)), none, none, none, none, none, none, none] (rng_n (by push_cast; rfl)) rfl trivial (by rw [sizeLine_eq, List.length_range]; omega) ?_ ?_
      · intro i0 x hx p1
        refine vg_name 9 fun p2 => vts_nil ?_
        rw [if_pos rfl]
        intro p3
        refine ve_bin <| ve_bin <| ve_int <| ve_name 9 rfl <| sub_i <| ve_bin <| ve_int <| ve_name 2 rfl <| mul_i (.inr ⟨by omega, by omega⟩) <| mod_i (by omega) ⟨_, rfl, rfl, rfl⟩
      · intro pa
        refine tuple_d (.nd _ _) ?_
        rw [cAfm]
        refine ves_cons <| ve_t1 bb_tuple <| ve_lc [("x", 9)] (vi_range1 <| ve_bin <| ve_int <| ve_name 2 rfl <| mul_i (.inr ⟨by omega, by omega⟩) ⟨_, rfl, by omega, by omega, ?_⟩)
        refine lcq_l (List.range (2 * k)) ni (fun x => some (.int ((1 - (x : Int)) % (2 * (k : Int))))) [some (srcT p q cs2 l2 m2 t2), some (.d (ni 0)), some (.d (ni k)), none, none, none, none, none, none, none] (rng_n (by push_cast; rfl)) rfl trivial (by rw [sizeLine_eq, List.length_range]; omega) ?_ ?_
        · intro i0 x hx p1
          refine vg_name 9 fun p2 => vts_nil ?_
          rw [if_pos rfl]
          intro p3
          refine ve_bin <| ve_bin <| ve_int <| ve_name 9 rfl <| sub_i <| ve_bin <| ve_int <| ve_name 2 rfl <| mul_i (.inr ⟨by omega, by omega⟩) <| mod_i (by omega) ⟨_, rfl, rfl, rfl⟩
        · intro pb
          refine tuple_d (.nd _ _) ?_
          rw [cBfm]
          refine ves_nil ⟨[.d (tn cA), .d (tn cB)], rfl, sz rfl, fun pt => ⟨_, _, .own _, ?_⟩⟩
          show VSs _ _ [some (srcT p q cs2 l2 m2 t2), some (.d (ni 0)), some (.d (ni k)), some (ls pt [tn cA, tn cB]), none, none, none, none, none, none] _
          have h5 : ∀ X sts D, VSs X sts (([some (srcT p q cs2 l2 m2 t2), some (.d (ni 0)), some (.d (ni k)), some (ls pt [tn cA, tn cB]), none, none, none, none, none, none] : VL.Env).set 3 (some (.d (.list [tn cA, tn cB])))) D → VSs X sts [some (srcT p q cs2 l2 m2 t2), some (.d (ni 0)), some (.d (ni k)), some (ls pt [tn cA, tn cB]), none, none, none, none, none, none] D := fun X sts D h => @vss_still X _ D sts _ _ 3 rfl h
          refine h5 _ _ _ ?_
          refine vss_one ?_
          refine vs_ret ?_
          refine ve_tuple ?_
          refine ves_cons <| ve_tuple ?_
          refine ves_cons <| ve_tuple <| ves_cons <| ve_int <| ves_cons <| ve_int <| ves_nil ⟨[.int 1, .int 1], rfl, sz rfl, ?_⟩
          refine ves_cons <| ve_tuple <| ves_cons <| ve_int <| ves_cons <| ve_int <| ves_nil ⟨[.int 2, .int 2], rfl, sz rfl, ?_⟩
          refine ves_cons <| ve_tuple <| ves_cons <| ve_int <| ves_cons <| ve_int <| ves_cons <| ve_int <| ves_cons <| ve_int <| ves_nil ⟨[.int 1, .int 2, .int 1, .int 2], rfl, sz rfl, ?_⟩
          refine ves_nil ⟨[wD [1, 1], wD [2, 2], wD [1, 2, 1, 2]], rfl, sz rfl, ?_⟩
          refine ves_cons <| ve_name 3 rfl ?_
          refine ves_cons <| ve_bin <| ve_int <| ve_name 2 rfl <| mul_i (.inr ⟨by omega, by omega⟩) ?_
          rw [show (2 : Int) * (k : Int) = ((2 * k : Nat) : Int) by push_cast; rfl]
          refine ves_nil ⟨[wsD [[1, 1], [2, 2], [1, 2, 1, 2]], colsT [cA, cB], ni (2 * k)], rfl, sz rfl, ?_⟩
          refine ⟨_, _, .own _, _, ⟨_, _, _, rfl, rfl, rfl⟩, ?_⟩
          refine hQ cs2 l2 m2 t2 _ _ _ ⟨by omega, by omega, by simp, by simp, fun c hc => ?_, by simp, fun w hw => ?_⟩
          · have : c = cA ∨ c = cB := by simpa using hc
            rcases this with rfl | rfl
            · exact cAok
            · exact cBok
          · have : w = [1, 1] ∨ w = [2, 2] ∨ w = [1, 2, 1, 2] := by simpa using hw
            rcases this with rfl | rfl | rfl <;> exact ⟨by simp, by simp [okL]⟩
    rw [if_neg (by simpa using fun z : (way : Int) = 0 => h0 (by omega))]
    refine vss_nil <| vss_cons <| vs_if <| vt_cmp <| ve_name 1 rfl <| ve_int <| eq_i ⟨_, rfl, ?_⟩
    by_cases h1 : way = 1
    · subst h1
      rw [if_pos (by rfl)]
      refine vss_cons <| vs_asg [4, 5] <| ve_tuple <| ves_cons <| ve_bin <| ve_int <| ve_callL 0 C1 hr <| ves_cons <| ve_name 0 rfl <| ves_cons <| ve_int <| ves_nil ⟨p, _, _, [.d (.int 5)], rfl, rfl, p, q, cs1, l1, m1, t1, _, rfl, by omega, fun cs2 l2 m2 t2 r hr0 => ⟨_, _, rfl, add_i ?_⟩⟩
      have hr1 : r < 5 := pick_lt rfl (by omega) hr0
      refine ves_cons <| ve_bin <| ve_int <| ve_callL 0 C1 hr <| ves_cons <| ve_name 0 rfl <| ves_cons <| ve_int <| ves_nil ⟨p, _, _, [.d (.int 5)], rfl, rfl, p, q, cs2, l2, m2, t2, _, rfl, by omega, fun cs3 l3 m3 t3 r' hr0' => ⟨_, _, rfl, add_i <| ves_nil ⟨[.int (3 + (r : Int)), .int (4 + (r' : Int))], rfl, sz rfl, _, _, .own _, vg_row <| vg_tup (.cons (nmT 4) <| .cons (nmT 5) .nil) rfl ?_⟩⟩⟩
      have hr1' : r' < 5 := pick_lt rfl (by omega) hr0'
      obtain ⟨i, hi⟩ : ∃ i : Nat, i = 3 + r := ⟨_, rfl⟩
      obtain ⟨j, hj⟩ : ∃ j : Nat, j = 4 + r' := ⟨_, rfl⟩
      rw [show (3 : Int) + (r : Int) = (i : Int) by omega, show (4 : Int) + (r' : Int) = (j : Int) by omega]
      have hij0 : 3 * 4 ≤ i * j := Nat.mul_le_mul (by omega) (by omega)
      have hij1 : i * j ≤ 7 * 8 := Nat.mul_le_mul (by omega) (by omega)
      obtain ⟨n, hn⟩ : ∃ n : Nat, n = i * j := ⟨_, rfl⟩
      have en : (i : Int) * (j : Int) = (n : Int) := by rw [hn]; push_cast; rfl
      rw [← hn] at hij0 hij1
      have hA : ∀ x : Nat, x < n → 0 ≤ (x : Int) / (j : Int) * (j : Int) + ((x : Int) % (j : Int) + 1) % (j : Int) ∧ (x : Int) / (j : Int) * (j : Int) + ((x : Int) % (j : Int) + 1) % (j : Int) < (n : Int) := fun x hx => by
        rw [hn] at hx ⊢
        exact block_lt (by omega) hx
      have hB : ∀ x : Nat, x < n → 0 ≤ ((x : Int) + (j : Int)) % (n : Int) ∧ ((x : Int) + (j : Int)) % (n : Int) < (n : Int) := fun x _ => ⟨Int.emod_nonneg _ (by omega), Int.emod_lt_of_pos _ (by omega)⟩
      obtain ⟨cA, cAok, cAfm⟩ : ∃ c : List Nat, (c.length = n ∧ ∀ x ∈ c, x < n) ∧ (List.range (n)).filterMap (fun x : Nat => some (PyData.int ((x : Int) / (j : Int) * (j : Int) + ((x : Int) % (j : Int) + 1) % (j : Int)))) = c.map ni := ⟨_, colF_ok hA, colF_fm hA⟩
      obtain ⟨cB, cBok, cBfm⟩ : ∃ c : List Nat, (c.length = n ∧ ∀ x ∈ c, x < n) ∧ (List.range (n)).filterMap (fun x : Nat => some (PyData.int (((x : Int) + (j : Int)) % (n : Int)))) = c.map ni := ⟨_, colF_ok hB, colF_fm hB⟩
      refine vss_cons <| vs_set 6 <| ve_t1 bb_tuple <| ve_lc [("x", 9)] (vi_range1 <| ve_bin <| ve_name 4 rfl <| ve_name 5 rfl <| mul_i (.inr ⟨by omega, by omega⟩) ⟨_, rfl, by omega, by omega, ?_⟩)
      refine lcq_l (List.range n) ni (fun x => some (.int ((x : Int) / (j : Int) * (j : Int) + ((x : Int) % (j : Int) + 1) % (j : Int)))) [some (srcT p q cs3 l3 m3 t3), some (.d (ni 1)), none, none, some (.d (ni i)), some (.d (ni j)), none, none, none, none] (rng_n en) rfl trivial (by rw [sizeLine_eq, List.length_range]; omega) ?_ ?_
      · intro i0 x hx p1
        refine vg_name 9 fun p2 => vts_nil ?_
        rw [if_pos rfl]
        intro p3
        refine ve_bin <| ve_bin <| ve_bin <| ve_name 9 rfl <| ve_name 5 rfl <| fdiv_i ⟨by omega, by omega⟩ <| ve_name 5 rfl <| mul_i (.inr ⟨by omega, by omega⟩) ?_
        refine ve_bin <| ve_bin <| ve_bin <| ve_name 9 rfl <| ve_name 5 rfl <| mod_i (by omega) <| ve_int <| add_i <| ve_name 5 rfl <| mod_i (by omega) <| add_i ⟨_, rfl, rfl, rfl⟩
      · intro pa
        refine tuple_d (.nd _ _) ?_
        rw [cAfm]
        refine ⟨_, _, .own _, ?_⟩
        refine vss_cons <| vs_set 7 <| ve_t1 bb_tuple <| ve_lc [("x", 9)] (vi_range1 <| ve_bin <| ve_name 4 rfl <| ve_name 5 rfl <| mul_i (.inr ⟨by omega, by omega⟩) ⟨_, rfl, by omega, by omega, ?_⟩)
        refine lcq_l (List.range n) ni (fun x => some (.int (((x : Int) + (j : Int)) % (n : Int)))) [some (srcT p q cs3 l3 m3 t3), some (.d (ni 1)), none, none, some (.d (ni i)), some (.d (ni j)), some (.d (tn cA)), none, none, none] (rng_n en) rfl trivial (by rw [sizeLine_eq, List.length_range]; omega) ?_ ?_
        · intro i0 x hx p1
          refine vg_name 9 fun p2 => vts_nil ?_
          rw [if_pos rfl]
          intro p3
          refine ve_bin <| ve_bin <| ve_name 9 rfl <| ve_name 5 rfl <| add_i <| ve_bin <| ve_name 4 rfl <| ve_name 5 rfl <| mul_i (.inr ⟨by omega, by omega⟩) ?_
          rw [en]
          exact mod_i (by omega) ⟨_, rfl, rfl, rfl⟩
        · intro pb
          refine tuple_d (.nd _ _) ?_
          rw [cBfm]
          refine ⟨_, _, .own _, ?_⟩
          refine vss_one ?_
          refine vs_ret ?_
          refine ve_tuple ?_
          refine ves_cons <| ve_tuple ?_
          refine ves_cons <| ve_bin <| ve_tuple <| ves_cons <| ve_int <| ves_nil ⟨[.int 1], rfl, sz rfl, ve_name 5 rfl <| mul_t (by simp) (by omega) (by omega) (by simp) ?_⟩
          rw [rep_tup rfl]
          refine ves_cons <| ve_bin <| ve_tuple <| ves_cons <| ve_int <| ves_nil ⟨[.int 2], rfl, sz rfl, ve_name 4 rfl <| mul_t (by simp) (by omega) (by omega) (by simp) ?_⟩
          rw [rep_tup rfl]
          refine ves_cons <| ve_tuple <| ves_cons <| ve_int <| ves_cons <| ve_int <| ves_cons <| ve_un <| ve_int <| neg_i <| ves_cons <| ve_un <| ve_int <| neg_i <| ves_nil ⟨[.int 1, .int 2, .int (-1), .int (-2)], rfl, sz rfl, ?_⟩
          refine ves_nil ⟨[wD (List.replicate j 1), wD (List.replicate i 2), wD [1, 2, -1, -2]], rfl, sz rfl, ?_⟩
          refine ves_cons <| ve_still <| ve_list <| ves_cons <| ve_name 6 rfl <| ves_cons <| ve_name 7 rfl <| ves_nil ⟨[.d (tn cA), .d (tn cB)], rfl, sz rfl, fun pt => ⟨pt, [tn cA, tn cB], rfl, ?_⟩⟩
          refine ves_cons <| ve_bin <| ve_name 4 rfl <| ve_name 5 rfl <| mul_i (.inr ⟨by omega, by omega⟩) ?_
          rw [en]
          refine ves_nil ⟨[wsD [List.replicate j 1, List.replicate i 2, [1, 2, -1, -2]], colsT [cA, cB], ni n], rfl, sz rfl, ⟨_, _, .own _, _, ⟨_, _, _, rfl, rfl, rfl⟩, ?_⟩⟩
          refine hQ cs3 l3 m3 t3 _ _ _ ⟨by omega, by omega, by simp, by simp, fun c hc => ?_, by simp, fun w hw => ?_⟩
          · have : c = cA ∨ c = cB := by simpa using hc
            rcases this with rfl | rfl
            · exact cAok
            · exact cBok
          · have : w = List.replicate j 1 ∨ w = List.replicate i 2 ∨ w = [1, 2, -1, -2] := by simpa using hw
            rcases this with rfl | rfl | rfl
            · exact ⟨by rw [List.length_replicate]; omega, fun k hk => by rw [List.eq_of_mem_replicate hk]; exact ⟨by omega, by decide⟩⟩
            · exact ⟨by rw [List.length_replicate]; omega, fun k hk => by rw [List.eq_of_mem_replicate hk]; exact ⟨by omega, by decide⟩⟩
            · exact ⟨by simp, by simp [okL]⟩
    rw [if_neg (by simpa using fun z : (way : Int) = 1 => h1 (by omega))]
    refine vss_nil <| vss_cons <| vs_set 8 <| ve_bin <| ve_int <| ve_callL 0 C1 hr <| ves_cons <| ve_name 0 rfl <| ves_cons <| ve_int <| ves_nil ⟨p, _, _, [.d (.int 30)], rfl, rfl, p, q, cs1, l1, m1, t1, _, rfl, by omega, fun cs2 l2 m2 t2 r hr0 => ⟨_, _, rfl, add_i ⟨_, _, .own _, ?_⟩⟩⟩
    have hr1 : r < 30 := pick_lt rfl (by omega) hr0
    obtain ⟨n, hn⟩ : ∃ n : Nat, n = 12 + r := ⟨_, rfl⟩
    rw [show (12 : Int) + (r : Int) = (n : Int) by omega]
    have e1 : rgD 1 (n : Int) ++ [PyData.int 0] = ((List.range (n - 1)).map (· + 1) ++ [0]).map ni := by
      unfold rgD
      rw [show ((n : Int) - 1).toNat = n - 1 by omega, List.map_append, List.map_map]
      refine congrArg (· ++ [PyData.int 0]) (List.map_congr_left fun x _ => ?_)
      show PyData.int (1 + (x : Int)) = PyData.int (((x + 1 : Nat) : Int))
      congr 1
      push_cast
      omega
    refine vss_one <| vs_ret <| ve_tuple ?_
    refine ves_cons <| ve_tuple <| ves_nil ⟨[], rfl, sz rfl, ?_⟩
    refine ves_cons <| ve_still <| ve_list <| ves_cons <| ve_bin <| ve_tupRg2 <| ve_int <| ve_name 8 rfl ⟨_, _, rfl, rfl, RgOk.of_le (by omega) (by omega) (by omega) (by omega), ve_tuple <| ves_cons <| ve_int <| ves_nil ⟨[.int 0], rfl, sz rfl, add_t ?_ ?_⟩⟩
    · rw [sizeLine_eq]
      simp [rgD]
      omega
    rw [e1]
    refine ves_cons <| ve_callL 0 C2 hr <| ves_cons <| ve_name 0 rfl <| ves_cons <| ve_name 8 rfl <| ves_nil ⟨p, _, _, [.d (ni n)], rfl, rfl, p, q, cs2, l2, m2, t2, _, rfl, by omega, fun cs3 l3 m3 t3 a ta ha => ⟨_, _, rfl, ?_⟩⟩
    refine ves_cons <| ve_callL 0 C2 hr <| ves_cons <| ve_name 0 rfl <| ves_cons <| ve_name 8 rfl <| ves_nil ⟨p, _, _, [.d (ni n)], rfl, rfl, p, q, cs3, l3, m3, t3, _, rfl, by omega, fun cs4 l4 m4 t4 b tb hb => ⟨_, _, rfl, ?_⟩⟩
    refine ves_nil ⟨[.d (tn ((List.range (n - 1)).map (· + 1) ++ [0])), .d (tn a), .d (tn b)], rfl, sz rfl, fun pt => ⟨pt, [tn ((List.range (n - 1)).map (· + 1) ++ [0]), tn a, tn b], rfl, ?_⟩⟩
    refine ves_cons <| ve_name 8 rfl <| ves_nil ⟨[wsD [], colsT [(List.range (n - 1)).map (· + 1) ++ [0], a, b], ni n], rfl, sz rfl, ⟨_, _, .own _, _, ⟨_, _, _, rfl, rfl, rfl⟩, ?_⟩⟩
    refine hQ cs4 l4 m4 t4 _ _ _ ⟨by omega, by omega, by simp, by simp, fun c hc => ?_, by simp, fun w hw => by cases hw⟩
    have : c = (List.range (n - 1)).map (· + 1) ++ [0] ∨ c = a ∨ c = b := by simpa using hc
    rcases this with rfl | rfl | rfl
    · refine ⟨by simp; omega, fun x hx => ?_⟩
      rcases List.mem_append.mp hx with h | h
      · obtain ⟨y, hy, rfl⟩ := List.mem_map.mp h
        have := List.mem_range.mp hy
        omega
      · have : x = 0 := by simpa using h
        omega
    · exact ⟨ha, fun x hx => by rw [← ha]; exact ta.2 x hx⟩
    · exact ⟨hb, fun x hx => by rw [← hb]; exact tb.2 x hx⟩
end
end K54

/-! text B8 -/
set_option Elab.async false
set_option linter.all false
set_option maxRecDepth 100000
set_option maxHeartbeats 2000000
set_option pp.maxSteps 250
namespace K54
open PySem PySem.Spec L2 VL PM
theorem plainAll_mem : ∀ {xs : List PyData}, PyData.plainAll xs = true → ∀ x ∈ xs, x.plain = true
  | [], _, x, h => by cases h
  | y :: xs, h, x, hx => by
    simp only [PyData.plainAll, Bool.and_eq_true] at h
    rcases List.mem_cons.mp hx with rfl | hx
    · exact h.1
    · exact plainAll_mem h.2 x hx
theorem depthAll_mem : ∀ {xs : List PyData} {d : Nat}, PyData.depthAll xs ≤ d → ∀ x ∈ xs, x.depth ≤ d
  | [], _, _, x, h => by cases h
  | y :: xs, d, h, x, hx => by
    rw [PyData.depthAll] at h
    rcases List.mem_cons.mp hx with rfl | hx
    · exact Nat.le_trans (Nat.le_max_left _ _) h
    · exact depthAll_mem (Nat.le_trans (Nat.le_max_right _ _) h) x hx
theorem tup_plain {xs : List PyData} (h : (PyData.tuple xs).plain = true) : ∀ x ∈ xs, x.plain = true := by
  simp only [PyData.plain] at h
  exact plainAll_mem h
theorem tup_depth {xs : List PyData} {d : Nat} (h : (PyData.tuple xs).depth ≤ d + 1) : ∀ x ∈ xs, x.depth ≤ d := by
  rw [PyData.depth] at h
  exact depthAll_mem (Nat.le_of_succ_le_succ h)
theorem filt_fm (p : PyData → Bool) (l : List PyData) : (l.filterMap fun k => if p k = true then some k else none) = l.filter p := by
  rw [fm_filter p (fun x => x), List.map_id']
def badRow (m : Nat) : PyData → Bool
  | .tuple ys => !decide (ys.length = m)
  | _ => true
def badEnt (y : PyData) : Bool := !(isInt y) || isBool y
theorem badEnt_int {y : PyData} (h : badEnt y = false) : ∃ j, y = .int j := by
  cases y with
  | int j => exact ⟨j, rfl⟩
  | bool b => simp [badEnt, isInt, isBool] at h
  | _ => simp [badEnt, isInt] at h
def rowAt (k : Nat) : PyData → PyData
  | .tuple ys => ys.getD k .none
  | _ => .none
def rgI (n : Nat) : List Int := (List.range n).map fun x : Nat => (x : Int)
def okCol (xs : List PyData) (k : Nat) : Prop := ∃ js : List Int, xs.map (rowAt k) = js.map PyData.int ∧ js.Perm (rgI xs.length)
theorem rgI_mem {n : Nat} {j : Int} (h : j ∈ rgI n) : 0 ≤ j ∧ j < n := by
  obtain ⟨x, hx, rfl⟩ := List.mem_map.mp h
  have := List.mem_range.mp hx
  omega
theorem rgI_nd (n : Nat) : (rgI n).Nodup := nodup_map (fun x _ y _ e => by have e' : (x : Int) = (y : Int) := e; omega) List.nodup_range
theorem ints_all : ∀ {l : List PyData}, (∀ y ∈ l, badEnt y = false) → ∃ js : List Int, l = js.map PyData.int
  | [], _ => ⟨[], rfl⟩
  | y :: l, h => by
    obtain ⟨j, rfl⟩ := badEnt_int (h y List.mem_cons_self)
    obtain ⟨js, rfl⟩ := ints_all fun z hz => h z (List.mem_cons_of_mem _ hz)
    exact ⟨j :: js, rfl⟩
theorem int_inj {x y : Int} (h : PyData.int x = PyData.int y) : x = y := by injection h
theorem rowAt_tn {T : Tbl} (k : Nat) {m : Nat} (hr : ∀ r ∈ T, r.length = m) (hk : k < m) : (T.map tn).map (rowAt k) = (colT T k).map ni := by
  rw [← col_map (m := m) k, List.map_map, List.map_map]
  refine List.map_congr_left fun r h => ?_
  have hl := hr r h
  show (r.map ni).getD k .none = ni (r.getD k 0)
  rw [List.getD_eq_getElem?_getD, List.getElem?_map, List.getD_eq_getElem?_getD, List.getElem?_eq_getElem (by omega)]
  rfl
theorem form_of {m : Nat} {xs : List PyData} (h0 : xs ≠ []) (hb : ∀ x ∈ xs, badRow m x = false) (hc : ∀ k, k < m → okCol xs k) : ∃ T : Tbl, xs = T.map tn ∧ Tb m T := by
  have hrow : ∀ x ∈ xs, rowOk m xs.length x = true := fun x hx => by
    have hbx := hb x hx
    cases x with
    | tuple ys =>
      have hl : ys.length = m := by simpa [badRow] using hbx
      rw [rowOk_tup, Bool.and_eq_true, decide_eq_true_iff, List.all_eq_true]
      refine ⟨hl, fun y hy => ?_⟩
      obtain ⟨k, hk, ek⟩ := List.mem_iff_getElem.mp hy
      obtain ⟨js, e, p⟩ := hc k (by omega)
      have h1 : rowAt k (.tuple ys) ∈ xs.map (rowAt k) := List.mem_map_of_mem hx
      have h2 : rowAt k (.tuple ys) = y := by
        show ys.getD k .none = y
        rw [List.getD_eq_getElem?_getD, List.getElem?_eq_getElem hk, ek]
        rfl
      rw [e, h2] at h1
      obtain ⟨j, hj, rfl⟩ := List.mem_map.mp h1
      have := rgI_mem (p.mem_iff.mp hj)
      simp [inN]
      omega
    | _ => simp [badRow] at hbx
  obtain ⟨T, rfl, hT⟩ := rows_tn hrow
  rw [List.length_map] at hT
  have hT0 : 0 < T.length := List.length_pos_iff.mpr fun z => h0 (by rw [z]; rfl)
  refine ⟨T, rfl, (tb_iff hT0 hT).mpr fun k hk => ?_⟩
  obtain ⟨js, e, p⟩ := hc k hk
  rw [rowAt_tn k (fun r hr => (hT r hr).1) hk, ni_ints] at e
  have e2 := map_inj (fun _ _ => int_inj) e
  have nd : ((colT T k).map fun n : Nat => (n : Int)).Nodup := by rw [e2]; exact p.nodup_iff.mpr (rgI_nd _)
  exact List.Pairwise.imp (fun {a b} h2 e => h2 (by rw [e])) (List.pairwise_map.mp nd)
theorem col_of {m : Nat} {T : Tbl} (tb : Tb m T) {k : Nat} (hk : k < m) : okCol (T.map tn) k := by
  refine ⟨(colT T k).map fun n : Nat => (n : Int), ?_, ?_⟩
  · rw [rowAt_tn k (fun r hr => (tb.row r hr).1) hk, ni_ints]
  · obtain ⟨t, hl⟩ := tb.col hk
    have := t.perm
    rw [hl] at this
    rw [List.length_map]
    exact this.map _
theorem rows_of {m : Nat} {T : Tbl} (tb : Tb m T) : ∀ x ∈ T.map tn, badRow m x = false := fun x hx => by
  obtain ⟨r, hr, rfl⟩ := List.mem_map.mp hx
  show (!decide ((r.map ni).length = m)) = false
  rw [List.length_map, (tb.row r hr).1]
  simp
/-! the names found -/
def gk (l : List Nat) : KX := l.map fun n : Nat => ((Sum.inl (n : Int) : Key), PyData.int 0)
def ins (l : List Nat) (n : Nat) : List Nat := if n ∈ l then l else l ++ [n]
def uni (l r : List Nat) : List Nat := (l ++ r).foldl ins []
theorem gk_put (l : List Nat) (n : Nat) : putD (gk l) (Sum.inl (n : Int)) (.int 0) = gk (ins l n) := by
  unfold putD ins
  have e : ((gk l).any fun p => decide (p.1 = Sum.inl (n : Int))) = decide (n ∈ l) := by
    rw [Bool.eq_iff_iff, List.any_eq_true, decide_eq_true_iff]
    constructor
    · rintro ⟨p, hp, e⟩
      obtain ⟨x, hx, rfl⟩ := List.mem_map.mp hp
      have e1 : (Sum.inl (x : Int) : Key) = Sum.inl (n : Int) := of_decide_eq_true e
      have := Sum.inl.inj e1
      have : x = n := by omega
      subst this
      exact hx
    · exact fun h => ⟨_, List.mem_map_of_mem h, decide_eq_true rfl⟩
  rw [e]
  by_cases h : n ∈ l
  · rw [if_pos (decide_eq_true h), if_pos h]
    have : ∀ p ∈ gk l, (if p.1 = (Sum.inl (n : Int) : Key) then (p.1, PyData.int 0) else p) = p := fun p hp => by
      obtain ⟨x, hx, rfl⟩ := List.mem_map.mp hp
      split <;> rfl
    rw [List.map_congr_left this, List.map_id']
  · rw [if_neg (by simpa using h), if_neg h]
    show gk l ++ [_] = gk (l ++ [n])
    unfold gk
    rw [List.map_append]
    rfl
theorem gk_mrg : ∀ (r acc : List Nat), mrgD (gk acc) (gk r) = gk (r.foldl ins acc)
  | [], acc => rfl
  | n :: r, acc => by
    show mrgD (putD (gk acc) (Sum.inl (n : Int)) (.int 0)) (gk r) = gk (r.foldl ins (ins acc n))
    rw [gk_put, gk_mrg]
theorem gk_uni (l r : List Nat) : mrgD [] (gk l ++ gk r) = gk (uni l r) := by
  have := gk_mrg (l ++ r) []
  rw [show gk (l ++ r) = gk l ++ gk r by unfold gk; rw [List.map_append]] at this
  exact this
theorem ins_mem {l : List Nat} {n x : Nat} : x ∈ ins l n ↔ x ∈ l ∨ x = n := by
  unfold ins
  split
  · rename_i h
    exact ⟨.inl, fun z => z.elim id fun e => e ▸ h⟩
  · simp
theorem ins_nd {l : List Nat} {n : Nat} (h : l.Nodup) : (ins l n).Nodup := by
  unfold ins
  split
  · exact h
  · rename_i hn
    exact List.nodup_append.mpr ⟨h, by simp, fun x hx y hy e => by
      have : y = n := by simpa using hy
      subst this e
      exact hn hx⟩
theorem fins_mem : ∀ {r acc : List Nat} {x : Nat}, x ∈ r.foldl ins acc ↔ x ∈ acc ∨ x ∈ r
  | [], acc, x => by simp
  | n :: r, acc, x => by
    rw [List.foldl_cons, fins_mem, ins_mem, List.mem_cons, or_assoc]
theorem fins_nd : ∀ {r acc : List Nat}, acc.Nodup → (r.foldl ins acc).Nodup
  | [], _, h => h
  | _ :: r, _, h => fins_nd (r := r) (ins_nd h)
theorem uni_mem {l r : List Nat} {x : Nat} : x ∈ uni l r ↔ x ∈ l ∨ x ∈ r := by
  unfold uni
  rw [fins_mem, List.mem_append]
  simp
theorem uni_nd (l r : List Nat) : (uni l r).Nodup := fins_nd List.nodup_nil
theorem keys_gk (l : List Nat) : ((kx (gk l)).map fun kv => keyD kv.1) = l.map ni := by
  unfold kx gk
  rw [List.map_map, List.map_map]
  rfl
theorem pairs_gk (l : List Nat) : (gk l).map prD2 = l.map fun n => PyData.tuple [ni n, .int 0] := by
  unfold gk
  rw [List.map_map]
  rfl
theorem gk_len (l : List Nat) : (gk l).length = l.length := by simp [gk]
theorem kx_len (l : KX) : (kx l).length = l.length := by simp [kx]
theorem gk_none (l : List Nat) (x : Nat) : (getT (kx (gk l)) (Sum.inl (x : Int))).isNone = decide (x ∉ l) := by
  induction l with
  | nil => rfl
  | cons n l ih =>
    have e : kx (gk (n :: l)) = ((Sum.inl (n : Int) : Key), VL.T.d (.int 0)) :: kx (gk l) := rfl
    rw [e]
    by_cases h : n = x
    · subst h
      rw [getT_pos rfl]
      simp
    · rw [getT_neg (fun z => h (by have := Sum.inl.inj z; omega)), ih]
      rw [Bool.eq_iff_iff, decide_eq_true_iff, decide_eq_true_iff, List.mem_cons]
      constructor
      · exact fun h1 h2 => h2.elim (fun e => h e.symm) h1
      · exact fun h1 h2 => h1 (.inr h2)
/-- of no more than l, with nothing twice: the same -/
theorem sub_of_len {l r : List Nat} (hl : l.Nodup) (hr : r.Nodup) (hs : ∀ x ∈ l, x ∈ r) (hn : r.length ≤ l.length) : ∀ x ∈ r, x ∈ l := by
  exact fun x hx => (perm_of_sub hl hs hn).mem_iff.mpr hx
end K54

/-! text B9 -/
set_option Elab.async false
set_option linter.all false
set_option maxRecDepth 100000
set_option maxHeartbeats 8000000
set_option pp.maxSteps 250
namespace K54
open PySem PySem.Spec L2 VL PM
section
variable {P : Program} {w : World} {K : PySem.W.Frag} {mg : Str → Option Value} {base : Heap} {f : Addr} {fd : FuncData}

theorem fault3 {cdv : Value} {A : Around} {outer : List PySem.Env} {s : Shared} {H : Hp} (hr : RG 2 (cxOf CX0 P w K mg base ["telling", "value", "m", "relators", "words", "k", "column", "found", "size", "x", "apart", "turns", "i", "word", "led", "wrong", "row", "y"] "_law_fault" (defScope (top 23)) f cdv A outer s H E0).nox.A) (hN : (cxOf CX0 P w K mg base ["telling", "value", "m", "relators", "words", "k", "column", "found", "size", "x", "apart", "turns", "i", "word", "led", "wrong", "row", "y"] "_law_fault" (defScope (top 23)) f cdv A outer s H E0).nox.N.Nodup) (C1 : DefV P w K mg base 2 "_law_word_turn" (spF pWT)) (m1 : mg "isinstance" = none) (m2 : mg "tuple" = none) (m3 : mg "len" = none) (m4 : mg "range" = none) (m5 : mg "int" = none) (m6 : mg "bool" = none) (m7 : mg "sorted" = none) (m8 : mg "list" = none) (m9 : mg "dict" = none) (m10 : mg "enumerate" = none) {m : Nat} {rel words : List (List Int)} {T : Tbl} (tel : Tel m rel words) (tb : Tb m T) (hn : T.length ≤ 62) (hu : unr T m = none) {o5 o6 o7 o8 o9 o10 o11 o12 o13 o14 o15 o16 o17 : Option VL.T} :
    VSs (cxOf CX0 P w K mg base ["telling", "value", "m", "relators", "words", "k", "column", "found", "size", "x", "apart", "turns", "i", "word", "led", "wrong", "row", "y"] "_law_fault" (defScope (top 23)) f cdv A outer s H E0).nox ((defBody (top 23)).drop 7) [some (.d (telD m rel words)), some (.d (tD T)), some (.d (ni m)), some (.d (wsD rel)), some (.d (wsD words)), o5, o6, o7, o8, o9, o10, o11, o12, o13, o14, o15, o16, o17] (Dd (JT m rel words T) 2) := by
  have hm := tel.mm
  have hrl := tel.rl
  have hwl := tel.wl
  refine vss_forget 5 <| vss_forget 9 <| vss_forget 12 <| vss_forget 13 <| vss_forget 16 ?_
  show VSs _ _ [some (.d (telD m rel words)), some (.d (tD T)), some (.d (ni m)), some (.d (wsD rel)), some (.d (wsD words)), none, o6, o7, o8, none, o10, o11, none, none, o14, o15, none, o17] _
  refine vss_cons ?_
  refine vs_set 11 <| ve_lc [("k", 5)] (vi_range1 <| ve_name 2 rfl ⟨_, rfl, by omega, by omega, ?_⟩)
  refine lcq_l (List.range m) ni (fun k => some (tn (colT T k))) [some (.d (telD m rel words)), some (.d (tD T)), some (.d (ni m)), some (.d (wsD rel)), some (.d (wsD words)), none, o6, o7, o8, none, o10, o11, none, none, o14, o15, none, o17] (by simp [rng]) rfl trivial (by rw [sizeLine_eq, List.length_range]; omega) ?_ ?_
  · intro i0 k hk p1
    obtain ⟨hk, rfl⟩ := range_get' hk
    refine vg_name 5 fun p2 => vts_nil ?_
    rw [if_pos rfl]
    intro p3
    refine ve_t1 bb_tuple <| ve_lc [("row", 16)] (vi_tup <| ve_name 1 rfl ⟨_, rfl, ?_⟩)
    refine lcq_l T tn (fun r => some (ni (r.getD k 0))) [some (.d (telD m rel words)), some (.d (tD T)), some (.d (ni m)), some (.d (wsD rel)), some (.d (wsD words)), some (.d (ni k)), o6, o7, o8, none, o10, o11, none, none, o14, o15, none, o17] List.map_map rfl trivial (by rw [sizeLine_eq]; omega) ?_ ?_
    · intro i1 r hr1 p4
      refine vg_name 16 fun p5 => vts_nil ?_
      rw [if_pos rfl]
      have hrl := (tb.row r (List.mem_of_getElem? hr1)).1
      exact fun p6 => ve_sub <| ve_name 16 rfl <| ve_name 5 rfl <| ix_d (.dt _) (at_tn (show r[k]? = some (r.getD k 0) by rw [List.getD, List.getElem?_eq_getElem (by omega)]; rfl)) ⟨_, rfl, rfl, rfl⟩
    · intro p7
      refine tuple_d (.nd _ _) ⟨_, rfl, ?_, rfl⟩
      rw [List.filterMap_eq_map', ← col_map (m := m) k, tn, List.map_map]
      rfl
  intro p8
  rw [List.filterMap_eq_map']
  refine ⟨_, _, .own _, ?_⟩
  have h5 : ∀ X sts D, VSs X sts [some (.d (telD m rel words)), some (.d (tD T)), some (.d (ni m)), some (.d (wsD rel)), some (.d (wsD words)), none, o6, o7, o8, none, o10, some (.d (colsD m T)), none, none, o14, o15, none, o17] D → VSs X sts [some (.d (telD m rel words)), some (.d (tD T)), some (.d (ni m)), some (.d (wsD rel)), some (.d (wsD words)), none, o6, o7, o8, none, o10, some (ls p8 ((List.range m).map fun k => tn (colT T k))), none, none, o14, o15, none, o17] D := fun X sts D h => @vss_still X _ D sts _ _ 11 rfl h
  refine h5 _ _ _ ?_
  refine vss_cons ?_
  refine vs_for [12, 13] (vi_enumT <| ve_name 3 rfl ⟨_, rfl, fun i e => (∀ u ∈ rel.take i, badW T u = none) ∧ ∃ o9 o12 o13 o14 o15, e = [some (.d (telD m rel words)), some (.d (tD T)), some (.d (ni m)), some (.d (wsD rel)), some (.d (wsD words)), none, o6, o7, o8, o9, o10, some (.d (colsD m T)), o12, o13, o14, o15, none, o17], ⟨fun u hu => by simp at hu, none, none, none, _, _, rfl⟩, fun _ _ _ => trivial, ?_, ?_⟩)
  · rintro i x e hx ⟨hbad, o9, o12, o13, o14, o15, rfl⟩
    obtain ⟨d, hd, rfl⟩ := enu_get hx
    obtain ⟨u, hu1, rfl⟩ := ws_get hd
    have huok := tel.rr u (List.mem_of_getElem? hu1)
    refine vg_tup (.cons (nmT 12) <| .cons (nmT 13) .nil) rfl ?_
    refine vss_cons <| vs_set 14 <| ve_callF C1 hr <| ves_cons <| ve_c1 bb_len <| ve_name 1 rfl <| len_d (.dt _) <| ves_cons <| ve_name 11 rfl <| ves_cons <| ve_name 13 rfl <| ves_nil ⟨[ni T.length, colsD m T, wD u], _, by rw [List.length_map]; rfl, ⟨m, T, u, rfl, tb, by omega, huok, rfl⟩, _, _, .own _, ?_⟩
    refine vss_forget 9 ?_
    refine vss_cons <| vs_lc 15 [("x", 9)] (vi_range1 <| ve_c1 bb_len <| ve_name 1 rfl <| len_d (.dt _) ⟨_, rfl, by omega, by rw [List.length_map]; omega, ?_⟩)
    refine lcq_l (List.range T.length) ni (fun a => if decide (gon T a u ≠ a) = true then some (ni a) else none) [some (.d (telD m rel words)), some (.d (tD T)), some (.d (ni m)), some (.d (wsD rel)), some (.d (wsD words)), none, o6, o7, o8, none, o10, some (.d (colsD m T)), some (.d (ni i)), some (.d (wD u)), some (.d (tn ((List.range T.length).map fun a => gon T a u))), o15, none, o17] (rng_l _ _) rfl trivial (by rw [sizeLine_eq, List.length_range]; omega) ?_ ?_
    · intro i0 a ha p1
      obtain ⟨ha, rfl⟩ := range_get' ha
      have hga : ((List.range T.length).map fun a => gon T a u)[a]? = some (gon T a u) := by rw [List.getElem?_map, List.getElem?_range ha]; rfl
      refine vg_name 9 fun p2 => vts_one <| vt_cmp <| ve_sub <| ve_name 14 rfl <| ve_name 9 rfl <| ix_d (.dt _) (at_tn hga) <| ve_name 9 rfl <| ne_i ⟨_, rfl, ?_⟩
      have e : (!decide (((gon T a u : Nat) : Int) = (a : Int))) = decide (gon T a u ≠ a) := by
        rw [Bool.eq_iff_iff, Bool.not_eq_true', decide_eq_false_iff_not, decide_eq_true_iff]
        omega
      rw [e]
      cases hb : decide (gon T a u ≠ a) with
      | true =>
        rw [if_pos rfl]
        exact fun p3 => ve_name 9 rfl ⟨_, rfl, if_pos rfl, rfl⟩
      | false =>
        rw [if_neg Bool.false_ne_true]
        exact ⟨if_neg Bool.false_ne_true, rfl⟩
    intro p5
    rw [head_find']
    refine ⟨_, _, .own _, ?_⟩
    cases hbw : (List.range T.length).filter fun a => decide (gon T a u ≠ a) with
    | cons a0 ar =>
      have hb : badW T u = some a0 := find_cons hbw
      refine vss_one <| vs_if <| vt_cmp <| ve_name 15 rfl <| ve_list <| ves_nil ⟨[], rfl, sz rfl, fun p4 => ?_⟩
      refine ne_p hr.u (.rf 15 rfl) (.nd p4 []) (plain_lni _) rfl (depth_lni _) ⟨_, rfl, ?_⟩
      rw [eqv_nilL, emp_map, if_pos (by simp)]
      refine vss_one <| vs_retD' rfl <| ve_tuple <| ves_cons <| ve_str <| ves_cons <| ve_name 12 rfl <| ves_cons <| ve_sub <| ve_name 15 rfl <| ve_int <| ix_d (.rf 15 rfl) (at_tn (l := a0 :: ar) (i := 0) rfl) <| ves_nil ⟨[.str "relator", ni i, ni a0], rfl, sz rfl, ?_, rfl⟩
      unfold JT
      rw [hu, relF_at hu1 hb hbad, Nat.zero_add]
    | nil =>
      have hb : badW T u = none := find_nil hbw
      refine vss_one <| vs_if <| vt_cmp <| ve_name 15 rfl <| ve_list <| ves_nil ⟨[], rfl, sz rfl, fun p4 => ?_⟩
      refine ne_p hr.u (.rf 15 rfl) (.nd p4 []) (plain_lni []) rfl (depth_lni _) ⟨_, rfl, ?_⟩
      rw [eqv_nilL, emp_map, if_neg (by simp)]
      refine vss_nil ⟨fun z hz => ?_, none, some (.d (ni i)), some (.d (wD u)), _, _, rfl⟩
      rw [List.take_succ, hu1] at hz
      rcases List.mem_append.mp hz with h | h
      · exact hbad z h
      · have : z = u := by simpa using h
        rw [this]
        exact hb
  · rintro e ⟨hbad, o9, o12, o13, o14, o15, rfl⟩
    rw [enu_len, List.length_map, List.take_length] at hbad
    have hrf : relF T rel 0 = none := relF_none hbad
    refine vss_forget 12 <| vss_forget 13 ?_
    refine vss_cons ?_
    refine vs_lc 15 [("i", 12), ("word", 13)] (vi_enumT <| ve_name 4 rfl ⟨_, rfl, ?_⟩)
    refine lcq_i (List.range (words.map wD).length) (fun i => .row [.int (i : Nat), (words.map wD).getD i .none]) (fun i => if decide (gon T 0 (words.getD i []) ≠ 0) = true then some (ni i) else none) [some (.d (telD m rel words)), some (.d (tD T)), some (.d (ni m)), some (.d (wsD rel)), some (.d (wsD words)), none, o6, o7, o8, o9, o10, some (.d (colsD m T)), none, none, o14, o15, none, o17] rfl rfl trivial (by rw [sizeLine_eq, List.length_range, List.length_map]; omega) ?_ ?_
    · intro i0 i hi p1
      obtain ⟨hi, rfl⟩ := range_get' hi
      rw [List.length_map] at hi
      have hu1 : words[i]? = some (words.getD i []) := by rw [List.getD, List.getElem?_eq_getElem hi]; rfl
      have eu : (words.map wD).getD i .none = wD (words.getD i []) := by
        rw [List.getD_eq_getElem?_getD, List.getElem?_map, hu1]
        rfl
      rw [eu]
      have huok := tel.ww _ (List.mem_of_getElem? hu1)
      have hg0 : ((List.range T.length).map fun a => gon T a (words.getD i []))[0]? = some (gon T 0 (words.getD i [])) := by rw [List.getElem?_map, List.getElem?_range tb.ne]; rfl
      refine vg_tup (.cons (nmT 12) <| .cons (nmT 13) .nil) rfl fun p2 => vts_one ?_
      refine vt_cmp <| ve_sub <| ve_callF C1 hr <| ves_cons <| ve_c1 bb_len <| ve_name 1 rfl <| len_d (.dt _) <| ves_cons <| ve_name 11 rfl <| ves_cons <| ve_name 13 rfl <| ves_nil ⟨[ni T.length, colsD m T, wD (words.getD i [])], _, by rw [List.length_map]; rfl, ⟨m, T, _, rfl, tb, by omega, huok, rfl⟩, ?_⟩
      refine ve_int <| ix_d (.dt _) (at_tn (i := 0) hg0) <| ve_int <| ne_i ⟨_, rfl, ?_⟩
      have e : (!decide (((gon T 0 (words.getD i []) : Nat) : Int) = 0)) = decide (gon T 0 (words.getD i []) ≠ 0) := by
        rw [Bool.eq_iff_iff, Bool.not_eq_true', decide_eq_false_iff_not, decide_eq_true_iff]
        omega
      rw [e]
      cases hb : decide (gon T 0 (words.getD i []) ≠ 0) with
      | true =>
        rw [if_pos rfl]
        exact fun p3 => ve_name 12 rfl ⟨_, rfl, if_pos rfl, rfl⟩
      | false =>
        rw [if_neg Bool.false_ne_true]
        exact ⟨if_neg Bool.false_ne_true, rfl⟩
    intro p5
    rw [head_find', List.length_map]
    refine ⟨_, _, .own _, vss_one <| vs_retD <| ve_ifExp <| vt_cmp <| ve_name 15 rfl <| ve_list <| ves_nil ⟨[], rfl, sz rfl, fun p4 => ?_⟩⟩
    cases hwf : (List.range words.length).filter fun i => decide (gon T 0 (words.getD i []) ≠ 0) with
    | cons a0 ar =>
      have hw : worF T words = some a0 := find_cons hwf
      refine ne_p hr.u (.rf 15 rfl) (.nd p4 []) (plain_lni _) rfl (depth_lni _) ⟨_, rfl, ?_⟩
      rw [eqv_nilL, emp_map, if_pos (by simp)]
      refine ve_tuple <| ves_cons <| ve_str <| ves_cons <| ve_sub <| ve_name 15 rfl <| ve_int <| ix_d (.rf 15 rfl) (at_tn (l := a0 :: ar) (i := 0) rfl) <| ves_nil ⟨[.str "word", ni a0], rfl, sz rfl, ?_, rfl⟩
      unfold JT
      rw [hu, hrf, hw]
    | nil =>
      have hw : worF T words = none := find_nil hwf
      refine ne_p hr.u (.rf 15 rfl) (.nd p4 []) (plain_lni []) rfl (depth_lni _) ⟨_, rfl, ?_⟩
      rw [eqv_nilL, emp_map, if_neg (by simp)]
      refine ve_non ⟨?_, rfl⟩
      unfold JT
      rw [hu, hrf, hw]
end
end K54

/-! text B10 -/
set_option Elab.async false
set_option linter.all false
set_option maxRecDepth 100000
set_option maxHeartbeats 8000000
set_option pp.maxSteps 250
namespace K54
open PySem PySem.Spec L2 VL PM
section
variable {P : Program} {w : World} {K : PySem.W.Frag} {mg : Str → Option Value} {base : Heap} {f : Addr} {fd : FuncData}

def pFault (xs : List PyData) (y : PyData) : Prop := ∃ (m : Nat) (rel words : List (List Int)) (v : PyData), xs = [telD m rel words, v] ∧ Tel m rel words ∧ v.plain = true ∧ v.depth ≤ 60 ∧ (∀ ys, v = .tuple ys → ys.length ≤ 62) ∧ y = JV m rel words v
theorem scFault : FnScope ["telling", "value", "m", "relators", "words", "k", "column", "found", "size", "x", "apart", "turns", "i", "word", "led", "wrong", "row", "y"] ["telling", "value"] (defScope (top 23)) := ⟨rfl, rfl, rfl, by decide +kernel, rfl, by decide +kernel, by decide +kernel⟩
theorem ok_fault (Fu : FnP K "_law_fault" (top 23) f fd) (C1 : DefV P w K mg base 2 "_law_word_turn" (spF pWT)) (m1 : mg "isinstance" = none) (m2 : mg "tuple" = none) (m3 : mg "len" = none) (m4 : mg "range" = none) (m5 : mg "int" = none) (m6 : mg "bool" = none) (m7 : mg "sorted" = none) (m8 : mg "list" = none) (m9 : mg "dict" = none) (m10 : mg "enumerate" = none) : FnV P w K mg base 3 f fd ["telling", "value"] (spF pFault) := by
  refine FnV.ofD (fun_of Fu) scFault (fun xs y h => ?_) (fun X xs y hr hN h hX => ?_)
  · obtain ⟨m, rel, words, v, rfl, _⟩ := h
    rfl
  · obtain ⟨cdv, A, outer, s, H, rfl⟩ := hX
    obtain ⟨m, rel, words, v, rfl, tel, hpl, hdp, hlen, rfl⟩ := h
    classical
    have hm := tel.mm
    refine vss_cons ?_
    refine vs_asg [2, 3, 4] <| ve_name 0 rfl ⟨_, _, .own _, vg_row <| vg_tup (.cons (nmT 2) <| .cons (nmT 3) <| .cons (nmT 4) .nil) rfl ?_⟩
    refine vss_cons ?_
    refine vs_if <| vt_w <| vw_or <| vt_not <| vt_val <| ve_isi "tuple" <| ve_name 1 rfl ⟨_, _, rfl, kit_tuple v, _, rfl, ?_⟩
    have htup : (!isTuple v) = true ∨ ∃ xs, v = .tuple xs := by
      cases v with
      | tuple xs => exact .inr ⟨xs, rfl⟩
      | _ => exact .inl rfl
    rcases htup with hnt | ⟨xs, rfl⟩
    · rw [if_pos hnt, if_pos rfl]
      refine vss_one <| vs_retD' rfl <| ve_tuple <| ves_cons <| ve_str <| ves_nil ⟨[.str "form"], rfl, sz rfl, ?_, rfl⟩
      rw [JV_no fun ⟨T, e, _⟩ => by rw [e] at hnt; simp [isTuple] at hnt]
    have hxl := hlen xs rfl
    have hpx := tup_plain hpl
    have hdx := tup_depth hdp
    rw [if_neg (by simp [isTuple])]
    refine vw_or <| vt_cmp <| ve_name 1 rfl <| ve_tuple <| ves_nil ⟨[], rfl, sz rfl, eq_p hr.u (.d _) (.d _) hpl rfl hdp ⟨_, rfl, ?_⟩⟩
    rw [eqv_nilT]
    by_cases hxe : xs = []
    · subst hxe
      rw [if_pos (show ([] : List PyData).isEmpty = true from rfl)]
      refine vss_one <| vs_retD' rfl <| ve_tuple <| ves_cons <| ve_str <| ves_nil ⟨[.str "form"], rfl, sz rfl, ?_, rfl⟩
      rw [JV_no fun h => h.rows.1 rfl]
    rw [if_neg (by simpa using hxe)]
    refine vw_or1 <| vt_cmp ?_
    refine ve_lc [("row", 16)] (vi_tup <| ve_name 1 rfl ⟨_, rfl, ?_⟩)
    refine lcq_l xs id (fun d => if badRow m d = true then some d else none) [some (.d (telD m rel words)), some (.d (.tuple xs)), some (.d (ni m)), some (.d (wsD rel)), some (.d (wsD words)), none, none, none, none, none, none, none, none, none, none, none, none, none] (by simp) rfl trivial (by rw [sizeLine_eq]; omega) ?_ ?_
    · intro i0 d hd p1
      refine vg_name 16 fun p2 => vts_one ?_
      refine vt_w <| vw_or <| vt_not <| vt_val <| ve_isi "tuple" <| ve_name 16 rfl ⟨_, _, rfl, kit_tuple d, _, rfl, ?_⟩
      have hdt : ((!isTuple d) = true ∧ badRow m d = true) ∨ ∃ ys, d = .tuple ys := by
        cases d with
        | tuple ys => exact .inr ⟨ys, rfl⟩
        | _ => exact .inl ⟨rfl, rfl⟩
      rcases hdt with ⟨hnt, hb⟩ | ⟨ys, rfl⟩
      · rw [if_pos hnt, if_pos rfl]
        exact fun p3 => ve_name 16 rfl ⟨_, rfl, if_pos hb, rfl⟩
      · rw [if_neg (by simp [isTuple])]
        refine vw_or1 <| vt_cmp <| ve_c1 bb_len <| ve_name 16 rfl <| len_d (.dt _) <| ve_name 2 rfl <| ne_i ⟨_, rfl, ?_⟩
        have e : (!decide ((ys.length : Int) = (m : Int))) = badRow m (.tuple ys) := by
          show _ = !decide (ys.length = m)
          congr 1
          rw [Bool.eq_iff_iff, decide_eq_true_iff, decide_eq_true_iff]
          omega
        rw [e]
        cases hb : badRow m (.tuple ys) with
        | true =>
          rw [if_pos rfl]
          exact fun p3 => ve_name 16 rfl ⟨_, rfl, if_pos rfl, rfl⟩
        | false =>
          rw [if_neg Bool.false_ne_true]
          exact ⟨if_neg Bool.false_ne_true, rfl⟩
    intro pr
    rw [filt_fm]
    refine ve_list <| ves_nil ⟨[], rfl, sz rfl, fun p4 => ?_⟩
    refine ne_p hr.u (.nd pr _) (.nd p4 []) (plain_list fun x hx => hpx x ((List.mem_filter.mp hx).1)) rfl (depth_list (d := 59) fun x hx => hdx x ((List.mem_filter.mp hx).1)) ⟨_, rfl, ?_⟩
    rw [eqv_nilL]
    by_cases hbr : xs.filter (badRow m) ≠ []
    · rw [if_pos (by simpa using hbr)]
      refine vss_one <| vs_retD' rfl <| ve_tuple <| ves_cons <| ve_str <| ves_nil ⟨[.str "form"], rfl, sz rfl, ?_, rfl⟩
      rw [JV_no fun ⟨T, e, tb⟩ => hbr (List.filter_eq_nil_iff.mpr fun x hx => by
        have e1 : xs = T.map tn := by injection e
        rw [e1] at hx
        rw [rows_of tb x hx]
        exact Bool.false_ne_true)]
    have hbr := Classical.not_not.mp hbr
    have hbrow : ∀ x ∈ xs, badRow m x = false := fun x hx => by simpa using List.filter_eq_nil_iff.mp hbr x hx
    rw [hbr, if_neg (by simp)]
    refine vss_nil ?_
    refine vss_cons ?_
    refine vs_for [5] (vi_range1 <| ve_name 2 rfl ⟨_, rfl, by omega, by omega, fun i e => (∀ k, k < i → okCol xs k) ∧ ∃ o5 o6, e = [some (.d (telD m rel words)), some (.d (.tuple xs)), some (.d (ni m)), some (.d (wsD rel)), some (.d (wsD words)), o5, o6, none, none, none, none, none, none, none, none, none, none, none], ⟨fun k h => absurd h (Nat.not_lt_zero _), none, none, rfl⟩, fun _ _ _ => trivial, ?_, ?_⟩)
    · rintro k x e hx ⟨hok, o5, o6, rfl⟩
      obtain ⟨hk, rfl⟩ := rng_get hx
      have hk' : k < m := by omega
      rw [show (0 : Int) + (k : Int) = (k : Int) by omega]
      have bad : ¬ okCol xs k → JV m rel words (.tuple xs) = .tuple [.str "form"] := fun h => JV_no fun ⟨T, e, tb⟩ => h (by
        have e1 : xs = T.map tn := by injection e
        rw [e1]
        exact col_of tb hk')
      refine vg_name 5 <| vss_cons ?_
      refine vs_lc 6 [("row", 16)] (vi_tup <| ve_name 1 rfl ⟨_, rfl, ?_⟩)
      refine lcq_l xs id (fun d => some (rowAt k d)) [some (.d (telD m rel words)), some (.d (.tuple xs)), some (.d (ni m)), some (.d (wsD rel)), some (.d (wsD words)), some (.d (ni k)), o6, none, none, none, none, none, none, none, none, none, none, none] (by simp) rfl trivial (by rw [sizeLine_eq]; omega) ?_ ?_
      · intro i0 d hd p1
        refine vg_name 16 fun p2 => vts_nil ?_
        rw [if_pos rfl]
        have hb := hbrow d (List.mem_of_getElem? hd)
        cases d with
        | tuple ys =>
          have hl : ys.length = m := by simpa [badRow] using hb
          have hg : ys[k]? = some (ys.getD k .none) := by rw [List.getD_eq_getElem?_getD, List.getElem?_eq_getElem (by omega)]; rfl
          exact fun p3 => ve_sub <| ve_name 16 rfl <| ve_name 5 rfl <| ix_d (.dt _) (atI_nat hg) ⟨_, rfl, rfl, rfl⟩
        | _ => simp [badRow] at hb
      intro pc
      rw [List.filterMap_eq_map']
      refine ⟨_, _, .own _, ?_⟩
      have h5 : ∀ X sts D, VSs X sts [some (.d (telD m rel words)), some (.d (.tuple xs)), some (.d (ni m)), some (.d (wsD rel)), some (.d (wsD words)), some (.d (ni k)), some (.d (.list (xs.map (rowAt k)))), none, none, none, none, none, none, none, none, none, none, none] D → VSs X sts [some (.d (telD m rel words)), some (.d (.tuple xs)), some (.d (ni m)), some (.d (wsD rel)), some (.d (wsD words)), some (.d (ni k)), some (ls pc (xs.map (rowAt k))), none, none, none, none, none, none, none, none, none, none, none] D := fun X sts D h => @vss_still X _ D sts _ _ 6 rfl h
      refine h5 _ _ _ ?_
      have hcm : ∀ y ∈ xs.map (rowAt k), y.plain = true ∧ y.depth ≤ 59 := fun y hy => by
        obtain ⟨d, hd, rfl⟩ := List.mem_map.mp hy
        have hb := hbrow d hd
        cases d with
        | tuple ys =>
          have hl : ys.length = m := by simpa [badRow] using hb
          have hg : ys.getD k .none ∈ ys := by rw [List.getD_eq_getElem?_getD, List.getElem?_eq_getElem (by omega)]; exact List.getElem_mem _
          exact ⟨tup_plain (hpx _ hd) _ hg, Nat.le_trans (tup_depth (d := 58) (hdx _ hd) _ hg) (by omega)⟩
        | _ => simp [badRow] at hb
      refine vss_one ?_
      refine vs_if <| vt_w <| vw_or <| vt_cmp ?_
      refine ve_lc [("x", 9)] (vi_list <| ve_name 6 rfl ⟨_, rfl, ?_⟩)
      refine lcq_l (xs.map (rowAt k)) id (fun d => if badEnt d = true then some d else none) [some (.d (telD m rel words)), some (.d (.tuple xs)), some (.d (ni m)), some (.d (wsD rel)), some (.d (wsD words)), some (.d (ni k)), some (.d (.list (xs.map (rowAt k)))), none, none, none, none, none, none, none, none, none, none, none] (by simp) rfl trivial (by rw [sizeLine_eq, List.length_map]; omega) ?_ ?_
      · intro i0 d hd p1
        refine vg_name 9 fun p2 => vts_one ?_
        refine vt_w <| vw_or <| vt_not <| vt_val <| ve_isi "int" <| ve_name 9 rfl ⟨_, _, rfl, kit_int d, _, rfl, ?_⟩
        cases hi : isInt d with
        | false =>
          rw [if_pos (show (!false) = true from rfl), if_pos (show true = true from rfl)]
          exact fun p3 => ve_name 9 rfl ⟨_, rfl, if_pos (by unfold badEnt; rw [hi]; rfl), rfl⟩
        | true =>
          rw [if_neg (by simp)]
          refine vw_or1 <| vt_val <| ve_isi "bool" <| ve_name 9 rfl ⟨_, _, rfl, kit_bool d, _, rfl, ?_⟩
          cases hb : isBool d with
          | true =>
            rw [if_pos rfl]
            exact fun p3 => ve_name 9 rfl ⟨_, rfl, if_pos (by unfold badEnt; rw [hb, Bool.or_true]), rfl⟩
          | false =>
            rw [if_neg Bool.false_ne_true]
            exact ⟨if_neg (by unfold badEnt; rw [hb, hi]; simp), rfl⟩
      intro pe
      rw [filt_fm]
      refine ve_list <| ves_nil ⟨[], rfl, sz rfl, fun p4 => ?_⟩
      refine ne_p hr.u (.nd pe _) (.nd p4 []) (plain_list fun x hx => (hcm x ((List.mem_filter.mp hx).1)).1) rfl (depth_list (d := 59) fun x hx => (hcm x ((List.mem_filter.mp hx).1)).2) ⟨_, rfl, ?_⟩
      rw [eqv_nilL]
      by_cases hbe : (xs.map (rowAt k)).filter badEnt ≠ []
      · rw [if_pos (by simpa using hbe), if_pos rfl]
        refine vss_one <| vs_retD' rfl <| ve_tuple <| ves_cons <| ve_str <| ves_nil ⟨[.str "form"], rfl, sz rfl, ?_, rfl⟩
        rw [bad fun ⟨js, e, _⟩ => hbe (by
          rw [e]
          exact List.filter_eq_nil_iff.mpr fun x hx => by
            obtain ⟨j, _, rfl⟩ := List.mem_map.mp hx
            exact Bool.false_ne_true)]
      have hbe := Classical.not_not.mp hbe
      obtain ⟨js, ejs⟩ := ints_all (fun y hy => by simpa using List.filter_eq_nil_iff.mp hbe y hy : ∀ y ∈ xs.map (rowAt k), badEnt y = false)
      rw [hbe, if_neg (by simp), ejs]
      refine vw_or1 <| vt_cmp <| ve_c1 bb_sorted <| ve_name 6 rfl <| sorted_i (.d _) fun ys ps perm pw => ?_
      refine ve_listRg <| ve_c1 bb_len <| ve_name 1 rfl <| len_d (.dt _) ⟨_, rfl, RgOk.of_le (by omega) (by omega) (by omega) (by omega), fun pq => ?_⟩
      have erg : rgD 0 (xs.length : Int) = (rgI xs.length).map PyData.int := by rw [rgD_ln, ni_ints]; rfl
      rw [erg]
      refine ne_p hr.u (.nd ps _) (.nd pq _) (plain_list fun x hx => by obtain ⟨j, _, rfl⟩ := List.mem_map.mp hx; rfl) (plain_list fun x hx => by obtain ⟨j, _, rfl⟩ := List.mem_map.mp hx; rfl) (Nat.le_trans (depth_list (d := 0) fun x hx => by obtain ⟨j, _, rfl⟩ := List.mem_map.mp hx; exact Nat.le_refl _) (by omega)) ⟨_, rfl, ?_⟩
      rw [eqv_list_map (c := PyData.int) fun x y => by rw [PyData.eqv, Bool.eq_iff_iff]; simp]
      have hok2 : okCol xs k ↔ ys = rgI xs.length := by
        constructor
        · rintro ⟨js', e', p'⟩
          have e2 : js = js' := map_inj (fun _ _ => int_inj) (ejs.symm.trans e')
          subst e2
          refine List.Perm.eq_of_pairwise (le := (· ≤ ·)) (fun a b _ _ h1 h2 => by omega) pw ?_ (perm.trans p')
          unfold rgI
          rw [List.pairwise_map]
          exact List.pairwise_le_range.imp fun h => by omega
        · exact fun e => ⟨js, ejs, by rw [← e]; exact perm.symm⟩
      by_cases hy : ys = rgI xs.length
      · rw [decide_eq_true hy, if_neg (show ¬ (!true) = true from Bool.false_ne_true)]
        refine vss_nil ⟨fun k' hk2 => ?_, _, _, rfl⟩
        by_cases e : k' = k
        · subst e
          exact hok2.mpr hy
        · exact hok k' (by omega)
      · rw [decide_eq_false hy, if_pos (show (!false) = true from rfl)]
        refine vss_one <| vs_retD' rfl <| ve_tuple <| ves_cons <| ve_str <| ves_nil ⟨[.str "form"], rfl, sz rfl, ?_, rfl⟩
        rw [bad fun h => hy (hok2.mp h)]
    · rintro e ⟨hok, o5, o6, rfl⟩
      rw [rng_len, show ((m : Nat) : Int).toNat = m by omega] at hok
      obtain ⟨T, hT, tb⟩ := form_of hxe hbrow hok
      subst hT
      rw [show JV m rel words (.tuple (T.map tn)) = JT m rel words T from JV_tD tb]
      rw [List.length_map] at hxl
      have hn := hxl
      refine vss_cons ?_
      refine vs_parC 7 8 ?_
      refine ves_cons ?_
      refine ve_disp1 ?_
      refine vps_cons ?_
      refine ve_int ⟨.inl 0, rfl, ?_⟩
      refine ve_int ⟨_, rfl, ?_⟩
      refine vps_nil ⟨by simp, Nat.le_of_ble_eq_true rfl, fun p0 => ?_⟩
      refine ves_cons <| ve_int <| ves_nil ⟨_, _, rfl, ?_⟩
      refine vss_cons ?_
      refine vs_while (fun k e => ∃ (l : List Nat) (p : Addr) (sz : Nat) (o9 : Option VL.T), k + sz = T.length ∧ sz ≤ l.length ∧ l.Nodup ∧ 0 ∈ l ∧ (∀ x ∈ l, Rc T m x) ∧ (l.length = sz → ∀ x ∈ l, ∀ k, k < m → ent T x k ∈ l) ∧ e = [some (.d (telD m rel words)), some (.d (tD T)), some (.d (ni m)), some (.d (wsD rel)), some (.d (wsD words)), o5, o6, some (dct p (kx (gk l))), some (.d (ni sz)), o9, none, none, none, none, none, none, none, none]) ⟨T.length, [0], p0, 0, none, rfl, Nat.zero_le _, by simp, by simp, fun x hx => by
          have : x = 0 := by simpa using hx
          subst this
          exact .z, fun h => by simp at h, rfl⟩ ?_
      rintro k e ⟨l, p, sz, o9, hk, hsl, nd, h0, hrc, hcl, rfl⟩
      have hll : l.length ≤ T.length := nodup_bound _ l nd fun x hx => tb.rc_lt (hrc x hx)
      refine vt_cmp ?_
      refine ve_c1 bb_len <| ve_name 7 rfl ?_
      refine len_dct (.sl 7 rfl) ?_
      refine ve_name 8 rfl <| gt_i ⟨_, rfl, ?_⟩
      rw [kx_len, gk_len]
      by_cases hi : sz < l.length
      · rw [if_pos (decide_eq_true (by omega))]
        refine vss_cons ?_
        refine vs_set 8 ?_
        refine ve_c1 bb_len <| ve_name 7 rfl ?_
        refine len_dct (.sl 7 rfl) ⟨_, _, .own _, ?_⟩
        rw [kx_len, gk_len]
        refine vss_one ?_
        refine vs_for [9] ?_
        refine vi_list ?_
        refine ve_still ?_
        refine ve_t1 bb_list <| ve_name 7 rfl ?_
        refine list_dct rfl (.sl 7 rfl) fun q => ?_
        rw [keys_gk]
        refine ⟨q, _, rfl, _, rfl, fun j e => ∃ (l2 : List Nat) (p : Addr) (o9 : Option VL.T), l2.Nodup ∧ (∀ x ∈ l, x ∈ l2) ∧ (∀ x ∈ l2, Rc T m x) ∧ (∀ x ∈ l.take j, ∀ c, c < m → ent T x c ∈ l2) ∧ e = [some (.d (telD m rel words)), some (.d (tD T)), some (.d (ni m)), some (.d (wsD rel)), some (.d (wsD words)), o5, o6, some (dct p (kx (gk l2))), some (.d (ni l.length)), o9, none, none, none, none, none, none, none, none], ⟨l, p, o9, nd, fun x hx => hx, hrc, fun x hx => by simp at hx, rfl⟩, fun _ _ _ => trivial, ?_, ?_⟩
        · rintro j x e hxj ⟨l2, p, o9, nd2, hsub, hrc2, hst, rfl⟩
          rw [List.getElem?_map] at hxj
          cases ex : (l.map ni)[j]? with
          | none => rw [ex] at hxj; cases hxj
          | some d =>
          rw [ex] at hxj
          cases hxj
          obtain ⟨c, hc, rfl⟩ := map_get ex
          have hcl := List.mem_of_getElem? hc
          have hclt := tb.rc_lt (hrc c hcl)
          obtain ⟨hrow, hlen, hlt⟩ := tb.at_ hclt
          have hrow2 : (T.map tn)[c]? = some (tn (T.getD c [])) := by rw [List.getElem?_map, hrow]; rfl
          have hl2 : l2.length ≤ T.length := nodup_bound _ l2 nd2 fun x hx => tb.rc_lt (hrc2 x hx)
          refine vg_name 9 ?_
          refine vss_one ?_
          refine vs_set 7 ?_
          refine ve_dictAdd ?_
          refine ve_name 7 rfl ⟨p, gk l2, _, rfl, .sl 7 rfl, ?_⟩
          refine ve_lc [("y", 17)] ?_
          refine vi_tup ?_
          refine ve_sub <| ve_name 1 rfl <| ve_name 9 rfl ?_
          refine ix_d (.dt _) (atI_nat hrow2) ⟨_, rfl, ?_⟩
          refine lcq_l (T.getD c []) ni (fun y => some (.tuple [ni y, .int 0])) [some (.d (telD m rel words)), some (.d (tD T)), some (.d (ni m)), some (.d (wsD rel)), some (.d (wsD words)), o5, o6, some (dct p (kx (gk l2))), some (.d (ni l.length)), some (.d (ni c)), none, none, none, none, none, none, none, none] List.map_map rfl trivial (by rw [sizeLine_eq]; omega) ?_ ?_
          · intro i0 y hy p1
            refine vg_name 17 fun p2 => vts_nil ?_
            rw [if_pos rfl]
            exact fun p3 => ve_tuple <| ves_cons <| ve_name 17 rfl <| ves_cons <| ve_int <| ves_nil ⟨[ni y, .int 0], rfl, VL.sz rfl, _, rfl, rfl, rfl⟩
          · intro p3
            refine ⟨p3, gk (T.getD c []), by rw [pairs_gk, List.filterMap_eq_map'], by rw [gk_len, gk_len, sizeLine_eq]; omega, fun p' => ⟨_, _, .own _, ?_⟩⟩
            rw [gk_uni]
            refine ⟨uni l2 (T.getD c []), p', some (.d (ni c)), uni_nd _ _, fun x hx => uni_mem.mpr (.inl (hsub x hx)), fun x hx => ?_, fun x hx c' hc' => ?_, rfl⟩
            · rcases uni_mem.mp hx with h | h
              · exact hrc2 x h
              · obtain ⟨k', hk', ek⟩ := List.mem_iff_getElem.mp h
                have hk2 : k' < m := by omega
                have := tb.get hclt hk2
                rw [List.getElem?_eq_getElem hk', ek] at this
                rw [Option.some.inj this]
                exact .s (hrc c hcl) hk2
            · rw [List.take_succ, hc] at hx
              rcases List.mem_append.mp hx with h | h
              · exact uni_mem.mpr (.inl (hst x h c' hc'))
              · have : x = c := by simpa using h
                subst this
                exact uni_mem.mpr (.inr (List.mem_of_getElem? (tb.get hclt hc')))
        · rintro e ⟨l2, p, o9, nd2, hsub, hrc2, hst, rfl⟩
          rw [List.length_map, List.length_map, List.take_length] at hst
          have hle : l.length ≤ l2.length := by
            by_cases h : l2.length ≤ l.length
            · rw [(perm_of_sub nd hsub h).length_eq]
              exact Nat.le_refl _
            · omega
          refine ⟨T.length - l.length, by omega, l2, p, l.length, o9, by omega, hle, nd2, hsub 0 h0, hrc2, fun he x hx c hc => ?_, rfl⟩
          exact hst x (sub_of_len nd nd2 hsub (by omega) x hx) c hc
      · rw [if_neg (fun z => by have := of_decide_eq_true z; omega)]
        have hR := tb.closed h0 (hcl (by omega)) hrc
        refine vss_forget 9 ?_
        refine vss_cons <| vs_lc 10 [("x", 9)] (vi_range1 <| ve_c1 bb_len <| ve_name 1 rfl <| len_d (.dt _) ⟨_, rfl, by omega, by rw [List.length_map]; omega, ?_⟩)
        refine lcq_l (List.range T.length) ni (fun a => if decide (¬ Rc T m a) = true then some (ni a) else none) [some (.d (telD m rel words)), some (.d (tD T)), some (.d (ni m)), some (.d (wsD rel)), some (.d (wsD words)), o5, o6, some (dct p (kx (gk l))), some (.d (ni sz)), none, none, none, none, none, none, none, none, none] (rng_l _ _) rfl trivial (by rw [sizeLine_eq, List.length_range]; omega) ?_ ?_
        · intro i0 a ha p1
          obtain ⟨ha, rfl⟩ := range_get' ha
          refine vg_name 9 fun p2 => vts_one ?_
          refine vt_cmp ?_
          refine ve_name 9 rfl ?_
          refine ve_name 7 rfl ?_
          refine notin_k (k := .inl (a : Int)) hr.u1 (.sl 7 rfl) ⟨_, rfl, ?_⟩
          have e : (getT (kx (gk l)) (Sum.inl (a : Int))).isNone = decide (¬ Rc T m a) := by
            rw [gk_none, Bool.eq_iff_iff, decide_eq_true_iff, decide_eq_true_iff, hR a]
          rw [e]
          cases hb : decide (¬ Rc T m a) with
          | true =>
            rw [if_pos rfl]
            exact fun p3 => ve_name 9 rfl ⟨_, rfl, if_pos rfl, rfl⟩
          | false =>
            rw [if_neg Bool.false_ne_true]
            exact ⟨if_neg Bool.false_ne_true, rfl⟩
        intro p1
        rw [head_find']
        refine ⟨_, _, .own _, ?_⟩
        cases hun : (List.range T.length).filter fun a => decide (¬ Rc T m a) with
        | cons a0 ar =>
          have hu : unr T m = some a0 := find_cons hun
          refine vss_cons <| vs_if <| vt_cmp <| ve_name 10 rfl <| ve_list <| ves_nil ⟨[], rfl, VL.sz rfl, fun p4 => ?_⟩
          refine ne_p hr.u (.rf 10 rfl) (.nd p4 []) (plain_lni _) rfl (depth_lni _) ⟨_, rfl, ?_⟩
          rw [eqv_nilL, emp_map, if_pos (by simp)]
          refine vss_one <| vs_retD' rfl <| ve_tuple <| ves_cons <| ve_str <| ves_cons <| ve_sub <| ve_name 10 rfl <| ve_int <| ix_d (.rf 10 rfl) (at_tn (l := a0 :: ar) (i := 0) rfl) <| ves_nil ⟨[.str "joined", ni a0], rfl, VL.sz rfl, ?_, rfl⟩
          unfold JT
          rw [hu]
        | nil =>
          have hu : unr T m = none := find_nil hun
          refine vss_cons <| vs_if <| vt_cmp <| ve_name 10 rfl <| ve_list <| ves_nil ⟨[], rfl, VL.sz rfl, fun p4 => ?_⟩
          refine ne_p hr.u (.rf 10 rfl) (.nd p4 []) (plain_lni []) rfl (depth_lni _) ⟨_, rfl, ?_⟩
          rw [eqv_nilL, emp_map, if_neg (by simp)]
          exact vss_nil (fault3 hr hN C1 m1 m2 m3 m4 m5 m6 m7 m8 m9 m10 tel tb hn hu)
end
end K54

/-! text B11 -/
set_option Elab.async false
set_option linter.all false
set_option maxRecDepth 100000
set_option maxHeartbeats 2000000
set_option pp.maxSteps 250
namespace PM
theorem relF_lt {T : Tbl} : ∀ {ws : List (List Int)} {i j a : Nat}, relF T ws i = some (j, a) → j < i + ws.length ∧ a < T.length
  | [], i, j, a, h => by simp [relF] at h
  | w :: ws, i, j, a, h => by
    unfold relF at h
    cases hb : badW T w with
    | none =>
      rw [hb] at h
      have := relF_lt (ws := ws) h
      rw [List.length_cons]
      omega
    | some b =>
      rw [hb] at h
      have e : (i, b) = (j, a) := Option.some.inj h
      have e1 : i = j := congrArg Prod.fst e
      have e2 : b = a := congrArg Prod.snd e
      have hm := List.mem_of_find?_eq_some hb
      have := List.mem_range.mp hm
      rw [List.length_cons]
      omega
theorem badsTo_lt {T O : Tbl} {im : List Nat} {m i : Nat} {p : Nat × Nat} (h : p ∈ badsTo T O im m i) : p.1 < i ∧ p.2 < m := by
  unfold badsTo at h
  obtain ⟨a, ha, hp⟩ := List.mem_flatMap.mp h
  obtain ⟨k, hk, rfl⟩ := List.mem_map.mp hp
  exact ⟨List.mem_range.mp ha, List.mem_range.mp (List.mem_filter.mp hk).1⟩
theorem badsTo_len {T O : Tbl} {im : List Nat} {m : Nat} : ∀ i, (badsTo T O im m i).length ≤ i * m
  | 0 => Nat.zero_le _
  | i + 1 => by
    have := badsTo_len (T := T) (O := O) (im := im) (m := m) i
    have h2 : (badsR T O im m i).length ≤ m := by
      have := List.length_filter_le (fun k => decide (ent O (ap im i) k ≠ ap im (ent T i k))) (List.range m)
      rw [List.length_range] at this
      exact this
    rw [badsTo_succ, List.length_append, List.length_map, Nat.add_mul]
    omega
/-- a turn after another's way there and back -/
def cj (z c : List Nat) : List Nat := tm (tm (bk z) c) z
theorem cj_len (z c : List Nat) : (cj z c).length = z.length := by simp [cj, tm, bk_len]
theorem tm_mem {a b : List Nat} {n : Nat} (ha : ∀ x ∈ a, x < b.length) (hb : ∀ x ∈ b, x < n) : ∀ x ∈ tm a b, x < n := fun x hx => by
  obtain ⟨y, hy, rfl⟩ := List.mem_map.mp hx
  have := ha y hy
  unfold ap
  rw [List.getD_eq_getElem?_getD, List.getElem?_eq_getElem this]
  exact hb _ (List.getElem_mem _)
theorem cj_lt {z c : List Nat} (t : Turn z) (hl : c.length = z.length) (hc : ∀ x ∈ c, x < z.length) : ∀ x ∈ cj z c, x < z.length := by
  have h1 : ∀ x ∈ bk z, x < c.length := fun x hx => by
    rw [hl]
    have := t.bk_turn.lt x hx
    rwa [bk_len] at this
  exact tm_mem (tm_mem h1 hc) t.lt
/-- the table of some turns -/
def tabO (q : Nat) (cols : List (List Nat)) : Tbl := (List.range q).map fun x => cols.map fun c => ap c x
theorem tabO_len (q : Nat) (cols : List (List Nat)) : (tabO q cols).length = q := by simp [tabO]
theorem tabO_row {q : Nat} {cols : List (List Nat)} (hc : ∀ c ∈ cols, c.length = q ∧ ∀ x ∈ c, x < q) : ∀ r ∈ tabO q cols, r.length = cols.length ∧ ∀ x ∈ r, x < q := fun r hr => by
  obtain ⟨x, hx, rfl⟩ := List.mem_map.mp hr
  refine ⟨by rw [List.length_map], fun y hy => ?_⟩
  obtain ⟨c, hc1, rfl⟩ := List.mem_map.mp hy
  obtain ⟨h1, h2⟩ := hc c hc1
  have := List.mem_range.mp hx
  unfold ap
  rw [List.getD_eq_getElem?_getD, List.getElem?_eq_getElem (by omega)]
  exact h2 _ (List.getElem_mem _)
theorem turn_cons {a : List Nat} (t : Turn a) : Turn (0 :: a.map (· + 1)) := by
  refine ⟨List.nodup_cons.mpr ⟨fun h => ?_, ?_⟩, fun x hx => ?_⟩
  · obtain ⟨y, _, e⟩ := List.mem_map.mp h
    omega
  · exact nodup_map (fun x _ y _ e => by have e' : x + 1 = y + 1 := e; omega) t.nd
  · rw [List.length_cons, List.length_map]
    rcases List.mem_cons.mp hx with rfl | hx
    · omega
    · obtain ⟨y, hy, rfl⟩ := List.mem_map.mp hx
      have := t.lt y hy
      omega
end PM
namespace K54
open PySem PySem.Spec L2 VL PM
theorem nice_ni {n : Nat} (h : n < 10 ^ 12) : Nice 0 40 (ni n) := .int (by show ((n : Int)).natAbs < _; omega)
theorem rowx_tup {xs : List PyData} (hl : xs.length ≤ 4) (h : ∀ x ∈ xs, Nice 0 40 x) : Nice 1 170 (.tuple xs) := (Nice.tuple h).mono (Nat.le_refl _) (by omega)
theorem rowx_lst {xs : List PyData} (hl : xs.length ≤ 4) (h : ∀ x ∈ xs, Nice 0 40 x) : Nice 1 170 (.list xs) := (Nice.list h).mono (Nat.le_refl _) (by omega)
/-- anything as a table -/
structure Gv (v : PyData) : Prop where
  n : Nice 2 11000 v
  l : ∀ ys, v = .tuple ys → ys.length ≤ 62
theorem gv_tup {xs : List PyData} (hl : xs.length ≤ 62) (h : ∀ x ∈ xs, Nice 1 170 x) : Gv (.tuple xs) := ⟨(Nice.tuple h).mono (Nat.le_refl _) (by omega), fun ys e => by
  have e' : xs = ys := by injection e
  rw [← e']
  exact hl⟩
theorem gv_lst {xs : List PyData} (hl : xs.length ≤ 62) (h : ∀ x ∈ xs, Nice 1 170 x) : Gv (.list xs) := ⟨(Nice.list h).mono (Nat.le_refl _) (by omega), fun ys e => by cases e⟩
theorem nice_form : Nice 1 200 (.tuple [.str "form"]) := (Nice.tuple (d := 0) (W := 40) fun x hx => by
  have : x = .str "form" := by simpa using hx
  rw [this]
  exact .str (by decide +kernel) (by decide +kernel)).mono (Nat.le_refl _) (Nat.le_of_ble_eq_true rfl)
theorem nice_JV {m : Nat} {rel words : List (List Int)} {v : PyData} (tel : Tel m rel words) (g : Gv v) : Nice 1 200 (JV m rel words v) := by
  by_cases hf : FormV m v
  · obtain ⟨T, rfl, tb⟩ := hf
    have hT : T.length ≤ 62 := by
      have := g.l _ rfl
      rwa [List.length_map] at this
    have hr := tel.rl
    have hw := tel.wl
    rw [JV_tD tb]
    unfold JT
    cases hu : unr T m with
    | some a =>
      have ha := List.mem_range.mp (List.mem_of_find?_eq_some hu)
      refine (Nice.tuple (d := 0) (W := 40) fun x hx => ?_).mono (Nat.le_refl _) (Nat.le_of_ble_eq_true rfl)
      have : x = .str "joined" ∨ x = ni a := by simpa using hx
      rcases this with rfl | rfl
      · exact .str (by decide +kernel) (by decide +kernel)
      · exact nice_ni (by omega)
    | none =>
      cases hrf : relF T rel 0 with
      | some p =>
        obtain ⟨i, a⟩ := p
        have := relF_lt hrf
        refine (Nice.tuple (d := 0) (W := 40) fun x hx => ?_).mono (Nat.le_refl _) (Nat.le_of_ble_eq_true rfl)
        have : x = .str "relator" ∨ x = ni i ∨ x = ni a := by simpa using hx
        rcases this with rfl | rfl | rfl
        · exact .str (by decide +kernel) (by decide +kernel)
        · exact nice_ni (by omega)
        · exact nice_ni (by omega)
      | none =>
        cases hwf : worF T words with
        | some i =>
          have ha := List.mem_range.mp (List.mem_of_find?_eq_some hwf)
          refine (Nice.tuple (d := 0) (W := 40) fun x hx => ?_).mono (Nat.le_refl _) (Nat.le_of_ble_eq_true rfl)
          have : x = .str "word" ∨ x = ni i := by simpa using hx
          rcases this with rfl | rfl
          · exact .str (by decide +kernel) (by decide +kernel)
          · exact nice_ni (by omega)
        | none => exact Nice.none.mono (by decide) (by decide)
  · rw [JV_no hf]
    exact nice_form
theorem nice_FV {m q : Nat} {T O : Tbl} {v : PyData} (hm : m ≤ 100) (hq : q ≤ 1000) : Nice 1 200 (FV m q T O v) := by
  by_cases h : ∃ im : List Nat, v = tn im ∧ im.length = q ∧ ∀ x ∈ im, x < q
  · obtain ⟨im, rfl, h1, h2⟩ := h
    rw [FV_tn h1 h2]
    unfold FD
    split
    · refine (Nice.tuple (d := 0) (W := 40) fun x hx => ?_).mono (Nat.le_refl _) (Nat.le_of_ble_eq_true rfl)
      have : x = .str "first" := by simpa using hx
      rw [this]
      exact .str (by decide +kernel) (by decide +kernel)
    · cases hb : (badsTo T O im m q).head? with
      | none => exact Nice.none.mono (by decide) (by decide)
      | some p =>
        obtain ⟨a, k⟩ := p
        have := badsTo_lt (List.mem_of_mem_head? hb)
        refine (Nice.tuple (d := 0) (W := 40) fun x hx => ?_).mono (Nat.le_refl _) (Nat.le_of_ble_eq_true rfl)
        have hx' : x = .str "letter" ∨ x = ni a ∨ x = ni (k + 1) := by simpa using hx
        rcases hx' with rfl | rfl | rfl
        · exact .str (by decide +kernel) (by decide +kernel)
        · exact nice_ni (by omega)
        · exact nice_ni (by omega)
  · rw [FV_no h]
    exact nice_form
/-- anything as a folding -/
def Ev (x : PyData) : Prop := (∃ n : Nat, x = ni n ∧ n ≤ 100) ∨ ∃ b, x = .bool b
def Fd (x : PyData) : Prop := ∃ xs, (x = .tuple xs ∨ x = .list xs) ∧ xs.length ≤ 62 ∧ ∀ y ∈ xs, Ev y
def badF (q : Nat) (y : PyData) : Bool := isBool y || !(inN q y)
theorem ev_good {q : Nat} {y : PyData} (h : badF q y = false) : inN q y = true := by
  unfold badF at h
  rw [Bool.or_eq_false_iff] at h
  simpa using h.2
theorem nice_two {n : Nat} (x : PyData) (h : Nice 0 40 x) : Nice 1 82 (.tuple [x]) := (Nice.tuple (d := 0) (W := 40) fun y hy => by
  have : y = x := by simpa using hy
  rw [this]
  exact h).mono (Nat.le_refl _) (Nat.le_of_ble_eq_true rfl)
theorem ents_take {xs : List PyData} {Pd : PyData → Prop} (h : ∀ x ∈ xs, Pd x) (k : Nat) : ∀ x ∈ xs.take k, Pd x := fun x hx => h x (List.mem_of_mem_take hx)
theorem ents_drop {xs : List PyData} {Pd : PyData → Prop} (h : ∀ x ∈ xs, Pd x) (k : Nat) : ∀ x ∈ xs.drop k, Pd x := fun x hx => h x (List.mem_of_mem_drop hx)
theorem ents_app {xs ys : List PyData} {Pd : PyData → Prop} (h : ∀ x ∈ xs, Pd x) (h2 : ∀ x ∈ ys, Pd x) : ∀ x ∈ xs ++ ys, Pd x := fun x hx => (List.mem_append.mp hx).elim (h x) (h2 x)
theorem ents_one {x : PyData} {Pd : PyData → Prop} (h : Pd x) : ∀ y ∈ [x], Pd y := fun y hy => by
  have : y = x := by simpa using hy
  rw [this]
  exact h
theorem ents_cut {xs : List PyData} {Pd : PyData → Prop} (h : ∀ x ∈ xs, Pd x) {lo hi : Option Int} : ∀ x ∈ cutL xs lo hi, Pd x := fun x hx => h x (cutL_mem hx)
theorem rel_flat (k : Nat) : (List.replicate k [PyData.int 1, PyData.int 2]).flatten = (List.replicate k [(1 : Int), 2]).flatten.map PyData.int := by
  rw [List.map_flatten, List.map_replicate]
  rfl
def spLaw : Sv := fun ts Q => ∃ ns : List Int, ts = [.d (.list (ns.map .int))] ∧ ns.length ≤ 63 ∧ Q (.d (.bool true)) ts
end K54

/-! text B12 -/
set_option Elab.async false
set_option linter.all false
set_option maxRecDepth 100000
set_option maxHeartbeats 8000000
set_option pp.maxSteps 250
namespace K54
open PySem PySem.Spec L2 VL PM
section
variable {P : Program} {w : World} {K : PySem.W.Frag} {mg : Str → Option Value} {base : Heap} {f : Addr} {fd : FuncData}

theorem lawD {cdv : Value} {A : Around} {outer : List PySem.Env} {s : Shared} {H : Hp} (hr : RG 4 (cxOf CX0 P w K mg base ["script", "source", "relators", "turns", "q", "called", "table", "words", "telling", "k", "a", "b", "rows", "exchanged", "doubled", "great", "values", "value", "shown", "late", "other", "wrong", "fold", "due", "bad", "x", "j", "turn", "row"] "law" (defScope (top 24)) f cdv A outer s H E0).nox.A) (hN : (cxOf CX0 P w K mg base ["script", "source", "relators", "turns", "q", "called", "table", "words", "telling", "k", "a", "b", "rows", "exchanged", "doubled", "great", "values", "value", "shown", "late", "other", "wrong", "fold", "due", "bad", "x", "j", "turn", "row"] "law" (defScope (top 24)) f cdv A outer s H E0).nox.N.Nodup) (C1 : DefV P w K mg base 4 "_law_source" spSource) (C2 : DefV P w K mg base 4 "_law_right" spRight) (C3 : DefV P w K mg base 4 "_law_turn" spTurn) (C4 : DefV P w K mg base 4 "_law_by" (spF pTimes)) (C5 : DefV P w K mg base 4 "_law_back" (spF pBack)) (C6 : DefV P w K mg base 4 "_law_word" spWord) (C7 : DefV P w K mg base 4 "_law_pick" spPick) (C8 : DefV P w K mg base 4 "judge_table" (spF pJudge)) (C9 : DefV P w K mg base 4 "_law_fault" (spF pFault)) (C10 : DefV P w K mg base 4 "judge_folding" (spF pJFold)) (m1 : mg "tuple" = none) (m2 : mg "range" = none) (m3 : mg "len" = none) (m4 : mg "list" = none) (m5 : mg "repr" = none) (m6 : mg "isinstance" = none) (m7 : mg "int" = none) (m8 : mg "bool" = none) (m9 : mg "min" = none) {ns : List Int} {p q0 : Addr} {cs : List Int} {l0 m0 t0 : Int} {rel : List (List Int)} {cols : List (List Nat)} {q a b : Nat} (hq0 : 12 ≤ q) (hq1 : q ≤ 60) (hc0 : 2 ≤ cols.length) (hc1 : cols.length ≤ 3) (hcl : ∀ c ∈ cols, c.length = q ∧ ∀ x ∈ c, x < q) (ha : a < q) (hb : b < q)
    {o5 o7 o8 o9 o12 o13 o14 o15 o16 o17 o18 : Option VL.T} (D : Dn) (hret : ∀ e : VL.Env, e.head? = some (some (.d (.list (ns.map .int)))) → D.rt (.d (.bool true)) e) : VSs (cxOf CX0 P w K mg base ["script", "source", "relators", "turns", "q", "called", "table", "words", "telling", "k", "a", "b", "rows", "exchanged", "doubled", "great", "values", "value", "shown", "late", "other", "wrong", "fold", "due", "bad", "x", "j", "turn", "row"] "law" (defScope (top 24)) f cdv A outer s H E0).nox ((defBody (top 24)).drop 18) [some (.d (.list (ns.map .int))), some (srcT p q0 cs l0 m0 t0), some (.d (wsD rel)), some (.d (colsT cols)), some (.d (ni q)), o5, some (.d (tD (tabO q cols))), o7, o8, o9, some (.d (ni a)), some (.d (ni b)), o12, o13, o14, o15, o16, o17, o18, none, none, none, none, none, none, none, none, none, none] D := by
  have hcols := hcl
  conv => arg 2; whnf
  refine vss_cons ?_
  refine vs_set 19 <| ve_callL 1 C3 hr <| ves_cons <| ve_name 1 rfl <| ves_cons <| ve_bin <| ve_name 4 rfl <| ve_int <| sub_i ?_
  rw [show ((q : Nat) : Int) - 1 = ((q - 1 : Nat) : Int) by omega]
  refine ves_nil ⟨p, _, _, [.d (ni (q - 1))], rfl, rfl, p, q0, cs, l0, m0, t0, _, rfl, by omega, fun cs l0 m0 t0 y ty ly => ⟨_, _, rfl, _, _, .own _, ?_⟩⟩
  refine vss_cons ?_
  refine vs_set 19 <| ve_bin <| ve_tuple <| ves_cons <| ve_int <| ves_nil ⟨[.int 0], rfl, sz rfl, ?_⟩
  refine ve_t1 bb_tuple <| ve_lc [("x", 25)] (vi_tup <| ve_name 19 rfl ⟨_, rfl, ?_⟩)
  refine lcq_l y ni (fun x => some (ni (x + 1))) [some (.d (.list (ns.map .int))), some (srcT p q0 cs l0 m0 t0), some (.d (wsD rel)), some (.d (colsT cols)), some (.d (ni q)), o5, some (.d (tD (tabO q cols))), o7, o8, o9, some (.d (ni a)), some (.d (ni b)), o12, o13, o14, o15, o16, o17, o18, some (.d (tn y)), none, none, none, none, none, none, none, none, none] List.map_map rfl trivial (by rw [sizeLine_eq]; omega) ?_ ?_
  · intro i0 x hx p1
    refine vg_name 25 fun p2 => vts_nil ?_
    rw [if_pos rfl]
    exact fun p3 => ve_bin <| ve_name 25 rfl <| ve_int <| add_i ⟨_, rfl, rfl, rfl⟩
  intro p4
  refine tuple_d (.nd _ _) ?_
  rw [List.filterMap_eq_map']
  refine add_t (by rw [List.length_map, sizeLine_eq]; show 1 + _ ≤ _; omega) ?_
  have ez : [PyData.int 0] ++ y.map (fun x => ni (x + 1)) = (0 :: y.map (· + 1)).map ni := by
    rw [List.map_cons, List.map_map]
    rfl
  rw [ez]
  obtain ⟨z, tz, lz⟩ : ∃ z, Turn z ∧ z.length = q ∧ z = 0 :: y.map (· + 1) := ⟨_, turn_cons ty, by rw [List.length_cons, List.length_map]; omega, rfl⟩
  obtain ⟨lz, ezz⟩ := lz
  rw [← ezz]
  refine ⟨_, _, .own _, ?_⟩
  refine vss_cons ?_
  refine vs_set 20 ?_
  refine ve_lc [("turn", 27)] (vi_list <| ve_name 3 rfl ⟨_, rfl, ?_⟩)
  refine lcq_l cols tn (fun c => some (tn (cj z c))) [some (.d (.list (ns.map .int))), some (srcT p q0 cs l0 m0 t0), some (.d (wsD rel)), some (.d (colsT cols)), some (.d (ni q)), o5, some (.d (tD (tabO q cols))), o7, o8, o9, some (.d (ni a)), some (.d (ni b)), o12, o13, o14, o15, o16, o17, o18, some (.d (tn z)), none, none, none, none, none, none, none, none, none] List.map_map rfl trivial (by rw [sizeLine_eq]; omega) ?_ ?_
  · intro i0 c hc p1
    obtain ⟨c1, c2⟩ := hcl c (List.mem_of_getElem? hc)
    have hbz : ∀ x ∈ bk z, x < c.length := fun x hx => by
      have := tz.bk_turn.lt x hx
      rw [bk_len] at this
      omega
    have htz : ∀ x ∈ tm (bk z) c, x < z.length := tm_mem hbz fun x hx => by rw [lz]; exact c2 x hx
    have hbl : (bk z).length = q := by rw [bk_len, lz]
    have htl : (tm (bk z) c).length = q := by rw [tm_len, hbl]
    refine vg_name 27 fun p2 => vts_nil ?_
    rw [if_pos rfl]
    intro p3
    refine ve_callF C4 hr ?_
    refine ves_cons <| ve_callF C4 hr ?_
    refine ves_cons <| ve_callF C5 hr <| ves_cons <| ve_name 19 rfl <| ves_nil ⟨[tn z], _, rfl, ⟨_, rfl, ⟨tz, by omega⟩, rfl⟩, ?_⟩
    refine ves_cons <| ve_name 27 rfl <| ves_nil ⟨[tn (bk z), tn c], _, rfl, ⟨_, _, rfl, by omega, hbz, rfl⟩, ?_⟩
    exact ves_cons <| ve_name 19 rfl <| ves_nil ⟨[tn (tm (bk z) c), tn z], _, rfl, ⟨_, _, rfl, by omega, htz, rfl⟩, _, rfl, rfl, rfl⟩
  intro po
  rw [List.filterMap_eq_map']
  refine ⟨_, _, .own _, ?_⟩
  have hoc : ∀ c ∈ cols.map (cj z), c.length = q ∧ ∀ x ∈ c, x < q := fun c hc => by
    obtain ⟨c0, hc0', rfl⟩ := List.mem_map.mp hc
    obtain ⟨c1, c2⟩ := hcl c0 hc0'
    refine ⟨by rw [cj_len, lz], fun x hx => ?_⟩
    have := cj_lt tz (by omega) (fun x hx => by rw [lz]; exact c2 x hx) x hx
    omega
  rw [show (cols.map fun c => tn (cj z c)) = (cols.map (cj z)).map tn by rw [List.map_map]; rfl]
  obtain ⟨oc, eoc⟩ : ∃ oc, oc = cols.map (cj z) := ⟨_, rfl⟩
  have hol : oc.length = cols.length := by rw [eoc, List.length_map]
  rw [← eoc] at hoc ⊢
  have h20 : ∀ X sts D, VSs X sts [some (.d (.list (ns.map .int))), some (srcT p q0 cs l0 m0 t0), some (.d (wsD rel)), some (.d (colsT cols)), some (.d (ni q)), o5, some (.d (tD (tabO q cols))), o7, o8, o9, some (.d (ni a)), some (.d (ni b)), o12, o13, o14, o15, o16, o17, o18, some (.d (tn z)), some (.d (colsT oc)), none, none, none, none, none, none, none, none] D → VSs X sts [some (.d (.list (ns.map .int))), some (srcT p q0 cs l0 m0 t0), some (.d (wsD rel)), some (.d (colsT cols)), some (.d (ni q)), o5, some (.d (tD (tabO q cols))), o7, o8, o9, some (.d (ni a)), some (.d (ni b)), o12, o13, o14, o15, o16, o17, o18, some (.d (tn z)), some (ls po (oc.map tn)), none, none, none, none, none, none, none, none] D := fun X sts D h => @vss_still X _ D sts _ _ 20 rfl h
  refine h20 _ _ _ ?_
  refine vss_cons ?_
  refine vs_set 20 ?_
  refine ve_t1 bb_tuple <| ve_lc [("x", 25)] (vi_range1 <| ve_name 4 rfl ⟨_, rfl, by omega, by omega, ?_⟩)
  refine lcq_l (List.range q) ni (fun x => some (tn (oc.map fun c => ap c x))) [some (.d (.list (ns.map .int))), some (srcT p q0 cs l0 m0 t0), some (.d (wsD rel)), some (.d (colsT cols)), some (.d (ni q)), o5, some (.d (tD (tabO q cols))), o7, o8, o9, some (.d (ni a)), some (.d (ni b)), o12, o13, o14, o15, o16, o17, o18, some (.d (tn z)), some (.d (colsT oc)), none, none, none, none, none, none, none, none] (rng_n rfl) rfl trivial (by rw [sizeLine_eq, List.length_range]; omega) ?_ ?_
  · intro i0 x hx p1
    obtain ⟨hx, rfl⟩ := range_get' hx
    refine vg_name 25 fun p2 => vts_nil ?_
    rw [if_pos rfl]
    intro p3
    refine ve_t1 bb_tuple <| ve_lc [("turn", 27)] (vi_list <| ve_name 20 rfl ⟨_, rfl, ?_⟩)
    refine lcq_l oc tn (fun c => some (ni (ap c x))) [some (.d (.list (ns.map .int))), some (srcT p q0 cs l0 m0 t0), some (.d (wsD rel)), some (.d (colsT cols)), some (.d (ni q)), o5, some (.d (tD (tabO q cols))), o7, o8, o9, some (.d (ni a)), some (.d (ni b)), o12, o13, o14, o15, o16, o17, o18, some (.d (tn z)), some (.d (colsT oc)), none, none, none, none, some (.d (ni x)), none, none, none] List.map_map rfl trivial (by rw [sizeLine_eq]; omega) ?_ ?_
    · intro i1 c hc p4
      obtain ⟨c1, c2⟩ := hoc c (List.mem_of_getElem? hc)
      refine vg_name 27 fun p5 => vts_nil ?_
      rw [if_pos rfl]
      exact fun p6 => ve_sub <| ve_name 27 rfl <| ve_name 25 rfl <| ix_d (.dt _) (at_ap (by omega)) ⟨_, rfl, rfl, rfl⟩
    · intro p7
      refine tuple_d (.nd _ _) ⟨_, rfl, ?_, rfl⟩
      rw [List.filterMap_eq_map', tn, List.map_map]
      rfl
  intro p8
  refine tuple_d (.nd _ _) ?_
  rw [List.filterMap_eq_map', show ((List.range q).map fun x => tn (oc.map fun c => ap c x)) = (tabO q oc).map tn by unfold tabO; rw [List.map_map]; rfl]
  refine ⟨_, _, .own _, ?_⟩
  refine vss_cons ?_
  have hza : z[a]? = some (ap z a) := ap_get (by omega)
  have hzb : (z.map ni)[b]? = some (ni (ap z b)) := by rw [List.getElem?_map, ap_get (by omega)]; rfl
  have hzl : (z.map ni).length = q := by rw [List.length_map, lz]
  have evz : ∀ x ∈ z.map ni, Ev x := fun x hx => by
    obtain ⟨n, hn, rfl⟩ := List.mem_map.mp hx
    have := tz.lt n hn
    exact .inl ⟨n, rfl, by omega⟩
  have evb : Ev (ni (ap z b)) := evz _ (List.mem_of_getElem? hzb)
  refine vs_set 21 <| ve_bin <| ve_bin <| ve_slice <| ve_name 19 rfl <| vo_none <| vo_some <| ve_name 10 rfl ⟨_, rfl, sl_t ?_⟩
  rw [cutL_to]
  refine ve_tuple <| ves_cons <| ve_sub <| ve_name 19 rfl <| ve_name 11 rfl <| ix_d (.dt _) (atI_nat hzb) <| ves_nil ⟨[ni (ap z b)], rfl, sz rfl, add_t ?_ ?_⟩
  · rw [List.length_take, hzl, sizeLine_eq]
    show _ + 1 ≤ _
    omega
  refine ve_slice <| ve_name 19 rfl <| vo_some <| ve_bin <| ve_name 10 rfl <| ve_int <| add_i ⟨_, rfl, vo_none <| sl_t ?_⟩
  rw [show ((a : Nat) : Int) + 1 = ((a + 1 : Nat) : Int) by push_cast; rfl, cutL_from]
  have hwl : ((z.map ni).take a ++ [ni (ap z b)] ++ (z.map ni).drop (a + 1)).length = q := by
    rw [List.length_append, List.length_append, List.length_take, List.length_drop, hzl]
    show min a q + 1 + _ = q
    omega
  refine add_t (by rw [← List.length_append, hwl, sizeLine_eq]; omega) ?_
  have evw : ∀ x ∈ (z.map ni).take a ++ [ni (ap z b)] ++ (z.map ni).drop (a + 1), Ev x := ents_app (ents_app (ents_take evz _) (ents_one evb)) (ents_drop evz _)
  obtain ⟨wr, ewr⟩ : ∃ wr, wr = (z.map ni).take a ++ [ni (ap z b)] ++ (z.map ni).drop (a + 1) := ⟨_, rfl⟩
  rw [← ewr] at hwl evw ⊢
  refine ⟨_, _, .own _, ?_⟩
  refine vss_cons ?_
  have two : Two cols.length q (tabO q cols) (tabO q oc) := ⟨by omega, tabO_len _ _, tabO_len _ _, tabO_row hcl, by rw [← hol]; exact tabO_row hoc⟩
  have evq : Ev (ni q) := .inl ⟨q, rfl, by omega⟩
  refine vs_for [22] ?_
  refine vi_tup ?_
  refine ve_tupleP (Pd := Fd) ?_ (Nat.le_of_ble_eq_true rfl) fun fs hfs _ => ?_
  · refine .cons ?_ <| .cons ?_ <| .cons ?_ <| .cons ?_ <| .cons ?_ <| .cons ?_ <| .cons ?_ .nil
    · exact ve_name 19 rfl ⟨_, rfl, ⟨_, .inl rfl, by omega, evz⟩, rfl⟩
    · exact ve_name 21 rfl ⟨_, rfl, ⟨_, .inl rfl, by omega, evw⟩, rfl⟩
    · exact ve_revT <| ve_name 19 rfl ⟨_, rfl, _, rfl, ⟨_, .inl rfl, by rw [List.length_reverse]; omega, fun x hx => evz x (List.mem_reverse.mp hx)⟩, rfl⟩
    · exact ve_still <| ve_t1 bb_list <| ve_name 19 rfl <| list_d (.dt _) fun pl => ⟨pl, _, rfl, _, rfl, ⟨_, .inr rfl, by omega, evz⟩, rfl⟩
    · exact ve_slice <| ve_name 19 rfl <| vo_none <| vo_some <| ve_un <| ve_int <| neg_i ⟨_, rfl, sl_t ⟨_, rfl, ⟨_, .inl rfl, Nat.le_trans (cutL_len _ _ _) (by omega), ents_cut evz⟩, rfl⟩⟩
    · refine ve_bin <| ve_slice <| ve_name 19 rfl <| vo_none <| vo_some <| ve_un <| ve_int <| neg_i ⟨_, rfl, sl_t ?_⟩
      refine ve_tuple <| ves_cons <| ve_name 4 rfl <| ves_nil ⟨[ni q], rfl, sz rfl, add_t ?_ ⟨_, rfl, ⟨_, .inl rfl, ?_, ents_app (ents_cut evz) (ents_one evq)⟩, rfl⟩⟩
      · have := cutL_len (z.map ni) none (some (-1))
        rw [sizeLine_eq]
        show _ + 1 ≤ _
        omega
      · have := cutL_len (z.map ni) none (some (-1))
        rw [List.length_append]
        show _ + 1 ≤ _
        omega
    · refine ve_bin <| ve_slice <| ve_name 19 rfl <| vo_none <| vo_some <| ve_un <| ve_int <| neg_i ⟨_, rfl, sl_t ?_⟩
      refine ve_tuple <| ves_cons <| ve_bl <| ves_nil ⟨[.bool false], rfl, sz rfl, add_t ?_ ⟨_, rfl, ⟨_, .inl rfl, ?_, ents_app (ents_cut evz) (ents_one (.inr ⟨_, rfl⟩))⟩, rfl⟩⟩
      · have := cutL_len (z.map ni) none (some (-1))
        rw [sizeLine_eq]
        show _ + 1 ≤ _
        omega
      · have := cutL_len (z.map ni) none (some (-1))
        rw [List.length_append]
        show _ + 1 ≤ _
        omega
  refine ⟨_, rfl, fun _ e => ∃ o22 o23 o24 o25, e = [some (.d (.list (ns.map .int))), some (srcT p q0 cs l0 m0 t0), some (.d (wsD rel)), some (.d (colsT cols)), some (.d (ni q)), o5, some (.d (tD (tabO q cols))), o7, o8, o9, some (.d (ni a)), some (.d (ni b)), o12, o13, o14, o15, o16, o17, o18, some (.d (tn z)), some (.d (tD (tabO q oc))), some (.d (.tuple wr)), o22, o23, o24, o25, none, none, none], ⟨none, none, none, none, rfl⟩, fun _ _ _ => trivial, ?_, ?_⟩
  · rintro i0 x0 e hx0 ⟨o22, o23, o24, o25, rfl⟩
    rw [List.getElem?_map] at hx0
    cases ex : fs[i0]? with
    | none => rw [ex] at hx0; cases hx0
    | some v =>
    rw [ex] at hx0
    cases hx0
    have hfd := hfs v (List.mem_of_getElem? ex)
    refine vg_name 22 ?_
    refine vss_forget 25 ?_
    refine vss_cons ?_
    refine vs_set 23 <| ve_non ⟨_, _, .own _, ?_⟩
    refine vss_cons ?_
    refine vs_mid (fun e => ∃ o24 o25, e = [some (.d (.list (ns.map .int))), some (srcT p q0 cs l0 m0 t0), some (.d (wsD rel)), some (.d (colsT cols)), some (.d (ni q)), o5, some (.d (tD (tabO q cols))), o7, o8, o9, some (.d (ni a)), some (.d (ni b)), o12, o13, o14, o15, o16, o17, o18, some (.d (tn z)), some (.d (tD (tabO q oc))), some (.d (.tuple wr)), some (.d v), some (.d (FV cols.length q (tabO q cols) (tabO q oc) v)), o24, o25, none, none, none]) ?_ ?_
    · refine vs_if <| vt_w <| vw_or <| vt_not <| vt_val <| ve_isi "tuple" <| ve_name 22 rfl ⟨_, _, rfl, kit_tuple v, _, rfl, ?_⟩
      obtain ⟨xs, hv, hxl, hev⟩ := hfd
      rcases hv.symm with rfl | rfl
      · rw [if_pos (show (!isTuple (.list xs)) = true from rfl), if_pos rfl]
        refine vss_one <| vs_set 23 <| ve_tuple <| ves_cons <| ve_str <| ves_nil ⟨[.str "form"], rfl, sz rfl, _, _, .own _, o24, none, ?_⟩
        rw [FV_no fun ⟨im, e, _⟩ => by cases e]
        rfl
      rw [if_neg (by simp [isTuple])]
      refine vw_or <| vt_cmp <| ve_c1 bb_len <| ve_name 22 rfl <| len_d (.dt _) <| ve_name 4 rfl <| ne_i ⟨_, rfl, ?_⟩
      by_cases hl : ¬ xs.length = q
      · rw [show (!decide ((xs.length : Int) = (q : Int))) = true by simp; omega, if_pos rfl, if_pos rfl]
        refine vss_one <| vs_set 23 <| ve_tuple <| ves_cons <| ve_str <| ves_nil ⟨[.str "form"], rfl, sz rfl, _, _, .own _, o24, none, ?_⟩
        rw [FV_no fun ⟨im, e, h1, _⟩ => hl (by
          have e' : xs = im.map ni := by injection e
          rw [e', List.length_map, h1])]
        rfl
      have hl := Classical.not_not.mp hl
      rw [show (!decide ((xs.length : Int) = (q : Int))) = false by simp [hl], if_neg Bool.false_ne_true]
      refine vw_or1 <| vt_cmp ?_
      refine ve_lc [("x", 25)] (vi_tup <| ve_name 22 rfl ⟨_, rfl, ?_⟩)
      refine lcq_l xs id (fun y => if badF q y = true then some y else none) [some (.d (.list (ns.map .int))), some (srcT p q0 cs l0 m0 t0), some (.d (wsD rel)), some (.d (colsT cols)), some (.d (ni q)), o5, some (.d (tD (tabO q cols))), o7, o8, o9, some (.d (ni a)), some (.d (ni b)), o12, o13, o14, o15, o16, o17, o18, some (.d (tn z)), some (.d (tD (tabO q oc))), some (.d (.tuple wr)), some (.d (.tuple xs)), some (.d .none), o24, none, none, none, none] (by simp) rfl trivial (by rw [sizeLine_eq]; omega) ?_ ?_
      · intro i1 y hy p1
        refine vg_name 25 fun p2 => vts_one ?_
        refine vt_w <| vw_or <| vt_val <| ve_isi "bool" <| ve_name 25 rfl ⟨_, _, rfl, kit_bool y, _, rfl, ?_⟩
        rcases hev y (List.mem_of_getElem? hy) with ⟨n, rfl, hn⟩ | ⟨bb, rfl⟩
        · rw [if_neg (show ¬ isBool (ni n) = true from Bool.false_ne_true)]
          refine vw_or1 <| vt_not ?_
          refine vt_chain <| ve_int ⟨0, rfl, ve_name 25 rfl ⟨(n : Int), rfl, le_i ⟨_, rfl, ?_⟩⟩⟩
          rw [if_pos (decide_eq_true (by omega))]
          refine ve_name 4 rfl ⟨(q : Int), rfl, lt_i ⟨_, rfl, ?_⟩⟩
          have e : (!decide ((n : Int) < (q : Int))) = badF q (ni n) := by
            show _ = (false || !(decide (0 ≤ (n : Int)) && decide ((n : Int) < (q : Int))))
            rw [Bool.false_or, decide_eq_true (show 0 ≤ (n : Int) by omega), Bool.true_and]
          rw [e]
          cases hbf : badF q (ni n) with
          | true =>
            rw [if_pos rfl]
            exact fun p3 => ve_name 25 rfl ⟨_, rfl, if_pos rfl, rfl⟩
          | false =>
            rw [if_neg Bool.false_ne_true]
            exact ⟨if_neg Bool.false_ne_true, rfl⟩
        · rw [if_pos (show isBool (.bool bb) = true from rfl), if_pos rfl]
          exact fun p3 => ve_name 25 rfl ⟨_, rfl, if_pos rfl, rfl⟩
      intro pe
      rw [filt_fm]
      refine ve_list <| ves_nil ⟨[], rfl, sz rfl, fun p4 => ?_⟩
      have hev2 : ∀ y ∈ xs.filter (badF q), y.plain = true ∧ y.depth ≤ 0 := fun y hy => by
        rcases hev y (List.mem_filter.mp hy).1 with ⟨n, rfl, hn⟩ | ⟨bb, rfl⟩
        · exact ⟨rfl, Nat.le_refl _⟩
        · exact ⟨rfl, Nat.le_refl _⟩
      refine ne_p hr.u (.nd pe _) (.nd p4 []) (plain_list fun x hx => (hev2 x hx).1) rfl (Nat.le_trans (depth_list (d := 0) fun x hx => (hev2 x hx).2) (by omega)) ⟨_, rfl, ?_⟩
      rw [eqv_nilL]
      by_cases hbe : xs.filter (badF q) ≠ []
      · rw [if_pos (by simpa using hbe)]
        refine vss_one <| vs_set 23 <| ve_tuple <| ves_cons <| ve_str <| ves_nil ⟨[.str "form"], rfl, sz rfl, _, _, .own _, o24, none, ?_⟩
        rw [FV_no fun ⟨im, e, h1, h2⟩ => hbe (by
          have e' : xs = im.map ni := by injection e
          rw [e']
          exact List.filter_eq_nil_iff.mpr fun x hx => by
            obtain ⟨n, hn, rfl⟩ := List.mem_map.mp hx
            have := h2 n hn
            show ¬ (false || !(decide (0 ≤ (n : Int)) && decide ((n : Int) < (q : Int)))) = true
            rw [decide_eq_true (show 0 ≤ (n : Int) by omega), decide_eq_true (show (n : Int) < (q : Int) by omega)]
            exact Bool.false_ne_true)]
        rfl
      have hbe := Classical.not_not.mp hbe
      rw [hbe, if_neg (by simp)]
      obtain ⟨im, rfl, him⟩ := all_ni (n := q) (List.all_eq_true.mpr fun y hy => ev_good (by simpa using List.filter_eq_nil_iff.mp hbe y hy))
      rw [List.length_map] at hl
      have i0' : (im.map ni)[0]? = some (ni (ap im 0)) := by rw [List.getElem?_map, ap_get (by omega)]; rfl
      rw [show FV cols.length q (tabO q cols) (tabO q oc) (.tuple (im.map ni)) = FD cols.length q (tabO q cols) (tabO q oc) im from FV_tn hl him]
      refine vss_one <| vs_if <| vt_cmp <| ve_sub <| ve_name 22 rfl <| ve_int <| ix_d (.dt _) (atI_nat (j := 0) i0') <| ve_int <| ne_i ⟨_, rfl, ?_⟩
      by_cases hf0 : ¬ ap im 0 = 0
      · rw [show (!decide (((ap im 0 : Nat) : Int) = 0)) = true by simp; omega, if_pos rfl]
        refine vss_one <| vs_set 23 <| ve_tuple <| ves_cons <| ve_str <| ves_nil ⟨[.str "first"], rfl, sz rfl, _, _, .own _, o24, none, ?_⟩
        unfold FD
        rw [if_pos hf0]
        rfl
      have hf0 := Classical.not_not.mp hf0
      rw [show (!decide (((ap im 0 : Nat) : Int) = 0)) = false by simp [hf0], if_neg Bool.false_ne_true]
      refine vss_cons ?_
      refine vs_set 24 <| ve_list <| ves_nil ⟨[], rfl, sz rfl, fun pb0 => ⟨_, _, .own _, ?_⟩⟩
      refine vss_cons ?_
      refine vs_for [25] (vi_range1 <| ve_name 4 rfl ⟨_, rfl, by omega, by omega, fun i e => ∃ pb o25, i ≤ q ∧ e = [some (.d (.list (ns.map .int))), some (srcT p q0 cs l0 m0 t0), some (.d (wsD rel)), some (.d (colsT cols)), some (.d (ni q)), o5, some (.d (tD (tabO q cols))), o7, o8, o9, some (.d (ni a)), some (.d (ni b)), o12, o13, o14, o15, o16, o17, o18, some (.d (tn z)), some (.d (tD (tabO q oc))), some (.d (.tuple wr)), some (.d (tn im)), some (.d .none), some (ls pb ((badsTo (tabO q cols) (tabO q oc) im cols.length i).map fun p => PyData.tuple [.str "letter", ni p.1, ni (p.2 + 1)])), o25, none, none, none], ⟨pb0, none, Nat.zero_le _, rfl⟩, fun _ _ _ => trivial, ?_, ?_⟩)
      · rintro x x1 e hx1 ⟨pb, o25, _, rfl⟩
        obtain ⟨hxq, rfl⟩ := rng_get hx1
        have hxq : x < q := by omega
        rw [show (0 : Int) + (x : Int) = (x : Int) by omega]
        obtain ⟨r1, r2, r3⟩ := row_at (T := tabO q cols) two.tl two.tr hxq
        have hix : (im.map ni)[x]? = some (ni (ap im x)) := by rw [List.getElem?_map, ap_get (by omega)]; rfl
        have hlt : ap im x < q := by
          unfold ap
          rw [List.getD_eq_getElem?_getD, List.getElem?_eq_getElem (by omega)]
          exact him _ (List.getElem_mem _)
        obtain ⟨s1, s2, s3⟩ := row_at (T := tabO q oc) two.ol two.or hlt
        refine vg_name 25 ?_
        refine vss_one ?_
        refine vs_set 24 <| ve_bin <| ve_name 24 rfl ?_
        refine ve_lc [("j", 26)] (vi_range1 <| ve_c1 bb_len <| ve_name 3 rfl <| len_d (.dl _) ⟨_, rfl, by omega, by rw [List.length_map]; omega, ?_⟩)
        refine lcq_l (List.range cols.length) ni (fun j => if decide (ent (tabO q oc) (ap im x) j ≠ ap im (ent (tabO q cols) x j)) = true then some (PyData.tuple [.str "letter", ni x, ni (j + 1)]) else none) [some (.d (.list (ns.map .int))), some (srcT p q0 cs l0 m0 t0), some (.d (wsD rel)), some (.d (colsT cols)), some (.d (ni q)), o5, some (.d (tD (tabO q cols))), o7, o8, o9, some (.d (ni a)), some (.d (ni b)), o12, o13, o14, o15, o16, o17, o18, some (.d (tn z)), some (.d (tD (tabO q oc))), some (.d (.tuple wr)), some (.d (tn im)), some (.d .none), some (ls pb ((badsTo (tabO q cols) (tabO q oc) im cols.length x).map fun p => PyData.tuple [.str "letter", ni p.1, ni (p.2 + 1)])), some (.d (ni x)), none, none, none] (rng_l _ _) rfl trivial (by rw [sizeLine_eq, List.length_range]; omega) ?_ ?_
        · intro i2 j hj p1
          obtain ⟨hj, rfl⟩ := range_get' hj
          obtain ⟨e1, l1⟩ := r2 j hj
          obtain ⟨e2, l2⟩ := s2 j hj
          have hie : (im.map ni)[ent (tabO q cols) x j]? = some (ni (ap im (ent (tabO q cols) x j))) := by rw [List.getElem?_map, ap_get (by omega)]; rfl
          refine vg_name 26 fun p2 => vts_one ?_
          refine vt_cmp <| ve_sub <| ve_name 22 rfl <| ve_sub <| ve_sub <| ve_name 6 rfl <| ve_name 25 rfl ?_
          refine ix_d (.dt _) (atI_nat r1) ?_
          refine ve_name 26 rfl <| ix_d (.dt _) (at_tn e1) ?_
          refine ix_d (.dt _) (atI_nat hie) ?_
          refine ve_sub <| ve_sub <| ve_name 20 rfl <| ve_sub <| ve_name 22 rfl <| ve_name 25 rfl ?_
          refine ix_d (.dt _) (atI_nat hix) ?_
          refine ix_d (.dt _) (atI_nat s1) ?_
          refine ve_name 26 rfl <| ix_d (.dt _) (at_tn e2) ?_
          refine ne_i ⟨_, rfl, ?_⟩
          have e : (!decide (((ap im (ent (tabO q cols) x j) : Nat) : Int) = ((ent (tabO q oc) (ap im x) j : Nat) : Int))) = decide (ent (tabO q oc) (ap im x) j ≠ ap im (ent (tabO q cols) x j)) := by
            rw [Bool.eq_iff_iff, Bool.not_eq_true', decide_eq_false_iff_not, decide_eq_true_iff]
            omega
          rw [e]
          cases hb : decide (ent (tabO q oc) (ap im x) j ≠ ap im (ent (tabO q cols) x j)) with
          | true =>
            rw [if_pos rfl]
            exact fun p3 => ve_tuple <| ves_cons <| ve_str <| ves_cons <| ve_name 25 rfl <| ves_cons <| ve_bin <| ve_name 26 rfl <| ve_int <| add_i <| ves_nil ⟨[.str "letter", ni x, ni (j + 1)], rfl, sz rfl, _, rfl, if_pos rfl, rfl⟩
          | false =>
            rw [if_neg Bool.false_ne_true]
            exact ⟨if_neg Bool.false_ne_true, rfl⟩
        intro pn
        rw [fm_filter]
        have hbl := badsTo_len (T := tabO q cols) (O := tabO q oc) (im := im) (m := cols.length) (x + 1)
        have hbm : (x + 1) * cols.length ≤ 60 * 3 := Nat.mul_le_mul (by omega) hc1
        have esu : ((badsTo (tabO q cols) (tabO q oc) im cols.length x).map fun p => PyData.tuple [.str "letter", ni p.1, ni (p.2 + 1)]) ++ (((List.range cols.length).filter fun j => decide (ent (tabO q oc) (ap im x) j ≠ ap im (ent (tabO q cols) x j))).map fun j => PyData.tuple [.str "letter", ni x, ni (j + 1)]) = (badsTo (tabO q cols) (tabO q oc) im cols.length (x + 1)).map fun p => PyData.tuple [.str "letter", ni p.1, ni (p.2 + 1)] := by
          rw [badsTo_succ, List.map_append, List.map_map]
          rfl
        refine add_l (.rf 24 rfl) (.nd pn _) ?_ fun pb2 => ?_
        · rw [← List.length_append, esu, List.length_map, sizeLine_eq]
          omega
        rw [esu]
        exact ⟨_, _, .own _, pb2, _, by omega, rfl⟩
      · rintro e ⟨pb, o25, _, rfl⟩
        rw [rng_len, show ((q : Nat) : Int).toNat = q by omega]
        have hbl := badsTo_len (T := tabO q cols) (O := tabO q oc) (im := im) (m := cols.length) q
        rw [show FD cols.length q (tabO q cols) (tabO q oc) im = match (badsTo (tabO q cols) (tabO q oc) im cols.length q).head? with
            | some (a, k) => PyData.tuple [.str "letter", ni a, ni (k + 1)]
            | none => PyData.none by unfold FD; exact if_neg (by simpa using hf0)]
        refine vss_one <| vs_set 23 <| ve_ifExp <| vt_cmp <| ve_name 24 rfl <| ve_list <| ves_nil ⟨[], rfl, sz rfl, fun p4 => ?_⟩
        cases hbb : badsTo (tabO q cols) (tabO q oc) im cols.length q with
        | nil =>
          refine ne_p hr.u (.rf 24 rfl) (.nd p4 []) rfl rfl (Nat.le_of_ble_eq_true rfl) ⟨_, rfl, ?_⟩
          rw [eqv_nilL, if_neg (by simp)]
          refine ve_non ⟨_, _, .own _, _, _, rfl⟩
        | cons p0 pr =>
          have hpl : ∀ y ∈ ((p0 :: pr).map fun p => PyData.tuple [.str "letter", ni p.1, ni (p.2 + 1)]), y.plain = true ∧ y.depth ≤ 1 := fun y hy => by
            obtain ⟨p', _, rfl⟩ := List.mem_map.mp hy
            exact ⟨rfl, Nat.le_refl _⟩
          refine ne_p hr.u (.rf 24 rfl) (.nd p4 []) (plain_list fun y hy => (hpl y hy).1) rfl (Nat.le_trans (depth_list (d := 1) fun y hy => (hpl y hy).2) (by omega)) ⟨_, rfl, ?_⟩
          rw [eqv_nilL, if_pos (by simp)]
          refine ve_sub <| ve_name 24 rfl <| ve_int <| ix_d (.rf 24 rfl) (atI_nat (j := 0) rfl) ⟨_, _, .own _, _, _, rfl⟩
    · rintro e ⟨o24, o25, rfl⟩
      have nfv : Nice 1 200 (FV cols.length q (tabO q cols) (tabO q oc) v) := nice_FV (by omega) (by omega)
      show VSs _ _ _ _
      refine vss_one ?_
      refine vs_if <| vt_cmp ?_
      refine ve_repr (d := 1) (W := 200) hr ?_
      refine ve_callF C10 hr <| ves_cons <| ve_name 6 rfl <| ves_cons <| ve_name 20 rfl <| ves_cons <| ve_tuple <| ves_cons <| ve_str <| ves_cons <| ve_name 22 rfl <| ves_nil ⟨[.str "fold", v], rfl, sz rfl, ?_⟩
      refine ves_nil ⟨[tD (tabO q cols), tD (tabO q oc), .tuple [.str "fold", v]], _, rfl, ⟨_, _, _, _, v, rfl, two, by omega, by omega, rfl⟩, ?_⟩
      refine ⟨_, .d _, nfv, by omega, by omega, ?_⟩
      refine ve_repr hr <| ve_name 23 rfl ⟨_, .d _, nfv, by omega, by omega, ?_⟩
      refine ne_s ⟨_, rfl, ?_⟩
      rw [decide_eq_true rfl, if_neg (show ¬ (!true) = true from Bool.false_ne_true)]
      exact vss_nil ⟨_, _, _, _, rfl⟩
  · rintro e ⟨o22, o23, o24, o25, rfl⟩
    exact vss_one <| vs_ret <| ve_bl ⟨_, _, .own _, hret _ rfl⟩
end
end K54

/-! text B13 -/
set_option Elab.async false
set_option linter.all false
set_option maxRecDepth 100000
set_option maxHeartbeats 8000000
set_option pp.maxSteps 250
namespace K54
open PySem PySem.Spec L2 VL PM
section
variable {P : Program} {w : World} {K : PySem.W.Frag} {mg : Str → Option Value} {base : Heap} {f : Addr} {fd : FuncData}

theorem lawC {cdv : Value} {A : Around} {outer : List PySem.Env} {s : Shared} {H : Hp} (hr : RG 4 (cxOf CX0 P w K mg base ["script", "source", "relators", "turns", "q", "called", "table", "words", "telling", "k", "a", "b", "rows", "exchanged", "doubled", "great", "values", "value", "shown", "late", "other", "wrong", "fold", "due", "bad", "x", "j", "turn", "row"] "law" (defScope (top 24)) f cdv A outer s H E0).nox.A) (hN : (cxOf CX0 P w K mg base ["script", "source", "relators", "turns", "q", "called", "table", "words", "telling", "k", "a", "b", "rows", "exchanged", "doubled", "great", "values", "value", "shown", "late", "other", "wrong", "fold", "due", "bad", "x", "j", "turn", "row"] "law" (defScope (top 24)) f cdv A outer s H E0).nox.N.Nodup) (C1 : DefV P w K mg base 4 "_law_source" spSource) (C2 : DefV P w K mg base 4 "_law_right" spRight) (C3 : DefV P w K mg base 4 "_law_turn" spTurn) (C4 : DefV P w K mg base 4 "_law_by" (spF pTimes)) (C5 : DefV P w K mg base 4 "_law_back" (spF pBack)) (C6 : DefV P w K mg base 4 "_law_word" spWord) (C7 : DefV P w K mg base 4 "_law_pick" spPick) (C8 : DefV P w K mg base 4 "judge_table" (spF pJudge)) (C9 : DefV P w K mg base 4 "_law_fault" (spF pFault)) (C10 : DefV P w K mg base 4 "judge_folding" (spF pJFold)) (m1 : mg "tuple" = none) (m2 : mg "range" = none) (m3 : mg "len" = none) (m4 : mg "list" = none) (m5 : mg "repr" = none) (m6 : mg "isinstance" = none) (m7 : mg "int" = none) (m8 : mg "bool" = none) (m9 : mg "min" = none) {ns : List Int} {p q0 : Addr} {cs : List Int} {l0 m0 t0 : Int} {rel words : List (List Int)} {cols : List (List Nat)} {q : Nat} (tel : Tel cols.length rel words) (hq0 : 12 ≤ q) (hq1 : q ≤ 60) (hc0 : 2 ≤ cols.length) (hc1 : cols.length ≤ 3) (hcl : ∀ c ∈ cols, c.length = q ∧ ∀ x ∈ c, x < q)
    {o5 : Option VL.T} (D : Dn) (hret : ∀ e : VL.Env, e.head? = some (some (.d (.list (ns.map .int)))) → D.rt (.d (.bool true)) e) : VSs (cxOf CX0 P w K mg base ["script", "source", "relators", "turns", "q", "called", "table", "words", "telling", "k", "a", "b", "rows", "exchanged", "doubled", "great", "values", "value", "shown", "late", "other", "wrong", "fold", "due", "bad", "x", "j", "turn", "row"] "law" (defScope (top 24)) f cdv A outer s H E0).nox ((defBody (top 24)).drop 8) [some (.d (.list (ns.map .int))), some (srcT p q0 cs l0 m0 t0), some (.d (wsD rel)), some (.d (colsT cols)), some (.d (ni q)), o5, some (.d (tD (tabO q cols))), some (.d (wsD words)), some (.d (telD cols.length rel words)), none, none, none, none, none, none, none, none, none, none, none, none, none, none, none, none, none, none, none, none] D := by
  have hTr := tabO_row hcl
  have hTl := tabO_len q cols
  have lTT : ((tabO q cols).map tn).length = q := by rw [List.length_map, hTl]
  conv => arg 2; whnf
  refine vss_cons ?_
  refine vs_par3 9 10 11 <| ves_cons <| ve_callL 1 C7 hr <| ves_cons <| ve_name 1 rfl <| ves_cons <| ve_c1 bb_len <| ve_name 3 rfl <| len_d (.dl _) ?_
  refine ves_nil ⟨p, _, _, [.d (.int (cols.map tn).length)], rfl, rfl, p, q0, cs, l0, m0, t0, _, rfl, by rw [List.length_map]; omega, fun cs l0 m0 t0 k hk0 => ⟨_, _, rfl, ?_⟩⟩
  have hk : k < cols.length := pick_lt (by rw [List.length_map]) (by omega) hk0
  refine ves_cons <| ve_bin <| ve_bin <| ve_name 4 rfl <| ve_int <| sub_i <| ve_callL 1 C7 hr <| ves_cons <| ve_name 1 rfl <| ves_cons <| ve_int <| ves_nil ⟨p, _, _, [.d (.int 3)], rfl, rfl, p, q0, cs, l0, m0, t0, _, rfl, by omega, fun cs l0 m0 t0 r hr0 => ⟨_, _, rfl, sub_i ?_⟩⟩
  have hr1 : r < 3 := pick_lt rfl (by omega) hr0
  obtain ⟨a, ha⟩ : ∃ a : Nat, a = q - 1 - r := ⟨_, rfl⟩
  rw [show ((q : Nat) : Int) - 1 - (r : Int) = (a : Int) by omega]
  have ha1 : a < q := by omega
  refine ves_cons <| ve_callL 1 C7 hr <| ves_cons <| ve_name 1 rfl <| ves_cons <| ve_name 4 rfl <| ves_nil ⟨p, _, _, [.d (ni q)], rfl, rfl, p, q0, cs, l0, m0, t0, _, rfl, by omega, fun cs l0 m0 t0 b hb0 => ⟨_, _, rfl, ?_⟩⟩
  have hb : b < q := pick_lt rfl (by omega) hb0
  refine ves_nil ⟨_, _, _, rfl, ?_⟩
  refine vss_cons ?_
  refine vs_lc 12 [("row", 28)] (vi_tup <| ve_name 6 rfl ⟨_, rfl, ?_⟩)
  refine ⟨fun i acc e => ∃ rows : List (Addr × List PyData), acc = lls rows ∧ rows.length = i ∧ i ≤ q ∧ (∀ r ∈ rows, r.2.length = cols.length ∧ ∀ x ∈ r.2, Nice 0 40 x) ∧ e = [some (.d (.list (ns.map .int))), some (srcT p q0 cs l0 m0 t0), some (.d (wsD rel)), some (.d (colsT cols)), some (.d (ni q)), o5, some (.d (tD (tabO q cols))), some (.d (wsD words)), some (.d (telD cols.length rel words)), some (.d (ni k)), some (.d (ni a)), some (.d (ni b)), none, none, none, none, none, none, none, none, none, none, none, none, none, none, none, none, none], ⟨[], rfl, rfl, Nat.zero_le _, by simp, rfl⟩, ?_, ?_, ?_⟩
  · rintro i acc e ⟨rows, rfl, hi, hiq, hrw, rfl⟩
    refine ⟨trivial, fun _ => ?_⟩
    rw [show (lls rows).length = rows.length by unfold lls; rw [List.length_map], sizeLine_eq]
    omega
  · rintro i x acc e hx ⟨rows, rfl, hi, hiq, hrw, rfl⟩ p1
    rw [List.getElem?_map] at hx
    cases ex : ((tabO q cols).map tn)[i]? with
    | none => rw [ex] at hx; cases hx
    | some dd1 =>
    rw [ex] at hx
    cases hx
    have hi2 := (List.getElem?_eq_some_iff.mp ex).1
    obtain ⟨rr, hrr, rfl⟩ := rows_get ex
    obtain ⟨h1, h2⟩ := hTr rr (List.mem_of_getElem? hrr)
    refine vg_name 28 fun p2 => vts_nil ?_
    rw [if_pos rfl]
    refine fun p3 => ve_t1 bb_list <| ve_name 28 rfl <| list_d (.dt _) fun pr => ⟨_, _, .own _, rows ++ [(pr, rr.map ni)], ?_, by rw [List.length_append, hi]; rfl, by omega, fun r hr => ?_, rfl⟩
    · unfold lls
      rw [List.map_append]
      rfl
    · rcases List.mem_append.mp hr with h | h
      · exact hrw r h
      · have : r = (pr, rr.map ni) := by simpa using h
        subst this
        refine ⟨by rw [List.length_map, h1], fun x hx => ?_⟩
        obtain ⟨n, hn, rfl⟩ := List.mem_map.mp hx
        have := h2 n hn
        exact nice_ni (by omega)
  rintro acc e ⟨rows, rfl, hl, _, hrw, rfl⟩ pr
  rw [List.length_map, lTT] at hl
  refine ⟨_, _, .own _, ?_⟩
  have rowof : ∀ (rows : List (Addr × List PyData)) (j : Nat), rows.length = q → (∀ r ∈ rows, r.2.length = cols.length ∧ ∀ x ∈ r.2, Nice 0 40 x) → j < q → ∃ r, rows[j]? = some r ∧ (lls rows)[j]? = some (ls r.1 r.2) ∧ r.2.length = cols.length ∧ ∃ y, r.2[k]? = some y ∧ Nice 0 40 y := fun rows j hl hrw hj => by
    have e : rows[j]? = some (rows[j]'(by omega)) := List.getElem?_eq_getElem _
    obtain ⟨h1, h2⟩ := hrw _ (List.mem_of_getElem? e)
    refine ⟨_, e, by unfold lls; rw [List.getElem?_map, e]; rfl, h1, _, List.getElem?_eq_getElem (by omega), h2 _ (List.getElem_mem _)⟩
  have setok : ∀ (rows : List (Addr × List PyData)) (j : Nat) (r : Addr × List PyData) (y : PyData), (∀ r ∈ rows, r.2.length = cols.length ∧ ∀ x ∈ r.2, Nice 0 40 x) → r ∈ rows → Nice 0 40 y → ∀ r' ∈ rows.set j (r.1, r.2.set k y), r'.2.length = cols.length ∧ ∀ x ∈ r'.2, Nice 0 40 x := fun rows j r y hrw hr hy r' hr' => by
    rcases List.mem_or_eq_of_mem_set hr' with h | rfl
    · exact hrw _ h
    · refine ⟨by rw [List.length_set]; exact (hrw r hr).1, fun x hx => ?_⟩
      rcases List.mem_or_eq_of_mem_set hx with h | rfl
      · exact (hrw r hr).2 _ h
      · exact hy
  have llset : ∀ (rows : List (Addr × List PyData)) (j : Nat) (r : Addr × List PyData) (xs : List PyData), (lls rows).set j (ls r.1 xs) = lls (rows.set j (r.1, xs)) := fun rows j r xs => by
    unfold lls
    rw [List.map_set]
  obtain ⟨xa, hxa, hla, hma, ya, hya, nya⟩ := rowof rows a hl hrw ha1
  obtain ⟨xb, hxb, hlb, hmb, yb, hyb, nyb⟩ := rowof rows b hl hrw hb
  refine vss_cons ?_
  refine vs_asg [] ?_
  refine ve_tuple ?_
  refine ves_cons <| ve_sub <| ve_sub <| ve_name 12 rfl <| ve_name 11 rfl ?_
  refine ix_kid 12 rfl hlb ?_
  refine ve_name 9 rfl ?_
  refine ix_kidD (VL.Loc.kid 12 b rfl hlb) (atI_nat hyb) ?_
  refine ves_cons <| ve_sub <| ve_sub <| ve_name 12 rfl <| ve_name 10 rfl ?_
  refine ix_kid 12 rfl hla ?_
  refine ve_name 9 rfl ?_
  refine ix_kidD (VL.Loc.kid 12 a rfl hla) (atI_nat hya) ?_
  refine ves_nil ⟨[yb, ya], rfl, sz rfl, _, _, .own _, vg_row <| vg_pair ?_⟩
  refine vg_subL ?_
  refine ve_sub <| ve_name 12 rfl <| ve_name 10 rfl ?_
  refine ix_kid 12 rfl hla ?_
  refine ve_name 9 rfl ⟨xa.1, xa.2, _, _, k, rfl, rfl, VL.Loc.kid 12 a rfl hla, ixN_nat (by omega), ?_⟩
  rw [llset rows a xa]
  have hl2 : (rows.set a (xa.1, xa.2.set k yb)).length = q := by rw [List.length_set, hl]
  have hrw2 := setok rows a xa yb hrw (List.mem_of_getElem? hxa) nyb
  obtain ⟨rows2, er2⟩ : ∃ r, r = rows.set a (xa.1, xa.2.set k yb) := ⟨_, rfl⟩
  rw [← er2] at hl2 hrw2 ⊢
  obtain ⟨xc, hxc, hlc, hmc, yc, hyc, nyc⟩ := rowof rows2 b hl2 hrw2 hb
  refine vg_subL ?_
  refine ve_sub <| ve_name 12 rfl <| ve_name 11 rfl ?_
  refine ix_kid 12 rfl hlc ?_
  refine ve_name 9 rfl ⟨xc.1, xc.2, _, _, k, rfl, rfl, VL.Loc.kid 12 b rfl hlc, ixN_nat (by omega), ?_⟩
  rw [llset rows2 b xc]
  have hl3 : (rows2.set b (xc.1, xc.2.set k ya)).length = q := by rw [List.length_set, hl2]
  have hrw3 := setok rows2 b xc ya hrw2 (List.mem_of_getElem? hxc) nya
  obtain ⟨rows3, er3⟩ : ∃ r, r = rows2.set b (xc.1, xc.2.set k ya) := ⟨_, rfl⟩
  rw [← er3] at hl3 hrw3 ⊢
  have hR : ∀ X sts D, VSs X sts [some (.d (.list (ns.map .int))), some (srcT p q0 cs l0 m0 t0), some (.d (wsD rel)), some (.d (colsT cols)), some (.d (ni q)), o5, some (.d (tD (tabO q cols))), some (.d (wsD words)), some (.d (telD cols.length rel words)), some (.d (ni k)), some (.d (ni a)), some (.d (ni b)), some (.d (.list (rows3.map fun r => .list r.2))), none, none, none, none, none, none, none, none, none, none, none, none, none, none, none, none] D → VSs X sts [some (.d (.list (ns.map .int))), some (srcT p q0 cs l0 m0 t0), some (.d (wsD rel)), some (.d (colsT cols)), some (.d (ni q)), o5, some (.d (tD (tabO q cols))), some (.d (wsD words)), some (.d (telD cols.length rel words)), some (.d (ni k)), some (.d (ni a)), some (.d (ni b)), some (.nd pr .lst (lls rows3)), none, none, none, none, none, none, none, none, none, none, none, none, none, none, none, none] D := fun X sts D h => vss_stillR (rows := rows3) 12 rfl h
  refine hR _ _ _ ?_
  refine vss_cons ?_
  refine vs_set 13 ?_
  refine ve_t1 bb_tuple <| ve_lc [("row", 28)] (vi_list <| ve_name 12 rfl ⟨_, rfl, ?_⟩)
  refine lcq_l rows3 (fun r => .list r.2) (fun r => some (.tuple r.2)) [some (.d (.list (ns.map .int))), some (srcT p q0 cs l0 m0 t0), some (.d (wsD rel)), some (.d (colsT cols)), some (.d (ni q)), o5, some (.d (tD (tabO q cols))), some (.d (wsD words)), some (.d (telD cols.length rel words)), some (.d (ni k)), some (.d (ni a)), some (.d (ni b)), some (.d (.list (rows3.map fun r => .list r.2))), none, none, none, none, none, none, none, none, none, none, none, none, none, none, none, none] List.map_map rfl trivial (by rw [sizeLine_eq]; omega) ?_ ?_
  · intro i0 r hr1 p1
    refine vg_name 28 fun p2 => vts_nil ?_
    rw [if_pos rfl]
    exact fun p3 => ve_t1 bb_tuple <| ve_name 28 rfl <| tuple_d (.dl _) ⟨_, rfl, rfl, rfl⟩
  intro px
  refine tuple_d (.nd _ _) ?_
  rw [List.filterMap_eq_map']
  obtain ⟨vx, gvx, evx⟩ : ∃ v, Gv v ∧ v = PyData.tuple (rows3.map fun r => PyData.tuple r.2) := by
    refine ⟨_, gv_tup (by rw [List.length_map]; omega) fun x hx => ?_, rfl⟩
    obtain ⟨r, hr1, rfl⟩ := List.mem_map.mp hx
    obtain ⟨h1, h2⟩ := hrw3 r hr1
    exact rowx_tup (by omega) h2
  rw [← evx]
  refine ⟨_, _, .own _, ?_⟩
  obtain ⟨ra1, ra2, ra3⟩ := row_at (T := tabO q cols) hTl hTr ha1
  obtain ⟨rb1, rb2, rb3⟩ := row_at (T := tabO q cols) hTl hTr hb
  obtain ⟨eb, lb⟩ := rb2 k hk
  have hbk : (((tabO q cols).getD b []).map ni)[k]? = some (ni (ent (tabO q cols) b k)) := by rw [List.getElem?_map, eb]; rfl
  have nvd : Nice 0 40 (ni (ent (tabO q cols) b k)) := nice_ni (by omega)
  have nvg : Nice 0 40 (ni q) := nice_ni (by omega)
  have nrow : ∀ r ∈ tabO q cols, ∀ x ∈ r.map ni, Nice 0 40 x := fun r hr1 x hx => by
    obtain ⟨n, hn, rfl⟩ := List.mem_map.mp hx
    have := (hTr r hr1).2 n hn
    exact nice_ni (by omega)
  have mra : (tabO q cols).getD a [] ∈ tabO q cols := by rw [List.getD, List.getElem?_eq_getElem (by omega)]; exact List.getElem_mem _
  have nra := nrow _ mra
  have rT : ∀ x ∈ ((tabO q cols).map tn), Nice 1 170 x := fun x hx => by
    obtain ⟨r, hr1, rfl⟩ := List.mem_map.mp hx
    exact rowx_tup (by rw [List.length_map, (hTr r hr1).1]; omega) (nrow r hr1)
  have lch : ∀ x : PyData, (((tabO q cols).map tn).take a ++ [x] ++ ((tabO q cols).map tn).drop (a + 1)).length = q := fun x => by
    rw [List.length_append, List.length_append, List.length_take, List.length_drop, lTT]
    show min a q + 1 + _ = q
    omega
  have lck : ∀ x : PyData, ((((tabO q cols).getD a []).map ni).take k ++ [x] ++ (((tabO q cols).getD a []).map ni).drop (k + 1)).length = cols.length := fun x => by
    rw [List.length_append, List.length_append, List.length_take, List.length_drop, List.length_map, ra3]
    show min k _ + 1 + _ = _
    omega
  refine vss_cons ?_
  refine vs_set 14 ?_
  refine ve_bin <| ve_bin <| ve_slice <| ve_name 6 rfl <| vo_none <| vo_some <| ve_name 10 rfl ⟨_, rfl, sl_t ?_⟩
  rw [cutL_to]
  refine ve_tuple <| ves_cons ?_
  refine ve_bin <| ve_bin <| ve_slice <| ve_sub <| ve_name 6 rfl <| ve_name 10 rfl ?_
  refine ix_d (.dt _) (atI_nat ra1) <| vo_none <| vo_some <| ve_name 9 rfl ⟨_, rfl, sl_t ?_⟩
  rw [cutL_to]
  refine ve_tuple <| ves_cons <| ve_sub <| ve_sub <| ve_name 6 rfl <| ve_name 11 rfl <| ix_d (.dt _) (atI_nat rb1) <| ve_name 9 rfl <| ix_d (.dt _) (atI_nat hbk) <| ves_nil ⟨[ni (ent (tabO q cols) b k)], rfl, sz rfl, add_t ?_ ?_⟩
  · rw [List.length_take, List.length_map, ra3, sizeLine_eq]
    show _ + 1 ≤ _
    omega
  refine ve_slice <| ve_sub <| ve_name 6 rfl <| ve_name 10 rfl ?_
  refine ix_d (.dt _) (atI_nat ra1) <| vo_some <| ve_bin <| ve_name 9 rfl <| ve_int <| add_i ⟨_, rfl, vo_none <| sl_t ?_⟩
  rw [show ((k : Nat) : Int) + 1 = ((k + 1 : Nat) : Int) by push_cast; rfl, cutL_from]
  refine add_t (by rw [← List.length_append, lck _, sizeLine_eq]; omega) ?_
  refine ves_nil ⟨[.tuple (((((tabO q cols).getD a []).map ni).take k ++ [ni (ent (tabO q cols) b k)]) ++ (((tabO q cols).getD a []).map ni).drop (k + 1))], rfl, sz rfl, add_t (by rw [List.length_take, lTT, sizeLine_eq]; show _ + 1 ≤ _; omega) ?_⟩
  refine ve_slice <| ve_name 6 rfl <| vo_some <| ve_bin <| ve_name 10 rfl <| ve_int <| add_i ⟨_, rfl, vo_none <| sl_t ?_⟩
  rw [show ((a : Nat) : Int) + 1 = ((a + 1 : Nat) : Int) by push_cast; rfl, cutL_from]
  refine add_t (by rw [← List.length_append, lch _ , sizeLine_eq]; omega) ?_
  obtain ⟨vd, gvd, evd⟩ : ∃ v, Gv v ∧ v = PyData.tuple ((((tabO q cols).map tn).take a ++ [PyData.tuple (((((tabO q cols).getD a []).map ni).take k ++ [ni (ent (tabO q cols) b k)]) ++ (((tabO q cols).getD a []).map ni).drop (k + 1))]) ++ ((tabO q cols).map tn).drop (a + 1)) := by
    refine ⟨_, gv_tup (by rw [lch]; omega) (ents_app (ents_app (ents_take rT _) (ents_one (rowx_tup (by rw [lck]; omega) ?_))) (ents_drop rT _)), rfl⟩
    exact ents_app (ents_app (ents_take nra _) (ents_one nvd)) (ents_drop nra _)
  rw [← evd]
  refine ⟨_, _, .own _, ?_⟩
  refine vss_cons ?_
  refine vs_set 15 ?_
  refine ve_bin <| ve_bin <| ve_slice <| ve_name 6 rfl <| vo_none <| vo_some <| ve_name 10 rfl ⟨_, rfl, sl_t ?_⟩
  rw [cutL_to]
  refine ve_tuple <| ves_cons ?_
  refine ve_bin <| ve_bin <| ve_slice <| ve_sub <| ve_name 6 rfl <| ve_name 10 rfl ?_
  refine ix_d (.dt _) (atI_nat ra1) <| vo_none <| vo_some <| ve_name 9 rfl ⟨_, rfl, sl_t ?_⟩
  rw [cutL_to]
  refine ve_tuple <| ves_cons <| ve_name 4 rfl <| ves_nil ⟨[ni q], rfl, sz rfl, add_t ?_ ?_⟩
  · rw [List.length_take, List.length_map, ra3, sizeLine_eq]
    show _ + 1 ≤ _
    omega
  refine ve_slice <| ve_sub <| ve_name 6 rfl <| ve_name 10 rfl ?_
  refine ix_d (.dt _) (atI_nat ra1) <| vo_some <| ve_bin <| ve_name 9 rfl <| ve_int <| add_i ⟨_, rfl, vo_none <| sl_t ?_⟩
  rw [show ((k : Nat) : Int) + 1 = ((k + 1 : Nat) : Int) by push_cast; rfl, cutL_from]
  refine add_t (by rw [← List.length_append, lck _, sizeLine_eq]; omega) ?_
  refine ves_nil ⟨[.tuple (((((tabO q cols).getD a []).map ni).take k ++ [ni q]) ++ (((tabO q cols).getD a []).map ni).drop (k + 1))], rfl, sz rfl, add_t (by rw [List.length_take, lTT, sizeLine_eq]; show _ + 1 ≤ _; omega) ?_⟩
  refine ve_slice <| ve_name 6 rfl <| vo_some <| ve_bin <| ve_name 10 rfl <| ve_int <| add_i ⟨_, rfl, vo_none <| sl_t ?_⟩
  rw [show ((a : Nat) : Int) + 1 = ((a + 1 : Nat) : Int) by push_cast; rfl, cutL_from]
  refine add_t (by rw [← List.length_append, lch _ , sizeLine_eq]; omega) ?_
  obtain ⟨vg, gvg, evg⟩ : ∃ v, Gv v ∧ v = PyData.tuple ((((tabO q cols).map tn).take a ++ [PyData.tuple (((((tabO q cols).getD a []).map ni).take k ++ [ni q]) ++ (((tabO q cols).getD a []).map ni).drop (k + 1))]) ++ ((tabO q cols).map tn).drop (a + 1)) := by
    refine ⟨_, gv_tup (by rw [lch]; omega) (ents_app (ents_app (ents_take rT _) (ents_one (rowx_tup (by rw [lck]; omega) ?_))) (ents_drop rT _)), rfl⟩
    exact ents_app (ents_app (ents_take nra _) (ents_one nvg)) (ents_drop nra _)
  rw [← evg]
  refine ⟨_, _, .own _, ?_⟩
  refine vss_cons ?_
  have gT : Gv (tD (tabO q cols)) := gv_tup (by omega) rT
  refine vs_set 16 ?_
  refine ve_listP (Pd := Gv) ?_ (Nat.le_of_ble_eq_true rfl) fun vs hvs hvl pv => ?_
  · refine .cons ?_ <| .cons ?_ <| .cons ?_ <| .cons ?_ <| .cons ?_ <| .cons ?_ <| .cons ?_ <| .cons ?_ .nil
    · exact ve_name 6 rfl ⟨_, rfl, gT, rfl⟩
    · exact ve_name 13 rfl ⟨_, rfl, gvx, rfl⟩
    · exact ve_name 14 rfl ⟨_, rfl, gvd, rfl⟩
    · exact ve_name 15 rfl ⟨_, rfl, gvg, rfl⟩
    · exact ve_slice <| ve_name 6 rfl <| vo_none <| vo_some <| ve_un <| ve_int <| neg_i ⟨_, rfl, sl_t ⟨_, rfl, gv_tup (Nat.le_trans (cutL_len _ _ _) (by omega)) (ents_cut rT), rfl⟩⟩
    · refine ve_bin <| ve_name 6 rfl <| ve_slice <| ve_name 6 rfl <| vo_some <| ve_un <| ve_int <| neg_i ⟨_, rfl, vo_none <| sl_t ?_⟩
      have := cutL_last ((tabO q cols).map tn)
      exact add_t (by rw [sizeLine_eq]; omega) ⟨_, rfl, gv_tup (by rw [List.length_append]; omega) (ents_app rT (ents_cut rT)), rfl⟩
    · exact ve_still <| ve_t1 bb_list <| ve_name 6 rfl <| list_d (.dt _) fun pl => ⟨pl, _, rfl, _, rfl, gv_lst (by omega) rT, rfl⟩
    · refine ve_bin <| ve_bin <| ve_slice <| ve_name 6 rfl <| vo_none <| vo_some <| ve_name 10 rfl ⟨_, rfl, sl_t ?_⟩
      rw [cutL_to]
      refine ve_tuple <| ves_cons ?_
      refine ve_still <| ve_t1 bb_list <| ve_sub <| ve_name 6 rfl <| ve_name 10 rfl ?_
      refine ix_d (.dt _) (atI_nat ra1) <| list_d (.dt _) fun pl => ⟨pl, _, rfl, ?_⟩
      refine ves_nil ⟨[.list (((tabO q cols).getD a []).map ni)], rfl, sz rfl, add_t (by rw [List.length_take, lTT, sizeLine_eq]; show _ + 1 ≤ _; omega) ?_⟩
      refine ve_slice <| ve_name 6 rfl <| vo_some <| ve_bin <| ve_name 10 rfl <| ve_int <| add_i ⟨_, rfl, vo_none <| sl_t ?_⟩
      rw [show ((a : Nat) : Int) + 1 = ((a + 1 : Nat) : Int) by push_cast; rfl, cutL_from]
      refine add_t (by rw [← List.length_append, lch _ , sizeLine_eq]; omega) ?_
      exact ⟨_, rfl, gv_tup (by rw [lch]; omega) (ents_app (ents_app (ents_take rT _) (ents_one (rowx_lst (by rw [List.length_map, ra3]; omega) nra))) (ents_drop rT _)), rfl⟩
  refine ⟨_, _, .own _, ?_⟩
  have hvl : vs.length = 8 := hvl
  refine vss_cons ?_
  refine vs_set 16 <| ve_bin <| ve_name 16 rfl ?_
  refine ve_listP (Pd := Gv) ?_ (Nat.le_of_ble_eq_true rfl) fun vs2 hvs2 hvl2 pv2 => ?_
  · refine .cons ?_ <| .cons ?_ <| .cons ?_ .nil
    · exact ve_revT <| ve_name 6 rfl ⟨_, rfl, _, rfl, gv_tup (by rw [List.length_reverse]; omega) (fun x hx => rT x (List.mem_reverse.mp hx)), rfl⟩
    · refine ve_bin <| ve_bin <| ve_slice <| ve_name 6 rfl <| vo_none <| vo_some <| ve_name 10 rfl ⟨_, rfl, sl_t ?_⟩
      rw [cutL_to]
      refine ve_tuple <| ves_cons ?_
      refine ve_slice <| ve_sub <| ve_name 6 rfl <| ve_name 10 rfl ?_
      refine ix_d (.dt _) (atI_nat ra1) <| vo_none <| vo_some <| ve_un <| ve_int <| neg_i ⟨_, rfl, sl_t ?_⟩
      refine ves_nil ⟨[.tuple (cutL (((tabO q cols).getD a []).map ni) none (some (-1)))], rfl, sz rfl, add_t (by rw [List.length_take, lTT, sizeLine_eq]; show _ + 1 ≤ _; omega) ?_⟩
      refine ve_slice <| ve_name 6 rfl <| vo_some <| ve_bin <| ve_name 10 rfl <| ve_int <| add_i ⟨_, rfl, vo_none <| sl_t ?_⟩
      rw [show ((a : Nat) : Int) + 1 = ((a + 1 : Nat) : Int) by push_cast; rfl, cutL_from]
      refine add_t (by rw [← List.length_append, lch _ , sizeLine_eq]; omega) ?_
      exact ⟨_, rfl, gv_tup (by rw [lch]; omega) (ents_app (ents_app (ents_take rT _) (ents_one (rowx_tup (Nat.le_trans (cutL_len _ _ _) (by rw [List.length_map, ra3]; omega)) (ents_cut nra)))) (ents_drop rT _)), rfl⟩
    · refine ve_bin <| ve_bin <| ve_slice <| ve_name 6 rfl <| vo_none <| vo_some <| ve_name 10 rfl ⟨_, rfl, sl_t ?_⟩
      rw [cutL_to]
      refine ve_tuple <| ves_cons ?_
      refine ve_bin <| ve_tuple <| ves_cons <| ve_bl <| ves_nil ⟨[.bool true], rfl, sz rfl, ?_⟩
      refine ve_slice <| ve_sub <| ve_name 6 rfl <| ve_name 10 rfl ?_
      refine ix_d (.dt _) (atI_nat ra1) <| vo_some <| ve_int ⟨_, rfl, vo_none <| sl_t ?_⟩
      have lcc := cutL_len (((tabO q cols).getD a []).map ni) (some 1) none
      rw [List.length_map, ra3] at lcc
      refine add_t (by rw [sizeLine_eq]; show 1 + _ ≤ _; omega) ?_
      refine ves_nil ⟨[.tuple ([.bool true] ++ cutL (((tabO q cols).getD a []).map ni) (some 1) none)], rfl, sz rfl, add_t (by rw [List.length_take, lTT, sizeLine_eq]; show _ + 1 ≤ _; omega) ?_⟩
      refine ve_slice <| ve_name 6 rfl <| vo_some <| ve_bin <| ve_name 10 rfl <| ve_int <| add_i ⟨_, rfl, vo_none <| sl_t ?_⟩
      rw [show ((a : Nat) : Int) + 1 = ((a + 1 : Nat) : Int) by push_cast; rfl, cutL_from]
      refine add_t (by rw [← List.length_append, lch _ , sizeLine_eq]; omega) ?_
      exact ⟨_, rfl, gv_tup (by rw [lch]; omega) (ents_app (ents_app (ents_take rT _) (ents_one (rowx_tup (by rw [List.length_append]; show 1 + _ ≤ 4; omega) (ents_app (ents_one (Nice.bool true)) (ents_cut nra))))) (ents_drop rT _)), rfl⟩
  have hvl2 : vs2.length = 3 := hvl2
  refine add_l (.rf 16 rfl) (.nd pv2 _) (by rw [sizeLine_eq]; omega) fun pv3 => ?_
  have hvv : ∀ v ∈ vs ++ vs2, Gv v := ents_app hvs hvs2
  obtain ⟨vv, evv⟩ : ∃ vv, vv = vs ++ vs2 := ⟨_, rfl⟩
  rw [← evv] at hvv ⊢
  refine ⟨_, _, .own _, ?_⟩
  have h16 : ∀ X sts D, VSs X sts [some (.d (.list (ns.map .int))), some (srcT p q0 cs l0 m0 t0), some (.d (wsD rel)), some (.d (colsT cols)), some (.d (ni q)), o5, some (.d (tD (tabO q cols))), some (.d (wsD words)), some (.d (telD cols.length rel words)), some (.d (ni k)), some (.d (ni a)), some (.d (ni b)), some (.d (.list (rows3.map fun r => .list r.2))), some (.d (vx)), some (.d (vd)), some (.d (vg)), some (.d (.list vv)), none, none, none, none, none, none, none, none, none, none, none, none] D → VSs X sts [some (.d (.list (ns.map .int))), some (srcT p q0 cs l0 m0 t0), some (.d (wsD rel)), some (.d (colsT cols)), some (.d (ni q)), o5, some (.d (tD (tabO q cols))), some (.d (wsD words)), some (.d (telD cols.length rel words)), some (.d (ni k)), some (.d (ni a)), some (.d (ni b)), some (.d (.list (rows3.map fun r => .list r.2))), some (.d (vx)), some (.d (vd)), some (.d (vg)), some (ls pv3 vv), none, none, none, none, none, none, none, none, none, none, none, none] D := fun X sts D h => @vss_still X _ D sts _ _ 16 rfl h
  refine h16 _ _ _ ?_
  refine vss_cons ?_
  refine vs_for [17] (vi_list <| ve_name 16 rfl ⟨_, rfl, fun _ e => ∃ o17 o18, e = [some (.d (.list (ns.map .int))), some (srcT p q0 cs l0 m0 t0), some (.d (wsD rel)), some (.d (colsT cols)), some (.d (ni q)), o5, some (.d (tD (tabO q cols))), some (.d (wsD words)), some (.d (telD cols.length rel words)), some (.d (ni k)), some (.d (ni a)), some (.d (ni b)), some (.d (.list (rows3.map fun r => .list r.2))), some (.d (vx)), some (.d (vd)), some (.d (vg)), some (.d (.list vv)), o17, o18, none, none, none, none, none, none, none, none, none, none], ⟨none, none, rfl⟩, fun _ _ _ => trivial, ?_, ?_⟩)
  · rintro i0 x0 e hx0 ⟨o17, o18, rfl⟩
    rw [List.getElem?_map] at hx0
    cases ex : vv[i0]? with
    | none => rw [ex] at hx0; cases hx0
    | some v =>
    rw [ex] at hx0
    cases hx0
    have gv := hvv v (List.mem_of_getElem? ex)
    have nj : Nice 1 200 (JV cols.length rel words v) := nice_JV tel gv
    refine vg_name 17 ?_
    refine vss_cons ?_
    refine vs_set 18 ?_
    refine ve_repr (d := 2) (W := 11000) hr ?_
    refine ve_name 17 rfl ⟨_, .d _, gv.n, by omega, by omega, _, _, .own _, ?_⟩
    refine vss_one ?_
    refine vs_if <| vt_w <| vw_or <| vt_cmp ?_
    refine ve_repr (d := 1) (W := 200) hr ?_
    refine ve_callF C8 hr <| ves_cons <| ve_name 8 rfl <| ves_cons <| ve_name 17 rfl <| ves_nil ⟨[telD cols.length rel words, v], _, rfl, ⟨_, rel, words, v, rfl, tel, gv.n.p, Nat.le_trans gv.n.d (by omega), fun ys e => Nat.le_trans (gv.l ys e) (by omega), rfl⟩, ?_⟩
    refine ⟨_, .d _, nj, by omega, by omega, ?_⟩
    refine ve_repr (d := 1) (W := 200) hr ?_
    refine ve_callF C9 hr <| ves_cons <| ve_name 8 rfl <| ves_cons <| ve_name 17 rfl <| ves_nil ⟨[telD cols.length rel words, v], _, rfl, ⟨_, rel, words, v, rfl, tel, gv.n.p, Nat.le_trans gv.n.d (by omega), gv.l, rfl⟩, ?_⟩
    refine ⟨_, .d _, nj, by omega, by omega, ?_⟩
    refine ne_s ⟨_, rfl, ?_⟩
    rw [decide_eq_true rfl, if_neg (show ¬ (!true) = true from Bool.false_ne_true)]
    refine vw_or1 <| vt_cmp ?_
    refine ve_repr (d := 2) (W := 11000) hr ?_
    refine ve_name 17 rfl ⟨_, .d _, gv.n, by omega, by omega, ?_⟩
    refine ve_name 18 rfl <| ne_s ⟨_, rfl, ?_⟩
    rw [decide_eq_true rfl, if_neg (show ¬ (!true) = true from Bool.false_ne_true)]
    exact vss_nil ⟨_, _, rfl⟩
  · rintro e ⟨o17, o18, rfl⟩
    have tel0 : Tel cols.length [] [] := ⟨tel.mm, Nat.zero_le _, Nat.zero_le _, (by simp), (by simp)⟩
    refine vss_cons ?_
    refine vs_if <| vt_cmp ?_
    refine ve_callF C9 hr <| ves_cons <| ve_tuple <| ves_cons <| ve_c1 bb_len <| ve_name 3 rfl <| len_d (.dl _) ?_
    rw [List.length_map]
    refine ves_cons <| ve_tuple <| ves_nil ⟨[], rfl, sz rfl, ?_⟩
    refine ves_cons <| ve_tuple <| ves_nil ⟨[], rfl, sz rfl, ?_⟩
    refine ves_nil ⟨[ni cols.length, wsD [], wsD []], rfl, sz rfl, ?_⟩
    refine ves_cons <| ve_name 6 rfl <| ves_nil ⟨[telD cols.length [] [], tD (tabO q cols)], _, rfl, ⟨_, [], [], _, rfl, tel0, gT.n.p, Nat.le_trans gT.n.d (by omega), gT.l, rfl⟩, ?_⟩
    refine ve_non <| isnot_n ⟨_, rfl, ?_⟩
    cases hnn : isNone (JV cols.length [] [] (tD (tabO q cols))) with
    | false =>
      rw [if_pos (show (!false) = true from rfl)]
      exact vss_one <| vs_ret <| ve_bl ⟨_, _, .own _, hret _ rfl⟩
    | true =>
      rw [if_neg (show ¬ (!true) = true from Bool.false_ne_true)]
      exact vss_nil (lawD hr hN C1 C2 C3 C4 C5 C6 C7 C8 C9 C10 m1 m2 m3 m4 m5 m6 m7 m8 m9 hq0 hq1 hc0 hc1 hcl ha1 hb D hret)
end
end K54

/-! text B14 -/
set_option Elab.async false
set_option linter.all false
set_option maxRecDepth 100000
set_option maxHeartbeats 8000000
set_option pp.maxSteps 250
namespace K54
open PySem PySem.Spec L2 VL PM
section
variable {P : Program} {w : World} {K : PySem.W.Frag} {mg : Str → Option Value} {base : Heap} {f : Addr} {fd : FuncData}

theorem scLaw : FnScope ["script", "source", "relators", "turns", "q", "called", "table", "words", "telling", "k", "a", "b", "rows", "exchanged", "doubled", "great", "values", "value", "shown", "late", "other", "wrong", "fold", "due", "bad", "x", "j", "turn", "row"] ["script"] (defScope (top 24)) := ⟨rfl, rfl, rfl, by decide +kernel, rfl, by decide +kernel, by decide +kernel⟩
theorem ok_law (Fu : FnP K "law" (top 24) f fd) (C1 : DefV P w K mg base 4 "_law_source" spSource) (C2 : DefV P w K mg base 4 "_law_right" spRight) (C3 : DefV P w K mg base 4 "_law_turn" spTurn) (C4 : DefV P w K mg base 4 "_law_by" (spF pTimes)) (C5 : DefV P w K mg base 4 "_law_back" (spF pBack)) (C6 : DefV P w K mg base 4 "_law_word" spWord) (C7 : DefV P w K mg base 4 "_law_pick" spPick) (C8 : DefV P w K mg base 4 "judge_table" (spF pJudge)) (C9 : DefV P w K mg base 4 "_law_fault" (spF pFault)) (C10 : DefV P w K mg base 4 "judge_folding" (spF pJFold)) (m1 : mg "tuple" = none) (m2 : mg "range" = none) (m3 : mg "len" = none) (m4 : mg "list" = none) (m5 : mg "repr" = none) (m6 : mg "isinstance" = none) (m7 : mg "int" = none) (m8 : mg "bool" = none) (m9 : mg "min" = none) : FnV P w K mg base 5 f fd ["script"] spLaw := by
  refine FnV.of (fun_of Fu) scLaw (fun ts Q h => ?_) (fun X ts Q _ _ _ _ _ hN' _ _ _ _ hr h hX => ?_)
  · obtain ⟨ns, rfl, _⟩ := h
    rfl
  · have hN : X.N.Nodup := by rw [hN']; exact scLaw.nd
    obtain ⟨cdv, A, outer, s, H, rfl⟩ := hX
    obtain ⟨ns, rfl, hns, hQ⟩ := h
    refine vss_cons ?_
    refine vs_set 1 <| ve_call C1 hr <| ves_cons <| ve_name 0 rfl <| ves_nil ⟨[.d (.list (ns.map .int))], rfl, ns, rfl, hns, fun p q0 cs l0 m0 t0 => ⟨_, _, .own _, ?_⟩⟩
    refine vss_cons ?_
    refine vs_asg [2, 3, 4] <| ve_callL 1 C2 hr <| ves_cons <| ve_name 1 rfl <| ves_nil ⟨p, _, _, [], rfl, rfl, p, q0, cs, l0, m0, t0, rfl, fun cs l0 m0 t0 rel cols q rv => ⟨_, _, rfl, _, _, .own _, vg_row <| vg_tup (.cons (nmT 2) <| .cons (nmT 3) <| .cons (nmT 4) .nil) rfl ?_⟩⟩
    have hq0 := rv.n0
    have hq1 := rv.n1
    have hc0 := rv.c0
    have hc1 := rv.c1
    have hcl := rv.cl
    refine vss_cons ?_
    refine vs_mid (fun e => ∃ rel : List (List Int), rel.length ≤ 3 ∧ (∀ w ∈ rel, ∀ k ∈ w, okL 2 k) ∧ e = [some (.d (.list (ns.map .int))), some (srcT p q0 cs l0 m0 t0), some (.d (wsD rel)), some (.d (colsT cols)), some (.d (ni q)), none, none, none, none, none, none, none, none, none, none, none, none, none, none, none, none, none, none, none, none, none, none, none, none]) ?_ ?_
    · refine vs_set 2 <| ve_ifExp ?_
      refine vt_cmp <| ve_name 2 rfl ?_
      refine ve_tuple <| ves_cons ?_
      refine ve_tuple <| ves_cons <| ve_int <| ves_cons <| ve_int <| ves_nil ⟨[.int 1, .int 1], rfl, sz rfl, ?_⟩
      refine ves_cons <| ve_tuple <| ves_cons <| ve_int <| ves_cons <| ve_int <| ves_nil ⟨[.int 2, .int 2], rfl, sz rfl, ?_⟩
      refine ves_cons <| ve_tuple <| ves_cons <| ve_int <| ves_cons <| ve_int <| ves_cons <| ve_int <| ves_cons <| ve_int <| ves_nil ⟨[.int 1, .int 2, .int 1, .int 2], rfl, sz rfl, ?_⟩
      refine ves_nil ⟨[wD [1, 1], wD [2, 2], wD [1, 2, 1, 2]], rfl, sz rfl, ?_⟩
      have hp : ∀ x ∈ rel.map wD, x.plain = true ∧ x.depth ≤ 1 := fun x hx => by
        obtain ⟨u, _, rfl⟩ := List.mem_map.mp hx
        refine ⟨plain_tuple fun y hy => ?_, depth_tuple (d := 0) fun y hy => ?_⟩
        · obtain ⟨i, _, rfl⟩ := List.mem_map.mp hy
          rfl
        · obtain ⟨i, _, rfl⟩ := List.mem_map.mp hy
          exact Nat.le_refl _
      refine eq_p hr.u (.d _) (.d _) (plain_tuple fun x hx => (hp x hx).1) rfl (Nat.le_trans (depth_tuple (d := 1) fun x hx => (hp x hx).2) (by omega)) ⟨_, rfl, ?_⟩
      cases PyData.eqv (PyData.tuple (rel.map wD)) (PyData.tuple [wD [1, 1], wD [2, 2], wD [1, 2, 1, 2]]) with
      | false =>
        rw [if_neg Bool.false_ne_true]
        exact ve_name 2 rfl ⟨_, _, .own _, rel, rv.rl, fun w hw => (rv.rr w hw).2, rfl⟩
      | true =>
        rw [if_pos rfl]
        refine ve_tuple <| ves_cons ?_
        refine ve_tuple <| ves_cons <| ve_int <| ves_cons <| ve_int <| ves_nil ⟨[.int 1, .int 1], rfl, sz rfl, ?_⟩
        refine ves_cons <| ve_tuple <| ves_cons <| ve_int <| ves_cons <| ve_int <| ves_nil ⟨[.int 2, .int 2], rfl, sz rfl, ?_⟩
        refine ves_cons <| ve_bin <| ve_tuple <| ves_cons <| ve_int <| ves_cons <| ve_int <| ves_nil ⟨[.int 1, .int 2], rfl, sz rfl, ?_⟩
        refine ve_callB m9 bb_min (ves_cons <| ve_int <| ves_cons <| ve_name 4 rfl <| ves_nil <| min2_i rfl ?_)
        obtain ⟨kk, hkk, k1, k2⟩ : ∃ kk : Nat, (if ((q : Nat) : Int) < 20 then ((q : Nat) : Int) else 20) = (kk : Int) ∧ 2 ≤ kk ∧ kk ≤ 20 := by
          by_cases h : q < 20
          · exact ⟨q, by rw [if_pos (by omega)], by omega, by omega⟩
          · exact ⟨20, by rw [if_neg (by omega)]; rfl, by omega, by omega⟩
        rw [hkk]
        refine mul_t (by simp) (by omega) (by omega) (by simp) ?_
        rw [Int.toNat_natCast, rel_flat]
        refine ves_nil ⟨[wD [1, 1], wD [2, 2], wD (List.replicate kk [1, 2]).flatten], rfl, sz rfl, _, _, .own _, [[1, 1], [2, 2], (List.replicate kk [1, 2]).flatten], by simp, fun w hw => ?_, rfl⟩
        have hw' : w = [1, 1] ∨ w = [2, 2] ∨ w = (List.replicate kk [1, 2]).flatten := by simpa using hw
        rcases hw' with rfl | rfl | rfl
        · simp [okL]
        · simp [okL]
        · intro k hk
          obtain ⟨u, hu, hk2⟩ := List.mem_flatten.mp hk
          rw [List.eq_of_mem_replicate hu] at hk2
          have : k = 1 ∨ k = 2 := by simpa using hk2
          rcases this with rfl | rfl <;> exact ⟨by decide, by decide⟩
    rintro e ⟨rel, hrl, hrk, rfl⟩
    show VSs _ _ _ _
    refine vss_cons ?_
    refine vs_set 5 <| ve_callL 1 C3 hr <| ves_cons <| ve_name 1 rfl <| ves_cons <| ve_name 4 rfl <| ves_nil ⟨p, _, _, [.d (ni q)], rfl, rfl, p, q0, cs, l0, m0, t0, _, rfl, by omega, fun cs l0 m0 t0 z tz lz => ⟨_, _, rfl, _, _, .own _, ?_⟩⟩
    refine vss_cons ?_
    refine vs_set 3 ?_
    refine ve_lc [("turn", 27)] (vi_list <| ve_name 3 rfl ⟨_, rfl, ?_⟩)
    refine lcq_l cols tn (fun c => some (tn (cj z c))) [some (.d (.list (ns.map .int))), some (srcT p q0 cs l0 m0 t0), some (.d (wsD rel)), some (.d (colsT cols)), some (.d (ni q)), some (.d (tn z)), none, none, none, none, none, none, none, none, none, none, none, none, none, none, none, none, none, none, none, none, none, none, none] List.map_map rfl trivial (by rw [sizeLine_eq]; omega) ?_ ?_
    · intro i0 c hc p1
      obtain ⟨c1, c2⟩ := hcl c (List.mem_of_getElem? hc)
      have hbz : ∀ x ∈ bk z, x < c.length := fun x hx => by
        have := tz.bk_turn.lt x hx
        rw [bk_len] at this
        omega
      have htz : ∀ x ∈ tm (bk z) c, x < z.length := tm_mem hbz fun x hx => by rw [lz]; exact c2 x hx
      have hbl : (bk z).length = q := by rw [bk_len, lz]
      have htl : (tm (bk z) c).length = q := by rw [tm_len, hbl]
      refine vg_name 27 fun p2 => vts_nil ?_
      rw [if_pos rfl]
      intro p3
      refine ve_callF C4 hr ?_
      refine ves_cons <| ve_callF C4 hr ?_
      refine ves_cons <| ve_callF C5 hr <| ves_cons <| ve_name 5 rfl <| ves_nil ⟨[tn z], _, rfl, ⟨_, rfl, ⟨tz, by omega⟩, rfl⟩, ?_⟩
      refine ves_cons <| ve_name 27 rfl <| ves_nil ⟨[tn (bk z), tn c], _, rfl, ⟨_, _, rfl, by omega, hbz, rfl⟩, ?_⟩
      exact ves_cons <| ve_name 5 rfl <| ves_nil ⟨[tn (tm (bk z) c), tn z], _, rfl, ⟨_, _, rfl, by omega, htz, rfl⟩, _, rfl, rfl, rfl⟩
    intro po
    rw [List.filterMap_eq_map']
    refine ⟨_, _, .own _, ?_⟩
    have hoc : ∀ c ∈ cols.map (cj z), c.length = q ∧ ∀ x ∈ c, x < q := fun c hc => by
      obtain ⟨c0, hc0', rfl⟩ := List.mem_map.mp hc
      obtain ⟨c1, c2⟩ := hcl c0 hc0'
      refine ⟨by rw [cj_len, lz], fun x hx => ?_⟩
      have := cj_lt tz (by omega) (fun x hx => by rw [lz]; exact c2 x hx) x hx
      omega
    rw [show (cols.map fun c => tn (cj z c)) = (cols.map (cj z)).map tn by rw [List.map_map]; rfl]
    obtain ⟨oc, eoc⟩ : ∃ oc, oc = cols.map (cj z) := ⟨_, rfl⟩
    have hol : oc.length = cols.length := by rw [eoc, List.length_map]
    rw [← eoc] at hoc ⊢
    have h3 : ∀ X sts D, VSs X sts [some (.d (.list (ns.map .int))), some (srcT p q0 cs l0 m0 t0), some (.d (wsD rel)), some (.d (colsT oc)), some (.d (ni q)), some (.d (tn z)), none, none, none, none, none, none, none, none, none, none, none, none, none, none, none, none, none, none, none, none, none, none, none] D → VSs X sts [some (.d (.list (ns.map .int))), some (srcT p q0 cs l0 m0 t0), some (.d (wsD rel)), some (ls po (oc.map tn)), some (.d (ni q)), some (.d (tn z)), none, none, none, none, none, none, none, none, none, none, none, none, none, none, none, none, none, none, none, none, none, none, none] D := fun X sts D h => @vss_still X _ D sts _ _ 3 rfl h
    refine h3 _ _ _ ?_
    refine vss_cons ?_
    refine vs_set 6 ?_
    refine ve_t1 bb_tuple <| ve_lc [("x", 25)] (vi_range1 <| ve_name 4 rfl ⟨_, rfl, by omega, by omega, ?_⟩)
    refine lcq_l (List.range q) ni (fun x => some (tn (oc.map fun c => ap c x))) [some (.d (.list (ns.map .int))), some (srcT p q0 cs l0 m0 t0), some (.d (wsD rel)), some (.d (colsT oc)), some (.d (ni q)), some (.d (tn z)), none, none, none, none, none, none, none, none, none, none, none, none, none, none, none, none, none, none, none, none, none, none, none] (rng_n rfl) rfl trivial (by rw [sizeLine_eq, List.length_range]; omega) ?_ ?_
    · intro i0 x hx p1
      obtain ⟨hx, rfl⟩ := range_get' hx
      refine vg_name 25 fun p2 => vts_nil ?_
      rw [if_pos rfl]
      intro p3
      refine ve_t1 bb_tuple <| ve_lc [("turn", 27)] (vi_list <| ve_name 3 rfl ⟨_, rfl, ?_⟩)
      refine lcq_l oc tn (fun c => some (ni (ap c x))) [some (.d (.list (ns.map .int))), some (srcT p q0 cs l0 m0 t0), some (.d (wsD rel)), some (.d (colsT oc)), some (.d (ni q)), some (.d (tn z)), none, none, none, none, none, none, none, none, none, none, none, none, none, none, none, none, none, none, none, some (.d (ni x)), none, none, none] List.map_map rfl trivial (by rw [sizeLine_eq]; omega) ?_ ?_
      · intro i1 c hc p4
        obtain ⟨c1, c2⟩ := hoc c (List.mem_of_getElem? hc)
        refine vg_name 27 fun p5 => vts_nil ?_
        rw [if_pos rfl]
        exact fun p6 => ve_sub <| ve_name 27 rfl <| ve_name 25 rfl <| ix_d (.dt _) (at_ap (by omega)) ⟨_, rfl, rfl, rfl⟩
      · intro p7
        refine tuple_d (.nd _ _) ⟨_, rfl, ?_, rfl⟩
        rw [List.filterMap_eq_map', tn, List.map_map]
        rfl
    intro p8
    refine tuple_d (.nd _ _) ?_
    rw [List.filterMap_eq_map', show ((List.range q).map fun x => tn (oc.map fun c => ap c x)) = (tabO q oc).map tn by unfold tabO; rw [List.map_map]; rfl]
    refine ⟨_, _, .own _, ?_⟩
    refine vss_cons ?_
    refine vs_set 7 ?_
    refine ve_t1 bb_tuple <| ve_lc [("turn", 27)] (vi_range1 ?_)
    refine ve_callL 1 C7 hr <| ves_cons <| ve_name 1 rfl <| ves_cons <| ve_int <| ves_nil ⟨p, _, _, [.d (.int 3)], rfl, rfl, p, q0, cs, l0, m0, t0, _, rfl, by omega, fun cs l0 m0 t0 r0 hr0 => ⟨_, _, rfl, _, rfl, by omega, by omega, ?_⟩⟩
    have hr1 : r0 < 3 := pick_lt rfl (by omega) hr0
    refine ⟨fun i acc e => ∃ cs l0 m0 t0, ∃ ws : List (List Int), acc = (ws.map wD).map VL.T.d ∧ ws.length = i ∧ i ≤ r0 ∧ (∀ w ∈ ws, ∀ k ∈ w, okL oc.length k) ∧ e = [some (.d (.list (ns.map .int))), some (srcT p q0 cs l0 m0 t0), some (.d (wsD rel)), some (.d (colsT oc)), some (.d (ni q)), some (.d (tn z)), some (.d (tD (tabO q oc))), none, none, none, none, none, none, none, none, none, none, none, none, none, none, none, none, none, none, none, none, none, none], ⟨cs, l0, m0, t0, [], rfl, rfl, Nat.zero_le _, (by simp), rfl⟩, ?_, ?_, ?_⟩
    · rintro i acc e ⟨cs, l0, m0, t0, ws, rfl, hi, hir, hw, rfl⟩
      refine ⟨trivial, fun _ => ?_⟩
      rw [List.length_map, List.length_map, sizeLine_eq]
      omega
    · rintro i x acc e hx ⟨cs, l0, m0, t0, ws, rfl, hi, hir, hw, rfl⟩ p1
      obtain ⟨hi2, rfl⟩ := rng_get hx
      refine vg_name 27 fun p2 => vts_nil ?_
      rw [if_pos rfl]
      intro p3
      refine ve_callL 1 C6 hr <| ves_cons <| ve_name 1 rfl <| ves_cons <| ve_c1 bb_len <| ve_name 3 rfl <| len_d (.dl _) ?_
      rw [List.length_map]
      refine ves_cons <| ve_int <| ves_nil ⟨p, _, _, [.d (ni oc.length), .d (ni 4)], rfl, rfl, p, q0, cs, l0, m0, t0, oc.length, 4, rfl, by omega, by omega, by omega, fun cs l0 m0 t0 u hu _ => ⟨_, _, rfl, ?_⟩⟩
      refine ⟨_, _, .own _, cs, l0, m0, t0, ws ++ [u], ?_, by rw [List.length_append, hi]; rfl, by omega, fun w hw' => ?_, rfl⟩
      · rw [List.map_append, List.map_append]
        rfl
      · rcases List.mem_append.mp hw' with h | h
        · exact hw w h
        · have : w = u := by simpa using h
          rw [this]
          exact hu
    rintro acc e ⟨cs, l0, m0, t0, ws, rfl, hi, hir, hw, rfl⟩ p4
    refine tuple_d (.nd _ _) ⟨_, _, .own _, ?_⟩
    refine vss_cons ?_
    refine vs_set 8 <| ve_tuple <| ves_cons <| ve_c1 bb_len <| ve_name 3 rfl <| len_d (.dl _) ?_
    rw [List.length_map]
    refine ves_cons <| ve_name 2 rfl <| ves_cons <| ve_name 7 rfl <| ves_nil ⟨[ni oc.length, wsD rel, wsD ws], rfl, sz rfl, _, _, .own _, ?_⟩
    have tel : Tel oc.length rel ws := ⟨by omega, by omega, by omega, fun w hw k hk => by
      obtain ⟨h1, h2⟩ := hrk w hw k hk
      exact ⟨h1, by omega⟩, hw⟩
    refine lawC hr hN C1 C2 C3 C4 C5 C6 C7 C8 C9 C10 m1 m2 m3 m4 m5 m6 m7 m8 m9 tel hq0 hq1 (by omega) (by omega) hoc _ ?_
    rintro e he
    cases e with
    | nil => cases he
    | cons y ys =>
      have : y = some (.d (.list (ns.map .int))) := by simpa using he
      subst this
      exact ⟨_, ⟨_, rfl, rfl⟩, hQ⟩
end
end K54

/-! text B15 -/
set_option Elab.async false
set_option linter.all false
set_option maxRecDepth 100000
set_option maxHeartbeats 0
namespace K54
open PySem PySem.Spec PyProof.Rows L2 VL
def mk (x : String) (st : Stmt) : He.DefD := ⟨(x, none), x, x, defArgs st, defBody st, defScope st, [], []⟩
def fnl : List He.DefD := [mk "signed_letters" (top 1), mk "leads_of" (top 2), mk "gone_to" (top 3), mk "is_table_form" (top 4), mk "names_from_first" (top 5), mk "judge_table" (top 6), mk "is_named" (top 8), mk "fold_fault" (top 10), mk "judge_folding" (top 11), mk "_law_source" (top 13), mk "_law_pick" (top 14), mk "_law_of" (top 15), mk "_law_mixed" (top 16), mk "_law_by" (top 17), mk "_law_back" (top 18), mk "_law_turn" (top 19), mk "_law_word_turn" (top 20), mk "_law_word" (top 21), mk "_law_right" (top 22), mk "_law_fault" (top 23), mk "law" (top 24)]
def fal : List He.Fa := [.glo "signed_letters", .glo "leads_of", .glo "gone_to", .glo "is_table_form", .glo "names_from_first", .glo "judge_table", .glo "is_named", .glo "fold_fault", .glo "judge_folding", .glo "_law_source", .glo "_law_pick", .glo "_law_of", .glo "_law_mixed", .glo "_law_by", .glo "_law_back", .glo "_law_turn", .glo "_law_word_turn", .glo "_law_word", .glo "_law_right", .glo "_law_fault", .glo "law", .free "range", .free "enumerate", .free "isinstance", .free "tuple", .free "len", .free "all", .free "int", .free "bool", .free "str", .free "abs", .free "max", .free "list", .free "sorted", .free "dict", .free "repr", .free "min"]
abbrev RR : PySem.W.OpenRow := PySem.W.OpenLaw.row PySem.Challenge.rw_toldturns_k54_long_tables_judged
abbrev hk : PySem.W.Hook := He.hookD 4 fal fnl
def ob (s : PySem.W.SharedT) : He.AlD := He.obsDG 4 fal fnl (HandSHeadRun.getT s)
theorem ob_eq (s : PySem.W.SharedT) : ob s = hk.obs s.abs := He.obsDG_eq (HandSHeadRun.getT_eq s)
def loose : List PySem.Str := (["signed_letters", "leads_of", "gone_to", "is_table_form", "names_from_first", "judge_table", "is_named", "fold_fault", "judge_folding", "_law_source", "_law_pick", "_law_of"] : List PySem.Str) ++ (["_law_mixed", "_law_by", "_law_back", "_law_turn", "_law_word_turn", "_law_word", "_law_right", "_law_fault", "is_free_word_of"] : List PySem.Str)
theorem run (w : World) : HandSHeadRun.RunEq RR (PySem.W.view RR.prog [24]) hk ob 4000 loose w := by
  intro os
  kernel_rfl
theorem defV {P : Program} {w : World} {K : PySem.W.Frag} {mg : PySem.Str → Option Value} {base : Heap} {k : Nat} {x : PySem.Str} {st : Stmt} {f : Addr} {fd : FuncData} {ps : List PySem.Str} {sp : Sv} (F : FnP K x st f fd) (g : mg x = some (.ref f)) (b : Binds K fd ps []) (h : FnV P w K mg base k f fd ps sp) : DefV P w K mg base k x sp := ⟨f, fd, ps, g, F.kp, b, h⟩
theorem facts {P : Program} {w : World} {K : PySem.W.Frag} {h : Heap} {mg : PySem.Str → Option Value} {f : Addr} (X : K.In h) (G : h.Ns mainGlobals mg) (hfa : mg ("law" : PySem.Str) = some (.ref f)) (c : He.SaysD fal fnl K) :
    ∃ fd : FuncData, (∀ (s : Shared) (v : Value), BindsTo s fd ⟨[v], []⟩ [("script", v)]) ∧ ∀ base : Heap, K.In base → base.Ns mainGlobals mg → FnV P w K mg base 5 f fd ["script"] spLaw := by
  obtain ⟨fd_signed_letters, F0_signed_letters⟩ := c.def_ 0 (d := mk "signed_letters" (top 1)) rfl
  have F_signed_letters : FnP K "signed_letters" (top 1) _ fd_signed_letters := F0_signed_letters
  obtain ⟨fd_leads_of, F0_leads_of⟩ := c.def_ 1 (d := mk "leads_of" (top 2)) rfl
  have F_leads_of : FnP K "leads_of" (top 2) _ fd_leads_of := F0_leads_of
  obtain ⟨fd_gone_to, F0_gone_to⟩ := c.def_ 2 (d := mk "gone_to" (top 3)) rfl
  have F_gone_to : FnP K "gone_to" (top 3) _ fd_gone_to := F0_gone_to
  obtain ⟨fd_is_table_form, F0_is_table_form⟩ := c.def_ 3 (d := mk "is_table_form" (top 4)) rfl
  have F_is_table_form : FnP K "is_table_form" (top 4) _ fd_is_table_form := F0_is_table_form
  obtain ⟨fd_names_from_first, F0_names_from_first⟩ := c.def_ 4 (d := mk "names_from_first" (top 5)) rfl
  have F_names_from_first : FnP K "names_from_first" (top 5) _ fd_names_from_first := F0_names_from_first
  obtain ⟨fd_judge_table, F0_judge_table⟩ := c.def_ 5 (d := mk "judge_table" (top 6)) rfl
  have F_judge_table : FnP K "judge_table" (top 6) _ fd_judge_table := F0_judge_table
  obtain ⟨fd_is_named, F0_is_named⟩ := c.def_ 6 (d := mk "is_named" (top 8)) rfl
  have F_is_named : FnP K "is_named" (top 8) _ fd_is_named := F0_is_named
  obtain ⟨fd_fold_fault, F0_fold_fault⟩ := c.def_ 7 (d := mk "fold_fault" (top 10)) rfl
  have F_fold_fault : FnP K "fold_fault" (top 10) _ fd_fold_fault := F0_fold_fault
  obtain ⟨fd_judge_folding, F0_judge_folding⟩ := c.def_ 8 (d := mk "judge_folding" (top 11)) rfl
  have F_judge_folding : FnP K "judge_folding" (top 11) _ fd_judge_folding := F0_judge_folding
  obtain ⟨fd_Lsource, F0_Lsource⟩ := c.def_ 9 (d := mk "_law_source" (top 13)) rfl
  have F_Lsource : FnP K "_law_source" (top 13) _ fd_Lsource := F0_Lsource
  obtain ⟨fd_Lpick, F0_Lpick⟩ := c.def_ 10 (d := mk "_law_pick" (top 14)) rfl
  have F_Lpick : FnP K "_law_pick" (top 14) _ fd_Lpick := F0_Lpick
  obtain ⟨fd_Lof, F0_Lof⟩ := c.def_ 11 (d := mk "_law_of" (top 15)) rfl
  have F_Lof : FnP K "_law_of" (top 15) _ fd_Lof := F0_Lof
  obtain ⟨fd_Lmixed, F0_Lmixed⟩ := c.def_ 12 (d := mk "_law_mixed" (top 16)) rfl
  have F_Lmixed : FnP K "_law_mixed" (top 16) _ fd_Lmixed := F0_Lmixed
  obtain ⟨fd_Lby, F0_Lby⟩ := c.def_ 13 (d := mk "_law_by" (top 17)) rfl
  have F_Lby : FnP K "_law_by" (top 17) _ fd_Lby := F0_Lby
  obtain ⟨fd_Lback, F0_Lback⟩ := c.def_ 14 (d := mk "_law_back" (top 18)) rfl
  have F_Lback : FnP K "_law_back" (top 18) _ fd_Lback := F0_Lback
  obtain ⟨fd_Lturn, F0_Lturn⟩ := c.def_ 15 (d := mk "_law_turn" (top 19)) rfl
  have F_Lturn : FnP K "_law_turn" (top 19) _ fd_Lturn := F0_Lturn
  obtain ⟨fd_Lword_turn, F0_Lword_turn⟩ := c.def_ 16 (d := mk "_law_word_turn" (top 20)) rfl
  have F_Lword_turn : FnP K "_law_word_turn" (top 20) _ fd_Lword_turn := F0_Lword_turn
  obtain ⟨fd_Lword, F0_Lword⟩ := c.def_ 17 (d := mk "_law_word" (top 21)) rfl
  have F_Lword : FnP K "_law_word" (top 21) _ fd_Lword := F0_Lword
  obtain ⟨fd_Lright, F0_Lright⟩ := c.def_ 18 (d := mk "_law_right" (top 22)) rfl
  have F_Lright : FnP K "_law_right" (top 22) _ fd_Lright := F0_Lright
  obtain ⟨fd_Lfault, F0_Lfault⟩ := c.def_ 19 (d := mk "_law_fault" (top 23)) rfl
  have F_Lfault : FnP K "_law_fault" (top 23) _ fd_Lfault := F0_Lfault
  obtain ⟨fd_law, F0_law⟩ := c.def_ 20 (d := mk "law" (top 24)) rfl
  have F_law : FnP K "law" (top 24) _ fd_law := F0_law
  have g_signed_letters := He.glo_ok X G (c.fact 0 (f := .glo "signed_letters") rfl)
  have g_leads_of := He.glo_ok X G (c.fact 1 (f := .glo "leads_of") rfl)
  have g_gone_to := He.glo_ok X G (c.fact 2 (f := .glo "gone_to") rfl)
  have g_is_table_form := He.glo_ok X G (c.fact 3 (f := .glo "is_table_form") rfl)
  have g_names_from_first := He.glo_ok X G (c.fact 4 (f := .glo "names_from_first") rfl)
  have g_judge_table := He.glo_ok X G (c.fact 5 (f := .glo "judge_table") rfl)
  have g_is_named := He.glo_ok X G (c.fact 6 (f := .glo "is_named") rfl)
  have g_fold_fault := He.glo_ok X G (c.fact 7 (f := .glo "fold_fault") rfl)
  have g_judge_folding := He.glo_ok X G (c.fact 8 (f := .glo "judge_folding") rfl)
  have g_Lsource := He.glo_ok X G (c.fact 9 (f := .glo "_law_source") rfl)
  have g_Lpick := He.glo_ok X G (c.fact 10 (f := .glo "_law_pick") rfl)
  have g_Lof := He.glo_ok X G (c.fact 11 (f := .glo "_law_of") rfl)
  have g_Lmixed := He.glo_ok X G (c.fact 12 (f := .glo "_law_mixed") rfl)
  have g_Lby := He.glo_ok X G (c.fact 13 (f := .glo "_law_by") rfl)
  have g_Lback := He.glo_ok X G (c.fact 14 (f := .glo "_law_back") rfl)
  have g_Lturn := He.glo_ok X G (c.fact 15 (f := .glo "_law_turn") rfl)
  have g_Lword_turn := He.glo_ok X G (c.fact 16 (f := .glo "_law_word_turn") rfl)
  have g_Lword := He.glo_ok X G (c.fact 17 (f := .glo "_law_word") rfl)
  have g_Lright := He.glo_ok X G (c.fact 18 (f := .glo "_law_right") rfl)
  have g_Lfault := He.glo_ok X G (c.fact 19 (f := .glo "_law_fault") rfl)
  have g_law := He.glo_ok X G (c.fact 20 (f := .glo "law") rfl)
  have m_range : mg "range" = none := He.free_ok X G (c.fact 21 (f := .free "range") rfl)
  have m_enumerate : mg "enumerate" = none := He.free_ok X G (c.fact 22 (f := .free "enumerate") rfl)
  have m_isinstance : mg "isinstance" = none := He.free_ok X G (c.fact 23 (f := .free "isinstance") rfl)
  have m_tuple : mg "tuple" = none := He.free_ok X G (c.fact 24 (f := .free "tuple") rfl)
  have m_len : mg "len" = none := He.free_ok X G (c.fact 25 (f := .free "len") rfl)
  have m_all : mg "all" = none := He.free_ok X G (c.fact 26 (f := .free "all") rfl)
  have m_int : mg "int" = none := He.free_ok X G (c.fact 27 (f := .free "int") rfl)
  have m_bool : mg "bool" = none := He.free_ok X G (c.fact 28 (f := .free "bool") rfl)
  have m_str : mg "str" = none := He.free_ok X G (c.fact 29 (f := .free "str") rfl)
  have m_abs : mg "abs" = none := He.free_ok X G (c.fact 30 (f := .free "abs") rfl)
  have m_max : mg "max" = none := He.free_ok X G (c.fact 31 (f := .free "max") rfl)
  have m_list : mg "list" = none := He.free_ok X G (c.fact 32 (f := .free "list") rfl)
  have m_sorted : mg "sorted" = none := He.free_ok X G (c.fact 33 (f := .free "sorted") rfl)
  have m_dict : mg "dict" = none := He.free_ok X G (c.fact 34 (f := .free "dict") rfl)
  have m_repr : mg "repr" = none := He.free_ok X G (c.fact 35 (f := .free "repr") rfl)
  have m_min : mg "min" = none := He.free_ok X G (c.fact 36 (f := .free "min") rfl)
  have e := hfa.symm.trans g_law
  cases e
  have b := FunD.bindsA (ps := ["script"]) F_law fun _ _ _ _ _ _ us hl => match us, hl with | [_], _ => rfl
  refine ⟨fd_law, fun s v => b s [v] rfl, fun base _ _ => ?_⟩
  have D_signed_letters : DefV P w K mg base 1 "signed_letters" (spF pSigned) := defV F_signed_letters g_signed_letters (F_signed_letters.bindsN (ps := ["m"]) fun _ _ _ _ _ _ us hl => match us, hl with | [_], _ => rfl) (ok_signed F_signed_letters m_range)
  have D_leads_of : DefV P w K mg base 1 "leads_of" spLeads := defV F_leads_of g_leads_of (F_leads_of.bindsN (ps := ["table"]) fun _ _ _ _ _ _ us hl => match us, hl with | [_], _ => rfl) (ok_leads F_leads_of m_enumerate)
  have D_gone_to : DefV P w K mg base 2 "gone_to" (spF pGone) := defV F_gone_to g_gone_to (F_gone_to.bindsN (ps := ["table", "name", "word"]) fun _ _ _ _ _ _ us hl => match us, hl with | [_, _, _], _ => rfl) (ok_gone F_gone_to (D_leads_of.mono (by decide)))
  have D_is_table_form : DefV P w K mg base 1 "is_table_form" (spF pForm) := defV F_is_table_form g_is_table_form (F_is_table_form.bindsN (ps := ["m", "value"]) fun _ _ _ _ _ _ us hl => match us, hl with | [_, _], _ => rfl) (ok_form F_is_table_form m_isinstance m_tuple m_len m_all m_int m_bool m_range)
  have D_names_from_first : DefV P w K mg base 2 "names_from_first" spNames := defV F_names_from_first g_names_from_first (F_names_from_first.bindsN (ps := ["table"]) fun _ _ _ _ _ _ us hl => match us, hl with | [_], _ => rfl) (ok_names F_names_from_first (D_leads_of.mono (by decide)) (D_signed_letters.mono (by decide)) m_len)
  have D_judge_table : DefV P w K mg base 3 "judge_table" (spF pJudge) := defV F_judge_table g_judge_table (F_judge_table.bindsN (ps := ["telling", "value"]) fun _ _ _ _ _ _ us hl => match us, hl with | [_, _], _ => rfl) (ok_judge F_judge_table (D_is_table_form.mono (by decide)) (D_names_from_first.mono (by decide)) (D_gone_to.mono (by decide)) m_range m_len m_enumerate)
  have D_is_named : DefV P w K mg base 1 "is_named" (spF pNamed) := defV F_is_named g_is_named (F_is_named.bindsN (ps := ["value", "many"]) fun _ _ _ _ _ _ us hl => match us, hl with | [_, _], _ => rfl) (ok_named F_is_named m_isinstance m_int m_bool)
  have D_fold_fault : DefV P w K mg base 1 "fold_fault" (spF pFold) := defV F_fold_fault g_fold_fault (F_fold_fault.bindsN (ps := ["table", "other", "images"]) fun _ _ _ _ _ _ us hl => match us, hl with | [_, _, _], _ => rfl) (ok_fold F_fold_fault m_enumerate)
  have D_judge_folding : DefV P w K mg base 2 "judge_folding" (spF pJFold) := defV F_judge_folding g_judge_folding (F_judge_folding.bindsN (ps := ["table", "other", "value"]) fun _ _ _ _ _ _ us hl => match us, hl with | [_, _, _], _ => rfl) (ok_jfold F_judge_folding (D_fold_fault.mono (by decide)) (D_is_named.mono (by decide)) m_isinstance m_tuple m_len m_str m_all)
  have D_Lsource : DefV P w K mg base 1 "_law_source" spSource := defV F_Lsource g_Lsource (F_Lsource.bindsN (ps := ["script"]) fun _ _ _ _ _ _ us hl => match us, hl with | [_], _ => rfl) (ok_source F_Lsource m_int m_abs)
  have D_Lpick : DefV P w K mg base 1 "_law_pick" spPick := defV F_Lpick g_Lpick (F_Lpick.bindsN (ps := ["source", "many"]) fun _ _ _ _ _ _ us hl => match us, hl with | [_, _], _ => rfl) (ok_pick F_Lpick m_int m_len m_max)
  have D_Lof : DefV P w K mg base 2 "_law_of" spOf := defV F_Lof g_Lof (F_Lof.bindsN (ps := ["source", "some"]) fun _ _ _ _ _ _ us hl => match us, hl with | [_, _], _ => rfl) (ok_of F_Lof (D_Lpick.mono (by decide)) m_len)
  have D_Lmixed : DefV P w K mg base 2 "_law_mixed" spMixed := defV F_Lmixed g_Lmixed (F_Lmixed.bindsN (ps := ["source", "things"]) fun _ _ _ _ _ _ us hl => match us, hl with | [_, _], _ => rfl) (ok_mixed F_Lmixed (D_Lpick.mono (by decide)) m_list m_len m_range)
  have D_Lby : DefV P w K mg base 1 "_law_by" (spF pTimes) := defV F_Lby g_Lby (F_Lby.bindsN (ps := ["a", "b"]) fun _ _ _ _ _ _ us hl => match us, hl with | [_, _], _ => rfl) (ok_by F_Lby m_tuple)
  have D_Lback : DefV P w K mg base 1 "_law_back" (spF pBack) := defV F_Lback g_Lback (F_Lback.bindsN (ps := ["a"]) fun _ _ _ _ _ _ us hl => match us, hl with | [_], _ => rfl) (ok_back F_Lback m_tuple m_len m_enumerate)
  have D_Lturn : DefV P w K mg base 3 "_law_turn" spTurn := defV F_Lturn g_Lturn (F_Lturn.bindsN (ps := ["source", "n"]) fun _ _ _ _ _ _ us hl => match us, hl with | [_, _], _ => rfl) (ok_turn F_Lturn (D_Lmixed.mono (by decide)) m_tuple m_list m_range)
  have D_Lword_turn : DefV P w K mg base 2 "_law_word_turn" (spF pWT) := defV F_Lword_turn g_Lword_turn (F_Lword_turn.bindsN (ps := ["n", "turns", "word"]) fun _ _ _ _ _ _ us hl => match us, hl with | [_, _, _], _ => rfl) (ok_wt F_Lword_turn (D_Lby.mono (by decide)) (D_Lback.mono (by decide)) m_tuple m_range)
  have D_Lword : DefV P w K mg base 3 "_law_word" spWord := defV F_Lword g_Lword (F_Lword.bindsN (ps := ["source", "m", "most"]) fun _ _ _ _ _ _ us hl => match us, hl with | [_, _, _], _ => rfl) (ok_word F_Lword (D_Lpick.mono (by decide)) (D_Lof.mono (by decide)) m_tuple m_range)
  have D_Lright : DefV P w K mg base 4 "_law_right" spRight := defV F_Lright g_Lright (F_Lright.bindsN (ps := ["source"]) fun _ _ _ _ _ _ us hl => match us, hl with | [_], _ => rfl) (ok_right F_Lright (D_Lpick.mono (by decide)) (D_Lturn.mono (by decide)) m_tuple m_range)
  have D_Lfault : DefV P w K mg base 3 "_law_fault" (spF pFault) := defV F_Lfault g_Lfault (F_Lfault.bindsN (ps := ["telling", "value"]) fun _ _ _ _ _ _ us hl => match us, hl with | [_, _], _ => rfl) (ok_fault F_Lfault (D_Lword_turn.mono (by decide)) m_isinstance m_tuple m_len m_range m_int m_bool m_sorted m_list m_dict m_enumerate)
  exact ok_law F_law (D_Lsource.mono (by decide)) (D_Lright.mono (by decide)) (D_Lturn.mono (by decide)) (D_Lby.mono (by decide)) (D_Lback.mono (by decide)) (D_Lword.mono (by decide)) (D_Lpick.mono (by decide)) (D_judge_table.mono (by decide)) (D_Lfault.mono (by decide)) (D_judge_folding.mono (by decide)) m_tuple m_range m_len m_list m_repr m_isinstance m_int m_bool m_min
end K54
open PySem PySem.W PySem.Calls PyProof.Rows
theorem PySem.Challenge.cw_toldturns_k54_long_tables_judged_holds : PySem.Challenge.rw_toldturns_k54_long_tables_judged.Holds := by
  w_on; o_law
  refine HandSHeadRun.head_any (r := OpenLaw.row PySem.Challenge.rw_toldturns_k54_long_tables_judged) (q := view (OpenLaw.row PySem.Challenge.rw_toldturns_k54_long_tables_judged).prog [24]) (H := K54.hk) (ob := K54.ob) (M := 4000) (loose := K54.loose) (d := HandSHeadRun.topDef (OpenLaw.row PySem.Challenge.rw_toldturns_k54_long_tables_judged).prog 24) (kwd := []) K54.ob_eq
    (by kernel_rfl) (fun s => by kernel_rfl) K54.run (by kernel_rfl) (by kernel_rfl) (by kernel_rfl) (by rfl) (by first | assumption | decide +kernel) (by decide +kernel) ⟨rfl, rfl, rfl, rfl, rfl, by decide +kernel⟩ ?hw ?hc
  case hw => w_witness2
  case hc =>
    refine VL.law_walk (l := PySem.Challenge.rw_toldturns_k54_long_tables_judged) (n := 63) (k := 5) (x := "script") rfl (by decide) (by kernel_rfl) ⟨rfl, by decide, by decide⟩ ?F
    intro w mg fa h Y G hmg0
    obtain ⟨K, KX, c⟩ := Y
    have hmg : mg ("law" : PySem.Str) = some (.ref fa) := by
      have e : (HandSHeadRun.topDef (OpenLaw.row PySem.Challenge.rw_toldturns_k54_long_tables_judged).prog 24).name = ("law" : PySem.Str) := by kernel_rfl
      rw [← e]
      exact hmg0
    obtain ⟨fd, hb, hF⟩ := K54.facts (P := (PySem.Challenge.rw_toldturns_k54_long_tables_judged).prog) (w := w) KX G hmg c
    exact ⟨K, fd, K54.spLaw, KX, hb, fun ns hl => ⟨ns, rfl, hl, rfl⟩, hF⟩

