import PyProof.Rows.All
import Wide.All
import OpenK.AllK
import Wide.FinOn
import HandS.ForMost
import HandS.Defaults
import HandS.HeadHook1
import HandS.IsInst
import HandS.Deep
import HandS.Walk
import HandS.Zip
import HandS.TupMul
import HandS.TupAny
import HandS.OwnEq
import HandS.Conv
import KE.KStateDown
import Lean
import HandS.Head0
import HandS.Head1
import HandS.Head2
import HandS.HeadEnd
import HandS.HeadHook2
import HandS.HeadHook3
import HandS.HeadHook4
import KE.GoesEnum
import PyProof.ListMulRoad
import PyProof.FactsAll.tuple_2
import HandS.More
import PySem.Challenge.RW_leafmarks_k44_whole_fields_apart
set_option Elab.async false
set_option linter.all false
set_option maxRecDepth 100000
set_option maxHeartbeats 4000000
/-! data of the program as one type; where it stands; modes: what may change while something is evaluated -/
namespace Lf
open PySem PySem.Spec PyProof.Rows L2

/-- data: what a value says, lists and tuples and instances to the bottom; raw: an address as it is -/
inductive Dt where
  | non | bl (b : Bool) | int (i : Int) | str (x : Str) | lst (xs : List Dt) | tup (xs : List Dt) | ins (c : Str) (ks : List Str) (ds : List Dt) | raw (a : Addr) | ty (n : String)

mutual
/-- the value v is the data, with no list, tuple or instance of it among B (what may change) -/
def At (K : PySem.W.Frag) (B : Addr → Prop) (H : Hp) : Dt → V → Prop
  | .non => fun v => v = .non
  | .bl b => fun v => v = .bl b
  | .int i => fun v => v = .int i
  | .str x => fun v => v = .str x
  | .lst ds => fun v => ∃ a xs, v = .ref a ∧ ¬ B a ∧ H a = some (.lst xs) ∧ AtAll K B H ds xs
  | .tup ds => fun v => ∃ a xs, v = .ref a ∧ ¬ B a ∧ H a = some (.tup xs) ∧ AtAll K B H ds xs
  | .ins c ks ds => fun v => ∃ a dx xs, v = .ref a ∧ ¬ B a ∧ H a = some (.ins (He.ga K c) dx (ks.zip xs)) ∧ AtAll K B H ds xs
  | .raw a => fun v => v = .ref a
  | .ty n => fun v => v = .ty n
def AtAll (K : PySem.W.Frag) (B : Addr → Prop) (H : Hp) : List Dt → List V → Prop
  | [] => fun vs => vs = []
  | d :: ds => fun vs => ∃ v r, vs = v :: r ∧ At K B H d v ∧ AtAll K B H ds r
end

section
variable {K : PySem.W.Frag} {B B' : Addr → Prop} {H H' : Hp}
mutual
theorem At.map (hm : ∀ b o, ¬ B b → H b = some o → ¬ B' b ∧ H' b = some o) : ∀ (d : Dt) (v : V), At K B H d v → At K B' H' d v
  | .non, _, h => h
  | .bl _, _, h => h
  | .int _, _, h => h
  | .str _, _, h => h
  | .lst ds, _, h => by
    obtain ⟨a, xs, e, nb, ha, hx⟩ := h
    exact ⟨a, xs, e, (hm a _ nb ha).1, (hm a _ nb ha).2, AtAll.map hm ds xs hx⟩
  | .tup ds, _, h => by
    obtain ⟨a, xs, e, nb, ha, hx⟩ := h
    exact ⟨a, xs, e, (hm a _ nb ha).1, (hm a _ nb ha).2, AtAll.map hm ds xs hx⟩
  | .ins c ks ds, _, h => by
    obtain ⟨a, dx, xs, e, nb, ha, hx⟩ := h
    exact ⟨a, dx, xs, e, (hm a _ nb ha).1, (hm a _ nb ha).2, AtAll.map hm ds xs hx⟩
  | .raw _, _, h => h
  | .ty _, _, h => h
theorem AtAll.map (hm : ∀ b o, ¬ B b → H b = some o → ¬ B' b ∧ H' b = some o) : ∀ (ds : List Dt) (vs : List V), AtAll K B H ds vs → AtAll K B' H' ds vs
  | [], _, h => h
  | d :: ds, _, h => by
    obtain ⟨v, r, e, h1, h2⟩ := h
    exact ⟨v, r, e, At.map hm d v h1, AtAll.map hm ds r h2⟩
end
/-- all but B stands -/
def Keep (B : Addr → Prop) (H H' : Hp) : Prop := ∀ b o, ¬ B b → H b = some o → H' b = some o
theorem At.keep {d : Dt} {v : V} (h : At K B H d v) (k : Keep B H H') : At K B H' d v := At.map (fun b o nb e => ⟨nb, k b o nb e⟩) d v h
theorem AtAll.keep {d : List Dt} {v : List V} (h : AtAll K B H d v) (k : Keep B H H') : AtAll K B H' d v := AtAll.map (fun b o nb e => ⟨nb, k b o nb e⟩) d v h
theorem At.less {d : Dt} {v : V} (h : At K B H d v) (k : ∀ a, B' a → B a) : At K B' H d v := At.map (fun b o nb e => ⟨fun z => nb (k b z), e⟩) d v h
theorem AtAll.less {d : List Dt} {v : List V} (h : AtAll K B H d v) (k : ∀ a, B' a → B a) : AtAll K B' H d v := AtAll.map (fun b o nb e => ⟨fun z => nb (k b z), e⟩) d v h
theorem At.more {d : Dt} {v : V} {p : Addr} (h : At K B H d v) (hp : H p = none) : At K (fun b => B b ∨ b = p) H d v :=
  At.map (fun b o nb e => ⟨fun z => z.elim nb fun q => absurd (hp ▸ q ▸ e : (none : Option HO) = some o) (fun z => nomatch z), e⟩) d v h
theorem AtAll.more {d : List Dt} {v : List V} {p : Addr} (h : AtAll K B H d v) (hp : H p = none) : AtAll K (fun b => B b ∨ b = p) H d v :=
  AtAll.map (fun b o nb e => ⟨fun z => z.elim nb fun q => absurd (hp ▸ q ▸ e : (none : Option HO) = some o) (fun z => nomatch z), e⟩) d v h
theorem At.moreS {d : Dt} {v : V} {S : Addr → Prop} (h : At K B H d v) (hp : ∀ a, S a → H a = none) : At K (fun b => B b ∨ S b) H d v :=
  At.map (fun b o nb e => ⟨fun z => z.elim nb fun q => absurd ((hp b q) ▸ e : (none : Option HO) = some o) (fun z => nomatch z), e⟩) d v h
theorem AtAll.moreS {d : List Dt} {v : List V} {S : Addr → Prop} (h : AtAll K B H d v) (hp : ∀ a, S a → H a = none) : AtAll K (fun b => B b ∨ S b) H d v :=
  AtAll.map (fun b o nb e => ⟨fun z => z.elim nb fun q => absurd ((hp b q) ▸ e : (none : Option HO) = some o) (fun z => nomatch z), e⟩) d v h
theorem Same.keep (s : Same H H') : Keep B H H' := fun b o _ e => s b o e

theorem AtAll.length : ∀ {ds : List Dt} {vs : List V}, AtAll K B H ds vs → vs.length = ds.length
  | [], _, h => by rw [show _ = [] from h]; rfl
  | d :: ds, _, h => by
    obtain ⟨v, r, e, _, h2⟩ := h
    rw [e, List.length_cons, List.length_cons, AtAll.length h2]
theorem AtAll.get : ∀ {ds : List Dt} {vs : List V} {i : Nat} {d : Dt}, AtAll K B H ds vs → ds[i]? = some d → ∃ v, vs[i]? = some v ∧ At K B H d v
  | [], _, _, _, _, e => by simp at e
  | d :: ds, _, 0, _, h, e => by
    obtain ⟨v, r, q, h1, _⟩ := h
    have e' : d = _ := Option.some.inj e
    subst e'
    exact ⟨v, by rw [q]; rfl, h1⟩
  | d :: ds, _, i + 1, _, h, e => by
    obtain ⟨v, r, q, _, h2⟩ := h
    obtain ⟨w, h3, h4⟩ := AtAll.get (i := i) h2 (by simpa using e)
    exact ⟨w, by rw [q]; simpa using h3, h4⟩
theorem AtAll.got {ds : List Dt} {vs : List V} {i : Nat} {v : V} (h : AtAll K B H ds vs) (e : vs[i]? = some v) : ∃ d, ds[i]? = some d ∧ At K B H d v := by
  have hi : i < ds.length := by rw [← h.length]; exact (List.getElem?_eq_some_iff.mp e).1
  obtain ⟨w, h1, h2⟩ := h.get (List.getElem?_eq_getElem hi)
  rw [e] at h1
  cases h1
  exact ⟨_, List.getElem?_eq_getElem hi, h2⟩
theorem AtAll.app : ∀ {ds es : List Dt} {vs ws : List V}, AtAll K B H ds vs → AtAll K B H es ws → AtAll K B H (ds ++ es) (vs ++ ws)
  | [], _, _, _, h, h' => by rw [show _ = [] from h]; exact h'
  | d :: ds, _, _, _, h, h' => by
    obtain ⟨v, r, e, h1, h2⟩ := h
    subst e
    exact ⟨v, _, rfl, h1, AtAll.app h2 h'⟩
theorem AtAll.one {d : Dt} {v : V} (h : At K B H d v) : AtAll K B H [d] [v] := ⟨v, [], rfl, h, rfl⟩
theorem AtAll.set : ∀ {ds : List Dt} {vs : List V} {d : Dt} {v : V} (i : Nat), AtAll K B H ds vs → At K B H d v → AtAll K B H (ds.set i d) (vs.set i v)
  | [], _, _, _, _, h, _ => by rw [show _ = [] from h]; exact rfl
  | _ :: _, _, _, _, 0, h, q => by
    obtain ⟨v, r, e, h1, h2⟩ := h
    subst e
    exact ⟨_, _, rfl, q, h2⟩
  | _ :: _, _, _, _, i + 1, h, q => by
    obtain ⟨v, r, e, h1, h2⟩ := h
    subst e
    exact ⟨_, _, rfl, h1, AtAll.set i h2 q⟩
theorem AtAll.eraseIdx : ∀ {ds : List Dt} {vs : List V} (i : Nat), AtAll K B H ds vs → AtAll K B H (ds.eraseIdx i) (vs.eraseIdx i)
  | [], _, _, h => by rw [show _ = [] from h]; exact rfl
  | _ :: _, _, 0, h => by
    obtain ⟨v, r, e, h1, h2⟩ := h
    subst e
    exact h2
  | _ :: _, _, i + 1, h => by
    obtain ⟨v, r, e, h1, h2⟩ := h
    subst e
    exact ⟨_, _, rfl, h1, AtAll.eraseIdx i h2⟩
theorem AtAll.take : ∀ {ds : List Dt} {vs : List V} (i : Nat), AtAll K B H ds vs → AtAll K B H (ds.take i) (vs.take i)
  | [], _, _, h => by rw [show _ = [] from h, List.take_nil, List.take_nil]; exact rfl
  | _ :: _, _, 0, h => rfl
  | _ :: _, _, i + 1, h => by
    obtain ⟨v, r, e, h1, h2⟩ := h
    subst e
    exact ⟨_, _, rfl, h1, AtAll.take i h2⟩
theorem AtAll.drop : ∀ {ds : List Dt} {vs : List V} (i : Nat), AtAll K B H ds vs → AtAll K B H (ds.drop i) (vs.drop i)
  | [], _, _, h => by rw [show _ = [] from h, List.drop_nil, List.drop_nil]; exact rfl
  | _ :: _, _, 0, h => h
  | _ :: _, _, i + 1, h => by
    obtain ⟨v, r, e, h1, h2⟩ := h
    subst e
    exact AtAll.drop i h2
theorem AtAll.rep {d : Dt} {v : V} (h : At K B H d v) : ∀ n : Nat, AtAll K B H (List.replicate n d) (List.replicate n v)
  | 0 => rfl
  | n + 1 => ⟨v, _, rfl, h, AtAll.rep h n⟩
theorem AtAll.mapS {α : Type} {f : α → Dt} {g : α → V} (hf : ∀ a v, At K B H (f a) v ↔ v = g a) : ∀ {ns : List α} {vs : List V}, AtAll K B H (ns.map f) vs ↔ vs = ns.map g
  | [], _ => Iff.rfl
  | n :: ns, vs => by
    constructor
    · intro h
      obtain ⟨v, r, e, h1, h2⟩ := (show ∃ v r, vs = v :: r ∧ At K B H (f n) v ∧ AtAll K B H (ns.map f) r from h)
      rw [e, (hf n v).mp h1, (AtAll.mapS hf).mp h2]
      rfl
    · intro e
      exact ⟨_, _, e, (hf n _).mpr rfl, (AtAll.mapS hf).mpr rfl⟩
theorem AtAll.ints {ns : List Int} {vs : List V} : AtAll K B H (ns.map .int) vs ↔ vs = ns.map .int := AtAll.mapS fun _ _ => Iff.rfl
theorem AtAll.strs {ns : List Str} {vs : List V} : AtAll K B H (ns.map .str) vs ↔ vs = ns.map .str := AtAll.mapS fun _ _ => Iff.rfl
theorem AtAll.bls {ns : List Bool} {vs : List V} : AtAll K B H (ns.map .bl) vs ↔ vs = ns.map .bl := AtAll.mapS fun _ _ => Iff.rfl
theorem AtAll.nats {ns : List Nat} {vs : List V} : AtAll K B H (ns.map fun (n : Nat) => Dt.int (n : Int)) vs ↔ vs = ns.map fun (n : Nat) => V.int (n : Int) := AtAll.mapS fun _ _ => Iff.rfl
theorem AtAll.atI {ds : List Dt} {vs : List V} {i : Int} {d : Dt} (h : AtAll K B H ds vs) (e : L2.atI ds i = some d) : ∃ v, L2.atI vs i = some v ∧ At K B H d v := by
  unfold L2.atI at e ⊢
  rw [h.length]
  cases q : ixN ds.length i with
  | none => rw [q] at e; cases e
  | some j =>
    rw [q] at e
    exact h.get e
theorem AtAll.mem {ds : List Dt} {vs : List V} (h : AtAll K B H ds vs) {v : V} (hv : v ∈ vs) : ∃ d ∈ ds, At K B H d v := by
  obtain ⟨i, hi, e⟩ := List.mem_iff_getElem.mp hv
  obtain ⟨d, h1, h2⟩ := h.got (i := i) (v := v) (by rw [List.getElem?_eq_getElem hi, e])
  exact ⟨d, List.mem_of_getElem? h1, h2⟩
end

/-! ### plain data: what == looks at -/
mutual
def pd : Dt → PyData
  | .non => .none
  | .bl b => .bool b
  | .int i => .int i
  | .str x => .str x
  | .lst ds => .list (pds ds)
  | .tup ds => .tuple (pds ds)
  | .ins _ _ _ => .none
  | .raw _ => .none
  | .ty _ => .none
def pds : List Dt → List PyData
  | [] => []
  | d :: ds => pd d :: pds ds
end
mutual
def okD : Dt → Bool
  | .lst ds => okDs ds
  | .tup ds => okDs ds
  | .ins _ _ _ => false
  | .raw _ => false
  | .ty _ => false
  | _ => true
def okDs : List Dt → Bool
  | [] => true
  | d :: ds => okD d && okDs ds
end
section
variable {K : PySem.W.Frag} {B : Addr → Prop} {H : Hp}
mutual
theorem At.dp : ∀ (d : Dt) (v : V), okD d = true → At K B H d v → Dp K H v (pd d)
  | .non, _, _, h => by rw [show _ = V.non from h]; exact .non
  | .bl b, _, _, h => by rw [show _ = V.bl b from h]; exact .bl b
  | .int b, _, _, h => by rw [show _ = V.int b from h]; exact .int b
  | .str b, _, _, h => by rw [show _ = V.str b from h]; exact .str b
  | .lst ds, _, o, h => by
    obtain ⟨a, xs, e, nb, ha, hx⟩ := h
    rw [e]
    exact .lst (SqL.of ha) (AtAll.dp ds xs o hx)
  | .tup ds, _, o, h => by
    obtain ⟨a, xs, e, nb, ha, hx⟩ := h
    rw [e]
    exact .tup (SqT.of ha) (AtAll.dp ds xs o hx)
  | .ins _ _ _, _, o, _ => by cases o
  | .raw _, _, o, _ => by cases o
  | .ty _, _, o, _ => by cases o
theorem AtAll.dp : ∀ (ds : List Dt) (vs : List V), okDs ds = true → AtAll K B H ds vs → DpAll K H vs (pds ds)
  | [], _, _, h => by rw [show _ = [] from h]; exact .nil
  | d :: ds, _, o, h => by
    obtain ⟨v, r, e, h1, h2⟩ := h
    obtain ⟨o1, o2⟩ := Bool.and_eq_true_iff.mp (show (okD d && okDs ds) = true from o)
    rw [e]
    exact .cons (At.dp d v o1 h1) (AtAll.dp ds r o2 h2)
end
end
theorem pds_map : ∀ ds : List Dt, pds ds = ds.map pd
  | [] => rfl
  | d :: ds => by show pd d :: pds ds = _; rw [pds_map ds]; rfl

/-! ### what stands in the slots -/
def Env (K : PySem.W.Frag) (B : Addr → Prop) (H : Hp) (G : List (Option Dt)) (σ : L2.St) : Prop := σ.length = G.length ∧ ∀ (i : Nat) (d : Dt), G[i]? = some (some d) → ∃ v, σ[i]? = some (some v) ∧ At K B H d v
section
variable {K : PySem.W.Frag} {B B' : Addr → Prop} {H H' : Hp} {G : List (Option Dt)} {σ : L2.St}
theorem Env.map (hm : ∀ b o, ¬ B b → H b = some o → ¬ B' b ∧ H' b = some o) (h : Env K B H G σ) : Env K B' H' G σ := ⟨h.1, fun i d e => by
  obtain ⟨v, h1, h2⟩ := h.2 i d e
  exact ⟨v, h1, At.map hm d v h2⟩⟩
theorem Env.keep (h : Env K B H G σ) (k : Keep B H H') : Env K B H' G σ := Env.map (fun b o nb e => ⟨nb, k b o nb e⟩) h
theorem Env.less (h : Env K B H G σ) (k : ∀ a, B' a → B a) : Env K B' H G σ := Env.map (fun b o nb e => ⟨fun z => nb (k b z), e⟩) h
theorem Env.more {p : Addr} (h : Env K B H G σ) (hp : H p = none) : Env K (fun b => B b ∨ b = p) H G σ :=
  Env.map (fun b o nb e => ⟨fun z => z.elim nb fun q => absurd (hp ▸ q ▸ e : (none : Option HO) = some o) (fun z => nomatch z), e⟩) h
theorem Env.set {i : Nat} {d : Dt} {v : V} (h : Env K B H G σ) (hv : At K B H d v) : Env K B H (G.set i (some d)) (σ.set i (some v)) := by
  refine ⟨by rw [List.length_set, List.length_set, h.1], fun j e q => ?_⟩
  by_cases hj : i = j
  · subst hj
    by_cases hi : i < G.length
    · rw [List.getElem?_set_self hi] at q
      cases q
      exact ⟨v, List.getElem?_set_self (by rw [h.1]; exact hi), hv⟩
    · rw [List.getElem?_eq_none (by rw [List.length_set]; omega)] at q
      cases q
  · rw [List.getElem?_set_ne hj] at q ⊢
    exact h.2 j e q
theorem Env.start : ∀ {ds : List Dt} {vs : List V} (m : Nat), AtAll K B H ds vs → Env K B H (ds.map some ++ List.replicate m none) (vs.map some ++ List.replicate m none) := fun {ds vs} m h => by
  refine ⟨by rw [List.length_append, List.length_append, List.length_map, List.length_map, List.length_replicate, List.length_replicate, h.length], fun i d q => ?_⟩
  by_cases hi : i < ds.length
  · rw [List.getElem?_append_left (by rw [List.length_map]; exact hi), List.getElem?_map] at q
    have hi' : i < vs.length := by rw [h.length]; exact hi
    rw [List.getElem?_append_left (by rw [List.length_map]; exact hi'), List.getElem?_map]
    cases e : ds[i]? with
    | none => rw [e] at q; cases q
    | some d' =>
      rw [e] at q
      cases q
      obtain ⟨v, h1, h2⟩ := h.get e
      exact ⟨v, by rw [h1]; rfl, h2⟩
  · rw [List.getElem?_append_right (by rw [List.length_map]; omega), List.getElem?_replicate] at q
    split at q <;> cases q
end
def wipeG (G : List (Option Dt)) : List Nat → List (Option Dt)
  | [] => G
  | v :: vs => (wipeG G vs).set v none
theorem wipe_out {σ : L2.St} {j : Nat} {o : Option V} : ∀ {vs : List Nat}, j ∈ vs → wipe (σ.set j o) vs = wipe σ vs
  | [], h => by cases h
  | v :: vs, h => by
    show (wipe (σ.set j o) vs).set v none = (wipe σ vs).set v none
    by_cases hv : j = v
    · subst hv
      have key : ∀ (l : List Nat) (τ : L2.St), (wipe (τ.set j o) l).set j none = (wipe τ l).set j none := by
        intro l
        induction l with
        | nil => intro τ; show (τ.set j o).set j none = τ.set j none; rw [List.set_set]
        | cons w l ih =>
          intro τ
          show ((wipe (τ.set j o) l).set w none).set j none = ((wipe τ l).set w none).set j none
          by_cases hw : w = j
          · subst hw; rw [List.set_set, List.set_set]; exact ih τ
          · rw [List.set_comm _ _ hw, List.set_comm _ _ hw, ih τ]
      exact key vs σ
    · rcases List.mem_cons.mp h with e | e
      · exact absurd e hv
      · rw [wipe_out e]
theorem wipe_wipe {σ : L2.St} : ∀ {vs ws : List Nat}, (∀ v ∈ ws, v ∈ vs) → wipe (wipe σ ws) vs = wipe σ vs
  | _, [], _ => rfl
  | vs, w :: ws, h => by
    show wipe ((wipe σ ws).set w none) vs = wipe σ vs
    rw [wipe_out (h w List.mem_cons_self), wipe_wipe fun v hv => h v (List.mem_cons_of_mem _ hv)]
theorem wipeG_none {G : List (Option Dt)} {i : Nat} {d : Dt} : ∀ {vs : List Nat}, (wipeG G vs)[i]? = some (some d) → G[i]? = some (some d) ∧ i ∉ vs
  | [], h => ⟨h, by simp⟩
  | v :: vs, h => by
    have h' : ((wipeG G vs).set v none)[i]? = some (some d) := h
    by_cases hi : v = i
    · subst hi
      by_cases hv : v < (wipeG G vs).length
      · rw [List.getElem?_set_self hv] at h'; cases h'
      · rw [List.getElem?_eq_none (by rw [List.length_set]; omega)] at h'; cases h'
    · rw [List.getElem?_set_ne hi] at h'
      obtain ⟨h1, h2⟩ := wipeG_none h'
      exact ⟨h1, by simp only [List.mem_cons, not_or]; exact ⟨fun e => hi e.symm, h2⟩⟩
theorem wipe_ne {σ : L2.St} {i : Nat} : ∀ {vs : List Nat}, i ∉ vs → (wipe σ vs)[i]? = σ[i]?
  | [], _ => rfl
  | v :: vs, h => by
    simp only [List.mem_cons, not_or] at h
    show ((wipe σ vs).set v none)[i]? = σ[i]?
    rw [List.getElem?_set_ne (Ne.symm h.1), wipe_ne h.2]
theorem wipeG_length (G : List (Option Dt)) : ∀ vs : List Nat, (wipeG G vs).length = G.length
  | [] => rfl
  | v :: vs => by show ((wipeG G vs).set v none).length = _; rw [List.length_set, wipeG_length G vs]
theorem Env.wipe {K : PySem.W.Frag} {B : Addr → Prop} {H : Hp} {G : List (Option Dt)} {σ : L2.St} (h : Env K B H G σ) (vs : List Nat) : Env K B H (wipeG G vs) (L2.wipe σ vs) :=
  ⟨by rw [wipe_length, wipeG_length, h.1], fun i d e => by
    obtain ⟨h1, h2⟩ := wipeG_none e
    rw [wipe_ne h2]
    exact h.2 i d h1⟩

/-! ### modes -/
/-- R: what evaluating may change; F: from the entry's heap on; okX X: what holds throughout, told with no address of X in it -/
structure Mode (K : PySem.W.Frag) where
  B : Addr → Prop
  okX : (Addr → Prop) → Hp → Prop
  R : Hp → Hp → Prop
  F : Hp → Hp → Prop
  refl : ∀ H, R H H
  trans : ∀ {H H1 H2}, R H H1 → R H1 H2 → R H H2
  keep : ∀ {H H'}, R H H' → Keep B H H'
  freeX : ∀ {X H H' p}, okX X H → R H H' → H' p = none → H p = none
  trkX : ∀ {X H a}, okX X H → B a → H a ≠ none
  stabX : ∀ {X H H'}, okX X H → R H H' → okX X H'
  sameX : ∀ {X H H'}, okX X H → Same H H' → R H H'
  moreS : ∀ {X S : Addr → Prop} {H}, okX X H → (∀ a, S a → H a = none) → okX (fun b => X b ∨ S b) H
  less : ∀ {X X' : Addr → Prop} {H}, okX X H → (∀ a, X' a → X a) → okX X' H
  fr : ∀ {H0 H H'}, F H0 H → R H H' → F H0 H'
  mutfS : ∀ {S : Addr → Prop} {H0 H H'}, F H0 H → (∀ a, S a → H0 a = none) → (∀ a, ¬ S a → H' a = H a) → F H0 H'
  mutR : ∀ {X : Addr → Prop} {H H' p o}, okX X H → R H H' → H p = none → R H (upd H' p o)
  mutXS : ∀ {X S : Addr → Prop} {H0 H H'}, F H0 H → (∀ a, S a → H0 a = none ∧ ¬ B a ∧ X a) → okX X H → (∀ a, ¬ S a → H' a = H a) → okX X H'
  fback : ∀ {H0 H p}, F H0 H → H p = none → H0 p = none
section
variable {K : PySem.W.Frag}
def Mode.ok (M : Mode K) (H : Hp) : Prop := M.okX (fun _ => False) H
theorem Mode.more (M : Mode K) {X H p} (h : M.okX X H) (e : H p = none) : M.okX (fun b => X b ∨ b = p) H := M.moreS (S := fun b => b = p) h fun a q => by rw [q]; exact e
theorem Mode.mutf (M : Mode K) {H0 H p o} (h : M.F H0 H) (e : H0 p = none) : M.F H0 (upd H p o) := M.mutfS (S := fun b => b = p) h (fun a q => by rw [q]; exact e) fun a n => upd_ne n
theorem Mode.mutX (M : Mode K) {X : Addr → Prop} {H0 H p o} (h : M.F H0 H) (e : H0 p = none) (nb : ¬ M.B p) (x : X p) (ok : M.okX X H) : M.okX X (upd H p o) :=
  M.mutXS (S := fun b => b = p) h (fun a q => by rw [q]; exact ⟨e, nb, x⟩) ok fun a n => upd_ne n
theorem Mode.free (M : Mode K) {H H' : Hp} {p : Addr} (h : M.ok H) (r : M.R H H') (e : H' p = none) : H p = none := M.freeX h r e
theorem Mode.trk (M : Mode K) {H : Hp} {a : Addr} (h : M.ok H) (b : M.B a) : H a ≠ none := M.trkX h b
theorem Mode.stab (M : Mode K) {H H' : Hp} (h : M.ok H) (r : M.R H H') : M.ok H' := M.stabX h r
theorem Mode.same (M : Mode K) {H H' : Hp} (h : M.ok H) (s : Same H H') : M.R H H' := M.sameX h s
end
theorem Same.new {H : Hp} {p : Addr} {o : HO} (h : H p = none) : Same H (upd H p o) := fun b u e => by
  rw [upd_ne (ne_of_none e h)]
  exact e
theorem Same.mut {H H' : Hp} {p : Addr} {o : HO} (s : Same H H') (h : H p = none) : Same H (upd H' p o) := fun b u e => by
  rw [upd_ne (ne_of_none e h)]
  exact s b u e
theorem trk_upd {B : Addr → Prop} {H : Hp} {p : Addr} {o : HO} (h : ∀ a, B a → H a ≠ none) : ∀ a, B a → upd H p o a ≠ none := fun a b => by
  by_cases e : a = p
  · rw [e, upd_same]
    exact fun z => nomatch z
  · rw [upd_ne e]
    exact h a b
section
variable {K : PySem.W.Frag}
/-- nothing changes; B: what the caller holds back -/
def pureM (K : PySem.W.Frag) (B : Addr → Prop) : Mode K where
  B := B
  okX := fun _ H => ∀ a, B a → H a ≠ none
  R := Same
  F := Same
  refl := Same.refl
  trans := Same.trans
  keep := fun s => Same.keep s
  freeX := fun _ s e => s.free e
  trkX := fun h b => h _ b
  stabX := fun h s a b e => h a b (s.free e)
  sameX := fun _ s => s
  moreS := fun h _ => h
  less := fun h _ => h
  fr := Same.trans
  mutfS := fun {S H0 H H'} s h e b u q => by
    rw [e b fun z => by rw [h b z] at q; cases q]
    exact s b u q
  mutR := fun _ s h => Same.mut s h
  mutXS := fun {X S H0 H H'} _ h ok e a b => by
    rw [e a fun z => (h a z).2.1 b]
    exact ok a b
  fback := fun s e => s.free e
/-- the list at p grows; it holds ds now -/
def Mode.bld (M : Mode K) (p : Addr) (ds : List Dt) : Mode K where
  B := fun b => M.B b ∨ b = p
  okX := fun X H => M.okX (fun b => X b ∨ b = p) H ∧ ¬ M.B p ∧ ∃ xs, H p = some (.lst xs) ∧ AtAll K (fun b => (M.B b ∨ b = p) ∨ X b) H ds xs
  R := fun H H' => M.R H H' ∧ ∀ o, H p = some o → H' p = some o
  F := fun H0 H => M.F H0 H ∧ H0 p = none
  refl := fun H => ⟨M.refl H, fun _ e => e⟩
  trans := fun a b => ⟨M.trans a.1 b.1, fun o e => b.2 o (a.2 o e)⟩
  keep := fun h b o nb e => M.keep h.1 b o (fun z => nb (.inl z)) e
  freeX := fun h r e => M.freeX h.1 r.1 e
  trkX := fun {X H a} h b => b.elim (fun z => M.trkX h.1 z) fun e => by
    obtain ⟨xs, q, _⟩ := h.2.2
    rw [e, q]
    exact fun z => nomatch z
  stabX := fun {X H H'} h r => by
    obtain ⟨xs, q, hx⟩ := h.2.2
    exact ⟨M.stabX h.1 r.1, h.2.1, xs, r.2 _ q, hx.keep fun b o nb e => M.keep r.1 b o (fun z => nb (.inl (.inl z))) e⟩
  sameX := fun h s => ⟨M.sameX h.1 s, fun o e => s _ o e⟩
  moreS := fun {X S H} h hq => by
    obtain ⟨xs, e, hx⟩ := h.2.2
    refine ⟨M.less (M.moreS h.1 hq) fun a z => ?_, h.2.1, xs, e, (hx.moreS hq).less fun a z => ?_⟩
    · rcases z with (z | z) | z
      · exact .inl (.inl z)
      · exact .inr z
      · exact .inl (.inr z)
    · rcases z with z | z | z
      · exact .inl (.inl z)
      · exact .inl (.inr z)
      · exact .inr z
  less := fun {X X' H} h k => by
    obtain ⟨xs, e, hx⟩ := h.2.2
    exact ⟨M.less h.1 fun a z => z.imp (k a) id, h.2.1, xs, e, hx.less fun a z => z.imp id (k a)⟩
  fr := fun f r => ⟨M.fr f.1 r.1, f.2⟩
  mutfS := fun f h e => ⟨M.mutfS f.1 h e, f.2⟩
  mutR := fun {X H H' q o} ok r h => by
    obtain ⟨xs, e, hs⟩ := ok.2.2
    exact ⟨M.mutR ok.1 r.1 h, fun u z => by rw [upd_ne (ne_of_none z h)]; exact r.2 u z⟩
  mutXS := fun {X S H0 H H'} f h ok eq => by
    obtain ⟨xs, e, hs⟩ := ok.2.2
    refine ⟨M.mutXS f.1 (fun a z => ⟨(h a z).1, fun b => (h a z).2.1 (.inl b), .inl (h a z).2.2⟩) ok.1 eq, ok.2.1, xs, by rw [eq p fun z => (h p z).2.1 (.inr rfl)]; exact e, hs.keep fun b u n e => ?_⟩
    rw [eq b fun z => n (.inr (h b z).2.2)]
    exact e
  fback := fun f e => M.fback f.1 e
end

/-! ### the script's state: the list at st -/
def StOk (st c : Addr) (ns : List Int) (H : Hp) : Prop := (c ≠ st ∧ ns.length ≤ 63) ∧ H c = some (.lst (ns.map V.int)) ∧ ∃ (n k : Int) (m : Bool), H st = some (.lst [.ref c, .int n, .int k, .bl m])
/-- all but st stands, and st is a state again -/
def Ks (st c : Addr) (ns : List Int) (H H' : Hp) : Prop := (∀ b o, b ≠ st → H b = some o → H' b = some o) ∧ (StOk st c ns H → StOk st c ns H')
theorem Ks.refl {st c : Addr} {ns : List Int} (H : Hp) : Ks st c ns H H := ⟨fun _ _ _ e => e, fun h => h⟩
theorem Ks.trans {st c : Addr} {ns : List Int} {H H1 H2 : Hp} (a : Ks st c ns H H1) (b : Ks st c ns H1 H2) : Ks st c ns H H2 := ⟨fun x o n e => b.1 x o n (a.1 x o n e), fun h => b.2 (a.2 h)⟩
theorem StOk.same {st c : Addr} {ns : List Int} {H H' : Hp} (h : StOk st c ns H) (s : Same H H') : StOk st c ns H' := by
  obtain ⟨h1, h2, n, k, m, h3⟩ := h
  exact ⟨h1, s _ _ h2, n, k, m, s _ _ h3⟩
theorem Ks.of {st c : Addr} {ns : List Int} {H H' : Hp} (s : Same H H') : Ks st c ns H H' := ⟨fun b o _ e => s b o e, fun h => h.same s⟩
/-- B: what the caller holds back, st among it -/
def stM (K : PySem.W.Frag) (B : Addr → Prop) (st c : Addr) (ns : List Int) (hB : B st) : Mode K where
  B := B
  okX := fun _ H => (∀ a, B a → H a ≠ none) ∧ StOk st c ns H
  R := Ks st c ns
  F := fun H0 H => StOk st c ns H0 ∧ Ks st c ns H0 H
  refl := Ks.refl
  trans := Ks.trans
  keep := fun s b o nb e => s.1 b o (fun z => nb (z ▸ hB)) e
  freeX := fun {X H H' p} h s e => by
    cases q : H p with
    | none => rfl
    | some o =>
      by_cases hp : p = st
      · obtain ⟨_, _, n, k, m, h3⟩ := s.2 h.2
        rw [hp, h3] at e
        cases e
      · rw [s.1 p o hp q] at e
        cases e
  trkX := fun h b => h.1 _ b
  stabX := fun {X H H'} h s => by
    refine ⟨fun a b e => ?_, s.2 h.2⟩
    by_cases hp : a = st
    · obtain ⟨_, _, n, k, m, h3⟩ := s.2 h.2
      rw [hp, h3] at e
      cases e
    · cases q : H a with
      | none => exact h.1 a b q
      | some o =>
        rw [s.1 a o hp q] at e
        cases e
  sameX := fun _ s => Ks.of s
  moreS := fun h _ => h
  less := fun h _ => h
  fr := fun f r => ⟨f.1, f.2.trans r⟩
  mutfS := fun {S H0 H H'} f h eq => by
    have on : ∀ {a o}, H0 a = some o → ¬ S a := fun {a o} e z => by rw [h a z] at e; cases e
    refine ⟨f.1, fun b u n e => ?_, fun h0 => ?_⟩
    · rw [eq b (on e)]
      exact f.2.1 b u n e
    · obtain ⟨h1, h2, n, k, m, h3⟩ := h0
      obtain ⟨_, g2, n', k', m', g3⟩ := f.2.2 ⟨h1, h2, n, k, m, h3⟩
      exact ⟨h1, by rw [eq c (on h2)]; exact g2, n', k', m', by rw [eq st (on h3)]; exact g3⟩
  mutR := fun {X H H' p o} ok r h => ⟨fun b u n e => by
    rw [upd_ne (ne_of_none e h)]
    exact r.1 b u n e, fun h0 => by
    obtain ⟨h1, h2, n, k, m, h3⟩ := h0
    obtain ⟨_, g2, n', k', m', g3⟩ := r.2 ⟨h1, h2, n, k, m, h3⟩
    exact ⟨h1, by rw [upd_ne (ne_of_none h2 h)]; exact g2, n', k', m', by rw [upd_ne (ne_of_none h3 h)]; exact g3⟩⟩
  mutXS := fun {X S H0 H H'} f h ok eq => by
    have on : ∀ {a o}, H0 a = some o → ¬ S a := fun {a o} e z => by rw [(h a z).1] at e; cases e
    obtain ⟨h1, h2, n, k, m, h3⟩ := f.1
    obtain ⟨_, g2, n', k', m', g3⟩ := ok.2
    exact ⟨fun a b => by rw [eq a fun z => (h a z).2.1 b]; exact ok.1 a b, h1, by rw [eq c (on h2)]; exact g2, n', k', m', by rw [eq st (on h3)]; exact g3⟩
  fback := fun {H0 H p} f e => by
    cases q : H0 p with
    | none => rfl
    | some o =>
      by_cases hp : p = st
      · obtain ⟨_, _, n, k, m, h3⟩ := f.2.2 f.1
        rw [hp, h3] at e
        cases e
      · rw [f.2.1 p o hp q] at e
        cases e
end Lf

/-! what expressions, tests, arguments give, as data -/
namespace Lf
open PySem PySem.Spec PyProof.Rows L2
section
variable {K : PySem.W.Frag} {M : Mode K} {G : List (Option Dt)}
def Xe (M : Mode K) (G : List (Option Dt)) (te : TE) (P : Dt → Prop) : Prop := ∀ (σ : L2.St) (H : Hp) (Q : VK), M.ok H → Env K M.B H G σ → (∀ v d H2, M.R H H2 → P d → At K M.B H2 d v → Q v H2) → te σ H Q
abbrev Xd (M : Mode K) (G : List (Option Dt)) (te : TE) (d : Dt) : Prop := Xe M G te (· = d)
def Xt (M : Mode K) (G : List (Option Dt)) (t : TT) (P : Bool → Prop) : Prop := ∀ (σ : L2.St) (H : Hp) (Q : Bool → Hp → Prop), M.ok H → Env K M.B H G σ → (∀ b H2, M.R H H2 → P b → Q b H2) → t σ H Q
abbrev Xb (M : Mode K) (G : List (Option Dt)) (t : TT) (b : Bool) : Prop := Xt M G t (· = b)
def Xa (M : Mode K) (G : List (Option Dt)) (t : TA) (P : List Dt → Prop) : Prop := ∀ (σ : L2.St) (H : Hp) (Q : List V → Hp → Prop), M.ok H → Env K M.B H G σ → (∀ vs ds H2, M.R H H2 → P ds → AtAll K M.B H2 ds vs → Q vs H2) → t σ H Q
/-- an operation on two values -/
def Rv (M : Mode K) (r : R2) (a b : Dt) (P : Dt → Prop) : Prop := ∀ (x y : V) (H : Hp) (Q : VK), M.ok H → At K M.B H a x → At K M.B H b y → (∀ v d H2, M.R H H2 → P d → At K M.B H2 d v → Q v H2) → r x y H Q
/-- a call on values -/
def Rc (M : Mode K) (r : List V → Hp → VK → Prop) (ds : List Dt) (P : Dt → Prop) : Prop := ∀ (vs : List V) (H : Hp) (Q : VK), M.ok H → AtAll K M.B H ds vs → (∀ v d H2, M.R H H2 → P d → At K M.B H2 d v → Q v H2) → r vs H Q

theorem Mode.knew (M : Mode K) {H : Hp} {p : Addr} {o : HO} (ok : M.ok H) (h : H p = none) : M.R H (upd H p o) := M.same ok (Same.new h)
theorem Mode.nB (M : Mode K) {H : Hp} {p : Addr} (ok : M.ok H) (h : H p = none) : ¬ M.B p := fun b => M.trk ok b h
theorem Xe.mono {te : TE} {P P' : Dt → Prop} (h : Xe M G te P) (i : ∀ d, P d → P' d) : Xe M G te P' := fun σ H Q ok e k => h σ H Q ok e fun v d H2 r p a => k v d H2 r (i d p) a
theorem Xt.mono {t : TT} {P P' : Bool → Prop} (h : Xt M G t P) (i : ∀ d, P d → P' d) : Xt M G t P' := fun σ H Q ok e k => h σ H Q ok e fun d H2 r p => k d H2 r (i d p)
theorem Xe.is {te : TE} {d d' : Dt} (h : Xd M G te d) (e : d = d') : Xd M G te d' := e ▸ h
theorem Xt.is {te : TT} {d d' : Bool} (h : Xb M G te d) (e : d = d') : Xb M G te d' := e ▸ h

/-! ### leaves -/
theorem x_var {i : Nat} {d : Dt} (h : G[i]? = some (some d)) : Xd M G (tVar i) d := fun σ H Q _ e k => by
  obtain ⟨v, h1, h2⟩ := e.2 i d h
  exact ⟨v, h1, k v d H (M.refl H) rfl h2⟩
theorem x_int {i : Int} : Xd M G (tC (.int i)) (.int i) := fun σ H Q _ e k => k _ _ H (M.refl H) rfl rfl
theorem x_str {i : Str} : Xd M G (tC (.str i)) (.str i) := fun σ H Q _ e k => k _ _ H (M.refl H) rfl rfl
theorem x_bl {i : Bool} : Xd M G (tC (.bl i)) (.bl i) := fun σ H Q _ e k => k _ _ H (M.refl H) rfl rfl
theorem x_ty {n : String} : Xd M G (tC (.ty n)) (.ty n) := fun σ H Q _ e k => k _ _ H (M.refl H) rfl rfl
theorem x_ref {a : Addr} : Xd M G (tC (.ref a)) (.raw a) := fun σ H Q _ e k => k _ _ H (M.refl H) rfl rfl
theorem x_non : Xd M G (tC .non) .non := fun σ H Q _ e k => k _ _ H (M.refl H) rfl rfl

/-! ### operators -/
theorem x_op {r : R2} {ta tb : TE} {Pa Pb P : Dt → Prop} (ha : Xe M G ta Pa) (hb : Xe M G tb Pb) (hr : ∀ a b, Pa a → Pb b → Rv M r a b P) : Xe M G (tOp r ta tb) P := fun σ H Q ok e k =>
  ha σ H _ ok e fun x a H1 r1 pa xa => hb σ H1 _ (M.stab ok r1) (e.keep (M.keep r1)) fun y b H2 r2 pb yb =>
    hr a b pa pb x y H2 Q (M.stab (M.stab ok r1) r2) (xa.keep (M.keep r2)) yb fun v d H3 r3 p z => k v d H3 (M.trans (M.trans r1 r2) r3) p z
theorem xd_op {r : R2} {ta tb : TE} {a b c : Dt} (ha : Xd M G ta a) (hb : Xd M G tb b) (hr : Rv M r a b (· = c)) : Xd M G (tOp r ta tb) c := x_op ha hb fun _ _ e1 e2 => by rw [e1, e2]; exact hr
theorem rv_int {f : Int → Int → Int} {i j : Int} : Rv M (rI0 fun i j => .int (f i j)) (.int i) (.int j) (· = .int (f i j)) := fun x y H Q ok hx hy k => ⟨i, j, hx, hy, k _ _ H (M.refl H) rfl rfl⟩
theorem rv_cmp {f : Int → Int → Bool} {i j : Int} : Rv M (rI0 fun i j => .bl (f i j)) (.int i) (.int j) (· = .bl (f i j)) := fun x y H Q ok hx hy k => ⟨i, j, hx, hy, k _ _ H (M.refl H) rfl rfl⟩
theorem rv_intC {C : Int → Int → Prop} {f : Int → Int → Int} {i j : Int} (hc : C i j) : Rv M (rI C fun i j => .int (f i j)) (.int i) (.int j) (· = .int (f i j)) := fun x y H Q ok hx hy k => ⟨i, j, hx, hy, hc, k _ _ H (M.refl H) rfl rfl⟩
theorem rv_eqI {i j : Int} : Rv M rEq (.int i) (.int j) (· = .bl (decide (i = j))) := fun x y H Q ok hx hy k => by
  rw [show x = V.int i from hx, show y = V.int j from hy]
  refine ⟨rfl, k _ _ H (M.refl H) rfl ?_⟩
  show V.bl _ = V.bl _
  exact congrArg V.bl (decide_eq_decide.mpr ⟨fun e => by injection e, fun e => by rw [e]⟩)
theorem rv_neI {i j : Int} : Rv M rNe (.int i) (.int j) (· = .bl (!decide (i = j))) := fun x y H Q ok hx hy k => by
  rw [show x = V.int i from hx, show y = V.int j from hy]
  refine ⟨rfl, k _ _ H (M.refl H) rfl ?_⟩
  show V.bl _ = V.bl _
  exact congrArg (fun b => V.bl (!b)) (decide_eq_decide.mpr ⟨fun e => by injection e, fun e => by rw [e]⟩)
theorem rv_eqS {i j : Str} : Rv M rEq (.str i) (.str j) (· = .bl (decide (i = j))) := fun x y H Q ok hx hy k => by
  rw [show x = V.str i from hx, show y = V.str j from hy]
  refine ⟨rfl, k _ _ H (M.refl H) rfl ?_⟩
  show V.bl _ = V.bl _
  exact congrArg V.bl (decide_eq_decide.mpr ⟨fun e => by injection e, fun e => by rw [e]⟩)
theorem rv_neS {i j : Str} : Rv M rNe (.str i) (.str j) (· = .bl (!decide (i = j))) := fun x y H Q ok hx hy k => by
  rw [show x = V.str i from hx, show y = V.str j from hy]
  refine ⟨rfl, k _ _ H (M.refl H) rfl ?_⟩
  show V.bl _ = V.bl _
  exact congrArg (fun b => V.bl (!b)) (decide_eq_decide.mpr ⟨fun e => by injection e, fun e => by rw [e]⟩)
theorem rv_eqB {i j : Bool} : Rv M rEq (.bl i) (.bl j) (· = .bl (decide (i = j))) := fun x y H Q ok hx hy k => by
  rw [show x = V.bl i from hx, show y = V.bl j from hy]
  refine ⟨rfl, k _ _ H (M.refl H) rfl ?_⟩
  show V.bl _ = V.bl _
  exact congrArg V.bl (decide_eq_decide.mpr ⟨fun e => by injection e, fun e => by rw [e]⟩)
theorem rv_neB {i j : Bool} : Rv M rNe (.bl i) (.bl j) (· = .bl (!decide (i = j))) := fun x y H Q ok hx hy k => by
  rw [show x = V.bl i from hx, show y = V.bl j from hy]
  refine ⟨rfl, k _ _ H (M.refl H) rfl ?_⟩
  show V.bl _ = V.bl _
  exact congrArg (fun b => V.bl (!b)) (decide_eq_decide.mpr ⟨fun e => by injection e, fun e => by rw [e]⟩)
theorem rv_ixL {ds : List Dt} {i : Int} {d : Dt} (h : atI ds i = some d) : Rv M (rIxL K) (.lst ds) (.int i) (· = d) := fun x y H Q ok hx hy k => by
  obtain ⟨a, xs, e, nb, ha, hs⟩ := hx
  obtain ⟨v, h1, h2⟩ := hs.atI h
  exact ⟨a, xs, i, v, e, hy, SqL.of ha, h1, k v d H (M.refl H) rfl h2⟩
theorem rv_ixT {ds : List Dt} {i : Int} {d : Dt} (h : atI ds i = some d) : Rv M (rIxT K) (.tup ds) (.int i) (· = d) := fun x y H Q ok hx hy k => by
  obtain ⟨a, xs, e, nb, ha, hs⟩ := hx
  obtain ⟨v, h1, h2⟩ := hs.atI h
  exact ⟨a, xs, i, v, e, hy, SqT.of ha, h1, k v d H (M.refl H) rfl h2⟩
theorem rv_ixSL {ds : List Dt} {i : Int} {d : Dt} (h : atI ds i = some d) : Rv M (rIx K) (.lst ds) (.int i) (· = d) := fun x y H Q ok hx hy k => .inl (rv_ixL h x y H Q ok hx hy k)
theorem rv_ixST {ds : List Dt} {i : Int} {d : Dt} (h : atI ds i = some d) : Rv M (rIx K) (.tup ds) (.int i) (· = d) := fun x y H Q ok hx hy k => .inr (.inl (rv_ixT h x y H Q ok hx hy k))
theorem atN {ds : List Dt} {i : Nat} {d : Dt} (h : ds[i]? = some d) : atI ds (i : Int) = some d := atI_nat h
theorem rv_eqD {a b : Dt} (oa : okD a = true) (ob : okD b = true) (sa : SeqAt.shaped (pd a) = true) (sb : SeqAt.shaped (pd b) = true) : Rv M (rEqD K) a b (· = .bl (PyData.eqv (pd a) (pd b))) := fun x y H Q ok hx hy k =>
  ⟨_, _, hx.dp a x oa, hy.dp b y ob, sa, sb, k _ _ H (M.refl H) rfl rfl⟩
theorem rv_neD {a b : Dt} (oa : okD a = true) (ob : okD b = true) (sa : SeqAt.shaped (pd a) = true) (sb : SeqAt.shaped (pd b) = true) : Rv M (rNeD K) a b (· = .bl (!PyData.eqv (pd a) (pd b))) := fun x y H Q ok hx hy k =>
  ⟨_, _, hx.dp a x oa, hy.dp b y ob, sa, sb, k _ _ H (M.refl H) rfl rfl⟩
theorem rv_cat {as bs : List Dt} (hz : as.length + bs.length ≤ sizeLine) : Rv M rCat (.lst as) (.lst bs) (· = .lst (as ++ bs)) := fun x y H Q ok hx hy k => by
  obtain ⟨a, xs, e, nb, ha, hs⟩ := hx
  obtain ⟨b, ys, e', nb', hb, hs'⟩ := hy
  refine ⟨a, b, xs, ys, e, e', ha, hb, by rw [hs.length, hs'.length]; exact hz, fun p hp => k _ _ _ (M.knew ok hp) rfl ⟨p, _, rfl, M.nB ok hp, upd_same, ?_⟩⟩
  exact (hs.app hs').keep (M.keep (M.knew ok hp))
theorem rv_rep {as : List Dt} {n : Int} (h0 : 0 ≤ n) (h1 : n ≤ 1000) (hz : as.length ≤ 1000) : Rv M rRep (.lst as) (.int n) (· = .lst (List.replicate n.toNat as).flatten) := fun x y H Q ok hx hy k => by
  obtain ⟨a, xs, e, nb, ha, hs⟩ := hx
  have key : ∀ m : Nat, AtAll K M.B H (List.replicate m as).flatten (List.replicate m xs).flatten := by
    intro m
    induction m with
    | zero => exact rfl
    | succ m ih =>
      rw [List.replicate_succ, List.replicate_succ, List.flatten_cons, List.flatten_cons]
      exact hs.app ih
  refine ⟨a, n, xs, e, hy, ha, by omega, by omega, ?_, fun p hp => k _ _ _ (M.knew ok hp) rfl ⟨p, _, rfl, M.nB ok hp, upd_same, ?_⟩⟩
  · rw [hs.length]
    have h2 : n.toNat ≤ 1000 := by omega
    exact Nat.le_trans (Nat.mul_le_mul hz h2) (by decide)
  · exact (key n.toNat).keep (M.keep (M.knew ok hp))
/-- a text in a written list or tuple of texts -/
def isL (neg : Bool) (x : Str) (xs : List Str) : Bool := if neg then !decide (x ∈ xs) else decide (x ∈ xs)
theorem inV_str (x : Str) : ∀ xs : List Str, inV (.str x) (xs.map V.str) = decide (x ∈ xs)
  | [] => rfl
  | y :: ys => by
    show (eqV (.str y) (.str x) || inV (.str x) (ys.map V.str)) = decide (x ∈ y :: ys)
    rw [inV_str x ys]
    have e : eqV (.str y) (.str x) = decide (x = y) := by
      show (y == x) = decide (x = y)
      rw [Bool.beq_eq_decide_eq]
      exact decide_eq_decide.mpr ⟨Eq.symm, Eq.symm⟩
    rw [e]
    simp [List.mem_cons]
theorem flat_strs : ∀ xs : List Str, (xs.map V.str).all flatV = true
  | [] => rfl
  | _ :: ys => by rw [List.map_cons, List.all_cons, flat_strs ys]; rfl
theorem inV_int (x : Int) : ∀ xs : List Int, inV (.int x) (xs.map V.int) = decide (x ∈ xs)
  | [] => rfl
  | y :: ys => by
    show (eqV (.int y) (.int x) || inV (.int x) (ys.map V.int)) = decide (x ∈ y :: ys)
    rw [inV_int x ys]
    have e : eqV (.int y) (.int x) = decide (x = y) := by
      show (y == x) = decide (x = y)
      rw [Bool.beq_eq_decide_eq]
      exact decide_eq_decide.mpr ⟨Eq.symm, Eq.symm⟩
    rw [e]
    simp [List.mem_cons]
theorem flat_ints : ∀ xs : List Int, (xs.map V.int).all flatV = true
  | [] => rfl
  | _ :: ys => by rw [List.map_cons, List.all_cons, flat_ints ys]; rfl
theorem rv_inTS {neg : Bool} {x : Str} {xs : List Str} : Rv M (rIn K neg) (.str x) (.tup (xs.map .str)) (· = .bl (if neg then !decide (x ∈ xs) else decide (x ∈ xs))) := fun v y H Q ok hx hy k => by
  obtain ⟨a, ys, e, nb, ha, hs⟩ := hy
  rw [AtAll.strs.mp hs] at ha
  refine ⟨a, _, e, .inr (SqT.of ha), by rw [show v = V.str x from hx]; rfl, flat_strs xs, k _ _ H (M.refl H) rfl ?_⟩
  rw [show v = V.str x from hx, inV_str]
  exact rfl
theorem rv_inLS {neg : Bool} {x : Str} {xs : List Str} : Rv M (rIn K neg) (.str x) (.lst (xs.map .str)) (· = .bl (if neg then !decide (x ∈ xs) else decide (x ∈ xs))) := fun v y H Q ok hx hy k => by
  obtain ⟨a, ys, e, nb, ha, hs⟩ := hy
  rw [AtAll.strs.mp hs] at ha
  refine ⟨a, _, e, .inl (SqL.of ha), by rw [show v = V.str x from hx]; rfl, flat_strs xs, k _ _ H (M.refl H) rfl ?_⟩
  rw [show v = V.str x from hx, inV_str]
  exact rfl
theorem rv_inLI {neg : Bool} {x : Int} {xs : List Int} : Rv M (rIn K neg) (.int x) (.lst (xs.map .int)) (· = .bl (if neg then !decide (x ∈ xs) else decide (x ∈ xs))) := fun v y H Q ok hx hy k => by
  obtain ⟨a, ys, e, nb, ha, hs⟩ := hy
  rw [AtAll.ints.mp hs] at ha
  refine ⟨a, _, e, .inl (SqL.of ha), by rw [show v = V.int x from hx]; rfl, flat_ints xs, k _ _ H (M.refl H) rfl ?_⟩
  rw [show v = V.int x from hx, inV_int]
  exact rfl
theorem rv_inTI {neg : Bool} {x : Int} {xs : List Int} : Rv M (rIn K neg) (.int x) (.tup (xs.map .int)) (· = .bl (if neg then !decide (x ∈ xs) else decide (x ∈ xs))) := fun v y H Q ok hx hy k => by
  obtain ⟨a, ys, e, nb, ha, hs⟩ := hy
  rw [AtAll.ints.mp hs] at ha
  refine ⟨a, _, e, .inr (SqT.of ha), by rw [show v = V.int x from hx]; rfl, flat_ints xs, k _ _ H (M.refl H) rfl ?_⟩
  rw [show v = V.int x from hx, inV_int]
  exact rfl
/-- a text in a written tuple of the top -/
theorem x_inK {neg : Bool} {ta : TE} {a : Addr} {x : Str} {xs : List Str} (h : Xd M G ta (.str x)) (ha : ∀ H, SqT K H a (xs.map V.str)) : Xd M G (tOp (rIn K neg) ta (tC (.ref a))) (.bl (if neg then !decide (x ∈ xs) else decide (x ∈ xs))) := fun σ H Q ok e k =>
  h σ H _ ok e fun v d H1 r1 ed hv => ⟨a, _, rfl, .inr (ha H1), by rw [show v = V.str x from (by rw [ed] at hv; exact hv)]; rfl, flat_strs xs, k _ _ H1 r1 rfl (by
    rw [show v = V.str x from (by rw [ed] at hv; exact hv), inV_str]
    exact rfl)⟩
theorem rv_isN {a : Dt} (b : Bool) (hb : (∃ o, b = true ∧ a = .non ∧ o = ()) ∨ (b = false ∧ ∀ (B : Addr → Prop) H v, At K B H a v → v ≠ .non)) : Rv M (fun x y H Q => y = .non ∧ Q (.bl (decide (x = .non))) H) a .non (· = .bl b) := fun x y H Q ok hx hy k => by
  refine ⟨hy, k _ _ H (M.refl H) rfl ?_⟩
  rcases hb with ⟨_, e, ea, _⟩ | ⟨e, hn⟩
  · rw [ea] at hx
    rw [show x = V.non from hx, e]
    exact rfl
  · rw [decide_eq_false (hn _ _ _ hx), e]
    exact rfl

/-! ### arguments, displays -/
theorem xa_nil : Xa M G tNil (· = []) := fun σ H Q _ e k => k [] [] H (M.refl H) rfl rfl
theorem xa_cons {te : TE} {tr : TA} {P : Dt → Prop} {R : List Dt → Prop} {S : List Dt → Prop} (h : Xe M G te P) (hr : Xa M G tr R) (hS : ∀ d ds, P d → R ds → S (d :: ds)) : Xa M G (tCons te tr) S := fun σ H Q ok e k =>
  h σ H _ ok e fun v d H1 r1 pd hv => hr σ H1 _ (M.stab ok r1) (e.keep (M.keep r1)) fun vs ds H2 r2 rd hs => k _ _ H2 (M.trans r1 r2) (hS d ds pd rd) ⟨v, vs, rfl, hv.keep (M.keep r2), hs⟩
theorem xad_cons {te : TE} {tr : TA} {d : Dt} {ds : List Dt} (h : Xd M G te d) (hr : Xa M G tr (· = ds)) : Xa M G (tCons te tr) (· = d :: ds) := xa_cons h hr fun _ _ e1 e2 => by rw [e1, e2]
theorem x_tup {ta : TA} {P : List Dt → Prop} {R : Dt → Prop} (h : Xa M G ta P) (hl : ∀ ds, P ds → ds.length ≤ 100000) (hR : ∀ ds, P ds → R (.tup ds)) : Xe M G (tTup ta) R := fun σ H Q ok e k =>
  h σ H _ ok e fun vs ds H1 r1 p hs => ⟨by rw [hs.length]; exact Nat.le_trans (hl ds p) (by decide), fun q hq => k _ _ _ (M.trans r1 (M.knew (M.stab ok r1) hq)) (hR ds p) ⟨q, vs, rfl, M.nB (M.stab ok r1) hq, upd_same, hs.keep (M.keep (M.knew (M.stab ok r1) hq))⟩⟩
theorem xd_tup {ta : TA} {ds : List Dt} (h : Xa M G ta (· = ds)) (hl : ds.length ≤ 100000 := by first | decide | assumption | omega) : Xd M G (tTup ta) (.tup ds) := x_tup h (fun _ e => by rw [e]; exact hl) fun _ e => by rw [e]
theorem x_lst {ta : TA} {P : List Dt → Prop} {R : Dt → Prop} (h : Xa M G ta P) (hl : ∀ ds, P ds → ds.length ≤ 100000) (hR : ∀ ds, P ds → R (.lst ds)) : Xe M G (tLst ta) R := fun σ H Q ok e k =>
  h σ H _ ok e fun vs ds H1 r1 p hs => ⟨by rw [hs.length]; exact Nat.le_trans (hl ds p) (by decide), fun q hq => k _ _ _ (M.trans r1 (M.knew (M.stab ok r1) hq)) (hR ds p) ⟨q, vs, rfl, M.nB (M.stab ok r1) hq, upd_same, hs.keep (M.keep (M.knew (M.stab ok r1) hq))⟩⟩
theorem xd_lst {ta : TA} {ds : List Dt} (h : Xa M G ta (· = ds)) (hl : ds.length ≤ 100000 := by first | decide | assumption | omega) : Xd M G (tLst ta) (.lst ds) := x_lst h (fun _ e => by rw [e]; exact hl) fun _ e => by rw [e]

/-! ### fields -/
theorem zip_lookup {d : Dt} {B : Addr → Prop} {H : Hp} {f : Str} : ∀ {ks : List Str} {ds : List Dt} {vs : List V}, (ks.zip ds).lookup f = some d → AtAll K B H ds vs → ∃ v, (ks.zip vs).lookup f = some v ∧ At K B H d v
  | [], _, _, e, _ => by cases e
  | _ :: _, [], _, e, _ => by cases e
  | k :: ks, x :: ds, vs, e, h => by
    obtain ⟨v, r, q, h1, h2⟩ := h
    subst q
    rw [List.zip_cons_cons, List.lookup_cons] at e ⊢
    cases c : (f == k) with
    | true =>
      rw [c] at e
      cases e
      exact ⟨v, rfl, h1⟩
    | false =>
      rw [c] at e
      exact zip_lookup e h2
theorem zip_none {f : Str} : ∀ {ks : List Str} {vs : List V}, f ∉ ks → (ks.zip vs).lookup f = none
  | [], _, _ => rfl
  | _ :: _, [], _ => rfl
  | k :: ks, v :: vs, h => by
    simp only [List.mem_cons, not_or] at h
    rw [List.zip_cons_cons, List.lookup_cons, show (f == k) = false from beq_eq_false_iff_ne.mpr h.1]
    exact zip_none h.2
theorem x_fld {te : TE} {c f : Str} {ks : List Str} {ds : List Dt} {d : Dt} (cl : Cls K (He.ga K c)) (na : NoAttr K (He.ga K c) f) (h : Xd M G te (.ins c ks ds)) (hf : (ks.zip ds).lookup f = some d) : Xd M G (tFld K te f) d := fun σ H Q ok e k =>
  h σ H _ ok e fun v d' H1 r1 ed hv => by
    rw [ed] at hv
    obtain ⟨a, dx, vs, q, nb, ha, hs⟩ := hv
    obtain ⟨w, h1, h2⟩ := zip_lookup hf hs
    exact ⟨a, _, dx, _, w, q, ha, cl, na, h1, k w d H1 r1 rfl h2⟩

/-! ### tests -/
theorem xt_test {te : TE} {P : Bool → Prop} (h : Xe M G te fun d => ∃ b, d = .bl b ∧ P b) : Xt M G (tTest te) P := fun σ H Q ok e k =>
  h σ H _ ok e fun v d H1 r1 p hv => by
    obtain ⟨b, eb, pb⟩ := p
    rw [eb] at hv
    exact ⟨b, hv, k b H1 r1 pb⟩
theorem xt_B {te : TE} {P : Bool → Prop} (h : Xe M G te fun d => ∃ b, d = .bl b ∧ P b) : Xt M G (tB te) P := fun σ H Q ok e k =>
  h σ H _ ok e fun v d H1 r1 p hv => by
    obtain ⟨b, eb, pb⟩ := p
    rw [eb] at hv
    exact ⟨b, hv, k b H1 r1 pb⟩
theorem xb_test {te : TE} {b : Bool} (h : Xd M G te (.bl b)) : Xb M G (tTest te) b := xt_test (h.mono fun _ e => ⟨b, e, rfl⟩)
theorem xb_B {te : TE} {b : Bool} (h : Xd M G te (.bl b)) : Xb M G (tB te) b := xt_B (h.mono fun _ e => ⟨b, e, rfl⟩)
theorem xt_and {t u : TT} {P P' R : Bool → Prop} (h1 : Xt M G t P) (h2 : P true → Xt M G u P') (hf : P false → R false) (ht : ∀ b, P' b → R b) : Xt M G (tAnd t u) R := fun σ H Q ok e k =>
  h1 σ H _ ok e fun b H1 r1 pb => by
    cases b with
    | true =>
      show u σ H1 Q
      exact h2 pb σ H1 Q (M.stab ok r1) (e.keep (M.keep r1)) fun b' H2 r2 pb' => k b' H2 (M.trans r1 r2) (ht b' pb')
    | false =>
      show Q false H1
      exact k false H1 r1 (hf pb)
theorem xb_and {t u : TT} {a b : Bool} (h1 : Xb M G t a) (h2 : a = true → Xb M G u b) : Xb M G (tAnd t u) (a && b) := by
  cases a with
  | true => exact xt_and h1 (fun _ => h2 rfl) (fun e => by cases e) fun b' e => e
  | false => exact xt_and (P' := fun _ => False) h1 (fun e => by cases e) (fun _ => rfl) fun b' e => e.elim
theorem xt_or {t u : TT} {P P' R : Bool → Prop} (h1 : Xt M G t P) (h2 : P false → Xt M G u P') (hf : P true → R true) (ht : ∀ b, P' b → R b) : Xt M G (tOr t u) R := fun σ H Q ok e k =>
  h1 σ H _ ok e fun b H1 r1 pb => by
    cases b with
    | false =>
      show u σ H1 Q
      exact h2 pb σ H1 Q (M.stab ok r1) (e.keep (M.keep r1)) fun b' H2 r2 pb' => k b' H2 (M.trans r1 r2) (ht b' pb')
    | true =>
      show Q true H1
      exact k true H1 r1 (hf pb)
theorem xb_or {t u : TT} {a b : Bool} (h1 : Xb M G t a) (h2 : a = false → Xb M G u b) : Xb M G (tOr t u) (a || b) := by
  cases a with
  | false => exact xt_or h1 (fun _ => h2 rfl) (fun e => by cases e) fun b' e => e
  | true => exact xt_or (P' := fun _ => False) h1 (fun e => by cases e) (fun _ => rfl) fun b' e => e.elim
theorem xb_not {t : TT} {a : Bool} (h1 : Xb M G t a) : Xb M G (tNot t) (!a) := fun σ H Q ok e k => h1 σ H _ ok e fun b H1 r1 pb => k (!b) H1 r1 (by rw [pb])
theorem x_andV {ta tb : TE} {a b : Bool} (h1 : Xd M G ta (.bl a)) (h2 : a = true → Xd M G tb (.bl b)) : Xd M G (tAndV ta tb) (.bl (a && b)) := fun σ H Q ok e k =>
  h1 σ H _ ok e fun v d H1 r1 ed hv => by
    rw [ed] at hv
    refine ⟨a, hv, ?_⟩
    cases a with
    | true =>
      show tb σ H1 Q
      exact h2 rfl σ H1 Q (M.stab ok r1) (e.keep (M.keep r1)) fun v' d' H2 r2 pd' hv' => k v' d' H2 (M.trans r1 r2) pd' hv'
    | false =>
      show Q (.bl false) H1
      exact k _ _ H1 r1 rfl rfl
theorem x_orV {ta tb : TE} {a b : Bool} (h1 : Xd M G ta (.bl a)) (h2 : a = false → Xd M G tb (.bl b)) : Xd M G (tOrV ta tb) (.bl (a || b)) := fun σ H Q ok e k =>
  h1 σ H _ ok e fun v d H1 r1 ed hv => by
    rw [ed] at hv
    refine ⟨a, hv, ?_⟩
    cases a with
    | false =>
      show tb σ H1 Q
      exact h2 rfl σ H1 Q (M.stab ok r1) (e.keep (M.keep r1)) fun v' d' H2 r2 pd' hv' => k v' d' H2 (M.trans r1 r2) pd' hv'
    | true =>
      show Q (.bl true) H1
      exact k _ _ H1 r1 rfl rfl
theorem x_notV {ta : TE} {a : Bool} (h1 : Xd M G ta (.bl a)) : Xd M G (tNotV ta) (.bl (!a)) := fun σ H Q ok e k =>
  h1 σ H _ ok e fun v d H1 r1 ed hv => by
    rw [ed] at hv
    exact ⟨a, hv, k _ _ H1 r1 rfl rfl⟩
theorem x_if {t : TT} {ta tb : TE} {P : Bool → Prop} {R : Dt → Prop} (h : Xt M G t P) (h1 : P true → Xe M G ta R) (h2 : P false → Xe M G tb R) : Xe M G (tIf t ta tb) R := fun σ H Q ok e k =>
  h σ H _ ok e fun b H1 r1 pb => by
    cases b with
    | true =>
      show ta σ H1 Q
      exact h1 pb σ H1 Q (M.stab ok r1) (e.keep (M.keep r1)) fun v d H2 r2 pd' hv => k v d H2 (M.trans r1 r2) pd' hv
    | false =>
      show tb σ H1 Q
      exact h2 pb σ H1 Q (M.stab ok r1) (e.keep (M.keep r1)) fun v d H2 r2 pd' hv => k v d H2 (M.trans r1 r2) pd' hv
theorem xd_if {t : TT} {ta tb : TE} {b : Bool} {d d' : Dt} (h : Xb M G t b) (h1 : b = true → Xd M G ta d) (h2 : b = false → Xd M G tb d') : Xd M G (tIf t ta tb) (if b = true then d else d') := by
  cases b with
  | true => exact x_if h (fun _ => h1 rfl) fun e => by cases e
  | false => exact x_if h (fun e => by cases e) fun _ => h2 rfl
/-- a < b < c -/
theorem x_chain {r r' : R2} {ta tb tc : TE} {a b c : Dt} {p q : Bool} (ha : Xd M G ta a) (hb : Xd M G tb b) (hc : p = true → Xd M G tc c) (hr : Rv M r a b (· = .bl p)) (hr' : p = true → Rv M r' b c (· = .bl q)) :
    Xd M G (tChain r r' ta tb tc) (.bl (p && q)) := fun σ H Q ok e k =>
  ha σ H _ ok e fun x a' H1 r1 pa xa => hb σ H1 _ (M.stab ok r1) (e.keep (M.keep r1)) fun y b' H2 r2 pb yb => by
    rw [pa] at xa
    rw [pb] at yb
    have o2 := M.stab (M.stab ok r1) r2
    refine hr x y H2 _ o2 (xa.keep (M.keep r2)) yb fun z dz H3 r3 ez hz => ?_
    rw [ez] at hz
    refine ⟨p, hz, ?_⟩
    cases p with
    | true =>
      refine iteT ?_
      refine hc rfl σ H3 _ (M.stab o2 r3) (e.keep (M.keep (M.trans (M.trans r1 r2) r3))) fun w cw H4 r4 ec hw => ?_
      rw [ec] at hw
      exact hr' rfl y w H4 Q (M.stab (M.stab o2 r3) r4) (yb.keep (M.keep (M.trans r3 r4))) hw fun v d H5 r5 pd' hv => k v d H5 (M.trans (M.trans (M.trans (M.trans r1 r2) r3) r4) r5) pd' hv
    | false =>
      refine iteF ?_
      exact k _ _ H3 (M.trans (M.trans r1 r2) r3) rfl rfl

/-! ### calls of built-ins -/
theorem x_cb {r : List V → Hp → VK → Prop} {ta : TA} {P : List Dt → Prop} {R : Dt → Prop} (h : Xa M G ta P) (hr : ∀ ds, P ds → Rc M r ds R) : Xe M G (tCB r ta) R := fun σ H Q ok e k =>
  h σ H _ ok e fun vs ds H1 r1 p hs => hr ds p vs H1 Q (M.stab ok r1) hs fun v d H2 r2 pd' hv => k v d H2 (M.trans r1 r2) pd' hv
theorem xd_cb {r : List V → Hp → VK → Prop} {ta : TA} {ds : List Dt} {d : Dt} (h : Xa M G ta (· = ds)) (hr : Rc M r ds (· = d)) : Xd M G (tCB r ta) d := x_cb h fun _ e => by rw [e]; exact hr
def rLenQ (K : PySem.W.Frag) : List V → Hp → VK → Prop := fun xs H Q => ∃ p ys, xs = [.ref p] ∧ (SqL K H p ys ∨ SqT K H p ys) ∧ Q (.int (ys.length : Nat)) H
theorem call_lenQ {X : Cx} : CallR X (.builtin "len") (rLenQ X.K) := call_len_seq
def rLenZ : List V → Hp → VK → Prop := fun xs H Q => ∃ z : Str, xs = [.str z] ∧ z.length ≤ sizeLine ∧ Q (.int (z.length : Nat)) H
theorem call_lenZ {X : Cx} : CallR X (.builtin "len") rLenZ := call_len_str
def rListQ (K : PySem.W.Frag) : List V → Hp → VK → Prop := fun xs H Q => ∃ p ys, xs = [.ref p] ∧ (SqL K H p ys ∨ SqT K H p ys) ∧ ∀ l, H l = none → Q (.ref l) (upd H l (.lst ys))
theorem call_listQ {X : Cx} : CallR X (.type "list") (rListQ X.K) := call_list_of
def rTupQ (K : PySem.W.Frag) : List V → Hp → VK → Prop := fun xs H Q => ∃ p ys, xs = [.ref p] ∧ ((SqL K H p ys ∧ ∀ l, H l = none → Q (.ref l) (upd H l (.tup ys))) ∨ (SqT K H p ys ∧ Q (.ref p) H))
theorem call_tupQ {X : Cx} : CallR X (.type "tuple") (rTupQ X.K) := call_tuple_of
def rIntQ : List V → Hp → VK → Prop := fun xs H Q => (∃ i, xs = [.int i] ∧ Q (.int i) H) ∨ ∃ k, xs = [.bl k] ∧ Q (.int (if k then 1 else 0)) H
theorem call_intQ {X : Cx} : CallR X (.type "int") rIntQ := call_int1
theorem one_of {ds : List Dt} {vs : List V} {B : Addr → Prop} {H : Hp} {d : Dt} (h : AtAll K B H [d] vs) : ∃ v, vs = [v] ∧ At K B H d v := by
  obtain ⟨v, r, e, h1, h2⟩ := h
  exact ⟨v, by rw [e, show r = [] from h2], h1⟩
theorem rc_lenL {ds : List Dt} : Rc M (rLenQ K) [.lst ds] (· = .int (ds.length : Nat)) := fun vs H Q ok hs k => by
  obtain ⟨v, e, a, xs, q, nb, ha, hx⟩ := one_of (ds := []) hs
  exact ⟨a, xs, by rw [e, q], .inl (SqL.of ha), by rw [hx.length]; exact k _ _ H (M.refl H) rfl rfl⟩
theorem rc_lenT {ds : List Dt} : Rc M (rLenQ K) [.tup ds] (· = .int (ds.length : Nat)) := fun vs H Q ok hs k => by
  obtain ⟨v, e, a, xs, q, nb, ha, hx⟩ := one_of (ds := []) hs
  exact ⟨a, xs, by rw [e, q], .inr (SqT.of ha), by rw [hx.length]; exact k _ _ H (M.refl H) rfl rfl⟩
theorem rc_lenZ {z : Str} (hz : z.length ≤ sizeLine) : Rc M rLenZ [.str z] (· = .int (z.length : Nat)) := fun vs H Q ok hs k => by
  obtain ⟨v, e, q⟩ := one_of (ds := []) hs
  exact ⟨z, by rw [e, show v = V.str z from q], hz, k _ _ H (M.refl H) rfl rfl⟩
theorem rc_listL {ds : List Dt} : Rc M (rListQ K) [.lst ds] (· = .lst ds) := fun vs H Q ok hs k => by
  obtain ⟨v, e, a, xs, q, nb, ha, hx⟩ := one_of (ds := []) hs
  exact ⟨a, xs, by rw [e, q], .inl (SqL.of ha), fun l hl => k _ _ _ (M.knew ok hl) rfl ⟨l, xs, rfl, M.nB ok hl, upd_same, hx.keep (M.keep (M.knew ok hl))⟩⟩
theorem rc_listT {ds : List Dt} : Rc M (rListQ K) [.tup ds] (· = .lst ds) := fun vs H Q ok hs k => by
  obtain ⟨v, e, a, xs, q, nb, ha, hx⟩ := one_of (ds := []) hs
  exact ⟨a, xs, by rw [e, q], .inr (SqT.of ha), fun l hl => k _ _ _ (M.knew ok hl) rfl ⟨l, xs, rfl, M.nB ok hl, upd_same, hx.keep (M.keep (M.knew ok hl))⟩⟩
theorem rc_tupL {ds : List Dt} : Rc M (rTupQ K) [.lst ds] (· = .tup ds) := fun vs H Q ok hs k => by
  obtain ⟨v, e, a, xs, q, nb, ha, hx⟩ := one_of (ds := []) hs
  exact ⟨a, xs, by rw [e, q], .inl ⟨SqL.of ha, fun l hl => k _ _ _ (M.knew ok hl) rfl ⟨l, xs, rfl, M.nB ok hl, upd_same, hx.keep (M.keep (M.knew ok hl))⟩⟩⟩
theorem rc_tupT {ds : List Dt} : Rc M (rTupQ K) [.tup ds] (· = .tup ds) := fun vs H Q ok hs k => by
  obtain ⟨v, e, a, xs, q, nb, ha, hx⟩ := one_of (ds := []) hs
  exact ⟨a, xs, by rw [e, q], .inr ⟨SqT.of ha, k _ _ _ (M.refl H) rfl ⟨a, xs, rfl, nb, ha, hx⟩⟩⟩
theorem rc_int {i : Int} : Rc M rIntQ [.int i] (· = .int i) := fun vs H Q ok hs k => by
  obtain ⟨v, e, q⟩ := one_of (ds := []) hs
  exact .inl ⟨i, by rw [e, show v = V.int i from q], k _ _ H (M.refl H) rfl rfl⟩
theorem rc_intB {b : Bool} : Rc M rIntQ [.bl b] (· = .int (if b then 1 else 0)) := fun vs H Q ok hs k => by
  obtain ⟨v, e, q⟩ := one_of (ds := []) hs
  exact .inr ⟨b, by rw [e, show v = V.bl b from q], k _ _ H (M.refl H) rfl rfl⟩
theorem rc_all {bs : List Bool} : Rc M (rAll K) [.lst (bs.map .bl)] (· = .bl (bs.all id)) := fun vs H Q ok hs k => by
  obtain ⟨v, e, a, xs, q, nb, ha, hx⟩ := one_of (ds := []) hs
  rw [AtAll.bls.mp hx] at ha
  exact ⟨a, bs, by rw [e, q], SqL.of ha, k _ _ H (M.refl H) rfl rfl⟩
/-- slices -/
def cutD (xs : List Dt) (lo hi : Option Int) : List Dt := (xs.drop (HT.sIx xs.length 0 lo)).take (HT.sIx xs.length xs.length hi - HT.sIx xs.length 0 lo)
theorem AtAll.cut {B : Addr → Prop} {H : Hp} {ds : List Dt} {xs : List V} (h : AtAll K B H ds xs) (lo hi : Option Int) : AtAll K B H (cutD ds lo hi) (cutV xs lo hi) := by
  unfold cutD cutV
  rw [h.length]
  exact (h.drop _).take _
/-- a slice's end: none, or an int -/
def Xo (M : Mode K) (G : List (Option Dt)) (t : TO) (o : Option Int) : Prop := ∀ (σ : L2.St) (H : Hp) (Q : Option Int → Hp → Prop), M.ok H → Env K M.B H G σ → (∀ H2, M.R H H2 → Q o H2) → t σ H Q
theorem xo_none : Xo M G tNoPart none := fun σ H Q ok e k => k H (M.refl H)
theorem xo_some {te : TE} {i : Int} (h : Xd M G te (.int i)) : Xo M G (tPart te) (some i) := fun σ H Q ok e k => h σ H _ ok e fun v d H1 r1 ed hv => ⟨i, by rw [ed] at hv; exact hv, k H1 r1⟩
theorem x_slL {te : TE} {tl th : TO} {ds : List Dt} {lo hi : Option Int} (h : Xd M G te (.lst ds)) (hl : Xo M G tl lo) (hh : Xo M G th hi) : Xd M G (tSl (rSlL K) te tl th) (.lst (cutD ds lo hi)) := fun σ H Q ok e k =>
  h σ H _ ok e fun v d H1 r1 ed hv => hl σ H1 _ (M.stab ok r1) (e.keep (M.keep r1)) fun H2 r2 => hh σ H2 _ (M.stab (M.stab ok r1) r2) (e.keep (M.keep (M.trans r1 r2))) fun H3 r3 => by
    rw [ed] at hv
    have r := M.trans r2 r3
    obtain ⟨a, xs, q, nb, ha, hx⟩ := hv.keep (M.keep r)
    have o3 := M.stab (M.stab ok r1) r
    exact ⟨a, xs, q, SqL.of ha, fun p hp => k _ _ _ (M.trans (M.trans r1 r) (M.knew o3 hp)) rfl ⟨p, _, rfl, M.nB o3 hp, upd_same, (hx.cut lo hi).keep (M.keep (M.knew o3 hp))⟩⟩
theorem x_slT {te : TE} {tl th : TO} {ds : List Dt} {lo hi : Option Int} (h : Xd M G te (.tup ds)) (hl : Xo M G tl lo) (hh : Xo M G th hi) (hw : ¬ (HT.sIx ds.length 0 lo = 0 ∧ HT.sIx ds.length ds.length hi = ds.length)) :
    Xd M G (tSl (rSlT K) te tl th) (.tup (cutD ds lo hi)) := fun σ H Q ok e k =>
  h σ H _ ok e fun v d H1 r1 ed hv => hl σ H1 _ (M.stab ok r1) (e.keep (M.keep r1)) fun H2 r2 => hh σ H2 _ (M.stab (M.stab ok r1) r2) (e.keep (M.keep (M.trans r1 r2))) fun H3 r3 => by
    rw [ed] at hv
    have r := M.trans r2 r3
    obtain ⟨a, xs, q, nb, ha, hx⟩ := hv.keep (M.keep r)
    have o3 := M.stab (M.stab ok r1) r
    exact ⟨a, xs, q, SqT.of ha, by rw [hx.length]; exact hw, fun p hp => k _ _ _ (M.trans (M.trans r1 r) (M.knew o3 hp)) rfl ⟨p, _, rfl, M.nB o3 hp, upd_same, (hx.cut lo hi).keep (M.keep (M.knew o3 hp))⟩⟩
theorem rv_catT {as bs : List Dt} (h1 : as ≠ []) (h2 : bs ≠ []) (hz : as.length + bs.length ≤ sizeLine) : Rv M (rCatA K) (.tup as) (.tup bs) (· = .tup (as ++ bs)) := fun x y H Q ok hx hy k => by
  obtain ⟨a, xs, e, nb, ha, hs⟩ := hx
  obtain ⟨b, ys, e', nb', hb, hs'⟩ := hy
  have n1 : xs ≠ [] := fun z => h1 (List.length_eq_zero_iff.mp (by rw [← hs.length, z]; rfl))
  have n2 : ys ≠ [] := fun z => h2 (List.length_eq_zero_iff.mp (by rw [← hs'.length, z]; rfl))
  refine ⟨a, b, xs, ys, e, e', SqT.of ha, SqT.of hb, by rw [hs.length, hs'.length]; exact hz, fun z => absurd z n1, fun _ z => absurd z n2, fun _ _ p hp => k _ _ _ (M.knew ok hp) rfl ⟨p, _, rfl, M.nB ok hp, upd_same, ?_⟩⟩
  exact (hs.app hs').keep (M.keep (M.knew ok hp))
theorem rv_addS {x y : Str} (h : x.length + y.length ≤ sizeLine) : Rv M (fun x y H Q => ∃ i j, x = .str i ∧ y = .str j ∧ i.length + j.length ≤ sizeLine ∧ Q (.str (i ++ j)) H) (.str x) (.str y) (· = .str (x ++ y)) := fun v w H Q ok hx hy k => ⟨x, y, hx, hy, h, k _ _ H (M.refl H) rfl rfl⟩
/-! ### isinstance -/
def tyN : Dt → Option String
  | .non => some "NoneType"
  | .bl _ => some "bool"
  | .int _ => some "int"
  | .str _ => some "str"
  | .lst _ => some "list"
  | .tup _ => some "tuple"
  | _ => none
theorem tyX_of {d : Dt} {a : String} {B : Addr → Prop} {H : Hp} {v : V} (h : tyN d = some a) (hv : At K B H d v) : TyX K H v (.type a) := by
  cases d with
  | non => cases h; rw [show v = V.non from hv]; exact .base .non
  | bl b => cases h; rw [show v = V.bl b from hv]; exact .base (.bl b)
  | int b => cases h; rw [show v = V.int b from hv]; exact .base (.int b)
  | str b => cases h; rw [show v = V.str b from hv]; exact .base (.str b)
  | lst ds =>
    cases h
    obtain ⟨p, xs, e, _, hp, _⟩ := hv
    rw [e]
    exact .base (.lst hp)
  | tup ds =>
    cases h
    obtain ⟨p, xs, e, _, hp, _⟩ := hv
    rw [e]
    exact .base (.tup hp)
  | _ => cases h
theorem rc_isi {d : Dt} {a b : String} {r : Bool} (h : tyN d = some a) (hk : kitB a b = some r) : Rc M (rIsi K) [d, .ty b] (· = .bl r) := fun vs H Q ok hs k => by
  obtain ⟨v, r1, e1, h1, w, r2, e2, h2, h3⟩ := hs
  exact ⟨v, .ty b, .type a, .type b, r, by rw [e1, e2, show w = V.ty b from h2, show r2 = [] from h3], .ty b, tyX_of h h1, kit_ty hk, k _ _ H (M.refl H) rfl rfl⟩
/-- a tuple of built-in types -/
def kitBs (a : String) : List String → Option Bool
  | [] => some false
  | b :: bs => match kitB a b with
    | some true => some true
    | some false => kitBs a bs
    | none => none
theorem kitBs_ok {a : String} : ∀ {bs : List String} {r : Bool}, kitBs a bs = some r → PySem.W.kitAny K (.type a) (bs.map Value.type) = some r
  | [], r, h => h
  | b :: bs, r, h => by
    have h' : (match kitB a b with
      | some true => some true
      | some false => kitBs a bs
      | none => none) = some r := h
    cases e : kitB a b with
    | none => rw [e] at h'; cases h'
    | some c =>
      rw [e] at h'
      refine kitAny_cons (kit_ty e) (fun hc => ?_) fun hc => ?_
      · subst hc
        exact kitBs_ok h'
      · subst hc
        exact (Option.some.inj h').symm
theorem clsVs : ∀ bs : List String, Paired ClsV (bs.map V.ty) (bs.map Value.type)
  | [] => .nil
  | b :: bs => .cons (.ty b) (clsVs bs)
theorem rc_isiT {d : Dt} {a : String} {bs : List String} {r : Bool} (h : tyN d = some a) (hk : kitBs a bs = some r) : Rc M (rIsiT K) [d, .tup (bs.map .ty)] (· = .bl r) := fun vs H Q ok hs k => by
  obtain ⟨v, r1, e1, h1, w, r2, e2, ⟨p, xs, e3, _, hp, hx⟩, h3⟩ := hs
  have hx' : xs = bs.map V.ty := (AtAll.mapS (f := Dt.ty) (g := V.ty) fun _ _ => Iff.rfl).mp hx
  rw [hx'] at hp
  exact ⟨v, p, _, .type a, _, r, by rw [e1, e2, e3, show r2 = [] from h3], hp, clsVs bs, tyX_of h h1, kitBs_ok hk, k _ _ H (M.refl H) rfl rfl⟩
/-- an own class -/
theorem rc_isiC {c : Str} {ks : List Str} {ds : List Dt} (cl : Cls K (He.ga K c)) (ha : PySem.W.findIn K (.ref (He.ga K c)) "__class__" = some (some (.builtin "object.__class__")))
    (hn : PySem.W.specialIn K (.builtin "object.__class__") "__get__" = some (some (.builtin "getset_descriptor.__get__"))) (htk : PySem.W.takesIn K (.builtin "object.__class__") = some true) (hm : PySem.W.mroIn K (He.ga K c) (.type "object") = some true) :
    Rc M (rIsi K) [.ins c ks ds, .raw (He.ga K c)] (· = .bl true) := fun vs H Q ok hs k => by
  obtain ⟨v, r1, e1, ⟨p, dx, xs, e3, _, hp, hx⟩, w, r2, e2, h2, h3⟩ := hs
  refine ⟨v, .ref (He.ga K c), .ref (He.ga K c), .ref (He.ga K c), true, by rw [e1, e2, show w = V.ref _ from h2, show r2 = [] from h3], .own _, by rw [e3]; exact .base (.ins hp cl ha hn htk hm), ?_, k _ _ H (M.refl H) rfl rfl⟩
  unfold PySem.W.kitOne
  rw [if_pos (beq_self_eq_true _)]
end
end Lf

/-! promises over data; statements -/
namespace Lf
open PySem PySem.Spec PyProof.Rows L2
/-- a def that changes nothing: pre tells which answer it gives of which data -/
def spP (K : PySem.W.Frag) (pre : List Dt → Dt → Prop) : Sp := fun vs H Q _ => ∃ (B : Addr → Prop) (ds : List Dt) (r : Dt), (∀ a, B a → H a ≠ none) ∧ AtAll K B H ds vs ∧ pre ds r ∧ ∀ v H', Same H H' → At K B H' r v → Q v H'
/-- a def that draws: its first argument is the state; pre tells which answers it may give -/
def spS (K : PySem.W.Frag) (pre : List Dt → (Dt → Prop) → Prop) : Sp := fun vs H Q _ => ∃ (B : Addr → Prop) (st c : Addr) (ns : List Int) (ws : List V) (ds : List Dt) (P : Dt → Prop), vs = .ref st :: ws ∧ B st ∧ (∀ a, B a → H a ≠ none) ∧ StOk st c ns H ∧
  AtAll K B H ds ws ∧ pre ds P ∧ ∀ v d H', Ks st c ns H H' → P d → At K B H' d v → Q v H'
/-- an __init__ -/
def spI (K : PySem.W.Frag) (c : Str) (pre : List Dt → List Str → List Dt → Prop) : Sp := fun vs H Q _ => ∃ (B : Addr → Prop) (ds : List Dt) (ks : List Str) (rs : List Dt) (x dx : Addr) (ws : List V), vs = .ref x :: ws ∧ (∀ a, B a → H a ≠ none) ∧ ¬ B x ∧ H x = some (.ins (He.ga K c) dx []) ∧
  AtAll K (fun b => B b ∨ b = x) H ds ws ∧ pre ds ks rs ∧ ∀ H', (∀ b o, b ≠ x → H b = some o → H' b = some o) → At K B H' (.ins c ks rs) (.ref x) → Q .non H'
section
variable {K : PySem.W.Frag} {M : Mode K} {G : List (Option Dt)}
theorem x_call {pre : List Dt → Dt → Prop} {ta : TA} {ds : List Dt} {r : Dt} (ha : Xa M G ta (· = ds)) (hp : pre ds r) : Xd M G (tCall (spP K pre) [] E0 ta) r := fun σ H Q ok e k =>
  ha σ H _ ok e fun vs ds' H1 r1 ed hs => by
    rw [ed] at hs
    refine ⟨M.B, ds, r, fun a b => M.trk (M.stab ok r1) b, by rw [List.append_nil]; exact hs, hp, fun v H2 s2 hv => ?_⟩
    exact k v r H2 (M.trans r1 (M.same (M.stab ok r1) s2)) rfl hv
theorem x_callG {pre : List Dt → Dt → Prop} {ta : TA} {P : List Dt → Prop} {R : Dt → Prop} (ha : Xa M G ta P) (hp : ∀ ds, P ds → ∃ r, pre ds r ∧ R r) : Xe M G (tCall (spP K pre) [] E0 ta) R := fun σ H Q ok e k =>
  ha σ H _ ok e fun vs ds' H1 r1 ed hs => by
    obtain ⟨r, h1, h2⟩ := hp _ ed
    refine ⟨M.B, ds', r, fun a b => M.trk (M.stab ok r1) b, by rw [List.append_nil]; exact hs, h1, fun v H2 s2 hv => ?_⟩
    exact k v r H2 (M.trans r1 (M.same (M.stab ok r1) s2)) h2 hv
theorem x_meth {pre : List Dt → Dt → Prop} {to : TE} {ta : TA} {c m : Str} {ks : List Str} {os ds : List Dt} {r : Dt} (ho : Xd M G to (.ins c ks os)) (hm : m ∉ ks) (ha : Xa M G ta (· = ds)) (hp : pre (.ins c ks os :: ds) r) :
    Xd M G (tMeth (He.ga K c) m (spP K pre) [] E0 to ta) r := fun σ H Q ok e k =>
  ho σ H _ ok e fun v d H1 r1 ed hv => by
    rw [ed] at hv
    have o1 := M.stab ok r1
    obtain ⟨a, dx, xs, q, nb, hh, hx⟩ := id hv
    refine ⟨a, dx, _, q, hh, zip_none hm, ha σ H1 _ o1 (e.keep (M.keep r1)) fun vs ds' H2 r2 ed' hs => ?_⟩
    rw [ed'] at hs
    refine ⟨M.B, .ins c ks os :: ds, r, fun a b => M.trk (M.stab o1 r2) b, ⟨v, vs ++ [], rfl, hv.keep (M.keep r2), by rw [List.append_nil]; exact hs⟩, hp, fun w H3 s3 hw => ?_⟩
    exact k w r H3 (M.trans (M.trans r1 r2) (M.same (M.stab o1 r2) s3)) rfl hw
theorem x_make {c : Str} {pre : List Dt → List Str → List Dt → Prop} {ta : TA} {P : List Dt → Prop} {R : Dt → Prop} (ha : Xa M G ta P) (hp : ∀ ds, P ds → ∃ ks rs, pre ds ks rs ∧ R (.ins c ks rs)) :
    Xe M G (tMake (He.ga K c) (spI K c pre) [] E0 ta) R := fun σ H Q ok e k =>
  ha σ H _ ok e fun vs ds H1 r1 pds hs x dx hx hdx ne => by
    obtain ⟨ks, rs, h1, h2⟩ := hp ds pds
    have o1 := M.stab ok r1
    have s1 : Same H1 (upd (upd H1 dx (.own x)) x (.ins (He.ga K c) dx [])) := Same.mut (Same.new hdx) hx
    have r2 := M.same o1 s1
    refine ⟨M.B, ds, ks, rs, x, dx, vs ++ [], rfl, fun a b => M.trk (M.stab o1 r2) b, M.nB o1 hx, upd_same, ?_, h1, fun H2 hk hv => ⟨rfl, ?_⟩⟩
    · rw [List.append_nil]
      exact (hs.more hx).keep (Same.keep s1)
    · have s2 : Same H1 H2 := fun b o q => hk b o (ne_of_none q hx) (s1 b o q)
      exact k _ _ H2 (M.trans r1 (M.same o1 s2)) h2 hv
/-- the mode holds a state at st -/
structure HasSt (M : Mode K) (st c : Addr) (ns : List Int) : Prop where
  mem : M.B st
  ok : ∀ {H}, M.ok H → StOk st c ns H
  of : ∀ {H H'}, M.ok H → Ks st c ns H H' → M.R H H'
theorem HasSt.stM {B : Addr → Prop} {st c : Addr} {ns : List Int} (hB : B st) : HasSt (stM K B st c ns hB) st c ns := ⟨hB, fun h => h.2, fun _ r => r⟩
theorem HasSt.bld {st c : Addr} {ns : List Int} (h : HasSt M st c ns) (p : Addr) (ds : List Dt) : HasSt (M.bld p ds) st c ns :=
  ⟨.inl h.mem, fun o => h.ok (M.less o.1 fun _ z => z.elim), fun o r => ⟨h.of (M.less o.1 fun _ z => z.elim) r, fun u e => r.1 p u (fun z => o.2.1 (z ▸ h.mem)) e⟩⟩
theorem x_callS {pre : List Dt → (Dt → Prop) → Prop} {ta : TA} {st c : Addr} {ns : List Int} {P : List Dt → Prop} {R : Dt → Prop} (hs : HasSt M st c ns) (ha : Xa M G ta P) (hp : ∀ ds, P ds → ∃ es, ds = .raw st :: es ∧ pre es R) : Xe M G (tCall (spS K pre) [] E0 ta) R := fun σ H Q ok e k =>
  ha σ H _ ok e fun vs ds H1 r1 pds hv => by
    obtain ⟨es, ee, h1⟩ := hp ds pds
    subst ee
    obtain ⟨v, r, ev, hv1, hv2⟩ := hv
    have o1 := M.stab ok r1
    refine ⟨M.B, st, c, ns, r, es, R, by rw [ev, List.append_nil, show v = V.ref st from hv1], hs.mem, fun a b => M.trk o1 b, hs.ok o1, hv2, h1, fun w d H2 s2 pd' hw => ?_⟩
    exact k w d H2 (M.trans r1 (hs.of o1 s2)) pd' hw

/-! ### statements -/
/-- where a def's body stands: the entry's heap H0, what the slots hold -/
structure Sg (M : Mode K) (H0 : Hp) (L : List (Dt × V)) (G : List (Option Dt)) (σ : L2.St) (H : Hp) : Prop where
  ok : M.ok H
  fr : M.F H0 H
  gh : ∀ g ∈ L, At K M.B H g.1 g.2
  env : Env K M.B H G σ
theorem Sg.go {H0 H H' : Hp} {L : List (Dt × V)} {σ : L2.St} (h : Sg M H0 L G σ H) (r : M.R H H') : Sg M H0 L G σ H' := ⟨M.stab h.ok r, M.fr h.fr r, fun g z => (h.gh g z).keep (M.keep r), h.env.keep (M.keep r)⟩
theorem Sg.set {H0 H : Hp} {L : List (Dt × V)} {σ : L2.St} {i : Nat} {d : Dt} {v : V} (h : Sg M H0 L G σ H) (hv : At K M.B H d v) : Sg M H0 L (G.set i (some d)) (σ.set i (some v)) H := ⟨h.ok, h.fr, h.gh, h.env.set hv⟩
theorem s_asg {te : TE} {P : Dt → Prop} {D : Ends} {H0 H : Hp} {L : List (Dt × V)} {σ : L2.St} {i : Nat} (x : Xe M G te P) (h : Sg M H0 L G σ H) (k : ∀ d σ' H', P d → Sg M H0 L (G.set i (some d)) σ' H' → D.nx σ' H') : tAsg te (gName i) D σ H :=
  x σ H _ h.ok h.env fun v d H1 r1 p hv => k d _ H1 p ((h.go r1).set hv)
theorem sd_asg {te : TE} {d : Dt} {D : Ends} {H0 H : Hp} {L : List (Dt × V)} {σ : L2.St} {i : Nat} (x : Xd M G te d) (h : Sg M H0 L G σ H) (k : ∀ σ' H', Sg M H0 L (G.set i (some d)) σ' H' → D.nx σ' H') : tAsg te (gName i) D σ H :=
  s_asg x h fun d' σ' H' e s => k σ' H' (by rw [e] at s; exact s)
theorem s_drop {te : TE} {P : Dt → Prop} {D : Ends} {H0 H : Hp} {L : List (Dt × V)} {σ : L2.St} (x : Xe M G te P) (h : Sg M H0 L G σ H) (k : ∀ d H', P d → Sg M H0 L G σ H' → D.nx σ H') : tDrop te D σ H :=
  x σ H _ h.ok h.env fun v d H1 r1 p hv => k d H1 p (h.go r1)
theorem s_ret {te : TE} {P : Dt → Prop} {D : Ends} {H0 H : Hp} {L : List (Dt × V)} {σ : L2.St} (x : Xe M G te P) (h : Sg M H0 L G σ H) (k : ∀ d v H', P d → M.ok H' → M.F H0 H' → At K M.B H' d v → D.rt v H') : tRet te D σ H :=
  x σ H _ h.ok h.env fun v d H1 r1 p hv => k d v H1 p (M.stab h.ok r1) (M.fr h.fr r1) hv
theorem sd_ret {te : TE} {d : Dt} {D : Ends} {H0 H : Hp} {L : List (Dt × V)} {σ : L2.St} (x : Xd M G te d) (h : Sg M H0 L G σ H) (k : ∀ v H', M.F H0 H' → At K M.B H' d v → D.rt v H') : tRet te D σ H :=
  s_ret x h fun d' v H' e _ f hv => k v H' f (by rw [e] at hv; exact hv)
theorem s_if {t : TT} {P : Bool → Prop} {u w : TS} {D : Ends} {H0 H : Hp} {L : List (Dt × V)} {σ : L2.St} (x : Xt M G t P) (h : Sg M H0 L G σ H) (h1 : P true → ∀ H', Sg M H0 L G σ H' → u D σ H') (h2 : P false → ∀ H', Sg M H0 L G σ H' → w D σ H') : tIfS t u w D σ H :=
  x σ H _ h.ok h.env fun b H1 r1 p => by
    cases b with
    | true =>
      show u D σ H1
      exact h1 p H1 (h.go r1)
    | false =>
      show w D σ H1
      exact h2 p H1 (h.go r1)
theorem sd_if {t : TT} {b : Bool} {u w : TS} {D : Ends} {H0 H : Hp} {L : List (Dt × V)} {σ : L2.St} (x : Xb M G t b) (h : Sg M H0 L G σ H) (h1 : b = true → ∀ H', Sg M H0 L G σ H' → u D σ H') (h2 : b = false → ∀ H', Sg M H0 L G σ H' → w D σ H') : tIfS t u w D σ H :=
  s_if x h (fun e => h1 e.symm) fun e => h2 e.symm
/-- a, b = x, y -/
theorem s_par {i j : Nat} {ta : TA} {P : Dt → Dt → Prop} {D : Ends} {H0 H : Hp} {L : List (Dt × V)} {σ : L2.St} (x : Xa M G ta fun ds => ∃ a b, ds = [a, b] ∧ P a b) (h : Sg M H0 L G σ H) (k : ∀ a b σ' H', P a b → Sg M H0 L ((G.set i (some a)).set j (some b)) σ' H' → D.nx σ' H') : tPar i j ta D σ H :=
  x σ H _ h.ok h.env fun vs ds H1 r1 p hv => by
    obtain ⟨a, b, e, p⟩ := p
    subst e
    obtain ⟨v, r, e1, h1, w, r', e2, h2, e3⟩ := hv
    refine ⟨v, w, by rw [e1, e2, show r' = [] from e3], k a b _ H1 p (((h.go r1).set h1).set h2)⟩
theorem sd_par {i j : Nat} {ta : TA} {a b : Dt} {D : Ends} {H0 H : Hp} {L : List (Dt × V)} {σ : L2.St} (x : Xa M G ta (· = [a, b])) (h : Sg M H0 L G σ H) (k : ∀ σ' H', Sg M H0 L ((G.set i (some a)).set j (some b)) σ' H' → D.nx σ' H') : tPar i j ta D σ H :=
  s_par (P := fun a' b' => a' = a ∧ b' = b) (fun σ H Q ok e k => x σ H Q ok e fun vs ds H2 r p hv => k vs ds H2 r ⟨a, b, p, rfl, rfl⟩ hv) h fun a' b' σ' H' p s => k σ' H' (by rw [p.1, p.2] at s; exact s)
/-- a target: the data goes to slots js -/
def Xg (M : Mode K) (G : List (Option Dt)) (g : TG) (d : Dt) (G' : List (Option Dt)) (js : List Nat) : Prop :=
  ∀ (σ : L2.St) (H : Hp) (v : V) (Q : L2.St → Hp → Prop), M.ok H → Env K M.B H G σ → At K M.B H d v → (∀ σ', Env K M.B H G' σ' → (∀ vs : List Nat, (∀ j ∈ js, j ∈ vs) → wipe σ' vs = wipe σ vs) → Q σ' H) → g v σ H Q
theorem xg_name {i : Nat} {d : Dt} : Xg M G (gName i) d (G.set i (some d)) [i] := fun σ H v Q ok e hv k => k _ (e.set hv) fun vs hj => wipe_out (hj i List.mem_cons_self)
/-- targets in a row -/
def Xgs (M : Mode K) (G : List (Option Dt)) (g : TGs) (ds : List Dt) (G' : List (Option Dt)) (js : List Nat) : Prop :=
  ∀ (σ : L2.St) (H : Hp) (vs : List V) (Q : L2.St → Hp → Prop), M.ok H → Env K M.B H G σ → AtAll K M.B H ds vs → (∀ σ', Env K M.B H G' σ' → (∀ vs : List Nat, (∀ j ∈ js, j ∈ vs) → wipe σ' vs = wipe σ vs) → Q σ' H) → g vs σ H Q
theorem xgs_nil : Xgs M G gNil [] G [] := fun σ H vs Q ok e hv k => ⟨hv, k σ e fun _ _ => rfl⟩
theorem xgs_cons {g : TG} {gs : TGs} {d : Dt} {ds : List Dt} {G1 G2 : List (Option Dt)} {js ks : List Nat} (h : Xg M G g d G1 js) (hs : Xgs M G1 gs ds G2 ks) : Xgs M G (gCons g gs) (d :: ds) G2 (js ++ ks) := fun σ H vs Q ok e hv k => by
  obtain ⟨v, r, ev, h1, h2⟩ := hv
  refine ⟨v, r, ev, h σ H v _ ok e h1 fun σ1 e1 w1 => hs σ1 H r Q ok e1 h2 fun σ2 e2 w2 => k σ2 e2 fun ws hj => ?_⟩
  rw [w2 ws fun j q => hj j (List.mem_append_right _ q), w1 ws fun j q => hj j (List.mem_append_left _ q)]
theorem xg_tup {g : TGs} {ds : List Dt} {G' : List (Option Dt)} {js : List Nat} {n : Nat} (h : Xgs M G g ds G' js) (hn : ds.length = n) : Xg M G (gTup K n g) (.tup ds) G' js := fun σ H v Q ok e hv k => by
  obtain ⟨a, xs, q, nb, ha, hx⟩ := hv
  exact ⟨a, xs, q, SqT.of ha, by rw [hx.length]; exact hn, h σ H xs Q ok e hx k⟩
/-- a target of any form -/
theorem s_asgG {te : TE} {P : Dt → Prop} {g : TG} {js : List Nat} {D : Ends} {H0 H : Hp} {L : List (Dt × V)} {σ : L2.St} {G' : Dt → List (Option Dt)} (x : Xe M G te P) (hg : ∀ d, P d → Xg M G g d (G' d) js) (h : Sg M H0 L G σ H) (k : ∀ d σ' H', P d → Sg M H0 L (G' d) σ' H' → D.nx σ' H') : tAsg te g D σ H :=
  x σ H _ h.ok h.env fun v d H1 r1 p hv => hg d p σ H1 v _ (M.stab h.ok r1) (h.env.keep (M.keep r1)) hv fun σ' e' _ => k d σ' H1 p ⟨M.stab h.ok r1, M.fr h.fr r1, (h.go r1).gh, e'⟩

/-! ### a list that is built -/
theorem bld_ok {p : Addr} {ds : List Dt} {H : Hp} (h : (M.bld p ds).ok H) : M.ok H := M.less h.1 fun _ z => z.elim
theorem Sg.bld {H0 H : Hp} {L : List (Dt × V)} {σ : L2.St} (h : Sg M H0 L G σ H) {p : Addr} {xs : List V} {ds : List Dt} (hp : H p = none) (hx : AtAll K M.B H ds xs) : Sg (M.bld p ds) H0 L G σ (upd H p (.lst xs)) := by
  have r := M.knew (o := .lst xs) h.ok hp
  refine ⟨⟨M.stabX (M.more h.ok hp) r, M.nB h.ok hp, xs, upd_same, ((hx.more hp).keep (Same.keep (Same.new hp))).less fun a z => z.elim id fun z => z.elim⟩, ⟨M.fr h.fr r, M.fback h.fr hp⟩, fun g z => ((h.gh g z).more hp).keep (Same.keep (Same.new hp)), (h.env.more hp).keep (Same.keep (Same.new hp))⟩
/-- x = [] | x = [a, ..] -/
theorem s_new {ta : TA} {D : Ends} {H0 H : Hp} {L : List (Dt × V)} {σ : L2.St} {i : Nat} {P : List Dt → Prop} (x : Xa M G ta P) (hl : ∀ ds, P ds → ds.length ≤ 100000) (h : Sg M H0 L G σ H) (k : ∀ p ds σ' H', P ds → Sg (M.bld p ds) H0 L (G.set i (some (.raw p))) σ' H' → D.nx σ' H') : tAsg (tLst ta) (gName i) D σ H :=
  x σ H _ h.ok h.env fun vs ds H1 r1 pds hv => ⟨by rw [hv.length]; exact Nat.le_trans (hl ds pds) (by decide), fun p hp => k p ds _ _ pds (((h.go r1).bld hp hv).set rfl)⟩
theorem s_new0 {D : Ends} {H0 H : Hp} {L : List (Dt × V)} {σ : L2.St} {i : Nat} (h : Sg M H0 L G σ H) (k : ∀ p σ' H', Sg (M.bld p []) H0 L (G.set i (some (.raw p))) σ' H' → D.nx σ' H') : tAsg (tLst tNil) (gName i) D σ H :=
  s_new xa_nil (fun ds e => by rw [e]; decide) h fun p ds σ' H' e s => by
    rw [e] at s
    exact k p σ' H' s
/-- p.append(e) -/
theorem s_app {p : Addr} {ds : List Dt} {te : TE} {P : Dt → Prop} {D : Ends} {H0 H : Hp} {L : List (Dt × V)} {σ : L2.St} {i : Nat} (hi : G[i]? = some (some (.raw p))) (x : Xe (M.bld p ds) G te P) (hz : ds.length < 100000) (h : Sg (M.bld p ds) H0 L G σ H)
    (k : ∀ d H', P d → Sg (M.bld p (ds ++ [d])) H0 L G σ H' → D.nx σ H') : tDrop (tBM K "list" rAppend (tVar i) (tCons te tNil)) D σ H := by
  obtain ⟨v, e1, e2⟩ := h.env.2 i _ hi
  obtain ⟨o1, o2, xs, hp, hx⟩ := id h.ok
  have ev : v = V.ref p := e2
  subst ev
  refine ⟨_, e1, .inl ⟨rfl, xs, SqL.of hp⟩, x σ H _ h.ok h.env fun w d H1 r1 pd' hw => ?_⟩
  have h1 := h.go r1
  obtain ⟨q1, q2, ys, hp1, hy⟩ := id h1.ok
  refine ⟨p, ys, w, rfl, rfl, hp1, by rw [hy.length]; exact Nat.lt_of_lt_of_le hz (by decide), k d _ pd' ?_⟩
  have kp : Keep (fun b => M.B b ∨ b = p) H1 (upd H1 p (.lst (ys ++ [w]))) := fun b o nb e => by
    rw [upd_ne fun z => nb (.inr z)]
    exact e
  have f0 : M.F H0 (upd H1 p (.lst (ys ++ [w]))) := M.mutf h1.fr.1 h1.fr.2
  refine ⟨⟨M.mutX h1.fr.1 h1.fr.2 q2 (.inr rfl) q1, q2, _, upd_same, ?_⟩, ⟨f0, h1.fr.2⟩, fun g z => (h1.gh g z).keep kp, h1.env.keep kp⟩
  exact (hy.keep fun b o nb e => kp b o (fun z => nb (.inl z)) e).app (AtAll.one ((hw.keep kp).less fun a z => z.elim id fun z => z.elim))
end
end Lf

/-! lists that are being built, walks, comprehensions, loops, a def's frame -/
namespace Lf
open PySem PySem.Spec PyProof.Rows L2
section
variable {K : PySem.W.Frag} {M : Mode K} {G : List (Option Dt)}
/-- a list that is only read: a finished one, or the one that is being built -/
def XL (M : Mode K) (G : List (Option Dt)) (te : TE) (ds : List Dt) : Prop := ∀ (σ : L2.St) (H : Hp) (Q : VK), M.ok H → Env K M.B H G σ →
  (∀ a xs H2, M.R H H2 → (∀ H3, M.R H2 H3 → H3 a = some (.lst xs) ∧ AtAll K M.B H3 ds xs) → Q (.ref a) H2) → te σ H Q
theorem xl_of {te : TE} {ds : List Dt} (h : Xd M G te (.lst ds)) : XL M G te ds := fun σ H Q ok e k => h σ H Q ok e fun v d H1 r1 ed hv => by
  rw [ed] at hv
  obtain ⟨a, xs, q, nb, ha, hx⟩ := hv
  rw [q]
  exact k a xs H1 r1 fun H3 r3 => ⟨M.keep r3 _ _ nb ha, hx.keep (M.keep r3)⟩
theorem bld_at {p : Addr} {ds : List Dt} {H : Hp} (h : (M.bld p ds).ok H) : ∃ xs, H p = some (.lst xs) ∧ AtAll K (M.bld p ds).B H ds xs := by
  obtain ⟨xs, e, hx⟩ := h.2.2
  exact ⟨xs, e, hx.less fun a z => .inl z⟩
theorem bld_out {p : Addr} {ds : List Dt} {H : Hp} (h : (M.bld p ds).ok H) : At K M.B H (.lst ds) (.ref p) := by
  obtain ⟨xs, e, hx⟩ := h.2.2
  exact ⟨p, xs, rfl, h.2.1, e, hx.less fun a z => .inl (.inl z)⟩
theorem xl_bld {p : Addr} {ds : List Dt} {i : Nat} (hi : G[i]? = some (some (.raw p))) : XL (M.bld p ds) G (tVar i) ds := fun σ H Q ok e k => by
  obtain ⟨v, e1, e2⟩ := e.2 i _ hi
  have ev : v = V.ref p := e2
  subst ev
  obtain ⟨xs, hp, hx⟩ := bld_at ok
  exact ⟨_, e1, k p xs H ((M.bld p ds).refl H) fun H3 r3 => ⟨r3.2 _ hp, hx.keep ((M.bld p ds).keep r3)⟩⟩
theorem xl_len {te : TE} {ds : List Dt} (h : XL M G te ds) : Xd M G (tCB (rLenQ K) (tCons te tNil)) (.int (ds.length : Nat)) := fun σ H Q ok e k => h σ H _ ok e fun a xs H1 r1 hh => by
  obtain ⟨h1, h2⟩ := hh H1 (M.refl H1)
  exact ⟨a, xs, rfl, .inl (SqL.of h1), by rw [h2.length]; exact k _ _ H1 r1 rfl rfl⟩
theorem xl_list {te : TE} {ds : List Dt} (h : XL M G te ds) : Xd M G (tCB (rListQ K) (tCons te tNil)) (.lst ds) := fun σ H Q ok e k => h σ H _ ok e fun a xs H1 r1 hh => by
  obtain ⟨h1, h2⟩ := hh H1 (M.refl H1)
  have o1 := M.stab ok r1
  exact ⟨a, xs, rfl, .inl (SqL.of h1), fun l hl => k _ _ _ (M.trans r1 (M.knew o1 hl)) rfl ⟨l, xs, rfl, M.nB o1 hl, upd_same, h2.keep (M.keep (M.knew o1 hl))⟩⟩
theorem xl_tup {te : TE} {ds : List Dt} (h : XL M G te ds) : Xd M G (tCB (rTupQ K) (tCons te tNil)) (.tup ds) := fun σ H Q ok e k => h σ H _ ok e fun a xs H1 r1 hh => by
  obtain ⟨h1, h2⟩ := hh H1 (M.refl H1)
  have o1 := M.stab ok r1
  exact ⟨a, xs, rfl, .inl ⟨SqL.of h1, fun l hl => k _ _ _ (M.trans r1 (M.knew o1 hl)) rfl ⟨l, xs, rfl, M.nB o1 hl, upd_same, h2.keep (M.keep (M.knew o1 hl))⟩⟩⟩
theorem xl_ix {ta tb : TE} {ds : List Dt} {i : Int} {d : Dt} (h : XL M G ta ds) (hb : Xd M G tb (.int i)) (hd : atI ds i = some d) : Xd M G (tOp (rIxL K) ta tb) d := fun σ H Q ok e k => h σ H _ ok e fun a xs H1 r1 hh =>
  hb σ H1 _ (M.stab ok r1) (e.keep (M.keep r1)) fun w dw H2 r2 ew hw => by
    rw [ew] at hw
    obtain ⟨h1, h2⟩ := hh H2 r2
    obtain ⟨v, h3, h4⟩ := h2.atI hd
    exact ⟨a, xs, i, v, rfl, hw, SqL.of h1, h3, k v d H2 (M.trans r1 r2) rfl h4⟩
theorem xl_inS {neg : Bool} {ta tb : TE} {x : Str} {xs : List Str} (ha : Xd M G ta (.str x)) (h : XL M G tb (xs.map .str)) : Xd M G (tOp (rIn K neg) ta tb) (.bl (if neg then !decide (x ∈ xs) else decide (x ∈ xs))) := fun σ H Q ok e k =>
  ha σ H _ ok e fun v d H1 r1 ed hv => h σ H1 _ (M.stab ok r1) (e.keep (M.keep r1)) fun a ys H2 r2 hh => by
    rw [ed] at hv
    obtain ⟨h1, h2⟩ := hh H2 (M.refl H2)
    rw [AtAll.strs.mp h2] at h1
    refine ⟨a, _, rfl, .inl (SqL.of h1), by rw [show v = V.str x from hv]; rfl, flat_strs xs, k _ _ H2 (M.trans r1 r2) rfl ?_⟩
    rw [show v = V.str x from hv, inV_str]
    exact rfl
theorem xl_inI {neg : Bool} {ta tb : TE} {x : Int} {xs : List Int} (ha : Xd M G ta (.int x)) (h : XL M G tb (xs.map .int)) : Xd M G (tOp (rIn K neg) ta tb) (.bl (if neg then !decide (x ∈ xs) else decide (x ∈ xs))) := fun σ H Q ok e k =>
  ha σ H _ ok e fun v d H1 r1 ed hv => h σ H1 _ (M.stab ok r1) (e.keep (M.keep r1)) fun a ys H2 r2 hh => by
    rw [ed] at hv
    obtain ⟨h1, h2⟩ := hh H2 (M.refl H2)
    rw [AtAll.ints.mp h2] at h1
    refine ⟨a, _, rfl, .inl (SqL.of h1), by rw [show v = V.int x from hv]; rfl, flat_ints xs, k _ _ H2 (M.trans r1 r2) rfl ?_⟩
    rw [show v = V.int x from hv, inV_int]
    exact rfl
/-- == [] and != [] -/
theorem eqv_nil : ∀ ds : List Dt, PyData.eqv (.list (pds ds)) (.list (pds [])) = ds.isEmpty
  | [] => by simp [pds, PyData.eqv, PyData.eqvAll]
  | d :: ds => by simp [pds, PyData.eqv, PyData.eqvAll]
theorem xl_eqN {ta tb : TE} {ds : List Dt} (h : XL M G ta ds) (hb : Xd M G tb (.lst [])) (o : okDs ds = true) (s : SeqAt.shaped (.list (pds ds)) = true) : Xd M G (tOp (rEqD K) ta tb) (.bl ds.isEmpty) := fun σ H Q ok e k => h σ H _ ok e fun a xs H1 r1 hh =>
  hb σ H1 _ (M.stab ok r1) (e.keep (M.keep r1)) fun w dw H2 r2 ew hw => by
    rw [ew] at hw
    obtain ⟨h1, h2⟩ := hh H2 r2
    exact ⟨.list (pds ds), .list (pds []), .lst (SqL.of h1) (AtAll.dp ds xs o h2), At.dp (.lst []) w rfl hw, s, rfl, by rw [eqv_nil]; exact k _ _ H2 (M.trans r1 r2) rfl rfl⟩
theorem xl_neN {ta tb : TE} {ds : List Dt} (h : XL M G ta ds) (hb : Xd M G tb (.lst [])) (o : okDs ds = true) (s : SeqAt.shaped (.list (pds ds)) = true) : Xd M G (tOp (rNeD K) ta tb) (.bl (!ds.isEmpty)) := fun σ H Q ok e k => h σ H _ ok e fun a xs H1 r1 hh =>
  hb σ H1 _ (M.stab ok r1) (e.keep (M.keep r1)) fun w dw H2 r2 ew hw => by
    rw [ew] at hw
    obtain ⟨h1, h2⟩ := hh H2 r2
    exact ⟨.list (pds ds), .list (pds []), .lst (SqL.of h1) (AtAll.dp ds xs o h2), At.dp (.lst []) w rfl hw, s, rfl, by rw [eqv_nil]; exact k _ _ H2 (M.trans r1 r2) rfl rfl⟩
/-- return the list that was built -/
theorem s_retB {p : Addr} {ds : List Dt} {i : Nat} {D : Ends} {H0 H : Hp} {L : List (Dt × V)} {σ : L2.St} (hi : G[i]? = some (some (.raw p))) (h : Sg (M.bld p ds) H0 L G σ H) (k : ∀ v, M.ok H → M.F H0 H → At K M.B H (.lst ds) v → D.rt v H) : tRet (tVar i) D σ H := by
  obtain ⟨v, e1, e2⟩ := h.env.2 i _ hi
  have ev : v = V.ref p := e2
  subst ev
  exact ⟨_, e1, k _ (bld_ok h.ok) h.fr.1 (bld_out h.ok)⟩
/-- what was built is data from here on -/
theorem Sg.done {p : Addr} {ds : List Dt} {i : Nat} {H0 H : Hp} {L : List (Dt × V)} {σ : L2.St} (hi : G[i]? = some (some (.raw p))) (h : Sg (M.bld p ds) H0 L G σ H) : Sg M H0 L (G.set i (some (.lst ds))) σ H := by
  obtain ⟨v, e1, e2⟩ := h.env.2 i _ hi
  have ev : v = V.ref p := e2
  subst ev
  have e : σ.set i (some (V.ref p)) = σ := by
    apply List.ext_getElem?
    intro j
    by_cases hj : i = j
    · subst hj
      rw [List.getElem?_set_self (List.getElem?_eq_some_iff.mp e1).1, e1]
    · rw [List.getElem?_set_ne hj]
  have w := (h.env.less (B' := M.B) fun a z => .inl z).set (i := i) (bld_out h.ok)
  rw [e] at w
  exact ⟨bld_ok h.ok, h.fr.1, fun g z => (h.gh g z).less fun a z => .inl z, w⟩

/-! ### walks -/
/-- the walk J gives the items ds, as long as the ghosts gs stand -/
structure WalkD (K : PySem.W.Frag) (J : It) (ds : List Dt) (gs : List (Dt × V)) : Prop where
  ex : ∃ Gd Y, Walk J ds.length Gd Y ∧ ∀ (B : Addr → Prop) (H : Hp), (∀ a, B a → H a ≠ none) → (∀ g ∈ gs, At K B H g.1 g.2) → Gd H ∧ ∀ i x H', i < ds.length → Y i H x H' → Same H H' ∧ ∃ d, ds[i]? = some d ∧ At K B H' d x
def Xi (M : Mode K) (G : List (Option Dt)) (wi : TI) (ds : List Dt) : Prop := ∀ (σ : L2.St) (H : Hp) (R : It → Hp → Prop), M.ok H → Env K M.B H G σ →
  (∀ J gs H2, M.R H H2 → (∀ g ∈ gs, At K M.B H2 g.1 g.2) → WalkD K J ds gs → R J H2) → wi σ H R
theorem wk_list {a : Addr} {n : Nat} : Walk (Itl K a) n (fun H => ∃ xs, H a = some (.lst xs) ∧ xs.length = n) (fun i H x H' => H' = H ∧ ∃ xs, H a = some (.lst xs) ∧ xs[i]? = some x) where
  goes := fun i H hi q => by
    obtain ⟨xs, h1, h2⟩ := q
    exact ⟨xs, xs[i]'(by omega), SqL.of h1, by simp [h2, hi]⟩
  stops := fun H q => by
    obtain ⟨xs, h1, h2⟩ := q
    exact ⟨xs, SqL.of h1, by omega⟩
  yields := fun i H x H' _ q y => by
    obtain ⟨xs, h1, h2⟩ := q
    exact ⟨y.1, xs, h1, y.2 xs (SqL.of h1)⟩
theorem wk_tup {a : Addr} {n : Nat} : Walk (Itt K a) n (fun H => ∃ xs, H a = some (.tup xs) ∧ xs.length = n) (fun i H x H' => H' = H ∧ ∃ xs, H a = some (.tup xs) ∧ xs[i]? = some x) where
  goes := fun i H hi q => by
    obtain ⟨xs, h1, h2⟩ := q
    exact ⟨xs, xs[i]'(by omega), SqT.of h1, by simp [h2, hi]⟩
  stops := fun H q => by
    obtain ⟨xs, h1, h2⟩ := q
    exact ⟨xs, SqT.of h1, by omega⟩
  yields := fun i H x H' _ q y => by
    obtain ⟨xs, h1, h2⟩ := q
    exact ⟨y.1, xs, h1, y.2 xs (SqT.of h1)⟩
theorem wk_enum {a : Addr} {n : Nat} : Walk (Ite K a) n (fun H => ∃ xs, H a = some (.lst xs) ∧ xs.length = n)
    (fun i H v H' => ∃ T x xs, v = .ref T ∧ H T = none ∧ H' = upd H T (.tup [.int (i : Nat), x]) ∧ H a = some (.lst xs) ∧ xs[i]? = some x) where
  goes := fun i H hi q => by
    obtain ⟨xs, h1, h2⟩ := q
    exact ⟨xs, xs[i]'(by omega), SqL.of h1, by simp [h2, hi]⟩
  stops := fun H q => by
    obtain ⟨xs, h1, h2⟩ := q
    exact ⟨xs, SqL.of h1, by omega⟩
  yields := fun i H v H' _ q y => by
    obtain ⟨xs, h1, h2⟩ := q
    obtain ⟨T, x, e1, e2, e3, e4⟩ := y
    exact ⟨T, x, xs, e1, e2, e3, h1, e4 xs (SqL.of h1)⟩
theorem At.lstOf {B : Addr → Prop} {H : Hp} {ds : List Dt} {a : Addr} (h : At K B H (.lst ds) (.ref a)) : ∃ xs, ¬ B a ∧ H a = some (.lst xs) ∧ AtAll K B H ds xs := by
  obtain ⟨a', xs, e, nb, h1, h2⟩ := h
  cases e
  exact ⟨xs, nb, h1, h2⟩
theorem At.tupOf {B : Addr → Prop} {H : Hp} {ds : List Dt} {a : Addr} (h : At K B H (.tup ds) (.ref a)) : ∃ xs, ¬ B a ∧ H a = some (.tup xs) ∧ AtAll K B H ds xs := by
  obtain ⟨a', xs, e, nb, h1, h2⟩ := h
  cases e
  exact ⟨xs, nb, h1, h2⟩
theorem xi_list {te : TE} {ds : List Dt} (h : Xd M G te (.lst ds)) : Xi M G (iList K te) ds := fun σ H R ok e k => h σ H _ ok e fun v d H1 r1 ed hv => by
  rw [ed] at hv
  obtain ⟨a, xs, q, nb, ha, hx⟩ := id hv
  rw [q] at hv
  refine ⟨a, q, ⟨xs, SqL.of ha⟩, k _ [(.lst ds, .ref a)] H1 r1 (fun g z => by rw [List.mem_singleton.mp z]; exact hv) ⟨_, _, wk_list, fun B H tr gh => ?_⟩⟩
  obtain ⟨ys, _, h1, h2⟩ := (gh _ (List.mem_singleton.mpr rfl)).lstOf
  refine ⟨⟨ys, h1, h2.length⟩, fun i x H' hi y => ?_⟩
  obtain ⟨e1, zs, e2, e3⟩ := y
  rw [h1] at e2
  cases e2
  rw [e1]
  exact ⟨Same.refl _, h2.got e3⟩
theorem xi_tup {te : TE} {ds : List Dt} (h : Xd M G te (.tup ds)) : Xi M G (iTup K te) ds := fun σ H R ok e k => h σ H _ ok e fun v d H1 r1 ed hv => by
  rw [ed] at hv
  obtain ⟨a, xs, q, nb, ha, hx⟩ := id hv
  rw [q] at hv
  refine ⟨a, q, ⟨xs, SqT.of ha⟩, k _ [(.tup ds, .ref a)] H1 r1 (fun g z => by rw [List.mem_singleton.mp z]; exact hv) ⟨_, _, wk_tup, fun B H tr gh => ?_⟩⟩
  obtain ⟨ys, _, h1, h2⟩ := (gh _ (List.mem_singleton.mpr rfl)).tupOf
  refine ⟨⟨ys, h1, h2.length⟩, fun i x H' hi y => ?_⟩
  obtain ⟨e1, zs, e2, e3⟩ := y
  rw [h1] at e2
  cases e2
  rw [e1]
  exact ⟨Same.refl _, h2.got e3⟩
/-- pairs (i, item) -/
def enumD : Nat → List Dt → List Dt
  | _, [] => []
  | n, d :: ds => .tup [.int (n : Int), d] :: enumD (n + 1) ds
theorem enumD_get : ∀ {ds : List Dt} {n i : Nat}, (enumD n ds)[i]? = ds[i]?.map fun d => .tup [.int ((n + i : Nat) : Int), d]
  | [], _, _ => rfl
  | d :: ds, n, 0 => rfl
  | d :: ds, n, i + 1 => by
    show (enumD (n + 1) ds)[i]? = _
    rw [enumD_get, show n + 1 + i = n + (i + 1) by omega]
    rfl
theorem enumD_length : ∀ {ds : List Dt} {n : Nat}, (enumD n ds).length = ds.length
  | [], _ => rfl
  | d :: ds, n => by show (enumD (n + 1) ds).length + 1 = ds.length + 1; rw [enumD_length]
theorem xi_enum {te : TE} {ds : List Dt} (h : Xd M G te (.lst ds)) : Xi M G (iEnum K (tCons te tNil)) (enumD 0 ds) := fun σ H R ok e k => h σ H _ ok e fun v d H1 r1 ed hv => by
  rw [ed] at hv
  obtain ⟨a, xs, q, nb, ha, hx⟩ := id hv
  rw [q] at hv
  refine ⟨a, xs, by rw [q], SqL.of ha, k _ [(.lst ds, .ref a)] H1 r1 (fun g z => by rw [List.mem_singleton.mp z]; exact hv) ⟨_, _, wk_enum, fun B H tr gh => ?_⟩⟩
  obtain ⟨ys, _, h1, h2⟩ := (gh _ (List.mem_singleton.mpr rfl)).lstOf
  refine ⟨⟨ys, h1, by rw [enumD_length, h2.length]⟩, fun i x H' hi y => ?_⟩
  obtain ⟨T, z, zs, e1, e2, e3, e4, e5⟩ := y
  rw [h1] at e4
  cases e4
  obtain ⟨d', g1, g2⟩ := h2.got e5
  rw [e3]
  refine ⟨Same.new e2, .tup [.int (i : Int), d'], by rw [enumD_get, g1, Nat.zero_add]; rfl, T, _, e1, fun b => tr T b e2, upd_same, _, _, rfl, rfl, _, _, rfl, g2.keep (Same.keep (Same.new e2)), rfl⟩
theorem xi_rng1 {ta : TA} {n : Int} (h : Xa M G ta (· = [.int n])) (hn : n ≤ 100000) (h0 : -100000 ≤ n) : Xi M G (iRng1 ta) ((List.range n.toNat).map fun (i : Nat) => Dt.int (i : Int)) := fun σ H R ok e k => h σ H _ ok e fun vs ds H1 r1 ed hv => by
  rw [ed] at hv
  obtain ⟨v, r, e1, e2, e3⟩ := hv
  have w : Walk (Itr 0 n.toNat) ((List.range n.toNat).map fun (i : Nat) => Dt.int (i : Int)).length (fun _ => True) (YFn fun i => .int (0 + i)) := by
    rw [List.length_map, List.length_range]
    exact walk_range
  refine ⟨n, by rw [e1, show v = V.int n from e2, show r = [] from e3], by omega, by omega, k _ [] H1 r1 (fun g z => by cases z) ⟨_, _, w, fun B H tr gh => ⟨trivial, fun i x H' hi y => ?_⟩⟩⟩
  · obtain ⟨y1, y2⟩ := y
    rw [List.length_map, List.length_range] at hi
    rw [y1]
    refine ⟨Same.refl _, .int (i : Int), by rw [List.getElem?_map, List.getElem?_range hi]; rfl, ?_⟩
    rw [y2]
    show V.int (0 + (i : Int)) = V.int (i : Int)
    rw [Int.zero_add]
theorem xi_str {te : TE} {z : Str} (h : Xd M G te (.str z)) : Xi M G (iStr te) (z.cps.toList.map fun c => .str ⟨#[c]⟩) := fun σ H R ok e k => h σ H _ ok e fun v d H1 r1 ed hv => by
  rw [ed] at hv
  have w : Walk (Its z) (z.cps.toList.map fun c => Dt.str ⟨#[c]⟩).length (fun _ => True) (fun i H v H' => H' = H ∧ ∃ c, z.cps[i]? = some c ∧ v = .str ⟨#[c]⟩) := by
    rw [List.length_map, Array.length_toList]
    exact walk_str
  refine ⟨z, hv, k _ [] H1 r1 (fun g z => by cases z) ⟨_, _, w, fun B H tr gh => ⟨trivial, fun i x H' hi y => ?_⟩⟩⟩
  · obtain ⟨y1, c, y2, y3⟩ := y
    rw [y1]
    refine ⟨Same.refl _, .str ⟨#[c]⟩, ?_, y3⟩
    rw [List.getElem?_map, Array.getElem?_toList, y2]
    rfl

/-! ### comprehensions -/
/-- a walk as a comprehension makes it: what is walked stands while nothing but the new list at D changes -/
def Xj (M : Mode K) (G : List (Option Dt)) (wi : TI) (ds : List Dt) : Prop := ∀ (σ : L2.St) (H : Hp) (R : It → Hp → Prop), M.ok H → Env K M.B H G σ →
  (∀ J H2, M.R H H2 → (∀ D, H2 D = none → ∃ Gd Y, Walk J ds.length Gd Y ∧ ∀ H3, M.R H2 H3 → (∀ a, (M.B a ∨ a = D) → H3 a ≠ none) → Gd H3 ∧ ∀ i x H', i < ds.length → Y i H3 x H' → Same H3 H' ∧ ∃ d, ds[i]? = some d ∧ At K (fun a => M.B a ∨ a = D) H' d x) → R J H2) → wi σ H R
theorem Xi.j {wi : TI} {ds : List Dt} (h : Xi M G wi ds) : Xj M G wi ds := fun σ H R ok e k => h σ H R ok e fun J gs H2 r hg wd => k J H2 r fun D hD => by
  obtain ⟨Gd, Y, w, hw⟩ := wd.ex
  exact ⟨Gd, Y, w, fun H3 r3 tr => hw _ H3 tr fun g z => ((hg g z).more hD).keep fun b u nb q => M.keep r3 b u (fun z => nb (.inl z)) q⟩
theorem xj_xl {te : TE} {ds : List Dt} (h : XL M G te ds) : Xj M G (iList K te) ds := fun σ H R ok e k => h σ H _ ok e fun a xs H1 r1 hh => by
  obtain ⟨h1, h2⟩ := hh H1 (M.refl H1)
  refine ⟨a, rfl, ⟨xs, SqL.of h1⟩, k _ H1 r1 fun D hD => ⟨_, _, wk_list, fun H3 r3 tr => ?_⟩⟩
  obtain ⟨g1, _⟩ := hh H3 r3
  have g2 : AtAll K (fun a => M.B a ∨ a = D) H3 ds xs := (h2.more hD).keep fun b u nb q => M.keep r3 b u (fun z => nb (.inl z)) q
  refine ⟨⟨xs, g1, g2.length⟩, fun i x H' hi y => ?_⟩
  obtain ⟨e1, zs, e2, e3⟩ := y
  rw [g1] at e2
  cases e2
  rw [e1]
  exact ⟨Same.refl _, g2.got e3⟩
theorem x_lc {wi : TI} {g : TG} {tt : TT} {te : TE} {vs js : List Nat} {ds : List Dt} {G' : Dt → List (Option Dt)} {P : Nat → List Dt → Prop} {Pt : Nat → Dt → Bool → Prop} {R : Dt → Prop} (hi : Xj M G wi ds) (h0 : P 0 [])
    (hg : ∀ (i : Nat) (d : Dt), ds[i]? = some d → ∀ (p : Addr) (acc : List Dt), Xg (M.bld p acc) (wipeG G vs) g d (G' d) js) (hj : ∀ j ∈ js, j ∈ vs)
    (ht : ∀ (i : Nat) (d : Dt) (p : Addr) (acc : List Dt), ds[i]? = some d → P i acc → Xt (M.bld p acc) (G' d) tt (Pt i d))
    (he : ∀ (i : Nat) (d : Dt) (p : Addr) (acc : List Dt), ds[i]? = some d → P i acc → Pt i d true → Xe (M.bld p acc) (G' d) te fun e => P (i + 1) (acc ++ [e]))
    (hn : ∀ (i : Nat) (d : Dt) (acc : List Dt), ds[i]? = some d → P i acc → Pt i d false → P (i + 1) acc)
    (hR : ∀ acc, P ds.length acc → R (.lst acc)) (hz : ds.length ≤ 40000 := by first | decide | assumption | omega) : Xe M G (tLc wi g tt te vs) R := fun σ H Q ok e k =>
  hi σ H _ ok e fun J H1 r1 wd D hD => by
    obtain ⟨Gd, Y, w, hw⟩ := wd D hD
    have o1 := M.stab ok r1
    have e1 := e.keep (M.keep r1)
    have new : ∀ i acc H', (M.bld D acc).ok H' → M.R H1 H' → acc.length ≤ i → Env K (M.bld D acc).B H' (wipeG G vs) (wipe σ vs) := fun i acc H' o r hl =>
      ((e1.wipe vs).more hD).keep fun b u nb q => M.keep r b u (fun z => nb (.inl z)) q
    refine lc_it w (fun i H' => ∃ acc, P i acc ∧ acc.length ≤ i ∧ (M.bld D acc).ok H' ∧ M.R H1 H') ⟨[], h0, Nat.le_refl _, ?_, M.knew o1 hD⟩ ?_ ?_ ?_
    · have r := M.knew (o := .lst []) o1 hD
      exact ⟨M.stabX (M.more o1 hD) r, M.nB o1 hD, [], upd_same, rfl⟩
    · rintro i H' hin ⟨acc, p, hl, o, r⟩
      exact (hw H' r fun a b => (M.bld D acc).trk o b).1
    · rintro i x H2 H3 hin ⟨acc, p, hl, o, r⟩ y
      obtain ⟨s3, d, ed, hd⟩ := (hw H2 r fun a b => (M.bld D acc).trk o b).2 i x H3 hin y
      have r3 := (M.bld D acc).same o s3
      have o3 := (M.bld D acc).stab o r3
      refine hg i d ed D acc (wipe σ vs) H3 x _ o3 ((new i acc H2 o r hl).keep (Same.keep s3)) hd fun σ2 e2 w2 => ⟨by rw [w2 vs hj, wipe_wipe fun _ q => q], ?_⟩
      refine ht i d D acc ed p σ2 H3 _ o3 e2 fun b H4 r4 pb => ?_
      have o4 := (M.bld D acc).stab o3 r4
      have R4 : M.R H1 H4 := M.trans r (M.trans r3.1 r4.1)
      cases b with
      | false => exact ⟨acc, hn i d acc ed p pb, by omega, o4, R4⟩
      | true =>
        show te σ2 H4 _
        refine he i d D acc ed p pb σ2 H4 _ o4 (e2.keep ((M.bld D acc).keep r4)) fun v dv H5 r5 pv hv => ?_
        have o5 := (M.bld D acc).stab o4 r5
        obtain ⟨q1, q2, ys, hp1, hy⟩ := id o5
        refine ⟨ys, hp1, Nat.lt_of_le_of_lt (Nat.le_trans (Nat.le_of_eq (hy.length.trans rfl)) (Nat.le_trans hl (Nat.le_trans (Nat.le_of_lt hin) hz))) (by decide), acc ++ [dv], pv, by rw [List.length_append, List.length_singleton]; omega, ?_, M.mutR o1 (M.trans R4 r5.1) hD⟩
        have kp : Keep (fun b => M.B b ∨ b = D) H5 (upd H5 D (.lst (ys ++ [v]))) := fun b o nb e => by
          rw [upd_ne fun z => nb (.inr z)]
          exact e
        refine ⟨M.stabX (M.more o1 hD) (M.mutR o1 (M.trans R4 r5.1) hD), q2, _, upd_same, (hy.keep fun b o nb e => kp b o (fun z => nb (.inl z)) e).app (AtAll.one ((hv.keep kp).less fun a z => z.elim id fun z => z.elim))⟩
    · rintro H' ⟨acc, p, hl, o, r⟩
      exact k _ _ H' (M.trans r1 r) (hR acc p) (bld_out o)
/-- [f(d) for d in ds] -/
theorem x_lcMap {wi : TI} {g : TG} {te : TE} {vs js : List Nat} {ds : List Dt} {G' : Dt → List (Option Dt)} (f : Dt → Dt) (hi : Xj M G wi ds)
    (hg : ∀ (i : Nat) (d : Dt), ds[i]? = some d → ∀ (p : Addr) (acc : List Dt), Xg (M.bld p acc) (wipeG G vs) g d (G' d) js) (hj : ∀ j ∈ js, j ∈ vs)
    (he : ∀ (i : Nat) (d : Dt) (p : Addr) (acc : List Dt), ds[i]? = some d → Xd (M.bld p acc) (G' d) te (f d)) (hz : ds.length ≤ 40000 := by first | decide | assumption | omega) : Xd M G (tLc wi g tYes te vs) (.lst (ds.map f)) :=
  x_lc (P := fun i acc => acc = (ds.take i).map f) (Pt := fun _ _ b => b = true) hi rfl hg hj (fun i d p acc _ _ σ H Q ok e k => k true H ((M.bld p acc).refl H) rfl)
    (fun i d p acc e h _ => (he i d p acc e).mono fun d' e' => by
      have q : ds.take (i + 1) = ds.take i ++ [d] := by rw [List.take_add_one, e]; rfl
      rw [e', h, q, List.map_append]
      rfl)
    (fun i d acc _ _ h => by cases h) (fun acc h => by rw [h, List.take_length]) hz
/-- [f(d) for d in ds if c(d)] -/
theorem x_lcIf {wi : TI} {g : TG} {tt : TT} {te : TE} {vs js : List Nat} {ds : List Dt} {G' : Dt → List (Option Dt)} (f : Dt → Dt) (c : Dt → Bool) (hi : Xj M G wi ds)
    (hg : ∀ (i : Nat) (d : Dt), ds[i]? = some d → ∀ (p : Addr) (acc : List Dt), Xg (M.bld p acc) (wipeG G vs) g d (G' d) js) (hj : ∀ j ∈ js, j ∈ vs)
    (ht : ∀ (i : Nat) (d : Dt) (p : Addr) (acc : List Dt), ds[i]? = some d → Xb (M.bld p acc) (G' d) tt (c d))
    (he : ∀ (i : Nat) (d : Dt) (p : Addr) (acc : List Dt), ds[i]? = some d → c d = true → Xd (M.bld p acc) (G' d) te (f d)) (hz : ds.length ≤ 40000 := by first | decide | assumption | omega) : Xd M G (tLc wi g tt te vs) (.lst ((ds.filter c).map f)) :=
  x_lc (P := fun i acc => acc = ((ds.take i).filter c).map f) (Pt := fun _ d b => b = c d) hi rfl hg hj (fun i d p acc e _ => ht i d p acc e)
    (fun i d p acc e h hc => (he i d p acc e hc.symm).mono fun d' e' => by
      have q : ds.take (i + 1) = ds.take i ++ [d] := by rw [List.take_add_one, e]; rfl
      rw [e', h, q, List.filter_append, List.map_append, List.filter_cons, if_pos hc.symm]
      rfl)
    (fun i d acc e h hc => by
      have q : ds.take (i + 1) = ds.take i ++ [d] := by rw [List.take_add_one, e]; rfl
      rw [h, q, List.filter_append, List.map_append, List.filter_cons, if_neg (by rw [← hc]; decide)]
      show _ = _ ++ []
      rw [List.append_nil]) (fun acc h => by rw [h, List.take_length]) hz

/-! ### loops -/
/-- for: the word P speaks of the turn and of what a turn leaves (a letter a of any kind): the mode, the slots -/
theorem s_for {α : Type} {wi : TI} {g : TG} {tb : TS} {js : List Nat} {ds : List Dt} {D : Ends} {H0 H : Hp} {L : List (Dt × V)} {σ : L2.St} (hi : Xi M G wi ds) (h : Sg M H0 L G σ H) (Mm : α → Mode K) (Gm : α → List (Option Dt)) (Gt : α → Dt → List (Option Dt)) (P : Nat → α → Prop) (a0 : α)
    (hM : Mm a0 = M) (hGm : Gm a0 = G) (h0 : P 0 a0)
    (hg : ∀ (i : Nat) (d : Dt) (a : α), ds[i]? = some d → P i a → Xg (Mm a) (Gm a) g d (Gt a d) js)
    (hs : ∀ (i : Nat) (d : Dt) (a : α) (L' : List (Dt × V)) (σ' : L2.St) (H' : Hp), ds[i]? = some d → P i a → Sg (Mm a) H0 L' (Gt a d) σ' H' →
      tb { D with nx := fun σ2 H2 => ∃ a', P (i + 1) a' ∧ Sg (Mm a') H0 L' (Gm a') σ2 H2, ct := fun σ2 H2 => ∃ a', P (i + 1) a' ∧ Sg (Mm a') H0 L' (Gm a') σ2 H2, bk := D.nx } σ' H')
    (hd : ∀ (a : α) (σ' : L2.St) (H' : Hp), P ds.length a → Sg (Mm a) H0 L (Gm a) σ' H' → D.nx σ' H') : tFor wi g tb D σ H := hi σ H _ h.ok h.env fun J gs H1 r1 hgs wd => by
  obtain ⟨Gd, Y, w, hw⟩ := wd.ex
  have h1 := h.go r1
  refine for_it w (fun i σ' H' => ∃ a, P i a ∧ Sg (Mm a) H0 (gs ++ L) (Gm a) σ' H') ⟨a0, h0, ?_⟩ ?_ ?_ ?_
  · subst hM
    subst hGm
    exact ⟨h1.ok, h1.fr, fun g z => (List.mem_append.mp z).elim (hgs g) (h1.gh g), h1.env⟩
  · rintro i σ' H' hin ⟨a, p, s⟩
    exact (hw _ H' (fun b q => (Mm a).trk s.ok q) fun g z => s.gh g (List.mem_append_left _ z)).1
  · rintro i x σ' H2 H3 hin ⟨a, p, s⟩ y
    obtain ⟨s3, d, ed, hd'⟩ := (hw _ H2 (fun b q => (Mm a).trk s.ok q) fun g z => s.gh g (List.mem_append_left _ z)).2 i x H3 hin y
    have s4 := s.go ((Mm a).same s.ok s3)
    exact hg i d a ed p σ' H3 x _ s4.ok s4.env hd' fun σ2 e2 _ => hs i d a (gs ++ L) σ2 H3 ed p ⟨s4.ok, s4.fr, s4.gh, e2⟩
  · rintro σ' H' ⟨a, p, s⟩
    exact hd a σ' H' p ⟨s.ok, s.fr, fun g z => s.gh g (List.mem_append_right _ z), s.env⟩
/-- while -/
theorem s_while {α : Type} {t : TT} {tb : TS} {D : Ends} {H0 H : Hp} {L : List (Dt × V)} {σ : L2.St} (Mm : α → Mode K) (Gm : α → List (Option Dt)) (P : α → Prop) (ms : α → Nat) (a0 : α) (h : Sg (Mm a0) H0 L (Gm a0) σ H) (h0 : P a0) {Pt : α → Bool → Prop}
    (ht : ∀ a, P a → Xt (Mm a) (Gm a) t (Pt a))
    (hs : ∀ (a : α) (σ' : L2.St) (H' : Hp), P a → Pt a true → Sg (Mm a) H0 L (Gm a) σ' H' → tb { D with nx := fun σ2 H2 => ∃ a', ms a' < ms a ∧ P a' ∧ Sg (Mm a') H0 L (Gm a') σ2 H2, ct := fun σ2 H2 => ∃ a', ms a' < ms a ∧ P a' ∧ Sg (Mm a') H0 L (Gm a') σ2 H2, bk := D.nx } σ' H')
    (hd : ∀ (a : α) (σ' : L2.St) (H' : Hp), P a → Pt a false → Sg (Mm a) H0 L (Gm a) σ' H' → D.nx σ' H') : tWhile t tb D σ H := by
  refine ⟨fun m σ' H' => ∃ a, m = ms a ∧ P a ∧ Sg (Mm a) H0 L (Gm a) σ' H', ⟨_, a0, rfl, h0, h⟩, ?_⟩
  rintro m σ' H' ⟨a, rfl, p, s⟩
  refine ht a p σ' H' _ s.ok s.env fun b H2 r2 pb => ?_
  have s2 := s.go r2
  cases b with
  | true =>
    refine iteT ⟨fun σ3 H3 => ∃ a', ms a' < ms a ∧ P a' ∧ Sg (Mm a') H0 L (Gm a') σ3 H3, ?_, hs a σ' H2 p pb s2⟩
    rintro σ3 H3 ⟨a', h1, h2, h3⟩
    exact ⟨ms a', h1, a', rfl, h2, h3⟩
  | false => exact iteF (hd a σ' H2 p pb s2)
end

/-! ### a def -/
section
variable {P : Program} {w : World} {K : PySem.W.Frag} {mg : Str → Option Value} {base : Heap}
/-- what a def of the text is worth: where it stands, its promise -/
def Cal (P : Program) (w : World) (K : PySem.W.Frag) (mg : Str → Option Value) (base : Heap) (k : Nat) (x : Str) (ps : List Str) (sp : Sp) : Prop :=
  ∃ f fd, FnOk P w K mg base CX0 k f fd ps sp ∧ mg x = some (.ref f) ∧ PySem.W.keepIn K (.ref f) = true ∧ Binds K fd ps []
/-- a method -/
def Met (P : Program) (w : World) (K : PySem.W.Frag) (mg : Str → Option Value) (base : Heap) (k : Nat) (c m : Str) (ps : List Str) (sp : Sp) : Prop :=
  ∃ f fd, FnOk P w K mg base CX0 k f fd ps sp ∧ Cls K (He.ga K c) ∧ Meth K (He.ga K c) m f ∧ Binds K fd ps []
/-- a class that is called -/
def Mak (P : Program) (w : World) (K : PySem.W.Frag) (mg : Str → Option Value) (base : Heap) (k : Nat) (c : Str) (ps : List Str) (sp : Sp) : Prop :=
  ∃ f fd, FnOk P w K mg base CX0 k f fd ps sp ∧ mg c = some (.ref (He.ga K c)) ∧ Mk K (He.ga K c) f ∧ Binds K fd ps []
section
variable {X : Cx} {k : Nat} {x m c : Str} {ps : List Str} {sp : Sp} {e o : Expr} {es : List Expr} {p pos apos : Pos} {t : TA} {ta : TE}
theorem pe_cal (C : Cal X.prog X.w X.K X.mg X.base k x ps sp) (hr : Room k X.A) (hg : Gl X x) (ha : PA X (e :: es) t) (hdb : (x == ("__debug__" : Str)) = false := by decide)
    (he : starEach (e :: es) X.env = (false, eval e X.env) :: starEach es X.env := by rfl) (hpl : (backTo pos (starEach es X.env)).any (·.1) = false := by rfl) : PE X (.Call (.Name x p) (e :: es) [] pos) (tCall sp [] E0 t) := by
  obtain ⟨f, fd, F, hm, hk, hb⟩ := C
  exact pe_call F hr hg hm hk hb .nil pass0 ha hdb he hpl
theorem pe_cal0 (C : Cal X.prog X.w X.K X.mg X.base k x ps sp) (hr : Room k X.A) (hg : Gl X x) (hdb : (x == ("__debug__" : Str)) = false := by decide) : PE X (.Call (.Name x p) [] [] pos) (tCall sp [] E0 tNil) := by
  obtain ⟨f, fd, F, hm, hk, hb⟩ := C
  exact pe_call0 F hr hg hm hk hb .nil pass0 hdb
theorem pe_met {pl : Sem Bool} (C : Met X.prog X.w X.K X.mg X.base k c m ps sp) (hr : Room k X.A) (he : PE X o ta) (ha : PA X (e :: es) t)
    (hst : starEach (e :: es) X.env = (false, eval e X.env) :: starEach es X.env := by rfl) (hpl : (backTo pos (starEach es X.env)).any (·.1) = false := by rfl)
    (ht : eval (.Call (.Attribute o m apos) (e :: es) [] pos) X.env = (do
      let ov ← eval o X.env
      standAt apos.atName
      let (f, first) ← holding [ov] (getMethod ov m pl)
      callWith pos f first (backTo pos (starEach (e :: es) X.env)) (backToKw pos (keywordEach [] X.env))) := by rfl) : PE X (.Call (.Attribute o m apos) (e :: es) [] pos) (tMeth (He.ga X.K c) m sp [] E0 ta t) := by
  obtain ⟨f, fd, F, hc, hm, hb⟩ := C
  exact pe_meth he hc hm F hr hb .nil pass0 ha hst hpl ht
theorem pe_met0 {pl : Sem Bool} (C : Met X.prog X.w X.K X.mg X.base k c m ps sp) (hr : Room k X.A) (he : PE X o ta)
    (ht : eval (.Call (.Attribute o m apos) [] [] pos) X.env = (do
      let ov ← eval o X.env
      standAt apos.atName
      let (f, first) ← holding [ov] (getMethod ov m pl)
      callWith pos f first (backTo pos (starEach [] X.env)) (backToKw pos (keywordEach [] X.env))) := by rfl) : PE X (.Call (.Attribute o m apos) [] [] pos) (tMeth (He.ga X.K c) m sp [] E0 ta tNil) := by
  obtain ⟨f, fd, F, hc, hm, hb⟩ := C
  exact pe_meth0 he hc hm F hr hb .nil pass0 ht
theorem pe_mak (C : Mak X.prog X.w X.K X.mg X.base k c ps sp) (hr : Room (k + 1) X.A) (hg : Gl X c) (ha : PA X (e :: es) t) (hdb : (c == ("__debug__" : Str)) = false := by decide)
    (he : starEach (e :: es) X.env = (false, eval e X.env) :: starEach es X.env := by rfl) (hpl : (backTo pos (starEach es X.env)).any (·.1) = false := by rfl) : PE X (.Call (.Name c p) (e :: es) [] pos) (tMake (He.ga X.K c) sp [] E0 t) := by
  obtain ⟨f, fd, F, hm, hk, hb⟩ := C
  exact pe_make hk F hr hg hm hb .nil pass0 ha hdb he hpl
end
section
variable {x qual : Str} {params : Arguments} {body : List Stmt} {scope : Scope} {f : Addr} {fd : FuncData} {N ps : List Str} {k : Nat}
/-- a def that changes nothing -/
theorem pure_ok {pre : List Dt → Dt → Prop} (F : FunD K x qual params body scope [] [] f fd) (S : FnScope N ps scope) (hl : ∀ ds r, pre ds r → ds.length = ps.length)
    (hb : ∀ (cdv : Value) (A : Around) (outer : List PySem.Env) (s : Shared) (H : Hp) (σ : L2.St) (Q : VK) (E : XK) (B : Addr → Prop) (ds : List Dt) (r : Dt), Room k (A.deeper (envOfC qual scope s.heap.objs.size f cdv)) → pre ds r →
      Sg (pureM K B) H [] (ds.map some ++ List.replicate (N.length - ds.length) none) σ H → (∀ v H', Same H H' → At K B H' r v → Q v H') →
      ∃ t, PSs (cxOf CX0 P w K mg base N qual scope f cdv A outer s H E).nox body t ∧ t { nx := fun _ H' => Q .non H', rt := Q } σ H) : FnOk P w K mg base CX0 (k + 1) f fd ps (spP K pre) := by
  refine F.ok S (fun vs H Q E h => ?_) (fun cdv A outer s H vs Q E hr h => ?_)
  · obtain ⟨B, ds, r, h1, h2, h3, _⟩ := h
    rw [h2.length, hl ds r h3]
  · obtain ⟨B, ds, r, h1, h2, h3, h4⟩ := h
    obtain ⟨t, q1, q2⟩ := hb cdv A outer s H (start N vs) Q E B ds r hr h3 ⟨h1, Same.refl H, (fun g z => by cases z), by
      show Env K B H _ (vs.map some ++ List.replicate (N.length - vs.length) none)
      rw [h2.length]
      exact Env.start _ h2⟩ h4
    exact ⟨t, q1.nox, q2⟩
/-- a def that draws -/
theorem st_ok {pre : List Dt → (Dt → Prop) → Prop} (F : FunD K x qual params body scope [] [] f fd) (S : FnScope N ps scope) (hl : ∀ ds r, pre ds r → ds.length + 1 = ps.length)
    (hb : ∀ (cdv : Value) (A : Around) (outer : List PySem.Env) (s : Shared) (H : Hp) (σ : L2.St) (Q : VK) (E : XK) (B : Addr → Prop) (st c : Addr) (ns : List Int) (hB : B st) (ds : List Dt) (r : Dt → Prop), Room k (A.deeper (envOfC qual scope s.heap.objs.size f cdv)) → pre ds r →
      Sg (stM K B st c ns hB) H [] ((Dt.raw st :: ds).map some ++ List.replicate (N.length - (ds.length + 1)) none) σ H → (∀ v d H', (stM K B st c ns hB).F H H' → r d → At K B H' d v → Q v H') →
      ∃ t, PSs (cxOf CX0 P w K mg base N qual scope f cdv A outer s H E).nox body t ∧ t { nx := fun _ H' => Q .non H', rt := Q } σ H) : FnOk P w K mg base CX0 (k + 1) f fd ps (spS K pre) := by
  refine F.ok S (fun vs H Q E h => ?_) (fun cdv A outer s H vs Q E hr h => ?_)
  · obtain ⟨B, st, c, ns, ws, ds, r, e, h0, h1, h2, h3, h4, _⟩ := h
    rw [e, List.length_cons, h3.length, hl ds r h4]
  · obtain ⟨B, st, c, ns, ws, ds, r, e, h0, h1, h2, h3, h4, h5⟩ := h
    subst e
    have hv : AtAll K B H (Dt.raw st :: ds) (.ref st :: ws) := ⟨_, _, rfl, rfl, h3⟩
    obtain ⟨t, q1, q2⟩ := hb cdv A outer s H (start N (.ref st :: ws)) Q E B st c ns h0 ds r hr h4 ⟨⟨h1, h2⟩, ⟨h2, Ks.refl H⟩, (fun g z => by cases z), by
      show Env K B H _ ((V.ref st :: ws).map some ++ List.replicate (N.length - (V.ref st :: ws).length) none)
      rw [hv.length]
      exact Env.start _ hv⟩ fun v d H' f pd' hd => h5 v d H' f.2 pd' hd
    exact ⟨t, q1.nox, q2⟩
end
end
end Lf

/-! statements with what follows written out: e_ the last of a block, q_ with a rest -/
namespace Lf
open PySem PySem.Spec PyProof.Rows L2
section
variable {K : PySem.W.Frag} {M : Mode K} {G : List (Option Dt)} {H0 H : Hp} {L : List (Dt × V)} {σ : L2.St} {n b c : L2.St → Hp → Prop} {r : VK} {te : TE} {t : TT} {ta : TA} {u v w : TS} {i j : Nat} {d e : Dt}
theorem e_next (h : n σ H) : tNext ⟨n, r, b, c⟩ σ H := h
theorem q_asg {P : Dt → Prop} (h : Sg M H0 L G σ H) (x : Xe M G te P) (k : ∀ d σ' H', P d → Sg M H0 L (G.set i (some d)) σ' H' → u ⟨n, r, b, c⟩ σ' H') : tSeq (tAsg te (gName i)) u ⟨n, r, b, c⟩ σ H :=
  s_asg (D := ⟨u ⟨n, r, b, c⟩, r, b, c⟩) x h k
theorem qd_asg (h : Sg M H0 L G σ H) (x : Xd M G te d) (k : ∀ σ' H', Sg M H0 L (G.set i (some d)) σ' H' → u ⟨n, r, b, c⟩ σ' H') : tSeq (tAsg te (gName i)) u ⟨n, r, b, c⟩ σ H :=
  sd_asg (D := ⟨u ⟨n, r, b, c⟩, r, b, c⟩) x h k
theorem e_asg {P : Dt → Prop} (h : Sg M H0 L G σ H) (x : Xe M G te P) (k : ∀ d σ' H', P d → Sg M H0 L (G.set i (some d)) σ' H' → n σ' H') : tAsg te (gName i) ⟨n, r, b, c⟩ σ H :=
  s_asg (D := ⟨n, r, b, c⟩) x h k
theorem ed_asg (h : Sg M H0 L G σ H) (x : Xd M G te d) (k : ∀ σ' H', Sg M H0 L (G.set i (some d)) σ' H' → n σ' H') : tAsg te (gName i) ⟨n, r, b, c⟩ σ H :=
  sd_asg (D := ⟨n, r, b, c⟩) x h k
theorem e_ret {P : Dt → Prop} (h : Sg M H0 L G σ H) (x : Xe M G te P) (k : ∀ d v H', P d → M.ok H' → M.F H0 H' → At K M.B H' d v → r v H') : tRet te ⟨n, r, b, c⟩ σ H :=
  s_ret (D := ⟨n, r, b, c⟩) x h k
theorem ed_ret (h : Sg M H0 L G σ H) (k : ∀ v H', M.F H0 H' → At K M.B H' d v → r v H') (x : Xd M G te d) : tRet te ⟨n, r, b, c⟩ σ H :=
  sd_ret (D := ⟨n, r, b, c⟩) x h k
theorem e_if {P : Bool → Prop} (h : Sg M H0 L G σ H) (x : Xt M G t P) (h1 : P true → ∀ H', Sg M H0 L G σ H' → u ⟨n, r, b, c⟩ σ H') (h2 : P false → ∀ H', Sg M H0 L G σ H' → w ⟨n, r, b, c⟩ σ H') : tIfS t u w ⟨n, r, b, c⟩ σ H :=
  s_if (D := ⟨n, r, b, c⟩) x h h1 h2
theorem ed_if {f : Bool} (h : Sg M H0 L G σ H) (x : Xb M G t f) (h1 : f = true → ∀ H', Sg M H0 L G σ H' → u ⟨n, r, b, c⟩ σ H') (h2 : f = false → ∀ H', Sg M H0 L G σ H' → w ⟨n, r, b, c⟩ σ H') : tIfS t u w ⟨n, r, b, c⟩ σ H :=
  sd_if (D := ⟨n, r, b, c⟩) x h h1 h2
theorem ed_when {f : Bool} (h : Sg M H0 L G σ H) (x : Xb M G t f) (h1 : f = true → ∀ H', Sg M H0 L G σ H' → u ⟨n, r, b, c⟩ σ H') (h2 : f = false → ∀ H', Sg M H0 L G σ H' → n σ H') : tIfS t u tNext ⟨n, r, b, c⟩ σ H :=
  sd_if (D := ⟨n, r, b, c⟩) x h h1 h2
theorem q_if {P : Bool → Prop} (h : Sg M H0 L G σ H) (x : Xt M G t P) (h1 : P true → ∀ H', Sg M H0 L G σ H' → u ⟨v ⟨n, r, b, c⟩, r, b, c⟩ σ H') (h2 : P false → ∀ H', Sg M H0 L G σ H' → w ⟨v ⟨n, r, b, c⟩, r, b, c⟩ σ H') : tSeq (tIfS t u w) v ⟨n, r, b, c⟩ σ H :=
  s_if (D := ⟨v ⟨n, r, b, c⟩, r, b, c⟩) x h h1 h2
theorem qd_if {f : Bool} (h : Sg M H0 L G σ H) (x : Xb M G t f) (h1 : f = true → ∀ H', Sg M H0 L G σ H' → u ⟨v ⟨n, r, b, c⟩, r, b, c⟩ σ H') (h2 : f = false → ∀ H', Sg M H0 L G σ H' → w ⟨v ⟨n, r, b, c⟩, r, b, c⟩ σ H') : tSeq (tIfS t u w) v ⟨n, r, b, c⟩ σ H :=
  sd_if (D := ⟨v ⟨n, r, b, c⟩, r, b, c⟩) x h h1 h2
theorem qd_when {f : Bool} (h : Sg M H0 L G σ H) (x : Xb M G t f) (h1 : f = true → ∀ H', Sg M H0 L G σ H' → u ⟨v ⟨n, r, b, c⟩, r, b, c⟩ σ H') (h2 : f = false → ∀ H', Sg M H0 L G σ H' → v ⟨n, r, b, c⟩ σ H') : tSeq (tIfS t u tNext) v ⟨n, r, b, c⟩ σ H :=
  sd_if (D := ⟨v ⟨n, r, b, c⟩, r, b, c⟩) x h h1 h2
theorem q_when {P : Bool → Prop} (h : Sg M H0 L G σ H) (x : Xt M G t P) (h1 : P true → ∀ H', Sg M H0 L G σ H' → u ⟨v ⟨n, r, b, c⟩, r, b, c⟩ σ H') (h2 : P false → ∀ H', Sg M H0 L G σ H' → v ⟨n, r, b, c⟩ σ H') : tSeq (tIfS t u tNext) v ⟨n, r, b, c⟩ σ H :=
  s_if (D := ⟨v ⟨n, r, b, c⟩, r, b, c⟩) x h h1 h2
/-- a test that is known to fail: the code behind it is never come to -/
theorem qd_no (h : Sg M H0 L G σ H) (x : Xb M G t false) (h2 : ∀ H', Sg M H0 L G σ H' → v ⟨n, r, b, c⟩ σ H') : tSeq (tIfS t u tNext) v ⟨n, r, b, c⟩ σ H :=
  qd_when h x (fun e => by cases e) fun _ => h2
theorem qd_par (h : Sg M H0 L G σ H) (x : Xa M G ta (· = [d, e])) (k : ∀ σ' H', Sg M H0 L ((G.set i (some d)).set j (some e)) σ' H' → u ⟨n, r, b, c⟩ σ' H') : tSeq (tPar i j ta) u ⟨n, r, b, c⟩ σ H :=
  sd_par (D := ⟨u ⟨n, r, b, c⟩, r, b, c⟩) x h k
theorem q_par {P : Dt → Dt → Prop} (h : Sg M H0 L G σ H) (x : Xa M G ta fun ds => ∃ a b, ds = [a, b] ∧ P a b) (k : ∀ a' b' σ' H', P a' b' → Sg M H0 L ((G.set i (some a')).set j (some b')) σ' H' → u ⟨n, r, b, c⟩ σ' H') : tSeq (tPar i j ta) u ⟨n, r, b, c⟩ σ H :=
  s_par (D := ⟨u ⟨n, r, b, c⟩, r, b, c⟩) x h k
theorem q_asgG {P : Dt → Prop} {g : TG} {js : List Nat} {G' : Dt → List (Option Dt)} (h : Sg M H0 L G σ H) (x : Xe M G te P) (hg : ∀ d, P d → Xg M G g d (G' d) js) (k : ∀ d σ' H', P d → Sg M H0 L (G' d) σ' H' → u ⟨n, r, b, c⟩ σ' H') : tSeq (tAsg te g) u ⟨n, r, b, c⟩ σ H :=
  s_asgG (D := ⟨u ⟨n, r, b, c⟩, r, b, c⟩) x hg h k
theorem q_drop {P : Dt → Prop} (h : Sg M H0 L G σ H) (x : Xe M G te P) (k : ∀ d H', P d → Sg M H0 L G σ H' → u ⟨n, r, b, c⟩ σ H') : tSeq (tDrop te) u ⟨n, r, b, c⟩ σ H :=
  s_drop (D := ⟨u ⟨n, r, b, c⟩, r, b, c⟩) x h k
theorem q_new0 (h : Sg M H0 L G σ H) (k : ∀ p σ' H', Sg (M.bld p []) H0 L (G.set i (some (.raw p))) σ' H' → u ⟨n, r, b, c⟩ σ' H') : tSeq (tAsg (tLst tNil) (gName i)) u ⟨n, r, b, c⟩ σ H :=
  s_new0 (D := ⟨u ⟨n, r, b, c⟩, r, b, c⟩) h k
theorem qd_new {ds : List Dt} (h : Sg M H0 L G σ H) (x : Xa M G ta (· = ds)) (k : ∀ p σ' H', Sg (M.bld p ds) H0 L (G.set i (some (.raw p))) σ' H' → u ⟨n, r, b, c⟩ σ' H') (hl : ds.length ≤ 100000 := by decide) : tSeq (tAsg (tLst ta) (gName i)) u ⟨n, r, b, c⟩ σ H :=
  s_new (D := ⟨u ⟨n, r, b, c⟩, r, b, c⟩) x (fun _ e => by rw [e]; exact hl) h fun p ds' σ' H' e s => k p σ' H' (by rw [e] at s; exact s)
theorem e_app {p : Addr} {ds : List Dt} {P : Dt → Prop} (h : Sg (M.bld p ds) H0 L G σ H) (hi : G[i]? = some (some (.raw p))) (hz : ds.length < 100000) (x : Xe (M.bld p ds) G te P)
    (k : ∀ d H', P d → Sg (M.bld p (ds ++ [d])) H0 L G σ H' → n σ H') : tDrop (tBM K "list" rAppend (tVar i) (tCons te tNil)) ⟨n, r, b, c⟩ σ H :=
  s_app (D := ⟨n, r, b, c⟩) hi x hz h k
theorem ed_app {p : Addr} {ds : List Dt} (h : Sg (M.bld p ds) H0 L G σ H) (hi : G[i]? = some (some (.raw p))) (hz : ds.length < 100000) (x : Xd (M.bld p ds) G te d)
    (k : ∀ H', Sg (M.bld p (ds ++ [d])) H0 L G σ H' → n σ H') : tDrop (tBM K "list" rAppend (tVar i) (tCons te tNil)) ⟨n, r, b, c⟩ σ H :=
  s_app (D := ⟨n, r, b, c⟩) hi x hz h fun d' H' e s => k H' (by rw [e] at s; exact s)
theorem qd_app {p : Addr} {ds : List Dt} (h : Sg (M.bld p ds) H0 L G σ H) (hi : G[i]? = some (some (.raw p))) (hz : ds.length < 100000) (x : Xd (M.bld p ds) G te d)
    (k : ∀ H', Sg (M.bld p (ds ++ [d])) H0 L G σ H' → u ⟨n, r, b, c⟩ σ H') : tSeq (tDrop (tBM K "list" rAppend (tVar i) (tCons te tNil))) u ⟨n, r, b, c⟩ σ H :=
  s_app (D := ⟨u ⟨n, r, b, c⟩, r, b, c⟩) hi x hz h fun d' H' e s => k H' (by rw [e] at s; exact s)
theorem q_app {p : Addr} {ds : List Dt} {P : Dt → Prop} (h : Sg (M.bld p ds) H0 L G σ H) (hi : G[i]? = some (some (.raw p))) (hz : ds.length < 100000) (x : Xe (M.bld p ds) G te P)
    (k : ∀ d H', P d → Sg (M.bld p (ds ++ [d])) H0 L G σ H' → u ⟨n, r, b, c⟩ σ H') : tSeq (tDrop (tBM K "list" rAppend (tVar i) (tCons te tNil))) u ⟨n, r, b, c⟩ σ H :=
  s_app (D := ⟨u ⟨n, r, b, c⟩, r, b, c⟩) hi x hz h k
theorem e_retB {p : Addr} {ds : List Dt} (h : Sg (M.bld p ds) H0 L G σ H) (hi : G[i]? = some (some (.raw p))) (k : ∀ v, M.ok H → M.F H0 H → At K M.B H (.lst ds) v → r v H) : tRet (tVar i) ⟨n, r, b, c⟩ σ H :=
  s_retB (D := ⟨n, r, b, c⟩) hi h k
theorem q_for {α : Type} {wi : TI} {g : TG} {tb : TS} {js : List Nat} {ds : List Dt} (h : Sg M H0 L G σ H) (hi : Xi M G wi ds) (Mm : α → Mode K) (Gm : α → List (Option Dt)) (Gt : α → Dt → List (Option Dt)) (P : Nat → α → Prop) (a0 : α)
    (hM : Mm a0 = M) (hGm : Gm a0 = G) (h0 : P 0 a0)
    (hg : ∀ (i : Nat) (d : Dt) (a : α), ds[i]? = some d → P i a → Xg (Mm a) (Gm a) g d (Gt a d) js)
    (hs : ∀ (i : Nat) (d : Dt) (a : α) (L' : List (Dt × V)) (σ' : L2.St) (H' : Hp), ds[i]? = some d → P i a → Sg (Mm a) H0 L' (Gt a d) σ' H' →
      tb ⟨fun σ2 H2 => ∃ a', P (i + 1) a' ∧ Sg (Mm a') H0 L' (Gm a') σ2 H2, r, u ⟨n, r, b, c⟩, fun σ2 H2 => ∃ a', P (i + 1) a' ∧ Sg (Mm a') H0 L' (Gm a') σ2 H2⟩ σ' H')
    (hd : ∀ (a : α) (σ' : L2.St) (H' : Hp), P ds.length a → Sg (Mm a) H0 L (Gm a) σ' H' → u ⟨n, r, b, c⟩ σ' H') : tSeq (tFor wi g tb) u ⟨n, r, b, c⟩ σ H :=
  s_for (D := ⟨u ⟨n, r, b, c⟩, r, b, c⟩) hi h Mm Gm Gt P a0 hM hGm h0 hg hs hd
theorem e_for {α : Type} {wi : TI} {g : TG} {tb : TS} {js : List Nat} {ds : List Dt} (h : Sg M H0 L G σ H) (hi : Xi M G wi ds) (Mm : α → Mode K) (Gm : α → List (Option Dt)) (Gt : α → Dt → List (Option Dt)) (P : Nat → α → Prop) (a0 : α)
    (hM : Mm a0 = M) (hGm : Gm a0 = G) (h0 : P 0 a0)
    (hg : ∀ (i : Nat) (d : Dt) (a : α), ds[i]? = some d → P i a → Xg (Mm a) (Gm a) g d (Gt a d) js)
    (hs : ∀ (i : Nat) (d : Dt) (a : α) (L' : List (Dt × V)) (σ' : L2.St) (H' : Hp), ds[i]? = some d → P i a → Sg (Mm a) H0 L' (Gt a d) σ' H' →
      tb ⟨fun σ2 H2 => ∃ a', P (i + 1) a' ∧ Sg (Mm a') H0 L' (Gm a') σ2 H2, r, n, fun σ2 H2 => ∃ a', P (i + 1) a' ∧ Sg (Mm a') H0 L' (Gm a') σ2 H2⟩ σ' H')
    (hd : ∀ (a : α) (σ' : L2.St) (H' : Hp), P ds.length a → Sg (Mm a) H0 L (Gm a) σ' H' → n σ' H') : tFor wi g tb ⟨n, r, b, c⟩ σ H :=
  s_for (D := ⟨n, r, b, c⟩) hi h Mm Gm Gt P a0 hM hGm h0 hg hs hd
theorem q_while {α : Type} {tb : TS} (Mm : α → Mode K) (Gm : α → List (Option Dt)) (P : α → Prop) (ms : α → Nat) (a0 : α) (h : Sg (Mm a0) H0 L (Gm a0) σ H) (h0 : P a0) {Pt : α → Bool → Prop}
    (ht : ∀ a, P a → Xt (Mm a) (Gm a) t (Pt a))
    (hs : ∀ (a : α) (σ' : L2.St) (H' : Hp), P a → Pt a true → Sg (Mm a) H0 L (Gm a) σ' H' → tb ⟨fun σ2 H2 => ∃ a', ms a' < ms a ∧ P a' ∧ Sg (Mm a') H0 L (Gm a') σ2 H2, r, u ⟨n, r, b, c⟩, fun σ2 H2 => ∃ a', ms a' < ms a ∧ P a' ∧ Sg (Mm a') H0 L (Gm a') σ2 H2⟩ σ' H')
    (hd : ∀ (a : α) (σ' : L2.St) (H' : Hp), P a → Pt a false → Sg (Mm a) H0 L (Gm a) σ' H' → u ⟨n, r, b, c⟩ σ' H') : tSeq (tWhile t tb) u ⟨n, r, b, c⟩ σ H :=
  s_while (D := ⟨u ⟨n, r, b, c⟩, r, b, c⟩) Mm Gm P ms a0 h h0 ht hs hd
end
end Lf

/-! what the program reckons, as plain functions -/
namespace Lf
open PySem
def gr (a b : Int) : Int := if a > b then a else b
def movedV (w : Str) (v s e : Int) : Int := if w = "last" then e else if w = "raise" ∨ (w = "row" ∧ s ≤ v) then gr v e else if w = "lower" then (if v < e then v else e) else v
def handV (w : Str) (v o : Int) (l : Bool) : Int := if w = "last" ∨ (w = "later" ∧ l = true) then o else if w = "raise" then gr v o else v
/-- a field -/
structure Fd where
  (nm rd jp an gv tk kp : Str)
def Fd.dt (f : Fd) : Dt := .tup [.str f.nm, .str f.rd, .str f.jp, .str f.an, .str f.gv, .str f.tk, .str f.kp]
/-- a rule -/
structure Rl where
  (fs : List Fd) (way sh : Str)
def Rl.dt (R : Rl) : Dt := .ins "Rule" ["parts", "way"] [.lst (R.fs.map Fd.dt), .tup [.str R.way, .str R.sh]]
/-- the shown field's number -/
def Rl.at (R : Rl) : Nat := (R.fs.map Fd.nm).findIdx (· = R.sh)
/-- a device's table -/
abbrev Tb := Option (List Int)
def tbDt : Tb → Dt
  | none => .non
  | some l => .lst (l.map .int)
def sg (l : List Int) (i : Nat) : Int := l.getD i 0
def hg (l : List (List Int)) (i : Nat) : List Int := l.getD i []
def kern (t : Tb) (v : Int) : Int := match t with
  | none => v
  | some l => sg l v.toNat
def tg (T : List Tb) (i : Nat) : Tb := T.getD i none
/-- what stands behind a history -/
structure Sd where
  (spots : List Int) (held : List (List Int)) (stamps : List Int) (row top : Int) (come : List Int)
def Sd.init (n k : Nat) : Sd := ⟨List.replicate n 0, List.replicate (n + 1) (List.replicate k 0), List.replicate (n + 1) 0, 0, 0, [0]⟩
def latest (st : List Int) : Int := st.foldl gr 0
def stamped (st : List Int) (d : Nat) : List Int := st.set d (1 + latest st)
/-- a mark, field by field -/
def mkM (fs : List Fd) (F : Fd → Nat → Int) : List Int := fs.mapIdx fun i f => F f i
def goM (R : Rl) (rd : Bool) (d : Nat) (e : Int) (s : Sd) : Sd where
  spots := s.spots.set d e
  held := s.held.set d (mkM R.fs fun f i => movedV (if rd = true then f.rd else f.jp) (sg (hg s.held d) i) (sg s.spots d) e)
  stamps := stamped s.stamps d
  row := if rd = true ∧ sg s.spots d ≤ s.row then gr s.row e else s.row
  top := if rd = true then gr s.top e else s.top
  come := if e ∈ s.come then s.come else s.come ++ [e]
def anewM (R : Rl) (d : Nat) (s : Sd) : Sd where
  spots := s.spots.set d 0
  held := s.held.set d (mkM R.fs fun f i => if f.an = "least" then 0 else sg (hg s.held d) i)
  stamps := stamped s.stamps d
  row := 0
  top := 0
  come := [0]
/-- n: the shelf's place -/
def giveM (R : Rl) (n d : Nat) (s : Sd) : Sd :=
  { s with
    held := s.held.set n (mkM R.fs fun f i => handV f.gv (sg (hg s.held n) i) (sg (hg s.held d) i) (decide (sg s.stamps d > sg s.stamps n)))
    stamps := s.stamps.set n (gr (sg s.stamps n) (sg s.stamps d)) }
def tookV (f : Fd) (t : Tb) (v o : Int) (l : Bool) : Int := if f.kp = "floored" then kern t (handV f.tk v o l) else handV f.tk v o l
def tookM (R : Rl) (t : Tb) (n d : Nat) (s : Sd) : List Int := mkM R.fs fun f i => tookV f t (sg (hg s.held d) i) (sg (hg s.held n) i) (decide (sg s.stamps n > sg s.stamps d))
def takeM (R : Rl) (t : Tb) (n d : Nat) (s : Sd) : Sd :=
  let place := kern t (sg (tookM R t n d s) R.at)
  { s with
    spots := if R.way = "field" then s.spots.set d place else if R.way = "greater" then s.spots.set d (gr (sg s.spots d) place) else s.spots
    held := s.held.set d (tookM R t n d s)
    stamps := s.stamps.set d (gr (sg s.stamps d) (sg s.stamps n)) }
def isLost (s : Sd) : Bool := (s.spots ++ s.held.flatten).all fun v => decide (v < s.top)
def takeF (t : Tb) (s : Sd) (before place : Int) : List Str :=
  (if place < before then [("back" : Str)] else []) ++ ((if place ≠ before ∧ place > s.row then [("ahead" : Str)] else []) ++ (if place ≠ before ∧ place ∉ s.come.map (kern t) then [("nobody" : Str)] else []))
inductive Deed where
  | go (rd : Bool) (d : Nat) (e : Int) | anew (d : Nat) | give (d : Nat) | take (d : Nat)
def Deed.dt : Deed → Dt
  | .go rd d e => .tup [.str (if rd = true then "read" else "jump"), .int (d : Int), .int e]
  | .anew d => .tup [.str "anew", .int (d : Int)]
  | .give d => .tup [.str "give", .int (d : Int)]
  | .take d => .tup [.str "take", .int (d : Int)]
def lostW (s : Sd) : List Str := if isLost s = true then [("lost" : Str)] else []
/-- a deed: what stands behind it, the faults -/
def doM (R : Rl) (T : List Tb) (s : Sd) : Deed → Sd × List Str
  | .go rd d e => (goM R rd d e s, lostW (goM R rd d e s))
  | .anew d => (anewM R d s, lostW (anewM R d s))
  | .give d => (giveM R T.length d s, lostW (giveM R T.length d s))
  | .take d => (takeM R (tg T d) T.length d s, takeF (tg T d) (takeM R (tg T d) T.length d s) (sg s.spots d) (sg (takeM R (tg T d) T.length d s).spots d) ++ lostW (takeM R (tg T d) T.length d s))
def runM (R : Rl) (T : List Tb) : Sd → List Deed → List (Sd × List Str)
  | _, [] => []
  | s, x :: xs => doM R T s x :: runM R T (doM R T s x).1 xs
def lastM (R : Rl) (T : List Tb) : Sd → List Deed → Sd
  | s, [] => s
  | s, x :: xs => lastM R T (doM R T s x).1 xs
/-- a value that the tables can be asked of -/
def inT (T : List Tb) (v : Int) : Prop := 0 ≤ v ∧ ∀ l, some l ∈ T → v < (l.length : Int)
structure TWf (T : List Tb) : Prop where
  lo : 1 ≤ T.length
  hi : T.length ≤ 3
  all : ∀ l, some l ∈ T → l.length ≤ 100 ∧ 0 < l.length ∧ ∀ v ∈ l, inT T v
  un : (∀ t ∈ T, t = none) ∨ ∃ n : Nat, ∀ t ∈ T, ∃ l : List Int, t = some l ∧ l.length = n
structure RWf (R : Rl) : Prop where
  lo : 1 ≤ R.fs.length
  hi : R.fs.length ≤ 3
  sh : R.sh ∈ R.fs.map Fd.nm
structure Wf (R : Rl) (T : List Tb) (s : Sd) : Prop where
  sp : s.spots.length = T.length
  hl : s.held.length = T.length + 1
  st : s.stamps.length = T.length + 1
  mw : ∀ m ∈ s.held, m.length = R.fs.length
  hv : ∀ m ∈ s.held, ∀ v ∈ m, inT T v
  cv : ∀ v ∈ s.come, inT T v
  sv : ∀ v ∈ s.spots, 0 ≤ v
/-- a deed that can be done -/
def okDeed (T : List Tb) (s : Sd) : Deed → Prop
  | .go rd d e => d < T.length ∧ 0 ≤ e ∧ (rd = true → sg s.spots d < e) ∧ ∀ l, tg T d = some l → e < (l.length : Int) ∧ sg l e.toNat = e
  | .anew d => d < T.length
  | .give d => d < T.length
  | .take d => d < T.length
def okAll (R : Rl) (T : List Tb) : Sd → List Deed → Prop
  | _, [] => True
  | s, x :: xs => okDeed T s x ∧ okAll R T (doM R T s x).1 xs
def intsD (l : List Int) : Dt := .tup (l.map .int)
/-- what played tells of one deed -/
def Sd.told (s : Sd) : Dt := .tup [intsD s.spots, .tup (s.held.map intsD)]
def strsD (l : List Str) : Dt := .lst (l.map .str)
def Sd.told3 (s : Sd) (ws : List Str) : Dt := .tup [intsD s.spots, .tup (s.held.map intsD), strsD ws]
end Lf

namespace Lf
open PySem PySem.Spec PyProof.Rows L2
/-! ### the text by places -/
def top (i : Nat) : Stmt := PySem.Challenge.pw_leafmarks_k44_whole_fields_apart.main.body.getD i (.Pass ⟨0, 0, 0, 0⟩)
abbrev s_is_integer : Stmt := top 14
abbrev s_is_word : Stmt := top 15
abbrev s_is_row : Stmt := top 16
abbrev s_is_upto : Stmt := top 17
abbrev s_checked_passages : Stmt := top 19
abbrev s_Work_init : Stmt := inClass (top 20) 0
abbrev s_Work_eq : Stmt := inClass (top 20) 1
abbrev s_numbers_of : Stmt := top 21
abbrev s_Edition_init : Stmt := inClass (top 24) 0
abbrev s_kernels_of : Stmt := top 26
abbrev s_tables_of : Stmt := top 30
abbrev s_greater : Stmt := top 31
abbrev s_moved_value : Stmt := top 32
abbrev s_handed_value : Stmt := top 33
abbrev s_Stand_init : Stmt := inClass (top 34) 0
abbrev s_Stand_kernel : Stmt := inClass (top 34) 1
abbrev s_Stand_stamp : Stmt := inClass (top 34) 2
abbrev s_Stand_latest_stamp : Stmt := inClass (top 34) 3
abbrev s_Stand_go : Stmt := inClass (top 34) 4
abbrev s_Stand_anew : Stmt := inClass (top 34) 5
abbrev s_Stand_give : Stmt := inClass (top 34) 6
abbrev s_Stand_take : Stmt := inClass (top 34) 7
abbrev s_Stand_do : Stmt := inClass (top 34) 8
abbrev s_Stand_faults_of_take : Stmt := inClass (top 34) 9
abbrev s_Stand_is_lost : Stmt := inClass (top 34) 10
abbrev s_Stand_can_do : Stmt := inClass (top 34) 11
abbrev s_Stand_can_go : Stmt := inClass (top 34) 12
abbrev s_run : Stmt := top 35
abbrev s_played : Stmt := top 36
abbrev s_faults : Stmt := top 37
abbrev s_is_one_of : Stmt := top 43
abbrev s_field_reason : Stmt := top 44
abbrev s_checked_fields : Stmt := top 45
abbrev s_checked_show : Stmt := top 46
abbrev s_Rule_init : Stmt := inClass (top 47) 0
abbrev s_Rule_fields : Stmt := inClass (top 47) 2
abbrev s_Rule_show : Stmt := inClass (top 47) 3
abbrev s_Rule_place_of_show : Stmt := inClass (top 47) 11
abbrev s_Lfresh : Stmt := top 49
abbrev s_Lfill : Stmt := top 50
abbrev s_Ltake : Stmt := top 51
abbrev s_Lone : Stmt := top 52
abbrev s_Lmix : Stmt := top 53
abbrev s_Lsame : Stmt := top 54
abbrev s_Lall_words : Stmt := top 55
abbrev s_Lsome_words : Stmt := top 56
abbrev s_Lhanded : Stmt := top 57
abbrev s_Lkept : Stmt := top 58
abbrev s_Lbase : Stmt := top 59
abbrev s_Ledition : Stmt := top 60
abbrev s_Lkernels : Stmt := top 61
abbrev s_Lparts : Stmt := top 62
abbrev s_Lfield : Stmt := top 63
abbrev s_Lsetting : Stmt := top 64
abbrev s_Lplain_deed : Stmt := top 65
abbrev s_Lplain_run : Stmt := top 66
abbrev s_Lpicked : Stmt := top 67
abbrev s_Lless_right : Stmt := top 68
abbrev s_Lrenamed : Stmt := top 69
abbrev s_law : Stmt := top 70
/-! ### the head: where each def stands -/
def d_is_integer : He.DefD := ⟨("is_integer", none), "is_integer", "is_integer", defArgs s_is_integer, defBody s_is_integer, defScope s_is_integer, [], []⟩
def d_is_word : He.DefD := ⟨("is_word", none), "is_word", "is_word", defArgs s_is_word, defBody s_is_word, defScope s_is_word, [], []⟩
def d_is_row : He.DefD := ⟨("is_row", none), "is_row", "is_row", defArgs s_is_row, defBody s_is_row, defScope s_is_row, [], []⟩
def d_is_upto : He.DefD := ⟨("is_upto", none), "is_upto", "is_upto", defArgs s_is_upto, defBody s_is_upto, defScope s_is_upto, [], []⟩
def d_checked_passages : He.DefD := ⟨("checked_passages", none), "checked_passages", "checked_passages", defArgs s_checked_passages, defBody s_checked_passages, defScope s_checked_passages, [], []⟩
def d_Work_init : He.DefD := ⟨("Work", some "__init__"), "__init__", "Work.__init__", defArgs s_Work_init, defBody s_Work_init, defScope s_Work_init, [], []⟩
def d_Work_eq : He.DefD := ⟨("Work", some "__eq__"), "__eq__", "Work.__eq__", defArgs s_Work_eq, defBody s_Work_eq, defScope s_Work_eq, [], []⟩
def d_numbers_of : He.DefD := ⟨("numbers_of", none), "numbers_of", "numbers_of", defArgs s_numbers_of, defBody s_numbers_of, defScope s_numbers_of, [], []⟩
def d_Edition_init : He.DefD := ⟨("Edition", some "__init__"), "__init__", "Edition.__init__", defArgs s_Edition_init, defBody s_Edition_init, defScope s_Edition_init, [], []⟩
def d_kernels_of : He.DefD := ⟨("kernels_of", none), "kernels_of", "kernels_of", defArgs s_kernels_of, defBody s_kernels_of, defScope s_kernels_of, [], []⟩
def d_tables_of : He.DefD := ⟨("tables_of", none), "tables_of", "tables_of", defArgs s_tables_of, defBody s_tables_of, defScope s_tables_of, [], []⟩
def d_greater : He.DefD := ⟨("greater", none), "greater", "greater", defArgs s_greater, defBody s_greater, defScope s_greater, [], []⟩
def d_moved_value : He.DefD := ⟨("moved_value", none), "moved_value", "moved_value", defArgs s_moved_value, defBody s_moved_value, defScope s_moved_value, [], []⟩
def d_handed_value : He.DefD := ⟨("handed_value", none), "handed_value", "handed_value", defArgs s_handed_value, defBody s_handed_value, defScope s_handed_value, [], []⟩
def d_Stand_init : He.DefD := ⟨("Stand", some "__init__"), "__init__", "Stand.__init__", defArgs s_Stand_init, defBody s_Stand_init, defScope s_Stand_init, [], []⟩
def d_Stand_kernel : He.DefD := ⟨("Stand", some "kernel"), "kernel", "Stand.kernel", defArgs s_Stand_kernel, defBody s_Stand_kernel, defScope s_Stand_kernel, [], []⟩
def d_Stand_stamp : He.DefD := ⟨("Stand", some "stamp"), "stamp", "Stand.stamp", defArgs s_Stand_stamp, defBody s_Stand_stamp, defScope s_Stand_stamp, [], []⟩
def d_Stand_latest_stamp : He.DefD := ⟨("Stand", some "latest_stamp"), "latest_stamp", "Stand.latest_stamp", defArgs s_Stand_latest_stamp, defBody s_Stand_latest_stamp, defScope s_Stand_latest_stamp, [], []⟩
def d_Stand_go : He.DefD := ⟨("Stand", some "go"), "go", "Stand.go", defArgs s_Stand_go, defBody s_Stand_go, defScope s_Stand_go, [], []⟩
def d_Stand_anew : He.DefD := ⟨("Stand", some "anew"), "anew", "Stand.anew", defArgs s_Stand_anew, defBody s_Stand_anew, defScope s_Stand_anew, [], []⟩
def d_Stand_give : He.DefD := ⟨("Stand", some "give"), "give", "Stand.give", defArgs s_Stand_give, defBody s_Stand_give, defScope s_Stand_give, [], []⟩
def d_Stand_take : He.DefD := ⟨("Stand", some "take"), "take", "Stand.take", defArgs s_Stand_take, defBody s_Stand_take, defScope s_Stand_take, [], []⟩
def d_Stand_do : He.DefD := ⟨("Stand", some "do"), "do", "Stand.do", defArgs s_Stand_do, defBody s_Stand_do, defScope s_Stand_do, [], []⟩
def d_Stand_faults_of_take : He.DefD := ⟨("Stand", some "faults_of_take"), "faults_of_take", "Stand.faults_of_take", defArgs s_Stand_faults_of_take, defBody s_Stand_faults_of_take, defScope s_Stand_faults_of_take, [], []⟩
def d_Stand_is_lost : He.DefD := ⟨("Stand", some "is_lost"), "is_lost", "Stand.is_lost", defArgs s_Stand_is_lost, defBody s_Stand_is_lost, defScope s_Stand_is_lost, [], []⟩
def d_Stand_can_do : He.DefD := ⟨("Stand", some "can_do"), "can_do", "Stand.can_do", defArgs s_Stand_can_do, defBody s_Stand_can_do, defScope s_Stand_can_do, [], []⟩
def d_Stand_can_go : He.DefD := ⟨("Stand", some "can_go"), "can_go", "Stand.can_go", defArgs s_Stand_can_go, defBody s_Stand_can_go, defScope s_Stand_can_go, [], []⟩
def d_run : He.DefD := ⟨("run", none), "run", "run", defArgs s_run, defBody s_run, defScope s_run, [], []⟩
def d_played : He.DefD := ⟨("played", none), "played", "played", defArgs s_played, defBody s_played, defScope s_played, [], []⟩
def d_faults : He.DefD := ⟨("faults", none), "faults", "faults", defArgs s_faults, defBody s_faults, defScope s_faults, [], []⟩
def d_is_one_of : He.DefD := ⟨("is_one_of", none), "is_one_of", "is_one_of", defArgs s_is_one_of, defBody s_is_one_of, defScope s_is_one_of, [], []⟩
def d_field_reason : He.DefD := ⟨("field_reason", none), "field_reason", "field_reason", defArgs s_field_reason, defBody s_field_reason, defScope s_field_reason, [], []⟩
def d_checked_fields : He.DefD := ⟨("checked_fields", none), "checked_fields", "checked_fields", defArgs s_checked_fields, defBody s_checked_fields, defScope s_checked_fields, [], []⟩
def d_checked_show : He.DefD := ⟨("checked_show", none), "checked_show", "checked_show", defArgs s_checked_show, defBody s_checked_show, defScope s_checked_show, [], []⟩
def d_Rule_init : He.DefD := ⟨("Rule", some "__init__"), "__init__", "Rule.__init__", defArgs s_Rule_init, defBody s_Rule_init, defScope s_Rule_init, [], []⟩
def d_Rule_fields : He.DefD := ⟨("Rule", some "fields"), "fields", "Rule.fields", defArgs s_Rule_fields, defBody s_Rule_fields, defScope s_Rule_fields, [], []⟩
def d_Rule_show : He.DefD := ⟨("Rule", some "show"), "show", "Rule.show", defArgs s_Rule_show, defBody s_Rule_show, defScope s_Rule_show, [], []⟩
def d_Rule_place_of_show : He.DefD := ⟨("Rule", some "place_of_show"), "place_of_show", "Rule.place_of_show", defArgs s_Rule_place_of_show, defBody s_Rule_place_of_show, defScope s_Rule_place_of_show, [], []⟩
def d_Lfresh : He.DefD := ⟨("_law_fresh", none), "_law_fresh", "_law_fresh", defArgs s_Lfresh, defBody s_Lfresh, defScope s_Lfresh, [], []⟩
def d_Lfill : He.DefD := ⟨("_law_fill", none), "_law_fill", "_law_fill", defArgs s_Lfill, defBody s_Lfill, defScope s_Lfill, [], []⟩
def d_Ltake : He.DefD := ⟨("_law_take", none), "_law_take", "_law_take", defArgs s_Ltake, defBody s_Ltake, defScope s_Ltake, [], []⟩
def d_Lone : He.DefD := ⟨("_law_one", none), "_law_one", "_law_one", defArgs s_Lone, defBody s_Lone, defScope s_Lone, [], []⟩
def d_Lmix : He.DefD := ⟨("_law_mix", none), "_law_mix", "_law_mix", defArgs s_Lmix, defBody s_Lmix, defScope s_Lmix, [], []⟩
def d_Lsame : He.DefD := ⟨("_law_same", none), "_law_same", "_law_same", defArgs s_Lsame, defBody s_Lsame, defScope s_Lsame, [], []⟩
def d_Lall_words : He.DefD := ⟨("_law_all_words", none), "_law_all_words", "_law_all_words", defArgs s_Lall_words, defBody s_Lall_words, defScope s_Lall_words, [], []⟩
def d_Lsome_words : He.DefD := ⟨("_law_some_words", none), "_law_some_words", "_law_some_words", defArgs s_Lsome_words, defBody s_Lsome_words, defScope s_Lsome_words, [], []⟩
def d_Lhanded : He.DefD := ⟨("_law_handed", none), "_law_handed", "_law_handed", defArgs s_Lhanded, defBody s_Lhanded, defScope s_Lhanded, [], []⟩
def d_Lkept : He.DefD := ⟨("_law_kept", none), "_law_kept", "_law_kept", defArgs s_Lkept, defBody s_Lkept, defScope s_Lkept, [], []⟩
def d_Lbase : He.DefD := ⟨("_law_base", none), "_law_base", "_law_base", defArgs s_Lbase, defBody s_Lbase, defScope s_Lbase, [], []⟩
def d_Ledition : He.DefD := ⟨("_law_edition", none), "_law_edition", "_law_edition", defArgs s_Ledition, defBody s_Ledition, defScope s_Ledition, [], []⟩
def d_Lkernels : He.DefD := ⟨("_law_kernels", none), "_law_kernels", "_law_kernels", defArgs s_Lkernels, defBody s_Lkernels, defScope s_Lkernels, [], []⟩
def d_Lparts : He.DefD := ⟨("_law_parts", none), "_law_parts", "_law_parts", defArgs s_Lparts, defBody s_Lparts, defScope s_Lparts, [], []⟩
def d_Lfield : He.DefD := ⟨("_law_field", none), "_law_field", "_law_field", defArgs s_Lfield, defBody s_Lfield, defScope s_Lfield, [], []⟩
def d_Lsetting : He.DefD := ⟨("_law_setting", none), "_law_setting", "_law_setting", defArgs s_Lsetting, defBody s_Lsetting, defScope s_Lsetting, [], []⟩
def d_Lplain_deed : He.DefD := ⟨("_law_plain_deed", none), "_law_plain_deed", "_law_plain_deed", defArgs s_Lplain_deed, defBody s_Lplain_deed, defScope s_Lplain_deed, [], []⟩
def d_Lplain_run : He.DefD := ⟨("_law_plain_run", none), "_law_plain_run", "_law_plain_run", defArgs s_Lplain_run, defBody s_Lplain_run, defScope s_Lplain_run, [], []⟩
def d_Lpicked : He.DefD := ⟨("_law_picked", none), "_law_picked", "_law_picked", defArgs s_Lpicked, defBody s_Lpicked, defScope s_Lpicked, [], []⟩
def d_Lless_right : He.DefD := ⟨("_law_less_right", none), "_law_less_right", "_law_less_right", defArgs s_Lless_right, defBody s_Lless_right, defScope s_Lless_right, [], []⟩
def d_Lrenamed : He.DefD := ⟨("_law_renamed", none), "_law_renamed", "_law_renamed", defArgs s_Lrenamed, defBody s_Lrenamed, defScope s_Lrenamed, [], []⟩
def d_law : He.DefD := ⟨("law", none), "law", "law", defArgs s_law, defBody s_law, defScope s_law, [], []⟩
def fn : List He.DefD := [d_is_integer, d_is_word, d_is_row, d_is_upto, d_checked_passages, d_Work_init, d_Work_eq, d_numbers_of, d_Edition_init, d_kernels_of, d_tables_of, d_greater, d_moved_value, d_handed_value, d_Stand_init, d_Stand_kernel, d_Stand_stamp, d_Stand_latest_stamp, d_Stand_go, d_Stand_anew, d_Stand_give, d_Stand_take, d_Stand_do, d_Stand_faults_of_take, d_Stand_is_lost, d_Stand_can_do, d_Stand_can_go, d_run, d_played, d_faults, d_is_one_of, d_field_reason, d_checked_fields, d_checked_show, d_Rule_init, d_Rule_fields, d_Rule_show, d_Rule_place_of_show, d_Lfresh, d_Lfill, d_Ltake, d_Lone, d_Lmix, d_Lsame, d_Lall_words, d_Lsome_words, d_Lhanded, d_Lkept, d_Lbase, d_Ledition, d_Lkernels, d_Lparts, d_Lfield, d_Lsetting, d_Lplain_deed, d_Lplain_run, d_Lpicked, d_Lless_right, d_Lrenamed, d_law]
def fa : List He.Fa := [.glo "is_integer",
  .glo "is_word",
  .glo "is_row",
  .glo "is_upto",
  .glo "checked_passages",
  .glo "numbers_of",
  .glo "kernels_of",
  .glo "tables_of",
  .glo "greater",
  .glo "moved_value",
  .glo "handed_value",
  .glo "run",
  .glo "played",
  .glo "faults",
  .glo "is_one_of",
  .glo "field_reason",
  .glo "checked_fields",
  .glo "checked_show",
  .glo "_law_fresh",
  .glo "_law_fill",
  .glo "_law_take",
  .glo "_law_one",
  .glo "_law_mix",
  .glo "_law_same",
  .glo "_law_all_words",
  .glo "_law_some_words",
  .glo "_law_handed",
  .glo "_law_kept",
  .glo "_law_base",
  .glo "_law_edition",
  .glo "_law_kernels",
  .glo "_law_parts",
  .glo "_law_field",
  .glo "_law_setting",
  .glo "_law_plain_deed",
  .glo "_law_plain_run",
  .glo "_law_picked",
  .glo "_law_less_right",
  .glo "_law_renamed",
  .glo "law",
  .glo "Work",
  .glo "Edition",
  .glo "Stand",
  .glo "Rule",
  .glo "SIZES",
  .glo "PARTS",
  .glo "WORDS",
  .glo "WAYS",
  .free "len",
  .free "isinstance",
  .free "all",
  .free "enumerate",
  .free "tuple",
  .free "list",
  .free "range",
  .free "zip",
  .free "int",
  .free "bool",
  .free "str",
  .int "LONGEST" 8,
  .int "MOST_DEVICES" 3,
  .int "MOST_FIELDS" 3,
  .str "LETTERS" "abcdefghijklmnopqrstuvwxyz",
  .cls "Work",
  .cls "Edition",
  .cls "Stand",
  .cls "Rule",
  .mkr "Work",
  .mkr "Edition",
  .mkr "Stand",
  .mkr "Rule",
  .noat "Work" "name",
  .noat "Work" "rows",
  .noat "Edition" "work",
  .noat "Edition" "numbers",
  .noat "Stand" "rule",
  .noat "Stand" "tables",
  .noat "Stand" "spots",
  .noat "Stand" "held",
  .noat "Stand" "stamps",
  .noat "Stand" "row",
  .noat "Stand" "top",
  .noat "Stand" "come_to",
  .noat "Rule" "parts",
  .noat "Rule" "way",
  .meth "Work" "__eq__",
  .meth "Stand" "kernel",
  .meth "Stand" "stamp",
  .meth "Stand" "latest_stamp",
  .meth "Stand" "go",
  .meth "Stand" "anew",
  .meth "Stand" "give",
  .meth "Stand" "take",
  .meth "Stand" "do",
  .meth "Stand" "faults_of_take",
  .meth "Stand" "is_lost",
  .meth "Stand" "can_do",
  .meth "Stand" "can_go",
  .meth "Rule" "fields",
  .meth "Rule" "show",
  .meth "Rule" "place_of_show"]
def tabs : List He.Tab := [(fun K => He.ga K "SIZES", ["read", "jump", "anew", "give", "take"]), (fun K => He.ga K "WORDS", ["read", "jump", "anew", "give", "take", "kept"])]
/-- where the tuple of a part's words stands -/
def wAt (p : Str) (K : PySem.W.Frag) : Addr := match PySem.W.nsIn K (He.ga K "WORDS") p with
  | some (some (.ref a)) => a
  | _ => 0
/-- at a: a tuple of these texts -/
def tupAt (K : PySem.W.Frag) (a : Addr) (vs : List V) : Bool := match K.lookup a with
  | some ⟨.type c, _, .seq its _, _⟩ => decide (c = "tuple") && (decide (its.size ≤ sizeLine) && He.relAll vs its.toList)
  | _ => false
theorem tupAt_ok {K : PySem.W.Frag} {a : Addr} {vs : List V} (h : tupAt K a vs = true) (H : Hp) : SqT K H a vs := by
  unfold tupAt at h
  split at h
  · rename_i c od its n sl q
    obtain ⟨h1, h2⟩ := He.ba h
    obtain ⟨h3, h4⟩ := He.ba h2
    exact .inr ⟨_, its, n, q, congrArg Value.type (of_decide_eq_true h1), rfl, of_decide_eq_true h3, He.relAll_ok h4⟩
  · cases h
def partsL : List Str := ["read", "jump", "anew", "give", "take", "kept"]
def waysL : List Str := ["stay", "field", "greater"]
def wordsL : List (Str × List Str) := [("read", ["no", "last", "raise", "row"]), ("jump", ["no", "last", "raise", "lower"]), ("anew", ["no", "least"]), ("give", ["no", "last", "raise", "later"]), ("take", ["no", "last", "raise", "later"]), ("kept", ["exact", "floored"])]
def sizesL : List (Str × Int) := [("read", 3), ("jump", 3), ("anew", 2), ("give", 2), ("take", 2)]
/-- what isinstance asks of an own class -/
def clsB (K : PySem.W.Frag) (C : Addr) : Bool := He.eqO (PySem.W.findIn K (.ref C) "__class__") (some (some (.builtin "object.__class__"))) && (He.eqO (PySem.W.specialIn K (.builtin "object.__class__") "__get__") (some (some (.builtin "getset_descriptor.__get__"))) &&
  (decide (PySem.W.takesIn K (.builtin "object.__class__") = some true) && decide (PySem.W.mroIn K C (.type "object") = some true)))
def more (K : PySem.W.Frag) : Bool := clsB K (He.ga K "Work") && (clsB K (He.ga K "Edition") && (
  tupAt K (He.ga K "PARTS") (partsL.map V.str) && (tupAt K (He.ga K "WAYS") (waysL.map V.str) && ((wordsL.all fun p => He.eqO (PySem.W.nsIn K (He.ga K "WORDS") p.1) (some (some (.ref (wAt p.1 K)))) && tupAt K (wAt p.1 K) (p.2.map V.str)) &&
    He.valsB K (He.ga K "SIZES") (sizesL.map fun p => (p.1, He.Dv.int p.2))))))
abbrev R : PySem.W.OpenRow := PySem.W.OpenLaw.row PySem.Challenge.rw_leafmarks_k44_whole_fields_apart
def glos : List Str := ["is_integer", "is_word", "is_row", "is_upto", "checked_passages", "numbers_of", "kernels_of", "tables_of", "greater", "moved_value", "handed_value", "run", "played", "faults", "is_one_of", "field_reason", "checked_fields", "checked_show", "_law_fresh", "_law_fill", "_law_take", "_law_one", "_law_mix", "_law_same", "_law_all_words", "_law_some_words", "_law_handed", "_law_kept", "_law_base", "_law_edition"]
def glos2 : List Str := ["_law_kernels", "_law_parts", "_law_field", "_law_setting", "_law_plain_deed", "_law_plain_run", "_law_picked", "_law_less_right", "_law_renamed", "law", "Work", "Edition", "Stand", "Rule", "SIZES", "PARTS", "WORDS", "WAYS"]
/-- what the proof looks at: the module's own names, what they reach in three steps; not what the module's other names reach -/
def growM (g : Addr → Option Obj) (n : Nat) (as : List Addr) : List Addr := match n with
  | 0 => as
  | n + 1 => growM g n (He.growD g as)
def glosC : List Str := ["Work", "Edition", "Stand", "Rule", "SIZES", "PARTS", "WORDS", "WAYS"]
def asM (g : Addr → Option Obj) : List Addr := mainGlobals :: (growM g 3 (glosC.map (He.ga (He.frG g [mainGlobals]))) ++ growM g 1 ((glos ++ glos2).map (He.ga (He.frG g [mainGlobals]))))
abbrev AlM : Type := He.AlT × Bool
def obsM (K : PySem.W.Frag) : AlM := (He.obsT fa fn tabs K, more K)
def valM (w : World) : AlM := (He.valT fn tabs w, true)
structure SaysM (w : World) (K : PySem.W.Frag) : Prop where
  t : He.SaysT fa fn tabs w K
  more : more K = true
def hk : PySem.W.Hook where
  α := AlM
  obs := fun s => obsM (He.frG s.heap.get? (asM s.heap.get?))
  val := fun w => valM w
  says := fun w h => ∃ K : PySem.W.Frag, K.In h ∧ SaysM w K
  of := fun _ _ e => ⟨_, He.frG_in, congrArg (fun z : AlM => z.1) e, congrArg (fun z : AlM => z.2) e⟩
  keeps := fun _ _ _ ⟨K, hK, c⟩ k => ⟨K, PySem.W.Frag.In.keeps hK k, c⟩
def ob (s : PySem.W.SharedT) : AlM := obsM (He.frG (HandSHeadRun.getT s) (asM (HandSHeadRun.getT s)))
theorem ob_eq (s : PySem.W.SharedT) : ob s = hk.obs s.abs := by
  have e : HandSHeadRun.getT s = s.abs.heap.get? := funext (HandSHeadRun.getT_eq s)
  show obsM (He.frG (HandSHeadRun.getT s) (asM (HandSHeadRun.getT s))) = obsM (He.frG s.abs.heap.get? (asM s.abs.heap.get?))
  rw [e]
def names0 : List Str := ["_wall", "LeafError", "BadWord", "BadPassage", "OtherWork", "BadCount", "BadCut", "BadRule", "BadSetting", "BadDeed", "LETTERS", "LONGEST", "is_integer", "is_word", "is_row", "is_upto"]
def names1 : List Str := ["checked_passages", "Work", "numbers_of", "check_works", "edition_of", "Edition", "kernels_of", "MOST_DEVICES", "SIZES", "tables_of", "greater", "moved_value", "handed_value", "Stand", "run", "played"]
def names2 : List Str := ["faults", "PARTS", "WORDS", "WAYS", "MOST_FIELDS", "is_one_of", "field_reason", "checked_fields", "checked_show", "Rule", "_law_fresh", "_law_fill", "_law_take", "_law_one", "_law_mix", "_law_same"]
def names3 : List Str := ["_law_all_words", "_law_some_words", "_law_handed", "_law_kept", "_law_base", "_law_edition", "_law_kernels", "_law_parts", "_law_field", "_law_setting", "_law_plain_deed", "_law_plain_run", "_law_picked", "_law_less_right", "_law_renamed"]
def names : List Str := names0 ++ names1 ++ names2 ++ names3
theorem run_false (w : World) : HandSHeadRun.RunEq R (PySem.W.view R.prog [70]) hk ob 20000 names (w.withFollow "special-get-raises" false) := by
  intro os
  kernel_rfl
theorem run_true (w : World) : HandSHeadRun.RunEq R (PySem.W.view R.prog [70]) hk ob 20000 names (w.withFollow "special-get-raises" true) := by
  intro os
  kernel_rfl
theorem run (w : World) : HandSHeadRun.RunEq R (PySem.W.view R.prog [70]) hk ob 20000 names w :=
  PySem.W.byRow2 "special-get-raises" (P := fun w => HandSHeadRun.RunEq R (PySem.W.view R.prog [70]) hk ob 20000 names w) run_false run_true w
end Lf

namespace Lf
open PySem PySem.Spec PyProof.Rows L2
/-! the head's facts by names -/
structure Txt (w : World) (K : PySem.W.Frag) (mg : Str → Option Value) : Prop where
  s : SaysM w K
  h : ∃ h : Heap, K.In h ∧ h.Ns mainGlobals mg
def lettersS : Str := "abcdefghijklmnopqrstuvwxyz"
section
variable {P : Program} {w : World} {K : PySem.W.Frag} {mg : Str → Option Value} {base : Heap}
theorem Txt.glo (T : Txt w K mg) (i : Nat) {x : Str} (h : fa[i]? = some (He.Fa.glo x)) : mg x = some (.ref (He.ga K x)) := by
  obtain ⟨hp, X, G⟩ := T.h
  exact He.glo_ok X G (T.s.t.d.fact i h)
theorem Txt.fre (T : Txt w K mg) (i : Nat) {x : Str} (h : fa[i]? = some (He.Fa.free x)) : mg x = none := by
  obtain ⟨hp, X, G⟩ := T.h
  exact He.free_ok X G (T.s.t.d.fact i h)
theorem Txt.inr (T : Txt w K mg) (i : Nat) {x : Str} {n : Int} (h : fa[i]? = some (He.Fa.int x n)) : ∃ t, mg x = some (.int n t) := by
  obtain ⟨hp, X, G⟩ := T.h
  exact He.int_ok X G (T.s.t.d.fact i h)
theorem Txt.stt (T : Txt w K mg) (i : Nat) {x z : Str} (h : fa[i]? = some (He.Fa.str x z)) : ∃ t, mg x = some (.str z t) := by
  obtain ⟨hp, X, G⟩ := T.h
  exact He.str_ok X G (T.s.t.d.fact i h)
theorem Txt.g_is_integer (T : Txt w K mg) : mg "is_integer" = some (.ref (He.ga K "is_integer")) := T.glo 0 rfl
theorem Txt.g_is_word (T : Txt w K mg) : mg "is_word" = some (.ref (He.ga K "is_word")) := T.glo 1 rfl
theorem Txt.g_is_row (T : Txt w K mg) : mg "is_row" = some (.ref (He.ga K "is_row")) := T.glo 2 rfl
theorem Txt.g_is_upto (T : Txt w K mg) : mg "is_upto" = some (.ref (He.ga K "is_upto")) := T.glo 3 rfl
theorem Txt.g_checked_passages (T : Txt w K mg) : mg "checked_passages" = some (.ref (He.ga K "checked_passages")) := T.glo 4 rfl
theorem Txt.g_numbers_of (T : Txt w K mg) : mg "numbers_of" = some (.ref (He.ga K "numbers_of")) := T.glo 5 rfl
theorem Txt.g_kernels_of (T : Txt w K mg) : mg "kernels_of" = some (.ref (He.ga K "kernels_of")) := T.glo 6 rfl
theorem Txt.g_tables_of (T : Txt w K mg) : mg "tables_of" = some (.ref (He.ga K "tables_of")) := T.glo 7 rfl
theorem Txt.g_greater (T : Txt w K mg) : mg "greater" = some (.ref (He.ga K "greater")) := T.glo 8 rfl
theorem Txt.g_moved_value (T : Txt w K mg) : mg "moved_value" = some (.ref (He.ga K "moved_value")) := T.glo 9 rfl
theorem Txt.g_handed_value (T : Txt w K mg) : mg "handed_value" = some (.ref (He.ga K "handed_value")) := T.glo 10 rfl
theorem Txt.g_run (T : Txt w K mg) : mg "run" = some (.ref (He.ga K "run")) := T.glo 11 rfl
theorem Txt.g_played (T : Txt w K mg) : mg "played" = some (.ref (He.ga K "played")) := T.glo 12 rfl
theorem Txt.g_faults (T : Txt w K mg) : mg "faults" = some (.ref (He.ga K "faults")) := T.glo 13 rfl
theorem Txt.g_is_one_of (T : Txt w K mg) : mg "is_one_of" = some (.ref (He.ga K "is_one_of")) := T.glo 14 rfl
theorem Txt.g_field_reason (T : Txt w K mg) : mg "field_reason" = some (.ref (He.ga K "field_reason")) := T.glo 15 rfl
theorem Txt.g_checked_fields (T : Txt w K mg) : mg "checked_fields" = some (.ref (He.ga K "checked_fields")) := T.glo 16 rfl
theorem Txt.g_checked_show (T : Txt w K mg) : mg "checked_show" = some (.ref (He.ga K "checked_show")) := T.glo 17 rfl
theorem Txt.g__law_fresh (T : Txt w K mg) : mg "_law_fresh" = some (.ref (He.ga K "_law_fresh")) := T.glo 18 rfl
theorem Txt.g__law_fill (T : Txt w K mg) : mg "_law_fill" = some (.ref (He.ga K "_law_fill")) := T.glo 19 rfl
theorem Txt.g__law_take (T : Txt w K mg) : mg "_law_take" = some (.ref (He.ga K "_law_take")) := T.glo 20 rfl
theorem Txt.g__law_one (T : Txt w K mg) : mg "_law_one" = some (.ref (He.ga K "_law_one")) := T.glo 21 rfl
theorem Txt.g__law_mix (T : Txt w K mg) : mg "_law_mix" = some (.ref (He.ga K "_law_mix")) := T.glo 22 rfl
theorem Txt.g__law_same (T : Txt w K mg) : mg "_law_same" = some (.ref (He.ga K "_law_same")) := T.glo 23 rfl
theorem Txt.g__law_all_words (T : Txt w K mg) : mg "_law_all_words" = some (.ref (He.ga K "_law_all_words")) := T.glo 24 rfl
theorem Txt.g__law_some_words (T : Txt w K mg) : mg "_law_some_words" = some (.ref (He.ga K "_law_some_words")) := T.glo 25 rfl
theorem Txt.g__law_handed (T : Txt w K mg) : mg "_law_handed" = some (.ref (He.ga K "_law_handed")) := T.glo 26 rfl
theorem Txt.g__law_kept (T : Txt w K mg) : mg "_law_kept" = some (.ref (He.ga K "_law_kept")) := T.glo 27 rfl
theorem Txt.g__law_base (T : Txt w K mg) : mg "_law_base" = some (.ref (He.ga K "_law_base")) := T.glo 28 rfl
theorem Txt.g__law_edition (T : Txt w K mg) : mg "_law_edition" = some (.ref (He.ga K "_law_edition")) := T.glo 29 rfl
theorem Txt.g__law_kernels (T : Txt w K mg) : mg "_law_kernels" = some (.ref (He.ga K "_law_kernels")) := T.glo 30 rfl
theorem Txt.g__law_parts (T : Txt w K mg) : mg "_law_parts" = some (.ref (He.ga K "_law_parts")) := T.glo 31 rfl
theorem Txt.g__law_field (T : Txt w K mg) : mg "_law_field" = some (.ref (He.ga K "_law_field")) := T.glo 32 rfl
theorem Txt.g__law_setting (T : Txt w K mg) : mg "_law_setting" = some (.ref (He.ga K "_law_setting")) := T.glo 33 rfl
theorem Txt.g__law_plain_deed (T : Txt w K mg) : mg "_law_plain_deed" = some (.ref (He.ga K "_law_plain_deed")) := T.glo 34 rfl
theorem Txt.g__law_plain_run (T : Txt w K mg) : mg "_law_plain_run" = some (.ref (He.ga K "_law_plain_run")) := T.glo 35 rfl
theorem Txt.g__law_picked (T : Txt w K mg) : mg "_law_picked" = some (.ref (He.ga K "_law_picked")) := T.glo 36 rfl
theorem Txt.g__law_less_right (T : Txt w K mg) : mg "_law_less_right" = some (.ref (He.ga K "_law_less_right")) := T.glo 37 rfl
theorem Txt.g__law_renamed (T : Txt w K mg) : mg "_law_renamed" = some (.ref (He.ga K "_law_renamed")) := T.glo 38 rfl
theorem Txt.g_law (T : Txt w K mg) : mg "law" = some (.ref (He.ga K "law")) := T.glo 39 rfl
theorem Txt.g_Work (T : Txt w K mg) : mg "Work" = some (.ref (He.ga K "Work")) := T.glo 40 rfl
theorem Txt.g_Edition (T : Txt w K mg) : mg "Edition" = some (.ref (He.ga K "Edition")) := T.glo 41 rfl
theorem Txt.g_Stand (T : Txt w K mg) : mg "Stand" = some (.ref (He.ga K "Stand")) := T.glo 42 rfl
theorem Txt.g_Rule (T : Txt w K mg) : mg "Rule" = some (.ref (He.ga K "Rule")) := T.glo 43 rfl
theorem Txt.g_SIZES (T : Txt w K mg) : mg "SIZES" = some (.ref (He.ga K "SIZES")) := T.glo 44 rfl
theorem Txt.g_PARTS (T : Txt w K mg) : mg "PARTS" = some (.ref (He.ga K "PARTS")) := T.glo 45 rfl
theorem Txt.g_WORDS (T : Txt w K mg) : mg "WORDS" = some (.ref (He.ga K "WORDS")) := T.glo 46 rfl
theorem Txt.g_WAYS (T : Txt w K mg) : mg "WAYS" = some (.ref (He.ga K "WAYS")) := T.glo 47 rfl
theorem Txt.f_len (T : Txt w K mg) : mg "len" = none := T.fre 48 rfl
theorem Txt.f_isinstance (T : Txt w K mg) : mg "isinstance" = none := T.fre 49 rfl
theorem Txt.f_all (T : Txt w K mg) : mg "all" = none := T.fre 50 rfl
theorem Txt.f_enumerate (T : Txt w K mg) : mg "enumerate" = none := T.fre 51 rfl
theorem Txt.f_tuple (T : Txt w K mg) : mg "tuple" = none := T.fre 52 rfl
theorem Txt.f_list (T : Txt w K mg) : mg "list" = none := T.fre 53 rfl
theorem Txt.f_range (T : Txt w K mg) : mg "range" = none := T.fre 54 rfl
theorem Txt.f_zip (T : Txt w K mg) : mg "zip" = none := T.fre 55 rfl
theorem Txt.f_int (T : Txt w K mg) : mg "int" = none := T.fre 56 rfl
theorem Txt.f_bool (T : Txt w K mg) : mg "bool" = none := T.fre 57 rfl
theorem Txt.f_str (T : Txt w K mg) : mg "str" = none := T.fre 58 rfl
theorem Txt.i_LONGEST (T : Txt w K mg) : ∃ t, mg "LONGEST" = some (.int 8 t) := T.inr 59 rfl
theorem Txt.i_MOST_DEVICES (T : Txt w K mg) : ∃ t, mg "MOST_DEVICES" = some (.int 3 t) := T.inr 60 rfl
theorem Txt.i_MOST_FIELDS (T : Txt w K mg) : ∃ t, mg "MOST_FIELDS" = some (.int 3 t) := T.inr 61 rfl
theorem Txt.z_LETTERS (T : Txt w K mg) : ∃ t, mg "LETTERS" = some (.str lettersS t) := T.stt 62 rfl
theorem Txt.c_Work (T : Txt w K mg) : Cls K (He.ga K "Work") := He.cls_ok (T.s.t.d.fact 63 (f := .cls "Work") rfl)
theorem Txt.c_Edition (T : Txt w K mg) : Cls K (He.ga K "Edition") := He.cls_ok (T.s.t.d.fact 64 (f := .cls "Edition") rfl)
theorem Txt.c_Stand (T : Txt w K mg) : Cls K (He.ga K "Stand") := He.cls_ok (T.s.t.d.fact 65 (f := .cls "Stand") rfl)
theorem Txt.c_Rule (T : Txt w K mg) : Cls K (He.ga K "Rule") := He.cls_ok (T.s.t.d.fact 66 (f := .cls "Rule") rfl)
theorem Txt.k_Work (T : Txt w K mg) : Mk K (He.ga K "Work") (He.ma K (He.ga K "Work") "__init__") := He.mkr_ok (T.s.t.d.fact 67 (f := .mkr "Work") rfl)
theorem Txt.k_Edition (T : Txt w K mg) : Mk K (He.ga K "Edition") (He.ma K (He.ga K "Edition") "__init__") := He.mkr_ok (T.s.t.d.fact 68 (f := .mkr "Edition") rfl)
theorem Txt.k_Stand (T : Txt w K mg) : Mk K (He.ga K "Stand") (He.ma K (He.ga K "Stand") "__init__") := He.mkr_ok (T.s.t.d.fact 69 (f := .mkr "Stand") rfl)
theorem Txt.k_Rule (T : Txt w K mg) : Mk K (He.ga K "Rule") (He.ma K (He.ga K "Rule") "__init__") := He.mkr_ok (T.s.t.d.fact 70 (f := .mkr "Rule") rfl)
theorem Txt.n_Work_name (T : Txt w K mg) : NoAttr K (He.ga K "Work") "name" := He.noat_ok (T.s.t.d.fact 71 (f := .noat "Work" "name") rfl)
theorem Txt.n_Work_rows (T : Txt w K mg) : NoAttr K (He.ga K "Work") "rows" := He.noat_ok (T.s.t.d.fact 72 (f := .noat "Work" "rows") rfl)
theorem Txt.n_Edition_work (T : Txt w K mg) : NoAttr K (He.ga K "Edition") "work" := He.noat_ok (T.s.t.d.fact 73 (f := .noat "Edition" "work") rfl)
theorem Txt.n_Edition_numbers (T : Txt w K mg) : NoAttr K (He.ga K "Edition") "numbers" := He.noat_ok (T.s.t.d.fact 74 (f := .noat "Edition" "numbers") rfl)
theorem Txt.n_Stand_rule (T : Txt w K mg) : NoAttr K (He.ga K "Stand") "rule" := He.noat_ok (T.s.t.d.fact 75 (f := .noat "Stand" "rule") rfl)
theorem Txt.n_Stand_tables (T : Txt w K mg) : NoAttr K (He.ga K "Stand") "tables" := He.noat_ok (T.s.t.d.fact 76 (f := .noat "Stand" "tables") rfl)
theorem Txt.n_Stand_spots (T : Txt w K mg) : NoAttr K (He.ga K "Stand") "spots" := He.noat_ok (T.s.t.d.fact 77 (f := .noat "Stand" "spots") rfl)
theorem Txt.n_Stand_held (T : Txt w K mg) : NoAttr K (He.ga K "Stand") "held" := He.noat_ok (T.s.t.d.fact 78 (f := .noat "Stand" "held") rfl)
theorem Txt.n_Stand_stamps (T : Txt w K mg) : NoAttr K (He.ga K "Stand") "stamps" := He.noat_ok (T.s.t.d.fact 79 (f := .noat "Stand" "stamps") rfl)
theorem Txt.n_Stand_row (T : Txt w K mg) : NoAttr K (He.ga K "Stand") "row" := He.noat_ok (T.s.t.d.fact 80 (f := .noat "Stand" "row") rfl)
theorem Txt.n_Stand_top (T : Txt w K mg) : NoAttr K (He.ga K "Stand") "top" := He.noat_ok (T.s.t.d.fact 81 (f := .noat "Stand" "top") rfl)
theorem Txt.n_Stand_come_to (T : Txt w K mg) : NoAttr K (He.ga K "Stand") "come_to" := He.noat_ok (T.s.t.d.fact 82 (f := .noat "Stand" "come_to") rfl)
theorem Txt.n_Rule_parts (T : Txt w K mg) : NoAttr K (He.ga K "Rule") "parts" := He.noat_ok (T.s.t.d.fact 83 (f := .noat "Rule" "parts") rfl)
theorem Txt.n_Rule_way (T : Txt w K mg) : NoAttr K (He.ga K "Rule") "way" := He.noat_ok (T.s.t.d.fact 84 (f := .noat "Rule" "way") rfl)
theorem Txt.m_Work_eq (T : Txt w K mg) : Meth K (He.ga K "Work") "__eq__" (He.ma K (He.ga K "Work") "__eq__") := He.meth_ok (T.s.t.d.fact 85 (f := .meth "Work" "__eq__") rfl)
theorem Txt.m_Stand_kernel (T : Txt w K mg) : Meth K (He.ga K "Stand") "kernel" (He.ma K (He.ga K "Stand") "kernel") := He.meth_ok (T.s.t.d.fact 86 (f := .meth "Stand" "kernel") rfl)
theorem Txt.m_Stand_stamp (T : Txt w K mg) : Meth K (He.ga K "Stand") "stamp" (He.ma K (He.ga K "Stand") "stamp") := He.meth_ok (T.s.t.d.fact 87 (f := .meth "Stand" "stamp") rfl)
theorem Txt.m_Stand_latest_stamp (T : Txt w K mg) : Meth K (He.ga K "Stand") "latest_stamp" (He.ma K (He.ga K "Stand") "latest_stamp") := He.meth_ok (T.s.t.d.fact 88 (f := .meth "Stand" "latest_stamp") rfl)
theorem Txt.m_Stand_go (T : Txt w K mg) : Meth K (He.ga K "Stand") "go" (He.ma K (He.ga K "Stand") "go") := He.meth_ok (T.s.t.d.fact 89 (f := .meth "Stand" "go") rfl)
theorem Txt.m_Stand_anew (T : Txt w K mg) : Meth K (He.ga K "Stand") "anew" (He.ma K (He.ga K "Stand") "anew") := He.meth_ok (T.s.t.d.fact 90 (f := .meth "Stand" "anew") rfl)
theorem Txt.m_Stand_give (T : Txt w K mg) : Meth K (He.ga K "Stand") "give" (He.ma K (He.ga K "Stand") "give") := He.meth_ok (T.s.t.d.fact 91 (f := .meth "Stand" "give") rfl)
theorem Txt.m_Stand_take (T : Txt w K mg) : Meth K (He.ga K "Stand") "take" (He.ma K (He.ga K "Stand") "take") := He.meth_ok (T.s.t.d.fact 92 (f := .meth "Stand" "take") rfl)
theorem Txt.m_Stand_do (T : Txt w K mg) : Meth K (He.ga K "Stand") "do" (He.ma K (He.ga K "Stand") "do") := He.meth_ok (T.s.t.d.fact 93 (f := .meth "Stand" "do") rfl)
theorem Txt.m_Stand_faults_of_take (T : Txt w K mg) : Meth K (He.ga K "Stand") "faults_of_take" (He.ma K (He.ga K "Stand") "faults_of_take") := He.meth_ok (T.s.t.d.fact 94 (f := .meth "Stand" "faults_of_take") rfl)
theorem Txt.m_Stand_is_lost (T : Txt w K mg) : Meth K (He.ga K "Stand") "is_lost" (He.ma K (He.ga K "Stand") "is_lost") := He.meth_ok (T.s.t.d.fact 95 (f := .meth "Stand" "is_lost") rfl)
theorem Txt.m_Stand_can_do (T : Txt w K mg) : Meth K (He.ga K "Stand") "can_do" (He.ma K (He.ga K "Stand") "can_do") := He.meth_ok (T.s.t.d.fact 96 (f := .meth "Stand" "can_do") rfl)
theorem Txt.m_Stand_can_go (T : Txt w K mg) : Meth K (He.ga K "Stand") "can_go" (He.ma K (He.ga K "Stand") "can_go") := He.meth_ok (T.s.t.d.fact 97 (f := .meth "Stand" "can_go") rfl)
theorem Txt.m_Rule_fields (T : Txt w K mg) : Meth K (He.ga K "Rule") "fields" (He.ma K (He.ga K "Rule") "fields") := He.meth_ok (T.s.t.d.fact 98 (f := .meth "Rule" "fields") rfl)
theorem Txt.m_Rule_show (T : Txt w K mg) : Meth K (He.ga K "Rule") "show" (He.ma K (He.ga K "Rule") "show") := He.meth_ok (T.s.t.d.fact 99 (f := .meth "Rule" "show") rfl)
theorem Txt.m_Rule_place_of_show (T : Txt w K mg) : Meth K (He.ga K "Rule") "place_of_show" (He.ma K (He.ga K "Rule") "place_of_show") := He.meth_ok (T.s.t.d.fact 100 (f := .meth "Rule" "place_of_show") rfl)
abbrev N_is_integer : List Str := (["thing"] : List Str)
theorem sc_is_integer : FnScope N_is_integer (["thing"] : List Str) (defScope s_is_integer) := ⟨rfl, rfl, rfl, by decide +kernel, rfl, by decide +kernel, by decide +kernel⟩
theorem cal_is_integer {k : Nat} {sp : Sp} (T : Txt w K mg) (h : ∀ f fd, FunD K "is_integer" "is_integer" (defArgs s_is_integer) (defBody s_is_integer) (defScope s_is_integer) [] [] f fd → FnOk P w K mg base CX0 k f fd (["thing"] : List Str) sp) : Cal P w K mg base k "is_integer" (["thing"] : List Str) sp := by
  obtain ⟨fd, F⟩ := T.s.t.d.def_ 0 (d := d_is_integer) rfl
  exact ⟨_, fd, h _ fd F, T.g_is_integer, F.kp, F.bindsN fun _ _ _ _ _ _ us hl => match us, hl with | [_], _ => rfl⟩
abbrev N_is_word : List Str := (["thing", "letter"] : List Str)
theorem sc_is_word : FnScope N_is_word (["thing"] : List Str) (defScope s_is_word) := ⟨rfl, rfl, rfl, by decide +kernel, rfl, by decide +kernel, by decide +kernel⟩
theorem cal_is_word {k : Nat} {sp : Sp} (T : Txt w K mg) (h : ∀ f fd, FunD K "is_word" "is_word" (defArgs s_is_word) (defBody s_is_word) (defScope s_is_word) [] [] f fd → FnOk P w K mg base CX0 k f fd (["thing"] : List Str) sp) : Cal P w K mg base k "is_word" (["thing"] : List Str) sp := by
  obtain ⟨fd, F⟩ := T.s.t.d.def_ 1 (d := d_is_word) rfl
  exact ⟨_, fd, h _ fd F, T.g_is_word, F.kp, F.bindsN fun _ _ _ _ _ _ us hl => match us, hl with | [_], _ => rfl⟩
abbrev N_is_row : List Str := (["thing"] : List Str)
theorem sc_is_row : FnScope N_is_row (["thing"] : List Str) (defScope s_is_row) := ⟨rfl, rfl, rfl, by decide +kernel, rfl, by decide +kernel, by decide +kernel⟩
theorem cal_is_row {k : Nat} {sp : Sp} (T : Txt w K mg) (h : ∀ f fd, FunD K "is_row" "is_row" (defArgs s_is_row) (defBody s_is_row) (defScope s_is_row) [] [] f fd → FnOk P w K mg base CX0 k f fd (["thing"] : List Str) sp) : Cal P w K mg base k "is_row" (["thing"] : List Str) sp := by
  obtain ⟨fd, F⟩ := T.s.t.d.def_ 2 (d := d_is_row) rfl
  exact ⟨_, fd, h _ fd F, T.g_is_row, F.kp, F.bindsN fun _ _ _ _ _ _ us hl => match us, hl with | [_], _ => rfl⟩
abbrev N_is_upto : List Str := (["thing", "most"] : List Str)
theorem sc_is_upto : FnScope N_is_upto (["thing", "most"] : List Str) (defScope s_is_upto) := ⟨rfl, rfl, rfl, by decide +kernel, rfl, by decide +kernel, by decide +kernel⟩
theorem cal_is_upto {k : Nat} {sp : Sp} (T : Txt w K mg) (h : ∀ f fd, FunD K "is_upto" "is_upto" (defArgs s_is_upto) (defBody s_is_upto) (defScope s_is_upto) [] [] f fd → FnOk P w K mg base CX0 k f fd (["thing", "most"] : List Str) sp) : Cal P w K mg base k "is_upto" (["thing", "most"] : List Str) sp := by
  obtain ⟨fd, F⟩ := T.s.t.d.def_ 3 (d := d_is_upto) rfl
  exact ⟨_, fd, h _ fd F, T.g_is_upto, F.kp, F.bindsN fun _ _ _ _ _ _ us hl => match us, hl with | [_, _], _ => rfl⟩
abbrev N_checked_passages : List Str := (["things", "found", "index", "thing"] : List Str)
theorem sc_checked_passages : FnScope N_checked_passages (["things"] : List Str) (defScope s_checked_passages) := ⟨rfl, rfl, rfl, by decide +kernel, rfl, by decide +kernel, by decide +kernel⟩
theorem cal_checked_passages {k : Nat} {sp : Sp} (T : Txt w K mg) (h : ∀ f fd, FunD K "checked_passages" "checked_passages" (defArgs s_checked_passages) (defBody s_checked_passages) (defScope s_checked_passages) [] [] f fd → FnOk P w K mg base CX0 k f fd (["things"] : List Str) sp) : Cal P w K mg base k "checked_passages" (["things"] : List Str) sp := by
  obtain ⟨fd, F⟩ := T.s.t.d.def_ 4 (d := d_checked_passages) rfl
  exact ⟨_, fd, h _ fd F, T.g_checked_passages, F.kp, F.bindsN fun _ _ _ _ _ _ us hl => match us, hl with | [_], _ => rfl⟩
abbrev N_Work_init : List Str := (["self", "name", "passages"] : List Str)
theorem sc_Work_init : FnScope N_Work_init (["self", "name", "passages"] : List Str) (defScope s_Work_init) := ⟨rfl, rfl, rfl, by decide +kernel, rfl, by decide +kernel, by decide +kernel⟩
theorem mak_Work {k : Nat} {sp : Sp} (T : Txt w K mg) (h : ∀ f fd, FunD K "__init__" "Work.__init__" (defArgs s_Work_init) (defBody s_Work_init) (defScope s_Work_init) [] [] f fd → FnOk P w K mg base CX0 k f fd (["self", "name", "passages"] : List Str) sp) : Mak P w K mg base k "Work" (["self", "name", "passages"] : List Str) sp := by
  obtain ⟨fd, F⟩ := T.s.t.d.def_ 5 (d := d_Work_init) rfl
  exact ⟨_, fd, h _ fd F, T.g_Work, T.k_Work, F.bindsN fun _ _ _ _ _ _ us hl => match us, hl with | [_, _, _], _ => rfl⟩
abbrev N_Work_eq : List Str := (["self", "other"] : List Str)
theorem sc_Work_eq : FnScope N_Work_eq (["self", "other"] : List Str) (defScope s_Work_eq) := ⟨rfl, rfl, rfl, by decide +kernel, rfl, by decide +kernel, by decide +kernel⟩
theorem met_Work_eq {k : Nat} {sp : Sp} (T : Txt w K mg) (h : ∀ f fd, FunD K "__eq__" "Work.__eq__" (defArgs s_Work_eq) (defBody s_Work_eq) (defScope s_Work_eq) [] [] f fd → FnOk P w K mg base CX0 k f fd (["self", "other"] : List Str) sp) : Met P w K mg base k "Work" "__eq__" (["self", "other"] : List Str) sp := by
  obtain ⟨fd, F⟩ := T.s.t.d.def_ 6 (d := d_Work_eq) rfl
  exact ⟨_, fd, h _ fd F, T.c_Work, T.m_Work_eq, F.bindsN fun _ _ _ _ _ _ us hl => match us, hl with | [_, _], _ => rfl⟩
abbrev N_numbers_of : List Str := (["work", "things", "found", "index", "thing", "numbers", "at", "word"] : List Str)
theorem sc_numbers_of : FnScope N_numbers_of (["work", "things"] : List Str) (defScope s_numbers_of) := ⟨rfl, rfl, rfl, by decide +kernel, rfl, by decide +kernel, by decide +kernel⟩
theorem cal_numbers_of {k : Nat} {sp : Sp} (T : Txt w K mg) (h : ∀ f fd, FunD K "numbers_of" "numbers_of" (defArgs s_numbers_of) (defBody s_numbers_of) (defScope s_numbers_of) [] [] f fd → FnOk P w K mg base CX0 k f fd (["work", "things"] : List Str) sp) : Cal P w K mg base k "numbers_of" (["work", "things"] : List Str) sp := by
  obtain ⟨fd, F⟩ := T.s.t.d.def_ 7 (d := d_numbers_of) rfl
  exact ⟨_, fd, h _ fd F, T.g_numbers_of, F.kp, F.bindsN fun _ _ _ _ _ _ us hl => match us, hl with | [_, _], _ => rfl⟩
abbrev N_Edition_init : List Str := (["self", "work", "passages"] : List Str)
theorem sc_Edition_init : FnScope N_Edition_init (["self", "work", "passages"] : List Str) (defScope s_Edition_init) := ⟨rfl, rfl, rfl, by decide +kernel, rfl, by decide +kernel, by decide +kernel⟩
theorem mak_Edition {k : Nat} {sp : Sp} (T : Txt w K mg) (h : ∀ f fd, FunD K "__init__" "Edition.__init__" (defArgs s_Edition_init) (defBody s_Edition_init) (defScope s_Edition_init) [] [] f fd → FnOk P w K mg base CX0 k f fd (["self", "work", "passages"] : List Str) sp) : Mak P w K mg base k "Edition" (["self", "work", "passages"] : List Str) sp := by
  obtain ⟨fd, F⟩ := T.s.t.d.def_ 8 (d := d_Edition_init) rfl
  exact ⟨_, fd, h _ fd F, T.g_Edition, T.k_Edition, F.bindsN fun _ _ _ _ _ _ us hl => match us, hl with | [_, _, _], _ => rfl⟩
abbrev N_kernels_of : List Str := (["edition", "found", "behind", "number"] : List Str)
theorem sc_kernels_of : FnScope N_kernels_of (["edition"] : List Str) (defScope s_kernels_of) := ⟨rfl, rfl, rfl, by decide +kernel, rfl, by decide +kernel, by decide +kernel⟩
theorem cal_kernels_of {k : Nat} {sp : Sp} (T : Txt w K mg) (h : ∀ f fd, FunD K "kernels_of" "kernels_of" (defArgs s_kernels_of) (defBody s_kernels_of) (defScope s_kernels_of) [] [] f fd → FnOk P w K mg base CX0 k f fd (["edition"] : List Str) sp) : Cal P w K mg base k "kernels_of" (["edition"] : List Str) sp := by
  obtain ⟨fd, F⟩ := T.s.t.d.def_ 9 (d := d_kernels_of) rfl
  exact ⟨_, fd, h _ fd F, T.g_kernels_of, F.kp, F.bindsN fun _ _ _ _ _ _ us hl => match us, hl with | [_], _ => rfl⟩
abbrev N_tables_of : List Str := (["setting", "thing", "edition"] : List Str)
theorem sc_tables_of : FnScope N_tables_of (["setting"] : List Str) (defScope s_tables_of) := ⟨rfl, rfl, rfl, by decide +kernel, rfl, by decide +kernel, by decide +kernel⟩
theorem cal_tables_of {k : Nat} {sp : Sp} (T : Txt w K mg) (h : ∀ f fd, FunD K "tables_of" "tables_of" (defArgs s_tables_of) (defBody s_tables_of) (defScope s_tables_of) [] [] f fd → FnOk P w K mg base CX0 k f fd (["setting"] : List Str) sp) : Cal P w K mg base k "tables_of" (["setting"] : List Str) sp := by
  obtain ⟨fd, F⟩ := T.s.t.d.def_ 10 (d := d_tables_of) rfl
  exact ⟨_, fd, h _ fd F, T.g_tables_of, F.kp, F.bindsN fun _ _ _ _ _ _ us hl => match us, hl with | [_], _ => rfl⟩
abbrev N_greater : List Str := (["one", "other"] : List Str)
theorem sc_greater : FnScope N_greater (["one", "other"] : List Str) (defScope s_greater) := ⟨rfl, rfl, rfl, by decide +kernel, rfl, by decide +kernel, by decide +kernel⟩
theorem cal_greater {k : Nat} {sp : Sp} (T : Txt w K mg) (h : ∀ f fd, FunD K "greater" "greater" (defArgs s_greater) (defBody s_greater) (defScope s_greater) [] [] f fd → FnOk P w K mg base CX0 k f fd (["one", "other"] : List Str) sp) : Cal P w K mg base k "greater" (["one", "other"] : List Str) sp := by
  obtain ⟨fd, F⟩ := T.s.t.d.def_ 11 (d := d_greater) rfl
  exact ⟨_, fd, h _ fd F, T.g_greater, F.kp, F.bindsN fun _ _ _ _ _ _ us hl => match us, hl with | [_, _], _ => rfl⟩
abbrev N_moved_value : List Str := (["word", "value", "start", "end"] : List Str)
theorem sc_moved_value : FnScope N_moved_value (["word", "value", "start", "end"] : List Str) (defScope s_moved_value) := ⟨rfl, rfl, rfl, by decide +kernel, rfl, by decide +kernel, by decide +kernel⟩
theorem cal_moved_value {k : Nat} {sp : Sp} (T : Txt w K mg) (h : ∀ f fd, FunD K "moved_value" "moved_value" (defArgs s_moved_value) (defBody s_moved_value) (defScope s_moved_value) [] [] f fd → FnOk P w K mg base CX0 k f fd (["word", "value", "start", "end"] : List Str) sp) : Cal P w K mg base k "moved_value" (["word", "value", "start", "end"] : List Str) sp := by
  obtain ⟨fd, F⟩ := T.s.t.d.def_ 12 (d := d_moved_value) rfl
  exact ⟨_, fd, h _ fd F, T.g_moved_value, F.kp, F.bindsN fun _ _ _ _ _ _ us hl => match us, hl with | [_, _, _, _], _ => rfl⟩
abbrev N_handed_value : List Str := (["word", "value", "other", "is_later"] : List Str)
theorem sc_handed_value : FnScope N_handed_value (["word", "value", "other", "is_later"] : List Str) (defScope s_handed_value) := ⟨rfl, rfl, rfl, by decide +kernel, rfl, by decide +kernel, by decide +kernel⟩
theorem cal_handed_value {k : Nat} {sp : Sp} (T : Txt w K mg) (h : ∀ f fd, FunD K "handed_value" "handed_value" (defArgs s_handed_value) (defBody s_handed_value) (defScope s_handed_value) [] [] f fd → FnOk P w K mg base CX0 k f fd (["word", "value", "other", "is_later"] : List Str) sp) : Cal P w K mg base k "handed_value" (["word", "value", "other", "is_later"] : List Str) sp := by
  obtain ⟨fd, F⟩ := T.s.t.d.def_ 13 (d := d_handed_value) rfl
  exact ⟨_, fd, h _ fd F, T.g_handed_value, F.kp, F.bindsN fun _ _ _ _ _ _ us hl => match us, hl with | [_, _, _, _], _ => rfl⟩
abbrev N_Stand_init : List Str := (["self", "rule", "tables", "device"] : List Str)
theorem sc_Stand_init : FnScope N_Stand_init (["self", "rule", "tables"] : List Str) (defScope s_Stand_init) := ⟨rfl, rfl, rfl, by decide +kernel, rfl, by decide +kernel, by decide +kernel⟩
theorem mak_Stand {k : Nat} {sp : Sp} (T : Txt w K mg) (h : ∀ f fd, FunD K "__init__" "Stand.__init__" (defArgs s_Stand_init) (defBody s_Stand_init) (defScope s_Stand_init) [] [] f fd → FnOk P w K mg base CX0 k f fd (["self", "rule", "tables"] : List Str) sp) : Mak P w K mg base k "Stand" (["self", "rule", "tables"] : List Str) sp := by
  obtain ⟨fd, F⟩ := T.s.t.d.def_ 14 (d := d_Stand_init) rfl
  exact ⟨_, fd, h _ fd F, T.g_Stand, T.k_Stand, F.bindsN fun _ _ _ _ _ _ us hl => match us, hl with | [_, _, _], _ => rfl⟩
abbrev N_Stand_kernel : List Str := (["self", "device", "value", "table"] : List Str)
theorem sc_Stand_kernel : FnScope N_Stand_kernel (["self", "device", "value"] : List Str) (defScope s_Stand_kernel) := ⟨rfl, rfl, rfl, by decide +kernel, rfl, by decide +kernel, by decide +kernel⟩
theorem met_Stand_kernel {k : Nat} {sp : Sp} (T : Txt w K mg) (h : ∀ f fd, FunD K "kernel" "Stand.kernel" (defArgs s_Stand_kernel) (defBody s_Stand_kernel) (defScope s_Stand_kernel) [] [] f fd → FnOk P w K mg base CX0 k f fd (["self", "device", "value"] : List Str) sp) : Met P w K mg base k "Stand" "kernel" (["self", "device", "value"] : List Str) sp := by
  obtain ⟨fd, F⟩ := T.s.t.d.def_ 15 (d := d_Stand_kernel) rfl
  exact ⟨_, fd, h _ fd F, T.c_Stand, T.m_Stand_kernel, F.bindsN fun _ _ _ _ _ _ us hl => match us, hl with | [_, _, _], _ => rfl⟩
abbrev N_Stand_stamp : List Str := (["self", "device"] : List Str)
theorem sc_Stand_stamp : FnScope N_Stand_stamp (["self", "device"] : List Str) (defScope s_Stand_stamp) := ⟨rfl, rfl, rfl, by decide +kernel, rfl, by decide +kernel, by decide +kernel⟩
theorem met_Stand_stamp {k : Nat} {sp : Sp} (T : Txt w K mg) (h : ∀ f fd, FunD K "stamp" "Stand.stamp" (defArgs s_Stand_stamp) (defBody s_Stand_stamp) (defScope s_Stand_stamp) [] [] f fd → FnOk P w K mg base CX0 k f fd (["self", "device"] : List Str) sp) : Met P w K mg base k "Stand" "stamp" (["self", "device"] : List Str) sp := by
  obtain ⟨fd, F⟩ := T.s.t.d.def_ 16 (d := d_Stand_stamp) rfl
  exact ⟨_, fd, h _ fd F, T.c_Stand, T.m_Stand_stamp, F.bindsN fun _ _ _ _ _ _ us hl => match us, hl with | [_, _], _ => rfl⟩
abbrev N_Stand_latest_stamp : List Str := (["self", "found", "stamp"] : List Str)
theorem sc_Stand_latest_stamp : FnScope N_Stand_latest_stamp (["self"] : List Str) (defScope s_Stand_latest_stamp) := ⟨rfl, rfl, rfl, by decide +kernel, rfl, by decide +kernel, by decide +kernel⟩
theorem met_Stand_latest_stamp {k : Nat} {sp : Sp} (T : Txt w K mg) (h : ∀ f fd, FunD K "latest_stamp" "Stand.latest_stamp" (defArgs s_Stand_latest_stamp) (defBody s_Stand_latest_stamp) (defScope s_Stand_latest_stamp) [] [] f fd → FnOk P w K mg base CX0 k f fd (["self"] : List Str) sp) : Met P w K mg base k "Stand" "latest_stamp" (["self"] : List Str) sp := by
  obtain ⟨fd, F⟩ := T.s.t.d.def_ 17 (d := d_Stand_latest_stamp) rfl
  exact ⟨_, fd, h _ fd F, T.c_Stand, T.m_Stand_latest_stamp, F.bindsN fun _ _ _ _ _ _ us hl => match us, hl with | [_], _ => rfl⟩
abbrev N_Stand_go : List Str := (["self", "word", "device", "end", "start", "at", "nth", "field"] : List Str)
theorem sc_Stand_go : FnScope N_Stand_go (["self", "word", "device", "end"] : List Str) (defScope s_Stand_go) := ⟨rfl, rfl, rfl, by decide +kernel, rfl, by decide +kernel, by decide +kernel⟩
theorem met_Stand_go {k : Nat} {sp : Sp} (T : Txt w K mg) (h : ∀ f fd, FunD K "go" "Stand.go" (defArgs s_Stand_go) (defBody s_Stand_go) (defScope s_Stand_go) [] [] f fd → FnOk P w K mg base CX0 k f fd (["self", "word", "device", "end"] : List Str) sp) : Met P w K mg base k "Stand" "go" (["self", "word", "device", "end"] : List Str) sp := by
  obtain ⟨fd, F⟩ := T.s.t.d.def_ 18 (d := d_Stand_go) rfl
  exact ⟨_, fd, h _ fd F, T.c_Stand, T.m_Stand_go, F.bindsN fun _ _ _ _ _ _ us hl => match us, hl with | [_, _, _, _], _ => rfl⟩
abbrev N_Stand_anew : List Str := (["self", "device", "nth", "field"] : List Str)
theorem sc_Stand_anew : FnScope N_Stand_anew (["self", "device"] : List Str) (defScope s_Stand_anew) := ⟨rfl, rfl, rfl, by decide +kernel, rfl, by decide +kernel, by decide +kernel⟩
theorem met_Stand_anew {k : Nat} {sp : Sp} (T : Txt w K mg) (h : ∀ f fd, FunD K "anew" "Stand.anew" (defArgs s_Stand_anew) (defBody s_Stand_anew) (defScope s_Stand_anew) [] [] f fd → FnOk P w K mg base CX0 k f fd (["self", "device"] : List Str) sp) : Met P w K mg base k "Stand" "anew" (["self", "device"] : List Str) sp := by
  obtain ⟨fd, F⟩ := T.s.t.d.def_ 19 (d := d_Stand_anew) rfl
  exact ⟨_, fd, h _ fd F, T.c_Stand, T.m_Stand_anew, F.bindsN fun _ _ _ _ _ _ us hl => match us, hl with | [_, _], _ => rfl⟩
abbrev N_Stand_give : List Str := (["self", "device", "shelf", "is_later", "nth", "field"] : List Str)
theorem sc_Stand_give : FnScope N_Stand_give (["self", "device"] : List Str) (defScope s_Stand_give) := ⟨rfl, rfl, rfl, by decide +kernel, rfl, by decide +kernel, by decide +kernel⟩
theorem met_Stand_give {k : Nat} {sp : Sp} (T : Txt w K mg) (h : ∀ f fd, FunD K "give" "Stand.give" (defArgs s_Stand_give) (defBody s_Stand_give) (defScope s_Stand_give) [] [] f fd → FnOk P w K mg base CX0 k f fd (["self", "device"] : List Str) sp) : Met P w K mg base k "Stand" "give" (["self", "device"] : List Str) sp := by
  obtain ⟨fd, F⟩ := T.s.t.d.def_ 20 (d := d_Stand_give) rfl
  exact ⟨_, fd, h _ fd F, T.c_Stand, T.m_Stand_give, F.bindsN fun _ _ _ _ _ _ us hl => match us, hl with | [_, _], _ => rfl⟩
abbrev N_Stand_take : List Str := (["self", "device", "mark", "shelf", "is_later", "nth", "field", "way", "place"] : List Str)
theorem sc_Stand_take : FnScope N_Stand_take (["self", "device"] : List Str) (defScope s_Stand_take) := ⟨rfl, rfl, rfl, by decide +kernel, rfl, by decide +kernel, by decide +kernel⟩
theorem met_Stand_take {k : Nat} {sp : Sp} (T : Txt w K mg) (h : ∀ f fd, FunD K "take" "Stand.take" (defArgs s_Stand_take) (defBody s_Stand_take) (defScope s_Stand_take) [] [] f fd → FnOk P w K mg base CX0 k f fd (["self", "device"] : List Str) sp) : Met P w K mg base k "Stand" "take" (["self", "device"] : List Str) sp := by
  obtain ⟨fd, F⟩ := T.s.t.d.def_ 21 (d := d_Stand_take) rfl
  exact ⟨_, fd, h _ fd F, T.c_Stand, T.m_Stand_take, F.bindsN fun _ _ _ _ _ _ us hl => match us, hl with | [_, _], _ => rfl⟩
abbrev N_Stand_do : List Str := (["self", "deed", "word", "device", "before", "found"] : List Str)
theorem sc_Stand_do : FnScope N_Stand_do (["self", "deed"] : List Str) (defScope s_Stand_do) := ⟨rfl, rfl, rfl, by decide +kernel, rfl, by decide +kernel, by decide +kernel⟩
theorem met_Stand_do {k : Nat} {sp : Sp} (T : Txt w K mg) (h : ∀ f fd, FunD K "do" "Stand.do" (defArgs s_Stand_do) (defBody s_Stand_do) (defScope s_Stand_do) [] [] f fd → FnOk P w K mg base CX0 k f fd (["self", "deed"] : List Str) sp) : Met P w K mg base k "Stand" "do" (["self", "deed"] : List Str) sp := by
  obtain ⟨fd, F⟩ := T.s.t.d.def_ 22 (d := d_Stand_do) rfl
  exact ⟨_, fd, h _ fd F, T.c_Stand, T.m_Stand_do, F.bindsN fun _ _ _ _ _ _ us hl => match us, hl with | [_, _], _ => rfl⟩
abbrev N_Stand_faults_of_take : List Str := (["self", "device", "before", "found", "place", "one"] : List Str)
theorem sc_Stand_faults_of_take : FnScope N_Stand_faults_of_take (["self", "device", "before"] : List Str) (defScope s_Stand_faults_of_take) := ⟨rfl, rfl, rfl, by decide +kernel, rfl, by decide +kernel, by decide +kernel⟩
theorem met_Stand_faults_of_take {k : Nat} {sp : Sp} (T : Txt w K mg) (h : ∀ f fd, FunD K "faults_of_take" "Stand.faults_of_take" (defArgs s_Stand_faults_of_take) (defBody s_Stand_faults_of_take) (defScope s_Stand_faults_of_take) [] [] f fd → FnOk P w K mg base CX0 k f fd (["self", "device", "before"] : List Str) sp) : Met P w K mg base k "Stand" "faults_of_take" (["self", "device", "before"] : List Str) sp := by
  obtain ⟨fd, F⟩ := T.s.t.d.def_ 23 (d := d_Stand_faults_of_take) rfl
  exact ⟨_, fd, h _ fd F, T.c_Stand, T.m_Stand_faults_of_take, F.bindsN fun _ _ _ _ _ _ us hl => match us, hl with | [_, _, _], _ => rfl⟩
abbrev N_Stand_is_lost : List Str := (["self", "values", "mark", "value"] : List Str)
theorem sc_Stand_is_lost : FnScope N_Stand_is_lost (["self"] : List Str) (defScope s_Stand_is_lost) := ⟨rfl, rfl, rfl, by decide +kernel, rfl, by decide +kernel, by decide +kernel⟩
theorem met_Stand_is_lost {k : Nat} {sp : Sp} (T : Txt w K mg) (h : ∀ f fd, FunD K "is_lost" "Stand.is_lost" (defArgs s_Stand_is_lost) (defBody s_Stand_is_lost) (defScope s_Stand_is_lost) [] [] f fd → FnOk P w K mg base CX0 k f fd (["self"] : List Str) sp) : Met P w K mg base k "Stand" "is_lost" (["self"] : List Str) sp := by
  obtain ⟨fd, F⟩ := T.s.t.d.def_ 24 (d := d_Stand_is_lost) rfl
  exact ⟨_, fd, h _ fd F, T.c_Stand, T.m_Stand_is_lost, F.bindsN fun _ _ _ _ _ _ us hl => match us, hl with | [_], _ => rfl⟩
abbrev N_Stand_can_do : List Str := (["self", "thing"] : List Str)
theorem sc_Stand_can_do : FnScope N_Stand_can_do (["self", "thing"] : List Str) (defScope s_Stand_can_do) := ⟨rfl, rfl, rfl, by decide +kernel, rfl, by decide +kernel, by decide +kernel⟩
theorem met_Stand_can_do {k : Nat} {sp : Sp} (T : Txt w K mg) (h : ∀ f fd, FunD K "can_do" "Stand.can_do" (defArgs s_Stand_can_do) (defBody s_Stand_can_do) (defScope s_Stand_can_do) [] [] f fd → FnOk P w K mg base CX0 k f fd (["self", "thing"] : List Str) sp) : Met P w K mg base k "Stand" "can_do" (["self", "thing"] : List Str) sp := by
  obtain ⟨fd, F⟩ := T.s.t.d.def_ 25 (d := d_Stand_can_do) rfl
  exact ⟨_, fd, h _ fd F, T.c_Stand, T.m_Stand_can_do, F.bindsN fun _ _ _ _ _ _ us hl => match us, hl with | [_, _], _ => rfl⟩
abbrev N_Stand_can_go : List Str := (["self", "word", "device", "end", "table"] : List Str)
theorem sc_Stand_can_go : FnScope N_Stand_can_go (["self", "word", "device", "end"] : List Str) (defScope s_Stand_can_go) := ⟨rfl, rfl, rfl, by decide +kernel, rfl, by decide +kernel, by decide +kernel⟩
theorem met_Stand_can_go {k : Nat} {sp : Sp} (T : Txt w K mg) (h : ∀ f fd, FunD K "can_go" "Stand.can_go" (defArgs s_Stand_can_go) (defBody s_Stand_can_go) (defScope s_Stand_can_go) [] [] f fd → FnOk P w K mg base CX0 k f fd (["self", "word", "device", "end"] : List Str) sp) : Met P w K mg base k "Stand" "can_go" (["self", "word", "device", "end"] : List Str) sp := by
  obtain ⟨fd, F⟩ := T.s.t.d.def_ 26 (d := d_Stand_can_go) rfl
  exact ⟨_, fd, h _ fd F, T.c_Stand, T.m_Stand_can_go, F.bindsN fun _ _ _ _ _ _ us hl => match us, hl with | [_, _, _, _], _ => rfl⟩
abbrev N_run : List Str := (["rule", "setting", "history", "stand", "found", "index", "thing", "words", "mark"] : List Str)
theorem sc_run : FnScope N_run (["rule", "setting", "history"] : List Str) (defScope s_run) := ⟨rfl, rfl, rfl, by decide +kernel, rfl, by decide +kernel, by decide +kernel⟩
theorem cal_run {k : Nat} {sp : Sp} (T : Txt w K mg) (h : ∀ f fd, FunD K "run" "run" (defArgs s_run) (defBody s_run) (defScope s_run) [] [] f fd → FnOk P w K mg base CX0 k f fd (["rule", "setting", "history"] : List Str) sp) : Cal P w K mg base k "run" (["rule", "setting", "history"] : List Str) sp := by
  obtain ⟨fd, F⟩ := T.s.t.d.def_ 27 (d := d_run) rfl
  exact ⟨_, fd, h _ fd F, T.g_run, F.kp, F.bindsN fun _ _ _ _ _ _ us hl => match us, hl with | [_, _, _], _ => rfl⟩
abbrev N_played : List Str := (["rule", "setting", "history", "places", "marks", "words"] : List Str)
theorem sc_played : FnScope N_played (["rule", "setting", "history"] : List Str) (defScope s_played) := ⟨rfl, rfl, rfl, by decide +kernel, rfl, by decide +kernel, by decide +kernel⟩
theorem cal_played {k : Nat} {sp : Sp} (T : Txt w K mg) (h : ∀ f fd, FunD K "played" "played" (defArgs s_played) (defBody s_played) (defScope s_played) [] [] f fd → FnOk P w K mg base CX0 k f fd (["rule", "setting", "history"] : List Str) sp) : Cal P w K mg base k "played" (["rule", "setting", "history"] : List Str) sp := by
  obtain ⟨fd, F⟩ := T.s.t.d.def_ 28 (d := d_played) rfl
  exact ⟨_, fd, h _ fd F, T.g_played, F.kp, F.bindsN fun _ _ _ _ _ _ us hl => match us, hl with | [_, _, _], _ => rfl⟩
abbrev N_faults : List Str := (["rule", "setting", "history", "found", "index", "places", "marks", "words", "word"] : List Str)
theorem sc_faults : FnScope N_faults (["rule", "setting", "history"] : List Str) (defScope s_faults) := ⟨rfl, rfl, rfl, by decide +kernel, rfl, by decide +kernel, by decide +kernel⟩
theorem cal_faults {k : Nat} {sp : Sp} (T : Txt w K mg) (h : ∀ f fd, FunD K "faults" "faults" (defArgs s_faults) (defBody s_faults) (defScope s_faults) [] [] f fd → FnOk P w K mg base CX0 k f fd (["rule", "setting", "history"] : List Str) sp) : Cal P w K mg base k "faults" (["rule", "setting", "history"] : List Str) sp := by
  obtain ⟨fd, F⟩ := T.s.t.d.def_ 29 (d := d_faults) rfl
  exact ⟨_, fd, h _ fd F, T.g_faults, F.kp, F.bindsN fun _ _ _ _ _ _ us hl => match us, hl with | [_, _, _], _ => rfl⟩
abbrev N_is_one_of : List Str := (["thing", "words"] : List Str)
theorem sc_is_one_of : FnScope N_is_one_of (["thing", "words"] : List Str) (defScope s_is_one_of) := ⟨rfl, rfl, rfl, by decide +kernel, rfl, by decide +kernel, by decide +kernel⟩
theorem cal_is_one_of {k : Nat} {sp : Sp} (T : Txt w K mg) (h : ∀ f fd, FunD K "is_one_of" "is_one_of" (defArgs s_is_one_of) (defBody s_is_one_of) (defScope s_is_one_of) [] [] f fd → FnOk P w K mg base CX0 k f fd (["thing", "words"] : List Str) sp) : Cal P w K mg base k "is_one_of" (["thing", "words"] : List Str) sp := by
  obtain ⟨fd, F⟩ := T.s.t.d.def_ 30 (d := d_is_one_of) rfl
  exact ⟨_, fd, h _ fd F, T.g_is_one_of, F.kp, F.bindsN fun _ _ _ _ _ _ us hl => match us, hl with | [_, _], _ => rfl⟩
abbrev N_field_reason : List Str := (["thing", "ahead", "part", "word"] : List Str)
theorem sc_field_reason : FnScope N_field_reason (["thing", "ahead"] : List Str) (defScope s_field_reason) := ⟨rfl, rfl, rfl, by decide +kernel, rfl, by decide +kernel, by decide +kernel⟩
theorem cal_field_reason {k : Nat} {sp : Sp} (T : Txt w K mg) (h : ∀ f fd, FunD K "field_reason" "field_reason" (defArgs s_field_reason) (defBody s_field_reason) (defScope s_field_reason) [] [] f fd → FnOk P w K mg base CX0 k f fd (["thing", "ahead"] : List Str) sp) : Cal P w K mg base k "field_reason" (["thing", "ahead"] : List Str) sp := by
  obtain ⟨fd, F⟩ := T.s.t.d.def_ 31 (d := d_field_reason) rfl
  exact ⟨_, fd, h _ fd F, T.g_field_reason, F.kp, F.bindsN fun _ _ _ _ _ _ us hl => match us, hl with | [_, _], _ => rfl⟩
abbrev N_checked_fields : List Str := (["things", "found", "index", "thing", "reason", "field"] : List Str)
theorem sc_checked_fields : FnScope N_checked_fields (["things"] : List Str) (defScope s_checked_fields) := ⟨rfl, rfl, rfl, by decide +kernel, rfl, by decide +kernel, by decide +kernel⟩
theorem cal_checked_fields {k : Nat} {sp : Sp} (T : Txt w K mg) (h : ∀ f fd, FunD K "checked_fields" "checked_fields" (defArgs s_checked_fields) (defBody s_checked_fields) (defScope s_checked_fields) [] [] f fd → FnOk P w K mg base CX0 k f fd (["things"] : List Str) sp) : Cal P w K mg base k "checked_fields" (["things"] : List Str) sp := by
  obtain ⟨fd, F⟩ := T.s.t.d.def_ 32 (d := d_checked_fields) rfl
  exact ⟨_, fd, h _ fd F, T.g_checked_fields, F.kp, F.bindsN fun _ _ _ _ _ _ us hl => match us, hl with | [_], _ => rfl⟩
abbrev N_checked_show : List Str := (["show", "names"] : List Str)
theorem sc_checked_show : FnScope N_checked_show (["show", "names"] : List Str) (defScope s_checked_show) := ⟨rfl, rfl, rfl, by decide +kernel, rfl, by decide +kernel, by decide +kernel⟩
theorem cal_checked_show {k : Nat} {sp : Sp} (T : Txt w K mg) (h : ∀ f fd, FunD K "checked_show" "checked_show" (defArgs s_checked_show) (defBody s_checked_show) (defScope s_checked_show) [] [] f fd → FnOk P w K mg base CX0 k f fd (["show", "names"] : List Str) sp) : Cal P w K mg base k "checked_show" (["show", "names"] : List Str) sp := by
  obtain ⟨fd, F⟩ := T.s.t.d.def_ 33 (d := d_checked_show) rfl
  exact ⟨_, fd, h _ fd F, T.g_checked_show, F.kp, F.bindsN fun _ _ _ _ _ _ us hl => match us, hl with | [_, _], _ => rfl⟩
abbrev N_Rule_init : List Str := (["self", "fields", "show", "field"] : List Str)
theorem sc_Rule_init : FnScope N_Rule_init (["self", "fields", "show"] : List Str) (defScope s_Rule_init) := ⟨rfl, rfl, rfl, by decide +kernel, rfl, by decide +kernel, by decide +kernel⟩
theorem mak_Rule {k : Nat} {sp : Sp} (T : Txt w K mg) (h : ∀ f fd, FunD K "__init__" "Rule.__init__" (defArgs s_Rule_init) (defBody s_Rule_init) (defScope s_Rule_init) [] [] f fd → FnOk P w K mg base CX0 k f fd (["self", "fields", "show"] : List Str) sp) : Mak P w K mg base k "Rule" (["self", "fields", "show"] : List Str) sp := by
  obtain ⟨fd, F⟩ := T.s.t.d.def_ 34 (d := d_Rule_init) rfl
  exact ⟨_, fd, h _ fd F, T.g_Rule, T.k_Rule, F.bindsN fun _ _ _ _ _ _ us hl => match us, hl with | [_, _, _], _ => rfl⟩
abbrev N_Rule_fields : List Str := (["self"] : List Str)
theorem sc_Rule_fields : FnScope N_Rule_fields (["self"] : List Str) (defScope s_Rule_fields) := ⟨rfl, rfl, rfl, by decide +kernel, rfl, by decide +kernel, by decide +kernel⟩
theorem met_Rule_fields {k : Nat} {sp : Sp} (T : Txt w K mg) (h : ∀ f fd, FunD K "fields" "Rule.fields" (defArgs s_Rule_fields) (defBody s_Rule_fields) (defScope s_Rule_fields) [] [] f fd → FnOk P w K mg base CX0 k f fd (["self"] : List Str) sp) : Met P w K mg base k "Rule" "fields" (["self"] : List Str) sp := by
  obtain ⟨fd, F⟩ := T.s.t.d.def_ 35 (d := d_Rule_fields) rfl
  exact ⟨_, fd, h _ fd F, T.c_Rule, T.m_Rule_fields, F.bindsN fun _ _ _ _ _ _ us hl => match us, hl with | [_], _ => rfl⟩
abbrev N_Rule_show : List Str := (["self"] : List Str)
theorem sc_Rule_show : FnScope N_Rule_show (["self"] : List Str) (defScope s_Rule_show) := ⟨rfl, rfl, rfl, by decide +kernel, rfl, by decide +kernel, by decide +kernel⟩
theorem met_Rule_show {k : Nat} {sp : Sp} (T : Txt w K mg) (h : ∀ f fd, FunD K "show" "Rule.show" (defArgs s_Rule_show) (defBody s_Rule_show) (defScope s_Rule_show) [] [] f fd → FnOk P w K mg base CX0 k f fd (["self"] : List Str) sp) : Met P w K mg base k "Rule" "show" (["self"] : List Str) sp := by
  obtain ⟨fd, F⟩ := T.s.t.d.def_ 36 (d := d_Rule_show) rfl
  exact ⟨_, fd, h _ fd F, T.c_Rule, T.m_Rule_show, F.bindsN fun _ _ _ _ _ _ us hl => match us, hl with | [_], _ => rfl⟩
abbrev N_Rule_place_of_show : List Str := (["self", "field"] : List Str)
theorem sc_Rule_place_of_show : FnScope N_Rule_place_of_show (["self"] : List Str) (defScope s_Rule_place_of_show) := ⟨rfl, rfl, rfl, by decide +kernel, rfl, by decide +kernel, by decide +kernel⟩
theorem met_Rule_place_of_show {k : Nat} {sp : Sp} (T : Txt w K mg) (h : ∀ f fd, FunD K "place_of_show" "Rule.place_of_show" (defArgs s_Rule_place_of_show) (defBody s_Rule_place_of_show) (defScope s_Rule_place_of_show) [] [] f fd → FnOk P w K mg base CX0 k f fd (["self"] : List Str) sp) : Met P w K mg base k "Rule" "place_of_show" (["self"] : List Str) sp := by
  obtain ⟨fd, F⟩ := T.s.t.d.def_ 37 (d := d_Rule_place_of_show) rfl
  exact ⟨_, fd, h _ fd F, T.c_Rule, T.m_Rule_place_of_show, F.bindsN fun _ _ _ _ _ _ us hl => match us, hl with | [_], _ => rfl⟩
abbrev N_Lfresh : List Str := (["_law_script"] : List Str)
theorem sc_Lfresh : FnScope N_Lfresh (["_law_script"] : List Str) (defScope s_Lfresh) := ⟨rfl, rfl, rfl, by decide +kernel, rfl, by decide +kernel, by decide +kernel⟩
theorem cal_Lfresh {k : Nat} {sp : Sp} (T : Txt w K mg) (h : ∀ f fd, FunD K "_law_fresh" "_law_fresh" (defArgs s_Lfresh) (defBody s_Lfresh) (defScope s_Lfresh) [] [] f fd → FnOk P w K mg base CX0 k f fd (["_law_script"] : List Str) sp) : Cal P w K mg base k "_law_fresh" (["_law_script"] : List Str) sp := by
  obtain ⟨fd, F⟩ := T.s.t.d.def_ 38 (d := d_Lfresh) rfl
  exact ⟨_, fd, h _ fd F, T.g__law_fresh, F.kp, F.bindsN fun _ _ _ _ _ _ us hl => match us, hl with | [_], _ => rfl⟩
abbrev N_Lfill : List Str := (["_law_state", "_law_cells", "_law_nth", "_law_seed", "_law_k", "_law_prime", "_law_far"] : List Str)
theorem sc_Lfill : FnScope N_Lfill (["_law_state"] : List Str) (defScope s_Lfill) := ⟨rfl, rfl, rfl, by decide +kernel, rfl, by decide +kernel, by decide +kernel⟩
theorem cal_Lfill {k : Nat} {sp : Sp} (T : Txt w K mg) (h : ∀ f fd, FunD K "_law_fill" "_law_fill" (defArgs s_Lfill) (defBody s_Lfill) (defScope s_Lfill) [] [] f fd → FnOk P w K mg base CX0 k f fd (["_law_state"] : List Str) sp) : Cal P w K mg base k "_law_fill" (["_law_state"] : List Str) sp := by
  obtain ⟨fd, F⟩ := T.s.t.d.def_ 39 (d := d_Lfill) rfl
  exact ⟨_, fd, h _ fd F, T.g__law_fill, F.kp, F.bindsN fun _ _ _ _ _ _ us hl => match us, hl with | [_], _ => rfl⟩
abbrev N_Ltake : List Str := (["_law_state", "_law_many", "_law_laps", "_law_digit"] : List Str)
theorem sc_Ltake : FnScope N_Ltake (["_law_state", "_law_many"] : List Str) (defScope s_Ltake) := ⟨rfl, rfl, rfl, by decide +kernel, rfl, by decide +kernel, by decide +kernel⟩
theorem cal_Ltake {k : Nat} {sp : Sp} (T : Txt w K mg) (h : ∀ f fd, FunD K "_law_take" "_law_take" (defArgs s_Ltake) (defBody s_Ltake) (defScope s_Ltake) [] [] f fd → FnOk P w K mg base CX0 k f fd (["_law_state", "_law_many"] : List Str) sp) : Cal P w K mg base k "_law_take" (["_law_state", "_law_many"] : List Str) sp := by
  obtain ⟨fd, F⟩ := T.s.t.d.def_ 40 (d := d_Ltake) rfl
  exact ⟨_, fd, h _ fd F, T.g__law_take, F.kp, F.bindsN fun _ _ _ _ _ _ us hl => match us, hl with | [_, _], _ => rfl⟩
abbrev N_Lone : List Str := (["_law_state", "_law_things"] : List Str)
theorem sc_Lone : FnScope N_Lone (["_law_state", "_law_things"] : List Str) (defScope s_Lone) := ⟨rfl, rfl, rfl, by decide +kernel, rfl, by decide +kernel, by decide +kernel⟩
theorem cal_Lone {k : Nat} {sp : Sp} (T : Txt w K mg) (h : ∀ f fd, FunD K "_law_one" "_law_one" (defArgs s_Lone) (defBody s_Lone) (defScope s_Lone) [] [] f fd → FnOk P w K mg base CX0 k f fd (["_law_state", "_law_things"] : List Str) sp) : Cal P w K mg base k "_law_one" (["_law_state", "_law_things"] : List Str) sp := by
  obtain ⟨fd, F⟩ := T.s.t.d.def_ 41 (d := d_Lone) rfl
  exact ⟨_, fd, h _ fd F, T.g__law_one, F.kp, F.bindsN fun _ _ _ _ _ _ us hl => match us, hl with | [_, _], _ => rfl⟩
abbrev N_Lmix : List Str := (["_law_state", "_law_things", "_law_left", "_law_found"] : List Str)
theorem sc_Lmix : FnScope N_Lmix (["_law_state", "_law_things"] : List Str) (defScope s_Lmix) := ⟨rfl, rfl, rfl, by decide +kernel, rfl, by decide +kernel, by decide +kernel⟩
theorem cal_Lmix {k : Nat} {sp : Sp} (T : Txt w K mg) (h : ∀ f fd, FunD K "_law_mix" "_law_mix" (defArgs s_Lmix) (defBody s_Lmix) (defScope s_Lmix) [] [] f fd → FnOk P w K mg base CX0 k f fd (["_law_state", "_law_things"] : List Str) sp) : Cal P w K mg base k "_law_mix" (["_law_state", "_law_things"] : List Str) sp := by
  obtain ⟨fd, F⟩ := T.s.t.d.def_ 42 (d := d_Lmix) rfl
  exact ⟨_, fd, h _ fd F, T.g__law_mix, F.kp, F.bindsN fun _ _ _ _ _ _ us hl => match us, hl with | [_, _], _ => rfl⟩
abbrev N_Lsame : List Str := (["_law_found", "_law_due", "_law_a", "_law_b"] : List Str)
theorem sc_Lsame : FnScope N_Lsame (["_law_found", "_law_due"] : List Str) (defScope s_Lsame) := ⟨rfl, rfl, rfl, by decide +kernel, rfl, by decide +kernel, by decide +kernel⟩
theorem cal_Lsame {k : Nat} {sp : Sp} (T : Txt w K mg) (h : ∀ f fd, FunD K "_law_same" "_law_same" (defArgs s_Lsame) (defBody s_Lsame) (defScope s_Lsame) [] [] f fd → FnOk P w K mg base CX0 k f fd (["_law_found", "_law_due"] : List Str) sp) : Cal P w K mg base k "_law_same" (["_law_found", "_law_due"] : List Str) sp := by
  obtain ⟨fd, F⟩ := T.s.t.d.def_ 43 (d := d_Lsame) rfl
  exact ⟨_, fd, h _ fd F, T.g__law_same, F.kp, F.bindsN fun _ _ _ _ _ _ us hl => match us, hl with | [_, _], _ => rfl⟩
abbrev N_Lall_words : List Str := (["_law_found", "_law_x", "_law_y"] : List Str)
theorem sc_Lall_words : FnScope N_Lall_words ([] : List Str) (defScope s_Lall_words) := ⟨rfl, rfl, rfl, by decide +kernel, rfl, by decide +kernel, by decide +kernel⟩
theorem cal_Lall_words {k : Nat} {sp : Sp} (T : Txt w K mg) (h : ∀ f fd, FunD K "_law_all_words" "_law_all_words" (defArgs s_Lall_words) (defBody s_Lall_words) (defScope s_Lall_words) [] [] f fd → FnOk P w K mg base CX0 k f fd ([] : List Str) sp) : Cal P w K mg base k "_law_all_words" ([] : List Str) sp := by
  obtain ⟨fd, F⟩ := T.s.t.d.def_ 44 (d := d_Lall_words) rfl
  exact ⟨_, fd, h _ fd F, T.g__law_all_words, F.kp, F.bindsN fun _ _ _ _ _ _ us hl => match us, hl with | [], _ => rfl⟩
abbrev N_Lsome_words : List Str := (["_law_state", "_law_many", "_law_left", "_law_found", "_law_k"] : List Str)
theorem sc_Lsome_words : FnScope N_Lsome_words (["_law_state", "_law_many"] : List Str) (defScope s_Lsome_words) := ⟨rfl, rfl, rfl, by decide +kernel, rfl, by decide +kernel, by decide +kernel⟩
theorem cal_Lsome_words {k : Nat} {sp : Sp} (T : Txt w K mg) (h : ∀ f fd, FunD K "_law_some_words" "_law_some_words" (defArgs s_Lsome_words) (defBody s_Lsome_words) (defScope s_Lsome_words) [] [] f fd → FnOk P w K mg base CX0 k f fd (["_law_state", "_law_many"] : List Str) sp) : Cal P w K mg base k "_law_some_words" (["_law_state", "_law_many"] : List Str) sp := by
  obtain ⟨fd, F⟩ := T.s.t.d.def_ 45 (d := d_Lsome_words) rfl
  exact ⟨_, fd, h _ fd F, T.g__law_some_words, F.kp, F.bindsN fun _ _ _ _ _ _ us hl => match us, hl with | [_, _], _ => rfl⟩
abbrev N_Lhanded : List Str := (["_law_state", "_law_things"] : List Str)
theorem sc_Lhanded : FnScope N_Lhanded (["_law_state", "_law_things"] : List Str) (defScope s_Lhanded) := ⟨rfl, rfl, rfl, by decide +kernel, rfl, by decide +kernel, by decide +kernel⟩
theorem cal_Lhanded {k : Nat} {sp : Sp} (T : Txt w K mg) (h : ∀ f fd, FunD K "_law_handed" "_law_handed" (defArgs s_Lhanded) (defBody s_Lhanded) (defScope s_Lhanded) [] [] f fd → FnOk P w K mg base CX0 k f fd (["_law_state", "_law_things"] : List Str) sp) : Cal P w K mg base k "_law_handed" (["_law_state", "_law_things"] : List Str) sp := by
  obtain ⟨fd, F⟩ := T.s.t.d.def_ 46 (d := d_Lhanded) rfl
  exact ⟨_, fd, h _ fd F, T.g__law_handed, F.kp, F.bindsN fun _ _ _ _ _ _ us hl => match us, hl with | [_, _], _ => rfl⟩
abbrev N_Lkept : List Str := (["_law_state", "_law_many", "_law_wide", "_law_side", "_law_k"] : List Str)
theorem sc_Lkept : FnScope N_Lkept (["_law_state", "_law_many"] : List Str) (defScope s_Lkept) := ⟨rfl, rfl, rfl, by decide +kernel, rfl, by decide +kernel, by decide +kernel⟩
theorem cal_Lkept {k : Nat} {sp : Sp} (T : Txt w K mg) (h : ∀ f fd, FunD K "_law_kept" "_law_kept" (defArgs s_Lkept) (defBody s_Lkept) (defScope s_Lkept) [] [] f fd → FnOk P w K mg base CX0 k f fd (["_law_state", "_law_many"] : List Str) sp) : Cal P w K mg base k "_law_kept" (["_law_state", "_law_many"] : List Str) sp := by
  obtain ⟨fd, F⟩ := T.s.t.d.def_ 47 (d := d_Lkept) rfl
  exact ⟨_, fd, h _ fd F, T.g__law_kept, F.kp, F.bindsN fun _ _ _ _ _ _ us hl => match us, hl with | [_, _], _ => rfl⟩
abbrev N_Lbase : List Str := (["_law_state", "_law_many", "_law_rows"] : List Str)
theorem sc_Lbase : FnScope N_Lbase (["_law_state", "_law_many"] : List Str) (defScope s_Lbase) := ⟨rfl, rfl, rfl, by decide +kernel, rfl, by decide +kernel, by decide +kernel⟩
theorem cal_Lbase {k : Nat} {sp : Sp} (T : Txt w K mg) (h : ∀ f fd, FunD K "_law_base" "_law_base" (defArgs s_Lbase) (defBody s_Lbase) (defScope s_Lbase) [] [] f fd → FnOk P w K mg base CX0 k f fd (["_law_state", "_law_many"] : List Str) sp) : Cal P w K mg base k "_law_base" (["_law_state", "_law_many"] : List Str) sp := by
  obtain ⟨fd, F⟩ := T.s.t.d.def_ 48 (d := d_Lbase) rfl
  exact ⟨_, fd, h _ fd F, T.g__law_base, F.kp, F.bindsN fun _ _ _ _ _ _ us hl => match us, hl with | [_, _], _ => rfl⟩
abbrev N_Ledition : List Str := (["_law_base_here", "_law_rows", "_law_numbers", "_law_k"] : List Str)
theorem sc_Ledition : FnScope N_Ledition (["_law_base_here", "_law_rows", "_law_numbers"] : List Str) (defScope s_Ledition) := ⟨rfl, rfl, rfl, by decide +kernel, rfl, by decide +kernel, by decide +kernel⟩
theorem cal_Ledition {k : Nat} {sp : Sp} (T : Txt w K mg) (h : ∀ f fd, FunD K "_law_edition" "_law_edition" (defArgs s_Ledition) (defBody s_Ledition) (defScope s_Ledition) [] [] f fd → FnOk P w K mg base CX0 k f fd (["_law_base_here", "_law_rows", "_law_numbers"] : List Str) sp) : Cal P w K mg base k "_law_edition" (["_law_base_here", "_law_rows", "_law_numbers"] : List Str) sp := by
  obtain ⟨fd, F⟩ := T.s.t.d.def_ 49 (d := d_Ledition) rfl
  exact ⟨_, fd, h _ fd F, T.g__law_edition, F.kp, F.bindsN fun _ _ _ _ _ _ us hl => match us, hl with | [_, _, _], _ => rfl⟩
abbrev N_Lkernels : List Str := (["_law_numbers", "_law_many", "_law_found", "_law_k"] : List Str)
theorem sc_Lkernels : FnScope N_Lkernels (["_law_numbers", "_law_many"] : List Str) (defScope s_Lkernels) := ⟨rfl, rfl, rfl, by decide +kernel, rfl, by decide +kernel, by decide +kernel⟩
theorem cal_Lkernels {k : Nat} {sp : Sp} (T : Txt w K mg) (h : ∀ f fd, FunD K "_law_kernels" "_law_kernels" (defArgs s_Lkernels) (defBody s_Lkernels) (defScope s_Lkernels) [] [] f fd → FnOk P w K mg base CX0 k f fd (["_law_numbers", "_law_many"] : List Str) sp) : Cal P w K mg base k "_law_kernels" (["_law_numbers", "_law_many"] : List Str) sp := by
  obtain ⟨fd, F⟩ := T.s.t.d.def_ 50 (d := d_Lkernels) rfl
  exact ⟨_, fd, h _ fd F, T.g__law_kernels, F.kp, F.bindsN fun _ _ _ _ _ _ us hl => match us, hl with | [_, _], _ => rfl⟩
abbrev N_Lparts : List Str := (["_law_found"] : List Str)
theorem sc_Lparts : FnScope N_Lparts ([] : List Str) (defScope s_Lparts) := ⟨rfl, rfl, rfl, by decide +kernel, rfl, by decide +kernel, by decide +kernel⟩
theorem cal_Lparts {k : Nat} {sp : Sp} (T : Txt w K mg) (h : ∀ f fd, FunD K "_law_parts" "_law_parts" (defArgs s_Lparts) (defBody s_Lparts) (defScope s_Lparts) [] [] f fd → FnOk P w K mg base CX0 k f fd ([] : List Str) sp) : Cal P w K mg base k "_law_parts" ([] : List Str) sp := by
  obtain ⟨fd, F⟩ := T.s.t.d.def_ 51 (d := d_Lparts) rfl
  exact ⟨_, fd, h _ fd F, T.g__law_parts, F.kp, F.bindsN fun _ _ _ _ _ _ us hl => match us, hl with | [], _ => rfl⟩
abbrev N_Lfield : List Str := (["_law_state", "_law_called", "_law_some"] : List Str)
theorem sc_Lfield : FnScope N_Lfield (["_law_state", "_law_called"] : List Str) (defScope s_Lfield) := ⟨rfl, rfl, rfl, by decide +kernel, rfl, by decide +kernel, by decide +kernel⟩
theorem cal_Lfield {k : Nat} {sp : Sp} (T : Txt w K mg) (h : ∀ f fd, FunD K "_law_field" "_law_field" (defArgs s_Lfield) (defBody s_Lfield) (defScope s_Lfield) [] [] f fd → FnOk P w K mg base CX0 k f fd (["_law_state", "_law_called"] : List Str) sp) : Cal P w K mg base k "_law_field" (["_law_state", "_law_called"] : List Str) sp := by
  obtain ⟨fd, F⟩ := T.s.t.d.def_ 52 (d := d_Lfield) rfl
  exact ⟨_, fd, h _ fd F, T.g__law_field, F.kp, F.bindsN fun _ _ _ _ _ _ us hl => match us, hl with | [_, _], _ => rfl⟩
abbrev N_Lsetting : List Str := (["_law_state", "_law_size", "_law_many", "_law_rows", "_law_base_here", "_law_twin", "_law_some", "_law_made", "_law_k", "_law_numbers"] : List Str)
theorem sc_Lsetting : FnScope N_Lsetting (["_law_state", "_law_size"] : List Str) (defScope s_Lsetting) := ⟨rfl, rfl, rfl, by decide +kernel, rfl, by decide +kernel, by decide +kernel⟩
theorem cal_Lsetting {k : Nat} {sp : Sp} (T : Txt w K mg) (h : ∀ f fd, FunD K "_law_setting" "_law_setting" (defArgs s_Lsetting) (defBody s_Lsetting) (defScope s_Lsetting) [] [] f fd → FnOk P w K mg base CX0 k f fd (["_law_state", "_law_size"] : List Str) sp) : Cal P w K mg base k "_law_setting" (["_law_state", "_law_size"] : List Str) sp := by
  obtain ⟨fd, F⟩ := T.s.t.d.def_ 53 (d := d_Lsetting) rfl
  exact ⟨_, fd, h _ fd F, T.g__law_setting, F.kp, F.bindsN fun _ _ _ _ _ _ us hl => match us, hl with | [_, _], _ => rfl⟩
abbrev N_Lplain_deed : List Str := (["_law_state", "_law_played_places", "_law_floors", "_law_words", "_law_word", "_law_k", "_law_spot", "_law_some", "_law_far", "_law_x"] : List Str)
theorem sc_Lplain_deed : FnScope N_Lplain_deed (["_law_state", "_law_played_places", "_law_floors", "_law_words"] : List Str) (defScope s_Lplain_deed) := ⟨rfl, rfl, rfl, by decide +kernel, rfl, by decide +kernel, by decide +kernel⟩
theorem cal_Lplain_deed {k : Nat} {sp : Sp} (T : Txt w K mg) (h : ∀ f fd, FunD K "_law_plain_deed" "_law_plain_deed" (defArgs s_Lplain_deed) (defBody s_Lplain_deed) (defScope s_Lplain_deed) [] [] f fd → FnOk P w K mg base CX0 k f fd (["_law_state", "_law_played_places", "_law_floors", "_law_words"] : List Str) sp) : Cal P w K mg base k "_law_plain_deed" (["_law_state", "_law_played_places", "_law_floors", "_law_words"] : List Str) sp := by
  obtain ⟨fd, F⟩ := T.s.t.d.def_ 54 (d := d_Lplain_deed) rfl
  exact ⟨_, fd, h _ fd F, T.g__law_plain_deed, F.kp, F.bindsN fun _ _ _ _ _ _ us hl => match us, hl with | [_, _, _, _], _ => rfl⟩
abbrev N_Lplain_run : List Str := (["_law_state", "_law_made", "_law_there", "_law_floors", "_law_many", "_law_deeds", "_law_told", "_law_words", "_law_k", "_law_spots"] : List Str)
theorem sc_Lplain_run : FnScope N_Lplain_run (["_law_state", "_law_made", "_law_there", "_law_floors", "_law_many"] : List Str) (defScope s_Lplain_run) := ⟨rfl, rfl, rfl, by decide +kernel, rfl, by decide +kernel, by decide +kernel⟩
theorem cal_Lplain_run {k : Nat} {sp : Sp} (T : Txt w K mg) (h : ∀ f fd, FunD K "_law_plain_run" "_law_plain_run" (defArgs s_Lplain_run) (defBody s_Lplain_run) (defScope s_Lplain_run) [] [] f fd → FnOk P w K mg base CX0 k f fd (["_law_state", "_law_made", "_law_there", "_law_floors", "_law_many"] : List Str) sp) : Cal P w K mg base k "_law_plain_run" (["_law_state", "_law_made", "_law_there", "_law_floors", "_law_many"] : List Str) sp := by
  obtain ⟨fd, F⟩ := T.s.t.d.def_ 55 (d := d_Lplain_run) rfl
  exact ⟨_, fd, h _ fd F, T.g__law_plain_run, F.kp, F.bindsN fun _ _ _ _ _ _ us hl => match us, hl with | [_, _, _, _, _], _ => rfl⟩
abbrev N_Lpicked : List Str := (["_law_told", "_law_numbers", "_law_places", "_law_marks", "_law_mark", "_law_n"] : List Str)
theorem sc_Lpicked : FnScope N_Lpicked (["_law_told", "_law_numbers"] : List Str) (defScope s_Lpicked) := ⟨rfl, rfl, rfl, by decide +kernel, rfl, by decide +kernel, by decide +kernel⟩
theorem cal_Lpicked {k : Nat} {sp : Sp} (T : Txt w K mg) (h : ∀ f fd, FunD K "_law_picked" "_law_picked" (defArgs s_Lpicked) (defBody s_Lpicked) (defScope s_Lpicked) [] [] f fd → FnOk P w K mg base CX0 k f fd (["_law_told", "_law_numbers"] : List Str) sp) : Cal P w K mg base k "_law_picked" (["_law_told", "_law_numbers"] : List Str) sp := by
  obtain ⟨fd, F⟩ := T.s.t.d.def_ 56 (d := d_Lpicked) rfl
  exact ⟨_, fd, h _ fd F, T.g__law_picked, F.kp, F.bindsN fun _ _ _ _ _ _ us hl => match us, hl with | [_, _], _ => rfl⟩
abbrev N_Lless_right : List Str := (["_law_made", "_law_there", "_law_deeds", "_law_told", "_law_due", "_law_numbers", "_law_rows", "_law_less", "_law_found", "_law_n", "_law_pair", "_law_k", "_law_word"] : List Str)
theorem sc_Lless_right : FnScope N_Lless_right (["_law_made", "_law_there", "_law_deeds", "_law_told", "_law_due", "_law_numbers"] : List Str) (defScope s_Lless_right) := ⟨rfl, rfl, rfl, by decide +kernel, rfl, by decide +kernel, by decide +kernel⟩
theorem cal_Lless_right {k : Nat} {sp : Sp} (T : Txt w K mg) (h : ∀ f fd, FunD K "_law_less_right" "_law_less_right" (defArgs s_Lless_right) (defBody s_Lless_right) (defScope s_Lless_right) [] [] f fd → FnOk P w K mg base CX0 k f fd (["_law_made", "_law_there", "_law_deeds", "_law_told", "_law_due", "_law_numbers"] : List Str) sp) : Cal P w K mg base k "_law_less_right" (["_law_made", "_law_there", "_law_deeds", "_law_told", "_law_due", "_law_numbers"] : List Str) sp := by
  obtain ⟨fd, F⟩ := T.s.t.d.def_ 57 (d := d_Lless_right) rfl
  exact ⟨_, fd, h _ fd F, T.g__law_less_right, F.kp, F.bindsN fun _ _ _ _ _ _ us hl => match us, hl with | [_, _, _, _, _, _], _ => rfl⟩
abbrev N_Lrenamed : List Str := (["_law_rows", "_law_shown", "_law_names", "_law_called", "_law_name", "_law_row"] : List Str)
theorem sc_Lrenamed : FnScope N_Lrenamed (["_law_rows", "_law_shown"] : List Str) (defScope s_Lrenamed) := ⟨rfl, rfl, rfl, by decide +kernel, rfl, by decide +kernel, by decide +kernel⟩
theorem cal_Lrenamed {k : Nat} {sp : Sp} (T : Txt w K mg) (h : ∀ f fd, FunD K "_law_renamed" "_law_renamed" (defArgs s_Lrenamed) (defBody s_Lrenamed) (defScope s_Lrenamed) [] [] f fd → FnOk P w K mg base CX0 k f fd (["_law_rows", "_law_shown"] : List Str) sp) : Cal P w K mg base k "_law_renamed" (["_law_rows", "_law_shown"] : List Str) sp := by
  obtain ⟨fd, F⟩ := T.s.t.d.def_ 58 (d := d_Lrenamed) rfl
  exact ⟨_, fd, h _ fd F, T.g__law_renamed, F.kp, F.bindsN fun _ _ _ _ _ _ us hl => match us, hl with | [_, _], _ => rfl⟩
abbrev N_law : List Str := (["_law_script", "_law_state", "_law_turn", "_law_names", "_law_rows", "_law_at", "_law_made", "_law_there", "_law_floors", "_law_deeds", "_law_told", "_law_due", "_law_others", "_law_lost", "_law_alone", "_law_found", "_law_other", "_law_called", "_law_n", "_law_k", "_law_word", "_law_some"] : List Str)
theorem sc_law : FnScope N_law (["_law_script"] : List Str) (defScope s_law) := ⟨rfl, rfl, rfl, by decide +kernel, rfl, by decide +kernel, by decide +kernel⟩
theorem cal_law {k : Nat} {sp : Sp} (T : Txt w K mg) (h : ∀ f fd, FunD K "law" "law" (defArgs s_law) (defBody s_law) (defScope s_law) [] [] f fd → FnOk P w K mg base CX0 k f fd (["_law_script"] : List Str) sp) : Cal P w K mg base k "law" (["_law_script"] : List Str) sp := by
  obtain ⟨fd, F⟩ := T.s.t.d.def_ 59 (d := d_law) rfl
  exact ⟨_, fd, h _ fd F, T.g_law, F.kp, F.bindsN fun _ _ _ _ _ _ us hl => match us, hl with | [_], _ => rfl⟩
end
end Lf

/-! more rules -/
namespace Lf
open PySem PySem.Spec PyProof.Rows L2
section
variable {K : PySem.W.Frag} {M : Mode K} {G : List (Option Dt)}
theorem rv_inSign {c : Nat} {z : Str} : Rv M (fun x y H Q => ∃ (c : Nat) (z : Str), x = .str ⟨#[c]⟩ ∧ y = .str z ∧ Q (.bl (decide (c ∈ z.cps.toList))) H) (.str ⟨#[c]⟩) (.str z) (· = .bl (decide (c ∈ z.cps.toList))) := fun x y H Q ok hx hy k =>
  ⟨c, z, hx, hy, k _ _ H (M.refl H) rfl rfl⟩
theorem rc_allD {ds : List Dt} {c : Dt → Bool} : Rc M (rAll K) [.lst (ds.map fun d => .bl (c d))] (· = .bl (ds.all c)) := by
  have e : ds.map (fun d => Dt.bl (c d)) = (ds.map c).map Dt.bl := by rw [List.map_map]; rfl
  have e2 : ds.all c = (ds.map c).all id := by
    induction ds with
    | nil => rfl
    | cons d ds ih => rw [List.all_cons, List.map_cons, List.all_cons, ih (by rw [List.map_map]; rfl)]; rfl
  rw [e, e2]
  exact rc_all
/-- a comprehension whose target is a name -/
theorem x_lcN {wi : TI} {te : TE} {vs : List Nat} {ds : List Dt} {j : Nat} (f : Dt → Dt) (hi : Xj M G wi ds)
    (he : ∀ (i : Nat) (d : Dt) (p : Addr) (acc : List Dt), ds[i]? = some d → Xd (M.bld p acc) ((wipeG G vs).set j (some d)) te (f d)) (hj : j ∈ vs := by simp) (hz : ds.length ≤ 40000 := by first | decide | assumption | omega | (simp; omega)) : Xd M G (tLc wi (gName j) tYes te vs) (.lst (ds.map f)) :=
  x_lcMap (G' := fun d => (wipeG G vs).set j (some d)) (js := [j]) f hi (fun i d _ p acc => xg_name) (fun k hk => by rw [List.mem_singleton.mp hk]; exact hj) he hz
theorem x_lcNIf {wi : TI} {tt : TT} {te : TE} {vs : List Nat} {ds : List Dt} {j : Nat} (f : Dt → Dt) (c : Dt → Bool) (hi : Xj M G wi ds)
    (ht : ∀ (i : Nat) (d : Dt) (p : Addr) (acc : List Dt), ds[i]? = some d → Xb (M.bld p acc) ((wipeG G vs).set j (some d)) tt (c d))
    (he : ∀ (i : Nat) (d : Dt) (p : Addr) (acc : List Dt), ds[i]? = some d → c d = true → Xd (M.bld p acc) ((wipeG G vs).set j (some d)) te (f d)) (hj : j ∈ vs := by simp) (hz : ds.length ≤ 40000 := by first | decide | assumption | omega | (simp; omega)) : Xd M G (tLc wi (gName j) tt te vs) (.lst ((ds.filter c).map f)) :=
  x_lcIf (G' := fun d => (wipeG G vs).set j (some d)) (js := [j]) f c hi (fun i d _ p acc => xg_name) (fun k hk => by rw [List.mem_singleton.mp hk]; exact hj) ht he hz
/-- two names, from pairs -/
theorem xg_two {i j : Nat} {a b : Dt} : Xg M G (gTup K 2 (gCons (gName i) (gCons (gName j) gNil))) (.tup [a, b]) ((G.set i (some a)).set j (some b)) [i, j] :=
  xg_tup (xgs_cons xg_name (xgs_cons xg_name xgs_nil)) rfl
theorem xg_three {i j l : Nat} {a b c : Dt} : Xg M G (gTup K 3 (gCons (gName i) (gCons (gName j) (gCons (gName l) gNil)))) (.tup [a, b, c]) (((G.set i (some a)).set j (some b)).set l (some c)) [i, j, l] :=
  xg_tup (xgs_cons xg_name (xgs_cons xg_name (xgs_cons xg_name xgs_nil))) rfl
end
end Lf

/-! enumerate over a tuple, zip of a tuple and a list -/
namespace Lf
open PySem PySem.Spec PyProof.Rows L2
abbrev enumCell (a : Addr) : Obj := { cls := .type "enumerate", data := .fields #[.none, .bool false, .ref a, rawInt 0, .none, .none] }
theorem meets_enumB {v : Value} {o : Obj} {Hq : Heap → Prop} (Bg : Begins v o Hq) :
    Meets (Builtin.«enumerate.__new__» ⟨[.type "enumerate", v], []⟩) (fun _ R s => Hq s.heap ∧ R (.ok (.ret (.ref (s.heap.push o).objs.size))) { s with heap := (s.heap.push o).push (enumCell s.heap.objs.size) }) :=
  .of_wp fun prog w A R s hyp => by
    obtain ⟨hp, gn, dr, tk, oo⟩ := s
    obtain ⟨hA, hyp⟩ := hyp
    have hS := sub_enumerate
    have begun : ∀ {A' : Around} {E : Value → Shared → Prop} {Q : Value → Shared → Prop}, Q (.ref hp.objs.size) ⟨hp.push o, gn, dr, tk, oo⟩ → wpAny (model prog w) A' (pyIter v) Q E ⟨hp, gn, dr, tk, oo⟩ :=
      fun z => Bg.iter prog w _ _ ⟨hp, gn, dr, tk, oo⟩ _ hA z
    wp_walk using begun
    refine wpAny_stack_any fun sk => wpAny_pure ?_
    split
    · rename_i cl _ _ _ _ _
      cases (cl == Value.type "enumerate") <;> (wp_walk using begun; exact ⟨_, rfl, hyp⟩)
    · wp_walk using begun
      exact ⟨_, rfl, hyp⟩
section
variable {prog : Program} {w : World} {A : Around} {E : Value → Shared → Prop} {s : Shared}
theorem call_enumB {v : Value} {o : Obj} {Hq : Heap → Prop} {Q : Value → Shared → Prop} (Bg : Begins v o Hq) (hA : Hq s.heap)
    (hQ : ∀ h', IsEnum h' (s.heap.objs.size + 1) s.heap.objs.size 0 .none → h'.get? s.heap.objs.size = some o → (∀ b u, s.heap.get? b = some u → h'.get? b = some u) → Q (.ref (s.heap.objs.size + 1)) { s with heap := h' }) :
    wpAny (model prog w) A (call (.type "enumerate") [v]) Q E s := by
  have sz : (s.heap.push o).objs.size = s.heap.objs.size + 1 := Heap.size_push ..
  have en : IsEnum ((s.heap.push o).push (enumCell s.heap.objs.size)) (s.heap.objs.size + 1) s.heap.objs.size 0 .none := by
    have z := Heap.get?_push_size (s.heap.push o) (o := enumCell s.heap.objs.size) rfl
    rw [sz] at z
    exact z
  have fin := hQ _ en (Heap.get?_push_of_some _ (Heap.get?_push_size _ Bg.free)) fun b u e => Heap.get?_push_of_some _ (Heap.get?_push_of_some _ e)
  refine callType_new F.called_enumerate (by decide) (F.typeCall_enumerate_1 _) (F.newCall_enumerate_1 _) (fun ob => F.args_object_init_2 ob _) F.entry_enumerate_new (meets_enumB Bg) ⟨hA, ?_⟩
  show _ ∧ _
  rw [sz]
  exact ⟨⟨_, en, rfl⟩, fin⟩
end
/-- (i, item) of the tuple at a -/
def IteT (K : PySem.W.Frag) (a : Addr) : It :=
  ⟨fun i H => ∃ xs x, SqT K H a xs ∧ xs[i]? = some x, fun i H v H' => ∃ T x, v = .ref T ∧ H T = none ∧ H' = upd H T (.tup [.int (i : Nat), x]) ∧ ∀ xs, SqT K H a xs → xs[i]? = some x,
    fun i H => ∃ xs, SqT K H a xs ∧ xs.length = i⟩
theorem tupIt_ne {h : Heap} {it a : Addr} {i : Nat} {its : Array Value} (h1 : h.IsTupleIter it a i) (h2 : h.IsTuple a its) : a ≠ it := fun z => by
  subst z
  obtain ⟨o, e, c, _⟩ := h1
  obtain ⟨o', e', c', _⟩ := h2
  rw [e] at e'
  cases e'
  rw [c] at c'
  injection c' with c'
  exact absurd c' (by decide)
theorem lstIt_ne {h : Heap} {it a : Addr} {i : Nat} {its : Array Value} (h1 : h.IsListIter it a i) (h2 : h.IsList a its) : a ≠ it := fun z => by
  subst z
  obtain ⟨o, e, c, _⟩ := h1
  obtain ⟨o', e', c', _⟩ := h2
  rw [e] at e'
  cases e'
  rw [c] at c'
  injection c' with c'
  exact absurd c' (by decide)
theorem turn_enumT {P : Program} {w : World} {K : PySem.W.Frag} {el : List Expr} {kx : Nat} {tp : Pos} (a e it : Addr) :
    Turn P w K (.Tuple el kx tp) (IteT K a) [e, it] e (fun i h => (∃ old, IsEnum h e it ((i : Nat) : Int) old) ∧ h.IsTupleIter it a i ∧ e ≠ it) where
  mem := List.mem_cons_self
  obj := fun i h st b hb => by
    obtain ⟨⟨old, h1⟩, ⟨o, h2, _, h3⟩, _⟩ := st
    rcases List.mem_cons.mp hb with z | z
    · rw [z]
      exact ⟨_, h1, fun v q => nomatch q⟩
    · rw [List.mem_singleton.mp z]
      exact ⟨o, h2, fun v q => by rw [h3] at q; cases q⟩
  keep := fun i h h' st k => by
    obtain ⟨⟨old, h1⟩, h2, h3⟩ := st
    exact ⟨⟨old, k e List.mem_cons_self _ h1⟩, h2.at fun o q => k it (by simp) o q, h3⟩
  item := by
    intro X hP hw hK hc i pins s σ H E I hf st hg
    cases hP
    cases hw
    cases hK
    obtain ⟨⟨old, h1⟩, h2, ne⟩ := st
    obtain ⟨xs, x, hq, hx⟩ := hg
    obtain ⟨its, rv, p, hz⟩ := I.tuple hq
    obtain ⟨u, hu, ru⟩ := rv.get hx
    have na := tupIt_ne h2 p
    have le : e < s.heap.objs.size := Heap.lt_size h1
    have li : it < s.heap.objs.size := by
      obtain ⟨_, q, _⟩ := h2
      exact Heap.lt_size q
    have nea : e ≠ a := fun z => by
      obtain ⟨o', e', c', _⟩ := p
      rw [← z] at e'
      rw [show s.heap.get? e = _ from h1] at e'
      cases e'
      injection c' with c'
      exact absurd c' (by decide)
    have lt : i < its.toArray.size := by
      obtain ⟨z, _⟩ := List.getElem?_eq_some_iff.mp hu
      simpa using z
    refine wpAny_pyNext_enum_itemD (Draws.tuple (A := X.A.in1) (I.ok.hd hc) it a na its.toArray) h1 ⟨h2, p⟩ lt ne (by simp only [List.mem_cons, List.not_mem_nil, or_false, not_or]; exact ⟨ne, nea⟩) fun y h' tk py ho st' hT hsz hk => ?_
    have ey : y = u := by
      have z : its.toArray[i]? = some y := py
      rw [show its.toArray[i]? = its[i]? by simp, hu] at z
      exact (Option.some.inj z).symm
    subst ey
    refine ⟨_, rfl, wpAny_letOwnedTupleGo_enum (s := { s with heap := h', toks := tk + 1 }) ho fun h2' he' sb => ?_⟩
    have hT2 := (sb.2 _ (Nat.ne_of_gt le)).trans hT
    have laid : ObjOk X.prog X.w (upd H s.heap.objs.size (.tup [.int (i : Nat), x])) h2' s.heap.objs.size (.tup [.int (i : Nat), x]) :=
      ⟨show 2 ≤ sizeLine by decide, [.int i tk, y], .cons ⟨_, rfl⟩ (.cons ru .nil), ⟨_, hT2, rfl, _, rfl⟩⟩
    have I1 : Inv X pins σ (upd H s.heap.objs.size (.tup [.int (i : Nat), x])) { s with heap := h2', toks := tk + 1 } :=
      I.turnedNew (ch := [e, it]) (fun b ob hb q => (sb.2 b fun z => hb (by simp [z])).trans (hk b ob (fun z => hb (by simp [z])) (fun z => hb (by simp [z])) q)) hf (Nat.le_refl _) laid
    refine ⟨.ref s.heap.objs.size, _, I1, rfl, ⟨_, x, rfl, I.hok.fresh (Nat.le_refl _), rfl, fun ys hy => I.tuple_inj hy hq ▸ hx⟩, ⟨⟨y, ?_⟩, st'.1.at fun o q => (sb.2 it (Ne.symm ne)).trans q, ne⟩, fun b hb => ?_⟩
    · rw [Int.natCast_succ]
      exact he'
    · have lb : b < s.heap.objs.size := by
        rcases List.mem_cons.mp hb with z | z
        · exact z ▸ le
        · exact (List.mem_singleton.mp z) ▸ li
      rw [upd_ne (Nat.ne_of_lt lb)]
      exact (hf b hb).1
  done := by
    intro X hP hw hK hc i pins s σ H E I hf st hg
    cases hP
    cases hw
    cases hK
    obtain ⟨⟨old, h1⟩, h2, ne⟩ := st
    obtain ⟨xs, hq, hx⟩ := hg
    obtain ⟨its, rv, p, hz⟩ := I.tuple hq
    obtain ⟨f0, f1, f2, f3, f4, f5⟩ := hf it (by simp)
    have el : its.toArray.size = i := by
      rw [List.size_toArray, ← rv.length]
      exact hx
    refine wpAny_pyNext_enum_endD (Draws.tuple (A := X.A.in1) (I.ok.hd hc) it a (tupIt_ne h2 p) its.toArray) h1 ?_ fun h' eb => ⟨rfl, I.turned (t' := s.toks) (fun b o hb q => eb b o hb q) f0 f1 f3 f4 f5⟩
    rw [el]
    exact ⟨h2, p⟩
  self := fun A i s Q E st h => by
    obtain ⟨⟨_, h1⟩, _⟩ := st
    exact wpAny_pyIter_enum h1 h
/-- enumerate of a list or a tuple -/
def iEnumA (K : PySem.W.Frag) (ta : TA) : TI := fun σ H R => ta σ H fun vs H1 => ∃ a xs, vs = [.ref a] ∧ ((SqL K H1 a xs ∧ R (Ite K a) H1) ∨ (SqT K H1 a xs ∧ R (IteT K a) H1))
theorem pi_enumA {X : Cx} {e : Expr} {ta : TA} {p pos tp : Pos} {el : List Expr} {kx : Nat} (hg : Gl X "enumerate") (hm : X.mg "enumerate" = none) (ha : PA X [e] ta) (hs : starEach [e] X.env = [(false, eval e X.env)] := by rfl) :
    PI X (.Tuple el kx tp) (.Call (.Name "enumerate" p) [e] [] pos) (iEnumA X.K ta) := by
  refine ⟨fun pins s σ H R I hw => ?_⟩
  refine Call_ (ld_blt I hg hm boot_enumerate (PyProof.Rows.callWith_type1 (thn (ha.run pos pins s σ H _ I hw) fun us s1 ⟨vs, H1, I1, r1, q1⟩ => ?_) hs rfl))
  obtain ⟨a, xs, ex, q1⟩ := q1
  subst ex
  have one : ∃ u, us = [u] ∧ RelV (V.ref a) u := r1.one
  obtain ⟨u, eu, ru⟩ := one
  subst eu
  cases ru
  have new : ∀ b ∈ [s1.heap.objs.size + 1, s1.heap.objs.size], FpOk X pins H1 b := fun b hb => by
    have hle : s1.heap.objs.size ≤ b := by
      rcases List.mem_cons.mp hb with z | z
      · omega
      · rw [List.mem_singleton.mp z]
        exact Nat.le_refl _
    exact I1.fpOk hle (I1.hok.fresh hle)
  rcases q1 with ⟨hq, q⟩ | ⟨hq, q⟩
  · obtain ⟨its, rv, p', hz⟩ := I1.list hq
    refine call_enumB (begins_list a its.toArray) p'.isList fun h' he hit hk => wpAny_pyIter_enum he ?_
    exact ⟨_, _, _, _, H1, rfl, I1.kept (t' := s1.toks) hk, turn_enum a (s1.heap.objs.size + 1) s1.heap.objs.size, ⟨⟨.none, he⟩, ⟨_, hit, rfl, rfl⟩, Nat.succ_ne_self _⟩, new, q⟩
  · obtain ⟨its, rv, p', hz⟩ := I1.tuple hq
    refine call_enumB (begins_tuple a its.toArray) p' fun h' he hit hk => wpAny_pyIter_enum he ?_
    exact ⟨_, _, _, _, H1, rfl, I1.kept (t' := s1.toks) hk, turn_enumT a (s1.heap.objs.size + 1) s1.heap.objs.size, ⟨⟨.none, he⟩, ⟨_, hit, rfl, rfl⟩, Nat.succ_ne_self _⟩, new, q⟩

/-! ### zip(a tuple, a list) -/
def ItzX (K : PySem.W.Frag) (a b : Addr) : It :=
  ⟨fun i H => ∃ (xs ys : List V) (x y : V), SqT K H a xs ∧ SqL K H b ys ∧ xs[i]? = some x ∧ ys[i]? = some y,
    fun i H v H' => ∃ T x y, v = .ref T ∧ H T = none ∧ H' = upd H T (.tup [x, y]) ∧ (∀ xs, SqT K H a xs → xs[i]? = some x) ∧ ∀ ys, SqL K H b ys → ys[i]? = some y,
    fun i H => ∃ xs ys : List V, SqT K H a xs ∧ SqL K H b ys ∧ xs.length = i ∧ ys.length = i⟩
theorem turn_zipX {P : Program} {w : World} {K : PySem.W.Frag} {el : List Expr} {kx : Nat} {tp : Pos} {a b z TI TO i1 i2 : Addr} (d1 : TI ≠ z) (d2 : TO ≠ z) (d3 : TI ≠ TO) (d4 : TI ≠ i1) (d5 : TI ≠ i2) (d6 : z ≠ i1) (d7 : z ≠ i2) (d8 : TO ≠ i1) (d9 : TO ≠ i2) (d10 : i1 ≠ i2)
    (ea : ∀ c ∈ [z, TI, TO, i1, i2], c ≠ a ∧ c ≠ b) :
    Turn P w K (.Tuple el kx tp) (ItzX K a b) [z, TI, TO, i1, i2] z (fun i h => IsZip h z TI TO .none ∧ IsTupOf2 h TI (.ref i1) (.ref i2) ∧ (∃ x y, IsTupOf2 h TO x y) ∧ h.IsTupleIter i1 a i ∧ h.IsListIter i2 b i) := by
  have S : ZipSep2 z TI TO i1 i2 [i1, a] [i2, b] := by
    have a1 := ea z (by simp)
    have a2 := ea TO (by simp)
    have a3 := ea i1 (by simp)
    have a4 := ea i2 (by simp)
    refine ⟨d1, d2, d3, d4, by simp, ?_, ?_, d5, by simp, ?_, ?_, ?_, ?_⟩ <;> simp only [List.mem_cons, List.not_mem_nil, or_false, not_or]
    · exact ⟨d6, a1.1⟩
    · exact ⟨d8, a2.1⟩
    · exact ⟨d7, a1.2⟩
    · exact ⟨d9, a2.2⟩
    · exact ⟨d10, a3.2⟩
    · exact ⟨d10.symm, a4.1⟩
  refine ⟨by simp, fun i h st c hc => ?_, fun i h h' st k => ?_, ?_, ?_, fun A i s Q E st h => wpAny_pyIter_zip st.1 h⟩
  · obtain ⟨h1, h2, ⟨x, y, h3⟩, ⟨o1, e1, _, f1⟩, ⟨o2, e2, _, f2⟩⟩ := st
    have q : c = z ∨ c = TI ∨ c = TO ∨ c = i1 ∨ c = i2 := by simpa using hc
    rcases q with q | q | q | q | q
    · rw [q]; exact ⟨_, h1, fun v w => nomatch w⟩
    · rw [q]; exact ⟨_, h2, fun v w => nomatch w⟩
    · rw [q]; exact ⟨_, h3, fun v w => nomatch w⟩
    · rw [q]; exact ⟨o1, e1, fun v w => by rw [f1] at w; cases w⟩
    · rw [q]; exact ⟨o2, e2, fun v w => by rw [f2] at w; cases w⟩
  · obtain ⟨h1, h2, ⟨x, y, h3⟩, h4, h5⟩ := st
    exact ⟨k z (by simp) _ h1, k TI (by simp) _ h2, ⟨x, y, k TO (by simp) _ h3⟩, h4.at fun o q => k i1 (by simp) o q, h5.at fun o q => k i2 (by simp) o q⟩
  · intro X hP hw hK hc i pins s σ H E I hf st hg
    cases hP
    cases hw
    cases hK
    obtain ⟨h1, h2, ⟨x0, y0, h3⟩, h4, h5⟩ := st
    obtain ⟨xs, ys, x, y, qx, qy, hx, hy⟩ := hg
    obtain ⟨its, rv, p, _⟩ := I.tuple qx
    obtain ⟨its2, rv2, p2, _⟩ := I.list qy
    obtain ⟨u, hu, ru⟩ := rv.get hx
    obtain ⟨u2, hu2, ru2⟩ := rv2.get hy
    have lz : z < s.heap.objs.size := Heap.lt_size h1
    have lt1 : i < its.toArray.size := by
      obtain ⟨q, _⟩ := List.getElem?_eq_some_iff.mp hu
      simpa using q
    have lt2 : i < its2.toArray.size := by
      obtain ⟨q, _⟩ := List.getElem?_eq_some_iff.mp hu2
      simpa using q
    refine wpAny_pyNext_zipD2_item S (Draws.tuple (A := X.A.in1) (I.ok.hd hc) i1 a (Ne.symm (ea i1 (by simp)).1) its.toArray) (Draws.list (A := X.A.in1) (I.ok.hd hc) i2 b (Ne.symm (ea i2 (by simp)).2) its2.toArray) h1 h2 h3 ⟨h4, p⟩ ⟨h5, p2.isList⟩ lt1 lt2 fun y1 y2 h' tk p1 p2' z' TO' s1 s2 hT hsz hk => ?_
    have e1 : y1 = u := by
      have q : its.toArray[i]? = some y1 := p1
      rw [show its.toArray[i]? = its[i]? by simp, hu] at q
      exact (Option.some.inj q).symm
    have e2 : y2 = u2 := by
      have q : its2.toArray[i]? = some y2 := p2'
      rw [show its2.toArray[i]? = its2[i]? by simp, hu2] at q
      exact (Option.some.inj q).symm
    subst e1
    subst e2
    refine ⟨_, rfl, wpAny_letOwnedTupleGo_zip (s := { s with heap := h', toks := tk }) z' fun h2' z2 sb => ?_⟩
    have hT2 : h2'.get? s.heap.objs.size = some { cls := .type "tuple", data := .seq #[y1, y2] } := (sb.2 _ (Nat.ne_of_gt lz)).trans hT
    have laid : ObjOk X.prog X.w (upd H s.heap.objs.size (.tup [x, y])) h2' s.heap.objs.size (.tup [x, y]) := ⟨show 2 ≤ sizeLine by decide, [y1, y2], .cons ru (.cons ru2 .nil), ⟨_, hT2, rfl, _, rfl⟩⟩
    have I1 : Inv X pins σ (upd H s.heap.objs.size (.tup [x, y])) { s with heap := h2', toks := tk } :=
      I.turnedNew (ch := [z, TI, TO, i1, i2]) (fun c o nc q => (sb.2 c fun w => nc (by simp [w])).trans (hk c o (fun w => nc (by simp [w])) (fun w => nc (by simp [w])) (fun w => nc (by simp [w])) (fun w => nc (by simp [w])) q)) hf (Nat.le_refl _) laid
    refine ⟨.ref s.heap.objs.size, _, I1, rfl, ⟨_, x, y, rfl, I.hok.fresh (Nat.le_refl _), rfl, fun l hl => I.tuple_inj hl qx ▸ hx, fun l hl => I.list_inj hl qy ▸ hy⟩, ⟨z2, ?_, ⟨y1, y2, ?_⟩, ?_, ?_⟩, fun c hcm => ?_⟩
    · exact (sb.2 _ d1).trans (hk _ _ d1 d3 d4 d5 h2)
    · exact (sb.2 _ d2).trans TO'
    · exact s1.1.at fun o q => (sb.2 _ d6.symm).trans q
    · exact s2.1.at fun o q => (sb.2 _ d7.symm).trans q
    · have lc : c < s.heap.objs.size := by
        have q : c = z ∨ c = TI ∨ c = TO ∨ c = i1 ∨ c = i2 := by simpa using hcm
        rcases q with q | q | q | q | q
        · exact q ▸ lz
        · exact q ▸ Heap.lt_size h2
        · exact q ▸ Heap.lt_size h3
        · obtain ⟨_, e, _⟩ := h4
          exact q ▸ Heap.lt_size e
        · obtain ⟨_, e, _⟩ := h5
          exact q ▸ Heap.lt_size e
      rw [upd_ne (Nat.ne_of_lt lc)]
      exact (hf c hcm).1
  · intro X hP hw hK hc i pins s σ H E I hf st hg
    cases hP
    cases hw
    cases hK
    obtain ⟨h1, h2, ⟨x0, y0, h3⟩, h4, h5⟩ := st
    obtain ⟨xs, ys, qx, qy, e1, e2⟩ := hg
    obtain ⟨its, rv, p, _⟩ := I.tuple qx
    obtain ⟨its2, rv2, p2, _⟩ := I.list qy
    have l1 : its.toArray.size = i := by rw [List.size_toArray, ← rv.length, e1]
    have l2 : its2.toArray.size = i := by rw [List.size_toArray, ← rv2.length, e2]
    exact wpAny_pyNext_zipD2_end S (Draws.tuple (A := X.A.in1) (I.ok.hd hc) i1 a (Ne.symm (ea i1 (by simp)).1) its.toArray) (Draws.list (A := X.A.in1) (I.ok.hd hc) i2 b (Ne.symm (ea i2 (by simp)).2) its2.toArray) h1 h2 h3 ⟨h4, p⟩ ⟨h5, p2.isList⟩ (by omega) (by omega) (.inl l1.symm) fun h' tk hk => ⟨rfl,
      I.turnedL (t' := tk) (ch := [z, TI, TO, i1, i2]) (fun c o nc q => hk c o (fun w => nc (by simp [w])) (fun w => nc (by simp [w])) (fun w => nc (by simp [w])) (fun w => nc (by simp [w])) q) hf⟩
def iZipX (K : PySem.W.Frag) (ta : TA) : TI := fun σ H R => ta σ H fun vs H1 => ∃ a b xs ys, vs = [.ref a, .ref b] ∧ SqT K H1 a xs ∧ SqL K H1 b ys ∧ R (ItzX K a b) H1
theorem pi_zipX {X : Cx} {e e2 : Expr} {ta : TA} {p pos tp : Pos} {el : List Expr} {kx : Nat} (hg : Gl X "zip") (hm : X.mg "zip" = none) (ha : PA X [e, e2] ta)
    (hs : starEach [e, e2] X.env = (false, eval e X.env) :: starEach [e2] X.env := by rfl) (hpl : (backTo pos (starEach [e2] X.env)).any (·.1) = false := by rfl) :
    PI X (.Tuple el kx tp) (.Call (.Name "zip" p) [e, e2] [] pos) (iZipX X.K ta) := by
  refine ⟨fun pins s σ H R I hw => ?_⟩
  refine Call_ (ld_blt I hg hm PyProof.Rows.boot_zip (PyProof.Rows.callWith_type1 (thn (ha.run pos pins s σ H _ I hw) fun us s1 ⟨vs, H1, I1, r1, q1⟩ => ?_) hs hpl))
  obtain ⟨a, b, xs, ys, ex, qx, qy, q⟩ := q1
  subst ex
  cases r1 with
  | cons ra rr =>
    cases rr with
    | cons rb rr =>
      cases rr
      cases ra
      cases rb
      obtain ⟨its, rv, p1, _⟩ := I1.tuple qx
      obtain ⟨its2, rv2, p2, _⟩ := I1.list qy
      have la : a < s1.heap.objs.size := by
        obtain ⟨_, e, _⟩ := id p1
        exact Heap.lt_size e
      have lb : b < s1.heap.objs.size := p2.lt
      have ge : ∀ c ∈ [s1.heap.objs.size + 4, s1.heap.objs.size + 2, s1.heap.objs.size + 3, s1.heap.objs.size, s1.heap.objs.size + 1], s1.heap.objs.size ≤ c := fun c hc => by
        simp only [List.mem_cons, List.not_mem_nil, or_false] at hc
        omega
      refine zip_begins2 (begins_tuple a its.toArray) (begins_list b its2.toArray) p1 p2.isList fun h' z1 z2 z3 g1 g2 hsz hk => wpAny_pyIter_zip z1 ?_
      refine ⟨_, [s1.heap.objs.size + 4, s1.heap.objs.size + 2, s1.heap.objs.size + 3, s1.heap.objs.size, s1.heap.objs.size + 1], _, _, H1, rfl, I1.kept (t' := s1.toks) hk, turn_zipX (a := a) (b := b) (TI := s1.heap.objs.size + 2) (TO := s1.heap.objs.size + 3) (i1 := s1.heap.objs.size) (i2 := s1.heap.objs.size + 1) ?_ ?_ ?_ ?_ ?_ ?_ ?_ ?_ ?_ ?_ ?_, ⟨z1, z2, ⟨_, _, z3⟩, ⟨_, g1, rfl, rfl⟩, ⟨_, g2, rfl, rfl⟩⟩, fun c hc => I1.fpOk (ge c hc) (I1.hok.fresh (ge c hc)), q⟩
      all_goals first
        | exact Nat.ne_of_lt (by omega)
        | exact Nat.ne_of_gt (by omega)
        | exact fun c hc => ⟨Nat.ne_of_gt (Nat.lt_of_lt_of_le la (ge c hc)), Nat.ne_of_gt (Nat.lt_of_lt_of_le lb (ge c hc))⟩
end Lf

/-! walks of pairs, written dicts, lists that grow by lists, fresh lists -/
namespace Lf
open PySem PySem.Spec PyProof.Rows L2
section
variable {K : PySem.W.Frag} {M : Mode K} {G : List (Option Dt)}
/-! ### enumerate, zip -/
theorem wk_enumT {a : Addr} {n : Nat} : Walk (IteT K a) n (fun H => ∃ xs, H a = some (.tup xs) ∧ xs.length = n)
    (fun i H v H' => ∃ T x xs, v = .ref T ∧ H T = none ∧ H' = upd H T (.tup [.int (i : Nat), x]) ∧ H a = some (.tup xs) ∧ xs[i]? = some x) where
  goes := fun i H hi q => by
    obtain ⟨xs, h1, h2⟩ := q
    exact ⟨xs, xs[i]'(by omega), SqT.of h1, by simp [h2, hi]⟩
  stops := fun H q => by
    obtain ⟨xs, h1, h2⟩ := q
    exact ⟨xs, SqT.of h1, h2⟩
  yields := fun i H v H' _ q y => by
    obtain ⟨xs, h1, h2⟩ := q
    obtain ⟨T, x, e1, e2, e3, e4⟩ := y
    exact ⟨T, x, xs, e1, e2, e3, h1, e4 xs (SqT.of h1)⟩
theorem wd_enumL {a : Addr} {ds : List Dt} : WalkD K (Ite K a) (enumD 0 ds) [(.lst ds, .ref a)] := ⟨_, _, wk_enum, fun B H tr gh => by
  obtain ⟨ys, _, h1, h2⟩ := (gh _ (List.mem_singleton.mpr rfl)).lstOf
  refine ⟨⟨ys, h1, by rw [enumD_length, h2.length]⟩, fun i x H' hi y => ?_⟩
  obtain ⟨T, z, zs, e1, e2, e3, e4, e5⟩ := y
  rw [h1] at e4
  cases e4
  obtain ⟨d', g1, g2⟩ := h2.got e5
  rw [e3]
  exact ⟨Same.new e2, .tup [.int (i : Int), d'], by rw [enumD_get, g1, Nat.zero_add]; rfl, T, _, e1, fun b => tr T b e2, upd_same, _, _, rfl, rfl, _, _, rfl, g2.keep (Same.keep (Same.new e2)), rfl⟩⟩
theorem wd_enumT {a : Addr} {ds : List Dt} : WalkD K (IteT K a) (enumD 0 ds) [(.tup ds, .ref a)] := ⟨_, _, wk_enumT, fun B H tr gh => by
  obtain ⟨ys, _, h1, h2⟩ := (gh _ (List.mem_singleton.mpr rfl)).tupOf
  refine ⟨⟨ys, h1, by rw [enumD_length, h2.length]⟩, fun i x H' hi y => ?_⟩
  obtain ⟨T, z, zs, e1, e2, e3, e4, e5⟩ := y
  rw [h1] at e4
  cases e4
  obtain ⟨d', g1, g2⟩ := h2.got e5
  rw [e3]
  exact ⟨Same.new e2, .tup [.int (i : Int), d'], by rw [enumD_get, g1, Nat.zero_add]; rfl, T, _, e1, fun b => tr T b e2, upd_same, _, _, rfl, rfl, _, _, rfl, g2.keep (Same.keep (Same.new e2)), rfl⟩⟩
theorem xi_enumAL {te : TE} {ds : List Dt} (h : Xd M G te (.lst ds)) : Xi M G (iEnumA K (tCons te tNil)) (enumD 0 ds) := fun σ H R ok e k => h σ H _ ok e fun v d H1 r1 ed hv => by
  rw [ed] at hv
  obtain ⟨a, xs, q, nb, ha, hx⟩ := id hv
  rw [q] at hv
  exact ⟨a, xs, by rw [q], .inl ⟨SqL.of ha, k _ [(.lst ds, .ref a)] H1 r1 (fun g z => by rw [List.mem_singleton.mp z]; exact hv) wd_enumL⟩⟩
theorem xi_enumAT {te : TE} {ds : List Dt} (h : Xd M G te (.tup ds)) : Xi M G (iEnumA K (tCons te tNil)) (enumD 0 ds) := fun σ H R ok e k => h σ H _ ok e fun v d H1 r1 ed hv => by
  rw [ed] at hv
  obtain ⟨a, xs, q, nb, ha, hx⟩ := id hv
  rw [q] at hv
  exact ⟨a, xs, by rw [q], .inr ⟨SqT.of ha, k _ [(.tup ds, .ref a)] H1 r1 (fun g z => by rw [List.mem_singleton.mp z]; exact hv) wd_enumT⟩⟩
def zipD (as bs : List Dt) : List Dt := List.zipWith (fun a b => Dt.tup [a, b]) as bs
theorem zipD_length {as bs : List Dt} (h : as.length = bs.length) : (zipD as bs).length = as.length := by
  unfold zipD
  rw [List.length_zipWith]
  omega
theorem zipD_get {as bs : List Dt} {i : Nat} {a b : Dt} (h1 : as[i]? = some a) (h2 : bs[i]? = some b) : (zipD as bs)[i]? = some (.tup [a, b]) := by
  unfold zipD
  rw [List.getElem?_zipWith, h1, h2]
theorem zipD_got {as bs : List Dt} {i : Nat} {d : Dt} (h : (zipD as bs)[i]? = some d) : ∃ a b, as[i]? = some a ∧ bs[i]? = some b ∧ d = .tup [a, b] := by
  unfold zipD at h
  rw [List.getElem?_zipWith] at h
  cases h1 : as[i]? with
  | none => rw [h1] at h; cases h
  | some a =>
    cases h2 : bs[i]? with
    | none => rw [h1, h2] at h; cases h
    | some b =>
      rw [h1, h2] at h
      exact ⟨a, b, rfl, rfl, (Option.some.inj h).symm⟩
/-- a walk's pairs, of two sources that are read as they stand -/
theorem wd_pair {J : It} {as bs : List Dt} {gs : List (Dt × V)} {q1 q2 : Hp → List V → Prop} (he : as.length = bs.length)
    (hg : ∀ (B : Addr → Prop) (H : Hp), (∀ g ∈ gs, At K B H g.1 g.2) → ∃ xs ys, q1 H xs ∧ q2 H ys ∧ AtAll K B H as xs ∧ AtAll K B H bs ys)
    (uq1 : ∀ H xs ys, q1 H xs → q1 H ys → xs = ys) (uq2 : ∀ H xs ys, q2 H xs → q2 H ys → xs = ys)
    (goes : ∀ i H xs ys x y, q1 H xs → q2 H ys → xs[i]? = some x → ys[i]? = some y → J.go i H) (stops : ∀ i H xs ys, q1 H xs → q2 H ys → xs.length = i → ys.length = i → J.stop i H)
    (yld : ∀ i H v H' xs ys, q1 H xs → q2 H ys → J.yld i H v H' → ∃ T x y, v = .ref T ∧ H T = none ∧ H' = upd H T (.tup [x, y]) ∧ xs[i]? = some x ∧ ys[i]? = some y) : WalkD K J (zipD as bs) gs := by
  refine ⟨fun H => ∃ xs ys, q1 H xs ∧ q2 H ys ∧ xs.length = as.length ∧ ys.length = as.length, fun i H v H' => ∃ T x y xs ys, v = .ref T ∧ H T = none ∧ H' = upd H T (.tup [x, y]) ∧ q1 H xs ∧ q2 H ys ∧ xs[i]? = some x ∧ ys[i]? = some y, ⟨?_, ?_, ?_⟩, ?_⟩
  · rintro i H hi ⟨xs, ys, h1, h2, l1, l2⟩
    rw [zipD_length he] at hi
    exact goes i H xs ys (xs[i]'(by omega)) (ys[i]'(by omega)) h1 h2 (by simp [l1, hi]) (by simp [l2, hi])
  · rintro H ⟨xs, ys, h1, h2, l1, l2⟩
    rw [zipD_length he]
    exact stops _ H xs ys h1 h2 l1 l2
  · rintro i H v H' hi ⟨xs, ys, h1, h2, l1, l2⟩ y
    obtain ⟨T, x, z, e1, e2, e3, e4, e5⟩ := yld i H v H' xs ys h1 h2 y
    exact ⟨T, x, z, xs, ys, e1, e2, e3, h1, h2, e4, e5⟩
  · intro B H tr gh
    obtain ⟨xs, ys, h1, h2, a1, a2⟩ := hg B H gh
    refine ⟨⟨xs, ys, h1, h2, a1.length, by rw [a2.length, he]⟩, ?_⟩
    rintro i x H' hi ⟨T, u, z, xs', ys', e1, e2, e3, g1, g2, e4, e5⟩
    cases uq1 H _ _ h1 g1
    cases uq2 H _ _ h2 g2
    obtain ⟨d1, f1, k1⟩ := a1.got e4
    obtain ⟨d2, f2, k2⟩ := a2.got e5
    rw [e3]
    exact ⟨Same.new e2, _, zipD_get f1 f2, T, _, e1, fun b => tr T b e2, upd_same, _, _, rfl, k1.keep (Same.keep (Same.new e2)), _, _, rfl, k2.keep (Same.keep (Same.new e2)), rfl⟩
theorem uqL {a : Addr} (H : Hp) (xs ys : List V) (h1 : H a = some (.lst xs)) (h2 : H a = some (.lst ys)) : xs = ys := by
  rw [h1] at h2
  cases h2
  rfl
theorem uqT {a : Addr} (H : Hp) (xs ys : List V) (h1 : H a = some (.tup xs)) (h2 : H a = some (.tup ys)) : xs = ys := by
  rw [h1] at h2
  cases h2
  rfl
theorem wd_zipL {a b : Addr} {as bs : List Dt} (he : as.length = bs.length) : WalkD K (Itz K a b) (zipD as bs) [(.lst as, .ref a), (.lst bs, .ref b)] :=
  wd_pair (q1 := fun H xs => H a = some (.lst xs)) (q2 := fun H ys => H b = some (.lst ys)) he (fun B H gh => by
    obtain ⟨xs, _, h1, h2⟩ := (gh _ List.mem_cons_self).lstOf
    obtain ⟨ys, _, h3, h4⟩ := (gh _ (List.mem_cons_of_mem _ List.mem_cons_self)).lstOf
    exact ⟨xs, ys, h1, h3, h2, h4⟩) uqL uqL (fun i H xs ys x y h1 h2 e1 e2 => ⟨xs, ys, x, y, SqL.of h1, SqL.of h2, e1, e2⟩) (fun i H xs ys h1 h2 e1 e2 => ⟨xs, ys, SqL.of h1, SqL.of h2, .inl (Nat.le_of_eq e1)⟩)
    (fun i H v H' xs ys h1 h2 y => by
      obtain ⟨T, x, z, e1, e2, e3, e4, e5⟩ := y
      exact ⟨T, x, z, e1, e2, e3, e4 xs (SqL.of h1), e5 ys (SqL.of h2)⟩)
theorem wd_zipT {a b : Addr} {as bs : List Dt} (he : as.length = bs.length) : WalkD K (RZ.ItzT K a b) (zipD as bs) [(.tup as, .ref a), (.tup bs, .ref b)] :=
  wd_pair (q1 := fun H xs => H a = some (.tup xs)) (q2 := fun H ys => H b = some (.tup ys)) he (fun B H gh => by
    obtain ⟨xs, _, h1, h2⟩ := (gh _ List.mem_cons_self).tupOf
    obtain ⟨ys, _, h3, h4⟩ := (gh _ (List.mem_cons_of_mem _ List.mem_cons_self)).tupOf
    exact ⟨xs, ys, h1, h3, h2, h4⟩) uqT uqT (fun i H xs ys x y h1 h2 e1 e2 => ⟨xs, ys, x, y, SqT.of h1, SqT.of h2, e1, e2⟩) (fun i H xs ys h1 h2 e1 e2 => ⟨xs, ys, SqT.of h1, SqT.of h2, .inl (Nat.le_of_eq e1)⟩)
    (fun i H v H' xs ys h1 h2 y => by
      obtain ⟨T, x, z, e1, e2, e3, e4, e5⟩ := y
      exact ⟨T, x, z, e1, e2, e3, e4 xs (SqT.of h1), e5 ys (SqT.of h2)⟩)
/-- a written tuple of texts and a list -/
theorem wd_zipX {a b : Addr} {xs : List Str} {bs : List Dt} (ka : ∀ H, SqT K H a (xs.map V.str)) (he : xs.length = bs.length) : WalkD K (ItzX K a b) (zipD (xs.map .str) bs) [(.lst bs, .ref b)] :=
  wd_pair (q1 := fun H zs => zs = xs.map V.str) (q2 := fun H ys => H b = some (.lst ys)) (by rw [List.length_map]; exact he) (fun B H gh => by
    obtain ⟨ys, _, h3, h4⟩ := (gh _ List.mem_cons_self).lstOf
    exact ⟨_, ys, rfl, h3, AtAll.strs.mpr rfl, h4⟩) (fun H _ _ h1 h2 => h1.trans h2.symm) uqL (fun i H zs ys x y h1 h2 e1 e2 => ⟨zs, ys, x, y, h1 ▸ ka H, SqL.of h2, e1, e2⟩) (fun i H zs ys h1 h2 e1 e2 => ⟨zs, ys, h1 ▸ ka H, SqL.of h2, e1, e2⟩)
    (fun i H v H' zs ys h1 h2 y => by
      obtain ⟨T, x, z, e1, e2, e3, e4, e5⟩ := y
      exact ⟨T, x, z, e1, e2, e3, e4 zs (h1 ▸ ka H), e5 ys (SqL.of h2)⟩)
theorem two_of {B : Addr → Prop} {H : Hp} {vs : List V} {a b : Dt} (h : AtAll K B H [a, b] vs) : ∃ v w, vs = [v, w] ∧ At K B H a v ∧ At K B H b w := by
  obtain ⟨v, r, e, h1, w, r', e', h2, e2⟩ := h
  exact ⟨v, w, by rw [e, e', show r' = [] from e2], h1, h2⟩
theorem xi_zipL {ta : TA} {as bs : List Dt} (h : Xa M G ta (· = [.lst as, .lst bs])) (he : as.length = bs.length) : Xi M G (iZip K ta) (zipD as bs) := fun σ H R ok e k => h σ H _ ok e fun vs ds H1 r1 ed hv => by
  rw [ed] at hv
  obtain ⟨v, w, ev, h1, h2⟩ := two_of hv
  obtain ⟨a, xs, q, nb, ha, hx⟩ := id h1
  obtain ⟨b, ys, q', nb', hb, hy⟩ := id h2
  rw [q] at h1
  rw [q'] at h2
  exact ⟨a, b, xs, ys, by rw [ev, q, q'], SqL.of ha, SqL.of hb, k _ _ H1 r1 (fun g z => by
    rcases List.mem_cons.mp z with z | z
    · rw [z]; exact h1
    · rw [List.mem_singleton.mp z]; exact h2) (wd_zipL he)⟩
theorem xi_zipAL {ta : TA} {as bs : List Dt} (h : Xa M G ta (· = [.lst as, .lst bs])) (he : as.length = bs.length) : Xi M G (RZ.iZipA K ta) (zipD as bs) := fun σ H R ok e k => h σ H _ ok e fun vs ds H1 r1 ed hv => by
  rw [ed] at hv
  obtain ⟨v, w, ev, h1, h2⟩ := two_of hv
  obtain ⟨a, xs, q, nb, ha, hx⟩ := id h1
  obtain ⟨b, ys, q', nb', hb, hy⟩ := id h2
  rw [q] at h1
  rw [q'] at h2
  exact ⟨a, b, xs, ys, by rw [ev, q, q'], .inl ⟨SqL.of ha, SqL.of hb, k _ _ H1 r1 (fun g z => by
    rcases List.mem_cons.mp z with z | z
    · rw [z]; exact h1
    · rw [List.mem_singleton.mp z]; exact h2) (wd_zipL he)⟩⟩
theorem xi_zipAT {ta : TA} {as bs : List Dt} (h : Xa M G ta (· = [.tup as, .tup bs])) (he : as.length = bs.length) : Xi M G (RZ.iZipA K ta) (zipD as bs) := fun σ H R ok e k => h σ H _ ok e fun vs ds H1 r1 ed hv => by
  rw [ed] at hv
  obtain ⟨v, w, ev, h1, h2⟩ := two_of hv
  obtain ⟨a, xs, q, nb, ha, hx⟩ := id h1
  obtain ⟨b, ys, q', nb', hb, hy⟩ := id h2
  rw [q] at h1
  rw [q'] at h2
  exact ⟨a, b, xs, ys, by rw [ev, q, q'], .inr ⟨SqT.of ha, SqT.of hb, k _ _ H1 r1 (fun g z => by
    rcases List.mem_cons.mp z with z | z
    · rw [z]; exact h1
    · rw [List.mem_singleton.mp z]; exact h2) (wd_zipT he)⟩⟩
theorem xi_zipX {a : Addr} {xs : List Str} {te : TE} {bs : List Dt} (ka : ∀ H, SqT K H a (xs.map V.str)) (h : Xd M G te (.lst bs)) (he : xs.length = bs.length) :
    Xi M G (iZipX K (tCons (tC (.ref a)) (tCons te tNil))) (zipD (xs.map .str) bs) := fun σ H R ok e k => h σ H _ ok e fun v d H1 r1 ed hv => by
  rw [ed] at hv
  obtain ⟨b, ys, q, nb, hb, hy⟩ := id hv
  rw [q] at hv
  exact ⟨a, b, _, ys, by rw [q], ka H1, SqL.of hb, k _ _ H1 r1 (fun g z => by rw [List.mem_singleton.mp z]; exact hv) (wd_zipX ka he)⟩

/-! ### lists that grow by a list, that lose an item -/
/-- p.extend(e) -/
theorem s_ext {p : Addr} {ds : List Dt} {te : TE} {P : List Dt → Prop} {D : Ends} {H0 H : Hp} {L : List (Dt × V)} {σ : L2.St} {i : Nat} (hi : G[i]? = some (some (.raw p))) (x : Xe (M.bld p ds) G te fun d => ∃ es, d = .lst es ∧ P es) (hz : ∀ es, P es → ds.length + es.length ≤ 100000) (h : Sg (M.bld p ds) H0 L G σ H)
    (k : ∀ es H', P es → Sg (M.bld p (ds ++ es)) H0 L G σ H' → D.nx σ H') : tDrop (tBM K "list" rExtend (tVar i) (tCons te tNil)) D σ H := by
  obtain ⟨v, e1, e2⟩ := h.env.2 i _ hi
  obtain ⟨o1, o2, xs, hp, hx⟩ := id h.ok
  have ev : v = V.ref p := e2
  subst ev
  refine ⟨_, e1, .inl ⟨rfl, xs, SqL.of hp⟩, x σ H _ h.ok h.env fun w d H1 r1 pd' hw => ?_⟩
  obtain ⟨es, ed, pe⟩ := pd'
  rw [ed] at hw
  obtain ⟨b, zs, q, nb, hb, hs⟩ := hw
  have h1 := h.go r1
  obtain ⟨q1, q2, ys, hp1, hy⟩ := id h1.ok
  refine ⟨p, b, ys, zs, rfl, by rw [q], hp1, hb, by rw [hy.length, hs.length]; exact Nat.le_trans (hz es pe) (by decide), k es _ pe ?_⟩
  have kp : Keep (fun b => M.B b ∨ b = p) H1 (upd H1 p (.lst (ys ++ zs))) := fun b o nb e => by
    rw [upd_ne fun z => nb (.inr z)]
    exact e
  have f0 : M.F H0 (upd H1 p (.lst (ys ++ zs))) := M.mutf h1.fr.1 h1.fr.2
  refine ⟨⟨M.mutX h1.fr.1 h1.fr.2 q2 (.inr rfl) q1, q2, _, upd_same, ?_⟩, ⟨f0, h1.fr.2⟩, fun g z => (h1.gh g z).keep kp, h1.env.keep kp⟩
  exact (hy.keep fun b o nb e => kp b o (fun z => nb (.inl z)) e).app ((hs.keep kp).less fun a z => z.elim id fun z => z.elim)
/-- left.pop(e) goes to the end of found -/
theorem s_popApp {p q : Addr} {ds es : List Dt} {te : TE} {D : Ends} {H0 H : Hp} {L : List (Dt × V)} {σ : L2.St} {i j : Nat} (hi : G[i]? = some (some (.raw q))) (hj : G[j]? = some (some (.raw p)))
    (x : Xe ((M.bld p ds).bld q es) G te fun d => ∃ n : Nat, d = .int (n : Int) ∧ n < ds.length) (hz : ds.length + es.length ≤ 100000) (h : Sg ((M.bld p ds).bld q es) H0 L G σ H)
    (k : ∀ (n : Nat) d H', ds[n]? = some d → Sg ((M.bld p (ds.eraseIdx n)).bld q (es ++ [d])) H0 L G σ H' → D.nx σ H') :
    tDrop (tBM K "list" rAppend (tVar i) (tCons (tBM K "list" rPopAt (tVar j) (tCons te tNil)) tNil)) D σ H := by
  obtain ⟨v, e1, e2⟩ := h.env.2 i _ hi
  have ev : v = V.ref q := e2
  subst ev
  obtain ⟨v, e3, e4⟩ := h.env.2 j _ hj
  have ev : v = V.ref p := e4
  subst ev
  obtain ⟨o1, o2, xs, hq, hx⟩ := id h.ok
  obtain ⟨o3, o4, ys, hp, hy⟩ := id o1
  refine ⟨_, e1, .inl ⟨rfl, xs, SqL.of hq⟩, _, e3, .inl ⟨rfl, ys, SqL.of hp⟩, x σ H _ h.ok h.env fun w d H1 r1 pd' hw => ?_⟩
  obtain ⟨n, ed, hn⟩ := pd'
  rw [ed] at hw
  have h1 := h.go r1
  obtain ⟨q1, q2, us, hq1, hu⟩ := id h1.ok
  obtain ⟨q3, q4, ws, hp1, hw1⟩ := id q1
  have lw : ws.length = ds.length := hw1.length
  obtain ⟨y, hy1, hy2⟩ := hw1.get (List.getElem?_eq_getElem hn)
  have npq : p ≠ q := fun z => q2 (.inr z.symm)
  refine ⟨p, ws, n, n, y, rfl, by rw [show w = V.int n from hw], hp1, by omega, by omega, ?_, hy1, ?_⟩
  · have hnl : n < ws.length := by omega
    exact (seqIndex_of (by omega) (by omega)).trans (by simp)
  refine ⟨q, us, y, rfl, rfl, by rw [upd_ne npq.symm]; exact hq1, by rw [hu.length]; exact Nat.lt_of_lt_of_le (show es.length < 100001 by omega) (by decide), k n _ _ (List.getElem?_eq_getElem hn) ?_⟩
  generalize hH2 : upd (upd H1 p (.lst (ws.eraseIdx n))) q (.lst (us ++ [y])) = H2
  have off : ∀ a, ¬ (a = p ∨ a = q) → H2 a = H1 a := fun a nz => by
    rw [← hH2, upd_ne fun z => nz (.inr z), upd_ne fun z => nz (.inl z)]
  have kp : Keep (fun b => (M.B b ∨ b = p) ∨ b = q) H1 H2 := fun b o nb e => by
    rw [off b fun z => nb (z.imp .inr id)]
    exact e
  have ep : H2 p = some (.lst (ws.eraseIdx n)) := by rw [← hH2, upd_ne npq, upd_same]
  have eq' : H2 q = some (.lst (us ++ [y])) := by rw [← hH2, upd_same]
  have f0 : ∀ a, (a = p ∨ a = q) → H0 a = none := fun a z => z.elim (fun z => z ▸ h1.fr.1.2) fun z => z ▸ h1.fr.2
  refine ⟨⟨⟨M.mutXS (S := fun a => a = p ∨ a = q) h1.fr.1.1 (fun a z => ⟨f0 a z, fun b => ?_, ?_⟩) q3 off, q4, _, ep, ?_⟩, q2, _, eq', ?_⟩, ⟨⟨M.mutfS (S := fun a => a = p ∨ a = q) h1.fr.1.1 f0 off, h1.fr.1.2⟩, h1.fr.2⟩, fun g z => (h1.gh g z).keep kp, h1.env.keep kp⟩
  · rcases z with z | z
    · exact q4 (z ▸ b)
    · exact q2 (.inl (z ▸ b))
  · rcases z with z | z
    · exact .inr z
    · exact .inl (.inr z)
  · exact (hw1.eraseIdx n).keep fun b o nb e => kp b o (fun z => nb (by
      rcases z with z | z
      · exact .inl z
      · exact .inr (.inr z))) e
  · refine (hu.keep fun b o nb e => kp b o (fun z => nb (.inl z)) e).app (AtAll.one ?_)
    refine At.less (At.keep hy2 fun b o nb e => kp b o (fun z => nb ?_) e) fun a z => ?_
    · rcases z with z | z
      · exact .inl z
      · exact .inr (.inr z)
    · rcases z with (z | z) | z
      · exact .inl z
      · exact .inr (.inr z)
      · exact z.elim
/-! ### fresh lists -/
/-- a new list that nobody else holds -/
def Xn (M : Mode K) (G : List (Option Dt)) (te : TE) (P : List Dt → Prop) : Prop := ∀ (σ : L2.St) (H : Hp) (Q : VK), M.ok H → Env K M.B H G σ →
  (∀ p xs ds H2, M.R H H2 → P ds → H p = none → H2 p = some (.lst xs) → AtAll K (fun b => M.B b ∨ b = p) H2 ds xs → Q (.ref p) H2) → te σ H Q
theorem xn_listL {te : TE} {ds : List Dt} (h : Xd M G te (.lst ds)) : Xn M G (tCB (rListQ K) (tCons te tNil)) (· = ds) := fun σ H Q ok e k => h σ H _ ok e fun v d H1 r1 ed hv => by
  rw [ed] at hv
  obtain ⟨a, xs, q, nb, ha, hx⟩ := hv
  have o1 := M.stab ok r1
  exact ⟨a, xs, by rw [q], .inl (SqL.of ha), fun l hl => k l xs ds _ (M.trans r1 (M.knew o1 hl)) rfl (M.free ok r1 hl) upd_same ((hx.more hl).keep (Same.keep (Same.new hl)))⟩
theorem xn_listT {te : TE} {ds : List Dt} (h : Xd M G te (.tup ds)) : Xn M G (tCB (rListQ K) (tCons te tNil)) (· = ds) := fun σ H Q ok e k => h σ H _ ok e fun v d H1 r1 ed hv => by
  rw [ed] at hv
  obtain ⟨a, xs, q, nb, ha, hx⟩ := hv
  have o1 := M.stab ok r1
  exact ⟨a, xs, by rw [q], .inr (SqT.of ha), fun l hl => k l xs ds _ (M.trans r1 (M.knew o1 hl)) rfl (M.free ok r1 hl) upd_same ((hx.more hl).keep (Same.keep (Same.new hl)))⟩
theorem xn_list {te : TE} {ds : List Dt} (h : XL M G te ds) : Xn M G (tCB (rListQ K) (tCons te tNil)) (· = ds) := fun σ H Q ok e k => h σ H _ ok e fun a xs H1 r1 hh => by
  obtain ⟨h1, h2⟩ := hh H1 (M.refl H1)
  have o1 := M.stab ok r1
  exact ⟨a, xs, rfl, .inl (SqL.of h1), fun l hl => k l xs ds _ (M.trans r1 (M.knew o1 hl)) rfl (M.free ok r1 hl) upd_same ((h2.more hl).keep (Same.keep (Same.new hl)))⟩
theorem Sg.bldN {H0 H H2 : Hp} {L : List (Dt × V)} {σ : L2.St} (h : Sg M H0 L G σ H) {p : Addr} {xs : List V} {ds : List Dt} (r : M.R H H2) (hp : H p = none) (h2 : H2 p = some (.lst xs)) (hx : AtAll K (fun b => M.B b ∨ b = p) H2 ds xs) : Sg (M.bld p ds) H0 L G σ H2 :=
  ⟨⟨M.stabX (M.more h.ok hp) r, M.nB h.ok hp, xs, h2, hx.less fun a z => z.elim id fun z => z.elim⟩, ⟨M.fr h.fr r, M.fback h.fr hp⟩, fun g z => ((h.gh g z).more hp).keep fun b o nb e => M.keep r b o (fun w => nb (.inl w)) e, (h.env.more hp).keep fun b o nb e => M.keep r b o (fun w => nb (.inl w)) e⟩
/-- x = a new list, which is built on -/
theorem s_newN {te : TE} {D : Ends} {H0 H : Hp} {L : List (Dt × V)} {σ : L2.St} {i : Nat} {P : List Dt → Prop} (x : Xn M G te P) (h : Sg M H0 L G σ H) (k : ∀ p ds σ' H', P ds → Sg (M.bld p ds) H0 L (G.set i (some (.raw p))) σ' H' → D.nx σ' H') : tAsg te (gName i) D σ H :=
  x σ H _ h.ok h.env fun p xs ds H2 r pds hp h2 hx => k p ds _ _ pds ((h.bldN r hp h2 hx).set rfl)
/-- x, y = a new list, [] -/
theorem s_parN {te : TE} {D : Ends} {H0 H : Hp} {L : List (Dt × V)} {σ : L2.St} {i j : Nat} {P : List Dt → Prop} (x : Xn M G te P) (h : Sg M H0 L G σ H) (k : ∀ p q ds σ' H', P ds → Sg ((M.bld p ds).bld q []) H0 L ((G.set i (some (.raw p))).set j (some (.raw q))) σ' H' → D.nx σ' H') :
    tPar i j (tCons te (tCons (tLst tNil) tNil)) D σ H :=
  x σ H _ h.ok h.env fun p xs ds H2 r pds hp h2 hx => ⟨Nat.zero_le _, fun q hq => by
    have s1 := h.bldN r hp h2 hx
    exact ⟨.ref p, .ref q, rfl, k p q ds _ _ pds (((s1.bld (xs := []) (ds := []) hq rfl).set (i := i) (d := .raw p) (v := .ref p) rfl).set (i := j) (d := .raw q) (v := .ref q) rfl)⟩⟩
end
end Lf

/-! tuple * n; written dicts; ==; None in a list; index; what a mode owns -/
namespace L2
open PySem PySem.Spec PyProof.Rows
/-- t * 1 is t itself -/
theorem tuple_once (l : Addr) (its : Array Value) (n : Nat) (dc : Option Addr) (so : Array (Option Value)) (u : Tok) (ne : its.isEmpty = false) :
    Meets (Builtin.«tuple.__mul__» ⟨[.ref l, .int 1 u], []⟩) (fun _ R s => s.heap.get? l = some { cls := .type "tuple", dict := dc, data := .seq its n, slots := so } ∧ R (.ok (.ret (Value.ref l))) s) :=
  .of_wp fun prog w A R s hyp => by
    obtain ⟨hp, gn, dr, tk, oo⟩ := s
    obtain ⟨hl, hyp⟩ := hyp
    have q1 := AutoSeq1.idx_int
    wp_walk using wpAny_loadPart' hl
    repeat (first
      | (refine wpAny_ite_false (decide_eq_false (by simp)) ?_; wp_walk using wpAny_loadPart' hl)
      | (refine wpAny_ite_true (decide_eq_true (by simp)) ?_; wp_walk using wpAny_loadPart' hl))
    exact ⟨_, rfl, hyp⟩
end L2
namespace Lf
open PySem PySem.Spec PyProof.Rows L2
/-- tuple * k from 1 on: the tuple itself once, a new one else -/
def rRepU (K : PySem.W.Frag) : R2 := fun x y H Q => ∃ l k xs, x = .ref l ∧ y = .int k ∧ SqT K H l xs ∧ xs ≠ [] ∧ xs.length ≤ 1000 ∧ ((k = 1 ∧ Q (.ref l) H) ∨ (2 ≤ k ∧ k ≤ 1000 ∧ ∀ p, H p = none → Q (.ref p) (upd H p (.tup (List.replicate k.toNat xs).flatten))))
theorem op_repU {X : Cx} : OpR X (binaryOp .Mult) (rRepU X.K) := by
  intro pins s σ H x y v u Q I rx ry h
  obtain ⟨l, k, xs, e1, e2, hT, hne, hz, q | ⟨k1, k2, q⟩⟩ := h
  · obtain ⟨hk, q⟩ := q
    subst hk
    subst e1
    subst e2
    cases rx
    obtain ⟨t, rfl⟩ := ry
    obtain ⟨its, r, ho, hs⟩ := I.tuple hT
    obtain ⟨⟨cls, dd, dat, sl⟩, ho, hc, n, hd⟩ := ho
    simp only at hc hd
    subst hc hd
    have hr := I.tuple hT
    have ni : its.toArray.isEmpty = false := by
      cases its with
      | nil => exact absurd (List.eq_nil_of_length_eq_zero r.length) hne
      | cons a b => rfl
    exact wpAny_binaryOp_repeat_ref (T := "tuple") (U := "int") (by decide) ⟨_, ho, rfl⟩ (fun s' => typeIs_int s' 1 t) noFill_tuple_mul F.fills_int_mul F.slot_int_rmul repeat_tuple F.slot_int_index.lookup
      (call_meets F.slot_int_rmul (typeIs_int s 1 t) F.entry_int_rmul (F.args_int_rmul_2 _ _) (int_rmul_tuple 1 t l its.toArray n dd sl)
        ⟨ho, rfl, ⟨_, ho, rfl⟩, call_meets F.slot_tuple_mul ⟨_, ho, rfl⟩ F.entry_tuple_mul (F.args_tuple_mul_2 _ _) (tuple_once l its.toArray n dd sl t ni) ⟨ho, .ref l, H, I, rfl, q⟩⟩)
  · exact op_repT pins s σ H x y v u Q I rx ry ⟨l, k, xs, e1, e2, hT, hne, k1, k2, hz, q⟩
section
variable {K : PySem.W.Frag} {M : Mode K} {G : List (Option Dt)}
theorem rv_repU {as : List Dt} {n : Int} (h0 : 1 ≤ n) (h1 : n ≤ 1000) (hne : as ≠ []) (hz : as.length ≤ 1000) : Rv M (rRepU K) (.tup as) (.int n) (· = .tup (List.replicate n.toNat as).flatten) := fun x y H Q ok hx hy k => by
  obtain ⟨a, xs, e, nb, ha, hs⟩ := hx
  have nx : xs ≠ [] := fun z => hne (List.length_eq_zero_iff.mp (by rw [← hs.length, z]; rfl))
  refine ⟨a, n, xs, e, hy, SqT.of ha, nx, by rw [hs.length]; exact hz, ?_⟩
  by_cases n1 : n = 1
  · subst n1
    refine .inl ⟨rfl, k _ _ H (M.refl H) rfl ?_⟩
    rw [show (1 : Int).toNat = 1 from rfl, List.replicate_one, List.flatten_singleton]
    exact ⟨a, xs, rfl, nb, ha, hs⟩
  · refine .inr ⟨by omega, h1, fun p hp => k _ _ _ (M.knew ok hp) rfl ⟨p, _, rfl, M.nB ok hp, upd_same, ?_⟩⟩
    have key : ∀ m : Nat, AtAll K M.B H (List.replicate m as).flatten (List.replicate m xs).flatten := by
      intro m
      induction m with
      | zero => exact rfl
      | succ m ih =>
        rw [List.replicate_succ, List.replicate_succ, List.flatten_cons, List.flatten_cons]
        exact hs.app ih
    exact (key n.toNat).keep (M.keep (M.knew ok hp))
/-! ### written dicts -/
theorem x_kd {w : World} {tb : TE} {p : Addr} {z : Str} {v : V} {d : Dt} (hb : Xd M G tb (.str z)) (hk : KDct K w p z v) (hv : ∀ H, At K M.B H d v) : Xd M G (tOp (rIxD K w) (tC (.ref p)) tb) d := fun σ H Q ok e k =>
  hb σ H _ ok e fun y dy H1 r1 ed hy => by
    rw [ed] at hy
    exact ⟨p, z, v, rfl, hy, hk, k v d H1 r1 rfl (hv H1)⟩
def tKGet (K : PySem.W.Frag) (p : Addr) (ty : TE) : TE := fun σ H Q => ty σ H fun y H2 => ∃ (z : Str) (u0 : Value) (v0 : V), y = .str z ∧ PySem.W.nsIn K p z = some (some u0) ∧ RelV v0 u0 ∧ Q v0 H2
theorem pe_kget {X : Cx} {o e : Expr} {apos cpos : Pos} {p : Addr} {ty : TE} (D : ∃ es n, KDict X.K X.w p es n) (ho : PE X o (tC (.ref p))) (he : PE X e ty)
    (m1 : attributeBase o "get" X.env (eval o X.env) = eval o X.env := by rfl)
    (m2 : ((backTo cpos (starEach [e] X.env)).all (fun x => !x.1) && (backToKw cpos (keywordEach [] X.env)).all (fun x => x.1.isSome) && decide (([e] : List Expr).length + ([] : List Keyword).length + (if ([] : List Keyword).isEmpty then 0 else 1) < 30)) = true := by rfl)
    (m3 : (apos.endLine == cpos.line) = true := by rfl) (m4 : backTo cpos (starEach [e] X.env) = [(false, eval e X.env)] := by rfl) : PE X (.Call (.Attribute o "get" apos) [e] [] cpos) (tKGet X.K p ty) := by
  obtain ⟨es, n, D⟩ := D
  refine ⟨fun pins s σ H Q I hw => ?_⟩
  refine wpAny_Call_method m1 m2 m3 PySem.F.plainAttrs_dict PySem.F.slot_dict_get PySem.F.type_dict_get (thn (ho.run pins s σ H (fun x H1 => x = .ref p ∧ H1 = H) I ⟨rfl, rfl⟩) fun u s1 ⟨x, H1, I1, rx, ex, eh⟩ => ?_)
  subst ex
  subst eh
  obtain rfl : u = Value.ref p := rx
  refine ⟨kd_type D I1, fun b q => ?_, ?_⟩
  · cases q
    exact ⟨_, I1.kIn _ _ D.at_, rfl⟩
  rw [m4]
  refine Calls.callWith_builtin rfl (Calls.evalArgs_plain (Calls.spliced_cons (thn (he.run pins s1 σ H1 _ I1 hw) fun iv s2 ⟨y, H2, I2, ry, z, u0, v0, ey, e0, r0, q2⟩ => Calls.spliced_nil ?_)))
  subst ey
  obtain ⟨t, rfl⟩ := ry
  have hm := PySem.W.mapOf_K (prog := X.prog) (w := X.w) I2.kIn D.at_ D.lit
  refine call_meetsIn PySem.F.slot_dict_get hm.typeIs PySem.F.entry_dict_get (PySem.F.args_dict_get_2 _ _) (meets_dict_get (strKind X.prog X.w) p (strKind_is X.prog X.w z t) D.low) ⟨_, hm, v0, H2, I2.tok _, ?_, q2⟩
  rw [PySem.W.find_K D.at_ e0]
  exact r0
theorem x_kget {ty : TE} {p : Addr} {z : Str} {u0 : Value} {v0 : V} {d : Dt} (h : Xd M G ty (.str z)) (e0 : PySem.W.nsIn K p z = some (some u0)) (r0 : RelV v0 u0) (hv : ∀ H, At K M.B H d v0) : Xd M G (tKGet K p ty) d := fun σ H Q ok e k =>
  h σ H _ ok e fun y dy H1 r1 ed hy => by
    rw [ed] at hy
    exact ⟨z, u0, v0, hy, e0, r0, k v0 d H1 r1 rfl (hv H1)⟩
/-! ### == by the text's own __eq__ -/
def OwnR (K : PySem.W.Frag) (pre : List Dt → Dt → Prop) : Addr → Addr → Hp → Prop := fun a b H => ∃ (B : Addr → Prop) (d e : Dt), (∀ c, B c → H c ≠ none) ∧ At K B H d (.ref a) ∧ At K B H e (.ref b) ∧ pre [d, e] (.bl true)
theorem op_own {X : Cx} {k : Nat} {c : Str} {ps : List Str} {pre : List Dt → Dt → Prop} (C : Met X.prog X.w X.K X.mg X.base k c "__eq__" ps (spP X.K pre)) (hr : Room k X.A) : OpR X (compareOp .Eq) (rEqG (DIns (He.ga X.K c) (OwnR X.K pre))) := by
  obtain ⟨f, fd, F, cl, hm, hb⟩ := C
  have F2 : FnOk X.prog X.w X.K X.mg X.base CX0 k f fd ps (spEq (OwnR X.K pre)) := F.imp fun vs H Q E h => by
    obtain ⟨a, b, ev, ⟨B, d, e, h1, h2, h3, h4⟩, q⟩ := h
    refine ⟨B, [d, e], .bl true, h1, ⟨_, _, ev, h2, _, _, rfl, h3, rfl⟩, h4, fun v H' s hv => ?_⟩
    rw [show v = V.bl true from hv]
    exact q H' s
  exact op_eqG (rcG_ins (E := fun _ _ _ => False) F2 hm.at_ hm.fn hb pass0) hr
theorem rv_own {c : Str} {ks ks' : List Str} {ds es : List Dt} {pre : List Dt → Dt → Prop} (hp : pre [.ins c ks ds, .ins c ks' es] (.bl true)) : Rv M (rEqG (DIns (He.ga K c) (OwnR K pre))) (.ins c ks ds) (.ins c ks' es) (· = .bl true) := fun x y H Q ok hx hy k => by
  obtain ⟨a, dx, xs, e, nb, ha, hs⟩ := id hx
  obtain ⟨b, dy, ys, e', nb', hb, hs'⟩ := id hy
  rw [e] at hx
  rw [e'] at hy
  exact ⟨⟨a, b, dx, dy, _, _, e, e', ha, hb, M.B, _, _, fun c z => M.trk ok z, hx, hy, hp⟩, fun H' s => k _ _ H' (M.same ok s) rfl rfl⟩
/-! ### in, index, list(range(n)) -/
theorem rv_inD {a : Dt} {ds : List Dt} (oa : okD a = true) (ob : okDs ds = true) (sa : SeqAt.shaped (pd a) = true) (sb : SeqAt.shaped (.list (pds ds)) = true) : Rv M (rInD K) a (.lst ds) (· = .bl ((pds ds).any fun z => PyData.eqv z (pd a))) := fun x y H Q ok hx hy k =>
  ⟨_, _, hx.dp a x oa, At.dp (.lst ds) y ob hy, sa, sb, k _ _ H (M.refl H) rfl rfl⟩
theorem x_index {tl te : TE} {xs : List Str} {x : Str} (h : Xd M G tl (.lst (xs.map .str))) (he : Xd M G te (.str x)) (hx : x ∈ xs) : Xd M G (tBM K "list" (rIndex K) tl (tCons te tNil)) (.int ((xs.findIdx fun y => decide (y = x)) : Nat)) := fun σ H Q ok e k =>
  h σ H _ ok e fun v d H1 r1 ed hv => by
    rw [ed] at hv
    obtain ⟨a, ys, q, nb, ha, hs⟩ := id hv
    refine ⟨?_, he σ H1 _ (M.stab ok r1) (e.keep (M.keep r1)) fun y dy H2 r2 ey hy => ?_⟩
    · rw [q]
      exact .inl ⟨rfl, ys, SqL.of ha⟩
    rw [ey] at hy
    have hv2 := hv.keep (M.keep r2)
    rw [q] at hv2
    obtain ⟨zs, _, hz, hs2⟩ := hv2.lstOf
    have ez := AtAll.strs.mp hs2
    have lt : (xs.findIdx fun y => decide (y = x)) < xs.length := List.findIdx_lt_length_of_exists ⟨x, hx, by simp⟩
    have eqs : ∀ u w : Str, eqV (.str u) (.str w) = decide (u = w) := fun u w => by
      show (u == w) = decide (u = w)
      exact Bool.beq_eq_decide_eq u w
    refine ⟨a, zs, y, _, .str xs[xs.findIdx fun y => decide (y = x)], q, rfl, SqL.of hz, by rw [show y = V.str x from hy]; rfl, by rw [ez]; exact flat_strs xs, ?_, ?_, ?_, k _ _ H2 (M.trans r1 r2) rfl rfl⟩
    · rw [ez, List.getElem?_map, List.getElem?_eq_getElem lt]
      rfl
    · rw [show y = V.str x from hy, eqs]
      exact List.findIdx_getElem (p := fun y => decide (y = x)) (w := lt)
    · intro m z' hm hz'
      rw [ez, List.getElem?_map, List.getElem?_eq_getElem (Nat.lt_trans hm lt)] at hz'
      cases hz'
      rw [show y = V.str x from hy, eqs]
      exact eq_false_of_ne_true (by
        have := List.not_of_lt_findIdx hm
        simpa using this)
theorem x_lrg {te : TE} {n : Int} (h : Xd M G te (.int n)) (h0 : 0 ≤ n) (h1 : n ≤ 100000) : Xd M G (tLstRg (tRg1 te)) (.lst ((List.range n.toNat).map fun (i : Nat) => .int (i : Int))) := fun σ H Q ok e k =>
  h σ H _ ok e fun v d H1 r1 ed hv => by
    rw [ed] at hv
    refine ⟨n, hv, RgOk.of_le (by omega) (by omega) (by omega) (by omega), fun q hq => k _ _ _ (M.trans r1 (M.knew (M.stab ok r1) hq)) rfl ⟨q, _, rfl, M.nB (M.stab ok r1) hq, upd_same, ?_⟩⟩
    rw [AtAll.nats]
    unfold rgV
    rw [Int.sub_zero]
    exact List.map_congr_left fun i _ => by rw [Int.zero_add]
end
end Lf

/-! objects that a mode owns: they change from statement to statement, nobody else looks at them -/
namespace Lf
open PySem PySem.Spec PyProof.Rows L2
/-- S: the addresses; C: what stands there, with no data among what is forbidden -/
structure Own where
  S : Addr → Prop
  C : (Addr → Prop) → Hp → Prop
  keep : ∀ {B H H'}, C B H → (∀ a o, (S a ∨ ¬ B a) → H a = some o → H' a = some o) → C B H'
  less : ∀ {B B' : Addr → Prop} {H}, C B H → (∀ a, B' a → B a) → C B' H
  moreS : ∀ {B T : Addr → Prop} {H}, C B H → (∀ a, T a → H a = none) → C (fun a => B a ∨ T a) H
  live : ∀ {B H a}, C B H → S a → H a ≠ none
section
variable {K : PySem.W.Frag}
def Mode.own (M : Mode K) (O : Own) : Mode K where
  B := fun b => M.B b ∨ O.S b
  okX := fun X H => M.okX (fun b => X b ∨ O.S b) H ∧ (∀ a, O.S a → ¬ M.B a) ∧ O.C (fun b => (M.B b ∨ O.S b) ∨ X b) H
  R := fun H H' => M.R H H' ∧ ∀ a o, O.S a → H a = some o → H' a = some o
  F := fun H0 H => M.F H0 H ∧ ∀ a, O.S a → H0 a = none
  refl := fun H => ⟨M.refl H, fun _ _ _ e => e⟩
  trans := fun a b => ⟨M.trans a.1 b.1, fun x o s e => b.2 x o s (a.2 x o s e)⟩
  keep := fun h b o nb e => M.keep h.1 b o (fun z => nb (.inl z)) e
  freeX := fun h r e => M.freeX h.1 r.1 e
  trkX := fun h b => b.elim (fun z => M.trkX h.1 z) fun z => O.live h.2.2 z
  stabX := fun {X H H'} h r => ⟨M.stabX h.1 r.1, h.2.1, O.keep h.2.2 fun a o s e => s.elim (fun z => r.2 a o z e) fun z => M.keep r.1 a o (fun q => z (.inl (.inl q))) e⟩
  sameX := fun h s => ⟨M.sameX h.1 s, fun a o _ e => s a o e⟩
  moreS := fun {X S H} h hq => by
    refine ⟨M.less (M.moreS h.1 hq) fun a z => ?_, h.2.1, O.less (O.moreS h.2.2 hq) fun a z => ?_⟩
    · rcases z with (z | z) | z
      · exact .inl (.inl z)
      · exact .inr z
      · exact .inl (.inr z)
    · rcases z with z | z | z
      · exact .inl (.inl z)
      · exact .inl (.inr z)
      · exact .inr z
  less := fun h k => ⟨M.less h.1 fun a z => z.imp (k a) id, h.2.1, O.less h.2.2 fun a z => z.imp id (k a)⟩
  fr := fun f r => ⟨M.fr f.1 r.1, f.2⟩
  mutfS := fun f h e => ⟨M.mutfS f.1 h e, f.2⟩
  mutR := fun {X H H' q o} ok r h => ⟨M.mutR ok.1 r.1 h, fun a u s e => by rw [upd_ne (ne_of_none e h)]; exact r.2 a u s e⟩
  mutXS := fun {X S H0 H H'} f h ok eq => by
    refine ⟨M.mutXS f.1 (fun a z => ⟨(h a z).1, fun b => (h a z).2.1 (.inl b), .inl (h a z).2.2⟩) ok.1 eq, ok.2.1, O.keep ok.2.2 fun a o s e => ?_⟩
    rw [eq a fun z => s.elim (fun q => (h a z).2.1 (.inr q)) fun q => q (.inr (h a z).2.2)]
    exact e
  fback := fun f e => M.fback f.1 e
/-- what is owned is changed: nothing else, but what is new -/
theorem Sg.mut {M : Mode K} {O O' : Own} {G : List (Option Dt)} {H0 H H' : Hp} {L : List (Dt × V)} {σ : L2.St} (h : Sg (M.own O) H0 L G σ H) (fr : ∀ a o, ¬ O.S a → H a = some o → H' a = some o) (hs : ∀ a, O'.S a → O.S a ∨ H a = none) (hc : O'.C (fun b => M.B b ∨ O'.S b) H') : Sg (M.own O') H0 L G σ H' := by
  classical
  have e : ∃ H'' : Hp, Same H H'' ∧ ∀ a, ¬ O.S a → H' a = H'' a := ⟨fun a => if O.S a then H a else H' a, fun a o q => by
    by_cases z : O.S a
    · show (if O.S a then H a else H' a) = _
      rw [if_pos z]
      exact q
    · show (if O.S a then H a else H' a) = _
      rw [if_neg z]
      exact fr a o z q, fun a n => by
    show H' a = if O.S a then H a else H' a
    rw [if_neg n]⟩
  obtain ⟨H'', sm, off⟩ := e
  have r : M.R H H'' := M.sameX h.ok.1 sm
  have o1 : M.okX (fun b => (False ∨ O.S b) ∨ (O'.S b ∧ H b = none)) H := M.moreS h.ok.1 fun a z => z.2
  have o2 := M.stabX o1 r
  have f1 := M.fr h.fr.1 r
  have o3 := M.mutXS (S := O.S) f1 (fun a z => ⟨h.fr.2 a z, h.ok.2.1 a z, .inl (.inr z)⟩) o2 off
  have f2 := M.mutfS (S := O.S) f1 h.fr.2 off
  have at' : ∀ b o, ¬ (M.B b ∨ O.S b) → H b = some o → ¬ (M.B b ∨ O'.S b) ∧ H' b = some o := fun b o nb q => ⟨fun z => z.elim (fun z => nb (.inl z)) fun z => (hs b z).elim (fun w => nb (.inr w)) fun w => (by rw [w] at q; cases q), fr b o (fun z => nb (.inr z)) q⟩
  refine ⟨⟨M.less o3 fun a z => z.elim (fun w => w.elim) fun w => ?_, fun a z => ?_, O'.less hc fun a z => z.elim id fun z => z.elim⟩, ⟨f2, fun a z => ?_⟩, fun g z => At.map at' _ _ (h.gh g z), Env.map at' h.env⟩
  · rcases hs a w with q | q
    · exact .inl (.inr q)
    · exact .inr ⟨w, q⟩
  · rcases hs a z with q | q
    · exact h.ok.2.1 a q
    · exact fun b => M.trkX h.ok.1 b q
  · rcases hs a z with q | q
    · exact h.fr.2 a q
    · exact M.fback h.fr.1 q
/-- what is new is owned from here on -/
theorem Sg.own {M : Mode K} {O : Own} {G : List (Option Dt)} {H0 H H' : Hp} {L : List (Dt × V)} {σ : L2.St} (h : Sg M H0 L G σ H) (r : Same H H') (hs : ∀ a, O.S a → H a = none) (hc : O.C (fun b => M.B b ∨ O.S b) H') : Sg (M.own O) H0 L G σ H' := by
  have r' : M.R H H' := M.same h.ok r
  have at' : ∀ b o, ¬ M.B b → H b = some o → ¬ (M.B b ∨ O.S b) ∧ H' b = some o := fun b o nb q => ⟨fun z => z.elim nb fun z => (by rw [hs b z] at q; cases q), r b o q⟩
  exact ⟨⟨M.stabX (M.moreS h.ok hs) r', fun a z b => M.trk h.ok b (hs a z), O.less hc fun a z => z.elim id fun z => z.elim⟩, ⟨M.fr h.fr r', fun a z => M.fback h.fr (hs a z)⟩, fun g z => At.map at' _ _ (h.gh g z), Env.map at' h.env⟩
/-- a mode, or one within it, owns -/
structure HasO (M : Mode K) (O : Own) : Prop where
  sub : ∀ a, O.S a → M.B a
  ok : ∀ {X H}, M.okX X H → O.C (fun b => M.B b ∨ X b) H
  st : ∀ {H H' a o}, M.R H H' → O.S a → H a = some o → H' a = some o
theorem HasO.own {M : Mode K} {O : Own} : HasO (M.own O) O := ⟨fun a z => .inr z, fun h => h.2.2, fun r s e => r.2 _ _ s e⟩
theorem HasO.bld {M : Mode K} {O : Own} (h : HasO M O) {p : Addr} {ds : List Dt} : HasO (M.bld p ds) O := ⟨fun a z => .inl (h.sub a z), fun {X H} o => O.less (h.ok o.1) fun a z => by
  rcases z with (z | z) | z
  · exact .inl z
  · exact .inr (.inr z)
  · exact .inr (.inl z), fun r s e => h.st r.1 s e⟩
theorem HasO.at {M : Mode K} {O : Own} (h : HasO M O) {H : Hp} (o : M.ok H) : O.C M.B H := O.less (h.ok o) fun a z => .inl z
/-- owned within built: the other way round -/
theorem Sg.swap {M : Mode K} {O : Own} {G : List (Option Dt)} {H0 H : Hp} {L : List (Dt × V)} {σ : L2.St} {q : Addr} {fs : List Dt} (h : Sg ((M.bld q fs).own O) H0 L G σ H) : Sg ((M.own O).bld q fs) H0 L G σ H := by
  obtain ⟨o1, o2, o3⟩ := h.ok
  obtain ⟨p1, p2, xs, p3, p4⟩ := o1
  have eB : ∀ b, ((M.B b ∨ O.S b) ∨ b = q) → ((M.B b ∨ b = q) ∨ O.S b) := fun b z => by
    rcases z with (z | z) | z
    · exact .inl (.inl z)
    · exact .inr z
    · exact .inl (.inr z)
  refine ⟨⟨⟨M.less p1 fun a z => ?_, fun a z w => o2 a z (.inl w), O.less o3 fun a z => ?_⟩, ?_, xs, p3, p4.less fun a z => ?_⟩, ⟨⟨h.fr.1.1, h.fr.2⟩, h.fr.1.2⟩, fun g z => (h.gh g z).less eB, h.env.less eB⟩
  · rcases z with (z | z) | z
    · exact z.elim
    · exact .inr z
    · exact .inl (.inr z)
  · rcases z with (z | z) | (z | z)
    · exact .inl (.inl (.inl z))
    · exact .inl (.inr z)
    · exact z.elim
    · exact .inl (.inl (.inr z))
  · rintro (z | z)
    · exact p2 z
    · exact o2 q z (.inr rfl)
  · rcases z with ((z | z) | z) | z
    · exact .inl (.inl z)
    · exact .inr (.inr z)
    · exact .inl (.inr z)
    · exact z.elim
theorem Sg.swap' {M : Mode K} {O : Own} {G : List (Option Dt)} {H0 H : Hp} {L : List (Dt × V)} {σ : L2.St} {q : Addr} {fs : List Dt} (h : Sg ((M.own O).bld q fs) H0 L G σ H) : Sg ((M.bld q fs).own O) H0 L G σ H := by
  obtain ⟨⟨o1, o2, o3⟩, p2, xs, p3, p4⟩ := h.ok
  have eB : ∀ b, ((M.B b ∨ b = q) ∨ O.S b) → ((M.B b ∨ O.S b) ∨ b = q) := fun b z => by
    rcases z with (z | z) | z
    · exact .inl (.inl z)
    · exact .inr z
    · exact .inl (.inr z)
  refine ⟨⟨⟨M.less o1 fun a z => ?_, fun w => p2 (.inl w), xs, p3, p4.less fun a z => ?_⟩, ?_, O.less o3 fun a z => ?_⟩, ⟨⟨h.fr.1.1, h.fr.2⟩, h.fr.1.2⟩, fun g z => (h.gh g z).less eB, h.env.less eB⟩
  · rcases z with (z | z) | z
    · exact z.elim
    · exact .inr z
    · exact .inl (.inr z)
  · rcases z with (z | z) | (z | z)
    · exact .inl (.inl (.inl z))
    · exact .inl (.inr z)
    · exact z.elim
    · exact .inl (.inl (.inr z))
  · rintro a z (w | w)
    · exact o2 a z w
    · exact p2 (.inr (w ▸ z))
  · rcases z with ((z | z) | z) | z
    · exact .inl (.inl z)
    · exact .inr (.inr z)
    · exact .inl (.inr z)
    · exact z.elim
end
/-! ### an instance that is being filled -/
section
variable {K : PySem.W.Frag}
def insO (K : PySem.W.Frag) (x : Addr) (c : Str) (dx : Addr) (ks : List Str) (ds : List Dt) : Own where
  S := fun a => a = x
  C := fun B H => ∃ vs, H x = some (.ins (He.ga K c) dx (ks.zip vs)) ∧ AtAll K B H ds vs
  keep := fun h k => by
    obtain ⟨vs, h1, h2⟩ := h
    exact ⟨vs, k _ _ (.inl rfl) h1, h2.keep fun b o nb e => k b o (.inr nb) e⟩
  less := fun h k => by
    obtain ⟨vs, h1, h2⟩ := h
    exact ⟨vs, h1, h2.less k⟩
  moreS := fun h k => by
    obtain ⟨vs, h1, h2⟩ := h
    exact ⟨vs, h1, h2.moreS k⟩
  live := fun {B H a} h z => by
    obtain ⟨vs, h1, _⟩ := h
    rw [show a = x from z, h1]
    exact fun w => nomatch w
theorem putF_zip {f : Str} {v : V} : ∀ {ks : List Str} {vs : List V}, ks.length = vs.length → f ∉ ks → putF f v (ks.zip vs) = (ks ++ [f]).zip (vs ++ [v])
  | [], [], _, _ => rfl
  | k :: ks, [], h, _ => by simp at h
  | [], _ :: _, h, _ => by simp at h
  | k :: ks, w :: vs, h, n => by
    simp only [List.mem_cons, not_or] at n
    show (if k = f then (k, v) :: ks.zip vs else (k, w) :: putF f v (ks.zip vs)) = _
    rw [if_neg fun z => n.1 z.symm, putF_zip (by simpa using h) n.2]
    rfl
section
variable {M : Mode K} {G : List (Option Dt)} {H0 H : Hp} {L : List (Dt × V)} {σ : L2.St} {x dx : Addr} {c f : Str} {ks : List Str} {ds : List Dt} {D : Ends} {te : TE} {i : Nat}
/-- self.f = te -/
theorem s_put {P : Dt → Prop} (cl : Cls K (He.ga K c)) (na : NoAttr K (He.ga K c) f) (hi : G[i]? = some (some (.raw x))) (hf : f ∉ ks) (hk : ks.length = ds.length) (hl : ks.length < 100) (hx : Xe (M.own (insO K x c dx ks ds)) G te P) (h : Sg (M.own (insO K x c dx ks ds)) H0 L G σ H)
    (k : ∀ d H', P d → Sg (M.own (insO K x c dx (ks ++ [f]) (ds ++ [d]))) H0 L G σ H' → D.nx σ H') : sFld K (tVar i) te f D σ H := by
  refine hx σ H _ h.ok h.env fun v d H1 r1 pd' hv => ?_
  have h1 := h.go r1
  obtain ⟨w, e1, e2⟩ := h1.env.2 i _ hi
  have ew : w = V.ref x := e2
  subst ew
  obtain ⟨vs, hx1, hx2⟩ := HasO.at HasO.own h1.ok
  have lv : ks.length = vs.length := by rw [hx2.length, hk]
  refine ⟨_, e1, x, _, dx, _, rfl, hx1, cl, na, by rw [List.length_zip]; omega, k d _ pd' ?_⟩
  rw [putF_zip lv hf]
  have kp : Keep (fun b => M.B b ∨ b = x) H1 (upd H1 x (.ins (He.ga K c) dx ((ks ++ [f]).zip (vs ++ [v])))) := fun b o nb e => by
    rw [upd_ne fun z => nb (.inr z)]
    exact e
  exact h1.mut (O' := insO K x c dx (ks ++ [f]) (ds ++ [d])) (fun a o na' e => by rw [upd_ne na']; exact e) (fun a z => .inl z) ⟨_, upd_same, (hx2.keep kp).app (AtAll.one (hv.keep kp))⟩
/-- a field of it -/
theorem x_own {d : Dt} (cl : Cls K (He.ga K c)) (na : NoAttr K (He.ga K c) f) (ho : HasO M (insO K x c dx ks ds)) (hi : G[i]? = some (some (.raw x))) (hf : (ks.zip ds).lookup f = some d) : Xd M G (tFld K (tVar i) f) d := fun σ H Q ok e k => by
  obtain ⟨w, e1, e2⟩ := e.2 i _ hi
  have ew : w = V.ref x := e2
  subst ew
  obtain ⟨vs, hx1, hx2⟩ := ho.at ok
  obtain ⟨v, h1, h2⟩ := zip_lookup hf hx2
  exact ⟨_, e1, x, _, dx, _, v, rfl, hx1, cl, na, h1, k v d H (M.refl H) rfl h2⟩
end
end
/-! ### the frames of an __init__, of a def that gives a new list -/
section
variable {P : Program} {w : World} {K : PySem.W.Frag} {mg : Str → Option Value} {base : Heap}
variable {x qual : Str} {params : Arguments} {body : List Stmt} {scope : Scope} {f : Addr} {fd : FuncData} {N ps : List Str} {k : Nat}
theorem ini_ok {c : Str} {pre : List Dt → List Str → List Dt → Prop} (F : FunD K x qual params body scope [] [] f fd) (S : FnScope N ps scope) (hl : ∀ ds ks rs, pre ds ks rs → ds.length + 1 = ps.length)
    (hb : ∀ (cdv : Value) (A : Around) (outer : List PySem.Env) (s : Shared) (H0 H : Hp) (σ : L2.St) (Q : VK) (E : XK) (B : Addr → Prop) (p dp : Addr) (ds : List Dt) (ks : List Str) (rs : List Dt), Room k (A.deeper (envOfC qual scope s.heap.objs.size f cdv)) → pre ds ks rs →
      Sg ((pureM K B).own (insO K p c dp [] [])) H0 [] ((Dt.raw p :: ds).map some ++ List.replicate (N.length - (ds.length + 1)) none) σ H → (∀ σ' H', Sg ((pureM K B).own (insO K p c dp ks rs)) H0 [] ((Dt.raw p :: ds).map some ++ List.replicate (N.length - (ds.length + 1)) none) σ' H' → Q .non H') →
      ∃ t, PSs (cxOf CX0 P w K mg base N qual scope f cdv A outer s H E).nox body t ∧ t { nx := fun _ H' => Q .non H', rt := Q } σ H) : FnOk P w K mg base CX0 (k + 1) f fd ps (spI K c pre) := by
  classical
  refine F.ok S (fun vs H Q E h => ?_) (fun cdv A outer s H vs Q E hr h => ?_)
  · obtain ⟨B, ds, ks, rs, p, dp, ws, e, h0, h1, h2, h3, h4, _⟩ := h
    rw [e, List.length_cons, h3.length, hl ds ks rs h4]
  · obtain ⟨B, ds, ks, rs, p, dp, ws, e, h0, h1, h2, h3, h4, h5⟩ := h
    subst e
    have hv : AtAll K (fun b => B b ∨ b = p) H (Dt.raw p :: ds) (.ref p :: ws) := ⟨_, _, rfl, rfl, h3⟩
    have sg : Sg ((pureM K B).own (insO K p c dp [] [])) (fun a => if a = p then none else H a) [] ((Dt.raw p :: ds).map some ++ List.replicate (N.length - (ds.length + 1)) none) (start N (.ref p :: ws)) H := by
      refine ⟨⟨h0, fun a z => ?_, [], h2, rfl⟩, ⟨fun a o z => ?_, fun a z => if_pos z⟩, (fun g z => by cases z), ?_⟩
      · rw [show a = p from z]
        exact h1
      · have z' : (if a = p then none else H a) = some o := z
        by_cases ea : a = p
        · rw [if_pos ea] at z'
          cases z'
        · rw [if_neg ea] at z'
          exact z'
      · show Env K (fun b => B b ∨ b = p) H _ ((V.ref p :: ws).map some ++ List.replicate (N.length - (V.ref p :: ws).length) none)
        rw [hv.length]
        exact Env.start _ hv
    obtain ⟨t, q1, q2⟩ := hb cdv A outer s _ H (start N (.ref p :: ws)) Q E B p dp ds ks rs hr h4 sg fun σ' H' sg' => h5 H' (fun b o nb e => sg'.fr.1 b o ((if_neg nb).trans e)) (by
      obtain ⟨vs, g1, g2⟩ := HasO.at HasO.own sg'.ok
      exact ⟨p, dp, vs, rfl, h1, g1, g2.less fun a z => .inl z⟩)
    exact ⟨t, q1.nox, q2⟩
/-- a def that gives a new list -/
def spF (K : PySem.W.Frag) (pre : List Dt → List Dt → Prop) : Sp := fun vs H Q _ => ∃ (B : Addr → Prop) (ds rs : List Dt), (∀ a, B a → H a ≠ none) ∧ AtAll K B H ds vs ∧ pre ds rs ∧ ∀ p xs H', Same H H' → H p = none → H' p = some (.lst xs) → AtAll K (fun b => B b ∨ b = p) H' rs xs → Q (.ref p) H'
theorem new_ok {pre : List Dt → List Dt → Prop} (F : FunD K x qual params body scope [] [] f fd) (S : FnScope N ps scope) (hl : ∀ ds r, pre ds r → ds.length = ps.length)
    (hb : ∀ (cdv : Value) (A : Around) (outer : List PySem.Env) (s : Shared) (H : Hp) (σ : L2.St) (Q : VK) (E : XK) (B : Addr → Prop) (ds r : List Dt), Room k (A.deeper (envOfC qual scope s.heap.objs.size f cdv)) → pre ds r →
      Sg (pureM K B) H [] (ds.map some ++ List.replicate (N.length - ds.length) none) σ H → (∀ (i : Nat) (p : Addr) G σ' H', G[i]? = some (some (.raw p)) → Sg ((pureM K B).bld p r) H [] G σ' H' → tRet (tVar i) { nx := fun _ H' => Q .non H', rt := Q } σ' H') →
      ∃ t, PSs (cxOf CX0 P w K mg base N qual scope f cdv A outer s H E).nox body t ∧ t { nx := fun _ H' => Q .non H', rt := Q } σ H) : FnOk P w K mg base CX0 (k + 1) f fd ps (spF K pre) := by
  refine F.ok S (fun vs H Q E h => ?_) (fun cdv A outer s H vs Q E hr h => ?_)
  · obtain ⟨B, ds, r, h1, h2, h3, _⟩ := h
    rw [h2.length, hl ds r h3]
  · obtain ⟨B, ds, r, h1, h2, h3, h4⟩ := h
    obtain ⟨t, q1, q2⟩ := hb cdv A outer s H (start N vs) Q E B ds r hr h3 ⟨h1, Same.refl H, (fun g z => by cases z), by
      show Env K B H _ (vs.map some ++ List.replicate (N.length - vs.length) none)
      rw [h2.length]
      exact Env.start _ h2⟩ fun i p G σ' H' hi sg => by
        obtain ⟨v, e1, e2⟩ := sg.env.2 i _ hi
        have ev : v = V.ref p := e2
        subst ev
        obtain ⟨xs, g1, g2⟩ := bld_at sg.ok
        exact ⟨_, e1, h4 p xs H' sg.fr.1 sg.fr.2 g1 g2⟩
    exact ⟨t, q1.nox, q2⟩
theorem xn_call {M : Mode K} {G : List (Option Dt)} {pre : List Dt → List Dt → Prop} {ta : TA} {ds rs : List Dt} (ha : Xa M G ta (· = ds)) (hp : pre ds rs) : Xn M G (tCall (spF K pre) [] E0 ta) (· = rs) := fun σ H Q ok e k =>
  ha σ H _ ok e fun vs ds' H1 r1 ed hs => by
    rw [ed] at hs
    have o1 := M.stab ok r1
    exact ⟨M.B, ds, rs, fun a b => M.trk o1 b, by rw [List.append_nil]; exact hs, hp, fun p xs H2 s2 hp2 h2 hx => k p xs rs H2 (M.trans r1 (M.same o1 s2)) rfl (M.free ok r1 hp2) h2 hx⟩
end
end Lf

/-! loops whose turns are known; what is forgotten -/
namespace Lf
open PySem PySem.Spec PyProof.Rows L2
/-- the second knows no more than the first -/
inductive GLe : List (Option Dt) → List (Option Dt) → Prop
  | nil : GLe [] []
  | keep {x : Option Dt} {r s : List (Option Dt)} : GLe r s → GLe (x :: r) (x :: s)
  | drop {x : Option Dt} {r s : List (Option Dt)} : GLe r s → GLe (x :: r) (none :: s)
theorem GLe.same : ∀ G : List (Option Dt), GLe G G
  | [] => .nil
  | _ :: G => .keep (GLe.same G)
theorem GLe.get {G G' : List (Option Dt)} (h : GLe G G') : G.length = G'.length ∧ ∀ (i : Nat) (d : Dt), G'[i]? = some (some d) → G[i]? = some (some d) := by
  induction h with
  | nil => exact ⟨rfl, fun i d e => e⟩
  | keep h ih =>
    refine ⟨by rw [List.length_cons, List.length_cons, ih.1], fun i d e => ?_⟩
    cases i with
    | zero => exact e
    | succ i => exact ih.2 i d e
  | drop h ih =>
    refine ⟨by rw [List.length_cons, List.length_cons, ih.1], fun i d e => ?_⟩
    cases i with
    | zero => cases e
    | succ i => exact ih.2 i d e
section
variable {K : PySem.W.Frag} {M : Mode K} {G G' : List (Option Dt)} {H0 H : Hp} {L : List (Dt × V)} {σ : L2.St}
theorem Env.weak {B : Addr → Prop} (h : Env K B H G σ) (w : GLe G G') : Env K B H G' σ := ⟨h.1.trans w.get.1, fun i d e => h.2 i d (w.get.2 i d e)⟩
theorem Sg.weak (h : Sg M H0 L G σ H) (w : GLe G G') : Sg M H0 L G' σ H := ⟨h.ok, h.fr, h.gh, h.env.weak w⟩
variable {n b c : L2.St → Hp → Prop} {r : VK} {wi : TI} {g : TG} {tb u : TS} {js : List Nat} {ds : List Dt}
/-- a loop whose turns are known -/
theorem q_forD (Mm : Nat → Mode K) (Gm : Nat → List (Option Dt)) (Gt : Nat → Dt → List (Option Dt)) (h : Sg (Mm 0) H0 L (Gm 0) σ H) (hi : Xi (Mm 0) (Gm 0) wi ds)
    (hg : ∀ (i : Nat) (d : Dt), ds[i]? = some d → Xg (Mm i) (Gm i) g d (Gt i d) js)
    (hs : ∀ (i : Nat) (d : Dt) (L' : List (Dt × V)) (σ' : L2.St) (H' : Hp), ds[i]? = some d → Sg (Mm i) H0 L' (Gt i d) σ' H' →
      tb ⟨fun σ2 H2 => Sg (Mm (i + 1)) H0 L' (Gm (i + 1)) σ2 H2, r, u ⟨n, r, b, c⟩, fun σ2 H2 => Sg (Mm (i + 1)) H0 L' (Gm (i + 1)) σ2 H2⟩ σ' H')
    (hd : ∀ (σ' : L2.St) (H' : Hp), Sg (Mm ds.length) H0 L (Gm ds.length) σ' H' → u ⟨n, r, b, c⟩ σ' H') : tSeq (tFor wi g tb) u ⟨n, r, b, c⟩ σ H := by
  refine q_for (js := js) (α := { k : Nat // k ≤ ds.length }) h hi (fun a => Mm a.1) (fun a => Gm a.1) (fun a d => Gt a.1 d) (fun i a => a.1 = i) ⟨0, Nat.zero_le _⟩ rfl rfl rfl ?_ ?_ ?_
  · rintro i d ⟨a, ha⟩ e (rfl : a = i)
    exact hg a d e
  · rintro i d ⟨a, ha⟩ L' σ' H' e (rfl : a = i) s
    have hlt : a < ds.length := (List.getElem?_eq_some_iff.mp e).1
    have key := hs a d L' σ' H' e s
    refine Eq.mp ?_ key
    have eq : (fun σ2 H2 => Sg (Mm (a + 1)) H0 L' (Gm (a + 1)) σ2 H2) = fun σ2 H2 => ∃ a' : { k : Nat // k ≤ ds.length }, a'.1 = a + 1 ∧ Sg (Mm a'.1) H0 L' (Gm a'.1) σ2 H2 := by
      funext σ2 H2
      apply propext
      constructor
      · exact fun z => ⟨⟨a + 1, hlt⟩, rfl, z⟩
      · rintro ⟨⟨k, hk⟩, (ek : k = a + 1), z⟩
        subst ek
        exact z
    rw [eq]
  · rintro ⟨a, ha⟩ σ' H' (ea : a = ds.length) s
    subst ea
    exact hd σ' H' s
/-- a loop whose turns are known, last -/
theorem e_forD (Mm : Nat → Mode K) (Gm : Nat → List (Option Dt)) (Gt : Nat → Dt → List (Option Dt)) (h : Sg (Mm 0) H0 L (Gm 0) σ H) (hi : Xi (Mm 0) (Gm 0) wi ds)
    (hg : ∀ (i : Nat) (d : Dt), ds[i]? = some d → Xg (Mm i) (Gm i) g d (Gt i d) js)
    (hs : ∀ (i : Nat) (d : Dt) (L' : List (Dt × V)) (σ' : L2.St) (H' : Hp), ds[i]? = some d → Sg (Mm i) H0 L' (Gt i d) σ' H' →
      tb ⟨fun σ2 H2 => Sg (Mm (i + 1)) H0 L' (Gm (i + 1)) σ2 H2, r, n, fun σ2 H2 => Sg (Mm (i + 1)) H0 L' (Gm (i + 1)) σ2 H2⟩ σ' H')
    (hd : ∀ (σ' : L2.St) (H' : Hp), Sg (Mm ds.length) H0 L (Gm ds.length) σ' H' → n σ' H') : tFor wi g tb ⟨n, r, b, c⟩ σ H := by
  refine e_for (js := js) (α := { k : Nat // k ≤ ds.length }) h hi (fun a => Mm a.1) (fun a => Gm a.1) (fun a d => Gt a.1 d) (fun i a => a.1 = i) ⟨0, Nat.zero_le _⟩ rfl rfl rfl ?_ ?_ ?_
  · rintro i d ⟨a, ha⟩ e (rfl : a = i)
    exact hg a d e
  · rintro i d ⟨a, ha⟩ L' σ' H' e (rfl : a = i) s
    have hlt : a < ds.length := (List.getElem?_eq_some_iff.mp e).1
    have key := hs a d L' σ' H' e s
    refine Eq.mp ?_ key
    have eq : (fun σ2 H2 => Sg (Mm (a + 1)) H0 L' (Gm (a + 1)) σ2 H2) = fun σ2 H2 => ∃ a' : { k : Nat // k ≤ ds.length }, a'.1 = a + 1 ∧ Sg (Mm a'.1) H0 L' (Gm a'.1) σ2 H2 := by
      funext σ2 H2
      apply propext
      constructor
      · exact fun z => ⟨⟨a + 1, hlt⟩, rfl, z⟩
      · rintro ⟨⟨k, hk⟩, (ek : k = a + 1), z⟩
        subst ek
        exact z
    rw [eq]
  · rintro ⟨a, ha⟩ σ' H' (ea : a = ds.length) s
    subst ea
    exact hd σ' H' s
/-- .. over a list, into a name -/
theorem q_forN {j : Nat} (Mm : Nat → Mode K) (Gm : Nat → List (Option Dt)) (h : Sg (Mm 0) H0 L (Gm 0) σ H) (hi : Xi (Mm 0) (Gm 0) wi ds)
    (hs : ∀ (i : Nat) (d : Dt) (L' : List (Dt × V)) (σ' : L2.St) (H' : Hp), ds[i]? = some d → Sg (Mm i) H0 L' ((Gm i).set j (some d)) σ' H' →
      tb ⟨fun σ2 H2 => Sg (Mm (i + 1)) H0 L' (Gm (i + 1)) σ2 H2, r, u ⟨n, r, b, c⟩, fun σ2 H2 => Sg (Mm (i + 1)) H0 L' (Gm (i + 1)) σ2 H2⟩ σ' H')
    (hd : ∀ (σ' : L2.St) (H' : Hp), Sg (Mm ds.length) H0 L (Gm ds.length) σ' H' → u ⟨n, r, b, c⟩ σ' H') : tSeq (tFor wi (gName j) tb) u ⟨n, r, b, c⟩ σ H :=
  q_forD (js := [j]) Mm Gm (fun i d => (Gm i).set j (some d)) h hi (fun i d e => xg_name) hs hd
/-- .. over range(k) -/
theorem q_forR {ta : TA} {j k : Nat} (Mm : Nat → Mode K) (Gm : Nat → List (Option Dt)) (h : Sg (Mm 0) H0 L (Gm 0) σ H) (hi : Xa (Mm 0) (Gm 0) ta (· = [.int (k : Int)])) (hk : k ≤ 100000)
    (hs : ∀ (i : Nat) (L' : List (Dt × V)) (σ' : L2.St) (H' : Hp), i < k → Sg (Mm i) H0 L' ((Gm i).set j (some (.int (i : Int)))) σ' H' →
      tb ⟨fun σ2 H2 => Sg (Mm (i + 1)) H0 L' (Gm (i + 1)) σ2 H2, r, u ⟨n, r, b, c⟩, fun σ2 H2 => Sg (Mm (i + 1)) H0 L' (Gm (i + 1)) σ2 H2⟩ σ' H')
    (hd : ∀ (σ' : L2.St) (H' : Hp), Sg (Mm k) H0 L (Gm k) σ' H' → u ⟨n, r, b, c⟩ σ' H') : tSeq (tFor (iRng1 ta) (gName j) tb) u ⟨n, r, b, c⟩ σ H := by
  have el : ((List.range (k : Int).toNat).map fun (i : Nat) => Dt.int (i : Int)).length = k := by simp
  refine q_forN Mm Gm h (xi_rng1 hi (by omega) (by omega)) (fun i d L' σ' H' e s => ?_) fun σ' H' s => hd σ' H' (by rw [el] at s; exact s)
  have hi : i < k := by rw [← el]; exact (List.getElem?_eq_some_iff.mp e).1
  rw [Int.toNat_natCast, List.getElem?_map, List.getElem?_range hi] at e
  cases e
  exact hs i L' σ' H' hi s
/-- .. over (i, item) -/
theorem q_forE {j l : Nat} (Mm : Nat → Mode K) (Gm : Nat → List (Option Dt)) (h : Sg (Mm 0) H0 L (Gm 0) σ H) (hi : Xi (Mm 0) (Gm 0) wi (enumD 0 ds))
    (hs : ∀ (i : Nat) (d : Dt) (L' : List (Dt × V)) (σ' : L2.St) (H' : Hp), ds[i]? = some d → Sg (Mm i) H0 L' (((Gm i).set j (some (.int (i : Int)))).set l (some d)) σ' H' →
      tb ⟨fun σ2 H2 => Sg (Mm (i + 1)) H0 L' (Gm (i + 1)) σ2 H2, r, u ⟨n, r, b, c⟩, fun σ2 H2 => Sg (Mm (i + 1)) H0 L' (Gm (i + 1)) σ2 H2⟩ σ' H')
    (hd : ∀ (σ' : L2.St) (H' : Hp), Sg (Mm ds.length) H0 L (Gm ds.length) σ' H' → u ⟨n, r, b, c⟩ σ' H') : tSeq (tFor wi (gTup K 2 (gCons (gName j) (gCons (gName l) gNil))) tb) u ⟨n, r, b, c⟩ σ H := by
  have of : ∀ {i : Nat} {d : Dt}, (enumD 0 ds)[i]? = some d → ∃ x, ds[i]? = some x ∧ d = .tup [.int (i : Int), x] := fun {i d} e => by
    rw [enumD_get, Nat.zero_add] at e
    cases q : ds[i]? with
    | none => rw [q] at e; cases e
    | some x =>
      rw [q] at e
      exact ⟨x, rfl, (Option.some.inj e).symm⟩
  refine q_forD (js := [j, l]) Mm Gm (fun i d => match d with
    | .tup [a, x] => ((Gm i).set j (some a)).set l (some x)
    | _ => Gm i) h hi (fun i d e => ?_) (fun i d L' σ' H' e s => ?_) fun σ' H' s => hd σ' H' (by rw [enumD_length] at s; exact s)
  · obtain ⟨x, _, rfl⟩ := of e
    exact xg_two
  · obtain ⟨x, ex, rfl⟩ := of e
    exact hs i x L' σ' H' ex s
/-- .. over (i, item), last -/
theorem e_forE {j l : Nat} (Mm : Nat → Mode K) (Gm : Nat → List (Option Dt)) (h : Sg (Mm 0) H0 L (Gm 0) σ H) (hi : Xi (Mm 0) (Gm 0) wi (enumD 0 ds))
    (hs : ∀ (i : Nat) (d : Dt) (L' : List (Dt × V)) (σ' : L2.St) (H' : Hp), ds[i]? = some d → Sg (Mm i) H0 L' (((Gm i).set j (some (.int (i : Int)))).set l (some d)) σ' H' →
      tb ⟨fun σ2 H2 => Sg (Mm (i + 1)) H0 L' (Gm (i + 1)) σ2 H2, r, n, fun σ2 H2 => Sg (Mm (i + 1)) H0 L' (Gm (i + 1)) σ2 H2⟩ σ' H')
    (hd : ∀ (σ' : L2.St) (H' : Hp), Sg (Mm ds.length) H0 L (Gm ds.length) σ' H' → n σ' H') : tFor wi (gTup K 2 (gCons (gName j) (gCons (gName l) gNil))) tb ⟨n, r, b, c⟩ σ H := by
  have of : ∀ {i : Nat} {d : Dt}, (enumD 0 ds)[i]? = some d → ∃ x, ds[i]? = some x ∧ d = .tup [.int (i : Int), x] := fun {i d} e => by
    rw [enumD_get, Nat.zero_add] at e
    cases q : ds[i]? with
    | none => rw [q] at e; cases e
    | some x =>
      rw [q] at e
      exact ⟨x, rfl, (Option.some.inj e).symm⟩
  refine e_forD (js := [j, l]) Mm Gm (fun i d => match d with
    | .tup [a, x] => ((Gm i).set j (some a)).set l (some x)
    | _ => Gm i) h hi (fun i d e => ?_) (fun i d L' σ' H' e s => ?_) fun σ' H' s => hd σ' H' (by rw [enumD_length] at s; exact s)
  · obtain ⟨x, _, rfl⟩ := of e
    exact xg_two
  · obtain ⟨x, ex, rfl⟩ := of e
    exact hs i x L' σ' H' ex s
/-- a list or a tuple that is walked -/
def iSeqA (K : PySem.W.Frag) (te : TE) : TI := fun σ H R => te σ H fun v H1 => ∃ a xs, v = .ref a ∧ ((SqL K H1 a xs ∧ R (Itl K a) H1) ∨ (SqT K H1 a xs ∧ R (Itt K a) H1))
theorem pi_seqA {X : Cx} {tg e : Expr} {te : TE} (he : PE X e te) : PI X tg e (iSeqA X.K te) := by
  refine ⟨fun pins s σ H R I hw => thn (he.run pins s σ H _ I hw) fun v s1 ⟨x, H1, I1, r1, q1⟩ => ?_⟩
  obtain ⟨a, xs, ex, q1⟩ := q1
  subst ex
  cases r1
  rcases q1 with ⟨hq, q⟩ | ⟨hq, q⟩
  · obtain ⟨its, rv, p, _⟩ := I1.list hq
    exact wpAny_pyIter_list p.isList (pi_one (tk := s1.toks) I1 _ (turn_list a _) ⟨_, Heap.get?_push_size _ rfl, rfl, rfl⟩ q)
  · obtain ⟨its, rv, p, _⟩ := I1.tuple hq
    exact wpAny_pyIter_tuple (show s1.heap.IsTuple a its.toArray from p) (pi_one (tk := s1.toks) I1 _ (turn_tuple a _) ⟨_, Heap.get?_push_size _ rfl, rfl, rfl⟩ q)
theorem xi_seqL {te : TE} {ds : List Dt} (h : Xd M G te (.lst ds)) : Xi M G (iSeqA K te) ds := fun σ H R ok e k => h σ H _ ok e fun v d H1 r1 ed hv => by
  rw [ed] at hv
  obtain ⟨a, xs, q, nb, ha, hx⟩ := id hv
  rw [q] at hv
  refine ⟨a, xs, q, .inl ⟨SqL.of ha, k _ [(.lst ds, .ref a)] H1 r1 (fun g z => by rw [List.mem_singleton.mp z]; exact hv) ⟨_, _, wk_list, fun B H tr gh => ?_⟩⟩⟩
  obtain ⟨ys, _, h1, h2⟩ := (gh _ (List.mem_singleton.mpr rfl)).lstOf
  refine ⟨⟨ys, h1, h2.length⟩, fun i x H' hi y => ?_⟩
  obtain ⟨e1, zs, e2, e3⟩ := y
  rw [h1] at e2
  cases e2
  rw [e1]
  exact ⟨Same.refl _, h2.got e3⟩
theorem xi_seqT {te : TE} {ds : List Dt} (h : Xd M G te (.tup ds)) : Xi M G (iSeqA K te) ds := fun σ H R ok e k => h σ H _ ok e fun v d H1 r1 ed hv => by
  rw [ed] at hv
  obtain ⟨a, xs, q, nb, ha, hx⟩ := id hv
  rw [q] at hv
  refine ⟨a, xs, q, .inr ⟨SqT.of ha, k _ [(.tup ds, .ref a)] H1 r1 (fun g z => by rw [List.mem_singleton.mp z]; exact hv) ⟨_, _, wk_tup, fun B H tr gh => ?_⟩⟩⟩
  obtain ⟨ys, _, h1, h2⟩ := (gh _ (List.mem_singleton.mpr rfl)).tupOf
  refine ⟨⟨ys, h1, h2.length⟩, fun i x H' hi y => ?_⟩
  obtain ⟨e1, zs, e2, e3⟩ := y
  rw [h1] at e2
  cases e2
  rw [e1]
  exact ⟨Same.refl _, h2.got e3⟩
/-! ### a list or a tuple -/
def Sq (d : Dt) (ds : List Dt) : Prop := d = .lst ds ∨ d = .tup ds
theorem rc_lenA {d : Dt} {ds : List Dt} (hs : Sq d ds) : Rc M (rLenQ K) [d] (· = .int (ds.length : Nat)) := by
  rcases hs with e | e <;> subst e
  · exact rc_lenL
  · exact rc_lenT
theorem rc_listA {d : Dt} {ds : List Dt} (hs : Sq d ds) : Rc M (rListQ K) [d] (· = .lst ds) := by
  rcases hs with e | e <;> subst e
  · exact rc_listL
  · exact rc_listT
theorem rc_tupA {d : Dt} {ds : List Dt} (hs : Sq d ds) : Rc M (rTupQ K) [d] (· = .tup ds) := by
  rcases hs with e | e <;> subst e
  · exact rc_tupL
  · exact rc_tupT
theorem rv_ixA {d e : Dt} {ds : List Dt} {i : Int} (hs : Sq d ds) (h : atI ds i = some e) : Rv M (rIx K) d (.int i) (· = e) := by
  rcases hs with z | z <;> subst z
  · exact rv_ixSL h
  · exact rv_ixST h
theorem xi_enumA {te : TE} {d : Dt} {ds : List Dt} (hs : Sq d ds) (h : Xd M G te d) : Xi M G (iEnumA K (tCons te tNil)) (enumD 0 ds) := by
  rcases hs with e | e <;> subst e
  · exact xi_enumAL h
  · exact xi_enumAT h
theorem xi_seqA {te : TE} {d : Dt} {ds : List Dt} (hs : Sq d ds) (h : Xd M G te d) : Xi M G (iSeqA K te) ds := by
  rcases hs with e | e <;> subst e
  · exact xi_seqL h
  · exact xi_seqT h
end
end Lf

/-! data that == can look at -/
namespace Lf
open PySem PySem.Spec PyProof.Rows L2
structure Nice (n : Nat) (d : Dt) : Prop where
  ok : okD d = true
  lay : (pd d).canLay0 = true
  dep : (pd d).depth ≤ n
theorem nice_int {n : Nat} {i : Int} : Nice n (.int i) := ⟨rfl, by simp only [pd, PyData.canLay0], by simp only [pd, PyData.depth]; exact Nat.zero_le _⟩
theorem nice_bl {n : Nat} {i : Bool} : Nice n (.bl i) := ⟨rfl, by simp only [pd, PyData.canLay0], by simp only [pd, PyData.depth]; exact Nat.zero_le _⟩
theorem nice_non {n : Nat} : Nice n .non := ⟨rfl, by simp only [pd, PyData.canLay0], by simp only [pd, PyData.depth]; exact Nat.zero_le _⟩
theorem nice_str {n : Nat} {x : Str} (h : PyData.strOk x = true) : Nice n (.str x) := ⟨rfl, by simp only [pd, PyData.canLay0]; exact h, by simp only [pd, PyData.depth]; exact Nat.zero_le _⟩
theorem nice_all {n : Nat} : ∀ {ds : List Dt}, (∀ d ∈ ds, Nice n d) → okDs ds = true ∧ PyData.canLayAll0 (pds ds) = true ∧ PyData.depthAll (pds ds) ≤ n
  | [], _ => ⟨rfl, by simp only [pds, PyData.canLayAll0], by simp only [pds, PyData.depthAll]; exact Nat.zero_le _⟩
  | d :: ds, h => by
    obtain ⟨h1, h2, h3⟩ := nice_all fun e he => h e (List.mem_cons_of_mem _ he)
    have hd := h d List.mem_cons_self
    refine ⟨?_, ?_, ?_⟩
    · show (okD d && okDs ds) = true
      rw [hd.ok, h1]
      rfl
    · simp only [pds, PyData.canLayAll0, hd.lay, h2, Bool.and_self]
    · simp only [pds, PyData.depthAll]
      exact Nat.max_le.mpr ⟨hd.dep, h3⟩
theorem nice_lst {n : Nat} {ds : List Dt} (h : ∀ d ∈ ds, Nice n d) : Nice (n + 1) (.lst ds) := by
  obtain ⟨h1, h2, h3⟩ := nice_all h
  refine ⟨h1, by simp only [pd, PyData.canLay0]; exact h2, ?_⟩
  simp only [pd, PyData.depth]
  omega
theorem nice_tup {n : Nat} {ds : List Dt} (h : ∀ d ∈ ds, Nice n d) : Nice (n + 1) (.tup ds) := by
  obtain ⟨h1, h2, h3⟩ := nice_all h
  refine ⟨h1, by simp only [pd, PyData.canLay0]; exact h2, ?_⟩
  simp only [pd, PyData.depth]
  omega
theorem Nice.shaped {n : Nat} {d : Dt} (h : Nice n d) (hn : n ≤ 64 := by decide) : SeqAt.shaped (pd d) = true := by
  unfold SeqAt.shaped
  rw [h.lay, Bool.true_and]
  exact decide_eq_true (Nat.le_trans h.dep hn)
theorem nice_intsL {n : Nat} {l : List Int} : Nice (n + 1) (.lst (l.map .int)) := nice_lst fun d hd => by
  obtain ⟨i, _, e⟩ := List.mem_map.mp hd
  rw [← e]
  exact nice_int
theorem nice_intsT {n : Nat} {l : List Int} : Nice (n + 1) (.tup (l.map .int)) := nice_tup fun d hd => by
  obtain ⟨i, _, e⟩ := List.mem_map.mp hd
  rw [← e]
  exact nice_int
theorem nice_strsT {n : Nat} {l : List Str} (h : ∀ x ∈ l, PyData.strOk x = true) : Nice (n + 1) (.tup (l.map .str)) := nice_tup fun d hd => by
  obtain ⟨i, hi, e⟩ := List.mem_map.mp hd
  rw [← e]
  exact nice_str (h i hi)
theorem nice_strsL {n : Nat} {l : List Str} (h : ∀ x ∈ l, PyData.strOk x = true) : Nice (n + 1) (.lst (l.map .str)) := nice_lst fun d hd => by
  obtain ⟨i, hi, e⟩ := List.mem_map.mp hd
  rw [← e]
  exact nice_str (h i hi)
mutual
theorem eqv_refl : ∀ d : Dt, okD d = true → PyData.eqv (pd d) (pd d) = true
  | .non, _ => by simp only [pd, PyData.eqv]
  | .bl b, _ => by simp only [pd, PyData.eqv]; exact beq_self_eq_true b
  | .int b, _ => by simp only [pd, PyData.eqv]; exact beq_self_eq_true b
  | .str b, _ => by simp only [pd, PyData.eqv]; exact beq_self_eq_true b
  | .lst ds, h => by simp only [pd, PyData.eqv]; exact eqv_refls ds h
  | .tup ds, h => by simp only [pd, PyData.eqv]; exact eqv_refls ds h
  | .ins _ _ _, h => by cases h
  | .raw _, h => by cases h
  | .ty _, h => by cases h
theorem eqv_refls : ∀ ds : List Dt, okDs ds = true → PyData.eqvAll (pds ds) (pds ds) = true
  | [], _ => by simp only [pds, PyData.eqvAll]
  | d :: ds, h => by
    obtain ⟨h1, h2⟩ := Bool.and_eq_true_iff.mp (show (okD d && okDs ds) = true from h)
    simp only [pds, PyData.eqvAll, eqv_refl d h1, eqv_refls ds h2, Bool.and_self]
end
section
variable {K : PySem.W.Frag} {M : Mode K} {G : List (Option Dt)}
theorem rv_eqR {n : Nat} {d : Dt} (h : Nice n d) (hn : n ≤ 64 := by decide) : Rv M (rEqD K) d d (· = .bl true) := by
  have z := rv_eqD (M := M) h.ok h.ok (h.shaped hn) (h.shaped hn)
  rw [eqv_refl d h.ok] at z
  exact z
theorem rv_neR {n : Nat} {d : Dt} (h : Nice n d) (hn : n ≤ 64 := by decide) : Rv M (rNeD K) d d (· = .bl false) := by
  have z := rv_neD (M := M) h.ok h.ok (h.shaped hn) (h.shaped hn)
  rw [eqv_refl d h.ok] at z
  exact z
/-- == [] and != [] of data -/
theorem xl_eqE {ta : TE} {ds : List Dt} {n : Nat} (h : XL M G ta ds) (hn : ∀ d ∈ ds, Nice n d) (h64 : n + 1 ≤ 64 := by decide) : Xd M G (tOp (rEqD K) ta (tLst tNil)) (.bl ds.isEmpty) :=
  xl_eqN h (xd_lst xa_nil) (nice_all hn).1 ((nice_lst hn).shaped h64)
theorem xl_neE {ta : TE} {ds : List Dt} {n : Nat} (h : XL M G ta ds) (hn : ∀ d ∈ ds, Nice n d) (h64 : n + 1 ≤ 64 := by decide) : Xd M G (tOp (rNeD K) ta (tLst tNil)) (.bl (!ds.isEmpty)) :=
  xl_neN h (xd_lst xa_nil) (nice_all hn).1 ((nice_lst hn).shaped h64)
end
/-! ### comprehensions over (i, item), over pairs -/
theorem enumD_zip : ∀ (ds : List Dt) (n : Nat), enumD n ds = (ds.zipIdx n).map fun p => .tup [.int (p.2 : Int), p.1]
  | [], _ => rfl
  | d :: ds, n => by
    show Dt.tup [.int (n : Int), d] :: enumD (n + 1) ds = _
    rw [enumD_zip ds (n + 1), List.zipIdx_cons, List.map_cons]
theorem enumD_of {ds : List Dt} {i : Nat} {d : Dt} (e : (enumD 0 ds)[i]? = some d) : ∃ x, ds[i]? = some x ∧ d = .tup [.int (i : Int), x] := by
  rw [enumD_get, Nat.zero_add] at e
  cases q : ds[i]? with
  | none => rw [q] at e; cases e
  | some x =>
    rw [q] at e
    exact ⟨x, rfl, (Option.some.inj e).symm⟩
section
variable {K : PySem.W.Frag} {M : Mode K} {G : List (Option Dt)}
def G2 (G : List (Option Dt)) (j l : Nat) (d : Dt) : List (Option Dt) := match d with
  | .tup [a, x] => (G.set j (some a)).set l (some x)
  | _ => G
def fstD : Dt → Dt
  | .tup (a :: _) => a
  | _ => .non
def sndD : Dt → Dt
  | .tup (_ :: a :: _) => a
  | _ => .non
theorem x_lc2If {wi : TI} {tt : TT} {te : TE} {vs : List Nat} {ps : List (Dt × Dt)} {j l : Nat} (f : Dt → Dt → Dt) (c : Dt → Dt → Bool) (hi : Xj M G wi (ps.map fun p => .tup [p.1, p.2]))
    (ht : ∀ (x y : Dt) (p : Addr) (acc : List Dt), (x, y) ∈ ps → Xb (M.bld p acc) (((wipeG G vs).set j (some x)).set l (some y)) tt (c x y))
    (he : ∀ (x y : Dt) (p : Addr) (acc : List Dt), (x, y) ∈ ps → c x y = true → Xd (M.bld p acc) (((wipeG G vs).set j (some x)).set l (some y)) te (f x y)) (hj : j ∈ vs ∧ l ∈ vs := by simp) (hz : ps.length ≤ 40000 := by first | decide | assumption | omega | (simp; omega)) :
    Xd M G (tLc wi (gTup K 2 (gCons (gName j) (gCons (gName l) gNil))) tt te vs) (.lst ((ps.filter fun p => c p.1 p.2).map fun p => f p.1 p.2)) := by
  have of : ∀ {i : Nat} {d : Dt}, (ps.map fun p => Dt.tup [p.1, p.2])[i]? = some d → ∃ x y, (x, y) ∈ ps ∧ d = .tup [x, y] := fun {i d} e => by
    obtain ⟨q, hq, e⟩ := List.mem_map.mp (List.mem_of_getElem? e)
    exact ⟨q.1, q.2, hq, e.symm⟩
  refine Xe.is (x_lcIf (js := [j, l]) (G' := G2 (wipeG G vs) j l) (fun d => f (fstD d) (sndD d)) (fun d => c (fstD d) (sndD d)) hi (fun i d e p acc => ?_) (fun k hk => ?_) (fun i d p acc e => ?_) (fun i d p acc e hc => ?_) (by rw [List.length_map]; exact hz)) ?_
  · obtain ⟨x, y, _, rfl⟩ := of e
    exact xg_two
  · simp only [List.mem_cons, List.not_mem_nil, or_false] at hk
    rcases hk with e | e <;> subst e
    · exact hj.1
    · exact hj.2
  · obtain ⟨x, y, hm, rfl⟩ := of e
    exact ht x y p acc hm
  · obtain ⟨x, y, hm, rfl⟩ := of e
    exact he x y p acc hm hc
  · rw [List.filter_map, List.map_map]
    rfl
theorem x_lc2 {wi : TI} {te : TE} {vs : List Nat} {ps : List (Dt × Dt)} {j l : Nat} (f : Dt → Dt → Dt) (hi : Xj M G wi (ps.map fun p => .tup [p.1, p.2]))
    (he : ∀ (x y : Dt) (p : Addr) (acc : List Dt), (x, y) ∈ ps → Xd (M.bld p acc) (((wipeG G vs).set j (some x)).set l (some y)) te (f x y)) (hj : j ∈ vs ∧ l ∈ vs := by simp) (hz : ps.length ≤ 40000 := by first | decide | assumption | omega | (simp; omega)) :
    Xd M G (tLc wi (gTup K 2 (gCons (gName j) (gCons (gName l) gNil))) tYes te vs) (.lst (ps.map fun p => f p.1 p.2)) := by
  refine Xe.is (x_lc2If f (fun _ _ => true) hi (fun x y p acc _ σ H Q ok e k => k true H ((M.bld p acc).refl H) rfl) (fun x y p acc h _ => he x y p acc h) hj hz) ?_
  rw [List.filter_eq_self.mpr fun _ _ => rfl]
/-- the pairs of an enumerate -/
def enumP (ds : List Dt) : List (Dt × Dt) := ds.zipIdx.map fun p => (.int (p.2 : Int), p.1)
theorem enumP_map (ds : List Dt) : (enumP ds).map (fun p => Dt.tup [p.1, p.2]) = enumD 0 ds := by
  unfold enumP
  rw [List.map_map, enumD_zip]
  rfl
theorem enumP_mem {ds : List Dt} {x y : Dt} (h : (x, y) ∈ enumP ds) : ∃ i : Nat, x = .int (i : Int) ∧ ds[i]? = some y := by
  obtain ⟨q, hq, e⟩ := List.mem_map.mp h
  obtain ⟨z, i⟩ := q
  cases e
  exact ⟨i, rfl, List.mk_mem_zipIdx_iff_getElem?.mp hq⟩
theorem enumP_length (ds : List Dt) : (enumP ds).length = ds.length := by
  unfold enumP
  rw [List.length_map, List.length_zipIdx]
end
end Lf

/-! rules within a comprehension, the text's own K written -/
namespace Lf
open PySem PySem.Spec PyProof.Rows L2
section
variable (K : PySem.W.Frag) {Y : Cx}
theorem pe_fldK {e : Expr} {f : Str} {pos : Pos} {ta : TE} (he : PE Y e ta) (hb : attributeBase e f Y.env (eval e Y.env) = eval e Y.env) (k : Y.K = K := by rfl) : PE Y (.Attribute e f pos) (tFld K ta f) := k ▸ pe_fld he hb
theorem op_in_seqK (k : Y.K = K := by rfl) : OpR Y (compareOp .In) (rIn K false) := k ▸ op_in_seq
theorem op_notIn_seqK (k : Y.K = K := by rfl) : OpR Y (compareOp .NotIn) (rIn K true) := k ▸ op_notIn_seq
theorem ix_listK (k : Y.K = K := by rfl) : IxR Y (rIxL K) := k ▸ ix_list
theorem ix_tupK (k : Y.K = K := by rfl) : IxR Y (rIxT K) := k ▸ ix_tup
theorem ix_seqK (k : Y.K = K := by rfl) : IxR Y (rIx K) := k ▸ ix_seq
theorem call_isiK (k : Y.K = K := by rfl) : CallR Y (.builtin "isinstance") (rIsi K) := k ▸ call_isi
theorem call_lenQK (k : Y.K = K := by rfl) : CallR Y (.builtin "len") (rLenQ K) := k ▸ call_lenQ
theorem call_listQK (k : Y.K = K := by rfl) : CallR Y (.type "list") (rListQ K) := k ▸ call_listQ
theorem call_tupQK (k : Y.K = K := by rfl) : CallR Y (.type "tuple") (rTupQ K) := k ▸ call_tupQ
theorem cr_allK (hc : Y.calm = true) (k : Y.K = K := by rfl) : CallR Y (.builtin "all") (rAll K) := k ▸ cr_all hc
theorem op_eqDK (hu : Y.A.units + 64 < cLine) (k : Y.K = K := by rfl) : OpR Y (compareOp .Eq) (rEqD K) := k ▸ op_eqD hu
theorem op_neDK (hu : Y.A.units + 64 < cLine) (k : Y.K = K := by rfl) : OpR Y (compareOp .NotEq) (rNeD K) := k ▸ op_neD hu
theorem op_ownK {k : Nat} {c : Str} {ps : List Str} {pre : List Dt → Dt → Prop} (C : Met Y.prog Y.w Y.K Y.mg Y.base k c "__eq__" ps (spP K pre)) (hr : Room k Y.A) (q : Y.K = K := by rfl) : OpR Y (compareOp .Eq) (rEqG (DIns (He.ga K c) (OwnR K pre))) := by
  subst q
  exact op_own C hr
theorem sl_listK (k : Y.K = K := by rfl) : SlR Y (rSlL K) := k ▸ sl_list
theorem sl_tupK (k : Y.K = K := by rfl) : SlR Y (rSlT K) := k ▸ sl_tup
theorem op_catAK (k : Y.K = K := by rfl) : OpR Y (binaryOp .Add) (rCatA K) := k ▸ op_catA
section
variable {tg l : Expr} {te : TE}
theorem pi_listK (h : PE Y l te) (k : Y.K = K := by rfl) : PI Y tg l (iList K te) := k ▸ pi_list h
theorem pi_tupK (h : PE Y l te) (k : Y.K = K := by rfl) : PI Y tg l (iTup K te) := k ▸ pi_tup h
theorem pi_seqAK (h : PE Y l te) (k : Y.K = K := by rfl) : PI Y tg l (iSeqA K te) := k ▸ pi_seqA h
end
section
variable {k : Nat} {m c : Str} {ps : List Str} {sp : Sp} {e o : Expr} {es : List Expr} {pos apos : Pos} {t : TA} {ta : TE}
theorem pe_metK {pl : Sem Bool} (C : Met Y.prog Y.w Y.K Y.mg Y.base k c m ps sp) (hr : Room k Y.A) (he : PE Y o ta) (ha : PA Y (e :: es) t)
    (hst : starEach (e :: es) Y.env = (false, eval e Y.env) :: starEach es Y.env := by rfl) (hpl : (backTo pos (starEach es Y.env)).any (·.1) = false := by rfl)
    (ht : eval (.Call (.Attribute o m apos) (e :: es) [] pos) Y.env = (do
      let ov ← eval o Y.env
      standAt apos.atName
      let (f, first) ← holding [ov] (getMethod ov m pl)
      callWith pos f first (backTo pos (starEach (e :: es) Y.env)) (backToKw pos (keywordEach [] Y.env))) := by rfl) (q : Y.K = K := by rfl) : PE Y (.Call (.Attribute o m apos) (e :: es) [] pos) (tMeth (He.ga K c) m sp [] E0 ta t) := by
  subst q
  exact pe_met C hr he ha hst hpl ht
theorem pe_met0K {pl : Sem Bool} (C : Met Y.prog Y.w Y.K Y.mg Y.base k c m ps sp) (hr : Room k Y.A) (he : PE Y o ta)
    (ht : eval (.Call (.Attribute o m apos) [] [] pos) Y.env = (do
      let ov ← eval o Y.env
      standAt apos.atName
      let (f, first) ← holding [ov] (getMethod ov m pl)
      callWith pos f first (backTo pos (starEach [] Y.env)) (backToKw pos (keywordEach [] Y.env))) := by rfl) (q : Y.K = K := by rfl) : PE Y (.Call (.Attribute o m apos) [] [] pos) (tMeth (He.ga K c) m sp [] E0 ta tNil) := by
  subst q
  exact pe_met0 C hr he ht
end
/-- names in a comprehension's target -/
theorem pgb_tup {es : List Expr} {kn : Nat} {pos : Pos} {t : TGs} (n : Nat) (hc : Y.calm = true) (h : PGs Y es t)
    (hn : (assignEach es Y.env).length = n := by rfl) (hst : (assignEach es Y.env).findIdx? (·.1) = none := by rfl) (q : Y.K = K := by rfl) : PG Y (.Tuple es kn pos) (gTup K n t) := by
  subst q
  exact pg_tup hc h hn hst
end
end Lf

namespace Lf
open PySem PySem.Spec PyProof.Rows L2
local macro_rules | `(tactic| walk_at "rv") => `(tactic| with_reducible first
  | exact rv_int | exact rv_cmp | exact rv_eqI | exact rv_neI | exact rv_eqS | exact rv_neS | exact rv_eqB | exact rv_neB)
local macro_rules | `(tactic| walk_at "xd") => `(tactic| first
  | (with_reducible first | exact x_int | exact x_str | exact x_bl | exact x_non | exact x_ty | exact x_ref)
  | ((with_reducible apply x_var); exact rfl)
  | ((with_reducible apply xd_op); (walk_at "xd"); (walk_at "xd"); (walk_at "rv"))
  | ((with_reducible apply xd_if); (walk_at "xb"); (intro _; walk_at "xd"); (intro _; walk_at "xd"))
  | ((with_reducible apply xd_tup); (walk_at "xa"); (first | decide | assumption | omega))
  | ((with_reducible apply xd_lst); (walk_at "xa"); (first | decide | assumption | omega)))
local macro_rules | `(tactic| walk_at "xb") => `(tactic| first
  | ((with_reducible apply xb_test); (walk_at "xd"))
  | ((with_reducible apply xb_B); (walk_at "xd"))
  | ((with_reducible apply xb_and); (walk_at "xb"); (intro _; walk_at "xb"))
  | ((with_reducible apply xb_or); (walk_at "xb"); (intro _; walk_at "xb"))
  | ((with_reducible apply xb_not); (walk_at "xb")))
local macro_rules | `(tactic| walk_at "xa") => `(tactic| first
  | (with_reducible exact xa_nil)
  | ((with_reducible apply xad_cons); (walk_at "xd"); (walk_at "xa")))

/-! ### greater, moved_value, handed_value -/
def preGreater (ds : List Dt) (r : Dt) : Prop := ∃ i j, ds = [.int i, .int j] ∧ r = .int (gr i j)
def preMoved (ds : List Dt) (r : Dt) : Prop := ∃ w v s e, ds = [.str w, .int v, .int s, .int e] ∧ r = .int (movedV w v s e)
def preHand (ds : List Dt) (r : Dt) : Prop := ∃ w v o l, ds = [.str w, .int v, .int o, .bl l] ∧ r = .int (handV w v o l)
section
variable {P : Program} {w : World} {K : PySem.W.Frag} {mg : Str → Option Value} {base : Heap}
theorem c_greater (T : Txt w K mg) : Cal P w K mg base 1 "greater" ["one", "other"] (spP K preGreater) := by
  refine cal_greater T fun f fd F => pure_ok F sc_greater ?_ fun cdv A outer s H σ Q E B ds r hr hp h k => ?_
  · rintro ds r ⟨i, j, rfl, rfl⟩
    rfl
  · obtain ⟨i, j, rfl, rfl⟩ := hp
    refine ⟨_, (pss_one (ps_ret (pe_ifExp (pt_cmpR op_gt (pv 0) (pv 1) (nomark _)) (pv 0) (pv 1)))), ?_⟩
    apply ed_ret h k
    apply Xe.is
    · walk_at "xd"
    unfold gr
    by_cases c : i > j <;> simp [c]
theorem c_moved_value (T : Txt w K mg) : Cal P w K mg base 2 "moved_value" ["word", "value", "start", "end"] (spP K preMoved) := by
  refine cal_moved_value T fun f fd F => pure_ok F sc_moved_value ?_ fun cdv A outer s H σ Q E B ds r hr hp h k => ?_
  · rintro ds r ⟨w, v, s, e, rfl, rfl⟩
    rfl
  · obtain ⟨w, v, s, e, rfl, rfl⟩ := hp
    refine ⟨_, (pss_cons (ps_if (pt_cmpR op_eq (pv 0) pe_str (nomark _)) (pss_one (ps_ret (pv 3))) pss_nil)
    (pss_cons (ps_if (PW.pt (pw_or (pt_cmpR op_eq (pv 0) pe_str (nomark _)) (pw_or1 (PW.pt (pw_and (pt_cmpR op_eq (pv 0) pe_str (nomark _)) (pw_and1 (pt_cmpR op_le (pv 2) (pv 1) (nomark _)))))))) (pss_one (ps_ret (pe_cal (c_greater T) (hr.mono (by decide)) (by rfl) (pa_cons (pv 1) (pa_cons (pv 3) pa_nil))))) pss_nil)
    (pss_cons (ps_if (pt_cmpR op_eq (pv 0) pe_str (nomark _)) (pss_one (ps_ret (pe_ifExp (pt_cmpR op_lt (pv 1) (pv 3) (nomark _)) (pv 1) (pv 3)))) pss_nil)
    (pss_one (ps_ret (pv 1)))))), ?_⟩
    unfold movedV at k
    apply qd_when h
    · walk_at "xb"
    · intro c H1 h
      have c' : w = "last" := of_decide_eq_true c
      rw [if_pos c'] at k
      exact ed_ret h k (x_var rfl)
    intro c H1 h
    have c1 : ¬ w = "last" := of_decide_eq_false c
    rw [if_neg c1] at k
    apply qd_when h
    · walk_at "xb"
    · intro c H1 h
      have c' : w = "raise" ∨ (w = "row" ∧ s ≤ v) := by simpa using c
      rw [if_pos c'] at k
      exact ed_ret h k (x_call (by walk_at "xa") (by exact ⟨_, _, rfl, rfl⟩))
    intro c H1 h
    have c2 : ¬ (w = "raise" ∨ (w = "row" ∧ s ≤ v)) := by
      intro z
      have : (decide (w = "raise") || (decide (w = "row") && decide (s ≤ v))) = true := by simpa using z
      rw [c] at this
      cases this
    rw [if_neg c2] at k
    apply qd_when h
    · walk_at "xb"
    · intro c H1 h
      have c' : w = "lower" := of_decide_eq_true c
      rw [if_pos c'] at k
      apply ed_ret h k
      apply Xe.is
      · walk_at "xd"
      by_cases c : v < e <;> simp [c]
    intro c H1 h
    have c3 : ¬ w = "lower" := of_decide_eq_false c
    rw [if_neg c3] at k
    exact ed_ret h k (x_var rfl)
theorem c_handed_value (T : Txt w K mg) : Cal P w K mg base 2 "handed_value" ["word", "value", "other", "is_later"] (spP K preHand) := by
  refine cal_handed_value T fun f fd F => pure_ok F sc_handed_value ?_ fun cdv A outer s H σ Q E B ds r hr hp h k => ?_
  · rintro ds r ⟨w, v, o, l, rfl, rfl⟩
    rfl
  · obtain ⟨w, v, o, l, rfl, rfl⟩ := hp
    refine ⟨_, (pss_cons (ps_if (PW.pt (pw_or (pt_cmpR op_eq (pv 0) pe_str (nomark _)) (pw_or1 (PW.pt (pw_and (pt_cmpR op_eq (pv 0) pe_str (nomark _)) (pw_and1 (pt_val (pv 3)))))))) (pss_one (ps_ret (pv 2))) pss_nil)
    (pss_one (ps_ret (pe_ifExp (pt_cmpR op_eq (pv 0) pe_str (nomark _)) (pe_cal (c_greater T) (hr.mono (by decide)) (by rfl) (pa_cons (pv 1) (pa_cons (pv 2) pa_nil))) (pv 1))))), ?_⟩
    unfold handV at k
    apply qd_when h
    · walk_at "xb"
    · intro c H1 h
      have c' : w = "last" ∨ (w = "later" ∧ l = true) := by simpa using c
      rw [if_pos c'] at k
      exact ed_ret h k (x_var rfl)
    intro c H1 h
    have c1 : ¬ (w = "last" ∨ (w = "later" ∧ l = true)) := by
      intro z
      have c' : (decide (w = "last") || (decide (w = "later") && l)) = true := by simpa using z
      rw [c] at c'
      cases c'
    rw [if_neg c1] at k
    apply ed_ret h k
    apply Xe.is
    · apply xd_if
      · walk_at "xb"
      · intro _
        exact x_call (by walk_at "xa") (by exact ⟨_, _, rfl, rfl⟩)
      · intro _
        exact x_var rfl
    by_cases c : w = "raise" <;> simp [c]
/-! ### words -/
def preIsInt (ds : List Dt) (r : Dt) : Prop := ∃ d, ds = [d] ∧ ((∃ i, d = .int i) ∧ r = .bl true ∨ (∃ xs, d = .lst xs ∨ d = .tup xs) ∧ r = .bl false)
theorem c_is_integer (T : Txt w K mg) : Cal P w K mg base 1 "is_integer" ["thing"] (spP K preIsInt) := by
  refine cal_is_integer T fun f fd F => pure_ok F sc_is_integer ?_ fun cdv A outer s H σ Q E B ds r hr hp h k => ?_
  · rintro ds r ⟨d, rfl, _⟩
    rfl
  · obtain ⟨d, rfl, hd⟩ := hp
    refine ⟨_, (pss_one (ps_ret (pe_and (pe_callB call_isi (by rfl) T.f_isinstance (by decide +kernel) (pa_cons (pv 0) (pa_cons (pe_bltn (v := .ty "int") (by rfl) T.f_int (by decide +kernel) rfl) pa_nil))) (pe_one (pe_not (pe_callB call_isi (by rfl) T.f_isinstance (by decide +kernel) (pa_cons (pv 0) (pa_cons (pe_bltn (v := .ty "bool") (by rfl) T.f_bool (by decide +kernel) rfl) pa_nil)))))))), ?_⟩
    rcases hd with ⟨⟨i, rfl⟩, rfl⟩ | ⟨⟨xs, rfl | rfl⟩, rfl⟩
    · apply ed_ret h k
      refine Xe.is (x_andV (a := true) (b := true) (xd_cb (by walk_at "xa") (rc_isi rfl (by decide +kernel))) fun _ => Xe.is (x_notV (a := false) (xd_cb (by walk_at "xa") (rc_isi rfl (by decide +kernel)))) rfl) rfl
    · apply ed_ret h k
      refine Xe.is (x_andV (a := false) (b := true) (xd_cb (by walk_at "xa") (rc_isi rfl (by decide +kernel))) fun e => by cases e) rfl
    · apply ed_ret h k
      refine Xe.is (x_andV (a := false) (b := true) (xd_cb (by walk_at "xa") (rc_isi rfl (by decide +kernel))) fun e => by cases e) rfl
def preIsRow (ds : List Dt) (r : Dt) : Prop := ∃ d xs, ds = [d] ∧ (d = .lst xs ∨ d = .tup xs) ∧ r = .bl true
theorem c_is_row (T : Txt w K mg) : Cal P w K mg base 1 "is_row" ["thing"] (spP K preIsRow) := by
  refine cal_is_row T fun f fd F => pure_ok F sc_is_row ?_ fun cdv A outer s H σ Q E B ds r hr hp h k => ?_
  · rintro ds r ⟨d, xs, rfl, _⟩
    rfl
  · obtain ⟨d, xs, rfl, hd, rfl⟩ := hp
    refine ⟨_, (pss_one (ps_ret (pe_callB call_isiT (by rfl) T.f_isinstance (by decide +kernel) (pa_cons (pv 0) (pa_cons (pe_tup (pa_cons (pe_bltn (v := .ty "list") (by rfl) T.f_list (by decide +kernel) rfl) (pa_cons (pe_bltn (v := .ty "tuple") (by rfl) T.f_tuple (by decide +kernel) rfl) pa_nil))) pa_nil))))), ?_⟩
    rcases hd with rfl | rfl
    · exact ed_ret h k (xd_cb (xad_cons (x_var rfl) (xad_cons (xd_tup (ds := [.ty "list", .ty "tuple"]) (by walk_at "xa")) xa_nil)) (rc_isiT (bs := ["list", "tuple"]) rfl (by decide +kernel)))
    · exact ed_ret h k (xd_cb (xad_cons (x_var rfl) (xad_cons (xd_tup (ds := [.ty "list", .ty "tuple"]) (by walk_at "xa")) xa_nil)) (rc_isiT (bs := ["list", "tuple"]) rfl (by decide +kernel)))
def preUpto (ds : List Dt) (r : Dt) : Prop := ∃ i n, ds = [.int i, .int n] ∧ r = .bl (decide (0 ≤ i ∧ i ≤ n))
theorem c_is_upto (T : Txt w K mg) : Cal P w K mg base 2 "is_upto" ["thing", "most"] (spP K preUpto) := by
  refine cal_is_upto T fun f fd F => pure_ok F sc_is_upto ?_ fun cdv A outer s H σ Q E B ds r hr hp h k => ?_
  · rintro ds r ⟨i, n, rfl, rfl⟩
    rfl
  · obtain ⟨i, n, rfl, rfl⟩ := hp
    refine ⟨_, (pss_one (ps_ret (pe_and (pe_cal (c_is_integer T) (hr.mono (by decide)) (by rfl) (pa_cons (pv 0) pa_nil)) (pe_one (pe_chain op_le op_le pe_int (pv 0) (pv 1)))))), ?_⟩
    apply ed_ret h k
    refine Xe.is (x_andV (a := true) (x_call (by walk_at "xa") (by exact ⟨_, rfl, .inl ⟨⟨_, rfl⟩, rfl⟩⟩)) fun _ => x_chain x_int (x_var rfl) (fun _ => x_var rfl) rv_cmp fun _ => rv_cmp) ?_
    by_cases c1 : 0 ≤ i <;> by_cases c2 : i ≤ n <;> simp [c1, c2]
/-- a word: one to eight small letters -/
def isW (x : Str) : Prop := 1 ≤ x.length ∧ x.length ≤ 8 ∧ ∀ c ∈ x.cps.toList, c ∈ lettersS.cps.toList
def preIsWord (ds : List Dt) (r : Dt) : Prop := ∃ x, ds = [.str x] ∧ isW x ∧ r = .bl true
theorem c_is_word (T : Txt w K mg) : Cal P w K mg base 1 "is_word" ["thing"] (spP K preIsWord) := by
  refine cal_is_word T fun f fd F => pure_ok F sc_is_word ?_ fun cdv A outer s H σ Q E B ds r hr hp h k => ?_
  · rintro ds r ⟨d, rfl, _⟩
    rfl
  · obtain ⟨x, rfl, ⟨h1, h2, h3⟩, rfl⟩ := hp
    refine ⟨_, (pss_cons (ps_if (PW.pt (pw_or (pt_not (pt_val (pe_callB call_isi (by rfl) T.f_isinstance (by decide +kernel) (pa_cons (pv 0) (pa_cons (pe_bltn (v := .ty "str") (by rfl) T.f_str (by decide +kernel) rfl) pa_nil))))) (pw_or1 (pt_not (pt_chain op_le op_le pe_int (pe_callB call_lenZ (by rfl) T.f_len PySem.boot_len (pa_cons (pv 0) pa_nil)) (pe_glob (v := .int 8) (by rfl) T.i_LONGEST.choose_spec ⟨_, rfl⟩)))))) (pss_one (ps_ret pe_bl)) pss_nil)
    (pss_one (ps_ret (pe_callB (cr_all rfl) (by rfl) T.f_all (by decide +kernel) (pa_cons (pe_lc (own := [("letter", 1)]) rfl sc_is_word.nd (pi_str (pv 0)) (blkOk_by (by kernel_rfl)) (fun _ _ _ _ _ => (pg_name (i := 1) sc_is_word.nd rfl (Or.inl rfl))) (fun _ _ _ _ _ => pts_nil) (fun _ _ _ _ _ => (pe_cmpR op_in_sign (pv 1) (pe_glob (v := .str lettersS) (by rfl) T.z_LETTERS.choose_spec ⟨_, rfl⟩) rfl))) pa_nil))))), ?_⟩
    have hz : x.length ≤ sizeLine := Nat.le_trans h2 (by decide)
    apply qd_no h
    · refine Xt.is (xb_or (a := false) (b := false) (Xt.is (xb_not (a := true) (xb_B (xd_cb (by walk_at "xa") (rc_isi rfl (by decide +kernel))))) rfl) fun _ => Xt.is (xb_not (a := true) ?_) rfl) rfl
      refine xb_test (Xe.is (x_chain (p := true) (q := true) x_int (xd_cb (by walk_at "xa") (rc_lenZ hz)) (fun _ => x_int) ?_ fun _ => ?_) rfl)
      · have e : decide ((1 : Int) ≤ (x.length : Nat)) = true := decide_eq_true (by omega)
        rw [← e]
        exact rv_cmp
      · have e : decide (((x.length : Nat) : Int) ≤ 8) = true := decide_eq_true (by omega)
        rw [← e]
        exact rv_cmp
    intro H1 h
    apply ed_ret h k
    refine Xe.is (d := .bl ((x.cps.toList.map fun c => Dt.str ⟨#[c]⟩).all fun _ => true)) (xd_cb (xad_cons (x_lcN (fun _ => .bl true) (xi_str (x_var rfl)).j (fun i d p acc hd => ?_) (hz := ?_)) xa_nil) rc_allD) ?_
    · rw [List.getElem?_map] at hd
      cases e : x.cps.toList[i]? with
      | none => rw [e] at hd; cases hd
      | some c =>
        rw [e] at hd
        cases hd
        refine Xe.is (xd_op (x_var rfl) x_str rv_inSign) ?_
        rw [decide_eq_true (h3 c (List.mem_of_getElem? e))]
    · rw [List.length_map, Array.length_toList]
      exact Nat.le_trans h2 (by decide)
    · simp
end
end Lf

namespace Lf
open PySem PySem.Spec PyProof.Rows L2
local macro_rules | `(tactic| walk_at "rv") => `(tactic| with_reducible first
  | exact rv_int | exact rv_cmp | exact rv_eqI | exact rv_neI | exact rv_eqS | exact rv_neS | exact rv_eqB | exact rv_neB)
local macro_rules | `(tactic| walk_at "xd") => `(tactic| first
  | (with_reducible first | exact x_int | exact x_str | exact x_bl | exact x_non | exact x_ty | exact x_ref)
  | ((with_reducible apply x_var); exact rfl)
  | ((with_reducible apply xd_op); (walk_at "xd"); (walk_at "xd"); (walk_at "rv"))
  | ((with_reducible apply xd_if); (walk_at "xb"); (intro _; walk_at "xd"); (intro _; walk_at "xd"))
  | ((with_reducible apply xd_tup); (walk_at "xa"); (first | decide | assumption | omega))
  | ((with_reducible apply xd_lst); (walk_at "xa"); (first | decide | assumption | omega)))
local macro_rules | `(tactic| walk_at "xb") => `(tactic| first
  | ((with_reducible apply xb_test); (walk_at "xd"))
  | ((with_reducible apply xb_B); (walk_at "xd"))
  | ((with_reducible apply xb_and); (walk_at "xb"); (intro _; walk_at "xb"))
  | ((with_reducible apply xb_or); (walk_at "xb"); (intro _; walk_at "xb"))
  | ((with_reducible apply xb_not); (walk_at "xb")))
local macro_rules | `(tactic| walk_at "xa") => `(tactic| first
  | (with_reducible exact xa_nil)
  | ((with_reducible apply xad_cons); (walk_at "xd"); (walk_at "xa")))

/-! ### works -/
def workD (rows : List Str) : Dt := .ins "Work" ["name", "rows"] [.str "a", .tup (rows.map .str)]
def editD (rows : List Str) (ks : List Nat) : Dt := .ins "Edition" ["work", "numbers"] [workD rows, .tup (ks.map fun (k : Nat) => .int (k : Int))]
/-- the words of a work -/
structure RowsOk (rows : List Str) : Prop where
  lo : 1 ≤ rows.length
  hi : rows.length ≤ 8
  nd : rows.Nodup
  ws : ∀ x ∈ rows, isW x
def prePass (ds : List Dt) (r : Dt) : Prop := ∃ rows d, RowsOk rows ∧ ds = [d] ∧ Sq d (rows.map .str) ∧ r = .tup (rows.map .str)
def preWork (ds : List Dt) (ks : List Str) (rs : List Dt) : Prop := ∃ rows d, RowsOk rows ∧ ds = [.str "a", d] ∧ Sq d (rows.map .str) ∧ ks = (["name", "rows"] : List Str) ∧ rs = [.str "a", .tup (rows.map .str)]
theorem take_in {α : Type} {l : List α} {i : Nat} {x : α} (nd : l.Nodup) (h : l[i]? = some x) : x ∉ l.take i := fun z => by
  obtain ⟨j, hj, e⟩ := List.mem_iff_getElem.mp z
  rw [List.length_take] at hj
  rw [List.getElem_take] at e
  obtain ⟨hi, e2⟩ := List.getElem?_eq_some_iff.mp h
  have h3 : j < i := by omega
  exact List.pairwise_iff_getElem.mp nd j i (by omega) hi h3 (e.trans e2.symm)
theorem take_succ' {α : Type} {l : List α} {i : Nat} {x : α} (h : l[i]? = some x) : l.take (i + 1) = l.take i ++ [x] := by rw [List.take_add_one, h]; rfl
theorem map_got {α β : Type} {f : α → β} {l : List α} {i : Nat} {y : β} (h : (l.map f)[i]? = some y) : ∃ x, l[i]? = some x ∧ y = f x := by
  rw [List.getElem?_map] at h
  cases e : l[i]? with
  | none => rw [e] at h; cases h
  | some x =>
    rw [e] at h
    exact ⟨x, rfl, (Option.some.inj h).symm⟩
section
variable {P : Program} {w : World} {K : PySem.W.Frag} {mg : Str → Option Value} {base : Heap}
theorem c_checked_passages (T : Txt w K mg) : Cal P w K mg base 2 "checked_passages" ["things"] (spP K prePass) := by
  refine cal_checked_passages T fun f fd F => pure_ok F sc_checked_passages ?_ fun cdv A outer s H σ Q E B ds r hr hp h k => ?_
  · rintro ds r ⟨rows, d, _, rfl, _, rfl⟩
    rfl
  · obtain ⟨rows, d, ok, rfl, sq, rfl⟩ := hp
    refine ⟨_, (pss_cons (ps_if (PW.pt (pw_or (pt_not (pt_val (pe_cal (c_is_row T) (hr.mono (by decide)) (by rfl) (pa_cons (pv 0) pa_nil)))) (pw_or1 (pt_cmpR op_eq (pe_callB call_lenQ (by rfl) T.f_len PySem.boot_len (pa_cons (pv 0) pa_nil)) pe_int (nomark _))))) pss_never pss_nil)
    (pss_cons (ps_set (i := 1) sc_checked_passages.nd rfl (Or.inl rfl) (pe_lst pa_nil))
    (pss_cons (ps_for PassesOwn.never rfl (pi_enumA (by rfl) T.f_enumerate (pa_cons (pv 0) pa_nil)) (pg_tup rfl (pgs_cons (pg_name (i := 2) sc_checked_passages.nd rfl (Or.inl rfl)) (pgs_cons (pg_name (i := 3) sc_checked_passages.nd rfl (Or.inl rfl)) pgs_nil))) (pss_cons (ps_if (PW.pt (pw_or (pt_not (pt_val (pe_cal (c_is_word T) (hr.mono (by decide)) (by rfl) (pa_cons (pv 3) pa_nil)))) (pw_or1 (pt_cmpR op_in_seq (pv 3) (pv 1) rfl)))) pss_never pss_nil)
    (pss_one (ps_expr (pe_bm PySem.F.plainAttrs_list PySem.F.slot_list_append PySem.F.type_list_append mt_append (pv 1) (pa_cons (pv 3) pa_nil))))))
    (pss_one (ps_ret (pe_callTy call_tupQ (by rfl) T.f_tuple (by decide +kernel) (pa_cons (pv 1) pa_nil))))))), ?_⟩
    apply qd_no h
    · refine Xt.is (xb_or (a := false) (b := false) (Xt.is (xb_not (a := true) (xb_B (x_call (xad_cons (x_var rfl) xa_nil) (by exact ⟨_, _, rfl, sq, rfl⟩)))) rfl) fun _ => Xt.is (xb_test (xd_op (xd_cb (xad_cons (x_var rfl) xa_nil) (rc_lenA sq)) x_int rv_eqI)) ?_) rfl
      have := ok.lo
      simp only [List.length_map]
      exact decide_eq_false (by omega)
    intro H1 h
    apply q_new0 h
    intro p σ1 H2 h
    refine q_forE (fun i => (pureM K B).bld p ((rows.take i).map .str)) (fun _ => [some d, some (.raw p), none, none]) h (xi_enumA sq (x_var rfl)) (fun i x L' σ' H' e h => ?_) fun σ' H' h => ?_
    · obtain ⟨y, ey, rfl⟩ := map_got e
      apply qd_no h
      · exact Xt.is (xb_or (a := false) (b := false) (Xt.is (xb_not (a := true) (xb_B (x_call (xad_cons (x_var rfl) xa_nil) (by exact ⟨_, rfl, ok.ws _ (List.mem_of_getElem? ey), rfl⟩)))) rfl) fun _ => Xt.is (xb_test (xl_inS (x_var rfl) (xl_bld rfl))) (by simpa using take_in ok.nd ey)) rfl
      intro H3 h
      apply ed_app h rfl
      · rw [List.length_map, List.length_take]
        have := ok.hi
        omega
      · exact x_var rfl
      · intro H4 h
        rw [show (rows.take (i + 1)).map Dt.str = (rows.take i).map Dt.str ++ [.str y] by rw [take_succ' ey, List.map_append]; rfl]
        exact h.weak (by repeat (first | exact GLe.nil | apply GLe.keep | apply GLe.drop))
    · apply ed_ret h (fun v H' f hv => k v H' f.1 (hv.less fun a z => .inl z))
      exact Xe.is (xl_tup (xl_bld rfl)) (by rw [List.length_map, List.take_length])
theorem m_Work (T : Txt w K mg) : Mak P w K mg base 3 "Work" ["self", "name", "passages"] (spI K "Work" preWork) := by
  refine mak_Work T fun f fd F => ini_ok F sc_Work_init ?_ fun cdv A outer s H0 H σ Q E B p dp ds ks rs hr hp h k => ?_
  · rintro ds ks rs ⟨rows, d, _, rfl, _, rfl, rfl⟩
    rfl
  · obtain ⟨rows, d, ok, rfl, sq, rfl, rfl⟩ := hp
    refine ⟨_, (pss_cons (ps_if (pt_not (pt_val (pe_cal (c_is_word T) (hr.mono (by decide)) (by rfl) (pa_cons (pv 1) pa_nil)))) pss_never pss_nil)
    (pss_cons (ps_fld (pv 0) (pv 1) rfl)
    (pss_one (ps_fld (pv 0) (pe_cal (c_checked_passages T) (hr.mono (by decide)) (by rfl) (pa_cons (pv 2) pa_nil)) rfl)))), ?_⟩
    apply qd_no h
    · exact Xt.is (xb_not (a := true) (xb_B (x_call (xad_cons (x_var rfl) xa_nil) (by exact ⟨_, rfl, ⟨by decide, by decide, by decide⟩, rfl⟩)))) rfl
    intro H1 h
    refine s_put (D := ⟨_, _, _, _⟩) T.c_Work T.n_Work_name rfl (by decide) rfl (by decide) (x_var rfl) h fun d' H2 e h => ?_
    subst e
    refine s_put (D := ⟨_, _, _, _⟩) T.c_Work T.n_Work_rows rfl (by decide) rfl (by decide) (x_call (xad_cons (x_var rfl) xa_nil) (by exact ⟨_, _, ok, rfl, sq, rfl⟩)) h fun d' H2 e h => ?_
    subst e
    exact k _ _ h
def preWEq (ds : List Dt) (r : Dt) : Prop := ∃ rows, RowsOk rows ∧ ds = [workD rows, workD rows] ∧ r = .bl true
theorem cls_ok {c : Str} (cl : Cls K (He.ga K c)) (h : clsB K (He.ga K c) = true) {M : Mode K} {ks : List Str} {ds : List Dt} : Rc M (rIsi K) [.ins c ks ds, .raw (He.ga K c)] (· = .bl true) := by
  obtain ⟨h1, h2⟩ := He.ba h
  obtain ⟨h2, h3⟩ := He.ba h2
  obtain ⟨h3, h4⟩ := He.ba h3
  exact rc_isiC cl (He.eqO_ok h1) (He.eqO_ok h2) (of_decide_eq_true h3) (of_decide_eq_true h4)
theorem Txt.q_Work (T : Txt w K mg) {M : Mode K} {ks : List Str} {ds : List Dt} : Rc M (rIsi K) [.ins "Work" ks ds, .raw (He.ga K "Work")] (· = .bl true) := cls_ok T.c_Work (He.ba T.s.more).1
theorem Txt.q_Edition (T : Txt w K mg) {M : Mode K} {ks : List Str} {ds : List Dt} : Rc M (rIsi K) [.ins "Edition" ks ds, .raw (He.ga K "Edition")] (· = .bl true) := cls_ok T.c_Edition (He.ba (He.ba T.s.more).2).1
theorem x_neg1 {M : Mode K} {G : List (Option Dt)} : Xd M G (tUn (rU fun i => .int (-i)) (tC (.int 1))) (.int (-1)) := fun σ H Q ok e k => ⟨1, rfl, k _ _ H (M.refl H) rfl rfl⟩
theorem at_last {ds : List Dt} {d : Dt} (h : ds[ds.length - 1]? = some d) : atI ds (-1) = some d := by
  have hp : 0 < ds.length := by
    have := (List.getElem?_eq_some_iff.mp h).1
    omega
  unfold atI
  have e : ixN ds.length (-1) = some (ds.length - 1) := by
    unfold ixN
    rw [if_neg (by omega), if_pos (by omega)]
    exact congrArg some (by omega)
  rw [e]
  exact h
theorem word_ok {x : Str} (h : isW x) : PyData.strOk x = true := by
  have key : ∀ c ∈ lettersS.cps.toList, c < 1114112 := by decide +kernel
  refine Array.all_eq_true_iff_forall_mem.mpr fun c hc => decide_eq_true ?_
  exact key c (h.2.2 c (Array.mem_toList_iff.mpr hc))
theorem t_Work_eq (T : Txt w K mg) : Met P w K mg base 1 "Work" "__eq__" ["self", "other"] (spP K preWEq) := by
  refine met_Work_eq T fun f fd F => pure_ok F sc_Work_eq ?_ fun cdv A outer s H σ Q E B ds r hr hp h k => ?_
  · rintro ds r ⟨rows, _, rfl, rfl⟩
    rfl
  · obtain ⟨rows, ok, rfl, rfl⟩ := hp
    refine ⟨_, (pss_one (ps_ret (pe_and (pe_callB call_isi (by rfl) T.f_isinstance (by decide +kernel) (pa_cons (pv 1) (pa_cons (pe_glob (v := .ref (He.ga K "Work")) (by rfl) T.g_Work rfl) pa_nil))) (pe_and (pe_cmpR op_eq (pe_fld (pv 0) rfl) (pe_fld (pv 1) rfl) (nomark _)) (pe_one (pe_cmpR (op_eqD hr.units) (pe_fld (pv 0) rfl) (pe_fld (pv 1) rfl) (nomark _))))))), ?_⟩
    apply ed_ret h k
    refine Xe.is (x_andV (a := true) (b := true) (xd_cb (xad_cons (x_var rfl) (xad_cons x_ref xa_nil)) T.q_Work) fun _ => Xe.is (x_andV (a := true) (b := true) (Xe.is (xd_op (x_fld T.c_Work T.n_Work_name (x_var rfl) rfl) (x_fld T.c_Work T.n_Work_name (x_var rfl) rfl) rv_eqS) rfl) fun _ => xd_op (x_fld T.c_Work T.n_Work_rows (x_var rfl) rfl) (x_fld T.c_Work T.n_Work_rows (x_var rfl) rfl) (rv_eqR (n := 1) (nice_strsT fun x hx => word_ok (ok.ws x hx)))) rfl) rfl
/-! ### editions -/
/-- the numbers of an edition -/
structure NumsOk (m : Nat) (ks : List Nat) : Prop where
  lt : ∀ k ∈ ks, k < m
  up : ks.Pairwise (· < ·)
theorem up_ge : ∀ {ks : List Nat} {a : Nat}, (∀ k ∈ ks, a ≤ k) → ks.Pairwise (· < ·) → ∀ {m : Nat}, (∀ k ∈ ks, k < m) → ks.length + a ≤ max m a
  | [], a, _, _, m, _ => by simp; exact Nat.le_max_right _ _
  | k :: ks, a, h1, h2, m, h3 => by
    obtain ⟨g1, g2⟩ := List.pairwise_cons.mp h2
    have z := up_ge (a := k + 1) (fun j hj => g1 j hj) g2 fun j hj => h3 j (List.mem_cons_of_mem _ hj)
    have := h1 k List.mem_cons_self
    have := h3 k List.mem_cons_self
    rw [List.length_cons]
    omega
theorem NumsOk.len {m : Nat} {ks : List Nat} (h : NumsOk m ks) : ks.length ≤ m := by
  have z := up_ge (a := 0) (fun _ _ => Nat.zero_le _) h.up h.lt
  omega
def rowAt (rows : List Str) (k : Nat) : Str := rows.getD k ""
def preNums (ds : List Dt) (r : Dt) : Prop := ∃ rows ks, RowsOk rows ∧ NumsOk rows.length ks ∧ ds = [workD rows, .lst (ks.map fun k => .str (rowAt rows k))] ∧ r = .tup (ks.map fun (k : Nat) => .int (k : Int))
def preEdit (ds : List Dt) (ns : List Str) (rs : List Dt) : Prop := ∃ rows ks, RowsOk rows ∧ NumsOk rows.length ks ∧ ds = [workD rows, .lst (ks.map fun k => .str (rowAt rows k))] ∧ ns = (["work", "numbers"] : List Str) ∧ rs = [workD rows, .tup (ks.map fun (k : Nat) => .int (k : Int))]
theorem rowAt_get {rows : List Str} {k : Nat} (h : k < rows.length) : rows[k]? = some (rowAt rows k) := by
  unfold rowAt
  rw [List.getD_eq_getElem?_getD, List.getElem?_eq_getElem h]
  rfl
theorem only_one {y : Str} : ∀ {rows : List Str} {k n : Nat}, rows.Nodup → rows[k]? = some y → ((rows.zipIdx n).filter fun p => decide (p.1 = y)) = [(y, n + k)]
  | [], _, _, _, h => by simp at h
  | x :: rows, 0, n, nd, h => by
    have e : x = y := Option.some.inj h
    subst e
    rw [List.zipIdx_cons, List.filter_cons, if_pos (by simp)]
    have z : ((rows.zipIdx (n + 1)).filter fun p => decide (p.1 = x)) = [] := List.filter_eq_nil_iff.mpr fun p hp => by
      have hx : p.1 ∈ rows := by
        obtain ⟨a, i⟩ := p
        exact (List.mem_zipIdx hp).2.2 ▸ List.getElem_mem _
      have := (List.nodup_cons.mp nd).1
      simp only [decide_eq_true_eq]
      exact fun z => this (z ▸ hx)
    rw [z]
    rfl
  | x :: rows, k + 1, n, nd, h => by
    have h' : rows[k]? = some y := by simpa using h
    have ne : x ≠ y := fun z => (List.nodup_cons.mp nd).1 (z ▸ List.mem_of_getElem? h')
    rw [List.zipIdx_cons, List.filter_cons, if_neg (by simpa using ne), only_one (List.nodup_cons.mp nd).2 h']
    rw [show n + 1 + k = n + (k + 1) by omega]
theorem c_numbers_of (T : Txt w K mg) : Cal P w K mg base 2 "numbers_of" ["work", "things"] (spP K preNums) := by
  refine cal_numbers_of T fun f fd F => pure_ok F sc_numbers_of ?_ fun cdv A outer s H σ Q E B ds r hr hp h k => ?_
  · rintro ds r ⟨rows, ks, _, _, rfl, rfl⟩
    rfl
  · obtain ⟨rows, ks, ok, nu, rfl, rfl⟩ := hp
    have kl := nu.len
    have k8 := ok.hi
    refine ⟨_, (pss_cons (ps_if (pt_not (pt_val (pe_cal (c_is_row T) (hr.mono (by decide)) (by rfl) (pa_cons (pv 1) pa_nil)))) pss_never pss_nil)
    (pss_cons (ps_set (i := 2) sc_numbers_of.nd rfl (Or.inl rfl) (pe_lst pa_nil))
    (pss_cons (ps_for PassesOwn.never rfl (pi_enum (by rfl) T.f_enumerate (pa_cons (pv 1) pa_nil)) (pg_tup rfl (pgs_cons (pg_name (i := 3) sc_numbers_of.nd rfl (Or.inl rfl)) (pgs_cons (pg_name (i := 4) sc_numbers_of.nd rfl (Or.inr rfl)) pgs_nil))) (pss_cons (ps_if (pt_not (pt_val (pe_cal (c_is_word T) (hr.mono (by decide)) (by rfl) (pa_cons (pv 4) pa_nil)))) pss_never pss_nil)
    (pss_cons (ps_setLc (i := 5) (own := [("at", 6), ("word", 7)]) rfl sc_numbers_of.nd rfl rfl (sw_true rfl rfl rfl (by decide +kernel)) (pi_enumA (by rfl) T.f_enumerate (pa_cons (pe_fld (pv 0) rfl) pa_nil)) (blkOk_by (by kernel_rfl)) (fun _ _ _ _ _ => (pgb_tup K 2 rfl (pgs_cons (pg_name (i := 6) sc_numbers_of.nd rfl (Or.inl rfl)) (pgs_cons (pg_name (i := 7) sc_numbers_of.nd rfl (Or.inl rfl)) pgs_nil)))) (fun _ _ _ _ _ => (pts_one (pt_cmpR op_eq (pv 7) (pv 4) (nomark _)))) (fun _ _ _ _ _ => (pv 6)))
    (pss_cons (ps_if (PW.pt (pw_or (pt_cmpR (op_eqD hr.units) (pv 5) (pe_lst pa_nil) (nomark _)) (pw_or1 (PW.pt (pw_and (pt_cmpR (op_neD hr.units) (pv 2) (pe_lst pa_nil) (nomark _)) (pw_and1 (pt_cmpR op_le (pe_ix ix_list (pv 5) pe_int (fun _ _ => rfl)) (pe_ix ix_list (pv 2) (pe_un un_neg pe_int) (fun _ _ => rfl)) (nomark _)))))))) pss_never pss_nil)
    (pss_one (ps_expr (pe_bm PySem.F.plainAttrs_list PySem.F.slot_list_append PySem.F.type_list_append mt_append (pv 2) (pa_cons (pe_ix ix_list (pv 5) pe_int (fun _ _ => rfl)) pa_nil))))))))
    (pss_one (ps_ret (pe_callTy call_tupQ (by rfl) T.f_tuple (by decide +kernel) (pa_cons (pv 2) pa_nil))))))), ?_⟩
    apply qd_no h
    · exact Xt.is (xb_not (a := true) (xb_B (x_call (xad_cons (x_var rfl) xa_nil) (by exact ⟨_, _, rfl, .inl rfl, rfl⟩)))) rfl
    intro H1 h
    apply q_new0 h
    intro p σ1 H2 h
    refine q_forE (fun i => (pureM K B).bld p ((ks.take i).map fun (k : Nat) => .int (k : Int))) (fun _ => [some (workD rows), some (.lst (ks.map fun k => .str (rowAt rows k))), some (.raw p), none, none, none, none, none]) h (xi_enum (x_var rfl)) (fun i x L' σ' H' e h => ?_) fun σ' H' h => ?_
    · obtain ⟨kk, ek, rfl⟩ := map_got e
      have hm := List.mem_of_getElem? ek
      have hlt := nu.lt kk hm
      have hr := rowAt_get hlt
      apply qd_no h
      · exact Xt.is (xb_not (a := true) (xb_B (x_call (xad_cons (x_var rfl) xa_nil) (by exact ⟨_, rfl, ok.ws _ (List.mem_of_getElem? hr), rfl⟩)))) rfl
      intro H3 h
      apply qd_asg (d := .lst [.int (kk : Int)]) h
      · refine Xe.is (x_lc2If (fun x _ => x) (fun _ y => match y with | .str z => decide (z = rowAt rows kk) | _ => false) (ps := enumP (rows.map .str)) ?_ (fun x y q acc hm' => ?_) (fun x y q acc hm' _ => x_var rfl) (hz := by rw [enumP_length, List.length_map]; omega)) ?_
        · rw [enumP_map]
          exact (xi_enumAT (x_fld T.c_Work T.n_Work_rows (x_var rfl) rfl)).j
        · obtain ⟨j, _, ey⟩ := enumP_mem hm'
          obtain ⟨z, _, rfl⟩ := map_got ey
          exact xb_test (xd_op (x_var rfl) (x_var rfl) rv_eqS)
        · have e1 : enumP (rows.map Dt.str) = (rows.zipIdx).map fun p => (.int (p.2 : Int), .str p.1) := by
            unfold enumP
            rw [List.zipIdx_map, List.map_map]
            rfl
          rw [e1, List.filter_map, List.map_map]
          have e2 := only_one (n := 0) ok.nd hr
          rw [show (List.filter ((fun p : Dt × Dt => match p.2 with | .str z => decide (z = rowAt rows kk) | _ => false) ∘ fun p : Str × Nat => (Dt.int (p.2 : Int), Dt.str p.1)) rows.zipIdx) = (rows.zipIdx 0).filter fun p => decide (p.1 = rowAt rows kk) from rfl, e2, Nat.zero_add]
          rfl
      intro σ4 H4 h
      have nz : ∀ d ∈ (ks.take i).map fun (k : Nat) => Dt.int (k : Int), Nice 0 d := fun d hd => by
        obtain ⟨j, _, e⟩ := List.mem_map.mp hd
        rw [← e]
        exact nice_int
      apply qd_no h
      · refine Xt.is (xb_or (a := false) (b := false) (xb_test (xl_eqE (n := 0) (ds := [.int (kk : Int)]) (xl_of (x_var rfl)) fun d hd => by rw [List.mem_singleton.mp hd]; exact nice_int)) fun _ => ?_) rfl
        by_cases i0 : i = 0
        · subst i0
          exact Xt.is (xb_and (a := false) (b := true) (xb_test (xl_neE (xl_bld rfl) nz)) fun z => by cases z) rfl
        · have hi : i < ks.length := (List.getElem?_eq_some_iff.mp ek).1
          have hl : ks[i - 1]? = some (ks[i - 1]'(by omega)) := List.getElem?_eq_getElem (by omega)
          have lt : ks[i - 1]'(by omega) < kk := by
            have e := (List.getElem?_eq_some_iff.mp ek).2
            rw [← e]
            exact List.pairwise_iff_getElem.mp nu.up (i - 1) i (by omega) hi (by omega)
          refine Xt.is (xb_and (a := true) (b := false) (Xt.is (xb_test (xl_neE (xl_bld rfl) nz)) ?_) fun _ => Xt.is (xb_test (xd_op (xd_op (x_var rfl) x_int (rv_ixL (i := 0) rfl)) (xl_ix (i := -1) (d := .int ((ks[i - 1]'(by omega) : Nat) : Int)) (xl_bld rfl) ?_ ?_) rv_cmp)) ?_) rfl
          · cases q : ks.take i with
            | nil =>
              have := congrArg List.length q
              rw [List.length_take, List.length_nil] at this
              omega
            | cons a b => rfl
          · exact x_neg1
          · exact at_last (by rw [List.getElem?_map, List.length_map, List.length_take, Nat.min_eq_left (by omega), List.getElem?_take, if_pos (by omega), hl]; rfl)
          · show decide ((kk : Int) ≤ ((ks[i - 1]'(by omega) : Nat) : Int)) = false
            exact decide_eq_false (by omega)
      intro H5 h
      apply ed_app h rfl
      · rw [List.length_map, List.length_take]
        omega
      · exact xd_op (x_var rfl) x_int (rv_ixL (i := 0) rfl)
      · intro H6 h
        rw [show (ks.take (i + 1)).map (fun (k : Nat) => Dt.int (k : Int)) = (ks.take i).map (fun (k : Nat) => Dt.int (k : Int)) ++ [.int (kk : Int)] by rw [take_succ' ek, List.map_append]; rfl]
        exact h.weak (by repeat (first | exact GLe.nil | apply GLe.keep | apply GLe.drop))
    · apply ed_ret h (fun v H' f hv => k v H' f.1 (hv.less fun a z => .inl z))
      exact Xe.is (xl_tup (xl_bld rfl)) (by rw [List.length_map, List.take_length])
theorem m_Edition (T : Txt w K mg) : Mak P w K mg base 3 "Edition" ["self", "work", "passages"] (spI K "Edition" preEdit) := by
  refine mak_Edition T fun f fd F => ini_ok F sc_Edition_init ?_ fun cdv A outer s H0 H σ Q E B p dp ds ns rs hr hp h k => ?_
  · rintro ds ns rs ⟨rows, ks, _, _, rfl, rfl, rfl⟩
    rfl
  · obtain ⟨rows, ks, ok, nu, rfl, rfl, rfl⟩ := hp
    refine ⟨_, (pss_cons (ps_fld (pv 0) (pv 1) rfl)
    (pss_one (ps_fld (pv 0) (pe_cal (c_numbers_of T) (hr.mono (by decide)) (by rfl) (pa_cons (pv 1) (pa_cons (pv 2) pa_nil))) rfl))), ?_⟩
    refine s_put (D := ⟨_, _, _, _⟩) T.c_Edition T.n_Edition_work rfl (by decide) rfl (by decide) (x_var rfl) h fun d' H2 e h => ?_
    subst e
    refine s_put (D := ⟨_, _, _, _⟩) T.c_Edition T.n_Edition_numbers rfl (by decide) rfl (by decide) (x_call (xad_cons (x_var rfl) (xad_cons (x_var rfl) xa_nil)) (by exact ⟨rows, ks, ok, nu, rfl, rfl⟩)) h fun d' H2 e h => ?_
    subst e
    exact k _ _ h
/-! ### kernels -/
/-- the last number behind which a cut stands, of some numbers -/
def behind (ks : List Nat) : Nat → Int
  | 0 => 0
  | n + 1 => if n ∈ ks then (n : Int) + 1 else behind ks n
def kernL (ks : List Nat) (m : Nat) : List Int := (List.range (m + 1)).map (behind ks)
theorem kernL_succ (ks : List Nat) (m : Nat) : kernL ks (m + 1) = kernL ks m ++ [behind ks (m + 1)] := by
  unfold kernL
  rw [List.range_succ (n := m + 1), List.map_append]
  rfl
theorem kernL_len (ks : List Nat) (m : Nat) : (kernL ks m).length = m + 1 := by
  unfold kernL
  rw [List.length_map, List.length_range]
def preKern (ds : List Dt) (r : Dt) : Prop := ∃ rows ks, RowsOk rows ∧ NumsOk rows.length ks ∧ ds = [editD rows ks] ∧ r = .lst ((kernL ks rows.length).map .int)
theorem nat_mem {ks : List Nat} {i : Nat} : ((i : Int) ∈ ks.map fun (k : Nat) => (k : Int)) ↔ i ∈ ks := by
  constructor
  · intro h
    obtain ⟨k, hk, e⟩ := List.mem_map.mp h
    have e' : k = i := by omega
    exact e' ▸ hk
  · exact fun h => List.mem_map.mpr ⟨i, h, rfl⟩
theorem c_kernels_of (T : Txt w K mg) : Cal P w K mg base 1 "kernels_of" ["edition"] (spP K preKern) := by
  refine cal_kernels_of T fun f fd F => pure_ok F sc_kernels_of ?_ fun cdv A outer s H σ Q E B ds r hr hp h k => ?_
  · rintro ds r ⟨rows, ks, _, _, rfl, rfl⟩
    rfl
  · obtain ⟨rows, ks, ok, nu, rfl, rfl⟩ := hp
    have k8 := ok.hi
    refine ⟨_, (pss_cons (ps_set (i := 1) sc_kernels_of.nd rfl (Or.inl rfl) (pe_lst (pa_cons pe_int pa_nil)))
    (pss_cons (ps_set (i := 2) sc_kernels_of.nd rfl (Or.inl rfl) pe_int)
    (pss_cons (ps_for PassesOwn.never rfl (pi_range1 (by rfl) T.f_range (pa_cons (pe_callB call_lenQ (by rfl) T.f_len PySem.boot_len (pa_cons (pe_fld (pe_fld (pv 0) rfl) rfl) pa_nil)) pa_nil)) (pg_name (i := 3) sc_kernels_of.nd rfl (Or.inl rfl)) (pss_cons (ps_if (pt_cmpR op_in_seq (pv 3) (pe_fld (pv 0) rfl) rfl) (pss_one (ps_set (i := 2) sc_kernels_of.nd rfl (Or.inl rfl) (pe_op op_add (pv 3) pe_int))) pss_nil)
    (pss_one (ps_expr (pe_bm PySem.F.plainAttrs_list PySem.F.slot_list_append PySem.F.type_list_append mt_append (pv 1) (pa_cons (pv 2) pa_nil))))))
    (pss_one (ps_ret (pv 1)))))), ?_⟩
    apply qd_new (ds := [.int 0]) h (xad_cons x_int xa_nil)
    intro p σ1 H1 h
    apply qd_asg h x_int
    intro σ2 H2 h
    refine q_forR (k := rows.length) (fun i => (pureM K B).bld p ((kernL ks i).map .int)) (fun i => [some (editD rows ks), some (.raw p), some (.int (behind ks i)), none]) h ?_ (by omega) (fun i L' σ' H' hi h => ?_) fun σ' H' h => ?_
    · exact xad_cons (Xe.is (xd_cb (xad_cons (x_fld T.c_Work T.n_Work_rows (x_fld T.c_Edition T.n_Edition_work (x_var rfl) rfl) rfl) xa_nil) rc_lenT) (by rw [List.length_map])) xa_nil
    · have e1 : (ks.map fun (k : Nat) => Dt.int (k : Int)) = (ks.map fun (k : Nat) => (k : Int)).map .int := by rw [List.map_map]; rfl
      refine qd_when (f := decide (i ∈ ks)) h ?_ (fun c H3 h => ?_) fun c H3 h => ?_
      · refine Xt.is (xb_test (xd_op (x_var rfl) (x_fld T.c_Edition T.n_Edition_numbers (x_var rfl) (d := .tup ((ks.map fun (k : Nat) => (k : Int)).map .int)) (by rw [← e1]; rfl)) rv_inTI)) ?_
        exact decide_eq_decide.mpr nat_mem
      · apply ed_asg h (xd_op (x_var rfl) x_int rv_int)
        intro σ4 H4 h
        apply ed_app h rfl
        · rw [List.length_map, kernL_len]
          omega
        · exact x_var rfl
        · intro H6 h
          have hb : behind ks (i + 1) = (i : Int) + 1 := if_pos (of_decide_eq_true c)
          rw [kernL_succ, List.map_append, hb]
          exact h.weak (by repeat (first | exact GLe.nil | apply GLe.keep | apply GLe.drop))
      · apply ed_app h rfl
        · rw [List.length_map, kernL_len]
          omega
        · exact x_var rfl
        · intro H6 h
          have hb : behind ks (i + 1) = behind ks i := if_neg (of_decide_eq_false c)
          rw [kernL_succ, List.map_append, hb]
          exact h.weak (by repeat (first | exact GLe.nil | apply GLe.keep | apply GLe.drop))
    · apply e_retB h rfl
      exact fun v _ f hv => k v H' f hv
/-! ### settings -/
/-- a setting, the tables of its devices -/
def Setd (d : Dt) (T : List Tb) : Prop := (∃ n : Nat, 1 ≤ n ∧ n ≤ 3 ∧ d = .int (n : Int) ∧ T = List.replicate n none) ∨
  ∃ (rows : List Str) (kss : List (List Nat)), RowsOk rows ∧ (∀ ks ∈ kss, NumsOk rows.length ks) ∧ 1 ≤ kss.length ∧ kss.length ≤ 3 ∧ Sq d (kss.map (editD rows)) ∧ T = kss.map fun ks => some (kernL ks rows.length)
theorem flat_one {d : Dt} : ∀ n : Nat, (List.replicate n [d]).flatten = List.replicate n d
  | 0 => rfl
  | n + 1 => by rw [List.replicate_succ, List.flatten_cons, flat_one n, List.replicate_succ]; rfl
theorem nats_back (ks : List Nat) : ks.map ((fun k => match k with | Dt.int i => i.toNat | _ => 0) ∘ fun (k : Nat) => Dt.int (k : Int)) = ks := by
  refine (List.map_congr_left fun k _ => ?_).trans (List.map_id ks)
  exact Int.toNat_natCast k
def preTab (ds : List Dt) (r : Dt) : Prop := ∃ d Ts, Setd d Ts ∧ ds = [d] ∧ r = .lst (Ts.map tbDt)
theorem c_tables_of (T : Txt w K mg) : Cal P w K mg base 2 "tables_of" ["setting"] (spP K preTab) := by
  refine cal_tables_of T fun f fd F => pure_ok F sc_tables_of ?_ fun cdv A outer s H σ Q E B ds r hr hp h k => ?_
  · rintro ds r ⟨d, Ts, _, rfl, rfl⟩
    rfl
  · obtain ⟨d, Ts, sd, rfl, rfl⟩ := hp
    refine ⟨_, (pss_cons (ps_if (PW.pt (pw_and (pt_val (pe_cal (c_is_integer T) (hr.mono (by decide)) (by rfl) (pa_cons (pv 0) pa_nil))) (pw_and1 (pt_chain op_le op_le pe_int (pv 0) (pe_glob (v := .int 3) (by rfl) T.i_MOST_DEVICES.choose_spec ⟨_, rfl⟩))))) (pss_one (ps_ret (pe_op op_rep (pe_lst (pa_cons pe_non pa_nil)) (pv 0)))) pss_nil)
    (pss_cons (ps_if (PW.pt (pw_or (pt_not (pt_val (pe_cal (c_is_row T) (hr.mono (by decide)) (by rfl) (pa_cons (pv 0) pa_nil)))) (pw_or1 (pt_not (pt_chain op_le op_le pe_int (pe_callB call_lenQ (by rfl) T.f_len PySem.boot_len (pa_cons (pv 0) pa_nil)) (pe_glob (v := .int 3) (by rfl) T.i_MOST_DEVICES.choose_spec ⟨_, rfl⟩)))))) pss_never pss_nil)
    (pss_cons (ps_if (pt_not (pt_val (pe_callB (cr_all rfl) (by rfl) T.f_all (by decide +kernel) (pa_cons (pe_lc (own := [("thing", 1)]) rfl sc_tables_of.nd (pi_seqA (pv 0)) (blkOk_by (by kernel_rfl)) (fun _ _ _ _ _ => (pg_name (i := 1) sc_tables_of.nd rfl (Or.inl rfl))) (fun _ _ _ _ _ => pts_nil) (fun _ _ _ _ _ => (pe_callB (call_isiK K) (by rfl) T.f_isinstance (by decide +kernel) (pa_cons (pv 1) (pa_cons (pe_glob (v := .ref (He.ga K "Edition")) (by rfl) T.g_Edition rfl) pa_nil))))) pa_nil)))) pss_never pss_nil)
    (pss_cons (ps_if (pt_not (pt_val (pe_callB (cr_all rfl) (by rfl) T.f_all (by decide +kernel) (pa_cons (pe_lc (own := [("thing", 1)]) rfl sc_tables_of.nd (pi_seqA (pv 0)) (blkOk_by (by kernel_rfl)) (fun _ _ _ _ _ => (pg_name (i := 1) sc_tables_of.nd rfl (Or.inl rfl))) (fun _ _ _ _ _ => pts_nil) (fun _ _ _ _ _ => (pe_cmpR (op_ownK K (t_Work_eq T) (hr.mono (by decide))) (pe_fldK K (pv 1) rfl) (pe_fldK K (pe_ix (ix_seqK K) (pv 0) pe_int (fun _ _ => rfl)) rfl) (nomark _)))) pa_nil)))) pss_never pss_nil)
    (pss_one (ps_ret (pe_lc (own := [("edition", 2)]) rfl sc_tables_of.nd (pi_seqA (pv 0)) (blkOk_by (by kernel_rfl)) (fun _ _ _ _ _ => (pg_name (i := 2) sc_tables_of.nd rfl (Or.inl rfl))) (fun _ _ _ _ _ => pts_nil) (fun _ _ _ _ _ => (pe_cal (c_kernels_of T) (hr.mono (by decide)) (by rfl) (pa_cons (pv 2) pa_nil)))))))))), ?_⟩
    rcases sd with ⟨n, n1, n3, rfl, rfl⟩ | ⟨rows, kss, ok, nu, l1, l3, sq, rfl⟩
    · apply qd_when (f := true) h
      · refine Xt.is (xb_and (a := true) (b := true) (xb_B (x_call (xad_cons (x_var rfl) xa_nil) (by exact ⟨_, rfl, .inl ⟨⟨_, rfl⟩, rfl⟩⟩))) fun _ => ?_) rfl
        refine xb_test (Xe.is (x_chain (p := true) (q := true) x_int (x_var rfl) (fun _ => x_int) ?_ fun _ => ?_) rfl)
        · have e : decide ((1 : Int) ≤ (n : Nat)) = true := decide_eq_true (by omega)
          rw [← e]
          exact rv_cmp
        · have e : decide (((n : Nat) : Int) ≤ 3) = true := decide_eq_true (by omega)
          rw [← e]
          exact rv_cmp
      · intro _ H1 h
        apply ed_ret h k
        refine Xe.is (xd_op (xd_lst (xad_cons x_non xa_nil)) (x_var rfl) (rv_rep (by omega) (by omega) (by decide))) ?_
        rw [Int.toNat_natCast, List.map_replicate, flat_one]
        rfl
      · intro e
        cases e
    · have hm : ∀ {i : Nat} {e : Dt}, (kss.map (editD rows))[i]? = some e → ∃ ks, kss[i]? = some ks ∧ e = editD rows ks := fun h => map_got h
      apply qd_no h
      · exact Xt.is (xb_and (a := false) (b := true) (xb_B (x_call (xad_cons (x_var rfl) xa_nil) (by exact ⟨_, rfl, .inr ⟨⟨_, sq⟩, rfl⟩⟩))) fun e => by cases e) rfl
      intro H1 h
      apply qd_no h
      · refine Xt.is (xb_or (a := false) (b := false) (Xt.is (xb_not (a := true) (xb_B (x_call (xad_cons (x_var rfl) xa_nil) (by exact ⟨_, _, rfl, sq, rfl⟩)))) rfl) fun _ => Xt.is (xb_not (a := true) (xb_test (Xe.is (x_chain (p := true) (q := true) x_int (xd_cb (xad_cons (x_var rfl) xa_nil) (rc_lenA sq)) (fun _ => x_int) ?_ fun _ => ?_) rfl))) rfl) rfl
        · have e : decide ((1 : Int) ≤ ((kss.map (editD rows)).length : Nat)) = true := decide_eq_true (by rw [List.length_map]; omega)
          rw [← e]
          exact rv_cmp
        · have e : decide (((kss.map (editD rows)).length : Int) ≤ 3) = true := decide_eq_true (by rw [List.length_map]; omega)
          rw [← e]
          exact rv_cmp
      intro H2 h
      apply qd_no h
      · refine Xt.is (xb_not (a := true) (xb_B (Xe.is (xd_cb (xad_cons (x_lcN (fun _ => .bl true) (xi_seqA sq (x_var rfl)).j (fun i d' p acc e => ?_) (hz := by rw [List.length_map]; omega)) xa_nil) rc_allD) ?_))) rfl
        · obtain ⟨ks, _, rfl⟩ := hm e
          exact xd_cb (xad_cons (x_var rfl) (xad_cons x_ref xa_nil)) T.q_Edition
        · exact congrArg Dt.bl (List.all_eq_true.mpr fun _ _ => rfl)
      intro H3 h
      apply qd_no h
      · refine Xt.is (xb_not (a := true) (xb_B (Xe.is (xd_cb (xad_cons (x_lcN (fun _ => .bl true) (xi_seqA sq (x_var rfl)).j (fun i d' p acc e => ?_) (hz := by rw [List.length_map]; omega)) xa_nil) rc_allD) ?_))) rfl
        · obtain ⟨ks, _, rfl⟩ := hm e
          have h0 : atI (kss.map (editD rows)) (0 : Int) = some (editD rows (kss[0]'(by omega))) := atN (i := 0) (by rw [List.getElem?_map, List.getElem?_eq_getElem (by omega)]; rfl)
          exact xd_op (x_fld T.c_Edition T.n_Edition_work (x_var rfl) rfl) (x_fld T.c_Edition T.n_Edition_work (xd_op (x_var rfl) x_int (rv_ixA sq h0)) rfl) (rv_own ⟨rows, ok, rfl, rfl⟩)
        · exact congrArg Dt.bl (List.all_eq_true.mpr fun _ _ => rfl)
      intro H4 h
      apply ed_ret h k
      refine Xe.is (x_lcN (fun e => match e with | .ins _ _ [_, .tup ks] => .lst ((kernL (ks.map fun k => match k with | .int i => i.toNat | _ => 0) rows.length).map .int) | _ => .non) (xi_seqA sq (x_var rfl)).j (fun i d' p acc e => ?_) (hz := by rw [List.length_map]; omega)) ?_
      · obtain ⟨ks, ek, rfl⟩ := hm e
        refine Xe.is (x_call (xad_cons (x_var rfl) xa_nil) (by exact ⟨rows, ks, ok, nu ks (List.mem_of_getElem? ek), rfl, rfl⟩)) ?_
        show _ = Dt.lst ((kernL ((ks.map fun (k : Nat) => Dt.int (k : Int)).map _) rows.length).map .int)
        rw [List.map_map, nats_back]
      · rw [List.map_map, List.map_map]
        refine congrArg Dt.lst (List.map_congr_left fun ks _ => ?_)
        show Dt.lst ((kernL ((ks.map fun (k : Nat) => Dt.int (k : Int)).map _) rows.length).map .int) = _
        rw [List.map_map, nats_back]
        rfl
end
end Lf

namespace Lf
open PySem PySem.Spec PyProof.Rows L2
local macro_rules | `(tactic| walk_at "rv") => `(tactic| with_reducible first
  | exact rv_int | exact rv_cmp | exact rv_eqI | exact rv_neI | exact rv_eqS | exact rv_neS | exact rv_eqB | exact rv_neB)
local macro_rules | `(tactic| walk_at "xd") => `(tactic| first
  | (with_reducible first | exact x_int | exact x_str | exact x_bl | exact x_non | exact x_ty | exact x_ref)
  | ((with_reducible apply x_var); exact rfl)
  | ((with_reducible apply xd_op); (walk_at "xd"); (walk_at "xd"); (walk_at "rv"))
  | ((with_reducible apply xd_if); (walk_at "xb"); (intro _; walk_at "xd"); (intro _; walk_at "xd"))
  | ((with_reducible apply xd_tup); (walk_at "xa"); (first | decide | assumption | omega))
  | ((with_reducible apply xd_lst); (walk_at "xa"); (first | decide | assumption | omega)))
local macro_rules | `(tactic| walk_at "xb") => `(tactic| first
  | ((with_reducible apply xb_test); (walk_at "xd"))
  | ((with_reducible apply xb_B); (walk_at "xd"))
  | ((with_reducible apply xb_and); (walk_at "xb"); (intro _; walk_at "xb"))
  | ((with_reducible apply xb_or); (walk_at "xb"); (intro _; walk_at "xb"))
  | ((with_reducible apply xb_not); (walk_at "xb")))
local macro_rules | `(tactic| walk_at "xa") => `(tactic| first
  | (with_reducible exact xa_nil)
  | ((with_reducible apply xad_cons); (walk_at "xd"); (walk_at "xa")))

/-! ### rules -/
structure FdOk (f : Fd) : Prop where
  nm : isW f.nm
  rd : f.rd ∈ (["no", "last", "raise", "row"] : List Str)
  jp : f.jp ∈ (["no", "last", "raise", "lower"] : List Str)
  an : f.an ∈ (["no", "least"] : List Str)
  gv : f.gv ∈ (["no", "last", "raise", "later"] : List Str)
  tk : f.tk ∈ (["no", "last", "raise", "later"] : List Str)
  kp : f.kp ∈ (["exact", "floored"] : List Str)
structure FsOk (fs : List Fd) : Prop where
  lo : 1 ≤ fs.length
  hi : fs.length ≤ 3
  nd : (fs.map Fd.nm).Nodup
  ok : ∀ f ∈ fs, FdOk f
structure RlOk (R : Rl) : Prop where
  fs : FsOk R.fs
  way : R.way ∈ waysL
  sh : R.sh ∈ R.fs.map Fd.nm
section
variable {P : Program} {w : World} {K : PySem.W.Frag} {mg : Str → Option Value} {base : Heap}
theorem Txt.t_PARTS (T : Txt w K mg) (H : Hp) : SqT K H (He.ga K "PARTS") (partsL.map V.str) := tupAt_ok (He.ba (He.ba (He.ba T.s.more).2).2).1 H
theorem Txt.t_WAYS (T : Txt w K mg) (H : Hp) : SqT K H (He.ga K "WAYS") (waysL.map V.str) := tupAt_ok (He.ba (He.ba (He.ba (He.ba T.s.more).2).2).2).1 H
theorem Txt.t_WORDS (T : Txt w K mg) {p : Str} {xs : List Str} (h : (p, xs) ∈ wordsL) : KDct K w (He.ga K "WORDS") p (.ref (wAt p K)) ∧ ∀ H, SqT K H (wAt p K) (xs.map V.str) := by
  have a := (He.ba (He.ba (He.ba (He.ba (He.ba T.s.more).2).2).2).2).1
  obtain ⟨h1, h2⟩ := He.ba (List.all_eq_true.mp a (p, xs) h)
  obtain ⟨es, n, D⟩ := T.s.t.tab 1
  exact ⟨⟨es, n, _, D.at_, D.lit, He.eqO_ok h1, rfl⟩, fun H => tupAt_ok h2 H⟩
theorem Txt.t_SIZES (T : Txt w K mg) {p : Str} {i : Int} (h : (p, i) ∈ sizesL) : ∃ u, PySem.W.nsIn K (He.ga K "SIZES") p = some (some u) ∧ RelV (.int i) u := by
  have a := (He.ba (He.ba (He.ba (He.ba (He.ba T.s.more).2).2).2).2).2
  exact He.valsB_ok a (q := (p, He.Dv.int i)) (List.mem_map.mpr ⟨(p, i), h, rfl⟩)
theorem Txt.d_SIZES (T : Txt w K mg) : ∃ es n, KDict K w (He.ga K "SIZES") es n := T.s.t.tab 0
theorem rc_lenK {M : Mode K} {a : Addr} {xs : List V} (h : ∀ H, SqT K H a xs) : Rc M (rLenQ K) [.raw a] (· = .int (xs.length : Nat)) := fun vs H Q ok hs k => by
  obtain ⟨v, e, e2⟩ := one_of (ds := []) hs
  exact ⟨a, xs, by rw [e, show v = V.ref a from e2], .inr (h H), k _ _ H (M.refl H) rfl rfl⟩
theorem rv_inK {M : Mode K} {neg : Bool} {a : Addr} {x : Str} {xs : List Str} (h : ∀ H, SqT K H a (xs.map V.str)) : Rv M (rIn K neg) (.str x) (.raw a) (· = .bl (if neg then !decide (x ∈ xs) else decide (x ∈ xs))) := fun v y H Q ok hx hy k =>
  ⟨a, _, hy, .inr (h H), by rw [show v = V.str x from hx]; rfl, flat_strs xs, k _ _ H (M.refl H) rfl (by rw [show v = V.str x from hx, inV_str]; exact rfl)⟩
def isNonD : Dt → Bool
  | .non => true
  | _ => false
theorem at_non {B : Addr → Prop} {H : Hp} : ∀ {a : Dt} {v : V}, At K B H a v → decide (v = .non) = isNonD a
  | .non, v, h => decide_eq_true h
  | .bl _, v, h => decide_eq_false fun z => by rw [show v = _ from h] at z; cases z
  | .int _, v, h => decide_eq_false fun z => by rw [show v = _ from h] at z; cases z
  | .str _, v, h => decide_eq_false fun z => by rw [show v = _ from h] at z; cases z
  | .raw _, v, h => decide_eq_false fun z => by rw [show v = _ from h] at z; cases z
  | .ty _, v, h => decide_eq_false fun z => by rw [show v = _ from h] at z; cases z
  | .lst _, v, h => decide_eq_false fun z => by
    obtain ⟨a, xs, e, _⟩ := h
    rw [e] at z
    cases z
  | .tup _, v, h => decide_eq_false fun z => by
    obtain ⟨a, xs, e, _⟩ := h
    rw [e] at z
    cases z
  | .ins _ _ _, v, h => decide_eq_false fun z => by
    obtain ⟨a, dx, xs, e, _⟩ := h
    rw [e] at z
    cases z
theorem rv_isD {M : Mode K} {a : Dt} : Rv M (fun x y H Q => y = .non ∧ Q (.bl (decide (x = .non))) H) a .non (· = .bl (isNonD a)) := fun x y H Q ok hx hy k => ⟨hy, k _ _ H (M.refl H) rfl (congrArg V.bl (at_non hx))⟩
theorem rv_notD {M : Mode K} {a : Dt} : Rv M (fun x y H Q => y = .non ∧ Q (.bl (!decide (x = .non))) H) a .non (· = .bl (!isNonD a)) := fun x y H Q ok hx hy k => ⟨hy, k _ _ H (M.refl H) rfl (congrArg (fun b => V.bl (!b)) (at_non hx))⟩
def preOne (K : PySem.W.Frag) (ds : List Dt) (r : Dt) : Prop := ∃ (x : Str) (xs : List Str) (d : Dt), ds = [.str x, d] ∧ x ∈ xs ∧ (d = .lst (xs.map .str) ∨ ∃ a, d = .raw a ∧ ∀ H, SqT K H a (xs.map V.str)) ∧ r = .bl true
theorem c_is_one_of (T : Txt w K mg) : Cal P w K mg base 1 "is_one_of" ["thing", "words"] (spP K (preOne K)) := by
  refine cal_is_one_of T fun f fd F => pure_ok F sc_is_one_of ?_ fun cdv A outer s H σ Q E B ds r hr hp h k => ?_
  · rintro ds r ⟨x, xs, d, rfl, _⟩
    rfl
  · obtain ⟨x, xs, d, rfl, hx, hd, rfl⟩ := hp
    refine ⟨_, (pss_one (ps_ret (pe_and (pe_callB call_isi (by rfl) T.f_isinstance (by decide +kernel) (pa_cons (pv 0) (pa_cons (pe_bltn (v := .ty "str") (by rfl) T.f_str (by decide +kernel) rfl) pa_nil))) (pe_one (pe_cmpR op_in_seq (pv 0) (pv 1) rfl))))), ?_⟩
    have e : decide (x ∈ xs) = true := decide_eq_true hx
    rcases hd with rfl | ⟨a, rfl, ha⟩
    · exact ed_ret h k (Xe.is (x_andV (a := true) (b := true) (xd_cb (xad_cons (x_var rfl) (xad_cons x_ty xa_nil)) (rc_isi rfl (by decide +kernel))) fun _ => Xe.is (xd_op (x_var rfl) (x_var rfl) rv_inLS) (congrArg Dt.bl e)) rfl)
    · exact ed_ret h k (Xe.is (x_andV (a := true) (b := true) (xd_cb (xad_cons (x_var rfl) (xad_cons x_ty xa_nil)) (rc_isi rfl (by decide +kernel))) fun _ => Xe.is (xd_op (x_var rfl) (x_var rfl) (rv_inK ha)) (congrArg Dt.bl e)) rfl)
def preReason (ds : List Dt) (r : Dt) : Prop := ∃ (f : Fd) (ns : List Str), FdOk f ∧ f.nm ∉ ns ∧ ds = [f.dt, .lst (ns.map .str)] ∧ r = .non
def Fd.ws (f : Fd) : List Str := [f.rd, f.jp, f.an, f.gv, f.tk, f.kp]
theorem c_field_reason (T : Txt w K mg) : Cal P w K mg base 2 "field_reason" ["thing", "ahead"] (spP K preReason) := by
  refine cal_field_reason T fun f fd F => pure_ok F sc_field_reason ?_ fun cdv A outer s H σ Q E B ds r hr hp h k => ?_
  · rintro ds r ⟨f, ns, _, _, rfl, rfl⟩
    rfl
  · obtain ⟨fl, ns, ok, hn, rfl, rfl⟩ := hp
    refine ⟨_, (pss_cons (ps_if (PW.pt (pw_or (pt_not (pt_val (pe_cal (c_is_row T) (hr.mono (by decide)) (by rfl) (pa_cons (pv 0) pa_nil)))) (pw_or1 (pt_cmpR op_ne (pe_callB call_lenQ (by rfl) T.f_len PySem.boot_len (pa_cons (pv 0) pa_nil)) (pe_op op_add pe_int (pe_callB call_lenQ (by rfl) T.f_len PySem.boot_len (pa_cons (pe_glob (v := .ref (He.ga K "PARTS")) (by rfl) T.g_PARTS rfl) pa_nil))) (nomark _))))) (pss_one (ps_ret pe_str)) pss_nil)
    (pss_cons (ps_if (PW.pt (pw_or (pt_not (pt_val (pe_cal (c_is_word T) (hr.mono (by decide)) (by rfl) (pa_cons (pe_ix ix_tup (pv 0) pe_int (fun _ _ => rfl)) pa_nil)))) (pw_or1 (pt_cmpR op_in_seq (pe_ix ix_tup (pv 0) pe_int (fun _ _ => rfl)) (pv 1) rfl)))) (pss_one (ps_ret pe_str)) pss_nil)
    (pss_cons (ps_for PassesOwn.never rfl (pi_zipX (by rfl) T.f_zip (pa_cons (pe_glob (v := .ref (He.ga K "PARTS")) (by rfl) T.g_PARTS rfl) (pa_cons (pe_slice sl_list (pe_callTy call_listQ (by rfl) T.f_list (by decide +kernel) (pa_cons (pv 0) pa_nil)) (po_some pe_int) po_none) pa_nil))) (pg_tup rfl (pgs_cons (pg_name (i := 2) sc_field_reason.nd rfl (Or.inl rfl)) (pgs_cons (pg_name (i := 3) sc_field_reason.nd rfl (Or.inl rfl)) pgs_nil))) (pss_one (ps_if (pt_not (pt_val (pe_cal (c_is_one_of T) (hr.mono (by decide)) (by rfl) (pa_cons (pv 3) (pa_cons (pe_ix ix_kdict (pe_glob (v := .ref (He.ga K "WORDS")) (by rfl) T.g_WORDS rfl) (pv 2) (fun _ _ => rfl)) pa_nil))))) (pss_one (ps_ret (pv 2))) pss_nil)))
    (pss_one (ps_ret pe_non))))), ?_⟩
    apply qd_no h
    · exact Xt.is (xb_or (a := false) (b := false) (Xt.is (xb_not (a := true) (xb_B (x_call (xad_cons (x_var rfl) xa_nil) (by exact ⟨_, _, rfl, .inr rfl, rfl⟩)))) rfl) fun _ => Xt.is (xb_test (xd_op (xd_cb (xad_cons (x_var rfl) xa_nil) rc_lenT) (xd_op x_int (xd_cb (xad_cons x_ref xa_nil) (rc_lenK T.t_PARTS)) rv_int) rv_neI)) rfl) rfl
    intro H1 h
    apply qd_no h
    · exact Xt.is (xb_or (a := false) (b := false) (Xt.is (xb_not (a := true) (xb_B (x_call (xad_cons (xd_op (x_var rfl) x_int (rv_ixT (i := 0) rfl)) xa_nil) (by exact ⟨_, rfl, ok.nm, rfl⟩)))) rfl) fun _ => Xt.is (xb_test (xd_op (xd_op (x_var rfl) x_int (rv_ixT (i := 0) rfl)) (x_var rfl) rv_inLS)) (decide_eq_false hn)) rfl
    intro H2 h
    refine q_forD (js := [2, 3]) (fun _ => pureM K B) (fun _ => [some fl.dt, some (.lst (ns.map .str)), none, none]) (fun _ d => G2 [some fl.dt, some (.lst (ns.map .str)), none, none] 2 3 d) h (xi_zipX (bs := fl.ws.map .str) T.t_PARTS (Xe.is (x_slL (xd_cb (xad_cons (x_var rfl) xa_nil) rc_listT) (xo_some x_int) xo_none) rfl) rfl) (fun i d e => ?_) (fun i d L' σ' H' e h => ?_) fun σ' H' h => ?_
    · obtain ⟨a, b, _, _, rfl⟩ := zipD_got e
      exact xg_two
    · obtain ⟨a, b, ea, eb, rfl⟩ := zipD_got e
      obtain ⟨p, ep, rfl⟩ := map_got ea
      obtain ⟨x, ex, rfl⟩ := map_got eb
      have key : ∃ xs, (p, xs) ∈ wordsL ∧ x ∈ xs := by
        have hi : i < 6 := (List.getElem?_eq_some_iff.mp ep).1
        match i, hi, ep, ex with
        | 0, _, ep, ex => cases ep; cases ex; exact ⟨_, List.mem_cons_self, ok.rd⟩
        | 1, _, ep, ex => cases ep; cases ex; exact ⟨_, List.mem_cons_of_mem _ List.mem_cons_self, ok.jp⟩
        | 2, _, ep, ex => cases ep; cases ex; exact ⟨_, List.mem_cons_of_mem _ (List.mem_cons_of_mem _ List.mem_cons_self), ok.an⟩
        | 3, _, ep, ex => cases ep; cases ex; exact ⟨_, List.mem_cons_of_mem _ (List.mem_cons_of_mem _ (List.mem_cons_of_mem _ List.mem_cons_self)), ok.gv⟩
        | 4, _, ep, ex => cases ep; cases ex; exact ⟨_, List.mem_cons_of_mem _ (List.mem_cons_of_mem _ (List.mem_cons_of_mem _ (List.mem_cons_of_mem _ List.mem_cons_self))), ok.tk⟩
        | 5, _, ep, ex => cases ep; cases ex; exact ⟨_, List.mem_cons_of_mem _ (List.mem_cons_of_mem _ (List.mem_cons_of_mem _ (List.mem_cons_of_mem _ (List.mem_cons_of_mem _ List.mem_cons_self)))), ok.kp⟩
      obtain ⟨xs, hw, hx⟩ := key
      obtain ⟨w1, w2⟩ := T.t_WORDS hw
      refine ed_when (f := false) h ?_ (fun e => by cases e) fun _ H3 h => h.weak (by repeat (first | exact GLe.nil | apply GLe.keep | apply GLe.drop))
      exact Xt.is (xb_not (a := true) (xb_B (x_call (xad_cons (x_var rfl) (xad_cons (x_kd (d := .raw (wAt p K)) (x_var rfl) w1 fun _ => rfl) xa_nil)) (by exact ⟨x, xs, _, rfl, hx, .inr ⟨_, rfl, w2⟩, rfl⟩)))) rfl
    · exact ed_ret h k x_non
def preFields (ds : List Dt) (r : Dt) : Prop := ∃ fs, FsOk fs ∧ ds = [.lst (fs.map Fd.dt)] ∧ r = .lst (fs.map Fd.dt)
theorem nms_dt (fs : List Fd) : (fs.map Fd.dt).map (fun d => match d with | .tup (a :: _) => a | _ => .non) = (fs.map Fd.nm).map Dt.str := by
  rw [List.map_map, List.map_map]
  rfl
theorem c_checked_fields (T : Txt w K mg) : Cal P w K mg base 3 "checked_fields" ["things"] (spP K preFields) := by
  refine cal_checked_fields T fun f fd F => pure_ok F sc_checked_fields ?_ fun cdv A outer s H σ Q E B ds r hr hp h k => ?_
  · rintro ds r ⟨fs, _, rfl, rfl⟩
    rfl
  · obtain ⟨fs, ok, rfl, rfl⟩ := hp
    have l1 := ok.lo
    have l3 := ok.hi
    refine ⟨_, (pss_cons (ps_if (PW.pt (pw_or (pt_not (pt_val (pe_cal (c_is_row T) (hr.mono (by decide)) (by rfl) (pa_cons (pv 0) pa_nil)))) (pw_or1 (pt_cmpR op_eq (pe_callB call_lenQ (by rfl) T.f_len PySem.boot_len (pa_cons (pv 0) pa_nil)) pe_int (nomark _))))) pss_never pss_nil)
    (pss_cons (ps_set (i := 1) sc_checked_fields.nd rfl (Or.inl rfl) (pe_lst pa_nil))
    (pss_cons (ps_for PassesOwn.never rfl (pi_enum (by rfl) T.f_enumerate (pa_cons (pv 0) pa_nil)) (pg_tup rfl (pgs_cons (pg_name (i := 2) sc_checked_fields.nd rfl (Or.inl rfl)) (pgs_cons (pg_name (i := 3) sc_checked_fields.nd rfl (Or.inl rfl)) pgs_nil))) (pss_cons (ps_set (i := 4) sc_checked_fields.nd rfl (Or.inl rfl) (pe_ifExp (pt_cmpR op_eq (pv 2) (pe_glob (v := .int 3) (by rfl) T.i_MOST_FIELDS.choose_spec ⟨_, rfl⟩) (nomark _)) pe_str (pe_cal (c_field_reason T) (hr.mono (by decide)) (by rfl) (pa_cons (pv 3) (pa_cons (pe_lc (own := [("field", 5)]) rfl sc_checked_fields.nd (pi_list (pv 1)) (blkOk_by (by kernel_rfl)) (fun _ _ _ _ _ => (pg_name (i := 5) sc_checked_fields.nd rfl (Or.inl rfl))) (fun _ _ _ _ _ => pts_nil) (fun _ _ _ _ _ => (pe_ix (ix_tupK K) (pv 5) pe_int (fun _ _ => rfl)))) pa_nil)))))
    (pss_cons (ps_if (pt_cmpR op_notN (pv 4) pe_non (nomark _)) pss_never pss_nil)
    (pss_one (ps_expr (pe_bm PySem.F.plainAttrs_list PySem.F.slot_list_append PySem.F.type_list_append mt_append (pv 1) (pa_cons (pe_callTy call_tupQ (by rfl) T.f_tuple (by decide +kernel) (pa_cons (pv 3) pa_nil)) pa_nil)))))))
    (pss_one (ps_ret (pv 1)))))), ?_⟩
    apply qd_no h
    · exact Xt.is (xb_or (a := false) (b := false) (Xt.is (xb_not (a := true) (xb_B (x_call (xad_cons (x_var rfl) xa_nil) (by exact ⟨_, _, rfl, .inl rfl, rfl⟩)))) rfl) fun _ => Xt.is (xb_test (xd_op (xd_cb (xad_cons (x_var rfl) xa_nil) rc_lenL) x_int rv_eqI)) (decide_eq_false (by rw [List.length_map]; omega))) rfl
    intro H1 h
    apply q_new0 h
    intro p σ1 H2 h
    refine q_forE (fun i => (pureM K B).bld p ((fs.take i).map Fd.dt)) (fun _ => [some (.lst (fs.map Fd.dt)), some (.raw p), none, none, none, none]) h (xi_enum (x_var rfl)) (fun i x L' σ' H' e h => ?_) fun σ' H' h => ?_
    · obtain ⟨fl, ef, rfl⟩ := map_got e
      have hi : i < fs.length := (List.getElem?_eq_some_iff.mp ef).1
      have nin : fl.nm ∉ (fs.take i).map Fd.nm := by
        rw [List.map_take]
        exact take_in ok.nd (by rw [List.getElem?_map, ef]; rfl)
      apply qd_asg (d := .non) h
      · refine Xe.is (xd_if (b := false) (d := .str "field") (d' := .non) (Xt.is (xb_test (xd_op (x_var rfl) x_int rv_eqI)) (decide_eq_false (by omega))) (fun e => by cases e) fun _ => ?_) rfl
        refine x_call (xad_cons (x_var rfl) (xad_cons (Xe.is (x_lcN (ds := (fs.take i).map Fd.dt) (fun d => match d with | .tup (a :: _) => a | _ => .non) (xj_xl (xl_bld rfl)) (fun j d q acc e => ?_) (hz := ?_)) ?_) xa_nil)) (by exact ⟨fl, (fs.take i).map Fd.nm, ok.ok fl (List.mem_of_getElem? ef), nin, rfl, rfl⟩)
        · obtain ⟨f2, _, rfl⟩ := map_got e
          exact xd_op (x_var rfl) x_int (rv_ixT (i := 0) rfl)
        · rw [List.length_map, List.length_take]
          omega
        · rw [nms_dt]
      intro σ4 H4 h
      apply qd_no h
      · exact xb_test (xd_op (x_var rfl) x_non rv_notD)
      intro H5 h
      apply ed_app h rfl
      · rw [List.length_map, List.length_take]
        omega
      · exact xd_cb (xad_cons (x_var rfl) xa_nil) rc_tupT
      · intro H6 h
        rw [show (fs.take (i + 1)).map Fd.dt = (fs.take i).map Fd.dt ++ [fl.dt] by rw [take_succ' ef, List.map_append]; rfl]
        exact h.weak (by repeat (first | exact GLe.nil | apply GLe.keep | apply GLe.drop))
    · rw [List.length_map, List.take_length] at h
      exact e_retB h rfl fun v _ f hv => k v H' f hv
def preShow (ds : List Dt) (r : Dt) : Prop := ∃ (y x : Str) (ns : List Str), y ∈ waysL ∧ x ∈ ns ∧ ds = [.tup [.str y, .str x], .lst (ns.map .str)] ∧ r = .tup [.str y, .str x]
theorem c_checked_show (T : Txt w K mg) : Cal P w K mg base 2 "checked_show" ["show", "names"] (spP K preShow) := by
  refine cal_checked_show T fun f fd F => pure_ok F sc_checked_show ?_ fun cdv A outer s H σ Q E B ds r hr hp h k => ?_
  · rintro ds r ⟨y, x, ns, _, _, rfl, rfl⟩
    rfl
  · obtain ⟨y, x, ns, hy, hx, rfl, rfl⟩ := hp
    refine ⟨_, (pss_cons (ps_if (PW.pt (pw_or (pt_not (pt_val (pe_cal (c_is_row T) (hr.mono (by decide)) (by rfl) (pa_cons (pv 0) pa_nil)))) (pw_or (pt_cmpR op_ne (pe_callB call_lenQ (by rfl) T.f_len PySem.boot_len (pa_cons (pv 0) pa_nil)) pe_int (nomark _)) (pw_or (pt_not (pt_val (pe_cal (c_is_one_of T) (hr.mono (by decide)) (by rfl) (pa_cons (pe_ix ix_tup (pv 0) pe_int (fun _ _ => rfl)) (pa_cons (pe_glob (v := .ref (He.ga K "WAYS")) (by rfl) T.g_WAYS rfl) pa_nil))))) (pw_or1 (pt_not (pt_val (pe_cal (c_is_one_of T) (hr.mono (by decide)) (by rfl) (pa_cons (pe_ix ix_tup (pv 0) pe_int (fun _ _ => rfl)) (pa_cons (pv 1) pa_nil)))))))))) pss_never pss_nil)
    (pss_one (ps_ret (pe_callTy call_tupQ (by rfl) T.f_tuple (by decide +kernel) (pa_cons (pv 0) pa_nil))))), ?_⟩
    apply qd_no h
    · refine Xt.is (xb_or (a := false) (b := false) (Xt.is (xb_not (a := true) (xb_B (x_call (xad_cons (x_var rfl) xa_nil) (by exact ⟨_, _, rfl, .inr rfl, rfl⟩)))) rfl) fun _ => Xt.is (xb_or (a := false) (b := false) (Xt.is (xb_test (xd_op (xd_cb (xad_cons (x_var rfl) xa_nil) rc_lenT) x_int rv_neI)) rfl) fun _ => Xt.is (xb_or (a := false) (b := false) (Xt.is (xb_not (a := true) (xb_B (x_call (xad_cons (xd_op (x_var rfl) x_int (rv_ixT (i := 0) rfl)) (xad_cons x_ref xa_nil)) (by exact ⟨y, waysL, _, rfl, hy, .inr ⟨_, rfl, T.t_WAYS⟩, rfl⟩)))) rfl) fun _ => Xt.is (xb_not (a := true) (xb_B (x_call (xad_cons (xd_op (x_var rfl) x_int (rv_ixT (i := 1) rfl)) (xad_cons (x_var rfl) xa_nil)) (by exact ⟨x, ns, _, rfl, hx, .inl rfl, rfl⟩)))) rfl) rfl) rfl) rfl
    intro H1 h
    exact ed_ret h k (xd_cb (xad_cons (x_var rfl) xa_nil) rc_tupT)
def preRule (ds : List Dt) (ks : List Str) (rs : List Dt) : Prop := ∃ R : Rl, RlOk R ∧ ds = [.lst (R.fs.map Fd.dt), .tup [.str R.way, .str R.sh]] ∧ ks = (["parts", "way"] : List Str) ∧ rs = [.lst (R.fs.map Fd.dt), .tup [.str R.way, .str R.sh]]
theorem m_Rule (T : Txt w K mg) : Mak P w K mg base 4 "Rule" ["self", "fields", "show"] (spI K "Rule" preRule) := by
  refine mak_Rule T fun f fd F => ini_ok F sc_Rule_init ?_ fun cdv A outer s H0 H σ Q E B p dp ds ks rs hr hp h k => ?_
  · rintro ds ks rs ⟨R, _, rfl, rfl, rfl⟩
    rfl
  · obtain ⟨R, ok, rfl, rfl, rfl⟩ := hp
    have l3 := ok.fs.hi
    refine ⟨_, (pss_cons (ps_fld (pv 0) (pe_cal (c_checked_fields T) (hr.mono (by decide)) (by rfl) (pa_cons (pv 1) pa_nil)) rfl)
    (pss_one (ps_fld (pv 0) (pe_cal (c_checked_show T) (hr.mono (by decide)) (by rfl) (pa_cons (pv 2) (pa_cons (pe_lc (own := [("field", 3)]) rfl sc_Rule_init.nd (pi_list (pe_fld (pv 0) rfl)) (blkOk_by (by kernel_rfl)) (fun _ _ _ _ _ => (pg_name (i := 3) sc_Rule_init.nd rfl (Or.inl rfl))) (fun _ _ _ _ _ => pts_nil) (fun _ _ _ _ _ => (pe_ix (ix_tupK K) (pv 3) pe_int (fun _ _ => rfl)))) pa_nil))) rfl))), ?_⟩
    refine s_put (D := ⟨_, _, _, _⟩) T.c_Rule T.n_Rule_parts rfl (by decide) rfl (by decide) (x_call (xad_cons (x_var rfl) xa_nil) (by exact ⟨R.fs, ok.fs, rfl, rfl⟩)) h fun d' H2 e h => ?_
    subst e
    refine s_put (D := ⟨_, _, _, _⟩) T.c_Rule T.n_Rule_way rfl (by decide) rfl (by decide) (P := (· = .tup [.str R.way, .str R.sh])) (x_call (xad_cons (x_var rfl) (xad_cons (Xe.is (x_lcN (ds := R.fs.map Fd.dt) (fun d => match d with | .tup (a :: _) => a | _ => .non) (xi_list (x_own T.c_Rule T.n_Rule_parts HasO.own rfl rfl)).j (fun j d q acc e => ?_) (hz := by rw [List.length_map]; omega)) (by rw [nms_dt])) xa_nil)) (by exact ⟨R.way, R.sh, R.fs.map Fd.nm, ok.way, ok.sh, rfl, rfl⟩)) h fun d' H3 e h => ?_
    · obtain ⟨f2, _, rfl⟩ := map_got e
      exact xd_op (x_var rfl) x_int (rv_ixT (i := 0) rfl)
    · subst e
      exact k _ _ h
def preFlds (ds : List Dt) (r : Dt) : Prop := ∃ R : Rl, ds = [R.dt] ∧ r = .lst (R.fs.map Fd.dt)
theorem t_Rule_fields (T : Txt w K mg) : Met P w K mg base 1 "Rule" "fields" ["self"] (spP K preFlds) := by
  refine met_Rule_fields T fun f fd F => pure_ok F sc_Rule_fields ?_ fun cdv A outer s H σ Q E B ds r hr hp h k => ?_
  · rintro ds r ⟨R, rfl, rfl⟩
    rfl
  · obtain ⟨R, rfl, rfl⟩ := hp
    exact ⟨_, (pss_one (ps_ret (pe_callTy call_listQ (by rfl) T.f_list (by decide +kernel) (pa_cons (pe_fld (pv 0) rfl) pa_nil)))), ed_ret h k (xd_cb (xad_cons (x_fld T.c_Rule T.n_Rule_parts (x_var rfl) rfl) xa_nil) rc_listL)⟩
def preShw (ds : List Dt) (r : Dt) : Prop := ∃ R : Rl, ds = [R.dt] ∧ r = .tup [.str R.way, .str R.sh]
theorem t_Rule_show (T : Txt w K mg) : Met P w K mg base 1 "Rule" "show" ["self"] (spP K preShw) := by
  refine met_Rule_show T fun f fd F => pure_ok F sc_Rule_show ?_ fun cdv A outer s H σ Q E B ds r hr hp h k => ?_
  · rintro ds r ⟨R, rfl, rfl⟩
    rfl
  · obtain ⟨R, rfl, rfl⟩ := hp
    exact ⟨_, (pss_one (ps_ret (pe_fld (pv 0) rfl))), ed_ret h k (x_fld T.c_Rule T.n_Rule_way (x_var rfl) rfl)⟩
def prePos (ds : List Dt) (r : Dt) : Prop := ∃ R : Rl, RlOk R ∧ ds = [R.dt] ∧ r = .int (R.at : Nat)
theorem t_Rule_place_of_show (T : Txt w K mg) : Met P w K mg base 1 "Rule" "place_of_show" ["self"] (spP K prePos) := by
  refine met_Rule_place_of_show T fun f fd F => pure_ok F sc_Rule_place_of_show ?_ fun cdv A outer s H σ Q E B ds r hr hp h k => ?_
  · rintro ds r ⟨R, _, rfl, rfl⟩
    rfl
  · obtain ⟨R, ok, rfl, rfl⟩ := hp
    have l3 := ok.fs.hi
    refine ⟨_, (pss_one (ps_ret (pe_bm PySem.F.plainAttrs_list PySem.F.slot_list_index PySem.F.type_list_index mt_index (pe_lc (own := [("field", 1)]) rfl sc_Rule_place_of_show.nd (pi_list (pe_fld (pv 0) rfl)) (blkOk_by (by kernel_rfl)) (fun _ _ _ _ _ => (pg_name (i := 1) sc_Rule_place_of_show.nd rfl (Or.inl rfl))) (fun _ _ _ _ _ => pts_nil) (fun _ _ _ _ _ => (pe_ix (ix_tupK K) (pv 1) pe_int (fun _ _ => rfl)))) (pa_cons (pe_ix ix_tup (pe_fld (pv 0) rfl) pe_int (fun _ _ => rfl)) pa_nil)))), ?_⟩
    apply ed_ret h k
    refine x_index (Xe.is (x_lcN (ds := R.fs.map Fd.dt) (fun d => match d with | .tup (a :: _) => a | _ => .non) (xi_list (x_fld T.c_Rule T.n_Rule_parts (x_var rfl) rfl)).j (fun j d q acc e => ?_) (hz := by rw [List.length_map]; omega)) (by rw [nms_dt])) (xd_op (x_fld T.c_Rule T.n_Rule_way (x_var rfl) rfl) x_int (rv_ixT (i := 1) rfl)) ok.sh
    obtain ⟨f2, _, rfl⟩ := map_got e
    exact xd_op (x_var rfl) x_int (rv_ixT (i := 0) rfl)
end
end Lf

/-! the object that stands behind a history -/
namespace Lf
open PySem PySem.Spec PyProof.Rows L2
/-- where it stands: itself, its lists, its marks, the rule, the tables -/
structure Adr where
  (p dx aS aH aT aC : Addr) (ms : List Addr) (vr vt : V)
def Adr.all (A : Adr) : List Addr := A.p :: A.aS :: A.aH :: A.aT :: A.aC :: A.ms
def sdKs : List Str := ["rule", "tables", "spots", "held", "stamps", "row", "top", "come_to"]
def Adr.vs (A : Adr) (s : Sd) : List V := [A.vr, A.vt, .ref A.aS, .ref A.aH, .ref A.aT, .int s.row, .int s.top, .ref A.aC]
def marksD (s : Sd) : Dt := .lst (s.held.map fun m => .lst (m.map .int))
def sdDt (R : Rl) (T : List Tb) (s : Sd) : Dt := .ins "Stand" sdKs [R.dt, .lst (T.map tbDt), .lst (s.spots.map .int), marksD s, .lst (s.stamps.map .int), .int s.row, .int s.top, .lst (s.come.map .int)]
section
variable (K : PySem.W.Frag)
structure SdIn (A : Adr) (s : Sd) (H : Hp) : Prop where
  nd : A.all.Nodup
  self : H A.p = some (.ins (He.ga K "Stand") A.dx (sdKs.zip (A.vs s)))
  sp : H A.aS = some (.lst (s.spots.map V.int))
  hl : H A.aH = some (.lst (A.ms.map V.ref))
  st : H A.aT = some (.lst (s.stamps.map V.int))
  cm : H A.aC = some (.lst (s.come.map V.int))
  ml : A.ms.length = s.held.length
  mks : ∀ (i : Nat) (m : Addr) (l : List Int), A.ms[i]? = some m → s.held[i]? = some l → H m = some (.lst (l.map V.int))
end
section
variable {K : PySem.W.Frag}
theorem SdIn.keep {A : Adr} {s : Sd} {H H' : Hp} (h : SdIn K A s H) (k : ∀ a o, a ∈ A.all → H a = some o → H' a = some o) : SdIn K A s H' where
  nd := h.nd
  self := k _ _ (by simp [Adr.all]) h.self
  sp := k _ _ (by simp [Adr.all]) h.sp
  hl := k _ _ (by simp [Adr.all]) h.hl
  st := k _ _ (by simp [Adr.all]) h.st
  cm := k _ _ (by simp [Adr.all]) h.cm
  ml := h.ml
  mks := fun i m l e e' => k _ _ (by simp [Adr.all, List.mem_of_getElem? e]) (h.mks i m l e e')
theorem SdIn.live {A : Adr} {s : Sd} {H : Hp} (h : SdIn K A s H) {a : Addr} (ha : a ∈ A.all) : H a ≠ none := by
  have some : ∀ {o : HO}, H a = Option.some o → H a ≠ none := fun e z => by rw [e] at z; cases z
  simp only [Adr.all, List.mem_cons] at ha
  rcases ha with e | e | e | e | e | e
  · subst e; exact some h.self
  · subst e; exact some h.sp
  · subst e; exact some h.hl
  · subst e; exact some h.st
  · subst e; exact some h.cm
  · obtain ⟨i, hi, q⟩ := List.mem_iff_getElem.mp e
    exact some (h.mks i a (s.held[i]'(by rw [← h.ml]; exact hi)) (by rw [List.getElem?_eq_getElem hi, q]) (List.getElem?_eq_getElem _))
def sdO (K : PySem.W.Frag) (A : Adr) (R : Rl) (T : List Tb) (s : Sd) : Own where
  S := fun a => a ∈ A.all
  C := fun B H => SdIn K A s H ∧ At K B H R.dt A.vr ∧ At K B H (.lst (T.map tbDt)) A.vt
  keep := fun h k => ⟨h.1.keep fun a o m e => k a o (.inl m) e, h.2.1.keep fun b o nb e => k b o (.inr nb) e, h.2.2.keep fun b o nb e => k b o (.inr nb) e⟩
  less := fun h k => ⟨h.1, h.2.1.less k, h.2.2.less k⟩
  moreS := fun h k => ⟨h.1, h.2.1.moreS k, h.2.2.moreS k⟩
  live := fun h m => h.1.live m
/-- what it is as data, as long as nobody writes at it -/
theorem SdIn.at {A : Adr} {R : Rl} {T : List Tb} {s : Sd} {H : Hp} {B : Addr → Prop} (h : SdIn K A s H) (hr : At K B H R.dt A.vr) (ht : At K B H (.lst (T.map tbDt)) A.vt) (nb : ∀ a ∈ A.all, ¬ B a) : At K B H (sdDt R T s) (.ref A.p) := by
  refine ⟨A.p, A.dx, A.vs s, rfl, nb _ (by simp [Adr.all]), h.self, _, _, rfl, hr, _, _, rfl, ht, _, _, rfl, ⟨A.aS, _, rfl, nb _ (by simp [Adr.all]), h.sp, AtAll.ints.mpr rfl⟩, _, _, rfl, ⟨A.aH, _, rfl, nb _ (by simp [Adr.all]), h.hl, ?_⟩, _, _, rfl, ⟨A.aT, _, rfl, nb _ (by simp [Adr.all]), h.st, AtAll.ints.mpr rfl⟩, _, _, rfl, rfl, _, _, rfl, rfl, _, _, rfl, ⟨A.aC, _, rfl, nb _ (by simp [Adr.all]), h.cm, AtAll.ints.mpr rfl⟩, rfl⟩
  have nm : ∀ m ∈ A.ms, ¬ B m := fun m hm => nb m (by simp [Adr.all, hm])
  have key : ∀ (ms : List Addr) (ls : List (List Int)), ms.length = ls.length → (∀ m ∈ ms, ¬ B m) → (∀ (i : Nat) (m : Addr) (l : List Int), ms[i]? = some m → ls[i]? = some l → H m = some (.lst (l.map V.int))) → AtAll K B H (ls.map fun m => .lst (m.map .int)) (ms.map V.ref) := by
    intro ms
    induction ms with
    | nil =>
      intro ls e _ _
      cases ls with
      | nil => exact rfl
      | cons l ls => simp at e
    | cons m ms ih =>
      intro ls e n k
      cases ls with
      | nil => simp at e
      | cons l ls =>
        exact ⟨_, _, rfl, ⟨m, _, rfl, n m List.mem_cons_self, k 0 m l rfl rfl, AtAll.ints.mpr rfl⟩, ih ls (by simpa using e) (fun x hx => n x (List.mem_cons_of_mem _ hx)) fun i x y e1 e2 => k (i + 1) x y (by simpa using e1) (by simpa using e2)⟩
  exact key A.ms s.held h.ml nm h.mks
/-- data that is no address -/
def Flat (d : Dt) : Prop := ∀ (K : PySem.W.Frag) (B B' : Addr → Prop) (H : Hp) (v : V), At K B H d v → At K B' H d v
theorem flat_int {i : Int} : Flat (.int i) := fun _ _ _ _ _ h => h
theorem flat_bl {i : Bool} : Flat (.bl i) := fun _ _ _ _ _ h => h
theorem flat_str {i : Str} : Flat (.str i) := fun _ _ _ _ _ h => h
section
variable {M : Mode K} {G : List (Option Dt)} {A : Adr} {R : Rl} {T : List Tb} {s : Sd} {i j : Nat} {te : TE}
theorem sd_var (e : G[i]? = some (some (.raw A.p))) {σ : L2.St} {H : Hp} (he : Env K M.B H G σ) : σ[i]? = some (some (V.ref A.p)) := by
  obtain ⟨v, e1, e2⟩ := he.2 i _ e
  rw [e1, show v = V.ref A.p from e2]
/-- a query -/
theorem x_qry {pre : List Dt → Dt → Prop} {ta : TA} {m : Str} {ds : List Dt} {r : Dt} (ho : HasO M (sdO K A R T s)) (hi : G[i]? = some (some (.raw A.p))) (hm : m ∉ sdKs) (ha : Xa M G ta (· = ds)) (hp : pre (sdDt R T s :: ds) r) (fl : Flat r) :
    Xd M G (tMeth (He.ga K "Stand") m (spP K pre) [] E0 (tVar i) ta) r := fun σ H Q ok e k => by
  refine ⟨_, sd_var hi e, A.p, A.dx, _, rfl, (ho.at ok).1.self, zip_none hm, ha σ H _ ok e fun vs ds' H2 r2 ed hs => ?_⟩
  rw [ed] at hs
  have o2 := M.stab ok r2
  obtain ⟨c1, c2, c3⟩ := ho.at o2
  have lB : ∀ a, (M.B a ∧ a ∉ A.all) → M.B a := fun a z => z.1
  refine ⟨fun a => M.B a ∧ a ∉ A.all, sdDt R T s :: ds, r, fun a b => M.trk o2 b.1, ⟨_, vs ++ [], rfl, c1.at (c2.less lB) (c3.less lB) fun a h z => z.2 h, by rw [List.append_nil]; exact hs.less lB⟩, hp, fun v H3 s3 hv => ?_⟩
  exact k v r H3 (M.trans r2 (M.same o2 s3)) rfl (fl K _ _ H3 v hv)
/-- a query that gives a new list of texts -/
theorem xn_qry {pre : List Dt → List Dt → Prop} {ta : TA} {m : Str} {ds : List Dt} {xs : List Str} (ho : HasO M (sdO K A R T s)) (hi : G[i]? = some (some (.raw A.p))) (hm : m ∉ sdKs) (ha : Xa M G ta (· = ds)) (hp : pre (sdDt R T s :: ds) (xs.map .str)) :
    Xd M G (tMeth (He.ga K "Stand") m (spF K pre) [] E0 (tVar i) ta) (.lst (xs.map .str)) := fun σ H Q ok e k => by
  refine ⟨_, sd_var hi e, A.p, A.dx, _, rfl, (ho.at ok).1.self, zip_none hm, ha σ H _ ok e fun vs ds' H2 r2 ed hs => ?_⟩
  rw [ed] at hs
  have o2 := M.stab ok r2
  obtain ⟨c1, c2, c3⟩ := ho.at o2
  have lB : ∀ a, (M.B a ∧ a ∉ A.all) → M.B a := fun a z => z.1
  refine ⟨fun a => M.B a ∧ a ∉ A.all, sdDt R T s :: ds, xs.map .str, fun a b => M.trk o2 b.1, ⟨_, vs ++ [], rfl, c1.at (c2.less lB) (c3.less lB) fun a h z => z.2 h, by rw [List.append_nil]; exact hs.less lB⟩, hp, fun p vs2 H3 s3 hp2 h2 hx => ?_⟩
  exact k _ _ H3 (M.trans r2 (M.same o2 s3)) rfl ⟨p, vs2, rfl, M.nB o2 hp2, h2, AtAll.strs.mpr (AtAll.strs.mp hx)⟩
/-! ### reading its fields -/
theorem sd_lk {f : Str} {v : V} (s : Sd) (h : (sdKs.zip (A.vs s)).lookup f = some v) : (sdKs.zip (A.vs s)).lookup f = some v := h
theorem x_sdF {f : Str} {d : Dt} (cl : Cls K (He.ga K "Stand")) (na : NoAttr K (He.ga K "Stand") f) (ho : HasO M (sdO K A R T s)) (hi : G[i]? = some (some (.raw A.p))) (hv : ∀ H, (sdO K A R T s).C M.B H → ∃ v, (sdKs.zip (A.vs s)).lookup f = some v ∧ At K M.B H d v) : Xd M G (tFld K (tVar i) f) d := fun σ H Q ok e k => by
  obtain ⟨v, h1, h2⟩ := hv H (ho.at ok)
  exact ⟨_, sd_var hi e, A.p, _, A.dx, _, v, rfl, (ho.at ok).1.self, cl, na, h1, k v d H (M.refl H) rfl h2⟩
theorem x_sdRule (cl : Cls K (He.ga K "Stand")) (na : NoAttr K (He.ga K "Stand") "rule") (ho : HasO M (sdO K A R T s)) (hi : G[i]? = some (some (.raw A.p))) : Xd M G (tFld K (tVar i) "rule") R.dt := x_sdF cl na ho hi fun H h => ⟨_, rfl, h.2.1⟩
theorem x_sdTables (cl : Cls K (He.ga K "Stand")) (na : NoAttr K (He.ga K "Stand") "tables") (ho : HasO M (sdO K A R T s)) (hi : G[i]? = some (some (.raw A.p))) : Xd M G (tFld K (tVar i) "tables") (.lst (T.map tbDt)) := x_sdF cl na ho hi fun H h => ⟨_, rfl, h.2.2⟩
theorem x_sdRow (cl : Cls K (He.ga K "Stand")) (na : NoAttr K (He.ga K "Stand") "row") (ho : HasO M (sdO K A R T s)) (hi : G[i]? = some (some (.raw A.p))) : Xd M G (tFld K (tVar i) "row") (.int s.row) := x_sdF cl na ho hi fun H h => ⟨_, rfl, rfl⟩
theorem x_sdTop (cl : Cls K (He.ga K "Stand")) (na : NoAttr K (He.ga K "Stand") "top") (ho : HasO M (sdO K A R T s)) (hi : G[i]? = some (some (.raw A.p))) : Xd M G (tFld K (tVar i) "top") (.int s.top) := x_sdF cl na ho hi fun H h => ⟨_, rfl, rfl⟩
theorem x_sdSpots (cl : Cls K (He.ga K "Stand")) (na : NoAttr K (He.ga K "Stand") "spots") (ho : HasO M (sdO K A R T s)) (hi : G[i]? = some (some (.raw A.p))) : Xd M G (tFld K (tVar i) "spots") (.raw A.aS) := x_sdF cl na ho hi fun H h => ⟨_, rfl, rfl⟩
theorem x_sdHeld (cl : Cls K (He.ga K "Stand")) (na : NoAttr K (He.ga K "Stand") "held") (ho : HasO M (sdO K A R T s)) (hi : G[i]? = some (some (.raw A.p))) : Xd M G (tFld K (tVar i) "held") (.raw A.aH) := x_sdF cl na ho hi fun H h => ⟨_, rfl, rfl⟩
theorem x_sdStamps (cl : Cls K (He.ga K "Stand")) (na : NoAttr K (He.ga K "Stand") "stamps") (ho : HasO M (sdO K A R T s)) (hi : G[i]? = some (some (.raw A.p))) : Xd M G (tFld K (tVar i) "stamps") (.raw A.aT) := x_sdF cl na ho hi fun H h => ⟨_, rfl, rfl⟩
theorem x_sdCome (cl : Cls K (He.ga K "Stand")) (na : NoAttr K (He.ga K "Stand") "come_to") (ho : HasO M (sdO K A R T s)) (hi : G[i]? = some (some (.raw A.p))) : Xd M G (tFld K (tVar i) "come_to") (.raw A.aC) := x_sdF cl na ho hi fun H h => ⟨_, rfl, rfl⟩
/-- an owned list that is read -/
theorem xl_raw {a : Addr} {ns : List Int} (ho : HasO M (sdO K A R T s)) (h : Xd M G te (.raw a)) (ha : a ∈ A.all) (hl : ∀ H, SdIn K A s H → H a = some (.lst (ns.map V.int))) : XL M G te (ns.map .int) := fun σ H Q ok e k => h σ H _ ok e fun v d H1 r1 ed hv => by
  rw [ed] at hv
  rw [show v = V.ref a from hv]
  have o1 := M.stab ok r1
  exact k a _ H1 r1 fun H3 r3 => ⟨ho.st r3 ha (hl H1 (ho.at o1).1), AtAll.ints.mpr rfl⟩
theorem xl_sdSpots (ho : HasO M (sdO K A R T s)) (h : Xd M G te (.raw A.aS)) : XL M G te (s.spots.map .int) := xl_raw ho h (by simp [Adr.all]) fun H q => q.sp
theorem xl_sdStamps (ho : HasO M (sdO K A R T s)) (h : Xd M G te (.raw A.aT)) : XL M G te (s.stamps.map .int) := xl_raw ho h (by simp [Adr.all]) fun H q => q.st
theorem xl_sdCome (ho : HasO M (sdO K A R T s)) (h : Xd M G te (.raw A.aC)) : XL M G te (s.come.map .int) := xl_raw ho h (by simp [Adr.all]) fun H q => q.cm
theorem xl_sdMark {n : Nat} {m : Addr} {l : List Int} (ho : HasO M (sdO K A R T s)) (h : Xd M G te (.raw m)) (e1 : A.ms[n]? = some m) (e2 : s.held[n]? = some l) : XL M G te (l.map .int) := xl_raw ho h (by simp [Adr.all, List.mem_of_getElem? e1]) fun H q => q.mks n m l e1 e2
/-- the address of a mark -/
theorem x_sdMark {th ti : TE} {z : Int} {m : Addr} (ho : HasO M (sdO K A R T s)) (h : Xd M G th (.raw A.aH)) (hz : Xd M G ti (.int z)) (e1 : atI A.ms z = some m) : Xd M G (tOp (rIxL K) th ti) (.raw m) := fun σ H Q ok e k => h σ H _ ok e fun v d H1 r1 ed hv => hz σ H1 _ (M.stab ok r1) (e.keep (M.keep r1)) fun w dw H2 r2 ew hw => by
  rw [ed] at hv
  rw [ew] at hw
  have o2 := M.stab (M.stab ok r1) r2
  refine ⟨A.aH, _, z, .ref m, hv, hw, SqL.of (ho.at o2).1.hl, ?_, k _ _ H2 (M.trans r1 r2) rfl rfl⟩
  unfold atI at e1 ⊢
  rw [List.length_map]
  cases q : ixN A.ms.length z with
  | none => rw [q] at e1; cases e1
  | some j =>
    rw [q] at e1
    show (A.ms.map V.ref)[j]? = _
    rw [List.getElem?_map, show A.ms[j]? = some m from e1]
    rfl
end
/-! ### writing -/
theorem nodup_of {l : List Addr} (h : l.Nodup) {i j : Nat} {a : Addr} (e1 : l[i]? = some a) (e2 : l[j]? = some a) : i = j := by
  obtain ⟨hi, q1⟩ := List.getElem?_eq_some_iff.mp e1
  obtain ⟨hj, q2⟩ := List.getElem?_eq_some_iff.mp e2
  rcases Nat.lt_trichotomy i j with z | z | z
  · exact absurd (q1.trans q2.symm) (List.pairwise_iff_getElem.mp h i j hi hj z)
  · exact z
  · exact absurd (q2.trans q1.symm) (List.pairwise_iff_getElem.mp h j i hj hi z)
section
variable {A : Adr} {s : Sd} {H : Hp}
theorem SdIn.nx (h : SdIn K A s H) : A.p ≠ A.aS ∧ A.p ≠ A.aH ∧ A.p ≠ A.aT ∧ A.p ≠ A.aC ∧ A.aS ≠ A.aH ∧ A.aS ≠ A.aT ∧ A.aS ≠ A.aC ∧ A.aH ≠ A.aT ∧ A.aH ≠ A.aC ∧ A.aT ≠ A.aC ∧ (∀ m ∈ A.ms, m ≠ A.p ∧ m ≠ A.aS ∧ m ≠ A.aH ∧ m ≠ A.aT ∧ m ≠ A.aC) := by
  have n := h.nd
  simp only [Adr.all, List.nodup_cons, List.mem_cons, not_or] at n
  obtain ⟨⟨a1, a2, a3, a4, a5⟩, ⟨b1, b2, b3, b4⟩, ⟨c1, c2, c3⟩, ⟨d1, d2⟩, e1, _⟩ := n
  refine ⟨a1, a2, a3, a4, b1, b2, b3, c1, c2, d1, fun m hm => ⟨?_, ?_, ?_, ?_, ?_⟩⟩ <;> intro z <;> subst z
  · exact a5 hm
  · exact b4 hm
  · exact c3 hm
  · exact d2 hm
  · exact e1 hm
theorem SdIn.ms_nd (h : SdIn K A s H) : A.ms.Nodup := by
  have n := h.nd
  simp only [Adr.all, List.nodup_cons] at n
  exact n.2.2.2.2.2
theorem SdIn.setSpots (h : SdIn K A s H) (l : List Int) : SdIn K A { s with spots := l } (upd H A.aS (.lst (l.map V.int))) := by
  obtain ⟨n1, n2, n3, n4, n5, n6, n7, n8, n9, n10, n11⟩ := h.nx
  exact ⟨h.nd, by rw [upd_ne n1]; exact h.self, upd_same, by rw [upd_ne n5.symm]; exact h.hl, by rw [upd_ne n6.symm]; exact h.st, by rw [upd_ne n7.symm]; exact h.cm, h.ml, fun i m l e1 e2 => by
    rw [upd_ne (n11 m (List.mem_of_getElem? e1)).2.1]
    exact h.mks i m l e1 e2⟩
theorem SdIn.setStamps (h : SdIn K A s H) (l : List Int) : SdIn K A { s with stamps := l } (upd H A.aT (.lst (l.map V.int))) := by
  obtain ⟨n1, n2, n3, n4, n5, n6, n7, n8, n9, n10, n11⟩ := h.nx
  exact ⟨h.nd, by rw [upd_ne n3]; exact h.self, by rw [upd_ne n6]; exact h.sp, by rw [upd_ne n8]; exact h.hl, upd_same, by rw [upd_ne n10.symm]; exact h.cm, h.ml, fun i m l e1 e2 => by
    rw [upd_ne (n11 m (List.mem_of_getElem? e1)).2.2.2.1]
    exact h.mks i m l e1 e2⟩
theorem SdIn.setCome (h : SdIn K A s H) (l : List Int) : SdIn K A { s with come := l } (upd H A.aC (.lst (l.map V.int))) := by
  obtain ⟨n1, n2, n3, n4, n5, n6, n7, n8, n9, n10, n11⟩ := h.nx
  exact ⟨h.nd, by rw [upd_ne n4]; exact h.self, by rw [upd_ne n7]; exact h.sp, by rw [upd_ne n9]; exact h.hl, by rw [upd_ne n10]; exact h.st, upd_same, h.ml, fun i m l e1 e2 => by
    rw [upd_ne (n11 m (List.mem_of_getElem? e1)).2.2.2.2]
    exact h.mks i m l e1 e2⟩
theorem SdIn.setMark (h : SdIn K A s H) {n : Nat} {m : Addr} (e : A.ms[n]? = some m) (l : List Int) : SdIn K A { s with held := s.held.set n l } (upd H m (.lst (l.map V.int))) := by
  obtain ⟨n1, n2, n3, n4, n5⟩ := h.nx.2.2.2.2.2.2.2.2.2.2 m (List.mem_of_getElem? e)
  refine ⟨h.nd, by rw [upd_ne n1.symm]; exact h.self, by rw [upd_ne n2.symm]; exact h.sp, by rw [upd_ne n3.symm]; exact h.hl, by rw [upd_ne n4.symm]; exact h.st, by rw [upd_ne n5.symm]; exact h.cm, by rw [List.length_set]; exact h.ml, fun i m' l' e1 e2 => ?_⟩
  by_cases z : n = i
  · subst z
    rw [e] at e1
    cases e1
    have hn : n < s.held.length := by rw [← h.ml]; exact (List.getElem?_eq_some_iff.mp e).1
    have e3 : (s.held.set n l)[n]? = some l' := e2
    rw [List.getElem?_set_self hn] at e3
    cases e3
    exact upd_same
  · have e3 : (s.held.set n l)[i]? = some l' := e2
    rw [List.getElem?_set_ne z] at e3
    rw [upd_ne fun (q : m' = m) => z (nodup_of h.ms_nd e (q ▸ e1))]
    exact h.mks i m' l' e1 e3
theorem SdIn.setSelf (h : SdIn K A s H) (r t : Int) : SdIn K A { s with row := r, top := t } (upd H A.p (.ins (He.ga K "Stand") A.dx (sdKs.zip (A.vs { s with row := r, top := t })))) := by
  obtain ⟨n1, n2, n3, n4, n5, n6, n7, n8, n9, n10, n11⟩ := h.nx
  exact ⟨h.nd, upd_same, by rw [upd_ne n1.symm]; exact h.sp, by rw [upd_ne n2.symm]; exact h.hl, by rw [upd_ne n3.symm]; exact h.st, by rw [upd_ne n4.symm]; exact h.cm, h.ml, fun i m l e1 e2 => by
    rw [upd_ne (n11 m (List.mem_of_getElem? e1)).1]
    exact h.mks i m l e1 e2⟩
/-- a new list of the places that were come to -/
theorem SdIn.newCome (h : SdIn K A s H) {q : Addr} (hq : H q = none) (l : List Int) : SdIn K { A with aC := q } { s with come := l } (upd (upd H q (.lst (l.map V.int))) A.p (.ins (He.ga K "Stand") A.dx (sdKs.zip (({ A with aC := q } : Adr).vs s)))) := by
  obtain ⟨n1, n2, n3, n4, n5, n6, n7, n8, n9, n10, n11⟩ := h.nx
  have nq : ∀ {a}, a ∈ A.all → a ≠ q := fun m z => h.live m (z ▸ hq)
  have np := nq (a := A.p) (by simp [Adr.all])
  have nS := nq (a := A.aS) (by simp [Adr.all])
  have nH := nq (a := A.aH) (by simp [Adr.all])
  have nT := nq (a := A.aT) (by simp [Adr.all])
  have nm : ∀ m ∈ A.ms, m ≠ q := fun m hm => nq (by simp [Adr.all, hm])
  refine ⟨?_, upd_same, by rw [upd_ne n1.symm, upd_ne nS]; exact h.sp, by rw [upd_ne n2.symm, upd_ne nH]; exact h.hl, by rw [upd_ne n3.symm, upd_ne nT]; exact h.st, by rw [upd_ne np.symm, upd_same], h.ml, fun i m l' e1 e2 => ?_⟩
  · have n := h.nd
    simp only [Adr.all, List.nodup_cons, List.mem_cons, not_or] at n ⊢
    obtain ⟨⟨a1, a2, a3, a4, a5⟩, ⟨b1, b2, b3, b4⟩, ⟨c1, c2, c3⟩, ⟨d1, d2⟩, e1, e2⟩ := n
    exact ⟨⟨a1, a2, a3, np, a5⟩, ⟨b1, b2, nS, b4⟩, ⟨c1, nH, c3⟩, ⟨nT, d2⟩, fun z => nm q z rfl, e2⟩
  · have hm := List.mem_of_getElem? e1
    rw [upd_ne (n11 m hm).1, upd_ne (nm m hm)]
    exact h.mks i m l' e1 e2
end
/-! ### statements that write -/
section
variable {M : Mode K} {G : List (Option Dt)} {A : Adr} {R : Rl} {T : List Tb} {s : Sd} {i j : Nat} {te to ti : TE} {H0 H : Hp} {L : List (Dt × V)} {σ : L2.St} {D : Ends}
/-- one owned object is written anew -/
theorem Sg.sd {s' : Sd} {a : Addr} {o : HO} (h : Sg (M.own (sdO K A R T s)) H0 L G σ H) (ha : a ∈ A.all) (hc : SdIn K A s H → SdIn K A s' (upd H a o)) : Sg (M.own (sdO K A R T s')) H0 L G σ (upd H a o) := by
  obtain ⟨c1, c2, c3⟩ := HasO.at HasO.own h.ok
  have kp : Keep (fun b => M.B b ∨ b ∈ A.all) H (upd H a o) := fun b u nb e => by
    rw [upd_ne fun (z : b = a) => nb (.inr (by rw [z]; exact ha))]
    exact e
  exact h.mut (O' := sdO K A R T s') (fun b u nb e => by rw [upd_ne fun z => nb (by rw [z]; exact ha)]; exact e) (fun b z => .inl z) ⟨hc c1, c2.keep kp, c3.keep kp⟩
theorem idxN {n d : Nat} (h : d < n) : ixN n (d : Int) = some d := by
  unfold ixN
  rw [if_pos (by omega), if_pos (by omega), Int.toNat_natCast]
theorem idx_last {n : Nat} (h : 0 < n) : ixN n (-1) = some (n - 1) := by
  unfold ixN
  rw [if_neg (by omega), if_pos (by omega)]
  exact congrArg some (by omega)
/-- o[z] = te, o an owned list -/
theorem s_set {a : Addr} {ns : List Int} {z e : Int} {d : Nat} {s' : Sd} (ha : a ∈ A.all) (hl : ∀ H, SdIn K A s H → H a = some (.lst (ns.map V.int))) (hd : ixN ns.length z = some d) (hc : ∀ H, SdIn K A s H → SdIn K A s' (upd H a (.lst ((ns.set d e).map V.int))))
    (xv : Xd (M.own (sdO K A R T s)) G te (.int e)) (xo : Xd (M.own (sdO K A R T s)) G to (.raw a)) (xi : Xd (M.own (sdO K A R T s)) G ti (.int z)) (h : Sg (M.own (sdO K A R T s)) H0 L G σ H)
    (k : ∀ H', Sg (M.own (sdO K A R T s')) H0 L G σ H' → D.nx σ H') : tAsg te (gSub to ti rSetL) D σ H := by
  refine xv σ H _ h.ok h.env fun v dv H1 r1 ev hv => ?_
  have h1 := h.go r1
  refine xo σ H1 _ h1.ok h1.env fun vo do' H2 r2 eo hvo => ?_
  have h2 := h1.go r2
  refine xi σ H2 _ h2.ok h2.env fun vi di H3 r3 ei hvi => ?_
  have h3 := h2.go r3
  rw [ev] at hv
  rw [eo] at hvo
  rw [ei] at hvi
  have key := hl H3 (HasO.at HasO.own h3.ok).1
  refine ⟨a, _, z, d, hvo, hvi, key, by rw [List.length_map]; exact hd, ?_⟩
  rw [show v = V.int e from hv, ← List.map_set]
  exact k _ (h3.sd ha (hc H3))
theorem s_setSpot {e : Int} {d : Nat} (hd : d < s.spots.length) (xv : Xd (M.own (sdO K A R T s)) G te (.int e)) (xo : Xd (M.own (sdO K A R T s)) G to (.raw A.aS)) (xi : Xd (M.own (sdO K A R T s)) G ti (.int (d : Int))) (h : Sg (M.own (sdO K A R T s)) H0 L G σ H)
    (k : ∀ H', Sg (M.own (sdO K A R T { s with spots := s.spots.set d e })) H0 L G σ H' → D.nx σ H') : tAsg te (gSub to ti rSetL) D σ H :=
  s_set (by simp [Adr.all]) (fun H q => q.sp) (idxN hd) (fun H q => q.setSpots _) xv xo xi h k
theorem s_setStamp {e z : Int} {d : Nat} (hd : ixN s.stamps.length z = some d) (xv : Xd (M.own (sdO K A R T s)) G te (.int e)) (xo : Xd (M.own (sdO K A R T s)) G to (.raw A.aT)) (xi : Xd (M.own (sdO K A R T s)) G ti (.int z)) (h : Sg (M.own (sdO K A R T s)) H0 L G σ H)
    (k : ∀ H', Sg (M.own (sdO K A R T { s with stamps := s.stamps.set d e })) H0 L G σ H' → D.nx σ H') : tAsg te (gSub to ti rSetL) D σ H :=
  s_set (by simp [Adr.all]) (fun H q => q.st) hd (fun H q => q.setStamps _) xv xo xi h k
theorem s_setMark {e : Int} {n d : Nat} {m : Addr} {l : List Int} (em : A.ms[n]? = some m) (el : s.held[n]? = some l) (hd : d < l.length) (xv : Xd (M.own (sdO K A R T s)) G te (.int e)) (xo : Xd (M.own (sdO K A R T s)) G to (.raw m)) (xi : Xd (M.own (sdO K A R T s)) G ti (.int (d : Int))) (h : Sg (M.own (sdO K A R T s)) H0 L G σ H)
    (k : ∀ H', Sg (M.own (sdO K A R T { s with held := s.held.set n (l.set d e) })) H0 L G σ H' → D.nx σ H') : tAsg te (gSub to ti rSetL) D σ H :=
  s_set (by simp [Adr.all, List.mem_of_getElem? em]) (fun H q => q.mks n m l em el) (idxN hd) (fun H q => q.setMark em _) xv xo xi h k
theorem putF_at {f : Str} {v : V} : ∀ {ks : List Str} {vs : List V} {n : Nat}, ks.length = vs.length → ks[n]? = some f → f ∉ ks.take n → putF f v (ks.zip vs) = ks.zip (vs.set n v)
  | [], [], _, _, e, _ => by simp at e
  | [], _ :: _, _, h, _, _ => by simp at h
  | _ :: _, [], _, h, _, _ => by simp at h
  | k :: ks, w :: vs, 0, h, e, _ => by
    have e' : k = f := Option.some.inj e
    subst e'
    show (if k = k then (k, v) :: ks.zip vs else _) = _
    rw [if_pos rfl]
    rfl
  | k :: ks, w :: vs, n + 1, h, e, hn => by
    rw [List.take_succ_cons, List.mem_cons, not_or] at hn
    show (if k = f then (k, v) :: ks.zip vs else (k, w) :: putF f v (ks.zip vs)) = _
    rw [if_neg fun z => hn.1 z.symm, putF_at (n := n) (by simpa using h) (by simpa using e) hn.2]
    rfl
theorem putF_row (A : Adr) (s : Sd) (r : Int) : putF "row" (.int r) (sdKs.zip (A.vs s)) = sdKs.zip (A.vs { s with row := r }) := putF_at (n := 5) rfl (by decide +kernel) (by decide +kernel)
theorem putF_top (A : Adr) (s : Sd) (r : Int) : putF "top" (.int r) (sdKs.zip (A.vs s)) = sdKs.zip (A.vs { s with top := r }) := putF_at (n := 6) rfl (by decide +kernel) (by decide +kernel)
theorem putF_come (A : Adr) (s : Sd) (q : Addr) : putF "come_to" (.ref q) (sdKs.zip (A.vs s)) = sdKs.zip (({ A with aC := q } : Adr).vs s) := putF_at (n := 7) rfl (by decide +kernel) (by decide +kernel)
theorem s_setRow {e : Int} (cl : Cls K (He.ga K "Stand")) (na : NoAttr K (He.ga K "Stand") "row") (hi : G[i]? = some (some (.raw A.p))) (xv : Xd (M.own (sdO K A R T s)) G te (.int e)) (h : Sg (M.own (sdO K A R T s)) H0 L G σ H)
    (k : ∀ H', Sg (M.own (sdO K A R T { s with row := e })) H0 L G σ H' → D.nx σ H') : sFld K (tVar i) te "row" D σ H := by
  refine xv σ H _ h.ok h.env fun v dv H1 r1 ev hv => ?_
  have h1 := h.go r1
  rw [ev] at hv
  rw [show v = V.int e from hv]
  have c := (HasO.at HasO.own h1.ok).1
  refine ⟨_, sd_var hi h1.env, A.p, _, A.dx, _, rfl, c.self, cl, na, show (8 : Nat) < 1000 by decide, ?_⟩
  rw [putF_row]
  exact k _ (h1.sd (by simp [Adr.all]) fun q => q.setSelf e s.top)
theorem s_setTop {e : Int} (cl : Cls K (He.ga K "Stand")) (na : NoAttr K (He.ga K "Stand") "top") (hi : G[i]? = some (some (.raw A.p))) (xv : Xd (M.own (sdO K A R T s)) G te (.int e)) (h : Sg (M.own (sdO K A R T s)) H0 L G σ H)
    (k : ∀ H', Sg (M.own (sdO K A R T { s with top := e })) H0 L G σ H' → D.nx σ H') : sFld K (tVar i) te "top" D σ H := by
  refine xv σ H _ h.ok h.env fun v dv H1 r1 ev hv => ?_
  have h1 := h.go r1
  rw [ev] at hv
  rw [show v = V.int e from hv]
  have c := (HasO.at HasO.own h1.ok).1
  refine ⟨_, sd_var hi h1.env, A.p, _, A.dx, _, rfl, c.self, cl, na, show (8 : Nat) < 1000 by decide, ?_⟩
  rw [putF_top]
  exact k _ (h1.sd (by simp [Adr.all]) fun q => q.setSelf s.row e)
/-- self.come_to = [0] -/
theorem s_newCome (cl : Cls K (He.ga K "Stand")) (na : NoAttr K (He.ga K "Stand") "come_to") (hi : G[i]? = some (some (.raw A.p))) (h : Sg (M.own (sdO K A R T s)) H0 L G σ H)
    (k : ∀ (A' : Adr) H', A'.p = A.p → Sg (M.own (sdO K A' R T { s with come := [0] })) H0 L G σ H' → D.nx σ H') : sFld K (tVar i) (tLst (tCons (tC (.int 0)) tNil)) "come_to" D σ H := by
  refine ⟨by decide, fun q hq => ?_⟩
  obtain ⟨c1, c2, c3⟩ := HasO.at HasO.own h.ok
  have hq' : upd H q (.lst [.int 0]) A.p = H A.p := upd_ne fun z => c1.live (by simp [Adr.all]) (z ▸ hq)
  refine ⟨_, sd_var hi h.env, A.p, _, A.dx, _, rfl, hq'.trans c1.self, cl, na, show (8 : Nat) < 1000 by decide, ?_⟩
  rw [putF_come]
  have f1 : ∀ (b : Addr) (u : HO), ¬ (sdO K A R T s).S b → H b = some u → upd (upd H q (.lst [.int 0])) A.p (.ins (He.ga K "Stand") A.dx (sdKs.zip (({ A with aC := q } : Adr).vs s))) b = some u := fun b u nb e => by
    rw [upd_ne fun (z : b = A.p) => nb (by rw [z]; show A.p ∈ A.all; simp [Adr.all]), upd_ne (ne_of_none e hq)]
    exact e
  have f2 : ∀ b, b ∈ ({ A with aC := q } : Adr).all → b ∈ A.all ∨ H b = none := fun b z' => by
    simp only [Adr.all, List.mem_cons] at z'
    simp only [Adr.all, List.mem_cons]
    rcases z' with e | e | e | e | e | e
    · exact .inl (.inl e)
    · exact .inl (.inr (.inl e))
    · exact .inl (.inr (.inr (.inl e)))
    · exact .inl (.inr (.inr (.inr (.inl e))))
    · exact .inr (e ▸ hq)
    · exact .inl (.inr (.inr (.inr (.inr (.inr e)))))
  have f3 : ∀ (b : Addr) (u : HO), ¬ (M.B b ∨ b ∈ A.all) → H b = some u → ¬ (M.B b ∨ b ∈ ({ A with aC := q } : Adr).all) ∧ upd (upd H q (.lst [.int 0])) A.p (.ins (He.ga K "Stand") A.dx (sdKs.zip (({ A with aC := q } : Adr).vs s))) b = some u := fun b u nb e =>
    ⟨fun z => z.elim (fun w => nb (.inl w)) fun w => (f2 b w).elim (fun w => nb (.inr w)) fun w => (by rw [w] at e; cases e), f1 b u (fun w => nb (.inr w)) e⟩
  exact k { A with aC := q } _ rfl (h.mut (O' := sdO K { A with aC := q } R T { s with come := [0] }) f1 f2 ⟨c1.newCome hq [0], At.map f3 _ _ c2, At.map f3 _ _ c3⟩)
/-- self.come_to.append(te) -/
theorem s_addCome {e : Int} (hz : s.come.length < 100000) (xo : Xd (M.own (sdO K A R T s)) G to (.raw A.aC)) (xv : Xd (M.own (sdO K A R T s)) G te (.int e)) (h : Sg (M.own (sdO K A R T s)) H0 L G σ H)
    (k : ∀ H', Sg (M.own (sdO K A R T { s with come := s.come ++ [e] })) H0 L G σ H' → D.nx σ H') : tDrop (tBM K "list" rAppend to (tCons te tNil)) D σ H := by
  refine xo σ H _ h.ok h.env fun vo do' H1 r1 eo hvo => ?_
  have h1 := h.go r1
  rw [eo] at hvo
  rw [show vo = V.ref A.aC from hvo]
  refine ⟨.inl ⟨rfl, _, SqL.of (HasO.at HasO.own h1.ok).1.cm⟩, xv σ H1 _ h1.ok h1.env fun v dv H2 r2 ev hv => ?_⟩
  have h2 := h1.go r2
  rw [ev] at hv
  refine ⟨A.aC, _, v, rfl, rfl, (HasO.at HasO.own h2.ok).1.cm, by rw [List.length_map]; exact Nat.lt_of_lt_of_le hz (by decide), ?_⟩
  have key := h2.sd (s' := { s with come := s.come ++ [e] }) (a := A.aC) (by simp [Adr.all]) fun q => q.setCome (s.come ++ [e])
  rw [List.map_append] at key
  rw [show v = V.int e from hv]
  exact k _ key
end
/-! ### methods that write -/
/-- pre: the rule, the tables, what stands, the arguments; what stands behind it, the answer -/
def spU (K : PySem.W.Frag) (pre : Rl → List Tb → Sd → List Dt → Sd → Dt → Prop) : Sp := fun vs H Q _ => ∃ (B : Addr → Prop) (A : Adr) (R : Rl) (T : List Tb) (s : Sd) (ds : List Dt) (s' : Sd) (r : Dt) (ws : List V), vs = .ref A.p :: ws ∧ (∀ a, B a → H a ≠ none) ∧ (∀ a ∈ A.all, ¬ B a) ∧
  (sdO K A R T s).C (fun b => B b ∨ b ∈ A.all) H ∧ AtAll K (fun b => B b ∨ b ∈ A.all) H ds ws ∧ pre R T s ds s' r ∧
  ∀ v A' H', A'.p = A.p → (∀ a ∈ A'.all, a ∈ A.all ∨ H a = none) → (∀ a o, a ∉ A.all → H a = some o → H' a = some o) → (sdO K A' R T s').C (fun b => B b ∨ b ∈ A'.all) H' → At K (fun b => B b ∨ b ∈ A'.all) H' r v → Q v H'
section
variable {M : Mode K} {G : List (Option Dt)} {A : Adr} {R : Rl} {T : List Tb} {s : Sd} {i j : Nat} {H0 H : Hp} {L : List (Dt × V)} {σ : L2.St} {D : Ends}
theorem upd_call {pre : Rl → List Tb → Sd → List Dt → Sd → Dt → Prop} {ta : TA} {m : Str} {ds : List Dt} {s' : Sd} {r : Dt} {Q : VK} (hi : G[i]? = some (some (.raw A.p))) (hm : m ∉ sdKs) (h : Sg (M.own (sdO K A R T s)) H0 L G σ H) (ha : Xa (M.own (sdO K A R T s)) G ta (· = ds)) (hp : pre R T s ds s' r)
    (k : ∀ (A' : Adr) v H', A'.p = A.p → Sg (M.own (sdO K A' R T s')) H0 L G σ H' → At K (M.own (sdO K A' R T s')).B H' r v → Q v H') : tMeth (He.ga K "Stand") m (spU K pre) [] E0 (tVar i) ta σ H Q := by
  refine ⟨_, sd_var hi h.env, A.p, A.dx, _, rfl, (HasO.at HasO.own h.ok).1.self, zip_none hm, ha σ H _ h.ok h.env fun vs ds' H2 r2 ed hs => ?_⟩
  rw [ed] at hs
  have h2 := h.go r2
  refine ⟨M.B, A, R, T, s, ds, s', r, vs ++ [], rfl, fun a b => M.trkX h2.ok.1 b, h2.ok.2.1, HasO.at HasO.own h2.ok, by rw [List.append_nil]; exact hs, hp, fun v A' H' ep f1 f2 hc hv => ?_⟩
  exact k A' v H' ep (h2.mut (O' := sdO K A' R T s') f2 f1 hc) hv
/-- x = self.m(..) -/
theorem s_updA {pre : Rl → List Tb → Sd → List Dt → Sd → Dt → Prop} {ta : TA} {m : Str} {ds : List Dt} {s' : Sd} {r : Dt} (hi : G[i]? = some (some (.raw A.p))) (hm : m ∉ sdKs) (h : Sg (M.own (sdO K A R T s)) H0 L G σ H) (ha : Xa (M.own (sdO K A R T s)) G ta (· = ds)) (hp : pre R T s ds s' r)
    (k : ∀ (A' : Adr) σ' H', A'.p = A.p → Sg (M.own (sdO K A' R T s')) H0 L (G.set j (some r)) σ' H' → D.nx σ' H') : tAsg (tMeth (He.ga K "Stand") m (spU K pre) [] E0 (tVar i) ta) (gName j) D σ H :=
  upd_call hi hm h ha hp fun A' v H' ep hs hv => k A' _ H' ep (hs.set hv)
/-- self.m(..) -/
theorem s_updD {pre : Rl → List Tb → Sd → List Dt → Sd → Dt → Prop} {ta : TA} {m : Str} {ds : List Dt} {s' : Sd} {r : Dt} (hi : G[i]? = some (some (.raw A.p))) (hm : m ∉ sdKs) (h : Sg (M.own (sdO K A R T s)) H0 L G σ H) (ha : Xa (M.own (sdO K A R T s)) G ta (· = ds)) (hp : pre R T s ds s' r)
    (k : ∀ (A' : Adr) H', A'.p = A.p → Sg (M.own (sdO K A' R T s')) H0 L G σ H' → D.nx σ H') : tDrop (tMeth (He.ga K "Stand") m (spU K pre) [] E0 (tVar i) ta) D σ H :=
  upd_call hi hm h ha hp fun A' v H' ep hs _ => k A' H' ep hs
end
section
variable {P : Program} {w : World} {mg : Str → Option Value} {base : Heap}
variable {x qual : Str} {params : Arguments} {body : List Stmt} {scope : Scope} {f : Addr} {fd : FuncData} {N ps : List Str} {k : Nat}
theorem upd_ok {pre : Rl → List Tb → Sd → List Dt → Sd → Dt → Prop} (F : FunD K x qual params body scope [] [] f fd) (S : FnScope N ps scope) (hl : ∀ R T s ds s' r, pre R T s ds s' r → ds.length + 1 = ps.length)
    (hb : ∀ (cdv : Value) (Ar : Around) (outer : List PySem.Env) (sh : Shared) (H0 H : Hp) (σ : L2.St) (Q : VK) (E : XK) (B : Addr → Prop) (A : Adr) (R : Rl) (T : List Tb) (s : Sd) (ds : List Dt) (s' : Sd) (r : Dt), Room k (Ar.deeper (envOfC qual scope sh.heap.objs.size f cdv)) → pre R T s ds s' r →
      Sg ((pureM K B).own (sdO K A R T s)) H0 [] ((Dt.raw A.p :: ds).map some ++ List.replicate (N.length - (ds.length + 1)) none) σ H →
      (∀ (A' : Adr) v H', A'.p = A.p → ((pureM K B).own (sdO K A' R T s')).ok H' → ((pureM K B).own (sdO K A' R T s')).F H0 H' → At K ((pureM K B).own (sdO K A' R T s')).B H' r v → Q v H') →
      ∃ t, PSs (cxOf CX0 P w K mg base N qual scope f cdv Ar outer sh H E).nox body t ∧ t { nx := fun _ H' => Q .non H', rt := Q } σ H) : FnOk P w K mg base CX0 (k + 1) f fd ps (spU K pre) := by
  classical
  refine F.ok S (fun vs H Q E h => ?_) (fun cdv Ar outer sh H vs Q E hr h => ?_)
  · obtain ⟨B, A, R, T, s, ds, s', r, ws, e, _, _, _, h3, h4, _⟩ := h
    rw [e, List.length_cons, h3.length, hl _ _ _ _ _ _ h4]
  · obtain ⟨B, A, R, T, s, ds, s', r, ws, e, h0, h1, h2, h3, h4, h5⟩ := h
    subst e
    have hv : AtAll K (fun b => B b ∨ b ∈ A.all) H (Dt.raw A.p :: ds) (.ref A.p :: ws) := ⟨_, _, rfl, rfl, h3⟩
    have sg : Sg ((pureM K B).own (sdO K A R T s)) (fun a => if a ∈ A.all then none else H a) [] ((Dt.raw A.p :: ds).map some ++ List.replicate (N.length - (ds.length + 1)) none) (start N (.ref A.p :: ws)) H := by
      refine ⟨⟨h0, h1, (sdO K A R T s).less h2 fun a z => z.elim id fun z => z.elim⟩, ⟨fun a o z => ?_, fun a z => if_pos z⟩, (fun g z => by cases z), ?_⟩
      · have z' : (if a ∈ A.all then none else H a) = some o := z
        by_cases ea : a ∈ A.all
        · rw [if_pos ea] at z'
          cases z'
        · rw [if_neg ea] at z'
          exact z'
      · show Env K (fun b => B b ∨ b ∈ A.all) H _ ((V.ref A.p :: ws).map some ++ List.replicate (N.length - (V.ref A.p :: ws).length) none)
        rw [hv.length]
        exact Env.start _ hv
    obtain ⟨t, q1, q2⟩ := hb cdv Ar outer sh _ H (start N (.ref A.p :: ws)) Q E B A R T s ds s' r hr h4 sg fun A' v H' ep ok fr hd => h5 v A' H' ep (fun a ha => by
      have z : (if a ∈ A.all then none else H a) = none := fr.2 a ha
      by_cases ea : a ∈ A.all
      · exact .inl ea
      · rw [if_neg ea] at z
        exact .inr z) (fun a o na e => fr.1 a o ((if_neg na).trans e)) (HasO.at HasO.own ok) hd
    exact ⟨t, q1.nox, q2⟩
end
end
end Lf

/-! statement forms for lists that are built, for branches that come together -/
namespace Lf
open PySem PySem.Spec PyProof.Rows L2
section
variable {K : PySem.W.Frag} {M : Mode K} {G : List (Option Dt)} {H0 H : Hp} {L : List (Dt × V)} {σ : L2.St} {n b c : L2.St → Hp → Prop} {r : VK} {te : TE} {t : TT} {ta : TA} {u v w : TS} {i j : Nat} {d e : Dt}
/-- a branch, then what both come to -/
theorem q_join {f : Bool} (M' : Mode K) (G' : List (Option Dt)) (h : Sg M H0 L G σ H) (x : Xb M G t f) (k : ∀ σ2 H2, Sg M' H0 L G' σ2 H2 → v ⟨n, r, b, c⟩ σ2 H2)
    (h1 : (∀ σ2 H2, Sg M' H0 L G' σ2 H2 → v ⟨n, r, b, c⟩ σ2 H2) → f = true → ∀ H', Sg M H0 L G σ H' → u ⟨v ⟨n, r, b, c⟩, r, b, c⟩ σ H') (h2 : f = false → ∀ H', Sg M H0 L G σ H' → Sg M' H0 L G' σ H') : tSeq (tIfS t u tNext) v ⟨n, r, b, c⟩ σ H :=
  qd_when h x (h1 k) fun e H' h => k σ H' (h2 e H' h)
/-- .. and when both branches say something -/
theorem q_join2 {f : Bool} (M' : Mode K) (G' : List (Option Dt)) (h : Sg M H0 L G σ H) (x : Xb M G t f) (k : ∀ σ2 H2, Sg M' H0 L G' σ2 H2 → v ⟨n, r, b, c⟩ σ2 H2)
    (h1 : (∀ σ2 H2, Sg M' H0 L G' σ2 H2 → v ⟨n, r, b, c⟩ σ2 H2) → f = true → ∀ H', Sg M H0 L G σ H' → u ⟨v ⟨n, r, b, c⟩, r, b, c⟩ σ H') (h2 : (∀ σ2 H2, Sg M' H0 L G' σ2 H2 → v ⟨n, r, b, c⟩ σ2 H2) → f = false → ∀ H', Sg M H0 L G σ H' → w ⟨v ⟨n, r, b, c⟩, r, b, c⟩ σ H') : tSeq (tIfS t u w) v ⟨n, r, b, c⟩ σ H :=
  qd_if h x (h1 k) (h2 k)
/-- x, y = [], e -/
theorem q_par0 {P : Dt → Prop} (h : Sg M H0 L G σ H) (x : ∀ p, Xe (M.bld p []) G te P) (k : ∀ p d σ' H', P d → Sg (M.bld p []) H0 L ((G.set i (some (.raw p))).set j (some d)) σ' H' → u ⟨n, r, b, c⟩ σ' H') : tSeq (tPar i j (tCons (tLst tNil) (tCons te tNil))) u ⟨n, r, b, c⟩ σ H :=
  ⟨Nat.zero_le _, fun p hp => x p σ _ _ (h.bld (xs := []) (ds := []) hp rfl).ok (h.bld (xs := []) (ds := []) hp rfl).env fun v d H1 r1 pd' hv => ⟨.ref p, v, rfl, k p d _ _ pd' ((((h.bld (xs := []) (ds := []) hp rfl).go r1).set (d := .raw p) (v := .ref p) rfl).set hv)⟩⟩
/-- x, y = e, [] -/
theorem q_par1 {P : Dt → Prop} (h : Sg M H0 L G σ H) (x : Xe M G te P) (k : ∀ p d σ' H', P d → Sg (M.bld p []) H0 L ((G.set i (some d)).set j (some (.raw p))) σ' H' → u ⟨n, r, b, c⟩ σ' H') : tSeq (tPar i j (tCons te (tCons (tLst tNil) tNil))) u ⟨n, r, b, c⟩ σ H :=
  x σ H _ h.ok h.env fun v d H1 r1 pd' hv => ⟨Nat.zero_le _, fun p hp => ⟨v, .ref p, rfl, k p d _ _ pd' ((((h.go r1).bld (xs := []) (ds := []) hp rfl).set (d := d) (v := v) ((hv.more hp).keep (Same.keep (Same.new hp)))).set (d := .raw p) (v := .ref p) rfl)⟩⟩
theorem q_newN {P : List Dt → Prop} (h : Sg M H0 L G σ H) (x : Xn M G te P) (k : ∀ p ds σ' H', P ds → Sg (M.bld p ds) H0 L (G.set i (some (.raw p))) σ' H' → u ⟨n, r, b, c⟩ σ' H') : tSeq (tAsg te (gName i)) u ⟨n, r, b, c⟩ σ H :=
  s_newN (D := ⟨u ⟨n, r, b, c⟩, r, b, c⟩) x h k
theorem q_parN {P : List Dt → Prop} (h : Sg M H0 L G σ H) (x : Xn M G te P) (k : ∀ p q ds σ' H', P ds → Sg ((M.bld p ds).bld q []) H0 L ((G.set i (some (.raw p))).set j (some (.raw q))) σ' H' → u ⟨n, r, b, c⟩ σ' H') : tSeq (tPar i j (tCons te (tCons (tLst tNil) tNil))) u ⟨n, r, b, c⟩ σ H :=
  s_parN (D := ⟨u ⟨n, r, b, c⟩, r, b, c⟩) x h k
theorem ed_ext {p : Addr} {ds es : List Dt} (h : Sg (M.bld p ds) H0 L G σ H) (hi : G[i]? = some (some (.raw p))) (hz : ds.length + es.length ≤ 100000) (x : Xd (M.bld p ds) G te (.lst es))
    (k : ∀ H', Sg (M.bld p (ds ++ es)) H0 L G σ H' → n σ H') : tDrop (tBM K "list" rExtend (tVar i) (tCons te tNil)) ⟨n, r, b, c⟩ σ H :=
  s_ext (P := (· = es)) (D := ⟨n, r, b, c⟩) hi (x.mono fun d e => ⟨es, e, rfl⟩) (fun es' e => by rw [e]; exact hz) h fun es' H' e s => k H' (by rw [e] at s; exact s)
theorem e_popApp {p q : Addr} {ds es : List Dt} (h : Sg ((M.bld p ds).bld q es) H0 L G σ H) (hi : G[i]? = some (some (.raw q))) (hj : G[j]? = some (some (.raw p)))
    (x : Xe ((M.bld p ds).bld q es) G te fun d => ∃ n : Nat, d = .int (n : Int) ∧ n < ds.length) (hz : ds.length + es.length ≤ 100000)
    (k : ∀ (m : Nat) d H', ds[m]? = some d → Sg ((M.bld p (ds.eraseIdx m)).bld q (es ++ [d])) H0 L G σ H' → n σ H') : tDrop (tBM K "list" rAppend (tVar i) (tCons (tBM K "list" rPopAt (tVar j) (tCons te tNil)) tNil)) ⟨n, r, b, c⟩ σ H :=
  s_popApp (D := ⟨n, r, b, c⟩) hi hj x hz h k
end
/-! ### the stand's statements in a row, or last -/
section
variable {K : PySem.W.Frag} {M : Mode K} {G : List (Option Dt)} {A : Adr} {R : Rl} {T : List Tb} {s : Sd} {i j : Nat} {te to ti : TE} {H0 H : Hp} {L : List (Dt × V)} {σ : L2.St} {n n1 b c : L2.St → Hp → Prop} {r : VK} {u : TS}
theorem q_setSpot {e : Int} {d : Nat} (hd : d < s.spots.length) (xv : Xd (M.own (sdO K A R T s)) G te (.int e)) (xo : Xd (M.own (sdO K A R T s)) G to (.raw A.aS)) (xi : Xd (M.own (sdO K A R T s)) G ti (.int (d : Int))) (h : Sg (M.own (sdO K A R T s)) H0 L G σ H) (k : ∀ H', Sg (M.own (sdO K A R T { s with spots := s.spots.set d e })) H0 L G σ H' → u ⟨n, r, b, c⟩ σ H') : tSeq (tAsg te (gSub to ti rSetL)) u ⟨n, r, b, c⟩ σ H := s_setSpot (D := ⟨u ⟨n, r, b, c⟩, r, b, c⟩) hd xv xo xi h k
theorem e_setSpot {e : Int} {d : Nat} (hd : d < s.spots.length) (xv : Xd (M.own (sdO K A R T s)) G te (.int e)) (xo : Xd (M.own (sdO K A R T s)) G to (.raw A.aS)) (xi : Xd (M.own (sdO K A R T s)) G ti (.int (d : Int))) (h : Sg (M.own (sdO K A R T s)) H0 L G σ H) (k : ∀ H', Sg (M.own (sdO K A R T { s with spots := s.spots.set d e })) H0 L G σ H' → n σ H') : tAsg te (gSub to ti rSetL) ⟨n, r, b, c⟩ σ H := s_setSpot (D := ⟨n, r, b, c⟩) hd xv xo xi h k
theorem q_setStamp {e z : Int} {d : Nat} (hd : ixN s.stamps.length z = some d) (xv : Xd (M.own (sdO K A R T s)) G te (.int e)) (xo : Xd (M.own (sdO K A R T s)) G to (.raw A.aT)) (xi : Xd (M.own (sdO K A R T s)) G ti (.int z)) (h : Sg (M.own (sdO K A R T s)) H0 L G σ H) (k : ∀ H', Sg (M.own (sdO K A R T { s with stamps := s.stamps.set d e })) H0 L G σ H' → u ⟨n, r, b, c⟩ σ H') : tSeq (tAsg te (gSub to ti rSetL)) u ⟨n, r, b, c⟩ σ H := s_setStamp (D := ⟨u ⟨n, r, b, c⟩, r, b, c⟩) hd xv xo xi h k
theorem e_setStamp {e z : Int} {d : Nat} (hd : ixN s.stamps.length z = some d) (xv : Xd (M.own (sdO K A R T s)) G te (.int e)) (xo : Xd (M.own (sdO K A R T s)) G to (.raw A.aT)) (xi : Xd (M.own (sdO K A R T s)) G ti (.int z)) (h : Sg (M.own (sdO K A R T s)) H0 L G σ H) (k : ∀ H', Sg (M.own (sdO K A R T { s with stamps := s.stamps.set d e })) H0 L G σ H' → n σ H') : tAsg te (gSub to ti rSetL) ⟨n, r, b, c⟩ σ H := s_setStamp (D := ⟨n, r, b, c⟩) hd xv xo xi h k
theorem q_setMark {e : Int} {n d : Nat} {m : Addr} {l : List Int} (em : A.ms[n]? = some m) (el : s.held[n]? = some l) (hd : d < l.length) (xv : Xd (M.own (sdO K A R T s)) G te (.int e)) (xo : Xd (M.own (sdO K A R T s)) G to (.raw m)) (xi : Xd (M.own (sdO K A R T s)) G ti (.int (d : Int))) (h : Sg (M.own (sdO K A R T s)) H0 L G σ H) (k : ∀ H', Sg (M.own (sdO K A R T { s with held := s.held.set n (l.set d e) })) H0 L G σ H' → u ⟨n1, r, b, c⟩ σ H') : tSeq (tAsg te (gSub to ti rSetL)) u ⟨n1, r, b, c⟩ σ H := s_setMark (D := ⟨u ⟨n1, r, b, c⟩, r, b, c⟩) em el hd xv xo xi h k
theorem e_setMark {e : Int} {n d : Nat} {m : Addr} {l : List Int} (em : A.ms[n]? = some m) (el : s.held[n]? = some l) (hd : d < l.length) (xv : Xd (M.own (sdO K A R T s)) G te (.int e)) (xo : Xd (M.own (sdO K A R T s)) G to (.raw m)) (xi : Xd (M.own (sdO K A R T s)) G ti (.int (d : Int))) (h : Sg (M.own (sdO K A R T s)) H0 L G σ H) (k : ∀ H', Sg (M.own (sdO K A R T { s with held := s.held.set n (l.set d e) })) H0 L G σ H' → n1 σ H') : tAsg te (gSub to ti rSetL) ⟨n1, r, b, c⟩ σ H := s_setMark (D := ⟨n1, r, b, c⟩) em el hd xv xo xi h k
theorem q_setRow {e : Int} (cl : Cls K (He.ga K "Stand")) (na : NoAttr K (He.ga K "Stand") "row") (hi : G[i]? = some (some (.raw A.p))) (xv : Xd (M.own (sdO K A R T s)) G te (.int e)) (h : Sg (M.own (sdO K A R T s)) H0 L G σ H) (k : ∀ H', Sg (M.own (sdO K A R T { s with row := e })) H0 L G σ H' → u ⟨n, r, b, c⟩ σ H') : tSeq (sFld K (tVar i) te "row") u ⟨n, r, b, c⟩ σ H := s_setRow (D := ⟨u ⟨n, r, b, c⟩, r, b, c⟩) cl na hi xv h k
theorem e_setRow {e : Int} (cl : Cls K (He.ga K "Stand")) (na : NoAttr K (He.ga K "Stand") "row") (hi : G[i]? = some (some (.raw A.p))) (xv : Xd (M.own (sdO K A R T s)) G te (.int e)) (h : Sg (M.own (sdO K A R T s)) H0 L G σ H) (k : ∀ H', Sg (M.own (sdO K A R T { s with row := e })) H0 L G σ H' → n σ H') : sFld K (tVar i) te "row" ⟨n, r, b, c⟩ σ H := s_setRow (D := ⟨n, r, b, c⟩) cl na hi xv h k
theorem q_setTop {e : Int} (cl : Cls K (He.ga K "Stand")) (na : NoAttr K (He.ga K "Stand") "top") (hi : G[i]? = some (some (.raw A.p))) (xv : Xd (M.own (sdO K A R T s)) G te (.int e)) (h : Sg (M.own (sdO K A R T s)) H0 L G σ H) (k : ∀ H', Sg (M.own (sdO K A R T { s with top := e })) H0 L G σ H' → u ⟨n, r, b, c⟩ σ H') : tSeq (sFld K (tVar i) te "top") u ⟨n, r, b, c⟩ σ H := s_setTop (D := ⟨u ⟨n, r, b, c⟩, r, b, c⟩) cl na hi xv h k
theorem e_setTop {e : Int} (cl : Cls K (He.ga K "Stand")) (na : NoAttr K (He.ga K "Stand") "top") (hi : G[i]? = some (some (.raw A.p))) (xv : Xd (M.own (sdO K A R T s)) G te (.int e)) (h : Sg (M.own (sdO K A R T s)) H0 L G σ H) (k : ∀ H', Sg (M.own (sdO K A R T { s with top := e })) H0 L G σ H' → n σ H') : sFld K (tVar i) te "top" ⟨n, r, b, c⟩ σ H := s_setTop (D := ⟨n, r, b, c⟩) cl na hi xv h k
theorem q_newCome (cl : Cls K (He.ga K "Stand")) (na : NoAttr K (He.ga K "Stand") "come_to") (hi : G[i]? = some (some (.raw A.p))) (h : Sg (M.own (sdO K A R T s)) H0 L G σ H) (k : ∀ (A' : Adr) H', A'.p = A.p → Sg (M.own (sdO K A' R T { s with come := [0] })) H0 L G σ H' → u ⟨n, r, b, c⟩ σ H') : tSeq (sFld K (tVar i) (tLst (tCons (tC (.int 0)) tNil)) "come_to") u ⟨n, r, b, c⟩ σ H := s_newCome (D := ⟨u ⟨n, r, b, c⟩, r, b, c⟩) cl na hi h k
theorem e_newCome (cl : Cls K (He.ga K "Stand")) (na : NoAttr K (He.ga K "Stand") "come_to") (hi : G[i]? = some (some (.raw A.p))) (h : Sg (M.own (sdO K A R T s)) H0 L G σ H) (k : ∀ (A' : Adr) H', A'.p = A.p → Sg (M.own (sdO K A' R T { s with come := [0] })) H0 L G σ H' → n σ H') : sFld K (tVar i) (tLst (tCons (tC (.int 0)) tNil)) "come_to" ⟨n, r, b, c⟩ σ H := s_newCome (D := ⟨n, r, b, c⟩) cl na hi h k
theorem q_addCome {e : Int} (hz : s.come.length < 100000) (xo : Xd (M.own (sdO K A R T s)) G to (.raw A.aC)) (xv : Xd (M.own (sdO K A R T s)) G te (.int e)) (h : Sg (M.own (sdO K A R T s)) H0 L G σ H) (k : ∀ H', Sg (M.own (sdO K A R T { s with come := s.come ++ [e] })) H0 L G σ H' → u ⟨n, r, b, c⟩ σ H') : tSeq (tDrop (tBM K "list" rAppend to (tCons te tNil))) u ⟨n, r, b, c⟩ σ H := s_addCome (D := ⟨u ⟨n, r, b, c⟩, r, b, c⟩) hz xo xv h k
theorem e_addCome {e : Int} (hz : s.come.length < 100000) (xo : Xd (M.own (sdO K A R T s)) G to (.raw A.aC)) (xv : Xd (M.own (sdO K A R T s)) G te (.int e)) (h : Sg (M.own (sdO K A R T s)) H0 L G σ H) (k : ∀ H', Sg (M.own (sdO K A R T { s with come := s.come ++ [e] })) H0 L G σ H' → n σ H') : tDrop (tBM K "list" rAppend to (tCons te tNil)) ⟨n, r, b, c⟩ σ H := s_addCome (D := ⟨n, r, b, c⟩) hz xo xv h k
theorem q_updA {pre : Rl → List Tb → Sd → List Dt → Sd → Dt → Prop} {ta : TA} {m : Str} {ds : List Dt} {s' : Sd} {rr : Dt} (hi : G[i]? = some (some (.raw A.p))) (hm : m ∉ sdKs) (h : Sg (M.own (sdO K A R T s)) H0 L G σ H) (ha : Xa (M.own (sdO K A R T s)) G ta (· = ds)) (hp : pre R T s ds s' rr) (k : ∀ (A' : Adr) σ' H', A'.p = A.p → Sg (M.own (sdO K A' R T s')) H0 L (G.set j (some rr)) σ' H' → u ⟨n, r, b, c⟩ σ' H') : tSeq (tAsg (tMeth (He.ga K "Stand") m (spU K pre) [] E0 (tVar i) ta) (gName j)) u ⟨n, r, b, c⟩ σ H := s_updA (D := ⟨u ⟨n, r, b, c⟩, r, b, c⟩) hi hm h ha hp k
theorem e_updA {pre : Rl → List Tb → Sd → List Dt → Sd → Dt → Prop} {ta : TA} {m : Str} {ds : List Dt} {s' : Sd} {rr : Dt} (hi : G[i]? = some (some (.raw A.p))) (hm : m ∉ sdKs) (h : Sg (M.own (sdO K A R T s)) H0 L G σ H) (ha : Xa (M.own (sdO K A R T s)) G ta (· = ds)) (hp : pre R T s ds s' rr) (k : ∀ (A' : Adr) σ' H', A'.p = A.p → Sg (M.own (sdO K A' R T s')) H0 L (G.set j (some rr)) σ' H' → n σ' H') : tAsg (tMeth (He.ga K "Stand") m (spU K pre) [] E0 (tVar i) ta) (gName j) ⟨n, r, b, c⟩ σ H := s_updA (D := ⟨n, r, b, c⟩) hi hm h ha hp k
theorem q_updD {pre : Rl → List Tb → Sd → List Dt → Sd → Dt → Prop} {ta : TA} {m : Str} {ds : List Dt} {s' : Sd} {rr : Dt} (hi : G[i]? = some (some (.raw A.p))) (hm : m ∉ sdKs) (h : Sg (M.own (sdO K A R T s)) H0 L G σ H) (ha : Xa (M.own (sdO K A R T s)) G ta (· = ds)) (hp : pre R T s ds s' rr) (k : ∀ (A' : Adr) H', A'.p = A.p → Sg (M.own (sdO K A' R T s')) H0 L G σ H' → u ⟨n, r, b, c⟩ σ H') : tSeq (tDrop (tMeth (He.ga K "Stand") m (spU K pre) [] E0 (tVar i) ta)) u ⟨n, r, b, c⟩ σ H := s_updD (D := ⟨u ⟨n, r, b, c⟩, r, b, c⟩) hi hm h ha hp k
theorem e_updD {pre : Rl → List Tb → Sd → List Dt → Sd → Dt → Prop} {ta : TA} {m : Str} {ds : List Dt} {s' : Sd} {rr : Dt} (hi : G[i]? = some (some (.raw A.p))) (hm : m ∉ sdKs) (h : Sg (M.own (sdO K A R T s)) H0 L G σ H) (ha : Xa (M.own (sdO K A R T s)) G ta (· = ds)) (hp : pre R T s ds s' rr) (k : ∀ (A' : Adr) H', A'.p = A.p → Sg (M.own (sdO K A' R T s')) H0 L G σ H' → n σ H') : tDrop (tMeth (He.ga K "Stand") m (spU K pre) [] E0 (tVar i) ta) ⟨n, r, b, c⟩ σ H := s_updD (D := ⟨n, r, b, c⟩) hi hm h ha hp k
end
section
variable {K : PySem.W.Frag} {M : Mode K} {G : List (Option Dt)}
/-- a comprehension whose items are known one by one -/
theorem x_lcR {wi : TI} {te : TE} {vs : List Nat} {ds rs : List Dt} {j : Nat} (hl : rs.length = ds.length) (hi : Xj M G wi ds)
    (he : ∀ (i : Nat) (d e : Dt) (p : Addr) (acc : List Dt), ds[i]? = some d → rs[i]? = some e → Xd (M.bld p acc) ((wipeG G vs).set j (some d)) te e) (hj : j ∈ vs := by simp) (hz : ds.length ≤ 40000 := by first | decide | assumption | omega | (simp; omega)) : Xd M G (tLc wi (gName j) tYes te vs) (.lst rs) :=
  x_lc (G' := fun d => (wipeG G vs).set j (some d)) (js := [j]) (P := fun i acc => acc = rs.take i) (Pt := fun _ _ b => b = true) hi rfl (fun i d _ p acc => xg_name) (fun k hk => by rw [List.mem_singleton.mp hk]; exact hj) (fun i d p acc _ _ σ H Q ok e k => k true H ((M.bld p acc).refl H) rfl)
    (fun i d p acc e h _ => by
      have lt : i < rs.length := by rw [hl]; exact (List.getElem?_eq_some_iff.mp e).1
      have er : rs[i]? = some rs[i] := List.getElem?_eq_getElem lt
      refine (he i d _ p acc e er).mono fun d' e' => ?_
      rw [h, e', List.take_add_one, er]
      rfl) (fun i d acc _ _ h => by cases h) (fun acc h => by rw [h, ← hl, List.take_length]) hz
theorem xl_held {A : Adr} {R : Rl} {T : List Tb} {s : Sd} {te : TE} (ho : HasO M (sdO K A R T s)) (h : Xd M G te (.raw A.aH)) : XL M G te (A.ms.map .raw) := fun σ H Q ok e k => h σ H _ ok e fun v d H1 r1 ed hv => by
  rw [ed] at hv
  rw [show v = V.ref A.aH from hv]
  have o1 := M.stab ok r1
  exact k A.aH _ H1 r1 fun H3 r3 => ⟨ho.st r3 (by show A.aH ∈ A.all; simp [Adr.all]) (ho.at o1).1.hl, (AtAll.mapS (f := Dt.raw) (g := V.ref) fun _ _ => Iff.rfl).mpr rfl⟩
end
/-! ### ints in lists -/
theorem sg_some {l : List Int} {d : Nat} (h : d < l.length) : l[d]? = some (sg l d) := by
  unfold sg
  rw [List.getD_eq_getElem?_getD, List.getElem?_eq_getElem h]
  rfl
theorem hg_some {l : List (List Int)} {d : Nat} (h : d < l.length) : l[d]? = some (hg l d) := by
  unfold hg
  rw [List.getD_eq_getElem?_getD, List.getElem?_eq_getElem h]
  rfl
theorem tg_some {T : List Tb} {d : Nat} (h : d < T.length) : T[d]? = some (tg T d) := by
  unfold tg
  rw [List.getD_eq_getElem?_getD, List.getElem?_eq_getElem h]
  rfl
theorem at_sg {l : List Int} {d : Nat} (h : d < l.length) : atI (l.map Dt.int) (d : Int) = some (.int (sg l d)) := atN (by rw [List.getElem?_map, sg_some h]; rfl)
theorem at_tg {T : List Tb} {d : Nat} (h : d < T.length) : atI (T.map tbDt) (d : Int) = some (tbDt (tg T d)) := atN (by rw [List.getElem?_map, tg_some h]; rfl)
theorem at_sgI {l : List Int} {v : Int} (h0 : 0 ≤ v) (h : v < (l.length : Int)) : atI (l.map Dt.int) v = some (.int (sg l v.toNat)) := by
  have e : ((v.toNat : Nat) : Int) = v := Int.toNat_of_nonneg h0
  have z := at_sg (l := l) (d := v.toNat) (by omega)
  rw [e] at z
  exact z
/-- what holds of a stand whenever it is asked -/
structure Fit (n : Nat) (R : Rl) (T : List Tb) (s : Sd) : Prop where
  r : 1 ≤ R.fs.length ∧ R.fs.length ≤ 3
  t : TWf T
  w : Wf R T s
  c : s.come.length ≤ n ∧ n ≤ 1000
theorem Fit.len {n : Nat} {R : Rl} {T : List Tb} {s : Sd} (h : Fit n R T s) : (s.spots ++ s.held.flatten).length ≤ 100 := by
  have key : ∀ l : List (List Int), (∀ m ∈ l, m.length = R.fs.length) → l.flatten.length = l.length * R.fs.length := by
    intro l
    induction l with
    | nil => intro _; simp
    | cons m l ih =>
      intro hm
      rw [List.flatten_cons, List.length_append, ih fun x hx => hm x (List.mem_cons_of_mem _ hx), hm m List.mem_cons_self, List.length_cons, Nat.add_mul]
      omega
  rw [List.length_append, key _ h.w.mw, h.w.sp, h.w.hl]
  have h1 := h.t.hi
  have h2 := h.r.2
  have : (T.length + 1) * R.fs.length ≤ 4 * 3 := Nat.mul_le_mul (by omega) h2
  omega
/-! ### a mark that is written field by field -/
def mixM (a m : List Int) (i : Nat) : List Int := a.take i ++ m.drop i
theorem mix_len {a m : List Int} {i : Nat} (h : a.length = m.length) : (mixM a m i).length = m.length := by
  unfold mixM
  rw [List.length_append, List.length_take, List.length_drop]
  omega
theorem mix_zero (a m : List Int) : mixM a m 0 = m := rfl
theorem mix_all {a m : List Int} (h : a.length = m.length) : mixM a m m.length = a := by
  unfold mixM
  rw [← h, List.take_length, h, List.drop_length, List.append_nil]
theorem sg_eq {l : List Int} {i : Nat} {x : Int} (h : l[i]? = some x) : sg l i = x := by
  unfold sg
  rw [List.getD_eq_getElem?_getD, h]
  rfl
theorem mix_get {a m : List Int} {i : Nat} (h : a.length = m.length) (hi : i < m.length) : sg (mixM a m i) i = sg m i := by
  refine sg_eq ?_
  unfold mixM
  rw [List.getElem?_append_right (by rw [List.length_take]; omega), List.length_take, Nat.min_eq_left (by omega), Nat.sub_self, List.getElem?_drop, Nat.add_zero, sg_some hi]
theorem mix_set {a m : List Int} {i : Nat} (h : a.length = m.length) (hi : i < m.length) : (mixM a m i).set i (sg a i) = mixM a m (i + 1) := by
  unfold mixM
  have ha : a[i]? = some (sg a i) := sg_some (by omega)
  rw [List.set_append_right _ _ (by rw [List.length_take]; omega), List.length_take, Nat.min_eq_left (by omega), Nat.sub_self, List.take_add_one, ha]
  have hm : m.drop i = sg m i :: m.drop (i + 1) := by
    rw [List.drop_eq_getElem_cons hi]
    exact congrArg (· :: _) (sg_eq (List.getElem?_eq_getElem hi)).symm
  rw [hm, List.set_cons_zero, List.append_assoc]
  rfl
theorem mkM_len (fs : List Fd) (F : Fd → Nat → Int) : (mkM fs F).length = fs.length := by
  unfold mkM
  rw [List.length_mapIdx]
theorem mkM_get {fs : List Fd} {F : Fd → Nat → Int} {i : Nat} {f : Fd} (h : fs[i]? = some f) : sg (mkM fs F) i = F f i := by
  refine sg_eq ?_
  unfold mkM
  rw [List.getElem?_mapIdx, h]
  rfl
def sdH (s : Sd) (d : Nat) (l : List Int) : Sd := { s with held := s.held.set d l }
theorem sdH_sdH (s : Sd) (d : Nat) (l l' : List Int) : { sdH s d l with held := (sdH s d l).held.set d l' } = sdH s d l' := by
  unfold sdH
  simp only [List.set_set]
theorem sdH_get {s : Sd} {d : Nat} {l : List Int} (h : d < s.held.length) : (sdH s d l).held[d]? = some l := List.getElem?_set_self h
theorem sdH_ne {s : Sd} {d e : Nat} {l : List Int} (h : d ≠ e) : (sdH s d l).held[e]? = s.held[e]? := List.getElem?_set_ne h
theorem sdH_self {s : Sd} {d : Nat} (h : d < s.held.length) : sdH s d (hg s.held d) = s := by
  unfold sdH
  have e : s.held.set d (hg s.held d) = s.held := by
    apply List.ext_getElem?
    intro j
    by_cases z : d = j
    · subst z
      rw [List.getElem?_set_self h, hg_some h]
    · rw [List.getElem?_set_ne z]
  rw [e]
theorem at_lastA {α : Type} {ds : List α} {d : α} {n : Nat} (hn : ds.length = n + 1) (h : ds[n]? = some d) : atI ds (-1) = some d := by
  unfold atI
  rw [idx_last (by omega), hn]
  exact h
theorem at_sgL {l : List Int} {n : Nat} (h : l.length = n + 1) : atI (l.map Dt.int) (-1) = some (.int (sg l n)) := at_lastA (n := n) (by rw [List.length_map, h]) (by rw [List.getElem?_map, sg_some (by omega)]; rfl)
end Lf

/-! a stand that is being made -/
namespace Lf
open PySem PySem.Spec PyProof.Rows L2
section
variable {K : PySem.W.Frag}
def objO (K : PySem.W.Frag) (x dx : Addr) (R : Rl) (T : List Tb) (vr vt : V) (ks : List Str) (vs : List V) (ls : List (Addr × List V)) : Own where
  S := fun a => a = x ∨ a ∈ ls.map Prod.fst
  C := fun B H => H x = some (.ins (He.ga K "Stand") dx (ks.zip vs)) ∧ (∀ p ∈ ls, H p.1 = some (.lst p.2)) ∧ (x :: ls.map Prod.fst).Nodup ∧ At K B H R.dt vr ∧ At K B H (.lst (T.map tbDt)) vt
  keep := fun h k => ⟨k _ _ (.inl (.inl rfl)) h.1, fun p hp => k _ _ (.inl (.inr (List.mem_map.mpr ⟨p, hp, rfl⟩))) (h.2.1 p hp), h.2.2.1, h.2.2.2.1.keep fun b o nb e => k b o (.inr nb) e, h.2.2.2.2.keep fun b o nb e => k b o (.inr nb) e⟩
  less := fun h k => ⟨h.1, h.2.1, h.2.2.1, h.2.2.2.1.less k, h.2.2.2.2.less k⟩
  moreS := fun h k => ⟨h.1, h.2.1, h.2.2.1, h.2.2.2.1.moreS k, h.2.2.2.2.moreS k⟩
  live := fun {B H a} h m z => by
    rcases m with e | e
    · rw [e, h.1] at z
      cases z
    · obtain ⟨p, hp, q⟩ := List.mem_map.mp e
      rw [← q, h.2.1 p hp] at z
      cases z
section
variable {B0 : Addr → Prop} {G : List (Option Dt)} {x dx : Addr} {R : Rl} {T : List Tb} {vr vt : V} {ks : List Str} {vs : List V} {ls : List (Addr × List V)} {f : Str} {H0 H : Hp} {L : List (Dt × V)} {σ : L2.St} {n b c : L2.St → Hp → Prop} {r : VK} {u : TS} {te : TE}
/-- a field is written; what is new is owned, too -/
theorem Sg.putO {v : V} {new : List (Addr × List V)} {H1 : Hp} (h : Sg ((pureM K B0).own (objO K x dx R T vr vt ks vs ls)) H0 L G σ H) (sm : Same H H1) (hk : ks.length = vs.length) (hf : f ∉ ks)
    (nf : ∀ p ∈ new, H p.1 = none) (nh : ∀ p ∈ new, H1 p.1 = some (.lst p.2)) (nn : (new.map Prod.fst).Nodup) : Sg ((pureM K B0).own (objO K x dx R T vr vt (ks ++ [f]) (vs ++ [v]) (ls ++ new))) H0 L G σ (upd H1 x (.ins (He.ga K "Stand") dx (putF f v (ks.zip vs)))) ∧ H1 x = some (.ins (He.ga K "Stand") dx (ks.zip vs)) := by
  obtain ⟨c1, c2, c3, c4, c5⟩ := HasO.at HasO.own h.ok
  have hx : H1 x = some (.ins (He.ga K "Stand") dx (ks.zip vs)) := sm x _ c1
  refine ⟨?_, hx⟩
  rw [putF_zip hk hf]
  have nx : ∀ p ∈ new, p.1 ≠ x := fun p hp z => by
    have := nf p hp
    rw [z, c1] at this
    cases this
  have nl : ∀ p ∈ ls, p.1 ≠ x := fun p hp z => (List.nodup_cons.mp c3).1 (z ▸ List.mem_map.mpr ⟨p, hp, rfl⟩)
  have f1 : ∀ (a : Addr) (o : HO), ¬ (a = x ∨ a ∈ ls.map Prod.fst) → H a = some o → upd H1 x (.ins (He.ga K "Stand") dx ((ks ++ [f]).zip (vs ++ [v]))) a = some o := fun a o na e => by
    rw [upd_ne fun z => na (.inl z)]
    exact sm a o e
  have f2 : ∀ a, (a = x ∨ a ∈ (ls ++ new).map Prod.fst) → (a = x ∨ a ∈ ls.map Prod.fst) ∨ H a = none := fun a z => by
    rcases z with z | z
    · exact .inl (.inl z)
    · rw [List.map_append] at z
      rcases List.mem_append.mp z with z | z
      · exact .inl (.inr z)
      · obtain ⟨p, hp, q⟩ := List.mem_map.mp z
        exact .inr (q ▸ nf p hp)
  have f3 : ∀ (a : Addr) (o : HO), ¬ (B0 a ∨ (a = x ∨ a ∈ ls.map Prod.fst)) → H a = some o → ¬ (B0 a ∨ (a = x ∨ a ∈ (ls ++ new).map Prod.fst)) ∧ upd H1 x (.ins (He.ga K "Stand") dx ((ks ++ [f]).zip (vs ++ [v]))) a = some o := fun a o na e =>
    ⟨fun z => z.elim (fun w => na (.inl w)) fun w => (f2 a w).elim (fun w => na (.inr w)) fun w => (by rw [w] at e; cases e), f1 a o (fun w => na (.inr w)) e⟩
  refine h.mut (O' := objO K x dx R T vr vt (ks ++ [f]) (vs ++ [v]) (ls ++ new)) f1 f2 ⟨upd_same, fun p hp => ?_, ?_, At.map f3 _ _ c4, At.map f3 _ _ c5⟩
  · rcases List.mem_append.mp hp with z | z
    · rw [upd_ne (nl p z)]
      exact sm _ _ (c2 p z)
    · rw [upd_ne (nx p z)]
      exact nh p z
  · rw [List.map_append, List.nodup_cons]
    obtain ⟨d1, d2⟩ := List.nodup_cons.mp c3
    refine ⟨fun z => ?_, List.nodup_append.mpr ⟨d2, nn, fun a ha q hq e => ?_⟩⟩
    · rcases List.mem_append.mp z with z | z
      · exact d1 z
      · obtain ⟨p, hp, e⟩ := List.mem_map.mp z
        exact nx p hp e
    · obtain ⟨p, hp, e1⟩ := List.mem_map.mp ha
      obtain ⟨p2, hp2, e2⟩ := List.mem_map.mp hq
      have z := nf p2 hp2
      rw [e2, ← e, ← e1, c2 p hp] at z
      cases z
/-- self.f = te, te of no address of its own -/
theorem q_putV {v : V} (cl : Cls K (He.ga K "Stand")) (na : NoAttr K (He.ga K "Stand") f) (hk : ks.length = vs.length) (hf : f ∉ ks) (hl : ks.length < 100) (hi : σ[0]? = some (some (V.ref x))) (hv : ∀ (H : Hp) (Q : VK), Q v H → te σ H Q) (h : Sg ((pureM K B0).own (objO K x dx R T vr vt ks vs ls)) H0 L G σ H)
    (k : ∀ H', Sg ((pureM K B0).own (objO K x dx R T vr vt (ks ++ [f]) (vs ++ [v]) ls)) H0 L G σ H' → u ⟨n, r, b, c⟩ σ H') : tSeq (sFld K (tVar 0) te f) u ⟨n, r, b, c⟩ σ H := by
  obtain ⟨s1, s2⟩ := h.putO (f := f) (v := v) (new := []) (Same.refl H) hk hf (fun p z => by cases z) (fun p z => by cases z) List.nodup_nil
  rw [List.append_nil] at s1
  exact hv _ _ ⟨_, hi, x, _, dx, _, rfl, s2, cl, na, by rw [List.length_zip]; omega, k _ s1⟩
/-- self.f = a new list -/
theorem q_putN {ns : List Int} (cl : Cls K (He.ga K "Stand")) (na : NoAttr K (He.ga K "Stand") f) (hk : ks.length = vs.length) (hf : f ∉ ks) (hl : ks.length < 100) (hi : σ[0]? = some (some (V.ref x))) (hx : Xn ((pureM K B0).own (objO K x dx R T vr vt ks vs ls)) G te (· = ns.map .int)) (h : Sg ((pureM K B0).own (objO K x dx R T vr vt ks vs ls)) H0 L G σ H)
    (k : ∀ (p : Addr) H', Sg ((pureM K B0).own (objO K x dx R T vr vt (ks ++ [f]) (vs ++ [.ref p]) (ls ++ [(p, ns.map .int)]))) H0 L G σ H' → u ⟨n, r, b, c⟩ σ H') : tSeq (sFld K (tVar 0) te f) u ⟨n, r, b, c⟩ σ H :=
  hx σ H _ h.ok h.env fun p xs ds H1 r1 e hp h1 ha => by
    subst e
    rw [AtAll.ints.mp ha] at h1
    obtain ⟨s1, s2⟩ := h.putO (f := f) (v := .ref p) (new := [(p, ns.map .int)]) r1.1 hk hf (fun q z => by rw [List.mem_singleton.mp z]; exact hp) (fun q z => by rw [List.mem_singleton.mp z]; exact h1) (by simp)
    exact ⟨_, hi, x, _, dx, _, rfl, s2, cl, na, by rw [List.length_zip]; omega, k p _ s1⟩
theorem e_putN {ns : List Int} (cl : Cls K (He.ga K "Stand")) (na : NoAttr K (He.ga K "Stand") f) (hk : ks.length = vs.length) (hf : f ∉ ks) (hl : ks.length < 100) (hi : σ[0]? = some (some (V.ref x))) (hx : Xn ((pureM K B0).own (objO K x dx R T vr vt ks vs ls)) G te (· = ns.map .int)) (h : Sg ((pureM K B0).own (objO K x dx R T vr vt ks vs ls)) H0 L G σ H)
    (k : ∀ (p : Addr) H', Sg ((pureM K B0).own (objO K x dx R T vr vt (ks ++ [f]) (vs ++ [.ref p]) (ls ++ [(p, ns.map .int)]))) H0 L G σ H' → n σ H') : sFld K (tVar 0) te f ⟨n, r, b, c⟩ σ H :=
  hx σ H _ h.ok h.env fun p xs ds H1 r1 e hp h1 ha => by
    subst e
    rw [AtAll.ints.mp ha] at h1
    obtain ⟨s1, s2⟩ := h.putO (f := f) (v := .ref p) (new := [(p, ns.map .int)]) r1.1 hk hf (fun q z => by rw [List.mem_singleton.mp z]; exact hp) (fun q z => by rw [List.mem_singleton.mp z]; exact h1) (by simp)
    exact ⟨_, hi, x, _, dx, _, rfl, s2, cl, na, by rw [List.length_zip]; omega, k p _ s1⟩
/-- a new list of new lists of k zeros -/
def Xh (M : Mode K) (G : List (Option Dt)) (te : TE) (m k : Nat) : Prop := ∀ (σ : L2.St) (H : Hp) (Q : VK), M.ok H → Env K M.B H G σ →
  (∀ p ms H2, M.R H H2 → ms.length = m → (p :: ms).Nodup → (∀ a ∈ p :: ms, H a = none) → H2 p = some (.lst (ms.map V.ref)) → (∀ a ∈ ms, H2 a = some (.lst (List.replicate k (.int 0)))) → Q (.ref p) H2) → te σ H Q
theorem q_putH {m kz : Nat} (cl : Cls K (He.ga K "Stand")) (na : NoAttr K (He.ga K "Stand") f) (hk : ks.length = vs.length) (hf : f ∉ ks) (hl : ks.length < 100) (hi : σ[0]? = some (some (V.ref x))) (hx : Xh ((pureM K B0).own (objO K x dx R T vr vt ks vs ls)) G te m kz) (h : Sg ((pureM K B0).own (objO K x dx R T vr vt ks vs ls)) H0 L G σ H)
    (k : ∀ (p : Addr) (ms : List Addr) H', ms.length = m → Sg ((pureM K B0).own (objO K x dx R T vr vt (ks ++ [f]) (vs ++ [.ref p]) (ls ++ ((p, ms.map V.ref) :: ms.map fun a => (a, List.replicate kz (V.int 0)))))) H0 L G σ H' → u ⟨n, r, b, c⟩ σ H') : tSeq (sFld K (tVar 0) te f) u ⟨n, r, b, c⟩ σ H :=
  hx σ H _ h.ok h.env fun p ms H1 r1 hm nd fr h1 h2 => by
    have e1 : ((p, ms.map V.ref) :: ms.map fun a => (a, List.replicate kz (V.int 0))).map Prod.fst = p :: ms := by
      rw [List.map_cons, List.map_map]
      show p :: ms.map (fun a => a) = _
      rw [List.map_id']
    obtain ⟨s1, s2⟩ := h.putO (f := f) (v := .ref p) (new := (p, ms.map V.ref) :: ms.map fun a => (a, List.replicate kz (V.int 0))) r1.1 hk hf (fun q z => fr q.1 (by rw [← e1]; exact List.mem_map.mpr ⟨q, z, rfl⟩)) (fun q z => by
      rcases List.mem_cons.mp z with z | z
      · rw [z]
        exact h1
      · obtain ⟨a, ha, e⟩ := List.mem_map.mp z
        rw [← e]
        exact h2 a ha) (by rw [e1]; exact nd)
    exact ⟨_, hi, x, _, dx, _, rfl, s2, cl, na, by rw [List.length_zip]; omega, k p ms _ hm s1⟩
end
section
variable {M : Mode K} {G : List (Option Dt)} {te tk : TE} {m kz : Nat}
/-- [0] * n, new -/
theorem xn_zeros {te : TE} {k : Nat} (hk : k ≤ 1000) (h : Xd M G te (.int (k : Int))) : Xn M G (tOp rRep (tLst (tCons (tC (.int 0)) tNil)) te) (· = (List.replicate k (0 : Int)).map .int) := fun σ H Q ok e q => by
  refine ⟨by decide, fun p0 hp0 => h σ _ _ (M.stab ok (M.knew ok hp0)) (e.keep (M.keep (M.knew ok hp0))) fun v d H2 r2 ed hv => ?_⟩
  rw [ed] at hv
  have ok1 := M.stab ok (M.knew (o := .lst [.int 0]) ok hp0)
  have h0 : H2 p0 = some (.lst [.int 0]) := M.keep r2 _ _ (M.nB ok hp0) upd_same
  refine ⟨p0, (k : Int), [.int 0], rfl, hv, h0, by omega, by omega, ?_, fun p hp => ?_⟩
  · rw [Int.toNat_natCast, List.length_singleton, Nat.one_mul]
    exact Nat.le_trans hk (by decide)
  · have r3 := M.trans (M.trans (M.knew ok hp0) r2) (M.knew (o := .lst (List.replicate (k : Int).toNat [V.int 0]).flatten) (M.stab ok1 r2) hp)
    have ez : (List.replicate (k : Int).toNat [V.int 0]).flatten = ((List.replicate k (0 : Int)).map V.int) := by
      rw [Int.toNat_natCast, List.map_replicate]
      have key : ∀ n : Nat, (List.replicate n [V.int 0]).flatten = List.replicate n (V.int 0) := by
        intro n
        induction n with
        | zero => rfl
        | succ n ih => rw [List.replicate_succ, List.flatten_cons, ih, List.replicate_succ]; rfl
      exact key k
    exact q p _ _ _ r3 rfl (M.free ok (M.trans (M.knew ok hp0) r2) hp) upd_same (by rw [ez]; exact AtAll.ints.mpr rfl)
/-- [[0] * k for d in range(m)], new -/
theorem xh_zeros {ta : TA} {vs : List Nat} {j : Nat} (hm : m ≤ 1000) (hj : j ∈ vs) (hi : Xa M G ta (· = [.int (m : Int)])) (hz : ∀ (D : Addr) (acc : List Dt) (i : Nat), Xn (M.bld D acc) ((wipeG G vs).set j (some (.int (i : Int)))) te (· = (List.replicate kz (0 : Int)).map .int)) : Xh M G (tLc (iRng1 ta) (gName j) tYes te vs) m kz := fun σ H Q ok e q => by
  refine (xi_rng1 hi (by omega) (by omega)).j σ H _ ok e fun J H1 r1 wd D hD => ?_
  obtain ⟨Gd, Y, w, hw⟩ := wd D hD
  have o1 := M.stab ok r1
  have e1 := e.keep (M.keep r1)
  have lm : ((List.range (m : Int).toNat).map fun (i : Nat) => Dt.int (i : Int)).length = m := by simp
  rw [lm] at w hw
  refine lc_it w (fun i H' => ∃ ms : List Addr, ms.length = i ∧ (D :: ms).Nodup ∧ (∀ a ∈ D :: ms, H1 a = none) ∧ H' D = some (.lst (ms.map V.ref)) ∧ (∀ a ∈ ms, H' a = some (.lst (List.replicate kz (.int 0)))) ∧ M.R H1 H') ⟨[], rfl, by simp, fun a ha => by rw [List.mem_singleton.mp ha]; exact hD, upd_same, (fun a z => by cases z), M.knew o1 hD⟩ ?_ ?_ ?_
  · rintro i H' hin ⟨ms, l1, l2, l3, l4, l5, l6⟩
    refine (hw H' l6 fun a z => ?_).1
    rcases z with z | z
    · exact M.trk (M.stab o1 l6) z
    · rw [z, l4]
      exact fun w => nomatch w
  · rintro i v H2 H3 hin ⟨ms, l1, l2, l3, l4, l5, l6⟩ y
    have live : ∀ a, (M.B a ∨ a = D) → H2 a ≠ none := fun a z => by
      rcases z with z | z
      · exact M.trk (M.stab o1 l6) z
      · rw [z, l4]
        exact fun w => nomatch w
    obtain ⟨s3, d, ed, hd⟩ := (hw H2 l6 live).2 i v H3 hin y
    have ed' : d = .int (i : Int) := by
      rw [List.getElem?_map, Int.toNat_natCast, List.getElem?_range hin] at ed
      exact (Option.some.inj ed).symm
    subst ed'
    -- the mode in which the new list at D is built, its marks as addresses
    have acc : AtAll K (fun b => M.B b ∨ b = D) H3 (ms.map Dt.raw) (ms.map V.ref) := (AtAll.mapS (f := Dt.raw) (g := V.ref) fun _ _ => Iff.rfl).mpr rfl
    have r3 : M.R H1 H3 := M.trans l6 (M.same (M.stab o1 l6) s3)
    have okD : (M.bld D (ms.map .raw)).ok H3 := ⟨M.stabX (M.more o1 hD) r3, M.nB o1 hD, _, s3 _ _ l4, acc.less fun a z => z.elim id fun z => z.elim⟩
    have envD : Env K (M.bld D (ms.map .raw)).B H3 (wipeG G vs) (L2.wipe σ vs) := ((e1.wipe vs).more hD).keep fun b u nb z => M.keep r3 b u (fun w => nb (.inl w)) z
    refine ⟨?_, ?_⟩
    · rw [show v = V.int (i : Int) from hd]
      rw [wipe_out hj, wipe_wipe fun _ z => z]
    · show te _ H3 _
      refine hz D (ms.map .raw) i _ H3 _ okD (envD.set hd) fun p xs ds H4 r4 eds hp hp4 hx => ?_
      subst eds
      have ex := AtAll.ints.mp hx
      have h4D : H4 D = some (.lst (ms.map V.ref)) := r4.2 _ (s3 _ _ l4)
      have r4' : M.R H1 H4 := M.trans r3 r4.1
      have frp : H1 p = none := M.free o1 r3 hp
      have npD : p ≠ D := fun z => by rw [z, s3 _ _ l4] at hp; cases hp
      have nB : ∀ a, a ∈ ms → ¬ M.B a := fun a ha z => M.trk o1 z (l3 a (List.mem_cons_of_mem _ ha))
      have nD : ∀ a, a ∈ ms → a ≠ D := fun a ha z => (List.nodup_cons.mp l2).1 (z ▸ ha)
      have npm : p ∉ ms := fun z => by
        rw [s3 _ _ (l5 p z)] at hp
        cases hp
      refine ⟨_, h4D, by rw [List.length_map, l1]; exact Nat.lt_of_lt_of_le hin (Nat.le_trans hm (by decide)), ms ++ [p], by rw [List.length_append, l1]; rfl, ?_, ?_, ?_, ?_, M.mutR o1 r4' hD⟩
      · rw [← List.cons_append]
        refine List.nodup_append.mpr ⟨l2, by simp, fun a ha z hz' ez => ?_⟩
        rw [List.mem_singleton.mp hz'] at ez
        rcases List.mem_cons.mp ha with w | w
        · exact npD (ez ▸ w)
        · exact npm (ez ▸ w)
      · intro a ha
        rcases List.mem_cons.mp ha with w | w
        · exact w ▸ hD
        · rcases List.mem_append.mp w with w | w
          · exact l3 a (List.mem_cons_of_mem _ w)
          · rw [List.mem_singleton.mp w]
            exact frp
      · rw [upd_same, List.map_append]
        rfl
      · intro a ha
        rcases List.mem_append.mp ha with w | w
        · rw [upd_ne (nD a w)]
          exact M.keep r4.1 _ _ (nB a w) (s3 _ _ (l5 a w))
        · rw [List.mem_singleton.mp w, upd_ne npD, hp4, ex, List.map_replicate]
  · rintro H' ⟨ms, l1, l2, l3, l4, l5, l6⟩
    exact q D ms H' (M.trans r1 l6) l1 l2 (fun a ha => M.free ok r1 (l3 a ha)) l4 l5
end
/-! ### the frame of its __init__; its making -/
def spN (K : PySem.W.Frag) : Sp := fun vs H Q _ => ∃ (B : Addr → Prop) (R : Rl) (T : List Tb) (x dx : Addr) (ws : List V), vs = .ref x :: ws ∧ (∀ a, B a → H a ≠ none) ∧ ¬ B x ∧ H x = some (.ins (He.ga K "Stand") dx []) ∧
  AtAll K (fun b => B b ∨ b = x) H [R.dt, .lst (T.map tbDt)] ws ∧ T.length ≤ 3 ∧ R.fs.length ≤ 3 ∧
  ∀ (A : Adr) H', A.p = x → (∀ a ∈ A.all, a = x ∨ H a = none) → (∀ b o, b ≠ x → H b = some o → H' b = some o) → (sdO K A R T (Sd.init T.length R.fs.length)).C (fun b => B b ∨ b ∈ A.all) H' → Q .non H'
section
variable {P : Program} {w : World} {mg : Str → Option Value} {base : Heap}
variable {x qual : Str} {params : Arguments} {body : List Stmt} {scope : Scope} {f : Addr} {fd : FuncData} {N ps : List Str} {k : Nat}
theorem mk_ok (F : FunD K x qual params body scope [] [] f fd) (S : FnScope N ps scope) (hl : 3 = ps.length)
    (hb : ∀ (cdv : Value) (Ar : Around) (outer : List PySem.Env) (sh : Shared) (H0 H : Hp) (σ : L2.St) (Q : VK) (E : XK) (B : Addr → Prop) (R : Rl) (T : List Tb) (p dp : Addr) (vr vt : V), Room k (Ar.deeper (envOfC qual scope sh.heap.objs.size f cdv)) → T.length ≤ 3 → R.fs.length ≤ 3 →
      σ[0]? = some (some (.ref p)) → σ[1]? = some (some vr) → σ[2]? = some (some vt) →
      Sg ((pureM K B).own (objO K p dp R T vr vt [] [] [])) H0 [] ([Dt.raw p, R.dt, .lst (T.map tbDt)].map some ++ List.replicate (N.length - 3) none) σ H →
      (∀ (A : Adr) G σ' H', A.p = p → Sg ((pureM K B).own (sdO K A R T (Sd.init T.length R.fs.length))) H0 [] G σ' H' → Q .non H') →
      ∃ t, PSs (cxOf CX0 P w K mg base N qual scope f cdv Ar outer sh H E).nox body t ∧ t { nx := fun _ H' => Q .non H', rt := Q } σ H) : FnOk P w K mg base CX0 (k + 1) f fd ps (spN K) := by
  classical
  refine F.ok S (fun vs H Q E h => ?_) (fun cdv Ar outer sh H vs Q E hr h => ?_)
  · obtain ⟨B, R, T, p, dp, ws, e, _, _, _, h3, _⟩ := h
    rw [e, List.length_cons, h3.length]
    exact hl
  · obtain ⟨B, R, T, p, dp, ws, e, h0, h1, h2, h3, h4, h5, h6⟩ := h
    subst e
    obtain ⟨vr, vt, ev, hr1, hr2⟩ := two_of h3
    subst ev
    have hv : AtAll K (fun b => B b ∨ b = p) H [Dt.raw p, R.dt, .lst (T.map tbDt)] [.ref p, vr, vt] := ⟨_, _, rfl, rfl, h3⟩
    have sub : ∀ b, (B b ∨ (b = p ∨ b ∈ ([] : List (Addr × List V)).map Prod.fst)) → B b ∨ b = p := fun b z => z.imp id fun w => w.elim id fun q => by cases q
    have sg : Sg ((pureM K B).own (objO K p dp R T vr vt [] [] [])) (fun a => if a = p then none else H a) [] ([Dt.raw p, R.dt, .lst (T.map tbDt)].map some ++ List.replicate (N.length - 3) none) (start N [.ref p, vr, vt]) H := by
      refine ⟨⟨h0, fun a z => ?_, h2, (fun q z => by cases z), by simp, hr1.less fun a z => z.elim (sub a) fun z => z.elim, hr2.less fun a z => z.elim (sub a) fun z => z.elim⟩, ⟨fun a o z => ?_, fun a z => ?_⟩, (fun g z => by cases z), ?_⟩
      · rcases z with z | z
        · rw [z]
          exact h1
        · cases z
      · have z' : (if a = p then none else H a) = some o := z
        by_cases ea : a = p
        · rw [if_pos ea] at z'
          cases z'
        · rw [if_neg ea] at z'
          exact z'
      · rcases z with z | z
        · exact if_pos z
        · cases z
      · exact (Env.start (N.length - 3) hv).less sub
    obtain ⟨t, q1, q2⟩ := hb cdv Ar outer sh _ H (start N [.ref p, vr, vt]) Q E B R T p dp vr vt hr h4 h5 rfl rfl rfl sg fun A G σ' H' ep s => h6 A H' ep (fun a ha => by
      have z : (if a = p then none else H a) = none := s.fr.2 a ha
      by_cases ea : a = p
      · exact .inl ea
      · rw [if_neg ea] at z
        exact .inr z) (fun b o nb e => s.fr.1 b o ((if_neg nb).trans e)) (HasO.at HasO.own s.ok)
    exact ⟨t, q1.nox, q2⟩
end
section
variable {M : Mode K} {G : List (Option Dt)} {R : Rl} {T : List Tb} {H0 H : Hp} {L : List (Dt × V)} {σ : L2.St} {n b c : L2.St → Hp → Prop} {r : VK} {u : TS} {ta : TA} {i j : Nat}
/-- x, y = Stand(..), [] -/
theorem q_parStand (hT : T.length ≤ 3) (hR : R.fs.length ≤ 3) (ha : Xa M G ta (· = [R.dt, .lst (T.map tbDt)])) (h : Sg M H0 L G σ H)
    (k : ∀ (A : Adr) (q : Addr) σ' H', Sg ((M.bld q []).own (sdO K A R T (Sd.init T.length R.fs.length))) H0 L ((G.set i (some (.raw A.p))).set j (some (.raw q))) σ' H' → u ⟨n, r, b, c⟩ σ' H') :
    tSeq (tPar i j (tCons (tMake (He.ga K "Stand") (spN K) [] E0 ta) (tCons (tLst tNil) tNil))) u ⟨n, r, b, c⟩ σ H :=
  ha σ H _ h.ok h.env fun vs ds H1 r1 ed hs x dx hx hdx ne => by
    rw [ed] at hs
    have h1 := h.go r1
    have s1 : Same H1 (upd (upd H1 dx (.own x)) x (.ins (He.ga K "Stand") dx [])) := Same.mut (Same.new hdx) hx
    refine ⟨M.B, R, T, x, dx, vs ++ [], rfl, fun a z => M.trk (M.stab h1.ok (M.same h1.ok s1)) z, M.nB h1.ok hx, upd_same, ?_, hT, hR, fun A H2 ep fr kp hc => ⟨rfl, ?_⟩⟩
    · rw [List.append_nil]
      exact (hs.more hx).keep (Same.keep s1)
    · have s2 : Same H1 H2 := fun b o e => kp b o (ne_of_none e hx) (s1 b o e)
      have fr' : ∀ a, a ∈ A.all → H1 a = none := fun a ha => by
        rcases fr a ha with z | z
        · exact z ▸ hx
        · cases q : H1 a with
          | none => rfl
          | some o =>
            rw [s1 a o q] at z
            cases z
      have h2 := h1.own (O := sdO K A R T (Sd.init T.length R.fs.length)) s2 fr' hc
      exact ⟨Nat.zero_le _, fun q hq => ⟨.ref x, .ref q, rfl, k A q _ _ (((h2.bld (xs := []) (ds := []) hq rfl).swap'.set (i := i) (d := .raw A.p) (v := .ref x) (by rw [ep]; rfl)).set (i := j) (d := .raw q) (v := .ref q) rfl)⟩⟩
end
end
end Lf

/-! what holds of a stand goes on holding -/
namespace Lf
open PySem
theorem gr_or (a b : Int) : gr a b = a ∨ gr a b = b := by
  unfold gr
  split
  · exact .inl rfl
  · exact .inr rfl
theorem inT_gr {T : List Tb} {a b : Int} (ha : inT T a) (hb : inT T b) : inT T (gr a b) := by
  rcases gr_or a b with e | e <;> rw [e]
  · exact ha
  · exact hb
theorem inT_moved {T : List Tb} {w : Str} {v s e : Int} (hv : inT T v) (he : inT T e) : inT T (movedV w v s e) := by
  unfold movedV
  split
  · exact he
  · split
    · exact inT_gr hv he
    · split
      · split
        · exact hv
        · exact he
      · exact hv
theorem inT_hand {T : List Tb} {w : Str} {v o : Int} {l : Bool} (hv : inT T v) (ho : inT T o) : inT T (handV w v o l) := by
  unfold handV
  split
  · exact ho
  · split
    · exact inT_gr hv ho
    · exact hv
theorem tg_mem {T : List Tb} {d : Nat} {l : List Int} (e : tg T d = some l) : some l ∈ T := by
  unfold tg at e
  rw [List.getD_eq_getElem?_getD] at e
  cases q : T[d]? with
  | none => rw [q] at e; cases e
  | some t =>
    rw [q] at e
    have e' : t = some l := e
    exact e' ▸ List.mem_of_getElem? q
theorem inT_kern {T : List Tb} {d : Nat} {v : Int} (w : TWf T) (hv : inT T v) : inT T (kern (tg T d) v) := by
  unfold kern
  cases e : tg T d with
  | none => exact hv
  | some l =>
    have m := tg_mem e
    have h1 := hv.2 l m
    have h0 := hv.1
    exact (w.all l m).2.2 _ (List.mem_of_getElem? (sg_some (by omega)))
theorem inT_zero {T : List Tb} (w : TWf T) : inT T 0 := ⟨Int.le_refl 0, fun l m => by
  have := (w.all l m).2.1
  omega⟩
theorem inT_took {T : List Tb} {d : Nat} {f : Fd} {v o : Int} {l : Bool} (w : TWf T) (hv : inT T v) (ho : inT T o) : inT T (tookV f (tg T d) v o l) := by
  unfold tookV
  split
  · exact inT_kern w (inT_hand hv ho)
  · exact inT_hand hv ho
theorem inT_end {T : List Tb} {s : Sd} {rd : Bool} {d : Nat} {e : Int} (w : TWf T) (h : okDeed T s (.go rd d e)) : inT T e := by
  obtain ⟨hd, e0, _, ht⟩ := h
  refine ⟨e0, fun l m => ?_⟩
  rcases w.un with a | ⟨n, a⟩
  · exact absurd (a _ m) (fun z => nomatch z)
  · obtain ⟨l1, e1, h1⟩ := a _ m
    obtain ⟨l2, e2, h2⟩ := a _ (List.mem_of_getElem? (tg_some hd))
    have := (ht l2 e2).1
    cases e1
    omega
theorem mkM_in {T : List Tb} {fs : List Fd} {F : Fd → Nat → Int} (h : ∀ (i : Nat) (f : Fd), fs[i]? = some f → inT T (F f i)) : ∀ v ∈ mkM fs F, inT T v := fun v hv => by
  obtain ⟨i, hi, e⟩ := List.mem_iff_getElem.mp hv
  rw [mkM_len] at hi
  have q := mkM_get (F := F) (List.getElem?_eq_getElem hi)
  have e2 : sg (mkM fs F) i = v := sg_eq (by rw [List.getElem?_eq_getElem (by rw [mkM_len]; exact hi), e])
  rw [← e2, q]
  exact h i _ (List.getElem?_eq_getElem hi)
theorem mem_setL {α : Type} {l : List α} {d : Nat} {x y : α} (h : y ∈ l.set d x) : y = x ∨ y ∈ l := by
  rcases List.mem_or_eq_of_mem_set h with h | h
  · exact .inr h
  · exact .inl h
section
variable {R : Rl} {T : List Tb} {s : Sd} {n : Nat}
theorem Wf.get (w : Wf R T s) {d : Nat} (hd : d < s.held.length) {i : Nat} (hi : i < R.fs.length) : inT T (sg (hg s.held d) i) := by
  have m : hg s.held d ∈ s.held := List.mem_of_getElem? (hg_some hd)
  exact w.hv _ m _ (List.mem_of_getElem? (sg_some (by rw [w.mw _ m]; exact hi)))
/-- marks of which one is written anew -/
theorem Wf.marks (w : Wf R T s) {d : Nat} {F : Fd → Nat → Int} (h : ∀ (i : Nat) (f : Fd), R.fs[i]? = some f → inT T (F f i)) : (∀ m ∈ s.held.set d (mkM R.fs F), m.length = R.fs.length) ∧ ∀ m ∈ s.held.set d (mkM R.fs F), ∀ v ∈ m, inT T v := by
  constructor
  · intro m hm
    rcases mem_setL hm with e | e
    · rw [e, mkM_len]
    · exact w.mw m e
  · intro m hm v hv
    rcases mem_setL hm with e | e
    · rw [e] at hv
      exact mkM_in h v hv
    · exact w.hv m e v hv
theorem lt_of {fs : List Fd} {i : Nat} {f : Fd} (h : fs[i]? = some f) : i < fs.length := (List.getElem?_eq_some_iff.mp h).1
theorem wf_go {rd : Bool} {d : Nat} {e : Int} (t : TWf T) (w : Wf R T s) (ok : okDeed T s (.go rd d e)) : Wf R T (goM R rd d e s) := by
  have he := inT_end t ok
  have hd : d < s.held.length := by rw [w.hl]; have := ok.1; omega
  obtain ⟨m1, m2⟩ := w.marks (d := d) (F := fun f i => movedV (if rd = true then f.rd else f.jp) (sg (hg s.held d) i) (sg s.spots d) e) fun i f hi => inT_moved (w.get hd (lt_of hi)) he
  refine ⟨by show (s.spots.set d e).length = _; rw [List.length_set]; exact w.sp, by show (s.held.set d _).length = _; rw [List.length_set]; exact w.hl, by show (stamped s.stamps d).length = _; unfold stamped; rw [List.length_set]; exact w.st, m1, m2, fun v hv => ?_, fun v hv => ?_⟩
  · have hv' : v ∈ if e ∈ s.come then s.come else s.come ++ [e] := hv
    split at hv'
    · exact w.cv v hv'
    · rcases List.mem_append.mp hv' with z | z
      · exact w.cv v z
      · rw [List.mem_singleton.mp z]
        exact he
  · rcases mem_setL hv with z | z
    · rw [z]
      exact he.1
    · exact w.sv v z
theorem wf_anew {d : Nat} (t : TWf T) (w : Wf R T s) (hd : d < T.length) : Wf R T (anewM R d s) := by
  have hh : d < s.held.length := by rw [w.hl]; omega
  obtain ⟨m1, m2⟩ := w.marks (d := d) (F := fun f i => if f.an = "least" then 0 else sg (hg s.held d) i) fun i f hi => by
    show inT T (if f.an = "least" then 0 else sg (hg s.held d) i)
    split
    · exact inT_zero t
    · exact w.get hh (lt_of hi)
  refine ⟨by show (s.spots.set d 0).length = _; rw [List.length_set]; exact w.sp, by show (s.held.set d _).length = _; rw [List.length_set]; exact w.hl, by show (stamped s.stamps d).length = _; unfold stamped; rw [List.length_set]; exact w.st, m1, m2, fun v hv => ?_, fun v hv => ?_⟩
  · rw [show v = 0 from List.mem_singleton.mp hv]
    exact inT_zero t
  · rcases mem_setL hv with z | z
    · rw [z]
      exact Int.le_refl 0
    · exact w.sv v z
theorem wf_give {d : Nat} (w : Wf R T s) (hd : d < T.length) : Wf R T (giveM R T.length d s) := by
  have hh : d < s.held.length := by rw [w.hl]; omega
  have hN : T.length < s.held.length := by rw [w.hl]; omega
  obtain ⟨m1, m2⟩ := w.marks (d := T.length) (F := fun f i => handV f.gv (sg (hg s.held T.length) i) (sg (hg s.held d) i) (decide (sg s.stamps d > sg s.stamps T.length))) fun i f hi => inT_hand (w.get hN (lt_of hi)) (w.get hh (lt_of hi))
  exact ⟨w.sp, by show (s.held.set _ _).length = _; rw [List.length_set]; exact w.hl, by show (s.stamps.set _ _).length = _; rw [List.length_set]; exact w.st, m1, m2, w.cv, w.sv⟩
theorem took_in {d : Nat} (t : TWf T) (w : Wf R T s) (hd : d < T.length) : ∀ (i : Nat) (f : Fd), R.fs[i]? = some f → inT T (tookV f (tg T d) (sg (hg s.held d) i) (sg (hg s.held T.length) i) (decide (sg s.stamps T.length > sg s.stamps d))) := fun i f hi =>
  inT_took t (w.get (by rw [w.hl]; omega) (lt_of hi)) (w.get (by rw [w.hl]; omega) (lt_of hi))
theorem place_in {d : Nat} (t : TWf T) (w : Wf R T s) (hd : d < T.length) (ha : R.at < R.fs.length) : inT T (sg (tookM R (tg T d) T.length d s) R.at) := by
  refine mkM_in (took_in t w hd) _ (List.mem_of_getElem? (sg_some ?_))
  rw [mkM_len]
  exact ha
theorem wf_take {d : Nat} (t : TWf T) (w : Wf R T s) (hd : d < T.length) (ha : R.at < R.fs.length) : Wf R T (takeM R (tg T d) T.length d s) := by
  obtain ⟨m1, m2⟩ := w.marks (d := d) (took_in t w hd)
  have hp := inT_kern (d := d) t (place_in t w hd ha)
  refine ⟨?_, by show (s.held.set _ _).length = _; rw [List.length_set]; exact w.hl, by show (s.stamps.set _ _).length = _; rw [List.length_set]; exact w.st, m1, m2, w.cv, fun v hv => ?_⟩
  · show (if R.way = "field" then s.spots.set d _ else if R.way = "greater" then s.spots.set d _ else s.spots).length = _
    split
    · rw [List.length_set]; exact w.sp
    · split
      · rw [List.length_set]; exact w.sp
      · exact w.sp
  · have hv' : v ∈ (if R.way = "field" then s.spots.set d (kern (tg T d) (sg (tookM R (tg T d) T.length d s) R.at)) else if R.way = "greater" then s.spots.set d (gr (sg s.spots d) (kern (tg T d) (sg (tookM R (tg T d) T.length d s) R.at))) else s.spots) := hv
    split at hv'
    · rcases mem_setL hv' with z | z
      · rw [z]; exact hp.1
      · exact w.sv v z
    · split at hv'
      · rcases mem_setL hv' with z | z
        · rw [z]
          rcases gr_or (sg s.spots d) (kern (tg T d) (sg (tookM R (tg T d) T.length d s) R.at)) with q | q <;> rw [q]
          · exact w.sv _ (List.mem_of_getElem? (sg_some (by rw [w.sp]; exact hd)))
          · exact hp.1
        · exact w.sv v z
      · exact w.sv v hv'
theorem wf_do {x : Deed} (t : TWf T) (w : Wf R T s) (ha : R.at < R.fs.length) (ok : okDeed T s x) : Wf R T (doM R T s x).1 := by
  cases x with
  | go rd d e => exact wf_go t w ok
  | anew d => exact wf_anew t w ok
  | give d => exact wf_give w ok
  | take d => exact wf_take t w ok ha
theorem come_do {x : Deed} (h : s.come.length ≤ n) (hn : 1 ≤ n) : (doM R T s x).1.come.length ≤ n + 1 := by
  cases x with
  | go rd d e =>
    show (if e ∈ s.come then s.come else s.come ++ [e]).length ≤ n + 1
    split
    · omega
    · rw [List.length_append, List.length_singleton]
      omega
  | anew d =>
    show ([0] : List Int).length ≤ n + 1
    simp
  | give d =>
    show s.come.length ≤ n + 1
    omega
  | take d =>
    show s.come.length ≤ n + 1
    omega
theorem Fit.step {x : Deed} (h : Fit n R T s) (ha : R.at < R.fs.length) (ok : okDeed T s x) (hn : 1 ≤ n) (h1 : n + 1 ≤ 1000) : Fit (n + 1) R T (doM R T s x).1 := ⟨h.r, h.t, wf_do h.t h.w ha ok, come_do h.c.1 hn, h1⟩
end
end Lf

namespace Lf
open PySem PySem.Spec PyProof.Rows L2
local macro_rules | `(tactic| walk_at "rv") => `(tactic| with_reducible first
  | exact rv_int | exact rv_cmp | exact rv_eqI | exact rv_neI | exact rv_eqS | exact rv_neS | exact rv_eqB | exact rv_neB)
local macro_rules | `(tactic| walk_at "xd") => `(tactic| first
  | (with_reducible first | exact x_int | exact x_str | exact x_bl | exact x_non | exact x_ty | exact x_ref)
  | ((with_reducible apply x_var); exact rfl)
  | ((with_reducible apply xd_op); (walk_at "xd"); (walk_at "xd"); (walk_at "rv"))
  | ((with_reducible apply xd_if); (walk_at "xb"); (intro _; walk_at "xd"); (intro _; walk_at "xd"))
  | ((with_reducible apply xd_tup); (walk_at "xa"); (first | decide | assumption | omega))
  | ((with_reducible apply xd_lst); (walk_at "xa"); (first | decide | assumption | omega)))
local macro_rules | `(tactic| walk_at "xb") => `(tactic| first
  | ((with_reducible apply xb_test); (walk_at "xd"))
  | ((with_reducible apply xb_B); (walk_at "xd"))
  | ((with_reducible apply xb_and); (walk_at "xb"); (intro _; walk_at "xb"))
  | ((with_reducible apply xb_or); (walk_at "xb"); (intro _; walk_at "xb"))
  | ((with_reducible apply xb_not); (walk_at "xb")))
local macro_rules | `(tactic| walk_at "xa") => `(tactic| first
  | (with_reducible exact xa_nil)
  | ((with_reducible apply xad_cons); (walk_at "xd"); (walk_at "xa")))

/-! ### what the stand is asked -/
section
variable {P : Program} {w : World} {K : PySem.W.Frag} {mg : Str → Option Value} {base : Heap}
def preKer (ds : List Dt) (r : Dt) : Prop := ∃ R T s d v, d < T.length ∧ (∀ l, tg T d = some l → 0 ≤ v ∧ v < (l.length : Int)) ∧ ds = [sdDt R T s, .int (d : Int), .int v] ∧ r = .int (kern (tg T d) v)
theorem t_Stand_kernel (T : Txt w K mg) : Met P w K mg base 1 "Stand" "kernel" ["self", "device", "value"] (spP K preKer) := by
  refine met_Stand_kernel T fun f fd F => pure_ok F sc_Stand_kernel ?_ fun cdv A outer s H σ Q E B ds r hr hp h k => ?_
  · rintro ds r ⟨R, Ts, sd, d, v, _, _, rfl, rfl⟩
    rfl
  · obtain ⟨R, Ts, sd, d, v, hd, hv, rfl, rfl⟩ := hp
    refine ⟨_, (pss_cons (ps_set (i := 3) sc_Stand_kernel.nd rfl (Or.inl rfl) (pe_ix ix_list (pe_fld (pv 0) rfl) (pv 1) (fun _ _ => rfl)))
    (pss_one (ps_ret (pe_ifExp (pt_cmpR op_isN (pv 3) pe_non (nomark _)) (pv 2) (pe_ix ix_list (pv 3) (pv 2) (fun _ _ => rfl)))))), ?_⟩
    apply qd_asg h (xd_op (x_fld T.c_Stand T.n_Stand_tables (x_var rfl) (d := .lst (Ts.map tbDt)) rfl) (x_var rfl) (rv_ixL (at_tg hd)))
    intro σ1 H1 h
    apply ed_ret h k
    cases e : tg Ts d with
    | none => exact Xe.is (xd_if (b := true) (d := .int v) (d' := .non) (xb_test (xd_op (x_var rfl) x_non rv_isD)) (fun _ => x_var rfl) fun e => by cases e) rfl
    | some l =>
      obtain ⟨h0, h1⟩ := hv l e
      exact Xe.is (xd_if (b := false) (d := .int v) (d' := .int (sg l v.toNat)) (xb_test (xd_op (x_var rfl) x_non rv_isD)) (fun e => by cases e) fun _ => xd_op (x_var rfl) (x_var rfl) (rv_ixL (at_sgI h0 h1))) rfl
def preLat (ds : List Dt) (r : Dt) : Prop := ∃ R T s, ds = [sdDt R T s] ∧ r = .int (latest s.stamps)
theorem latest_succ {l : List Int} {i : Nat} {x : Int} (e : l[i]? = some x) : latest (l.take (i + 1)) = gr (latest (l.take i)) x := by
  unfold latest
  rw [take_succ' e, List.foldl_append]
  rfl
theorem t_Stand_latest_stamp (T : Txt w K mg) : Met P w K mg base 2 "Stand" "latest_stamp" ["self"] (spP K preLat) := by
  refine met_Stand_latest_stamp T fun f fd F => pure_ok F sc_Stand_latest_stamp ?_ fun cdv A outer s H σ Q E B ds r hr hp h k => ?_
  · rintro ds r ⟨R, Ts, sd, rfl, rfl⟩
    rfl
  · obtain ⟨R, Ts, sd, rfl, rfl⟩ := hp
    refine ⟨_, (pss_cons (ps_set (i := 1) sc_Stand_latest_stamp.nd rfl (Or.inl rfl) pe_int)
    (pss_cons (ps_for PassesOwn.never rfl (pi_list (pe_fld (pv 0) rfl)) (pg_name (i := 2) sc_Stand_latest_stamp.nd rfl (Or.inl rfl)) (pss_one (ps_set (i := 1) sc_Stand_latest_stamp.nd rfl (Or.inl rfl) (pe_cal (c_greater T) (hr.mono (by decide)) (by rfl) (pa_cons (pv 1) (pa_cons (pv 2) pa_nil))))))
    (pss_one (ps_ret (pv 1))))), ?_⟩
    apply qd_asg h x_int
    intro σ1 H1 h
    refine q_forN (fun _ => pureM K B) (fun i => [some (sdDt R Ts sd), some (.int (latest (sd.stamps.take i))), none]) h (xi_list (x_fld T.c_Stand T.n_Stand_stamps (x_var rfl) (d := .lst (sd.stamps.map .int)) rfl)) (fun i d L' σ' H' e h => ?_) fun σ' H' h => ?_
    · obtain ⟨x, ex, rfl⟩ := map_got e
      refine ed_asg h (x_call (xad_cons (x_var rfl) (xad_cons (x_var rfl) xa_nil)) (by exact ⟨_, _, rfl, rfl⟩)) fun σ2 H2 h => ?_
      rw [latest_succ ex]
      exact h.weak (by repeat (first | exact GLe.nil | apply GLe.keep | apply GLe.drop))
    · rw [List.length_map, List.take_length] at h
      exact ed_ret h k (x_var rfl)
def preLost (ds : List Dt) (r : Dt) : Prop := ∃ n R T s, Fit n R T s ∧ ds = [sdDt R T s] ∧ r = .bl (isLost s)
theorem t_Stand_is_lost (T : Txt w K mg) : Met P w K mg base 1 "Stand" "is_lost" ["self"] (spP K preLost) := by
  refine met_Stand_is_lost T fun f fd F => pure_ok F sc_Stand_is_lost ?_ fun cdv A outer s H σ Q E B ds r hr hp h k => ?_
  · rintro ds r ⟨n, R, Ts, sd, _, rfl, rfl⟩
    rfl
  · obtain ⟨n, R, Ts, sd, fit, rfl, rfl⟩ := hp
    have fl := fit.len
    refine ⟨_, (pss_cons (ps_set (i := 1) sc_Stand_is_lost.nd rfl (Or.inl rfl) (pe_callTy call_listQ (by rfl) T.f_list (by decide +kernel) (pa_cons (pe_fld (pv 0) rfl) pa_nil)))
    (pss_cons (ps_for PassesOwn.never rfl (pi_list (pe_fld (pv 0) rfl)) (pg_name (i := 2) sc_Stand_is_lost.nd rfl (Or.inl rfl)) (pss_one (ps_expr (pe_bm PySem.F.plainAttrs_list PySem.F.slot_list_extend PySem.F.type_list_extend mt_extend (pv 1) (pa_cons (pv 2) pa_nil)))))
    (pss_one (ps_ret (pe_callB (cr_all rfl) (by rfl) T.f_all (by decide +kernel) (pa_cons (pe_lc (own := [("value", 3)]) rfl sc_Stand_is_lost.nd (pi_list (pv 1)) (blkOk_by (by kernel_rfl)) (fun _ _ _ _ _ => (pg_name (i := 3) sc_Stand_is_lost.nd rfl (Or.inl rfl))) (fun _ _ _ _ _ => pts_nil) (fun _ _ _ _ _ => (pe_cmpR op_lt (pv 3) (pe_fldK K (pv 0) rfl) (nomark _)))) pa_nil)))))), ?_⟩
    apply q_newN h (xn_listL (x_fld T.c_Stand T.n_Stand_spots (x_var rfl) (d := .lst (sd.spots.map .int)) rfl))
    intro p ds σ1 H1 e h
    subst e
    have step : ∀ {i : Nat} {m : List Int}, sd.held[i]? = some m → (sd.held.take (i + 1)).flatten = (sd.held.take i).flatten ++ m := fun e => by rw [take_succ' e, List.flatten_append, List.flatten_singleton]
    have h' : Sg ((pureM K B).bld p ((sd.spots ++ (sd.held.take 0).flatten).map .int)) H [] [some (sdDt R Ts sd), some (.raw p), none, none] σ1 H1 := by
      rw [List.take_zero, List.flatten_nil, List.append_nil]
      exact h
    refine q_forN (fun i => (pureM K B).bld p ((sd.spots ++ (sd.held.take i).flatten).map .int)) (fun _ => [some (sdDt R Ts sd), some (.raw p), none, none]) h' (xi_list (x_fld T.c_Stand T.n_Stand_held (x_var rfl) (d := marksD sd) rfl)) (fun i d L' σ' H' e h => ?_) fun σ' H' h => ?_
    · obtain ⟨m, em, rfl⟩ := map_got e
      refine ed_ext (es := m.map .int) h rfl ?_ (x_var rfl) fun H2 h => ?_
      · rw [← List.length_append, ← List.map_append, List.append_assoc, ← step em, List.length_map]
        have e2 : (sd.held.take (i + 1)).flatten.length ≤ sd.held.flatten.length := by
          conv => rhs; rw [← List.take_append_drop (i + 1) sd.held]
          rw [List.flatten_append, List.length_append]
          omega
        rw [List.length_append] at fl ⊢
        omega
      · rw [← List.map_append, List.append_assoc, ← step em] at h
        exact h.weak (by repeat (first | exact GLe.nil | apply GLe.keep | apply GLe.drop))
    · have hl : (sd.held.map fun m : List Int => Dt.lst (m.map .int)).length = sd.held.length := List.length_map _
      rw [hl, List.take_length] at h
      apply ed_ret h (fun v H' f hv => k v H' f.1 (hv.less fun a z => .inl z))
      refine Xe.is (xd_cb (xad_cons (Xe.is (x_lcN (ds := (sd.spots ++ sd.held.flatten).map .int) (fun d => match d with | .int v => .bl (decide (v < sd.top)) | _ => .non) (xj_xl (xl_bld rfl)) (fun i d q acc e => ?_) (hz := by rw [List.length_map]; omega)) rfl) xa_nil) (rc_all (bs := (sd.spots ++ sd.held.flatten).map fun v => decide (v < sd.top)) |> fun z => by rw [List.map_map] at z ⊢; exact z)) ?_
      · obtain ⟨x, ex, rfl⟩ := map_got e
        exact xd_op (x_var rfl) (x_fld T.c_Stand T.n_Stand_top (x_var rfl) (d := .int sd.top) rfl) rv_cmp
      · rw [List.all_map]
        rfl
def preCanGo (ds : List Dt) (r : Dt) : Prop := ∃ n R T s rd d e, Fit n R T s ∧ okDeed T s (.go rd d e) ∧ ds = [sdDt R T s, .str (if rd = true then "read" else "jump"), .int (d : Int), .int e] ∧ r = .bl true
theorem t_Stand_can_go (T : Txt w K mg) : Met P w K mg base 2 "Stand" "can_go" ["self", "word", "device", "end"] (spP K preCanGo) := by
  refine met_Stand_can_go T fun f fd F => pure_ok F sc_Stand_can_go ?_ fun cdv A outer s H σ Q E B ds r hr hp h k => ?_
  · rintro ds r ⟨n, R, Ts, sd, rd, d, e, _, _, rfl, rfl⟩
    rfl
  · obtain ⟨n, R, Ts, sd, rd, d, e, fit, ⟨hd, e0, hrd, ht⟩, rfl, rfl⟩ := hp
    refine ⟨_, (pss_cons (ps_set (i := 4) sc_Stand_can_go.nd rfl (Or.inl rfl) (pe_ix ix_list (pe_fld (pv 0) rfl) (pv 2) (fun _ _ => rfl)))
    (pss_cons (ps_if (PW.pt (pw_or (pt_not (pt_val (pe_cal (c_is_integer T) (hr.mono (by decide)) (by rfl) (pa_cons (pv 3) pa_nil)))) (pw_or (pt_cmpR op_lt (pv 3) pe_int (nomark _)) (pw_or1 (PW.pt (pw_and (pt_cmpR op_eq (pv 1) pe_str (nomark _)) (pw_and1 (pt_cmpR op_le (pv 3) (pe_ix ix_list (pe_fld (pv 0) rfl) (pv 2) (fun _ _ => rfl)) (nomark _))))))))) (pss_one (ps_ret pe_bl)) pss_nil)
    (pss_one (ps_ret (pe_or (pe_cmpR op_isN (pv 4) pe_non (nomark _)) (pe_one (pe_and (pe_cmpR op_lt (pv 3) (pe_callB call_lenQ (by rfl) T.f_len PySem.boot_len (pa_cons (pv 4) pa_nil)) (nomark _)) (pe_one (pe_cmpR op_eq (pe_ix ix_list (pv 4) (pv 3) (fun _ _ => rfl)) (pv 3) (nomark _)))))))))), ?_⟩
    apply qd_asg h (xd_op (x_fld T.c_Stand T.n_Stand_tables (x_var rfl) (d := .lst (Ts.map tbDt)) rfl) (x_var rfl) (rv_ixL (at_tg hd)))
    intro σ1 H1 h
    have hs : d < sd.spots.length := by rw [fit.w.sp]; exact hd
    apply qd_no h
    · refine Xt.is (xb_or (a := false) (b := false) (Xt.is (xb_not (a := true) (xb_B (x_call (xad_cons (x_var rfl) xa_nil) (by exact ⟨_, rfl, .inl ⟨⟨_, rfl⟩, rfl⟩⟩)))) rfl) fun _ => Xt.is (xb_or (a := false) (b := false) (Xt.is (xb_test (xd_op (x_var rfl) x_int rv_cmp)) (decide_eq_false (by omega))) fun _ => ?_) rfl) rfl
      cases rd with
      | false => exact Xt.is (xb_and (a := false) (b := true) (Xt.is (xb_test (xd_op (x_var rfl) x_str rv_eqS)) (decide_eq_false (by decide))) fun e => by cases e) rfl
      | true =>
        have lt := hrd rfl
        exact Xt.is (xb_and (a := true) (b := false) (Xt.is (xb_test (xd_op (x_var rfl) x_str rv_eqS)) (decide_eq_true rfl)) fun _ => Xt.is (xb_test (xd_op (x_var rfl) (xd_op (x_fld T.c_Stand T.n_Stand_spots (x_var rfl) (d := .lst (sd.spots.map .int)) rfl) (x_var rfl) (rv_ixL (at_sg hs))) rv_cmp)) (decide_eq_false (by omega))) rfl
    intro H2 h
    apply ed_ret h k
    cases et : tg Ts d with
    | none => exact Xe.is (x_orV (a := true) (b := true) (xd_op (x_var rfl) x_non rv_isD) fun e => by cases e) rfl
    | some l =>
      obtain ⟨h1, h2⟩ := ht l et
      refine Xe.is (x_orV (a := false) (b := true) (xd_op (x_var rfl) x_non rv_isD) fun _ => Xe.is (x_andV (a := true) (b := true) (Xe.is (xd_op (x_var rfl) (xd_cb (xad_cons (x_var rfl) xa_nil) rc_lenL) rv_cmp) (congrArg Dt.bl (decide_eq_true (by rw [List.length_map]; exact h1)))) fun _ => Xe.is (xd_op (xd_op (x_var rfl) (x_var rfl) (rv_ixL (at_sgI e0 h1))) (x_var rfl) rv_eqI) (congrArg Dt.bl (decide_eq_true h2))) rfl) rfl
def preCanDo (ds : List Dt) (r : Dt) : Prop := ∃ n R T s x, Fit n R T s ∧ okDeed T s x ∧ ds = [sdDt R T s, x.dt] ∧ r = .bl true
def Deed.dev : Deed → Nat
  | .go _ d _ => d
  | .anew d => d
  | .give d => d
  | .take d => d
def Deed.wd : Deed → Str
  | .go rd _ _ => if rd = true then "read" else "jump"
  | .anew _ => "anew"
  | .give _ => "give"
  | .take _ => "take"
def Deed.ends : Deed → List Dt
  | .go _ _ e => [.int e]
  | _ => []
theorem Deed.dt_eq (x : Deed) : x.dt = .tup (.str x.wd :: .int (x.dev : Int) :: x.ends) := by cases x <;> rfl
theorem okDeed_dev {T : List Tb} {s : Sd} {x : Deed} (h : okDeed T s x) : x.dev < T.length := by
  cases x with
  | go rd d e => exact h.1
  | _ => exact h
theorem Deed.size (x : Deed) : (x.wd, ((2 + x.ends.length : Nat) : Int)) ∈ sizesL := by
  cases x with
  | go rd d e => cases rd with
    | true => exact (by decide +kernel : ((("read" : Str), (3 : Int)) ∈ sizesL))
    | false => exact (by decide +kernel : ((("jump" : Str), (3 : Int)) ∈ sizesL))
  | anew d => exact (by decide +kernel : ((("anew" : Str), (2 : Int)) ∈ sizesL))
  | give d => exact (by decide +kernel : ((("give" : Str), (2 : Int)) ∈ sizesL))
  | take d => exact (by decide +kernel : ((("take" : Str), (2 : Int)) ∈ sizesL))
theorem t_Stand_can_do (T : Txt w K mg) : Met P w K mg base 3 "Stand" "can_do" ["self", "thing"] (spP K preCanDo) := by
  refine met_Stand_can_do T fun f fd F => pure_ok F sc_Stand_can_do ?_ fun cdv A outer s H σ Q E B ds r hr hp h k => ?_
  · rintro ds r ⟨n, R, Ts, sd, x, _, _, rfl, rfl⟩
    rfl
  · obtain ⟨n, R, Ts, sd, x, fit, okx, rfl, rfl⟩ := hp
    refine ⟨_, (pss_cons (ps_if (PW.pt (pw_or (pt_not (pt_val (pe_cal (c_is_row T) (hr.mono (by decide)) (by rfl) (pa_cons (pv 1) pa_nil)))) (pw_or (pt_cmpR op_lt (pe_callB call_lenQ (by rfl) T.f_len PySem.boot_len (pa_cons (pv 1) pa_nil)) pe_int (nomark _)) (pw_or (pt_not (pt_val (pe_callB call_isi (by rfl) T.f_isinstance (by decide +kernel) (pa_cons (pe_ix ix_tup (pv 1) pe_int (fun _ _ => rfl)) (pa_cons (pe_bltn (v := .ty "str") (by rfl) T.f_str (by decide +kernel) rfl) pa_nil))))) (pw_or1 (pt_cmpR op_ne (pe_kget T.d_SIZES (pe_glob (v := .ref (He.ga K "SIZES")) (by rfl) T.g_SIZES rfl) (pe_ix ix_tup (pv 1) pe_int (fun _ _ => rfl))) (pe_callB call_lenQ (by rfl) T.f_len PySem.boot_len (pa_cons (pv 1) pa_nil)) (nomark _))))))) (pss_one (ps_ret pe_bl)) pss_nil)
    (pss_cons (ps_if (pt_not (pt_val (pe_cal (c_is_upto T) (hr.mono (by decide)) (by rfl) (pa_cons (pe_ix ix_tup (pv 1) pe_int (fun _ _ => rfl)) (pa_cons (pe_op op_sub (pe_callB call_lenQ (by rfl) T.f_len PySem.boot_len (pa_cons (pe_fld (pv 0) rfl) pa_nil)) pe_int) pa_nil))))) (pss_one (ps_ret pe_bl)) pss_nil)
    (pss_one (ps_ret (pe_or (pe_cmpR op_eq (pe_callB call_lenQ (by rfl) T.f_len PySem.boot_len (pa_cons (pv 1) pa_nil)) pe_int (nomark _)) (pe_one (pe_met (t_Stand_can_go T) (hr.mono (by decide)) (pv 0) (pa_cons (pe_ix ix_tup (pv 1) pe_int (fun _ _ => rfl)) (pa_cons (pe_ix ix_tup (pv 1) pe_int (fun _ _ => rfl)) (pa_cons (pe_ix ix_tup (pv 1) pe_int (fun _ _ => rfl)) pa_nil)))))))))), ?_⟩
    have hd := okDeed_dev okx
    have e0 : atI (Dt.str x.wd :: .int (x.dev : Int) :: x.ends) (0 : Int) = some (.str x.wd) := atN (i := 0) rfl
    have e1 : atI (Dt.str x.wd :: .int (x.dev : Int) :: x.ends) (1 : Int) = some (.int (x.dev : Int)) := atN (i := 1) rfl
    have hup : decide (0 ≤ (x.dev : Int) ∧ (x.dev : Int) ≤ (((Ts.map tbDt).length : Nat) : Int) - 1) = true := decide_eq_true ⟨by omega, by rw [List.length_map]; omega⟩
    obtain ⟨u, hu, ru⟩ := T.t_SIZES x.size
    have ln : (Dt.str x.wd :: .int (x.dev : Int) :: x.ends).length = 2 + x.ends.length := by
      rw [List.length_cons, List.length_cons]
      omega
    rw [Deed.dt_eq] at h
    apply qd_no h
    · refine Xt.is (xb_or (a := false) (b := false) (Xt.is (xb_not (a := true) (xb_B (x_call (xad_cons (x_var rfl) xa_nil) (by exact ⟨_, _, rfl, .inr rfl, rfl⟩)))) rfl) fun _ => Xt.is (xb_or (a := false) (b := false) (Xt.is (xb_test (xd_op (xd_cb (xad_cons (x_var rfl) xa_nil) rc_lenT) x_int rv_cmp)) (decide_eq_false (by rw [ln]; omega))) fun _ => Xt.is (xb_or (a := false) (b := false) (Xt.is (xb_not (a := true) (xb_B (xd_cb (xad_cons (xd_op (x_var rfl) x_int (rv_ixT e0)) (xad_cons x_ty xa_nil)) (rc_isi rfl (by decide +kernel))))) rfl) fun _ => Xt.is (xb_test (xd_op (x_kget (d := .int ((2 + x.ends.length : Nat) : Int)) (xd_op (x_var rfl) x_int (rv_ixT e0)) hu ru fun _ => rfl) (xd_cb (xad_cons (x_var rfl) xa_nil) rc_lenT) rv_neI)) (by rw [ln, decide_eq_true rfl]; rfl)) rfl) rfl) rfl
    intro H1 h
    apply qd_no h
    · refine Xt.is (xb_not (a := true) (xb_B (Xe.is (x_call (xad_cons (xd_op (x_var rfl) x_int (rv_ixT e1)) (xad_cons (xd_op (xd_cb (xad_cons (x_fld T.c_Stand T.n_Stand_tables (x_var rfl) (d := .lst (Ts.map tbDt)) rfl) xa_nil) rc_lenL) x_int rv_int) xa_nil)) (by exact ⟨_, _, rfl, rfl⟩)) (congrArg Dt.bl hup)))) rfl
    intro H2 h
    apply ed_ret h k
    cases x with
    | go rd d e =>
      have a2 : Xa (pureM K B) [some (sdDt R Ts sd), some (Deed.go rd d e).dt] (tCons (tOp (rIxT K) (tVar 1) (tC (.int 0))) (tCons (tOp (rIxT K) (tVar 1) (tC (.int 1))) (tCons (tOp (rIxT K) (tVar 1) (tC (.int 2))) tNil))) (· = [.str (if rd = true then "read" else "jump"), .int (d : Int), .int e]) :=
        xad_cons (xd_op (x_var rfl) x_int (rv_ixT (i := 0) rfl)) (xad_cons (xd_op (x_var rfl) x_int (rv_ixT (i := 1) rfl)) (xad_cons (xd_op (x_var rfl) x_int (rv_ixT (i := 2) rfl)) xa_nil))
      exact Xe.is (x_orV (a := false) (b := true) (Xe.is (xd_op (xd_cb (xad_cons (x_var rfl) xa_nil) rc_lenT) x_int rv_eqI) rfl) fun _ => x_meth (pre := preCanGo) (x_var (d := sdDt R Ts sd) rfl) (by decide +kernel) a2 ⟨n, R, Ts, sd, rd, d, e, fit, okx, rfl, rfl⟩) rfl
    | anew d => exact Xe.is (x_orV (a := true) (b := true) (Xe.is (xd_op (xd_cb (xad_cons (x_var rfl) xa_nil) rc_lenT) x_int rv_eqI) rfl) fun e => by cases e) rfl
    | give d => exact Xe.is (x_orV (a := true) (b := true) (Xe.is (xd_op (xd_cb (xad_cons (x_var rfl) xa_nil) rc_lenT) x_int rv_eqI) rfl) fun e => by cases e) rfl
    | take d => exact Xe.is (x_orV (a := true) (b := true) (Xe.is (xd_op (xd_cb (xad_cons (x_var rfl) xa_nil) rc_lenT) x_int rv_eqI) rfl) fun e => by cases e) rfl
/-- a list's length keeps what is put onto it within bounds -/
def preFau (ds : List Dt) (rs : List Dt) : Prop := ∃ n R T s d bf, Fit n R T s ∧ d < T.length ∧ ds = [sdDt R T s, .int (d : Int), .int bf] ∧ rs = (takeF (tg T d) s bf (sg s.spots d)).map .str
theorem t_Stand_faults_of_take (T : Txt w K mg) : Met P w K mg base 2 "Stand" "faults_of_take" ["self", "device", "before"] (spF K preFau) := by
  refine met_Stand_faults_of_take T fun f fd F => new_ok F sc_Stand_faults_of_take ?_ fun cdv A outer s H σ Q E B ds r hr hp h k => ?_
  · rintro ds r ⟨n, R, Ts, sd, d, bf, _, _, rfl, rfl⟩
    rfl
  · obtain ⟨n, R, Ts, sd, d, bf, fit, hd, rfl, rfl⟩ := hp
    have hs : d < sd.spots.length := by rw [fit.w.sp]; exact hd
    refine ⟨_, (pss_cons (ps_par (i := 3) (j := 4) rfl sc_Stand_faults_of_take.nd rfl rfl (by decide) rfl rfl (pa_cons (pe_lst pa_nil) (pa_cons (pe_ix ix_list (pe_fld (pv 0) rfl) (pv 1) (fun _ _ => rfl)) pa_nil)) (by rfl))
    (pss_cons (ps_if (pt_cmpR op_lt (pv 4) (pv 2) (nomark _)) (pss_one (ps_expr (pe_bm PySem.F.plainAttrs_list PySem.F.slot_list_append PySem.F.type_list_append mt_append (pv 3) (pa_cons pe_str pa_nil)))) pss_nil)
    (pss_cons (ps_if (PW.pt (pw_and (pt_cmpR op_ne (pv 4) (pv 2) (nomark _)) (pw_and1 (pt_cmpR op_gt (pv 4) (pe_fld (pv 0) rfl) (nomark _))))) (pss_one (ps_expr (pe_bm PySem.F.plainAttrs_list PySem.F.slot_list_append PySem.F.type_list_append mt_append (pv 3) (pa_cons pe_str pa_nil)))) pss_nil)
    (pss_cons (ps_if (PW.pt (pw_and (pt_cmpR op_ne (pv 4) (pv 2) (nomark _)) (pw_and1 (pt_cmpR op_notIn_seq (pv 4) (pe_lc (own := [("one", 5)]) rfl sc_Stand_faults_of_take.nd (pi_list (pe_fld (pv 0) rfl)) (blkOk_by (by kernel_rfl)) (fun _ _ _ _ _ => (pg_name (i := 5) sc_Stand_faults_of_take.nd rfl (Or.inl rfl))) (fun _ _ _ _ _ => pts_nil) (fun _ _ _ _ _ => (pe_metK K (t_Stand_kernel T) (hr.mono (by decide)) (pv 0) (pa_cons (pv 1) (pa_cons (pv 5) pa_nil))))) rfl)))) (pss_one (ps_expr (pe_bm PySem.F.plainAttrs_list PySem.F.slot_list_append PySem.F.type_list_append mt_append (pv 3) (pa_cons pe_str pa_nil)))) pss_nil)
    (pss_one (ps_ret (pv 3))))))), ?_⟩
    refine q_par0 (P := (· = .int (sg sd.spots d))) h (fun p => xd_op (x_fld T.c_Stand T.n_Stand_spots (x_var rfl) (d := .lst (sd.spots.map .int)) rfl) (x_var rfl) (rv_ixL (at_sg hs))) fun p d' σ1 H1 e h => ?_
    subst e
    generalize hpl : sg sd.spots d = pl at h
    have h' : Sg ((pureM K B).bld p []) H [] [some (sdDt R Ts sd), some (.int (d : Int)), some (.int bf), some (.raw p), some (.int pl), none] σ1 H1 := h
    let F1 : List Str := if pl < bf then ["back"] else []
    let F2 : List Str := if pl ≠ bf ∧ pl > sd.row then ["ahead"] else []
    let F3 : List Str := if pl ≠ bf ∧ pl ∉ sd.come.map (kern (tg Ts d)) then ["nobody"] else []
    have l1 : F1.length ≤ 1 := by show (if pl < bf then [("back" : Str)] else []).length ≤ 1; split <;> simp
    have l2 : F2.length ≤ 1 := by show (if pl ≠ bf ∧ pl > sd.row then [("ahead" : Str)] else []).length ≤ 1; split <;> simp
    refine q_join (f := decide (pl < bf)) ((pureM K B).bld p (F1.map .str)) [some (sdDt R Ts sd), some (.int (d : Int)), some (.int bf), some (.raw p), some (.int pl), none] h' (xb_test (xd_op (x_var rfl) (x_var rfl) rv_cmp)) (fun σ2 H2 h => ?_) (fun k2 c H2 h => ?_) fun c H2 h => ?_
    · refine q_join (f := decide (pl ≠ bf ∧ pl > sd.row)) ((pureM K B).bld p ((F1 ++ F2).map .str)) [some (sdDt R Ts sd), some (.int (d : Int)), some (.int bf), some (.raw p), some (.int pl), none] h ?_ (fun σ3 H3 h => ?_) (fun k3 c H3 h => ?_) fun c H3 h => ?_
      · refine Xt.is (xb_and (b := decide (pl > sd.row)) (xb_test (xd_op (x_var rfl) (x_var rfl) rv_neI)) fun _ => xb_test (xd_op (x_var rfl) (x_fld T.c_Stand T.n_Stand_row (x_var rfl) (d := .int sd.row) rfl) rv_cmp)) ?_
        by_cases c1 : pl = bf <;> by_cases c2 : pl > sd.row <;> simp [c1, c2]
      · refine q_join (f := decide (pl ≠ bf ∧ pl ∉ sd.come.map (kern (tg Ts d)))) ((pureM K B).bld p ((F1 ++ F2 ++ F3).map .str)) [some (sdDt R Ts sd), some (.int (d : Int)), some (.int bf), some (.raw p), some (.int pl), none] h ?_ (fun σ4 H4 h => ?_) (fun k4 c H4 h => ?_) fun c H4 h => ?_
        · refine Xt.is (xb_and (b := !decide (pl ∈ sd.come.map (kern (tg Ts d)))) (xb_test (xd_op (x_var rfl) (x_var rfl) rv_neI)) fun _ => xb_test (xd_op (x_var rfl) (Xe.is (x_lcN (ds := sd.come.map .int) (fun x => match x with | .int v => .int (kern (tg Ts d) v) | _ => .non) (xi_list (x_fld T.c_Stand T.n_Stand_come_to (x_var rfl) (d := .lst (sd.come.map .int)) rfl)).j (fun i x q acc e => ?_) (hz := ?_)) ?_) rv_inLI)) ?_
          · obtain ⟨y, ey, rfl⟩ := map_got e
            have hy : ∀ l, tg Ts d = some l → 0 ≤ y ∧ y < (l.length : Int) := fun l el => by
              have hy := fit.w.cv y (List.mem_of_getElem? ey)
              refine ⟨hy.1, hy.2 l ?_⟩
              rw [← el]
              exact List.mem_of_getElem? (tg_some hd)
            exact x_meth (pre := preKer) (x_var rfl) (by decide +kernel) (xad_cons (x_var rfl) (xad_cons (x_var rfl) xa_nil)) (by exact ⟨R, Ts, sd, d, y, hd, hy, rfl, rfl⟩)
          · rw [List.length_map]
            have := fit.c
            omega
          · rw [List.map_map, List.map_map]
            rfl
          · by_cases c1 : pl = bf <;> by_cases c2 : pl ∈ sd.come.map (kern (tg Ts d)) <;> simp [c1, c2]
        · have eF : takeF (tg Ts d) sd bf pl = F1 ++ F2 ++ F3 := by
            show F1 ++ (F2 ++ F3) = _
            rw [List.append_assoc]
          rw [hpl, eF] at k
          exact k 3 p _ σ4 H4 rfl h
        · apply ed_app h rfl
          · rw [List.length_map, List.length_append]
            omega
          · exact x_str
          · intro H5 h
            refine k4 _ _ ?_
            rw [show F3 = [("nobody" : Str)] from if_pos (of_decide_eq_true c), List.map_append (l₁ := F1 ++ F2)]
            exact h
        · rw [show F3 = [] from if_neg (of_decide_eq_false c), List.append_nil]
          exact h
      · apply ed_app h rfl
        · rw [List.length_map]
          omega
        · exact x_str
        · intro H5 h
          refine k3 _ _ ?_
          rw [show F2 = [("ahead" : Str)] from if_pos (of_decide_eq_true c), List.map_append]
          exact h
      · rw [show F2 = [] from if_neg (of_decide_eq_false c), List.append_nil]
        exact h
    · apply ed_app h rfl
      · decide
      · exact x_str
      · intro H5 h
        refine k2 _ _ ?_
        rw [show F1 = [("back" : Str)] from if_pos (of_decide_eq_true c)]
        exact h
    · rw [show F1 = [] from if_neg (of_decide_eq_false c)]
      exact h
end
end Lf

namespace Lf
open PySem PySem.Spec PyProof.Rows L2
local macro_rules | `(tactic| walk_at "rv") => `(tactic| with_reducible first
  | exact rv_int | exact rv_cmp | exact rv_eqI | exact rv_neI | exact rv_eqS | exact rv_neS | exact rv_eqB | exact rv_neB)
local macro_rules | `(tactic| walk_at "xd") => `(tactic| first
  | (with_reducible first | exact x_int | exact x_str | exact x_bl | exact x_non | exact x_ty | exact x_ref)
  | ((with_reducible apply x_var); exact rfl)
  | ((with_reducible apply xd_op); (walk_at "xd"); (walk_at "xd"); (walk_at "rv"))
  | ((with_reducible apply xd_if); (walk_at "xb"); (intro _; walk_at "xd"); (intro _; walk_at "xd"))
  | ((with_reducible apply xd_tup); (walk_at "xa"); (first | decide | assumption | omega))
  | ((with_reducible apply xd_lst); (walk_at "xa"); (first | decide | assumption | omega)))
local macro_rules | `(tactic| walk_at "xb") => `(tactic| first
  | ((with_reducible apply xb_test); (walk_at "xd"))
  | ((with_reducible apply xb_B); (walk_at "xd"))
  | ((with_reducible apply xb_and); (walk_at "xb"); (intro _; walk_at "xb"))
  | ((with_reducible apply xb_or); (walk_at "xb"); (intro _; walk_at "xb"))
  | ((with_reducible apply xb_not); (walk_at "xb")))
local macro_rules | `(tactic| walk_at "xa") => `(tactic| first
  | (with_reducible exact xa_nil)
  | ((with_reducible apply xad_cons); (walk_at "xd"); (walk_at "xa")))

/-! ### what the stand does -/
theorem set_sg {l : List Int} {i : Nat} (h : i < l.length) : l.set i (sg l i) = l := by
  apply List.ext_getElem?
  intro j
  by_cases z : i = j
  · subst z
    rw [List.getElem?_set_self h, sg_some h]
  · rw [List.getElem?_set_ne z]
section
variable {P : Program} {w : World} {K : PySem.W.Frag} {mg : Str → Option Value} {base : Heap}
def preStamp (R : Rl) (T : List Tb) (s : Sd) (ds : List Dt) (s' : Sd) (r : Dt) : Prop := ∃ d : Nat, d < s.stamps.length ∧ ds = [.int (d : Int)] ∧ s' = { s with stamps := stamped s.stamps d } ∧ r = .non
theorem t_Stand_stamp (T : Txt w K mg) : Met P w K mg base 3 "Stand" "stamp" ["self", "device"] (spU K preStamp) := by
  refine met_Stand_stamp T fun f fd F => upd_ok F sc_Stand_stamp ?_ fun cdv Ar outer sh H0 H σ Q E B A R Ts s ds s' r hr hp h k => ?_
  · rintro R Ts s ds s' r ⟨d, _, rfl, rfl, rfl⟩
    rfl
  · obtain ⟨d, hd, rfl, rfl, rfl⟩ := hp
    refine ⟨_, (pss_one (ps_asg (pe_op op_add pe_int (pe_met0 (t_Stand_latest_stamp T) (hr.mono (by decide)) (pv 0))) (pg_sub (pe_fld (pv 0) rfl) (pv 1) set_list))), ?_⟩
    refine e_setStamp (idxN hd) (xd_op x_int (x_qry HasO.own rfl (by decide +kernel) xa_nil (pre := preLat) (by exact ⟨_, _, _, rfl, rfl⟩) flat_int) rv_int) (x_sdStamps T.c_Stand T.n_Stand_stamps HasO.own rfl) (x_var rfl) h fun H' h => ?_
    exact k A .non H' rfl h.ok h.fr rfl
def preGo (R : Rl) (T : List Tb) (s : Sd) (ds : List Dt) (s' : Sd) (r : Dt) : Prop := ∃ n rd d e, Fit n R T s ∧ okDeed T s (.go rd d e) ∧ ds = [.str (if rd = true then "read" else "jump"), .int (d : Int), .int e] ∧ s' = goM R rd d e s ∧ r = .non
theorem ms_at {A : Adr} {s : Sd} {H : Hp} (h : SdIn K A s H) {d : Nat} (hd : d < s.held.length) : ∃ m, A.ms[d]? = some m := ⟨A.ms[d]'(by rw [h.ml]; exact hd), List.getElem?_eq_getElem _⟩
theorem t_Stand_go (T : Txt w K mg) : Met P w K mg base 4 "Stand" "go" ["self", "word", "device", "end"] (spU K preGo) := by
  refine met_Stand_go T fun f fd F => upd_ok F sc_Stand_go ?_ fun cdv Ar outer sh H0 H σ Q E B A R Ts s ds s' r hr hp h k => ?_
  · rintro R Ts s ds s' r ⟨n, rd, d, e, _, _, rfl, rfl, rfl⟩
    rfl
  · obtain ⟨n, rd, d, e, fit, ⟨hd, e0, hrd, ht⟩, rfl, rfl, rfl⟩ := hp
    have hs : d < s.spots.length := by rw [fit.w.sp]; exact hd
    have hh : d < s.held.length := by rw [fit.w.hl]; omega
    have hst : d < s.stamps.length := by rw [fit.w.st]; omega
    obtain ⟨m, em⟩ := ms_at (HasO.at HasO.own h.ok).1 hh
    have f3 := fit.r.2
    refine ⟨_, (pss_cons (ps_par (i := 4) (j := 5) rfl sc_Stand_go.nd rfl rfl (by decide) rfl rfl (pa_cons (pe_ix ix_list (pe_fld (pv 0) rfl) (pv 2) (fun _ _ => rfl)) (pa_cons (pe_ifExp (pt_cmpR op_eq (pv 1) pe_str (nomark _)) pe_int pe_int) pa_nil)) (by rfl))
    (pss_cons (ps_for PassesOwn.never rfl (pi_enum (by rfl) T.f_enumerate (pa_cons (pe_fld (pe_fld (pv 0) rfl) rfl) pa_nil)) (pg_tup rfl (pgs_cons (pg_name (i := 6) sc_Stand_go.nd rfl (Or.inl rfl)) (pgs_cons (pg_name (i := 7) sc_Stand_go.nd rfl (Or.inl rfl)) pgs_nil))) (pss_one (ps_asg (pe_cal (c_moved_value T) (hr.mono (by decide)) (by rfl) (pa_cons (pe_ix ix_tup (pv 7) (pv 5) (fun _ _ => rfl)) (pa_cons (pe_ix ix_list (pe_ix ix_list (pe_fld (pv 0) rfl) (pv 2) (fun _ _ => rfl)) (pv 6) (fun _ _ => rfl)) (pa_cons (pv 4) (pa_cons (pv 3) pa_nil))))) (pg_sub (pe_ix ix_list (pe_fld (pv 0) rfl) (pv 2) (fun _ _ => rfl)) (pv 6) set_list))))
    (pss_cons (ps_asg (pv 3) (pg_sub (pe_fld (pv 0) rfl) (pv 2) set_list))
    (pss_cons (ps_expr (pe_met (t_Stand_stamp T) (hr.mono (by decide)) (pv 0) (pa_cons (pv 2) pa_nil)))
    (pss_cons (ps_if (pt_cmpR op_notIn_seq (pv 3) (pe_fld (pv 0) rfl) rfl) (pss_one (ps_expr (pe_bm PySem.F.plainAttrs_list PySem.F.slot_list_append PySem.F.type_list_append mt_append (pe_fld (pv 0) rfl) (pa_cons (pv 3) pa_nil)))) pss_nil)
    (pss_one (ps_if (pt_cmpR op_eq (pv 1) pe_str (nomark _)) (pss_cons (ps_fld (pv 0) (pe_cal (c_greater T) (hr.mono (by decide)) (by rfl) (pa_cons (pe_fld (pv 0) rfl) (pa_cons (pv 3) pa_nil))) rfl)
    (pss_one (ps_if (pt_cmpR op_le (pv 4) (pe_fld (pv 0) rfl) (nomark _)) (pss_one (ps_fld (pv 0) (pe_cal (c_greater T) (hr.mono (by decide)) (by rfl) (pa_cons (pe_fld (pv 0) rfl) (pa_cons (pv 3) pa_nil))) rfl)) pss_nil))) pss_nil))))))), ?_⟩
    have at5 : (if decide ((if rd = true then ("read" : Str) else "jump") = "read") = true then Dt.int 1 else Dt.int 2) = .int (if rd = true then 1 else 2) := by cases rd <;> rfl
    apply qd_par (d := .int (sg s.spots d)) (e := .int (if rd = true then 1 else 2)) h
    · refine xad_cons (xl_ix (xl_sdSpots HasO.own (x_sdSpots T.c_Stand T.n_Stand_spots HasO.own rfl)) (x_var rfl) (at_sg hs)) (xad_cons (Xe.is (xd_if (xb_test (xd_op (x_var rfl) x_str rv_eqS)) (fun _ => x_int) fun _ => x_int) at5) xa_nil)
    intro σ1 H1 h
    let Fn : Fd → Nat → Int := fun f i => movedV (if rd = true then f.rd else f.jp) (sg (hg s.held d) i) (sg s.spots d) e
    let nm := mkM R.fs Fn
    have hm : hg s.held d ∈ s.held := List.mem_of_getElem? (hg_some hh)
    have ln : nm.length = (hg s.held d).length := by rw [fit.w.mw _ hm]; exact mkM_len _ _
    have lm : (hg s.held d).length = R.fs.length := fit.w.mw _ hm
    have h' : Sg ((pureM K B).own (sdO K A R Ts (sdH s d (mixM nm (hg s.held d) 0)))) H0 [] [some (.raw A.p), some (.str (if rd = true then "read" else "jump")), some (.int (d : Int)), some (.int e), some (.int (sg s.spots d)), some (.int (if rd = true then 1 else 2)), none, none] σ1 H1 := by
      rw [mix_zero, sdH_self hh]
      exact h
    refine q_forE (fun i => (pureM K B).own (sdO K A R Ts (sdH s d (mixM nm (hg s.held d) i)))) (fun _ => [some (.raw A.p), some (.str (if rd = true then "read" else "jump")), some (.int (d : Int)), some (.int e), some (.int (sg s.spots d)), some (.int (if rd = true then 1 else 2)), none, none]) h' (xi_enum (x_fld T.c_Rule T.n_Rule_parts (x_sdRule T.c_Stand T.n_Stand_rule HasO.own rfl) rfl)) (fun i x L' σ' H' ex h => ?_) fun σ' H' h => ?_
    · obtain ⟨fl, ef, rfl⟩ := map_got ex
      have hi : i < (hg s.held d).length := by rw [lm]; exact (List.getElem?_eq_some_iff.mp ef).1
      have lx : (mixM nm (hg s.held d) i).length = (hg s.held d).length := mix_len ln
      have el := sdH_get (l := mixM nm (hg s.held d) i) hh
      have e7 : atI [Dt.str fl.nm, .str fl.rd, .str fl.jp, .str fl.an, .str fl.gv, .str fl.tk, .str fl.kp] (if rd = true then (1 : Int) else 2) = some (.str (if rd = true then fl.rd else fl.jp)) := by cases rd <;> rfl
      refine e_setMark (e := sg nm i) em el (by omega) (Xe.is (x_call (xad_cons (xd_op (x_var rfl) (x_var rfl) (rv_ixT e7)) (xad_cons (xl_ix (xl_sdMark HasO.own (x_sdMark HasO.own (x_sdHeld T.c_Stand T.n_Stand_held HasO.own rfl) (x_var rfl) (atI_nat em)) em el) (x_var rfl) (at_sg (by omega))) (xad_cons (x_var rfl) (xad_cons (x_var rfl) xa_nil)))) (by exact ⟨_, _, _, _, rfl, rfl⟩)) ?_) (x_sdMark HasO.own (x_sdHeld T.c_Stand T.n_Stand_held HasO.own rfl) (x_var rfl) (atI_nat em)) (x_var rfl) h fun H2 h => ?_
      · rw [mix_get ln hi, show sg nm i = Fn fl i from mkM_get ef]
      · rw [sdH_sdH, mix_set ln hi] at h
        exact h.weak (by repeat (first | exact GLe.nil | apply GLe.keep | apply GLe.drop))
    · have hE : (R.fs.map Fd.dt).length = (hg s.held d).length := by rw [List.length_map, lm]
      rw [hE, mix_all ln] at h
      refine q_setSpot (s := sdH s d nm) (e := e) (d := d) hs (x_var rfl) (x_sdSpots T.c_Stand T.n_Stand_spots HasO.own rfl) (x_var rfl) h fun H2 h => ?_
      refine q_updD (pre := preStamp) rfl (by decide +kernel) h (xad_cons (x_var rfl) xa_nil) ⟨d, hst, rfl, rfl, rfl⟩ fun A' H3 ep h => ?_
      let s3 : Sd := { sdH s d nm with spots := s.spots.set d e, stamps := stamped s.stamps d }
      have h : Sg ((pureM K B).own (sdO K A' R Ts s3)) H0 [] [some (.raw A'.p), some (.str (if rd = true then "read" else "jump")), some (.int (d : Int)), some (.int e), some (.int (sg s.spots d)), some (.int (if rd = true then 1 else 2)), none, none] σ' H3 := by rw [ep]; exact h
      let s4 : Sd := { s3 with come := if e ∈ s.come then s.come else s.come ++ [e] }
      refine q_join (f := decide (e ∉ s.come)) ((pureM K B).own (sdO K A' R Ts s4)) [some (.raw A'.p), some (.str (if rd = true then "read" else "jump")), some (.int (d : Int)), some (.int e), some (.int (sg s.spots d)), some (.int (if rd = true then 1 else 2)), none, none] h ?_ (fun σ4 H4 h => ?_) (fun k4 c H4 h => ?_) fun c H4 h => ?_
      · refine Xt.is (xb_test (xl_inI (x_var rfl) (xl_sdCome HasO.own (x_sdCome T.c_Stand T.n_Stand_come_to HasO.own rfl)))) ?_
        show (!decide (e ∈ s.come)) = _
        by_cases c : e ∈ s.come <;> simp [c]
      · cases rd with
        | false =>
          refine ed_when (f := false) h (Xt.is (xb_test (xd_op (x_var rfl) x_str rv_eqS)) (decide_eq_false (by decide))) (fun e => by cases e) fun _ H5 h => ?_
          exact k A' .non H5 ep h.ok h.fr rfl
        | true =>
          refine ed_when (f := true) h (Xt.is (xb_test (xd_op (x_var rfl) x_str rv_eqS)) (decide_eq_true rfl)) (fun _ H5 h => ?_) fun e => by cases e
          refine q_setTop (e := gr s.top e) T.c_Stand T.n_Stand_top rfl (x_call (xad_cons (x_sdTop T.c_Stand T.n_Stand_top HasO.own rfl) (xad_cons (x_var rfl) xa_nil)) (by exact ⟨_, _, rfl, rfl⟩)) h fun H6 h => ?_
          refine ed_when (f := decide (sg s.spots d ≤ s.row)) h (xb_test (xd_op (x_var rfl) (x_sdRow T.c_Stand T.n_Stand_row HasO.own rfl) rv_cmp)) (fun c H7 h => ?_) fun c H7 h => ?_
          · refine e_setRow (e := gr s.row e) T.c_Stand T.n_Stand_row rfl (x_call (xad_cons (x_sdRow T.c_Stand T.n_Stand_row HasO.own rfl) (xad_cons (x_var rfl) xa_nil)) (by exact ⟨_, _, rfl, rfl⟩)) h fun H8 h => ?_
            have eq : goM R true d e s = { s4 with top := gr s.top e, row := gr s.row e } := by
              show Sd.mk _ _ _ (if true = true ∧ sg s.spots d ≤ s.row then gr s.row e else s.row) _ _ = _
              rw [if_pos ⟨rfl, of_decide_eq_true c⟩]
              rfl
            rw [eq] at k
            exact k A' .non H8 ep h.ok h.fr rfl
          · have eq : goM R true d e s = { s4 with top := gr s.top e } := by
              show Sd.mk _ _ _ (if true = true ∧ sg s.spots d ≤ s.row then gr s.row e else s.row) _ _ = _
              rw [if_neg fun z => of_decide_eq_false c z.2]
              rfl
            rw [eq] at k
            exact k A' .non H7 ep h.ok h.fr rfl
      · refine e_addCome (e := e) (by have := fit.c; show s.come.length < 100000; omega) (x_sdCome T.c_Stand T.n_Stand_come_to HasO.own rfl) (x_var rfl) h fun H5 h => k4 _ _ ?_
        have eq : s4 = { s3 with come := s.come ++ [e] } := by
          show { s3 with come := if e ∈ s.come then s.come else s.come ++ [e] } = _
          rw [if_neg (of_decide_eq_true c)]
        rw [eq]
        exact h
      · have eq : s4 = s3 := by
          show { s3 with come := if e ∈ s.come then s.come else s.come ++ [e] } = _
          rw [if_pos (Classical.not_not.mp (of_decide_eq_false c))]
          rfl
        rw [eq]
        exact h
def preDev (step : Rl → List Tb → Nat → Sd → Sd) (R : Rl) (T : List Tb) (s : Sd) (ds : List Dt) (s' : Sd) (r : Dt) : Prop := ∃ n d, Fit n R T s ∧ RlOk R ∧ d < T.length ∧ ds = [.int (d : Int)] ∧ s' = step R T d s ∧ r = .non
theorem t_Stand_anew (T : Txt w K mg) : Met P w K mg base 4 "Stand" "anew" ["self", "device"] (spU K (preDev fun R _ d s => anewM R d s)) := by
  refine met_Stand_anew T fun f fd F => upd_ok F sc_Stand_anew ?_ fun cdv Ar outer sh H0 H σ Q E B A R Ts s ds s' r hr hp h k => ?_
  · rintro R Ts s ds s' r ⟨n, d, _, _, _, rfl, rfl, rfl⟩
    rfl
  · obtain ⟨n, d, fit, _, hd, rfl, rfl, rfl⟩ := hp
    have hs : d < s.spots.length := by rw [fit.w.sp]; exact hd
    have hh : d < s.held.length := by rw [fit.w.hl]; omega
    have hst : d < s.stamps.length := by rw [fit.w.st]; omega
    obtain ⟨m, em⟩ := ms_at (HasO.at HasO.own h.ok).1 hh
    refine ⟨_, (pss_cons (ps_for PassesOwn.never rfl (pi_enum (by rfl) T.f_enumerate (pa_cons (pe_fld (pe_fld (pv 0) rfl) rfl) pa_nil)) (pg_tup rfl (pgs_cons (pg_name (i := 2) sc_Stand_anew.nd rfl (Or.inl rfl)) (pgs_cons (pg_name (i := 3) sc_Stand_anew.nd rfl (Or.inl rfl)) pgs_nil))) (pss_one (ps_if (pt_cmpR op_eq (pe_ix ix_tup (pv 3) pe_int (fun _ _ => rfl)) pe_str (nomark _)) (pss_one (ps_asg pe_int (pg_sub (pe_ix ix_list (pe_fld (pv 0) rfl) (pv 1) (fun _ _ => rfl)) (pv 2) set_list))) pss_nil)))
    (pss_cons (ps_asg pe_int (pg_sub (pe_fld (pv 0) rfl) (pv 1) set_list))
    (pss_cons (ps_expr (pe_met (t_Stand_stamp T) (hr.mono (by decide)) (pv 0) (pa_cons (pv 1) pa_nil)))
    (pss_cons (ps_fld (pv 0) pe_int rfl)
    (pss_cons (ps_fld (pv 0) pe_int rfl)
    (pss_one (ps_fld (pv 0) (pe_lst (pa_cons pe_int pa_nil)) rfl))))))), ?_⟩
    let Fn : Fd → Nat → Int := fun f i => if f.an = "least" then 0 else sg (hg s.held d) i
    let nm := mkM R.fs Fn
    have hm : hg s.held d ∈ s.held := List.mem_of_getElem? (hg_some hh)
    have ln : nm.length = (hg s.held d).length := by rw [fit.w.mw _ hm]; exact mkM_len _ _
    have lm : (hg s.held d).length = R.fs.length := fit.w.mw _ hm
    have h' : Sg ((pureM K B).own (sdO K A R Ts (sdH s d (mixM nm (hg s.held d) 0)))) H0 [] [some (.raw A.p), some (.int (d : Int)), none, none] σ H := by
      rw [mix_zero, sdH_self hh]
      exact h
    refine q_forE (fun i => (pureM K B).own (sdO K A R Ts (sdH s d (mixM nm (hg s.held d) i)))) (fun _ => [some (.raw A.p), some (.int (d : Int)), none, none]) h' (xi_enum (x_fld T.c_Rule T.n_Rule_parts (x_sdRule T.c_Stand T.n_Stand_rule HasO.own rfl) rfl)) (fun i x L' σ' H' ex h => ?_) fun σ' H' h => ?_
    · obtain ⟨fl, ef, rfl⟩ := map_got ex
      have hi : i < (hg s.held d).length := by rw [lm]; exact (List.getElem?_eq_some_iff.mp ef).1
      have lx : (mixM nm (hg s.held d) i).length = (hg s.held d).length := mix_len ln
      have el := sdH_get (l := mixM nm (hg s.held d) i) hh
      have eF : sg nm i = Fn fl i := mkM_get ef
      refine ed_when (f := decide (fl.an = "least")) h (xb_test (xd_op (xd_op (x_var rfl) x_int (rv_ixT (i := 3) rfl)) x_str rv_eqS)) (fun c H2 h => ?_) fun c H2 h => ?_
      · have e0 : sg nm i = 0 := eF.trans (if_pos (of_decide_eq_true c))
        refine e_setMark (e := 0) em el (by omega) x_int (x_sdMark HasO.own (x_sdHeld T.c_Stand T.n_Stand_held HasO.own rfl) (x_var rfl) (atI_nat em)) (x_var rfl) h fun H3 h => ?_
        rw [sdH_sdH, ← e0, mix_set ln hi] at h
        exact h.weak (by repeat (first | exact GLe.nil | apply GLe.keep | apply GLe.drop))
      · have e0 : sg nm i = sg (hg s.held d) i := eF.trans (if_neg (of_decide_eq_false c))
        have eq : mixM nm (hg s.held d) (i + 1) = mixM nm (hg s.held d) i := by
          rw [← mix_set ln hi, e0, ← mix_get ln hi]
          exact set_sg (by omega)
        rw [eq]
        exact h.weak (by repeat (first | exact GLe.nil | apply GLe.keep | apply GLe.drop))
    · have hE : (R.fs.map Fd.dt).length = (hg s.held d).length := by rw [List.length_map, lm]
      rw [hE, mix_all ln] at h
      refine q_setSpot (s := sdH s d nm) (e := 0) (d := d) hs x_int (x_sdSpots T.c_Stand T.n_Stand_spots HasO.own rfl) (x_var rfl) h fun H2 h => ?_
      let s3 : Sd := { sdH s d nm with spots := s.spots.set d 0, stamps := stamped s.stamps d }
      refine q_updD (pre := preStamp) rfl (by decide +kernel) h (xad_cons (x_var rfl) xa_nil) ⟨d, hst, rfl, rfl, rfl⟩ fun A' H3 ep h => ?_
      have h : Sg ((pureM K B).own (sdO K A' R Ts s3)) H0 [] [some (.raw A'.p), some (.int (d : Int)), none, none] σ' H3 := by rw [ep]; exact h
      refine q_setRow (e := 0) T.c_Stand T.n_Stand_row rfl x_int h fun H4 h => ?_
      refine q_setTop (e := 0) T.c_Stand T.n_Stand_top rfl x_int h fun H5 h => ?_
      refine e_newCome T.c_Stand T.n_Stand_come_to rfl h fun A2 H6 ep2 h => ?_
      exact k A2 .non H6 (ep2.trans ep) h.ok h.fr rfl
theorem t_Stand_give (T : Txt w K mg) : Met P w K mg base 3 "Stand" "give" ["self", "device"] (spU K (preDev fun R T d s => giveM R T.length d s)) := by
  refine met_Stand_give T fun f fd F => upd_ok F sc_Stand_give ?_ fun cdv Ar outer sh H0 H σ Q E B A R Ts s ds s' r hr hp h k => ?_
  · rintro R Ts s ds s' r ⟨n, d, _, _, _, rfl, rfl, rfl⟩
    rfl
  · obtain ⟨n, d, fit, _, hd, rfl, rfl, rfl⟩ := hp
    have hh : d < s.held.length := by rw [fit.w.hl]; omega
    have hN : Ts.length < s.held.length := by rw [fit.w.hl]; omega
    have hst : d < s.stamps.length := by rw [fit.w.st]; omega
    have hsN : Ts.length < s.stamps.length := by rw [fit.w.st]; omega
    have ne : Ts.length ≠ d := by omega
    obtain ⟨m, em⟩ := ms_at (HasO.at HasO.own h.ok).1 hh
    obtain ⟨mS, eS⟩ := ms_at (HasO.at HasO.own h.ok).1 hN
    have lA : A.ms.length = Ts.length + 1 := by rw [(HasO.at HasO.own h.ok).1.ml, fit.w.hl]
    have aS : atI A.ms (-1) = some mS := at_lastA lA eS
    refine ⟨_, (pss_cons (ps_set (i := 2) sc_Stand_give.nd rfl (Or.inl rfl) (pe_ix ix_list (pe_fld (pv 0) rfl) (pe_un un_neg pe_int) (fun _ _ => rfl)))
    (pss_cons (ps_set (i := 3) sc_Stand_give.nd rfl (Or.inl rfl) (pe_cmpR op_gt (pe_ix ix_list (pe_fld (pv 0) rfl) (pv 1) (fun _ _ => rfl)) (pe_ix ix_list (pe_fld (pv 0) rfl) (pe_un un_neg pe_int) (fun _ _ => rfl)) (nomark _)))
    (pss_cons (ps_for PassesOwn.never rfl (pi_enum (by rfl) T.f_enumerate (pa_cons (pe_fld (pe_fld (pv 0) rfl) rfl) pa_nil)) (pg_tup rfl (pgs_cons (pg_name (i := 4) sc_Stand_give.nd rfl (Or.inl rfl)) (pgs_cons (pg_name (i := 5) sc_Stand_give.nd rfl (Or.inl rfl)) pgs_nil))) (pss_one (ps_asg (pe_cal (c_handed_value T) (hr.mono (by decide)) (by rfl) (pa_cons (pe_ix ix_tup (pv 5) pe_int (fun _ _ => rfl)) (pa_cons (pe_ix ix_list (pv 2) (pv 4) (fun _ _ => rfl)) (pa_cons (pe_ix ix_list (pe_ix ix_list (pe_fld (pv 0) rfl) (pv 1) (fun _ _ => rfl)) (pv 4) (fun _ _ => rfl)) (pa_cons (pv 3) pa_nil))))) (pg_sub (pv 2) (pv 4) set_list))))
    (pss_one (ps_asg (pe_cal (c_greater T) (hr.mono (by decide)) (by rfl) (pa_cons (pe_ix ix_list (pe_fld (pv 0) rfl) (pe_un un_neg pe_int) (fun _ _ => rfl)) (pa_cons (pe_ix ix_list (pe_fld (pv 0) rfl) (pv 1) (fun _ _ => rfl)) pa_nil))) (pg_sub (pe_fld (pv 0) rfl) (pe_un un_neg pe_int) set_list)))))), ?_⟩
    apply qd_asg (d := .raw mS) h (x_sdMark HasO.own (x_sdHeld T.c_Stand T.n_Stand_held HasO.own rfl) x_neg1 aS)
    intro σ1 H1 h
    let later := decide (sg s.stamps d > sg s.stamps Ts.length)
    apply qd_asg (d := .bl later) h
    · exact xd_op (xl_ix (xl_sdStamps HasO.own (x_sdStamps T.c_Stand T.n_Stand_stamps HasO.own rfl)) (x_var rfl) (at_sg hst)) (xl_ix (xl_sdStamps HasO.own (x_sdStamps T.c_Stand T.n_Stand_stamps HasO.own rfl)) x_neg1 (at_sgL fit.w.st)) rv_cmp
    intro σ2 H2 h
    let Fn : Fd → Nat → Int := fun f i => handV f.gv (sg (hg s.held Ts.length) i) (sg (hg s.held d) i) later
    let nm := mkM R.fs Fn
    have hm : hg s.held Ts.length ∈ s.held := List.mem_of_getElem? (hg_some hN)
    have hmd : hg s.held d ∈ s.held := List.mem_of_getElem? (hg_some hh)
    have ln : nm.length = (hg s.held Ts.length).length := by rw [fit.w.mw _ hm]; exact mkM_len _ _
    have lm : (hg s.held Ts.length).length = R.fs.length := fit.w.mw _ hm
    have ld : (hg s.held d).length = R.fs.length := fit.w.mw _ hmd
    have h' : Sg ((pureM K B).own (sdO K A R Ts (sdH s Ts.length (mixM nm (hg s.held Ts.length) 0)))) H0 [] [some (.raw A.p), some (.int (d : Int)), some (.raw mS), some (.bl later), none, none] σ2 H2 := by
      rw [mix_zero, sdH_self hN]
      exact h
    refine q_forE (fun i => (pureM K B).own (sdO K A R Ts (sdH s Ts.length (mixM nm (hg s.held Ts.length) i)))) (fun _ => [some (.raw A.p), some (.int (d : Int)), some (.raw mS), some (.bl later), none, none]) h' (xi_enum (x_fld T.c_Rule T.n_Rule_parts (x_sdRule T.c_Stand T.n_Stand_rule HasO.own rfl) rfl)) (fun i x L' σ' H' ex h => ?_) fun σ' H' h => ?_
    · obtain ⟨fl, ef, rfl⟩ := map_got ex
      have hi : i < (hg s.held Ts.length).length := by rw [lm]; exact (List.getElem?_eq_some_iff.mp ef).1
      have lx : (mixM nm (hg s.held Ts.length) i).length = (hg s.held Ts.length).length := mix_len ln
      have el := sdH_get (l := mixM nm (hg s.held Ts.length) i) hN
      have ed : (sdH s Ts.length (mixM nm (hg s.held Ts.length) i)).held[d]? = some (hg s.held d) := (sdH_ne ne).trans (hg_some hh)
      refine e_setMark (e := sg nm i) eS el (by omega) (Xe.is (x_call (xad_cons (xd_op (x_var rfl) x_int (rv_ixT (i := 4) rfl)) (xad_cons (xl_ix (xl_sdMark HasO.own (x_var rfl) eS el) (x_var rfl) (at_sg (by omega))) (xad_cons (xl_ix (xl_sdMark HasO.own (x_sdMark HasO.own (x_sdHeld T.c_Stand T.n_Stand_held HasO.own rfl) (x_var rfl) (atI_nat em)) em ed) (x_var rfl) (at_sg (by omega))) (xad_cons (x_var rfl) xa_nil)))) (by exact ⟨_, _, _, _, rfl, rfl⟩)) ?_) (x_var rfl) (x_var rfl) h fun H3 h => ?_
      · rw [mix_get ln hi, show sg nm i = Fn fl i from mkM_get ef]
      · rw [sdH_sdH, mix_set ln hi] at h
        exact h.weak (by repeat (first | exact GLe.nil | apply GLe.keep | apply GLe.drop))
    · have hE : (R.fs.map Fd.dt).length = (hg s.held Ts.length).length := by rw [List.length_map, lm]
      rw [hE, mix_all ln] at h
      have lst : s.stamps.length = Ts.length + 1 := fit.w.st
      refine e_setStamp (s := sdH s Ts.length nm) (d := Ts.length) (z := -1) (e := gr (sg s.stamps Ts.length) (sg s.stamps d)) ?_ (x_call (xad_cons (xl_ix (xl_sdStamps HasO.own (x_sdStamps T.c_Stand T.n_Stand_stamps HasO.own rfl)) x_neg1 (at_sgL fit.w.st)) (xad_cons (xl_ix (xl_sdStamps HasO.own (x_sdStamps T.c_Stand T.n_Stand_stamps HasO.own rfl)) (x_var rfl) (at_sg hst)) xa_nil)) (by exact ⟨_, _, rfl, rfl⟩)) (x_sdStamps T.c_Stand T.n_Stand_stamps HasO.own rfl) x_neg1 h fun H3 h => ?_
      · show ixN s.stamps.length (-1) = _
        rw [idx_last (by omega), lst]
        rfl
      · exact k A .non H3 rfl h.ok h.fr rfl
end
end Lf

namespace Lf
open PySem PySem.Spec PyProof.Rows L2
local macro_rules | `(tactic| walk_at "rv") => `(tactic| with_reducible first
  | exact rv_int | exact rv_cmp | exact rv_eqI | exact rv_neI | exact rv_eqS | exact rv_neS | exact rv_eqB | exact rv_neB)
local macro_rules | `(tactic| walk_at "xd") => `(tactic| first
  | (with_reducible first | exact x_int | exact x_str | exact x_bl | exact x_non | exact x_ty | exact x_ref)
  | ((with_reducible apply x_var); exact rfl)
  | ((with_reducible apply xd_op); (walk_at "xd"); (walk_at "xd"); (walk_at "rv"))
  | ((with_reducible apply xd_if); (walk_at "xb"); (intro _; walk_at "xd"); (intro _; walk_at "xd"))
  | ((with_reducible apply xd_tup); (walk_at "xa"); (first | decide | assumption | omega))
  | ((with_reducible apply xd_lst); (walk_at "xa"); (first | decide | assumption | omega)))
local macro_rules | `(tactic| walk_at "xb") => `(tactic| first
  | ((with_reducible apply xb_test); (walk_at "xd"))
  | ((with_reducible apply xb_B); (walk_at "xd"))
  | ((with_reducible apply xb_and); (walk_at "xb"); (intro _; walk_at "xb"))
  | ((with_reducible apply xb_or); (walk_at "xb"); (intro _; walk_at "xb"))
  | ((with_reducible apply xb_not); (walk_at "xb")))
local macro_rules | `(tactic| walk_at "xa") => `(tactic| first
  | (with_reducible exact xa_nil)
  | ((with_reducible apply xad_cons); (walk_at "xd"); (walk_at "xa")))

theorem RlOk.at_lt {R : Rl} (h : RlOk R) : R.at < R.fs.length := by
  unfold Rl.at
  have z := List.findIdx_lt_length_of_exists (xs := R.fs.map Fd.nm) (p := fun y => decide (y = R.sh)) ⟨R.sh, h.sh, by simp⟩
  rwa [List.length_map] at z
/-! ### what the stand does: take, do -/
section
variable {P : Program} {w : World} {K : PySem.W.Frag} {mg : Str → Option Value} {base : Heap}
theorem t_Stand_take (T : Txt w K mg) : Met P w K mg base 3 "Stand" "take" ["self", "device"] (spU K (preDev fun R T d s => takeM R (tg T d) T.length d s)) := by
  refine met_Stand_take T fun f fd F => upd_ok F sc_Stand_take ?_ fun cdv Ar outer sh H0 H σ Q E B A R Ts s ds s' r hr hp h k => ?_
  · rintro R Ts s ds s' r ⟨n, d, _, _, _, rfl, rfl, rfl⟩
    rfl
  · obtain ⟨n, d, fit, rok, hd, rfl, rfl, rfl⟩ := hp
    replace k : ∀ (A' : Adr) (v : V) (H' : Hp), A'.p = A.p → ((pureM K B).own (sdO K A' R Ts (takeM R (tg Ts d) Ts.length d s))).ok H' → ((pureM K B).own (sdO K A' R Ts (takeM R (tg Ts d) Ts.length d s))).F H0 H' → At K ((pureM K B).own (sdO K A' R Ts (takeM R (tg Ts d) Ts.length d s))).B H' .non v → Q v H' := k
    have hs : d < s.spots.length := by rw [fit.w.sp]; exact hd
    have hh : d < s.held.length := by rw [fit.w.hl]; omega
    have hN : Ts.length < s.held.length := by rw [fit.w.hl]; omega
    have hst : d < s.stamps.length := by rw [fit.w.st]; omega
    have ne : d ≠ Ts.length := by omega
    have hat := rok.at_lt
    obtain ⟨m, em⟩ := ms_at (HasO.at HasO.own h.ok).1 hh
    obtain ⟨mS, eS⟩ := ms_at (HasO.at HasO.own h.ok).1 hN
    have lA : A.ms.length = Ts.length + 1 := by rw [(HasO.at HasO.own h.ok).1.ml, fit.w.hl]
    have aS : atI A.ms (-1) = some mS := at_lastA lA eS
    refine ⟨_, (pss_cons (ps_par (i := 2) (j := 3) rfl sc_Stand_take.nd rfl rfl (by decide) rfl rfl (pa_cons (pe_ix ix_list (pe_fld (pv 0) rfl) (pv 1) (fun _ _ => rfl)) (pa_cons (pe_ix ix_list (pe_fld (pv 0) rfl) (pe_un un_neg pe_int) (fun _ _ => rfl)) pa_nil)) (by rfl))
    (pss_cons (ps_set (i := 4) sc_Stand_take.nd rfl (Or.inl rfl) (pe_cmpR op_gt (pe_ix ix_list (pe_fld (pv 0) rfl) (pe_un un_neg pe_int) (fun _ _ => rfl)) (pe_ix ix_list (pe_fld (pv 0) rfl) (pv 1) (fun _ _ => rfl)) (nomark _)))
    (pss_cons (ps_for PassesOwn.never rfl (pi_enum (by rfl) T.f_enumerate (pa_cons (pe_fld (pe_fld (pv 0) rfl) rfl) pa_nil)) (pg_tup rfl (pgs_cons (pg_name (i := 5) sc_Stand_take.nd rfl (Or.inl rfl)) (pgs_cons (pg_name (i := 6) sc_Stand_take.nd rfl (Or.inl rfl)) pgs_nil))) (pss_cons (ps_asg (pe_cal (c_handed_value T) (hr.mono (by decide)) (by rfl) (pa_cons (pe_ix ix_tup (pv 6) pe_int (fun _ _ => rfl)) (pa_cons (pe_ix ix_list (pv 2) (pv 5) (fun _ _ => rfl)) (pa_cons (pe_ix ix_list (pv 3) (pv 5) (fun _ _ => rfl)) (pa_cons (pv 4) pa_nil))))) (pg_sub (pv 2) (pv 5) set_list))
    (pss_one (ps_if (pt_cmpR op_eq (pe_ix ix_tup (pv 6) pe_int (fun _ _ => rfl)) pe_str (nomark _)) (pss_one (ps_asg (pe_met (t_Stand_kernel T) (hr.mono (by decide)) (pv 0) (pa_cons (pv 1) (pa_cons (pe_ix ix_list (pv 2) (pv 5) (fun _ _ => rfl)) pa_nil))) (pg_sub (pv 2) (pv 5) set_list))) pss_nil))))
    (pss_cons (ps_asg (pe_cal (c_greater T) (hr.mono (by decide)) (by rfl) (pa_cons (pe_ix ix_list (pe_fld (pv 0) rfl) (pv 1) (fun _ _ => rfl)) (pa_cons (pe_ix ix_list (pe_fld (pv 0) rfl) (pe_un un_neg pe_int) (fun _ _ => rfl)) pa_nil))) (pg_sub (pe_fld (pv 0) rfl) (pv 1) set_list))
    (pss_cons (ps_par (i := 7) (j := 8) rfl sc_Stand_take.nd rfl rfl (by decide) rfl rfl (pa_cons (pe_ix ix_tup (pe_fld (pe_fld (pv 0) rfl) rfl) pe_int (fun _ _ => rfl)) (pa_cons (pe_met (t_Stand_kernel T) (hr.mono (by decide)) (pv 0) (pa_cons (pv 1) (pa_cons (pe_ix ix_list (pv 2) (pe_met0 (t_Rule_place_of_show T) (hr.mono (by decide)) (pe_fld (pv 0) rfl)) (fun _ _ => rfl)) pa_nil))) pa_nil)) (by rfl))
    (pss_one (ps_if (pt_cmpR op_eq (pv 7) pe_str (nomark _)) (pss_one (ps_asg (pv 8) (pg_sub (pe_fld (pv 0) rfl) (pv 1) set_list))) (pss_one (ps_if (pt_cmpR op_eq (pv 7) pe_str (nomark _)) (pss_one (ps_asg (pe_cal (c_greater T) (hr.mono (by decide)) (by rfl) (pa_cons (pe_ix ix_list (pe_fld (pv 0) rfl) (pv 1) (fun _ _ => rfl)) (pa_cons (pv 8) pa_nil))) (pg_sub (pe_fld (pv 0) rfl) (pv 1) set_list))) pss_nil))))))))), ?_⟩
    apply qd_par (d := .raw m) (e := .raw mS) h
    · exact xad_cons (x_sdMark HasO.own (x_sdHeld T.c_Stand T.n_Stand_held HasO.own rfl) (x_var rfl) (atI_nat em)) (xad_cons (x_sdMark HasO.own (x_sdHeld T.c_Stand T.n_Stand_held HasO.own rfl) x_neg1 aS) xa_nil)
    intro σ1 H1 h
    let later := decide (sg s.stamps Ts.length > sg s.stamps d)
    apply qd_asg (d := .bl later) h
    · exact xd_op (xl_ix (xl_sdStamps HasO.own (x_sdStamps T.c_Stand T.n_Stand_stamps HasO.own rfl)) x_neg1 (at_sgL fit.w.st)) (xl_ix (xl_sdStamps HasO.own (x_sdStamps T.c_Stand T.n_Stand_stamps HasO.own rfl)) (x_var rfl) (at_sg hst)) rv_cmp
    intro σ2 H2 h
    let Fn : Fd → Nat → Int := fun f i => tookV f (tg Ts d) (sg (hg s.held d) i) (sg (hg s.held Ts.length) i) later
    let nm := tookM R (tg Ts d) Ts.length d s
    have hm : hg s.held Ts.length ∈ s.held := List.mem_of_getElem? (hg_some hN)
    have hmd : hg s.held d ∈ s.held := List.mem_of_getElem? (hg_some hh)
    have ln : nm.length = (hg s.held d).length := by rw [fit.w.mw _ hmd]; exact mkM_len _ _
    have lS : (hg s.held Ts.length).length = R.fs.length := fit.w.mw _ hm
    have ld : (hg s.held d).length = R.fs.length := fit.w.mw _ hmd
    have h' : Sg ((pureM K B).own (sdO K A R Ts (sdH s d (mixM nm (hg s.held d) 0)))) H0 [] [some (.raw A.p), some (.int (d : Int)), some (.raw m), some (.raw mS), some (.bl later), none, none, none, none] σ2 H2 := by
      rw [mix_zero, sdH_self hh]
      exact h
    refine q_forE (fun i => (pureM K B).own (sdO K A R Ts (sdH s d (mixM nm (hg s.held d) i)))) (fun _ => [some (.raw A.p), some (.int (d : Int)), some (.raw m), some (.raw mS), some (.bl later), none, none, none, none]) h' (xi_enum (x_fld T.c_Rule T.n_Rule_parts (x_sdRule T.c_Stand T.n_Stand_rule HasO.own rfl) rfl)) (fun i x L' σ' H' ex h => ?_) fun σ' H' h => ?_
    · obtain ⟨fl, ef, rfl⟩ := map_got ex
      have hif : i < R.fs.length := (List.getElem?_eq_some_iff.mp ef).1
      have hi : i < (hg s.held d).length := by rw [ld]; exact hif
      have lx : (mixM nm (hg s.held d) i).length = (hg s.held d).length := mix_len ln
      have el := sdH_get (l := mixM nm (hg s.held d) i) hh
      have ed : (sdH s d (mixM nm (hg s.held d) i)).held[Ts.length]? = some (hg s.held Ts.length) := (sdH_ne ne).trans (hg_some hN)
      have eF : sg nm i = Fn fl i := mkM_get ef
      let hv := handV fl.tk (sg (hg s.held d) i) (sg (hg s.held Ts.length) i) later
      have inh : inT Ts hv := inT_hand (fit.w.get hh hif) (fit.w.get hN hif)
      refine q_setMark (e := hv) em el (by omega) (Xe.is (x_call (xad_cons (xd_op (x_var rfl) x_int (rv_ixT (i := 5) rfl)) (xad_cons (xl_ix (xl_sdMark HasO.own (x_var rfl) em el) (x_var rfl) (at_sg (by omega))) (xad_cons (xl_ix (xl_sdMark HasO.own (x_var rfl) eS ed) (x_var rfl) (at_sg (by omega))) (xad_cons (x_var rfl) xa_nil)))) (by exact ⟨_, _, _, _, rfl, rfl⟩)) ?_) (x_var rfl) (x_var rfl) h fun H3 h => ?_
      · rw [mix_get ln hi]
      rw [sdH_sdH] at h
      have el2 := sdH_get (l := (mixM nm (hg s.held d) i).set i hv) hh
      refine ed_when (f := decide (fl.kp = "floored")) h (xb_test (xd_op (xd_op (x_var rfl) x_int (rv_ixT (i := 6) rfl)) x_str rv_eqS)) (fun c H4 h => ?_) fun c H4 h => ?_
      · have ek : sg nm i = kern (tg Ts d) hv := eF.trans (if_pos (of_decide_eq_true c))
        have lx2 : i < ((mixM nm (hg s.held d) i).set i hv).length := by rw [List.length_set]; omega
        have eg : sg ((mixM nm (hg s.held d) i).set i hv) i = hv := sg_eq (List.getElem?_set_self (by omega))
        refine e_setMark (e := kern (tg Ts d) hv) em el2 lx2 (x_qry HasO.own rfl (by decide +kernel) (xad_cons (x_var rfl) (xad_cons (Xe.is (xl_ix (xl_sdMark HasO.own (x_var rfl) em el2) (x_var rfl) (at_sg lx2)) (congrArg Dt.int eg)) xa_nil)) (pre := preKer) (by exact ⟨R, Ts, _, d, hv, hd, fun l el => ⟨inh.1, inh.2 l (tg_mem el)⟩, rfl, rfl⟩) flat_int) (x_var rfl) (x_var rfl) h fun H5 h => ?_
        rw [sdH_sdH, List.set_set, ← ek, mix_set ln hi] at h
        exact h.weak (by repeat (first | exact GLe.nil | apply GLe.keep | apply GLe.drop))
      · have ek : sg nm i = hv := eF.trans (if_neg (of_decide_eq_false c))
        rw [← ek, mix_set ln hi] at h
        exact h.weak (by repeat (first | exact GLe.nil | apply GLe.keep | apply GLe.drop))
    · have hE : (R.fs.map Fd.dt).length = (hg s.held d).length := by rw [List.length_map, ld]
      rw [hE, mix_all ln] at h
      have eln := sdH_get (l := nm) hh
      have lnm : nm.length = R.fs.length := by rw [ln, ld]
      refine q_setStamp (s := sdH s d nm) (d := d) (z := (d : Int)) (e := gr (sg s.stamps d) (sg s.stamps Ts.length)) (idxN hst) (x_call (xad_cons (xl_ix (xl_sdStamps HasO.own (x_sdStamps T.c_Stand T.n_Stand_stamps HasO.own rfl)) (x_var rfl) (at_sg hst)) (xad_cons (xl_ix (xl_sdStamps HasO.own (x_sdStamps T.c_Stand T.n_Stand_stamps HasO.own rfl)) x_neg1 (at_sgL fit.w.st)) xa_nil)) (by exact ⟨_, _, rfl, rfl⟩)) (x_sdStamps T.c_Stand T.n_Stand_stamps HasO.own rfl) (x_var rfl) h fun H3 h => ?_
      let place := kern (tg Ts d) (sg nm R.at)
      have pin := place_in (d := d) fit.t fit.w hd hat
      let s3 : Sd := { sdH s d nm with stamps := s.stamps.set d (gr (sg s.stamps d) (sg s.stamps Ts.length)) }
      apply qd_par (d := .str R.way) (e := .int place) h
      · refine xad_cons (xd_op (x_fld T.c_Rule T.n_Rule_way (x_sdRule T.c_Stand T.n_Stand_rule HasO.own rfl) rfl) x_int (rv_ixT (i := 0) rfl)) (xad_cons (x_qry HasO.own rfl (by decide +kernel) (xad_cons (x_var rfl) (xad_cons (xl_ix (i := (R.at : Int)) (d := .int (sg nm R.at)) (xl_sdMark (s := s3) HasO.own (x_var rfl) em eln) (x_meth (pre := prePos) (x_sdRule T.c_Stand T.n_Stand_rule HasO.own rfl) (by decide +kernel) xa_nil (by exact ⟨R, rok, rfl, rfl⟩)) (at_sg (by omega))) xa_nil)) (pre := preKer) (by exact ⟨R, Ts, _, d, sg nm R.at, hd, fun l el => ⟨pin.1, pin.2 l (tg_mem el)⟩, rfl, rfl⟩) flat_int) xa_nil)
      intro σ4 H4 h
      refine ed_if (f := decide (R.way = "field")) h (xb_test (xd_op (x_var rfl) x_str rv_eqS)) (fun c H5 h => ?_) fun c H5 h => ?_
      · refine e_setSpot (s := s3) (e := place) (d := d) hs (x_var rfl) (x_sdSpots T.c_Stand T.n_Stand_spots HasO.own rfl) (x_var rfl) h fun H6 h => ?_
        have eq : takeM R (tg Ts d) Ts.length d s = { s3 with spots := s.spots.set d place } := by
          show Sd.mk (if R.way = "field" then s.spots.set d place else if R.way = "greater" then s.spots.set d (gr (sg s.spots d) place) else s.spots) _ _ _ _ _ = _
          rw [if_pos (of_decide_eq_true c)]
          rfl
        rw [eq] at k
        exact k A .non H6 rfl h.ok h.fr rfl
      · have c1 : ¬ R.way = "field" := of_decide_eq_false c
        refine ed_when (f := decide (R.way = "greater")) h (xb_test (xd_op (x_var rfl) x_str rv_eqS)) (fun c H6 h => ?_) fun c H6 h => ?_
        · refine e_setSpot (s := s3) (e := gr (sg s.spots d) place) (d := d) hs (x_call (xad_cons (xl_ix (xl_sdSpots HasO.own (x_sdSpots T.c_Stand T.n_Stand_spots HasO.own rfl)) (x_var rfl) (at_sg hs)) (xad_cons (x_var rfl) xa_nil)) (by exact ⟨_, _, rfl, rfl⟩)) (x_sdSpots T.c_Stand T.n_Stand_spots HasO.own rfl) (x_var rfl) h fun H7 h => ?_
          have eq : takeM R (tg Ts d) Ts.length d s = { s3 with spots := s.spots.set d (gr (sg s.spots d) place) } := by
            show Sd.mk (if R.way = "field" then s.spots.set d place else if R.way = "greater" then s.spots.set d (gr (sg s.spots d) place) else s.spots) _ _ _ _ _ = _
            rw [if_neg c1, if_pos (of_decide_eq_true c)]
            rfl
          rw [eq] at k
          exact k A .non H7 rfl h.ok h.fr rfl
        · have eq : takeM R (tg Ts d) Ts.length d s = s3 := by
            show Sd.mk (if R.way = "field" then s.spots.set d place else if R.way = "greater" then s.spots.set d (gr (sg s.spots d) place) else s.spots) _ _ _ _ _ = _
            rw [if_neg c1, if_neg (of_decide_eq_false c)]
            rfl
          rw [eq] at k
          exact k A .non H6 rfl h.ok h.fr rfl
def preDo (R : Rl) (T : List Tb) (s : Sd) (ds : List Dt) (s' : Sd) (r : Dt) : Prop := ∃ n x, Fit n R T s ∧ 1 ≤ n ∧ n + 1 ≤ 1000 ∧ RlOk R ∧ okDeed T s x ∧ ds = [x.dt] ∧ s' = (doM R T s x).1 ∧ r = strsD (doM R T s x).2
theorem wr_read : decide (("read" : Str) ∈ (["read", "jump"] : List Str)) = true := by decide +kernel
theorem wr_jump : decide (("jump" : Str) ∈ (["read", "jump"] : List Str)) = true := by decide +kernel
theorem wr_anew : decide (("anew" : Str) ∈ (["read", "jump"] : List Str)) = false := by decide +kernel
theorem wr_give : decide (("give" : Str) ∈ (["read", "jump"] : List Str)) = false := by decide +kernel
theorem wr_take : decide (("take" : Str) ∈ (["read", "jump"] : List Str)) = false := by decide +kernel
theorem lost_rep (b : Bool) : (List.replicate (if b = true then (1 : Int) else 0).toNat [Dt.str "lost"]).flatten = (if b = true then [("lost" : Str)] else []).map Dt.str := by cases b <;> rfl
theorem t_Stand_do (T : Txt w K mg) : Met P w K mg base 5 "Stand" "do" ["self", "deed"] (spU K preDo) := by
  refine met_Stand_do T fun f fd F => upd_ok F sc_Stand_do ?_ fun cdv Ar outer sh H0 H σ Q E B A R Ts s ds s' r hr hp h k => ?_
  · rintro R Ts s ds s' r ⟨n, x, _, _, _, _, _, rfl, rfl, rfl⟩
    rfl
  · obtain ⟨n, x, fit, n1, n2, rok, okx, rfl, rfl, rfl⟩ := hp
    have hd := okDeed_dev okx
    have hs : x.dev < s.spots.length := by rw [fit.w.sp]; exact hd
    have fit2 := fit.step rok.at_lt okx n1 n2
    rw [Deed.dt_eq] at h
    have e0 : atI (Dt.str x.wd :: .int (x.dev : Int) :: x.ends) (0 : Int) = some (.str x.wd) := atN (i := 0) rfl
    have e1 : atI (Dt.str x.wd :: .int (x.dev : Int) :: x.ends) (1 : Int) = some (.int (x.dev : Int)) := atN (i := 1) rfl
    refine ⟨_, (pss_cons (ps_par (i := 2) (j := 3) rfl sc_Stand_do.nd rfl rfl (by decide) rfl rfl (pa_cons (pe_ix ix_tup (pv 1) pe_int (fun _ _ => rfl)) (pa_cons (pe_ix ix_tup (pv 1) pe_int (fun _ _ => rfl)) pa_nil)) (by rfl))
    (pss_cons (ps_par (i := 4) (j := 5) rfl sc_Stand_do.nd rfl rfl (by decide) rfl rfl (pa_cons (pe_ix ix_list (pe_fld (pv 0) rfl) (pv 3) (fun _ _ => rfl)) (pa_cons (pe_lst pa_nil) pa_nil)) (by rfl))
    (pss_cons (ps_if (pt_cmpR op_in_seq (pv 2) (pe_tup (pa_cons pe_str (pa_cons pe_str pa_nil))) rfl) (pss_one (ps_expr (pe_met (t_Stand_go T) (hr.mono (by decide)) (pv 0) (pa_cons (pv 2) (pa_cons (pv 3) (pa_cons (pe_ix ix_tup (pv 1) pe_int (fun _ _ => rfl)) pa_nil)))))) (pss_one (ps_if (pt_cmpR op_eq (pv 2) pe_str (nomark _)) (pss_one (ps_expr (pe_met (t_Stand_anew T) (hr.mono (by decide)) (pv 0) (pa_cons (pv 3) pa_nil)))) (pss_one (ps_if (pt_cmpR op_eq (pv 2) pe_str (nomark _)) (pss_one (ps_expr (pe_met (t_Stand_give T) (hr.mono (by decide)) (pv 0) (pa_cons (pv 3) pa_nil)))) (pss_cons (ps_expr (pe_met (t_Stand_take T) (hr.mono (by decide)) (pv 0) (pa_cons (pv 3) pa_nil)))
    (pss_one (ps_set (i := 5) sc_Stand_do.nd rfl (Or.inl rfl) (pe_met (t_Stand_faults_of_take T) (hr.mono (by decide)) (pv 0) (pa_cons (pv 3) (pa_cons (pv 4) pa_nil)))))))))))
    (pss_one (ps_ret (pe_op op_cat (pv 5) (pe_op op_rep (pe_lst (pa_cons pe_str pa_nil)) (pe_callTy call_intQ (by rfl) T.f_int (by decide +kernel) (pa_cons (pe_met0 (t_Stand_is_lost T) (hr.mono (by decide)) (pv 0)) pa_nil))))))))), ?_⟩
    apply qd_par (d := .str x.wd) (e := .int (x.dev : Int)) h (xad_cons (xd_op (x_var rfl) x_int (rv_ixT e0)) (xad_cons (xd_op (x_var rfl) x_int (rv_ixT e1)) xa_nil))
    intro σ1 H1 h
    apply qd_par (d := .int (sg s.spots x.dev)) (e := .lst []) h (xad_cons (xl_ix (xl_sdSpots HasO.own (x_sdSpots T.c_Stand T.n_Stand_spots HasO.own rfl)) (x_var rfl) (at_sg hs)) (xad_cons (xd_lst xa_nil) xa_nil))
    intro σ2 H2 h
    generalize hb : sg s.spots x.dev = bf at h
    -- behind the branches: the faults so far, what stands
    have fin : ∀ (A' : Adr) (fs : List Str) σ3 H3, A'.p = A.p → fs.length ≤ 10 → (doM R Ts s x).2 = fs ++ lostW (doM R Ts s x).1 → Sg ((pureM K B).own (sdO K A' R Ts (doM R Ts s x).1)) H0 [] [some (.raw A'.p), none, none, none, none, some (.lst (fs.map .str))] σ3 H3 →
        tRet (tOp rCat (tVar 5) (tOp rRep (tLst (tCons (tC (.str "lost")) tNil)) (tCB rIntQ (tCons (tMeth (He.ga K "Stand") "is_lost" (spP K preLost) [] E0 (tVar 0) tNil) tNil)))) { nx := fun _ H' => Q .non H', rt := Q } σ3 H3 := fun A' fs σ3 H3 ep hl he h => by
      refine e_ret (P := (· = strsD (doM R Ts s x).2)) h ?_ fun d v H' e ok f hv => k A' v H' ep ok f (by rw [e] at hv; exact hv)
      have b1 : (0 : Int) ≤ (if isLost (doM R Ts s x).1 = true then (1 : Int) else 0) := by split <;> decide
      have b2 : (if isLost (doM R Ts s x).1 = true then (1 : Int) else 0) ≤ 1000 := by split <;> decide
      refine Xe.is (xd_op (x_var rfl) (xd_op (xd_lst (xad_cons x_str xa_nil)) (xd_cb (xad_cons (x_qry HasO.own rfl (by decide +kernel) xa_nil (pre := preLost) (by exact ⟨n + 1, R, Ts, _, fit2, rfl, rfl⟩) flat_bl) xa_nil) rc_intB) (rv_rep b1 b2 (by decide))) (rv_cat ?_)) ?_
      · rw [lost_rep, List.length_map, List.length_map]
        refine Nat.le_trans (m := 11) ?_ (by decide)
        split
        · exact Nat.add_le_add_right hl 1
        · exact Nat.le_trans hl (by decide)
      · rw [lost_rep, ← List.map_append, he]
        rfl
    have tst : ∀ {b : Bool}, (if false then !decide (x.wd ∈ (["read", "jump"] : List Str)) else decide (x.wd ∈ (["read", "jump"] : List Str))) = b → Xb ((pureM K B).own (sdO K A R Ts s)) [some (.raw A.p), some (.tup (.str x.wd :: .int (x.dev : Int) :: x.ends)), some (.str x.wd), some (.int (x.dev : Int)), some (.int bf), some (.lst [])] (tTest (tOp (rIn K false) (tVar 2) (tTup (tCons (tC (.str "read")) (tCons (tC (.str "jump")) tNil))))) b := fun e =>
      Xt.is (xb_test (xd_op (x_var rfl) (xd_tup (ds := [.str "read", .str "jump"]) (xad_cons x_str (xad_cons x_str xa_nil))) (rv_inTS (xs := ["read", "jump"])))) e
    have put : ∀ {A' : Adr} {ds : List (Option Dt)} {σ3 : L2.St} {H3 : Hp} {M2 : Mode K}, A'.p = A.p → Sg M2 H0 [] (some (.raw A.p) :: ds) σ3 H3 → Sg M2 H0 [] (some (.raw A'.p) :: ds) σ3 H3 := fun e h => e ▸ h
    cases x with
    | go rd d e =>
      refine qd_if (f := true) h (tst (by cases rd with | true => exact wr_read | false => exact wr_jump)) (fun _ H3 h => ?_) fun e => by cases e
      refine e_updD (pre := preGo) rfl (by decide +kernel) h (xad_cons (x_var rfl) (xad_cons (x_var rfl) (xad_cons (xd_op (x_var rfl) x_int (rv_ixT (i := 2) rfl)) xa_nil))) ⟨n, rd, d, e, fit, okx, rfl, rfl, rfl⟩ fun A' H4 ep h => ?_
      exact fin A' [] _ H4 ep (by decide) rfl ((put ep h).weak (by repeat (first | exact GLe.nil | apply GLe.keep | apply GLe.drop)))
    | anew d =>
      refine qd_if (f := false) h (tst wr_anew) (fun e => by cases e) fun _ H3 h => ?_
      refine ed_if (f := true) h (Xt.is (xb_test (xd_op (x_var rfl) x_str rv_eqS)) (decide_eq_true rfl)) (fun _ H4 h => ?_) fun e => by cases e
      refine e_updD (pre := preDev fun R _ d s => anewM R d s) rfl (by decide +kernel) h (xad_cons (x_var rfl) xa_nil) ⟨n, d, fit, rok, hd, rfl, rfl, rfl⟩ fun A' H5 ep h => ?_
      exact fin A' [] _ H5 ep (by decide) rfl ((put ep h).weak (by repeat (first | exact GLe.nil | apply GLe.keep | apply GLe.drop)))
    | give d =>
      refine qd_if (f := false) h (tst wr_give) (fun e => by cases e) fun _ H3 h => ?_
      refine ed_if (f := false) h (Xt.is (xb_test (xd_op (x_var rfl) x_str rv_eqS)) (decide_eq_false (by decide : ¬ ("give" : Str) = "anew"))) (fun e => by cases e) fun _ H4 h => ?_
      refine ed_if (f := true) h (Xt.is (xb_test (xd_op (x_var rfl) x_str rv_eqS)) (decide_eq_true rfl)) (fun _ H5 h => ?_) fun e => by cases e
      refine e_updD (pre := preDev fun R T d s => giveM R T.length d s) rfl (by decide +kernel) h (xad_cons (x_var rfl) xa_nil) ⟨n, d, fit, rok, hd, rfl, rfl, rfl⟩ fun A' H6 ep h => ?_
      exact fin A' [] _ H6 ep (by decide) rfl ((put ep h).weak (by repeat (first | exact GLe.nil | apply GLe.keep | apply GLe.drop)))
    | take d =>
      refine qd_if (f := false) h (tst wr_take) (fun e => by cases e) fun _ H3 h => ?_
      refine ed_if (f := false) h (Xt.is (xb_test (xd_op (x_var rfl) x_str rv_eqS)) (decide_eq_false (by decide : ¬ ("take" : Str) = "anew"))) (fun e => by cases e) fun _ H4 h => ?_
      refine ed_if (f := false) h (Xt.is (xb_test (xd_op (x_var rfl) x_str rv_eqS)) (decide_eq_false (by decide : ¬ ("take" : Str) = "give"))) (fun e => by cases e) fun _ H5 h => ?_
      refine q_updD (pre := preDev fun R T d s => takeM R (tg T d) T.length d s) rfl (by decide +kernel) h (xad_cons (x_var rfl) xa_nil) ⟨n, d, fit, rok, hd, rfl, rfl, rfl⟩ fun A' H6 ep h => ?_
      have h := put ep h
      have fl : ∀ (t : Tb) (s2 : Sd) (a c : Int), (takeF t s2 a c).length ≤ 10 := fun t s2 a c => by
        unfold takeF
        rw [List.length_append, List.length_append]
        have l1 : ∀ (p : Prop) [Decidable p] (z : Str), (if p then [z] else []).length ≤ 1 := fun p _ z => by split <;> simp
        have a1 := l1 (c < a) "back"
        have a2 := l1 (c ≠ a ∧ c > s2.row) "ahead"
        have a3 := l1 (c ≠ a ∧ c ∉ s2.come.map (kern t)) "nobody"
        omega
      refine ed_asg h (xn_qry HasO.own rfl (by decide +kernel) (xad_cons (x_var rfl) (xad_cons (x_var rfl) xa_nil)) (pre := preFau) (by exact ⟨n + 1, R, Ts, _, d, bf, fit2, hd, rfl, rfl⟩)) fun σ7 H7 h => ?_
      refine fin A' _ _ H7 ep (fl _ _ _ _) ?_ (h.weak (by repeat (first | exact GLe.nil | apply GLe.keep | apply GLe.drop)))
      rw [← hb]
      rfl
end
end Lf

namespace Lf
open PySem PySem.Spec PyProof.Rows L2
local macro_rules | `(tactic| walk_at "rv") => `(tactic| with_reducible first
  | exact rv_int | exact rv_cmp | exact rv_eqI | exact rv_neI | exact rv_eqS | exact rv_neS | exact rv_eqB | exact rv_neB)
local macro_rules | `(tactic| walk_at "xd") => `(tactic| first
  | (with_reducible first | exact x_int | exact x_str | exact x_bl | exact x_non | exact x_ty | exact x_ref)
  | ((with_reducible apply x_var); exact rfl)
  | ((with_reducible apply xd_op); (walk_at "xd"); (walk_at "xd"); (walk_at "rv"))
  | ((with_reducible apply xd_if); (walk_at "xb"); (intro _; walk_at "xd"); (intro _; walk_at "xd"))
  | ((with_reducible apply xd_tup); (walk_at "xa"); (first | decide | assumption | omega))
  | ((with_reducible apply xd_lst); (walk_at "xa"); (first | decide | assumption | omega)))
local macro_rules | `(tactic| walk_at "xb") => `(tactic| first
  | ((with_reducible apply xb_test); (walk_at "xd"))
  | ((with_reducible apply xb_B); (walk_at "xd"))
  | ((with_reducible apply xb_and); (walk_at "xb"); (intro _; walk_at "xb"))
  | ((with_reducible apply xb_or); (walk_at "xb"); (intro _; walk_at "xb"))
  | ((with_reducible apply xb_not); (walk_at "xb")))
local macro_rules | `(tactic| walk_at "xa") => `(tactic| first
  | (with_reducible exact xa_nil)
  | ((with_reducible apply xad_cons); (walk_at "xd"); (walk_at "xa")))

section
variable {P : Program} {w : World} {K : PySem.W.Frag} {mg : Str → Option Value} {base : Heap}
theorem xn_lst {M : Mode K} {G : List (Option Dt)} {ta : TA} {ds : List Dt} (h : Xa M G ta (· = ds)) (hl : ds.length ≤ 1000) : Xn M G (tLst ta) (· = ds) := fun σ H Q ok e k => h σ H _ ok e fun vs ds' H1 r1 ed hs => by
  rw [ed] at hs
  have o1 := M.stab ok r1
  exact ⟨by rw [hs.length]; exact Nat.le_trans hl (by decide), fun p hp => k p vs ds _ (M.trans r1 (M.knew o1 hp)) rfl (M.free ok r1 hp) upd_same ((hs.more hp).keep (Same.keep (Same.new hp)))⟩
theorem m_Stand (T : Txt w K mg) : Mak P w K mg base 1 "Stand" ["self", "rule", "tables"] (spN K) := by
  refine mak_Stand T fun f fd F => mk_ok F sc_Stand_init rfl fun cdv Ar outer sh H0 H σ Q E B R Ts p dp vr vt hr hT hR s0 s1 s2 h k => ?_
  refine ⟨_, (pss_cons (ps_fld (pv 0) (pv 1) rfl)
    (pss_cons (ps_fld (pv 0) (pv 2) rfl)
    (pss_cons (ps_fld (pv 0) (pe_op op_rep (pe_lst (pa_cons pe_int pa_nil)) (pe_callB call_lenQ (by rfl) T.f_len PySem.boot_len (pa_cons (pv 2) pa_nil))) rfl)
    (pss_cons (ps_fld (pv 0) (pe_lc (own := [("device", 3)]) rfl sc_Stand_init.nd (pi_range1 (by rfl) T.f_range (pa_cons (pe_op op_add (pe_callB call_lenQ (by rfl) T.f_len PySem.boot_len (pa_cons (pv 2) pa_nil)) pe_int) pa_nil)) (blkOk_by (by kernel_rfl)) (fun _ _ _ _ _ => (pg_name (i := 3) sc_Stand_init.nd rfl (Or.inl rfl))) (fun _ _ _ _ _ => pts_nil) (fun _ _ _ _ _ => (pe_op op_rep (pe_lst (pa_cons pe_int pa_nil)) (pe_callB (call_lenQK K) (by rfl) T.f_len PySem.boot_len (pa_cons (pe_fldK K (pv 1) rfl) pa_nil))))) rfl)
    (pss_cons (ps_fld (pv 0) (pe_op op_rep (pe_lst (pa_cons pe_int pa_nil)) (pe_op op_add (pe_callB call_lenQ (by rfl) T.f_len PySem.boot_len (pa_cons (pv 2) pa_nil)) pe_int)) rfl)
    (pss_cons (ps_fld (pv 0) pe_int rfl)
    (pss_cons (ps_fld (pv 0) pe_int rfl)
    (pss_one (ps_fld (pv 0) (pe_lst (pa_cons pe_int pa_nil)) rfl))))))))), ?_⟩
  refine q_putV T.c_Stand T.n_Stand_rule rfl (by decide) (by decide) s0 (fun H Q q => ⟨vr, s1, q⟩) h fun H1 h => ?_
  refine q_putV T.c_Stand T.n_Stand_tables rfl (by decide +kernel) (by decide) s0 (fun H Q q => ⟨vt, s2, q⟩) h fun H2 h => ?_
  have lt : ∀ {M : Mode K}, Xd M [some (.raw p), some R.dt, some (.lst (Ts.map tbDt)), none] (tCB (rLenQ K) (tCons (tVar 2) tNil)) (.int (Ts.length : Nat)) := fun {M} => Xe.is (xd_cb (xad_cons (x_var rfl) xa_nil) rc_lenL) (by rw [List.length_map])
  refine q_putN (ns := List.replicate Ts.length 0) T.c_Stand T.n_Stand_spots rfl (by decide +kernel) (by decide) s0 (xn_zeros (by omega) lt) h fun aS H3 h => ?_
  refine q_putH (m := Ts.length + 1) (kz := R.fs.length) T.c_Stand T.n_Stand_held rfl (by decide +kernel) (by decide) s0 (xh_zeros (by omega) (by simp) (xad_cons (Xe.is (xd_op lt x_int rv_int) rfl) xa_nil) fun D acc i => xn_zeros (by omega) (Xe.is (xd_cb (xad_cons (x_fld T.c_Rule T.n_Rule_parts (x_var (d := R.dt) rfl) rfl) xa_nil) rc_lenL) (by rw [List.length_map]))) h fun aH ms H4 hm h => ?_
  refine q_putN (ns := List.replicate (Ts.length + 1) 0) T.c_Stand T.n_Stand_stamps rfl (by decide +kernel) (by decide) s0 (xn_zeros (by omega) (Xe.is (xd_op lt x_int rv_int) rfl)) h fun aT H5 h => ?_
  refine q_putV (v := .int 0) T.c_Stand T.n_Stand_row rfl (by decide +kernel) (by decide) s0 (fun H Q q => q) h fun H6 h => ?_
  refine q_putV (v := .int 0) T.c_Stand T.n_Stand_top rfl (by decide +kernel) (by decide) s0 (fun H Q q => q) h fun H7 h => ?_
  refine e_putN (ns := [0]) T.c_Stand T.n_Stand_come_to rfl (by decide +kernel) (by decide) s0 (xn_lst (xad_cons x_int xa_nil) (by decide)) h fun aC H8 h => ?_
  obtain ⟨c1, c2, c3, c4, c5⟩ := HasO.at HasO.own h.ok
  let A : Adr := ⟨p, dp, aS, aH, aT, aC, ms, vr, vt⟩
  have eM : (ms.map fun a => (a, List.replicate R.fs.length (V.int 0))).map Prod.fst = ms := by
    rw [List.map_map]
    show ms.map (fun a => a) = _
    rw [List.map_id']
  have mS : ∀ a, a ∈ A.all → a = p ∨ a ∈ (((([] ++ [(aS, (List.replicate Ts.length (0 : Int)).map V.int)]) ++ ((aH, ms.map V.ref) :: ms.map fun a => (a, List.replicate R.fs.length (V.int 0)))) ++ [(aT, (List.replicate (Ts.length + 1) (0 : Int)).map V.int)]) ++ [(aC, [(0 : Int)].map V.int)]).map Prod.fst := fun a ha => by
    simp only [Adr.all, List.mem_cons] at ha
    simp only [List.map_append, List.map_cons, List.map_nil, List.mem_append, List.mem_cons, List.not_mem_nil, or_false, false_or, eM]
    rcases ha with e | e | e | e | e | e
    · exact .inl e
    · exact .inr (.inl (.inl (.inl e)))
    · exact .inr (.inl (.inl (.inr (.inl e))))
    · exact .inr (.inl (.inr e))
    · exact .inr (.inr e)
    · exact .inr (.inl (.inl (.inr (.inr e))))
  have at_ : ∀ q l, (q, l) ∈ (((([] ++ [(aS, (List.replicate Ts.length (0 : Int)).map V.int)]) ++ ((aH, ms.map V.ref) :: ms.map fun a => (a, List.replicate R.fs.length (V.int 0)))) ++ [(aT, (List.replicate (Ts.length + 1) (0 : Int)).map V.int)]) ++ [(aC, [(0 : Int)].map V.int)]) → H8 q = some (.lst l) := fun q l hq => c2 (q, l) hq
  have sub : ∀ b, (B b ∨ b ∈ A.all) → (B b ∨ _) := fun b z => z.imp id (mS b)
  refine k A _ σ H8 rfl (h.mut (O' := sdO K A R Ts (Sd.init Ts.length R.fs.length)) (fun a o _ e => e) (fun a z => .inl (mS a z)) ⟨⟨?_, c1, at_ _ _ (List.mem_append_left _ (List.mem_append_left _ (List.mem_append_left _ List.mem_cons_self))), at_ _ _ (List.mem_append_left _ (List.mem_append_left _ (List.mem_append_right _ List.mem_cons_self))), at_ _ _ (List.mem_append_left _ (List.mem_append_right _ List.mem_cons_self)), at_ _ _ (List.mem_append_right _ List.mem_cons_self), ?_, fun i m l e1 e2 => ?_⟩, c4.less sub, c5.less sub⟩)
  · simp only [List.map_append, List.map_cons, List.map_nil, List.nil_append, eM] at c3
    simp only [List.nodup_cons, List.nodup_append, List.mem_append, List.mem_cons, List.not_mem_nil, or_false, not_or, List.nodup_nil] at c3
    simp only [Adr.all, List.nodup_cons, List.mem_cons, not_or]
    show (p ≠ aS ∧ p ≠ aH ∧ p ≠ aT ∧ p ≠ aC ∧ p ∉ ms) ∧ (aS ≠ aH ∧ aS ≠ aT ∧ aS ≠ aC ∧ aS ∉ ms) ∧ (aH ≠ aT ∧ aH ≠ aC ∧ aH ∉ ms) ∧ (aT ≠ aC ∧ aT ∉ ms) ∧ aC ∉ ms ∧ ms.Nodup
    obtain ⟨⟨⟨⟨a1, a2, a3⟩, a4⟩, a5⟩, ⟨⟨_, ⟨b1, b2⟩, b3⟩, _, b4⟩, _, b5⟩ := c3
    exact ⟨⟨a1, a2, a4, a5, a3⟩, ⟨b3 aS rfl aH (.inl rfl), b4 aS (.inl rfl) aT rfl, b5 aS (.inl (.inl rfl)) aC rfl, fun z => b3 aS rfl aS (.inr z) rfl⟩, ⟨b4 aH (.inr (.inl rfl)) aT rfl, b5 aH (.inl (.inr (.inl rfl))) aC rfl, b1⟩, ⟨b5 aT (.inr rfl) aC rfl, fun z => b4 aT (.inr (.inr z)) aT rfl rfl⟩, fun z => b5 aC (.inl (.inr (.inr z))) aC rfl rfl, b2⟩
  · show ms.length = (List.replicate (Ts.length + 1) (List.replicate R.fs.length (0 : Int))).length
    rw [List.length_replicate, hm]
  · have e2' : (List.replicate (Ts.length + 1) (List.replicate R.fs.length (0 : Int)))[i]? = some l := e2
    have el : l = List.replicate R.fs.length 0 := (List.mem_replicate.mp (List.mem_of_getElem? e2')).2
    have hm' : m ∈ ms := List.mem_of_getElem? e1
    rw [el, List.map_replicate]
    exact at_ _ _ (List.mem_append_left _ (List.mem_append_left _ (List.mem_append_right _ (List.mem_cons_of_mem _ (List.mem_map.mpr ⟨m, hm', rfl⟩)))))
theorem xd_tup2 {M : Mode K} {G : List (Option Dt)} {ta : TA} {a b : Dt} (h : Xa M G ta (· = [a, b])) : Xd M G (tTup ta) (.tup [a, b]) := xd_tup h (show (2 : Nat) ≤ 100000 by decide)
theorem xd_tup3 {M : Mode K} {G : List (Option Dt)} {ta : TA} {a b c : Dt} (h : Xa M G ta (· = [a, b, c])) : Xd M G (tTup ta) (.tup [a, b, c]) := xd_tup h (show (3 : Nat) ≤ 100000 by decide)
/-! ### run -/
theorem wf_init {R : Rl} {Ts : List Tb} (t : TWf Ts) : Wf R Ts (Sd.init Ts.length R.fs.length) := by
  have z0 : inT Ts 0 := inT_zero t
  refine ⟨List.length_replicate, List.length_replicate, List.length_replicate, fun m hm => ?_, fun m hm v hv => ?_, fun v hv => ?_, fun v hv => ?_⟩
  · rw [(List.mem_replicate.mp hm).2, List.length_replicate]
  · rw [(List.mem_replicate.mp hm).2] at hv
    rw [(List.mem_replicate.mp hv).2]
    exact z0
  · rw [List.mem_singleton.mp hv]
    exact z0
  · rw [(List.mem_replicate.mp hv).2]
    exact Int.le_refl 0
theorem fit_init {R : Rl} {Ts : List Tb} (r : RlOk R) (t : TWf Ts) : Fit 1 R Ts (Sd.init Ts.length R.fs.length) := ⟨⟨r.fs.lo, r.fs.hi⟩, t, wf_init t, Nat.le_refl 1, by decide⟩
/-- what stands behind the first deeds -/
def beh (R : Rl) (T : List Tb) (s : Sd) (xs : List Deed) (i : Nat) : Sd := lastM R T s (xs.take i)
theorem last_app (R : Rl) (T : List Tb) : ∀ (xs : List Deed) (s : Sd) (x : Deed), lastM R T s (xs ++ [x]) = (doM R T (lastM R T s xs) x).1
  | [], _, _ => rfl
  | y :: xs, s, x => last_app R T xs (doM R T s y).1 x
theorem run_app (R : Rl) (T : List Tb) : ∀ (xs : List Deed) (s : Sd) (x : Deed), runM R T s (xs ++ [x]) = runM R T s xs ++ [doM R T (lastM R T s xs) x]
  | [], _, _ => rfl
  | y :: xs, s, x => by
    show doM R T s y :: runM R T (doM R T s y).1 (xs ++ [x]) = _
    rw [run_app R T xs (doM R T s y).1 x]
    rfl
theorem ok_at (R : Rl) (T : List Tb) : ∀ (xs : List Deed) (s : Sd) (i : Nat) (x : Deed), okAll R T s xs → xs[i]? = some x → okDeed T (lastM R T s (xs.take i)) x
  | [], _, _, _, _, e => by simp at e
  | y :: xs, s, 0, x, h, e => by
    cases (show y = x from Option.some.inj e)
    exact h.1
  | y :: xs, s, i + 1, x, h, e => ok_at R T xs (doM R T s y).1 i x h.2 (by simpa using e)
theorem fit_at {R : Rl} {T : List Tb} (r : RlOk R) : ∀ (xs : List Deed) (s : Sd) (n i : Nat), Fit n R T s → 1 ≤ n → n + xs.length ≤ 1000 → okAll R T s xs → i ≤ xs.length → Fit (n + i) R T (lastM R T s (xs.take i))
  | _, s, n, 0, f, _, _, _, _ => f
  | [], s, n, i + 1, f, _, _, _, h => by simp at h
  | y :: xs, s, n, i + 1, f, n1, hl, ok, h => by
    rw [List.length_cons] at hl h
    have z := fit_at r xs (doM R T s y).1 (n + 1) i (f.step r.at_lt ok.1 n1 (by omega)) (by omega) (by omega) ok.2 (by omega)
    rw [show n + (i + 1) = n + 1 + i by omega]
    exact z
theorem run_len (R : Rl) (T : List Tb) : ∀ (xs : List Deed) (s : Sd), (runM R T s xs).length = xs.length
  | [], _ => rfl
  | y :: xs, s => by
    show (runM R T (doM R T s y).1 xs).length + 1 = _
    rw [run_len R T xs, List.length_cons]
def preRun (ds : List Dt) (r : Dt) : Prop := ∃ R st Ts xs, RlOk R ∧ Setd st Ts ∧ TWf Ts ∧ xs.length ≤ 100 ∧ okAll R Ts (Sd.init Ts.length R.fs.length) xs ∧ ds = [R.dt, st, .lst (xs.map Deed.dt)] ∧ r = .lst ((runM R Ts (Sd.init Ts.length R.fs.length) xs).map fun p => p.1.told3 p.2)
theorem c_run (T : Txt w K mg) : Cal P w K mg base 6 "run" ["rule", "setting", "history"] (spP K preRun) := by
  refine cal_run T fun f fd F => pure_ok F sc_run ?_ fun cdv A outer s H σ Q E B ds r hr hp h k => ?_
  · rintro ds r ⟨R, st, Ts, xs, _, _, _, _, _, rfl, rfl⟩
    rfl
  · obtain ⟨R, st, Ts, xs, rok, sd, tw, xl, okx, rfl, rfl⟩ := hp
    refine ⟨_, (pss_cons (ps_par (i := 3) (j := 4) rfl sc_run.nd rfl rfl (by decide) rfl rfl (pa_cons (pe_mak (m_Stand T) (hr.mono (by decide)) (by rfl) (pa_cons (pv 0) (pa_cons (pe_cal (c_tables_of T) (hr.mono (by decide)) (by rfl) (pa_cons (pv 1) pa_nil)) pa_nil))) (pa_cons (pe_lst pa_nil) pa_nil)) (by rfl))
    (pss_cons (ps_for PassesOwn.never rfl (pi_enum (by rfl) T.f_enumerate (pa_cons (pe_ifExp (pt_val (pe_cal (c_is_row T) (hr.mono (by decide)) (by rfl) (pa_cons (pv 2) pa_nil))) (pv 2) (pe_lst (pa_cons pe_non pa_nil))) pa_nil)) (pg_tup rfl (pgs_cons (pg_name (i := 5) sc_run.nd rfl (Or.inl rfl)) (pgs_cons (pg_name (i := 6) sc_run.nd rfl (Or.inl rfl)) pgs_nil))) (pss_cons (ps_if (pt_not (pt_val (pe_met (t_Stand_can_do T) (hr.mono (by decide)) (pv 3) (pa_cons (pv 6) pa_nil)))) pss_never pss_nil)
    (pss_cons (ps_set (i := 7) sc_run.nd rfl (Or.inl rfl) (pe_met (t_Stand_do T) (hr.mono (by decide)) (pv 3) (pa_cons (pv 6) pa_nil)))
    (pss_one (ps_expr (pe_bm PySem.F.plainAttrs_list PySem.F.slot_list_append PySem.F.type_list_append mt_append (pv 4) (pa_cons (pe_tup (pa_cons (pe_callTy call_tupQ (by rfl) T.f_tuple (by decide +kernel) (pa_cons (pe_fld (pv 3) rfl) pa_nil)) (pa_cons (pe_callTy call_tupQ (by rfl) T.f_tuple (by decide +kernel) (pa_cons (pe_lc (own := [("mark", 8)]) rfl sc_run.nd (pi_list (pe_fld (pv 3) rfl)) (blkOk_by (by kernel_rfl)) (fun _ _ _ _ _ => (pg_name (i := 8) sc_run.nd rfl (Or.inl rfl))) (fun _ _ _ _ _ => pts_nil) (fun _ _ _ _ _ => (pe_callTy (call_tupQK K) (by rfl) T.f_tuple (by decide +kernel) (pa_cons (pv 8) pa_nil)))) pa_nil)) (pa_cons (pv 7) pa_nil)))) pa_nil)))))))
    (pss_one (ps_ret (pv 4))))), ?_⟩
    refine q_parStand tw.hi rok.fs.hi (xad_cons (x_var rfl) (xad_cons (x_call (xad_cons (x_var rfl) xa_nil) (by exact ⟨st, Ts, sd, rfl, rfl⟩)) xa_nil)) h fun A q σ1 H1 h => ?_
    let s0 := Sd.init Ts.length R.fs.length
    let out : Nat → List Dt := fun i => (runM R Ts s0 (xs.take i)).map fun p => p.1.told3 p.2
    refine q_for (α := Adr × Nat) (js := [5, 6]) (ds := enumD 0 (xs.map Deed.dt)) h (xi_enum (Xe.is (xd_if (b := true) (d := .lst (xs.map Deed.dt)) (d' := .lst [.non]) (xb_B (x_call (xad_cons (x_var rfl) xa_nil) (by exact ⟨_, _, rfl, .inl rfl, rfl⟩))) (fun _ => x_var rfl) fun e => by cases e) rfl)) (fun a => ((pureM K B).bld q (out a.2)).own (sdO K a.1 R Ts (beh R Ts s0 xs a.2))) (fun a => [some R.dt, some st, some (.lst (xs.map Deed.dt)), some (.raw a.1.p), some (.raw q), none, none, none, none]) (fun a d => G2 [some R.dt, some st, some (.lst (xs.map Deed.dt)), some (.raw a.1.p), some (.raw q), none, none, none, none] 5 6 d) (fun i a => a.2 = i) (A, 0) rfl rfl rfl (fun i d a e _ => ?_) (fun i d a L' σ' H' e ea h => ?_) (fun a σ' H' ea h => ?_)
    · obtain ⟨x, _, rfl⟩ := enumD_of e
      exact xg_two
    · obtain ⟨A1, n⟩ := a
      have ea' : n = i := ea
      subst ea'
      obtain ⟨y, ey, rfl⟩ := enumD_of e
      obtain ⟨x, ex, rfl⟩ := map_got ey
      have hn : n < xs.length := (List.getElem?_eq_some_iff.mp ex).1
      have fit := fit_at rok xs s0 1 n (fit_init rok tw) (Nat.le_refl 1) (by omega) okx (by omega)
      have okd := ok_at R Ts xs s0 n x okx ex
      have enext : beh R Ts s0 xs (n + 1) = (doM R Ts (beh R Ts s0 xs n) x).1 := by
        unfold beh
        rw [take_succ' ex, last_app]
      have eout : out (n + 1) = out n ++ [(doM R Ts (beh R Ts s0 xs n) x).1.told3 (doM R Ts (beh R Ts s0 xs n) x).2] := by
        show ((runM R Ts s0 (xs.take (n + 1))).map _) = _
        rw [take_succ' ex, run_app, List.map_append]
        rfl
      have h : Sg (((pureM K B).bld q (out n)).own (sdO K A1 R Ts (beh R Ts s0 xs n))) H L' [some R.dt, some st, some (.lst (xs.map Deed.dt)), some (.raw A1.p), some (.raw q), some (.int (n : Int)), some x.dt, none, none] σ' H' := h
      apply qd_no h
      · exact Xt.is (xb_not (a := true) (xb_B (x_qry HasO.own rfl (by decide +kernel) (xad_cons (x_var rfl) xa_nil) (pre := preCanDo) (by exact ⟨1 + n, R, Ts, _, x, fit, okd, rfl, rfl⟩) flat_bl))) rfl
      intro H2 h
      refine q_updA (pre := preDo) rfl (by decide +kernel) h (xad_cons (x_var rfl) xa_nil) ⟨1 + n, x, fit, by omega, by omega, rok, okd, rfl, rfl, rfl⟩ fun A2 σ3 H3 ep h => ?_
      have h : Sg (((pureM K B).bld q (out n)).own (sdO K A2 R Ts (doM R Ts (beh R Ts s0 xs n) x).1)) H L' [some R.dt, some st, some (.lst (xs.map Deed.dt)), some (.raw A2.p), some (.raw q), some (.int (n : Int)), some x.dt, some (strsD (doM R Ts (beh R Ts s0 xs n) x).2), none] σ3 H3 := by rw [ep]; exact h
      have hs := h.swap
      have HO : HasO (((pureM K B).own (sdO K A2 R Ts (doM R Ts (beh R Ts s0 xs n) x).1)).bld q (out n)) (sdO K A2 R Ts (doM R Ts (beh R Ts s0 xs n) x).1) := HasO.own.bld
      have fit2 := fit.step rok.at_lt okd (by omega) (by omega)
      have ml := (HasO.at HasO.own h.ok).1.ml
      have hl4 : (doM R Ts (beh R Ts s0 xs n) x).1.held.length ≤ 4 := by
        have z : (doM R Ts (beh R Ts s0 xs n) x).1.held.length = Ts.length + 1 := fit2.w.hl
        have := tw.hi
        omega
      refine ed_app (d := (doM R Ts (beh R Ts s0 xs n) x).1.told3 (doM R Ts (beh R Ts s0 xs n) x).2) hs rfl ?_ ?_ fun H4 h4 => ?_
      · show ((runM R Ts s0 (xs.take n)).map _).length < 100000
        rw [List.length_map, run_len, List.length_take]
        omega
      · refine xd_tup (ds := [intsD (doM R Ts (beh R Ts s0 xs n) x).1.spots, .tup ((doM R Ts (beh R Ts s0 xs n) x).1.held.map intsD), strsD (doM R Ts (beh R Ts s0 xs n) x).2]) (xad_cons (xl_tup (xl_sdSpots HO (x_sdSpots T.c_Stand T.n_Stand_spots HO rfl))) (xad_cons ?_ (xad_cons (x_var rfl) xa_nil))) (show (3 : Nat) ≤ 100000 by decide)
        refine xd_cb (xad_cons (x_lcR (rs := (doM R Ts (beh R Ts s0 xs n) x).1.held.map intsD) (by rw [List.length_map, List.length_map, ml]) (xj_xl (xl_held HO (x_sdHeld T.c_Stand T.n_Stand_held HO rfl))) (fun i d e p acc ed ee => ?_) (hz := by rw [List.length_map]; omega)) xa_nil) rc_tupL
        obtain ⟨m, em, rfl⟩ := map_got ed
        obtain ⟨l, el, rfl⟩ := map_got ee
        exact xl_tup (xl_sdMark HO.bld (x_var rfl) em el)
      · refine ⟨(A2, n + 1), rfl, ?_⟩
        rw [eout, enext]
        exact h4.swap'.weak (by repeat (first | exact GLe.nil | apply GLe.keep | apply GLe.drop))
    · obtain ⟨A1, n⟩ := a
      have hn : n = xs.length := by
        have e : n = (enumD 0 (xs.map Deed.dt)).length := ea
        rw [e, enumD_length, List.length_map]
      subst hn
      have h := h.swap
      have eo : out xs.length = (runM R Ts s0 xs).map fun p => p.1.told3 p.2 := by
        show ((runM R Ts s0 (xs.take xs.length)).map _) = _
        rw [List.take_length]
      rw [eo] at h
      exact e_retB h rfl fun v _ f hv => k v H' f.1 (hv.less fun a z => .inl z)
/-! ### played, faults -/
def G3 (G : List (Option Dt)) (i j l : Nat) (d : Dt) : List (Option Dt) := match d with
  | .tup [a, b, c] => ((G.set i (some a)).set j (some b)).set l (some c)
  | _ => G
def preRunS (out : Rl → List Tb → List Deed → Dt) (ds : List Dt) (r : Dt) : Prop := ∃ R st Ts xs, RlOk R ∧ Setd st Ts ∧ TWf Ts ∧ xs.length ≤ 100 ∧ okAll R Ts (Sd.init Ts.length R.fs.length) xs ∧ ds = [R.dt, st, .lst (xs.map Deed.dt)] ∧ r = out R Ts xs
/-- what stands behind each deed of a history -/
def standsM (R : Rl) (T : List Tb) (xs : List Deed) : List (Sd × List Str) := runM R T (Sd.init T.length R.fs.length) xs
def playedD (R : Rl) (T : List Tb) (xs : List Deed) : Dt := .lst ((standsM R T xs).map fun p => p.1.told)
def pairsD (l : List (Int × Str)) : Dt := .lst (l.map fun p => .tup [.int p.1, .str p.2])
/-- the faults, each with its deed's index -/
def faultsM (n : Nat) : List (Sd × List Str) → List (Int × Str)
  | [] => []
  | p :: ps => (p.2.map fun w => ((n : Int), w)) ++ faultsM (n + 1) ps
def faultsD (R : Rl) (T : List Tb) (xs : List Deed) : Dt := pairsD (faultsM 0 (standsM R T xs))
theorem c_played (T : Txt w K mg) : Cal P w K mg base 7 "played" ["rule", "setting", "history"] (spP K (preRunS playedD)) := by
  refine cal_played T fun f fd F => pure_ok F sc_played ?_ fun cdv A outer s H σ Q E B ds r hr hp h k => ?_
  · rintro ds r ⟨R, st, Ts, xs, _, _, _, _, _, rfl, rfl⟩
    rfl
  · obtain ⟨R, st, Ts, xs, rok, sd, tw, xl, okx, rfl, rfl⟩ := hp
    refine ⟨_, (pss_one (ps_ret (pe_lc (own := [("places", 3), ("marks", 4), ("words", 5)]) rfl sc_played.nd (pi_list (pe_cal (c_run T) (hr.mono (by decide)) (by rfl) (pa_cons (pv 0) (pa_cons (pv 1) (pa_cons (pv 2) pa_nil))))) (blkOk_by (by kernel_rfl)) (fun _ _ _ _ _ => (pgb_tup K 3 rfl (pgs_cons (pg_name (i := 3) sc_played.nd rfl (Or.inl rfl)) (pgs_cons (pg_name (i := 4) sc_played.nd rfl (Or.inl rfl)) (pgs_cons (pg_name (i := 5) sc_played.nd rfl (Or.inl rfl)) pgs_nil))))) (fun _ _ _ _ _ => pts_nil) (fun _ _ _ _ _ => (pe_tup (pa_cons (pv 3) (pa_cons (pv 4) pa_nil))))))), ?_⟩
    have h : Sg (pureM K B) H [] [some R.dt, some st, some (.lst (xs.map Deed.dt)), none, none, none] σ H := h
    apply ed_ret h k
    have hl : (standsM R Ts xs).length = xs.length := run_len R Ts xs _
    refine Xe.is (x_lcMap (js := [3, 4, 5]) (ds := (standsM R Ts xs).map fun p => p.1.told3 p.2) (G' := G3 (wipeG [some R.dt, some st, some (.lst (xs.map Deed.dt)), none, none, none] [3, 4, 5]) 3 4 5) (fun d => match d with | .tup [a, b, _] => .tup [a, b] | _ => .non) (xi_list (x_call (xad_cons (x_var rfl) (xad_cons (x_var rfl) (xad_cons (x_var rfl) xa_nil))) (by exact ⟨R, st, Ts, xs, rok, sd, tw, xl, okx, rfl, rfl⟩))).j (fun i d e p acc => ?_) (fun j hj => hj) (fun i d p acc e => ?_) (by rw [List.length_map, hl]; omega)) ?_
    · obtain ⟨q, _, rfl⟩ := map_got e
      exact xg_three
    · obtain ⟨q, _, rfl⟩ := map_got e
      exact xd_tup2 (xad_cons (x_var rfl) (xad_cons (x_var rfl) xa_nil))
    · rw [List.map_map]
      rfl
theorem faultsM_app (ps : List (Sd × List Str)) (q : Sd × List Str) : ∀ n : Nat, faultsM n (ps ++ [q]) = faultsM n ps ++ q.2.map fun w => (((n + ps.length : Nat) : Int), w) := by
  induction ps with
  | nil =>
    intro n
    show (q.2.map fun w => ((n : Int), w)) ++ [] = _
    rw [List.append_nil]
    rfl
  | cons p ps ih =>
    intro n
    show _ ++ faultsM (n + 1) (ps ++ [q]) = _
    rw [ih, ← List.append_assoc, List.length_cons, show n + 1 + ps.length = n + (ps.length + 1) by omega]
    rfl
theorem faults_len (ps : List (Sd × List Str)) (hp : ∀ p ∈ ps, p.2.length ≤ 20) : ∀ n : Nat, (faultsM n ps).length ≤ 20 * ps.length := by
  induction ps with
  | nil => intro n; exact Nat.le_refl 0
  | cons p ps ih =>
    intro n
    show (_ ++ faultsM (n + 1) ps).length ≤ _
    rw [List.length_append, List.length_map, List.length_cons]
    have h1 := hp p List.mem_cons_self
    have h2 := ih (fun q hq => hp q (List.mem_cons_of_mem _ hq)) (n + 1)
    omega
theorem one_le (p : Prop) [Decidable p] (z : Str) : (if p then [z] else []).length ≤ 1 := by split <;> simp
theorem do_len (R : Rl) (T : List Tb) (s : Sd) (x : Deed) : (doM R T s x).2.length ≤ 20 := by
  have l : ∀ s, (lostW s).length ≤ 1 := fun s => one_le _ _
  cases x with
  | take d =>
    show (takeF _ _ _ _ ++ lostW _).length ≤ 20
    unfold takeF
    rw [List.length_append, List.length_append, List.length_append]
    have a1 := one_le (sg (takeM R (tg T d) T.length d s).spots d < sg s.spots d) "back"
    have a2 := one_le (sg (takeM R (tg T d) T.length d s).spots d ≠ sg s.spots d ∧ sg (takeM R (tg T d) T.length d s).spots d > (takeM R (tg T d) T.length d s).row) "ahead"
    have a3 := one_le (sg (takeM R (tg T d) T.length d s).spots d ≠ sg s.spots d ∧ sg (takeM R (tg T d) T.length d s).spots d ∉ (takeM R (tg T d) T.length d s).come.map (kern (tg T d))) "nobody"
    have a4 := l (takeM R (tg T d) T.length d s)
    omega
  | go rd d e => exact Nat.le_trans (l _) (by decide)
  | anew d => exact Nat.le_trans (l _) (by decide)
  | give d => exact Nat.le_trans (l _) (by decide)
theorem run_mem (R : Rl) (T : List Tb) : ∀ (xs : List Deed) (s : Sd) (p : Sd × List Str), p ∈ runM R T s xs → p.2.length ≤ 20
  | [], _, _, h => by cases h
  | y :: xs, s, p, h => by
    rcases List.mem_cons.mp h with e | e
    · rw [e]
      exact do_len R T s y
    · exact run_mem R T xs _ p e
theorem c_faults (T : Txt w K mg) : Cal P w K mg base 7 "faults" ["rule", "setting", "history"] (spP K (preRunS faultsD)) := by
  refine cal_faults T fun f fd F => pure_ok F sc_faults ?_ fun cdv A outer s H σ Q E B ds r hr hp h k => ?_
  · rintro ds r ⟨R, st, Ts, xs, _, _, _, _, _, rfl, rfl⟩
    rfl
  · obtain ⟨R, st, Ts, xs, rok, sd, tw, xl, okx, rfl, rfl⟩ := hp
    refine ⟨_, (pss_cons (ps_set (i := 3) sc_faults.nd rfl (Or.inl rfl) (pe_lst pa_nil))
    (pss_cons (ps_for PassesOwn.never rfl (pi_enum (by rfl) T.f_enumerate (pa_cons (pe_cal (c_run T) (hr.mono (by decide)) (by rfl) (pa_cons (pv 0) (pa_cons (pv 1) (pa_cons (pv 2) pa_nil)))) pa_nil)) (pg_tup rfl (pgs_cons (pg_name (i := 4) sc_faults.nd rfl (Or.inr rfl)) (pgs_cons (pg_tup rfl (pgs_cons (pg_name (i := 5) sc_faults.nd rfl (Or.inl rfl)) (pgs_cons (pg_name (i := 6) sc_faults.nd rfl (Or.inl rfl)) (pgs_cons (pg_name (i := 7) sc_faults.nd rfl (Or.inl rfl)) pgs_nil)))) pgs_nil))) (pss_one (ps_expr (pe_bm PySem.F.plainAttrs_list PySem.F.slot_list_extend PySem.F.type_list_extend mt_extend (pv 3) (pa_cons (pe_lc (own := [("word", 8)]) rfl sc_faults.nd (pi_list (pv 7)) (blkOk_by (by kernel_rfl)) (fun _ _ _ _ _ => (pg_name (i := 8) sc_faults.nd rfl (Or.inl rfl))) (fun _ _ _ _ _ => pts_nil) (fun _ _ _ _ _ => (pe_tup (pa_cons (pv 4) (pa_cons (pv 8) pa_nil))))) pa_nil)))))
    (pss_one (ps_ret (pv 3))))), ?_⟩
    apply q_new0 h
    intro p σ1 H1 h
    have hl : (standsM R Ts xs).length = xs.length := run_len R Ts xs _
    let acc : Nat → List Dt := fun i => (faultsM 0 ((standsM R Ts xs).take i)).map fun p => .tup [.int p.1, .str p.2]
    have h : Sg ((pureM K B).bld p (acc 0)) H [] [some R.dt, some st, some (.lst (xs.map Deed.dt)), some (.raw p), none, none, none, none, none] σ1 H1 := h
    refine q_forD (js := [4, 5, 6, 7]) (ds := enumD 0 ((standsM R Ts xs).map fun p => p.1.told3 p.2)) (fun i => (pureM K B).bld p (acc i)) (fun _ => [some R.dt, some st, some (.lst (xs.map Deed.dt)), some (.raw p), none, none, none, none, none]) (fun _ d => match d with
      | .tup [i, .tup [a, b, c]] => [some R.dt, some st, some (.lst (xs.map Deed.dt)), some (.raw p), some i, some a, some b, some c, none]
      | _ => []) h (xi_enum (x_call (xad_cons (x_var rfl) (xad_cons (x_var rfl) (xad_cons (x_var rfl) xa_nil))) (by exact ⟨R, st, Ts, xs, rok, sd, tw, xl, okx, rfl, rfl⟩))) (fun i d e => ?_) (fun i d L' σ' H' e h => ?_) fun σ' H' h => ?_
    · obtain ⟨x, ex, rfl⟩ := enumD_of e
      obtain ⟨q, _, rfl⟩ := map_got ex
      exact xg_tup (xgs_cons xg_name (xgs_cons xg_three xgs_nil)) rfl
    · obtain ⟨x, ex, rfl⟩ := enumD_of e
      obtain ⟨q, eq, rfl⟩ := map_got ex
      have hi : i < (standsM R Ts xs).length := (List.getElem?_eq_some_iff.mp eq).1
      have h : Sg ((pureM K B).bld p (acc i)) H L' [some R.dt, some st, some (.lst (xs.map Deed.dt)), some (.raw p), some (.int (i : Int)), some (intsD q.1.spots), some (.tup (q.1.held.map intsD)), some (strsD q.2), none] σ' H' := h
      have lq := run_mem R Ts xs _ q (List.mem_of_getElem? eq)
      have la : (acc i).length ≤ 2000 := by
        rw [List.length_map]
        have z := faults_len ((standsM R Ts xs).take i) (fun q hq => run_mem R Ts xs _ q (List.mem_of_mem_take hq)) 0
        rw [List.length_take] at z
        omega
      refine ed_ext (es := q.2.map fun w => .tup [.int (i : Int), .str w]) h rfl (Nat.le_trans (Nat.add_le_add la (Nat.le_trans (Nat.le_of_eq (List.length_map _)) lq)) (by decide)) ?_ fun H2 h => ?_
      · refine Xe.is (x_lcN (ds := q.2.map .str) (fun d => .tup [.int (i : Int), d]) (xi_list (x_var rfl)).j (fun j d q2 acc e => ?_) (hz := by rw [List.length_map]; omega)) (by rw [List.map_map]; rfl)
        exact xd_tup2 (xad_cons (x_var rfl) (xad_cons (x_var rfl) xa_nil))
      · have e2 : acc (i + 1) = acc i ++ q.2.map fun w => .tup [.int (i : Int), .str w] := by
          show (faultsM 0 ((standsM R Ts xs).take (i + 1))).map _ = _
          rw [take_succ' eq, faultsM_app, List.map_append, List.map_map, List.length_take, Nat.min_eq_left (by omega), Nat.zero_add]
          rfl
        rw [e2]
        exact h.weak (by repeat (first | exact GLe.nil | apply GLe.keep | apply GLe.drop))
    · have e3 : acc (enumD 0 ((standsM R Ts xs).map fun p => p.1.told3 p.2)).length = (faultsM 0 (standsM R Ts xs)).map fun p => .tup [.int p.1, .str p.2] := by
        show (faultsM 0 ((standsM R Ts xs).take _)).map _ = _
        rw [enumD_length, List.length_map, List.take_length]
      rw [e3] at h
      exact e_retB h rfl fun v _ f hv => k v H' f hv
end
end Lf

/-! values of which only something is known; the state of the draws -/
namespace Lf
open PySem PySem.Spec PyProof.Rows L2
section
variable {K : PySem.W.Frag} {M : Mode K} {G : List (Option Dt)}
/-- an int of which P holds -/
abbrev XI (M : Mode K) (G : List (Option Dt)) (te : TE) (P : Int → Prop) : Prop := Xe M G te fun d => ∃ i, d = .int i ∧ P i
abbrev XB (M : Mode K) (G : List (Option Dt)) (te : TE) : Prop := Xe M G te fun d => ∃ b, d = .bl b ∧ True
theorem xI_of {te : TE} {i : Int} {P : Int → Prop} (h : Xd M G te (.int i)) (p : P i) : XI M G te P := h.mono fun _ e => ⟨i, e, p⟩
theorem xI_any {te : TE} {P : Int → Prop} (h : XI M G te P) : XI M G te fun _ => True := h.mono fun _ ⟨i, e, _⟩ => ⟨i, e, trivial⟩
theorem xI_op0 {ta tb : TE} {Pa Pb P : Int → Prop} {f : Int → Int → Int} (ha : XI M G ta Pa) (hb : XI M G tb Pb) (h : ∀ i j, Pa i → Pb j → P (f i j)) : XI M G (tOp (rI0 fun i j => .int (f i j)) ta tb) P :=
  x_op ha hb fun a b ⟨i, ea, pa⟩ ⟨j, eb, pb⟩ => by
    subst ea
    subst eb
    exact fun x y H Q ok hx hy k => rv_int x y H Q ok hx hy fun v d H2 r e hv => k v d H2 r ⟨_, e, h i j pa pb⟩ hv
theorem xI_op {ta tb : TE} {Pa Pb P : Int → Prop} {C : Int → Int → Prop} {f : Int → Int → Int} (ha : XI M G ta Pa) (hb : XI M G tb Pb) (hc : ∀ i j, Pa i → Pb j → C i j) (h : ∀ i j, Pa i → Pb j → P (f i j)) : XI M G (tOp (rI C fun i j => .int (f i j)) ta tb) P :=
  x_op ha hb fun a b ⟨i, ea, pa⟩ ⟨j, eb, pb⟩ => by
    subst ea
    subst eb
    exact fun x y H Q ok hx hy k => rv_intC (hc i j pa pb) x y H Q ok hx hy fun v d H2 r e hv => k v d H2 r ⟨_, e, h i j pa pb⟩ hv
theorem xI_cmp {ta tb : TE} {Pa Pb : Int → Prop} {f : Int → Int → Bool} (ha : XI M G ta Pa) (hb : XI M G tb Pb) : XB M G (tOp (rI0 fun i j => .bl (f i j)) ta tb) :=
  x_op ha hb fun a b ⟨i, ea, pa⟩ ⟨j, eb, pb⟩ => by
    subst ea
    subst eb
    exact fun x y H Q ok hx hy k => rv_cmp x y H Q ok hx hy fun v d H2 r e hv => k v d H2 r ⟨_, e, trivial⟩ hv
theorem xI_eq {ta tb : TE} {Pa Pb : Int → Prop} (ha : XI M G ta Pa) (hb : XI M G tb Pb) : XB M G (tOp rEq ta tb) :=
  x_op ha hb fun a b ⟨i, ea, pa⟩ ⟨j, eb, pb⟩ => by
    subst ea
    subst eb
    exact fun x y H Q ok hx hy k => rv_eqI x y H Q ok hx hy fun v d H2 r e hv => k v d H2 r ⟨_, e, trivial⟩ hv
theorem xI_int {te : TE} {P : Int → Prop} (h : XI M G te P) : XI M G (tCB rIntQ (tCons te tNil)) P :=
  x_cb (P := fun ds => ∃ i, ds = [.int i] ∧ P i) (xa_cons h xa_nil fun d ds ⟨i, e, p⟩ er => ⟨i, by rw [e, er], p⟩) fun ds ⟨i, e, p⟩ => by
    rw [e]
    exact fun vs H Q ok hs k => rc_int vs H Q ok hs fun v d H2 r e hv => k v d H2 r ⟨i, e, p⟩ hv
/-- tests of which nothing is known -/
abbrev XT (M : Mode K) (G : List (Option Dt)) (t : TT) : Prop := Xt M G t fun _ => True
theorem xT_test {te : TE} (h : XB M G te) : XT M G (tTest te) := xt_test h
theorem xT_B {te : TE} (h : XB M G te) : XT M G (tB te) := xt_B h
theorem xT_and {t u : TT} (h1 : XT M G t) (h2 : XT M G u) : XT M G (tAnd t u) := xt_and h1 (fun _ => h2) (fun _ => trivial) fun _ _ => trivial
theorem xT_or {t u : TT} (h1 : XT M G t) (h2 : XT M G u) : XT M G (tOr t u) := xt_or h1 (fun _ => h2) (fun _ => trivial) fun _ _ => trivial
theorem xB_or {ta tb : TE} (h1 : XB M G ta) (h2 : XB M G tb) : XB M G (tOrV ta tb) := fun σ H Q ok e k =>
  h1 σ H _ ok e fun v d H1 r1 ⟨a, ed, _⟩ hv => by
    rw [ed] at hv
    refine ⟨a, hv, ?_⟩
    cases a with
    | false =>
      show tb σ H1 Q
      exact h2 σ H1 Q (M.stab ok r1) (e.keep (M.keep r1)) fun v' d' H2 r2 pd' hv' => k v' d' H2 (M.trans r1 r2) pd' hv'
    | true =>
      show Q (.bl true) H1
      exact k _ _ H1 r1 ⟨true, rfl, trivial⟩ rfl
end
/-! ### the state -/
section
variable {K : PySem.W.Frag} {B : Addr → Prop} {st c : Addr} {ns : List Int} {hB : B st} {G : List (Option Dt)} {i : Nat}
theorem st_var (hi : G[i]? = some (some (.raw st))) {σ : L2.St} {H : Hp} {B' : Addr → Prop} (he : Env K B' H G σ) : σ[i]? = some (some (V.ref st)) := by
  obtain ⟨v, e1, e2⟩ := he.2 i _ hi
  rw [e1, show v = V.ref st from e2]
theorem x_st0 (hi : G[i]? = some (some (.raw st))) : Xd (stM K B st c ns hB) G (tOp (rIxL K) (tVar i) (tC (.int 0))) (.raw c) := fun σ H Q ok e k => by
  obtain ⟨_, _, n, m, b, h3⟩ := ok.2
  exact ⟨_, st_var hi e, st, _, 0, .ref c, rfl, rfl, SqL.of h3, rfl, k _ _ H (Ks.refl H) rfl rfl⟩
theorem x_st1 (hi : G[i]? = some (some (.raw st))) : XI (stM K B st c ns hB) G (tOp (rIxL K) (tVar i) (tC (.int 1))) fun _ => True := fun σ H Q ok e k => by
  obtain ⟨_, _, n, m, b, h3⟩ := ok.2
  exact ⟨_, st_var hi e, st, _, 1, .int n, rfl, rfl, SqL.of h3, rfl, k _ (.int n) H (Ks.refl H) ⟨n, rfl, trivial⟩ rfl⟩
theorem x_st2 (hi : G[i]? = some (some (.raw st))) : XI (stM K B st c ns hB) G (tOp (rIxL K) (tVar i) (tC (.int 2))) fun _ => True := fun σ H Q ok e k => by
  obtain ⟨_, _, n, m, b, h3⟩ := ok.2
  exact ⟨_, st_var hi e, st, _, 2, .int m, rfl, rfl, SqL.of h3, rfl, k _ (.int m) H (Ks.refl H) ⟨m, rfl, trivial⟩ rfl⟩
theorem x_st3 (hi : G[i]? = some (some (.raw st))) : XB (stM K B st c ns hB) G (tOp (rIxL K) (tVar i) (tC (.int 3))) := fun σ H Q ok e k => by
  obtain ⟨_, _, n, m, b, h3⟩ := ok.2
  exact ⟨_, st_var hi e, st, _, 3, .bl b, rfl, rfl, SqL.of h3, rfl, k _ (.bl b) H (Ks.refl H) ⟨b, rfl, trivial⟩ rfl⟩
theorem xl_cells {te : TE} (h : Xd (stM K B st c ns hB) G te (.raw c)) : XL (stM K B st c ns hB) G te (ns.map .int) := fun σ H Q ok e k => h σ H _ ok e fun v d H1 r1 ed hv => by
  rw [ed] at hv
  rw [show v = V.ref c from hv]
  obtain ⟨h1, h2, _⟩ := r1.2 ok.2
  exact k c _ H1 r1 fun H3 r3 => ⟨r3.1 c _ h1.1 h2, AtAll.ints.mpr rfl⟩
variable {H0 H : Hp} {L : List (Dt × V)} {σ : L2.St} {n b c' : L2.St → Hp → Prop} {r : VK} {u : TS} {te : TE}
theorem s_stI {D : Ends} {P : Int → Prop} (j : Int) (hj : j = 1 ∨ j = 2) (hi : G[i]? = some (some (.raw st))) (x : XI (stM K B st c ns hB) G te P) (h : Sg (stM K B st c ns hB) H0 L G σ H) (k : ∀ H', Sg (stM K B st c ns hB) H0 L G σ H' → D.nx σ H') : tAsg te (gSub (tVar i) (tC (.int j)) rSetL) D σ H :=
  x σ H _ h.ok h.env fun v d H1 r1 ⟨z, ed, _⟩ hv => by
    rw [ed] at hv
    have h1 := h.go r1
    obtain ⟨e1, e2, n', m', b', h3⟩ := h1.ok.2
    have kk : ∀ xs : List V, (∃ (n k : Int) (m : Bool), xs = [.ref c, .int n, .int k, .bl m]) → Ks st c ns H1 (upd H1 st (.lst xs)) := fun xs ⟨n, k, m, ex⟩ => ⟨fun a o na e => by rw [upd_ne na]; exact e, fun h0 => ⟨h0.1, by rw [upd_ne h0.1.1]; exact h0.2.1, n, k, m, by rw [upd_same, ex]⟩⟩
    refine ⟨_, st_var hi h1.env, ?_⟩
    rcases hj with q | q <;> subst q
    · exact ⟨st, _, 1, 1, rfl, rfl, h3, rfl, k _ (h1.go (kk _ ⟨z, m', b', by rw [show v = V.int z from hv]; rfl⟩))⟩
    · exact ⟨st, _, 2, 2, rfl, rfl, h3, rfl, k _ (h1.go (kk _ ⟨n', z, b', by rw [show v = V.int z from hv]; rfl⟩))⟩
theorem s_stB {D : Ends} (hi : G[i]? = some (some (.raw st))) (x : XB (stM K B st c ns hB) G te) (h : Sg (stM K B st c ns hB) H0 L G σ H) (k : ∀ H', Sg (stM K B st c ns hB) H0 L G σ H' → D.nx σ H') : tAsg te (gSub (tVar i) (tC (.int 3)) rSetL) D σ H :=
  x σ H _ h.ok h.env fun v d H1 r1 ⟨z, ed, _⟩ hv => by
    rw [ed] at hv
    have h1 := h.go r1
    obtain ⟨e1, e2, n', m', b', h3⟩ := h1.ok.2
    refine ⟨_, st_var hi h1.env, st, _, 3, 3, rfl, rfl, h3, rfl, k _ (h1.go ⟨fun a o na e => by rw [upd_ne na]; exact e, fun h0 => ⟨h0.1, by rw [upd_ne h0.1.1]; exact h0.2.1, n', m', z, by rw [upd_same, show v = V.bl z from hv]; rfl⟩⟩)⟩
theorem q_stI {P : Int → Prop} (j : Int) (hj : j = 1 ∨ j = 2) (hi : G[i]? = some (some (.raw st))) (x : XI (stM K B st c ns hB) G te P) (h : Sg (stM K B st c ns hB) H0 L G σ H) (k : ∀ H', Sg (stM K B st c ns hB) H0 L G σ H' → u ⟨n, r, b, c'⟩ σ H') : tSeq (tAsg te (gSub (tVar i) (tC (.int j)) rSetL)) u ⟨n, r, b, c'⟩ σ H :=
  s_stI (D := ⟨u ⟨n, r, b, c'⟩, r, b, c'⟩) j hj hi x h k
theorem e_stI {P : Int → Prop} (j : Int) (hj : j = 1 ∨ j = 2) (hi : G[i]? = some (some (.raw st))) (x : XI (stM K B st c ns hB) G te P) (h : Sg (stM K B st c ns hB) H0 L G σ H) (k : ∀ H', Sg (stM K B st c ns hB) H0 L G σ H' → n σ H') : tAsg te (gSub (tVar i) (tC (.int j)) rSetL) ⟨n, r, b, c'⟩ σ H :=
  s_stI (D := ⟨n, r, b, c'⟩) j hj hi x h k
theorem q_stB (hi : G[i]? = some (some (.raw st))) (x : XB (stM K B st c ns hB) G te) (h : Sg (stM K B st c ns hB) H0 L G σ H) (k : ∀ H', Sg (stM K B st c ns hB) H0 L G σ H' → u ⟨n, r, b, c'⟩ σ H') : tSeq (tAsg te (gSub (tVar i) (tC (.int 3)) rSetL)) u ⟨n, r, b, c'⟩ σ H :=
  s_stB (D := ⟨u ⟨n, r, b, c'⟩, r, b, c'⟩) hi x h k
end
section
variable {K : PySem.W.Frag} {M : Mode K} {G : List (Option Dt)} {H0 H : Hp} {L : List (Dt × V)} {σ : L2.St} {n b c : L2.St → Hp → Prop} {r : VK} {u v w : TS} {t : TT} {te : TE} {i : Nat}
/-- branches of which nothing is known, which come together -/
theorem qT_join (M' : Mode K) (G' : List (Option Dt)) (h : Sg M H0 L G σ H) (x : XT M G t) (k : ∀ σ2 H2, Sg M' H0 L G' σ2 H2 → v ⟨n, r, b, c⟩ σ2 H2)
    (h1 : (∀ σ2 H2, Sg M' H0 L G' σ2 H2 → v ⟨n, r, b, c⟩ σ2 H2) → ∀ H', Sg M H0 L G σ H' → u ⟨v ⟨n, r, b, c⟩, r, b, c⟩ σ H') (h2 : ∀ H', Sg M H0 L G σ H' → Sg M' H0 L G' σ H') : tSeq (tIfS t u tNext) v ⟨n, r, b, c⟩ σ H :=
  q_when h x (fun _ => h1 k) fun _ H' h => k σ H' (h2 H' h)
theorem qT_joinP (J : L2.St → Hp → Prop) (h : Sg M H0 L G σ H) (x : XT M G t) (k : ∀ σ2 H2, J σ2 H2 → v ⟨n, r, b, c⟩ σ2 H2)
    (h1 : (∀ σ2 H2, J σ2 H2 → v ⟨n, r, b, c⟩ σ2 H2) → ∀ H', Sg M H0 L G σ H' → u ⟨v ⟨n, r, b, c⟩, r, b, c⟩ σ H') (h2 : ∀ H', Sg M H0 L G σ H' → J σ H') : tSeq (tIfS t u tNext) v ⟨n, r, b, c⟩ σ H :=
  q_when h x (fun _ => h1 k) fun _ H' h => k σ H' (h2 H' h)
theorem qd_joinP {f : Bool} (J : L2.St → Hp → Prop) (h : Sg M H0 L G σ H) (x : Xb M G t f) (k : ∀ σ2 H2, J σ2 H2 → v ⟨n, r, b, c⟩ σ2 H2)
    (h1 : (∀ σ2 H2, J σ2 H2 → v ⟨n, r, b, c⟩ σ2 H2) → f = true → ∀ H', Sg M H0 L G σ H' → u ⟨v ⟨n, r, b, c⟩, r, b, c⟩ σ H') (h2 : f = false → ∀ H', Sg M H0 L G σ H' → J σ H') : tSeq (tIfS t u tNext) v ⟨n, r, b, c⟩ σ H :=
  qd_when h x (h1 k) fun e H' h => k σ H' (h2 e H' h)
theorem eT_when (h : Sg M H0 L G σ H) (x : XT M G t) (h1 : ∀ H', Sg M H0 L G σ H' → u ⟨n, r, b, c⟩ σ H') (h2 : ∀ H', Sg M H0 L G σ H' → n σ H') : tIfS t u tNext ⟨n, r, b, c⟩ σ H :=
  s_if (D := ⟨n, r, b, c⟩) x h (fun _ => h1) fun _ => h2
/-- x += e -/
theorem q_aug {f : Int → Int → Int} {a z : Int} (hi : G[i]? = some (some (.int a))) (h : Sg M H0 L G σ H) (x : Xd M G te (.int z)) (k : ∀ σ' H', Sg M H0 L (G.set i (some (.int (f a z)))) σ' H' → u ⟨n, r, b, c⟩ σ' H') : tSeq (tAug i te (ipI f)) u ⟨n, r, b, c⟩ σ H := by
  obtain ⟨v, e1, e2⟩ := h.env.2 i _ hi
  exact ⟨v, e1, x σ H _ h.ok h.env fun y dy H1 r1 ed hy => by
    rw [ed] at hy
    exact ⟨a, z, e2, hy, k _ _ ((h.go r1).set rfl)⟩⟩
end
end Lf

namespace Lf
open PySem PySem.Spec PyProof.Rows L2
local macro_rules | `(tactic| walk_at "rv") => `(tactic| with_reducible first
  | exact rv_int | exact rv_cmp | exact rv_eqI | exact rv_neI | exact rv_eqS | exact rv_neS | exact rv_eqB | exact rv_neB)
local macro_rules | `(tactic| walk_at "xd") => `(tactic| first
  | (with_reducible first | exact x_int | exact x_str | exact x_bl | exact x_non | exact x_ty | exact x_ref)
  | ((with_reducible apply x_var); exact rfl)
  | ((with_reducible apply xd_op); (walk_at "xd"); (walk_at "xd"); (walk_at "rv"))
  | ((with_reducible apply xd_if); (walk_at "xb"); (intro _; walk_at "xd"); (intro _; walk_at "xd"))
  | ((with_reducible apply xd_tup); (walk_at "xa"); (first | decide | assumption | omega))
  | ((with_reducible apply xd_lst); (walk_at "xa"); (first | decide | assumption | omega)))
local macro_rules | `(tactic| walk_at "xb") => `(tactic| first
  | ((with_reducible apply xb_test); (walk_at "xd"))
  | ((with_reducible apply xb_B); (walk_at "xd"))
  | ((with_reducible apply xb_and); (walk_at "xb"); (intro _; walk_at "xb"))
  | ((with_reducible apply xb_or); (walk_at "xb"); (intro _; walk_at "xb"))
  | ((with_reducible apply xb_not); (walk_at "xb")))
local macro_rules | `(tactic| walk_at "xa") => `(tactic| first
  | (with_reducible exact xa_nil)
  | ((with_reducible apply xad_cons); (walk_at "xd"); (walk_at "xa")))

/-! ### draws -/
section
variable {P : Program} {w : World} {K : PySem.W.Frag} {mg : Str → Option Value} {base : Heap}
/-- a new state, of a script -/
def spFr (K : PySem.W.Frag) : Sp := fun vs H Q _ => ∃ (l : Addr) (ns : List Int), vs = [.ref l] ∧ SqL K H l (ns.map V.int) ∧ ∀ c st H', Same H H' → H c = none → H st = none → StOk st c (ns.take 63) H' → Q (.ref st) H'
theorem c_Lfresh (T : Txt w K mg) : Cal P w K mg base 1 "_law_fresh" ["_law_script"] (spFr K) := by
  refine cal_Lfresh T fun f fd F => F.ok sc_Lfresh (fun vs H Q E h => ?_) fun cdv A outer s H vs Q E hr h => ?_
  · obtain ⟨l, ns, rfl, _⟩ := h
    rfl
  · obtain ⟨l, ns, rfl, hl, k⟩ := h
    refine ⟨_, ((pss_one (ps_ret (pe_lst (pa_cons (pe_slice sl_list (pv 0) po_none (po_some pe_int)) (pa_cons pe_int (pa_cons pe_int (pa_cons pe_bl pa_nil)))))))).nox, ?_⟩
    refine ⟨_, rfl, 63, rfl, l, _, rfl, hl, fun c hc => ⟨show (4 : Nat) ≤ sizeLine by decide, fun st hst => ?_⟩⟩
    have ec : cutV (ns.map V.int) none (some 63) = (ns.take 63).map V.int := by
      unfold cutV
      rw [HT.sIx_none, show (63 : Int) = ((63 : Nat) : Int) from rfl, HT.sIx_nat, List.length_map, List.drop_zero, Nat.sub_zero, ← List.map_take]
      congr 1
      by_cases h : ns.length ≤ 63
      · rw [Nat.min_eq_right h, List.take_length, List.take_of_length_le h]
      · rw [Nat.min_eq_left (by omega)]
    have ne : st ≠ c := fun z => by
      rw [z, upd_same] at hst
      cases hst
    have hst' : H st = none := by
      rw [upd_ne ne] at hst
      exact hst
    refine k c st _ (Same.mut (Same.new hc) hst') hc hst' ⟨⟨ne.symm, by rw [List.length_take]; omega⟩, ?_, 0, 0, false, upd_same⟩
    rw [upd_ne ne.symm, upd_same, ec]
def preFill (ds : List Dt) (R : Dt → Prop) : Prop := ds = [] ∧ R = fun d => d = .non
theorem c_Lfill (T : Txt w K mg) : Cal P w K mg base 1 "_law_fill" ["_law_state"] (spS K preFill) := by
  refine cal_Lfill T fun f fd F => st_ok F sc_Lfill ?_ fun cdv A outer s H σ Q E B st c ns hB ds R hr hp h k => ?_
  · rintro ds R ⟨rfl, rfl⟩
    rfl
  · obtain ⟨rfl, rfl⟩ := hp
    refine ⟨_, (pss_cons (ps_par (i := 1) (j := 2) rfl sc_Lfill.nd rfl rfl (by decide) rfl rfl (pa_cons (pe_ix ix_list (pv 0) pe_int (fun _ _ => rfl)) (pa_cons (pe_ix ix_list (pv 0) pe_int (fun _ _ => rfl)) pa_nil)) (by rfl))
    (pss_cons (ps_set (i := 3) sc_Lfill.nd rfl (Or.inl rfl) (pe_op op_add (pe_op op_mul pe_int (pv 2)) pe_int))
    (pss_cons (ps_if (pt_cmpR op_gt (pe_callB call_lenQ (by rfl) T.f_len PySem.boot_len (pa_cons (pv 1) pa_nil)) pe_int (nomark _)) (pss_one (ps_set (i := 3) sc_Lfill.nd rfl (Or.inl rfl) (pe_op op_add (pe_op op_mul pe_int (pe_op op_fdivN (pv 2) (pe_callB call_lenQ (by rfl) T.f_len PySem.boot_len (pa_cons (pv 1) pa_nil)))) (pe_ix ix_list (pv 1) (pe_op op_modN (pe_callTy call_intQ (by rfl) T.f_int (by decide +kernel) (pa_cons (pv 2) pa_nil)) (pe_callB call_lenQ (by rfl) T.f_len PySem.boot_len (pa_cons (pv 1) pa_nil))) (fun _ _ => rfl))))) pss_nil)
    (pss_cons (ps_asg (pe_op op_add (pv 2) pe_int) (pg_sub (pv 0) pe_int set_list))
    (pss_cons (ps_asg (pe_or (pe_cmpR op_ge (pv 2) (pe_callB call_lenQ (by rfl) T.f_len PySem.boot_len (pa_cons (pv 1) pa_nil)) (nomark _)) (pe_one (pe_cmpR op_lt (pv 3) (pe_op op_pow pe_int pe_int) (nomark _)))) (pg_sub (pv 0) pe_int set_list))
    (pss_cons (ps_asg (pe_op op_sub (pv 3) (pe_op op_pow pe_int pe_int)) (pg_sub (pv 0) pe_int set_list))
    (pss_one (ps_if (pt_val (pe_ix ix_list (pv 0) pe_int (fun _ _ => rfl))) (pss_cons (ps_asg pe_int (pg_sub (pv 0) pe_int set_list))
    (pss_one (ps_for PassesOwn.never rfl (pi_enumA (by rfl) T.f_enumerate (pa_cons (pe_tup (pa_cons pe_int (pa_cons pe_int (pa_cons pe_int (pa_cons pe_int (pa_cons pe_int pa_nil)))))) pa_nil)) (pg_tup rfl (pgs_cons (pg_name (i := 4) sc_Lfill.nd rfl (Or.inl rfl)) (pgs_cons (pg_name (i := 5) sc_Lfill.nd rfl (Or.inl rfl)) pgs_nil))) (pss_cons (ps_set (i := 6) sc_Lfill.nd rfl (Or.inl rfl) (pe_op op_modN (pe_callTy call_intQ (by rfl) T.f_int (by decide +kernel) (pa_cons (pe_op op_mul (pe_op op_add (pe_op op_add (pv 3) (pe_op op_mul (pe_op op_mul pe_int (pv 4)) (pv 4))) (pe_op op_mul pe_int (pv 4))) (pe_op op_add pe_int (pe_op op_mul pe_int (pv 4)))) pa_nil)) (pv 5)))
    (pss_one (ps_asg (pe_op op_add (pe_op op_mul (pe_ix ix_list (pv 0) pe_int (fun _ _ => rfl)) (pv 5)) (pe_op op_modN (pe_callTy call_intQ (by rfl) T.f_int (by decide +kernel) (pa_cons (pe_op op_pow (pv 6) pe_int) pa_nil)) (pv 5))) (pg_sub (pv 0) pe_int set_list))))))) pss_nil)))))))), ?_⟩
    have l63 : ns.length ≤ 63 := h.ok.2.1.2
    have fin : ∀ {σ' : L2.St} {H' : Hp} {G' : List (Option Dt)}, Sg (stM K B st c ns hB) H [] G' σ' H' → Q .non H' := fun h => k _ _ _ h.fr rfl rfl
    refine q_par (P := fun a b => a = .raw c ∧ ∃ i, b = .int i) h ?_ fun a b σ1 H1 ⟨ea, nth, eb⟩ h => ?_
    · exact xa_cons (R := fun ds => ∃ i, ds = [Dt.int i]) (x_st0 rfl) (xa_cons (x_st1 rfl) xa_nil fun d ds ⟨i, e, _⟩ er => ⟨i, by rw [e, er]⟩) fun d ds e ⟨i, er⟩ => ⟨d, .int i, by rw [er], e, i, rfl⟩
    subst ea
    subst eb
    have xn : ∀ {M : Mode K} {G : List (Option Dt)} {j : Nat} {z : Int}, G[j]? = some (some (.int z)) → XI M G (tVar j) fun _ => True := fun e => xI_of (x_var e) trivial
    have xk : ∀ {M : Mode K} {G : List (Option Dt)} {z : Int}, XI M G (tC (.int z)) fun i => i = z := fun {M G z} => xI_of x_int rfl
    have xa : ∀ {M : Mode K} {G : List (Option Dt)} {z : Int}, XI M G (tC (.int z)) fun _ => True := fun {M G z} => xI_of x_int trivial
    have b18 : ∀ {M : Mode K} {G : List (Option Dt)}, XI M G (tOp (rI CPow fun i j => .int (i ^ j.toNat)) (tC (.int 10)) (tC (.int 18))) fun _ => True := fun {M G} => xI_op xk xk (fun i j e1 e2 => by subst e1; subst e2; exact ⟨by decide, by decide, by decide⟩) fun _ _ _ _ => trivial
    refine q_asg h (xI_op0 (P := fun _ => True) (xI_op (P := fun _ => True) xk (xn rfl) (fun i j hi _ => by subst hi; exact .inl (by decide)) fun _ _ _ _ => trivial) xa fun _ _ _ _ => trivial) fun d2 σ2 H2 ⟨sd0, e2, _⟩ h => ?_
    subst e2
    have xlen : ∀ {G : List (Option Dt)}, G[1]? = some (some (.raw c)) → Xd (stM K B st c ns hB) G (tCB (rLenQ K) (tCons (tVar 1) tNil)) (.int (ns.length : Nat)) := fun e => Xe.is (xl_len (xl_cells (x_var e))) (by rw [List.length_map])
    have l63' : ns.length < 1073741824 := Nat.lt_of_le_of_lt l63 (by decide)
    refine qd_joinP (f := decide ((0 : Int) < (ns.length : Nat))) (fun σ3 H3 => ∃ seed : Int, Sg (stM K B st c ns hB) H [] [some (.raw st), some (.raw c), some (.int nth), some (.int seed), none, none, none] σ3 H3) h (xb_test (xd_op (xlen rfl) x_int rv_cmp)) (fun σ3 H3 ⟨seed, h⟩ => ?_) (fun k3 pos H3 h => ?_) fun _ H3 h => ⟨sd0, h⟩
    · refine q_stI (P := fun _ => True) 1 (.inl rfl) rfl (xI_op0 (xn rfl) xa fun _ _ _ _ => trivial) h fun H4 h => ?_
      refine q_stB rfl (xB_or (xI_cmp (xn rfl) (xI_of (P := fun _ => True) (xlen rfl) trivial)) (xI_cmp (xn rfl) b18)) h fun H5 h => ?_
      refine q_stI (P := fun _ => True) 2 (.inr rfl) rfl (xI_op0 (xn rfl) b18 fun _ _ _ _ => trivial) h fun H6 h => ?_
      refine eT_when h (xt_test (x_st3 rfl)) (fun H7 h => ?_) fun H7 h => fin h
      refine q_stI (P := fun _ => True) 2 (.inr rfl) rfl xa h fun H8 h => ?_
      let ps : List Int := [2147483647, 2147483629, 2147483587, 2147483579, 2147483563]
      refine e_forE (ds := ps.map .int) (fun _ => stM K B st c ns hB) (fun _ => [some (.raw st), some (.raw c), some (.int nth), some (.int seed), none, none, none]) h (xi_enumAT (xd_tup (ds := ps.map .int) (xad_cons x_int (xad_cons x_int (xad_cons x_int (xad_cons x_int (xad_cons x_int xa_nil))))) (by decide))) (fun i x L' σ' H' e h => ?_) fun σ' H' h => fin h
      obtain ⟨pr, ep, rfl⟩ := map_got e
      have hp : 0 < pr ∧ pr < 2 ^ 32 := by
        have key : ∀ q ∈ ps, 0 < q ∧ q < 2 ^ 32 := by decide
        exact key pr (List.mem_of_getElem? ep)
      have hi : i < 5 := (List.getElem?_eq_some_iff.mp ep).1
      have xi : XI (stM K B st c ns hB) (([some (.raw st), some (.raw c), some (.int nth), some (.int seed), none, none, none].set 4 (some (.int (i : Int)))).set 5 (some (.int pr))) (tVar 4) fun z => 0 ≤ z ∧ z < 5 := xI_of (x_var rfl) ⟨by omega, by omega⟩
      have sm : ∀ {a b : Int}, (0 ≤ b ∧ b < 5) → CMul a b := fun hb => .inr ⟨by omega, by omega⟩
      refine q_asg h (xI_op (P := fun z => 0 ≤ z ∧ z < 2 ^ 32) (Pb := fun z => z = pr) (xI_int (xI_op (P := fun _ => True) (xI_op0 (P := fun _ => True) (xI_op0 (P := fun _ => True) (xn rfl) (xI_op (P := fun _ => True) (xI_op (P := fun _ => True) xa xi (fun _ _ _ hb => sm hb) fun _ _ _ _ => trivial) xi (fun _ _ _ hb => sm hb) fun _ _ _ _ => trivial) fun _ _ _ _ => trivial) (xI_op (P := fun _ => True) xa xi (fun _ _ _ hb => sm hb) fun _ _ _ _ => trivial) fun _ _ _ _ => trivial) (xI_op0 (P := fun z => 0 ≤ z ∧ z < 2 ^ 32) xk (xI_op (P := fun z => 0 ≤ z ∧ z < 10) xk xi (fun _ _ _ hb => sm hb) fun a b ea hb => by subst ea; constructor <;> omega) fun a b ea hb => by subst ea; constructor <;> omega) (fun _ _ _ hb => .inr ⟨by omega, by omega⟩) fun _ _ _ _ => trivial)) (xI_of (x_var rfl) rfl) (fun _ b _ eb => by subst eb; omega) fun a b _ eb => by subst eb; exact ⟨Int.fmod_nonneg_of_pos a hp.1, Int.lt_trans (Int.fmod_lt_of_pos a hp.1) hp.2⟩) fun d5 σ5 H5 ⟨far, e5, f0, f1⟩ h => ?_
      subst e5
      refine e_stI (P := fun _ => True) 2 (.inr rfl) rfl (xI_op0 (xI_op (P := fun _ => True) (Pb := fun z => z = pr) (x_st2 rfl) (xI_of (x_var rfl) rfl) (fun _ b _ eb => by subst eb; exact .inr ⟨by omega, by omega⟩) fun _ _ _ _ => trivial) (xI_op (P := fun _ => True) (Pb := fun z => z = pr) (xI_int (xI_op (P := fun _ => True) (Pa := fun z => z = far) (xI_of (x_var rfl) rfl) xk (fun a b ea eb => by subst ea; subst eb; exact ⟨by decide, by decide, by omega⟩) fun _ _ _ _ => trivial)) (xI_of (x_var rfl) rfl) (fun _ b _ eb => by subst eb; omega) fun _ _ _ _ => trivial) fun _ _ _ _ => trivial) h fun H6 h => ?_
      exact h.weak (by repeat (first | exact GLe.nil | apply GLe.keep | apply GLe.drop))
    · have hpos : 0 < ns.length := by
        have := of_decide_eq_true pos
        omega
      refine e_asg h (xI_op0 (P := fun _ => True) (Pb := fun _ => True) (xI_op (P := fun _ => True) xk (xI_op (P := fun _ => True) (Pb := fun z => z = (ns.length : Int)) (xn rfl) (xI_of (xlen rfl) rfl) (fun _ b _ eb => by subst eb; exact ⟨by omega, by omega⟩) fun _ _ _ _ => trivial) (fun a b ea _ => by subst ea; exact .inl (by decide)) fun _ _ _ _ => trivial) ?_ fun _ _ _ _ => trivial) fun d5 σ5 H5 ⟨seed, e5, _⟩ h => ?_
      · refine fun σ H Q ok e q => xl_cells (x_var rfl) σ H _ ok e fun a xs H1 r1 hh => ?_
        refine xI_op (P := fun z => 0 ≤ z ∧ z < (ns.length : Int)) (Pb := fun z => z = (ns.length : Int)) (xI_int (xn rfl)) (xI_of (xlen rfl) rfl) (fun _ b _ eb => by subst eb; omega) (fun a b _ eb => by subst eb; exact ⟨Int.fmod_nonneg_of_pos a (by omega), Int.fmod_lt_of_pos a (by omega)⟩) σ H1 _ (Mode.stab (stM K B st c ns hB) ok r1) (e.keep (Mode.keep (stM K B st c ns hB) r1)) fun v d H2 r2 ⟨z, ez, z0, z1⟩ hv => ?_
        rw [ez] at hv
        obtain ⟨g1, g2⟩ := hh H2 r2
        have hz : atI (ns.map Dt.int) z = some (.int (sg ns z.toNat)) := at_sgI z0 z1
        obtain ⟨y, y1, y2⟩ := g2.atI hz
        exact ⟨a, xs, z, y, rfl, hv, SqL.of g1, y1, q y _ H2 (Ks.trans r1 r2) ⟨_, rfl, trivial⟩ y2⟩
      subst e5
      exact k3 _ _ ⟨seed, h⟩
/-- a draw from 0 to m - 1 -/
def preTake (ds : List Dt) (R : Dt → Prop) : Prop := ∃ m : Nat, 1 ≤ m ∧ m ≤ 100000 ∧ ds = [.int (m : Int)] ∧ R = fun d => ∃ k : Nat, d = .int (k : Int) ∧ k < m
theorem c_Ltake (T : Txt w K mg) : Cal P w K mg base 2 "_law_take" ["_law_state", "_law_many"] (spS K preTake) := by
  refine cal_Ltake T fun f fd F => st_ok F sc_Ltake ?_ fun cdv A outer s H σ Q E B st c ns hB ds R hr hp h k => ?_
  · rintro ds R ⟨m, _, _, rfl, rfl⟩
    rfl
  · obtain ⟨m, m1, m2, rfl, rfl⟩ := hp
    refine ⟨_, (pss_cons (ps_set (i := 2) sc_Ltake.nd rfl (Or.inl rfl) pe_int)
    (pss_cons (ps_while PassesOwn.never (PW.pt (pw_and (pt_cmpR op_lt (pv 2) pe_int (nomark _)) (pw_and1 (PW.pt (pw_or (pt_cmpR op_eq (pe_ix ix_list (pv 0) pe_int (fun _ _ => rfl)) pe_int (nomark _)) (pw_or1 (PW.pt (pw_and (pt_val (pe_ix ix_list (pv 0) pe_int (fun _ _ => rfl))) (pw_and1 (pt_cmpR op_lt (pe_ix ix_list (pv 0) pe_int (fun _ _ => rfl)) (pe_op op_mul (pv 1) pe_int) (nomark _))))))))))) (pss_cons (ps_expr (pe_cal (c_Lfill T) (hr.mono (by decide)) (by rfl) (pa_cons (pv 0) pa_nil)))
    (pss_cons (ps_aug (i := 2) sc_Ltake.nd rfl (Or.inl rfl) pe_int ip_add)
    (pss_one (ps_if (PW.pt (pw_and (pt_val (pe_ix ix_list (pv 0) pe_int (fun _ _ => rfl))) (pw_and1 (pt_cmpR op_lt (pe_ix ix_list (pv 0) pe_int (fun _ _ => rfl)) (pe_op op_mul (pv 1) pe_int) (nomark _))))) (pss_one (ps_asg (pe_op op_add (pe_ix ix_list (pv 0) pe_int (fun _ _ => rfl)) (pe_op op_mul (pe_op op_mul (pv 1) pe_int) (pe_op op_add pe_int (pe_op op_modN (pe_callTy call_intQ (by rfl) T.f_int (by decide +kernel) (pa_cons (pe_ix ix_list (pv 0) pe_int (fun _ _ => rfl)) pa_nil)) pe_int)))) (pg_sub (pv 0) pe_int set_list))) pss_nil)))))
    (pss_cons (ps_set (i := 3) sc_Ltake.nd rfl (Or.inl rfl) (pe_op op_modN (pe_callTy call_intQ (by rfl) T.f_int (by decide +kernel) (pa_cons (pe_ix ix_list (pv 0) pe_int (fun _ _ => rfl)) pa_nil)) (pv 1)))
    (pss_cons (ps_asg (pe_op op_fdivN (pe_ix ix_list (pv 0) pe_int (fun _ _ => rfl)) (pv 1)) (pg_sub (pv 0) pe_int set_list))
    (pss_one (ps_ret (pv 3))))))), ?_⟩
    have xa : ∀ {M : Mode K} {G : List (Option Dt)} {z : Int}, XI M G (tC (.int z)) fun _ => True := fun {M G z} => xI_of x_int trivial
    have xk : ∀ {M : Mode K} {G : List (Option Dt)} {z : Int}, XI M G (tC (.int z)) fun i => i = z := fun {M G z} => xI_of x_int rfl
    have xm : ∀ {G : List (Option Dt)} {j : Nat}, G[j]? = some (some (.int (m : Int))) → XI (stM K B st c ns hB) G (tVar j) fun z => z = (m : Int) := fun e => xI_of (x_var e) rfl
    have cm : ∀ {a b : Int}, b = 4096 → CMul a b := fun e => .inr ⟨by omega, by omega⟩
    -- much of it is left
    have low : ∀ {G : List (Option Dt)}, G[0]? = some (some (.raw st)) → G[1]? = some (some (.int (m : Int))) → XT (stM K B st c ns hB) G (tAnd (tB (tOp (rIxL K) (tVar 0) (tC (.int 3)))) (tTest (tOp (rI0 fun i j => .bl (decide (i < j))) (tOp (rIxL K) (tVar 0) (tC (.int 2))) (tOp (rI CMul fun i j => .int (i * j)) (tVar 1) (tC (.int 4096)))))) := fun e0 e1 =>
      xT_and (xt_B (x_st3 e0)) (xT_test (xI_cmp (x_st2 e0) (xI_op (P := fun _ => True) (xm e1) xk (fun _ _ _ e => cm e) fun _ _ _ _ => trivial)))
    apply qd_asg h x_int
    intro σ1 H1 h
    refine q_while (α := Nat) (fun _ => stM K B st c ns hB) (fun a => [some (.raw st), some (.int (m : Int)), some (.int (a : Int)), none]) (fun a => a ≤ 64) (fun a => 64 - a) 0 h (Nat.zero_le _) (Pt := fun a b => b = true → a < 64) (fun a ha => ?_) (fun a σ' H' ha ht h => ?_) fun a σ' H' ha _ h => ?_
    · by_cases c64 : a < 64
      · exact Xt.mono (xT_and (xT_test (xI_cmp (xI_of (P := fun _ => True) (x_var rfl) trivial) xa)) (xT_or (xT_test (xI_eq (x_st2 rfl) xa)) (low rfl rfl))) fun _ _ _ => c64
      · exact Xt.mono (xt_and (P := fun b => b = false) (P' := fun _ => False) (R := fun b => b = false) (Xt.is (xb_test (xd_op (x_var rfl) x_int rv_cmp)) (decide_eq_false (by omega))) (fun e => by cases e) (fun _ => rfl) fun _ z => z.elim) fun b e z => by rw [e] at z; cases z
    · have a64 := ht rfl
      refine q_drop (P := fun d => d = .non) h (x_callS (HasSt.stM hB) (xad_cons (x_var rfl) xa_nil) fun ds e => ⟨[], e, rfl, rfl⟩) fun d H2 _ h => ?_
      refine q_aug (a := (a : Int)) (z := 1) rfl h x_int fun σ3 H3 h => ?_
      have e1 : (a : Int) + 1 = ((a + 1 : Nat) : Int) := by omega
      have next : ∀ {H4 : Hp}, Sg (stM K B st c ns hB) H [] [some (.raw st), some (.int (m : Int)), some (.int ((a + 1 : Nat) : Int)), none] σ3 H4 → ∃ a', 64 - a' < 64 - a ∧ a' ≤ 64 ∧ Sg (stM K B st c ns hB) H [] [some (.raw st), some (.int (m : Int)), some (.int ((a' : Nat) : Int)), none] σ3 H4 := fun h => ⟨a + 1, by omega, by omega, h⟩
      have h : Sg (stM K B st c ns hB) H [] [some (.raw st), some (.int (m : Int)), some (.int ((a + 1 : Nat) : Int)), none] σ3 H3 := by rw [← e1]; exact h
      refine eT_when h (low rfl rfl) (fun H4 h => ?_) fun H4 h => next h
      refine e_stI (P := fun _ => True) 2 (.inr rfl) rfl (xI_op0 (x_st2 rfl) (xI_op (P := fun _ => True) (Pa := fun _ => True) (xI_op (P := fun _ => True) (xm rfl) xk (fun _ _ _ e => cm e) fun _ _ _ _ => trivial) (xI_op0 (P := fun z => 0 ≤ z ∧ z ≤ 4093) xk (xI_op (P := fun z => 0 ≤ z ∧ z < 4093) (xI_int (x_st2 rfl)) xk (fun _ b _ e => by subst e; decide) fun a b _ e => by subst e; exact ⟨Int.fmod_nonneg_of_pos a (by decide), Int.fmod_lt_of_pos a (by decide)⟩) fun a b ea hb => by subst ea; constructor <;> omega) (fun _ b _ hb => .inr ⟨by omega, by omega⟩) fun _ _ _ _ => trivial) fun _ _ _ _ => trivial) h fun H5 h => next h
    · refine q_asg h (xI_op (P := fun z => 0 ≤ z ∧ z < (m : Int)) (xI_int (x_st2 rfl)) (xm rfl) (fun _ b _ e => by subst e; omega) fun a b _ e => by subst e; exact ⟨Int.fmod_nonneg_of_pos a (by omega), Int.fmod_lt_of_pos a (by omega)⟩) fun d3 σ3 H3 ⟨z, e3, z0, z1⟩ h => ?_
      subst e3
      refine q_stI (P := fun _ => True) 2 (.inr rfl) rfl (xI_op (x_st2 rfl) (xm rfl) (fun _ b _ e => by subst e; exact ⟨by omega, by omega⟩) fun _ _ _ _ => trivial) h fun H4 h => ?_
      refine e_ret h (x_var (d := .int z) rfl) fun d v H' e ok fr hv => k v d H' fr ⟨z.toNat, by rw [e, Int.toNat_of_nonneg z0], by omega⟩ hv
/-- one of some things -/
def preOneOf (ds : List Dt) (R : Dt → Prop) : Prop := ∃ d xs, Sq d xs ∧ 1 ≤ xs.length ∧ xs.length ≤ 100000 ∧ ds = [d] ∧ R = fun e => e ∈ xs
theorem c_Lone (T : Txt w K mg) : Cal P w K mg base 3 "_law_one" ["_law_state", "_law_things"] (spS K preOneOf) := by
  refine cal_Lone T fun f fd F => st_ok F sc_Lone ?_ fun cdv A outer s H σ Q E B st c ns hB ds R hr hp h k => ?_
  · rintro ds R ⟨d, xs, _, _, _, rfl, rfl⟩
    rfl
  · obtain ⟨d, xs, sq, l1, l2, rfl, rfl⟩ := hp
    refine ⟨_, (pss_one (ps_ret (pe_ix ix_seq (pv 1) (pe_cal (c_Ltake T) (hr.mono (by decide)) (by rfl) (pa_cons (pv 0) (pa_cons (pe_callB call_lenQ (by rfl) T.f_len PySem.boot_len (pa_cons (pv 1) pa_nil)) pa_nil))) (fun _ _ => rfl)))), ?_⟩
    refine e_ret (P := fun e => e ∈ xs) h ?_ fun d v H' e ok fr hv => k v d H' fr e hv
    refine x_op (Pa := (· = d)) (Pb := fun e => ∃ k : Nat, e = .int (k : Int) ∧ k < xs.length) (x_var rfl) (x_callS (HasSt.stM hB) (P := (· = [.raw st, .int (xs.length : Int)])) (xad_cons (x_var rfl) (xad_cons (xd_cb (xad_cons (x_var rfl) xa_nil) (rc_lenA sq)) xa_nil)) fun ds e => ⟨[.int (xs.length : Int)], e, xs.length, l1, l2, rfl, rfl⟩) fun a b ea ⟨k2, eb, hk⟩ => ?_
    subst ea
    subst eb
    exact fun x y H Q ok hx hy q => rv_ixA sq (atN (List.getElem?_eq_getElem hk)) x y H Q ok hx hy fun v d H2 r e hv => q v d H2 r (e ▸ List.getElem_mem hk) hv
end
end Lf

namespace Lf
open PySem PySem.Spec PyProof.Rows L2
local macro_rules | `(tactic| walk_at "rv") => `(tactic| with_reducible first
  | exact rv_int | exact rv_cmp | exact rv_eqI | exact rv_neI | exact rv_eqS | exact rv_neS | exact rv_eqB | exact rv_neB)
local macro_rules | `(tactic| walk_at "xd") => `(tactic| first
  | (with_reducible first | exact x_int | exact x_str | exact x_bl | exact x_non | exact x_ty | exact x_ref)
  | ((with_reducible apply x_var); exact rfl)
  | ((with_reducible apply xd_op); (walk_at "xd"); (walk_at "xd"); (walk_at "rv"))
  | ((with_reducible apply xd_if); (walk_at "xb"); (intro _; walk_at "xd"); (intro _; walk_at "xd"))
  | ((with_reducible apply xd_tup); (walk_at "xa"); (first | decide | assumption | omega))
  | ((with_reducible apply xd_lst); (walk_at "xa"); (first | decide | assumption | omega)))
local macro_rules | `(tactic| walk_at "xb") => `(tactic| first
  | ((with_reducible apply xb_test); (walk_at "xd"))
  | ((with_reducible apply xb_B); (walk_at "xd"))
  | ((with_reducible apply xb_and); (walk_at "xb"); (intro _; walk_at "xb"))
  | ((with_reducible apply xb_or); (walk_at "xb"); (intro _; walk_at "xb"))
  | ((with_reducible apply xb_not); (walk_at "xb")))
local macro_rules | `(tactic| walk_at "xa") => `(tactic| first
  | (with_reducible exact xa_nil)
  | ((with_reducible apply xad_cons); (walk_at "xd"); (walk_at "xa")))

section
variable {P : Program} {w : World} {K : PySem.W.Frag} {mg : Str → Option Value} {base : Heap}
/-- the outer one of two lists that are built -/
theorem xl_bld2 {M : Mode K} {G : List (Option Dt)} {p q : Addr} {ds es : List Dt} {i : Nat} (hi : G[i]? = some (some (.raw p))) : XL ((M.bld p ds).bld q es) G (tVar i) ds := fun σ H Q ok e k => by
  obtain ⟨v, e1, e2⟩ := e.2 i _ hi
  have ev : v = V.ref p := e2
  subst ev
  obtain ⟨xs, hp, hx⟩ := ok.1.2.2
  have hx' : AtAll K ((M.bld p ds).bld q es).B H ds xs := hx.less fun a z => by
    rcases z with (z | z) | z
    · exact .inl (.inl z)
    · exact .inl (.inr z)
    · exact .inr (.inr z)
  exact ⟨_, e1, k p xs H (((M.bld p ds).bld q es).refl H) fun H3 r3 => ⟨r3.1.2 _ hp, hx'.keep (((M.bld p ds).bld q es).keep r3)⟩⟩
/-! ### words -/
def sgn (z : Str) : List Str := z.cps.toList.map fun c => ⟨#[c]⟩
def baseW : List Str := ["a", "b", "k", "zz", "abcdefgh"]
def xW : List Str := sgn "abcdef"
def yW : List Str := sgn "ghijklmnop"
def allW : List Str := baseW ++ xW.flatMap fun x => yW.map fun y => x ++ y
theorem allW_nd : allW.Nodup := by decide +kernel
theorem allW_ok : ∀ x ∈ allW, isW x := by
  have key : ∀ x ∈ allW, 1 ≤ x.length ∧ x.length ≤ 8 ∧ ∀ c ∈ x.cps.toList, c ∈ lettersS.cps.toList := by decide +kernel
  exact key
theorem allW_len : allW.length = 65 := by decide +kernel
def preAllW (ds : List Dt) (rs : List Dt) : Prop := ds = [] ∧ rs = allW.map .str
theorem c_Lall_words (T : Txt w K mg) : Cal P w K mg base 1 "_law_all_words" [] (spF K preAllW) := by
  refine cal_Lall_words T fun f fd F => new_ok F sc_Lall_words ?_ fun cdv A outer s H σ Q E B ds r hr hp h k => ?_
  · rintro ds r ⟨rfl, rfl⟩
    rfl
  · obtain ⟨rfl, rfl⟩ := hp
    refine ⟨_, (pss_cons (ps_set (i := 0) sc_Lall_words.nd rfl (Or.inl rfl) (pe_lst (pa_cons pe_str (pa_cons pe_str (pa_cons pe_str (pa_cons pe_str (pa_cons pe_str pa_nil)))))))
    (pss_cons (ps_for PassesOwn.never rfl (pi_str pe_str) (pg_name (i := 1) sc_Lall_words.nd rfl (Or.inr rfl)) (pss_one (ps_expr (pe_bm PySem.F.plainAttrs_list PySem.F.slot_list_extend PySem.F.type_list_extend mt_extend (pv 0) (pa_cons (pe_lc (own := [("_law_y", 2)]) rfl sc_Lall_words.nd (pi_str pe_str) (blkOk_by (by kernel_rfl)) (fun _ _ _ _ _ => (pg_name (i := 2) sc_Lall_words.nd rfl (Or.inl rfl))) (fun _ _ _ _ _ => pts_nil) (fun _ _ _ _ _ => (pe_op op_add_str (pv 1) (pv 2)))) pa_nil)))))
    (pss_one (ps_ret (pv 0))))), ?_⟩
    apply qd_new (ds := baseW.map .str) h (xad_cons x_str (xad_cons x_str (xad_cons x_str (xad_cons x_str (xad_cons x_str xa_nil)))))
    intro p σ1 H1 h
    let acc : Nat → List Str := fun i => baseW ++ (xW.take i).flatMap fun x => yW.map fun y => x ++ y
    have h : Sg ((pureM K B).bld p ((acc 0).map .str)) H [] [some (.raw p), none, none] σ1 H1 := h
    have la : ∀ i, (acc i).length ≤ 5 + 10 * i := fun i => by
      induction i with
      | zero => decide
      | succ i ih =>
        by_cases hi : i < xW.length
        · have e : acc (i + 1) = acc i ++ yW.map fun y => xW[i] ++ y := by
            show baseW ++ (xW.take (i + 1)).flatMap _ = _
            rw [take_succ' (List.getElem?_eq_getElem hi), List.flatMap_append]
            show baseW ++ (_ ++ ((yW.map fun y => xW[i] ++ y) ++ [])) = _
            rw [List.append_nil, ← List.append_assoc]
          rw [e, List.length_append, List.length_map, show yW.length = 10 by decide +kernel]
          omega
        · have e : acc (i + 1) = acc i := by
            show baseW ++ (xW.take (i + 1)).flatMap _ = baseW ++ (xW.take i).flatMap _
            rw [List.take_of_length_le (by omega), List.take_of_length_le (by omega)]
          rw [e]
          omega
    refine q_forN (ds := xW.map .str) (fun i => (pureM K B).bld p ((acc i).map .str)) (fun _ => [some (.raw p), none, none]) h (by have z := xi_str (M := (pureM K B).bld p ((acc 0).map .str)) (G := [some (.raw p), none, none]) (x_str (i := "abcdef")); exact z) (fun i d L' σ' H' e h => ?_) fun σ' H' h => ?_
    · obtain ⟨x, ex, rfl⟩ := map_got e
      have hx : x.length = 1 := by
        have key : ∀ z ∈ xW, z.length = 1 := by decide +kernel
        exact key x (List.mem_of_getElem? ex)
      have hi : i < 6 := by
        have z := (List.getElem?_eq_some_iff.mp ex).1
        rwa [show xW.length = 6 by decide +kernel] at z
      refine ed_ext (es := (yW.map fun y => x ++ y).map .str) h rfl ?_ ?_ fun H2 h => ?_
      · rw [List.length_map, List.length_map, List.length_map, show yW.length = 10 by decide +kernel]
        have := la i
        omega
      · refine Xe.is (x_lcN (ds := yW.map .str) (fun d => match d with | .str y => .str (x ++ y) | _ => .non) (by have z := (xi_str (M := (pureM K B).bld p ((acc i).map .str)) (G := [some (.raw p), some (.str x), none]) (x_str (i := "ghijklmnop"))).j; exact z) (fun j d q acc e => ?_) (hz := by rw [List.length_map]; decide +kernel)) (by rw [List.map_map, List.map_map]; rfl)
        obtain ⟨y, ey, rfl⟩ := map_got e
        have hy : y.length = 1 := by
          have key : ∀ z ∈ yW, z.length = 1 := by decide +kernel
          exact key y (List.mem_of_getElem? ey)
        exact xd_op (x_var rfl) (x_var rfl) (rv_addS (by rw [hx, hy]; decide))
      · have e2 : acc (i + 1) = acc i ++ yW.map fun y => x ++ y := by
          show baseW ++ (xW.take (i + 1)).flatMap _ = _
          rw [take_succ' ex, List.flatMap_append]
          show baseW ++ (_ ++ ((yW.map fun y => x ++ y) ++ [])) = _
          rw [List.append_nil, ← List.append_assoc]
        rw [e2, List.map_append]
        exact h.weak (by repeat (first | exact GLe.nil | apply GLe.keep | apply GLe.drop))
    · have e3 : acc (xW.map Dt.str).length = allW := by
        show baseW ++ (xW.take _).flatMap _ = _
        rw [List.length_map, List.take_length]
        rfl
      rw [e3] at h
      exact k 0 p _ σ' H' rfl h
def preSome (ds : List Dt) (R : Dt → Prop) : Prop := ∃ m : Nat, m ≤ 8 ∧ ds = [.int (m : Int)] ∧ R = fun d => ∃ ws : List Str, d = .lst (ws.map .str) ∧ ws.length = m ∧ ws.Nodup ∧ ∀ x ∈ ws, x ∈ allW
theorem erase_perm {α : Type} {x : α} : ∀ {l : List α} {n : Nat}, l[n]? = some x → (x :: l.eraseIdx n).Perm l
  | [], _, h => by simp at h
  | y :: l, 0, h => by
    cases (show y = x from Option.some.inj h)
    exact List.Perm.refl _
  | y :: l, n + 1, h => (List.Perm.swap y x (l.eraseIdx n)).trans ((erase_perm (n := n) (by simpa using h)).cons y)
theorem perm_pop {α : Type} {l f : List α} {n : Nat} {x : α} (h : l[n]? = some x) : (l.eraseIdx n ++ (f ++ [x])).Perm (l ++ f) := by
  have p1 : (x :: l.eraseIdx n).Perm l := erase_perm h
  have p2 : (l.eraseIdx n ++ (f ++ [x])).Perm ((x :: l.eraseIdx n) ++ f) := by
    rw [← List.append_assoc]
    exact (List.perm_append_comm).trans (by simp)
  exact p2.trans (List.Perm.append_right f p1)
theorem map_erase {α β : Type} (f : α → β) : ∀ (l : List α) (n : Nat), (l.map f).eraseIdx n = (l.eraseIdx n).map f
  | [], _ => rfl
  | _ :: l, 0 => rfl
  | x :: l, n + 1 => by
    show f x :: (l.map f).eraseIdx n = f x :: (l.eraseIdx n).map f
    rw [map_erase f l n]
theorem c_Lsome_words (T : Txt w K mg) : Cal P w K mg base 3 "_law_some_words" ["_law_state", "_law_many"] (spS K preSome) := by
  refine cal_Lsome_words T fun f fd F => st_ok F sc_Lsome_words ?_ fun cdv A outer s H σ Q E B st c ns hB ds R hr hp h k => ?_
  · rintro ds R ⟨m, _, rfl, rfl⟩
    rfl
  · obtain ⟨m, m8, rfl, rfl⟩ := hp
    refine ⟨_, (pss_cons (ps_par (i := 2) (j := 3) rfl sc_Lsome_words.nd rfl rfl (by decide) rfl rfl (pa_cons (pe_cal0 (c_Lall_words T) (hr.mono (by decide)) (by rfl)) (pa_cons (pe_lst pa_nil) pa_nil)) (by rfl))
    (pss_cons (ps_for PassesOwn.never rfl (pi_range1 (by rfl) T.f_range (pa_cons (pv 1) pa_nil)) (pg_name (i := 4) sc_Lsome_words.nd rfl (Or.inl rfl)) (pss_one (ps_expr (pe_bm PySem.F.plainAttrs_list PySem.F.slot_list_append PySem.F.type_list_append mt_append (pv 3) (pa_cons (pe_bm PySem.F.plainAttrs_list PySem.F.slot_list_pop PySem.F.type_list_pop mt_popAt (pv 2) (pa_cons (pe_cal (c_Ltake T) (hr.mono (by decide)) (by rfl) (pa_cons (pv 0) (pa_cons (pe_callB call_lenQ (by rfl) T.f_len PySem.boot_len (pa_cons (pv 2) pa_nil)) pa_nil))) pa_nil)) pa_nil)))))
    (pss_one (ps_ret (pv 3))))), ?_⟩
    refine q_parN h (xn_call (rs := allW.map .str) xa_nil (by exact ⟨rfl, rfl⟩)) fun p q ds σ1 H1 e h => ?_
    subst e
    have h : Sg (((stM K B st c ns hB).bld p (allW.map .str)).bld q (([] : List Str).map .str)) H [] [some (.raw st), some (.int (m : Int)), some (.raw p), some (.raw q), none] σ1 H1 := h
    refine q_for (α := List Str × List Str) (js := [4]) (ds := (List.range m).map fun (i : Nat) => Dt.int (i : Int)) h (by have z := xi_rng1 (M := ((stM K B st c ns hB).bld p (allW.map .str)).bld q (([] : List Str).map .str)) (G := [some (.raw st), some (.int (m : Int)), some (.raw p), some (.raw q), none]) (ta := tCons (tVar 1) tNil) (n := (m : Int)) (xad_cons (x_var rfl) xa_nil) (by omega) (by omega); rw [Int.toNat_natCast] at z; exact z) (fun a => ((stM K B st c ns hB).bld p (a.1.map .str)).bld q (a.2.map .str)) (fun _ => [some (.raw st), some (.int (m : Int)), some (.raw p), some (.raw q), none]) (fun _ d => [some (.raw st), some (.int (m : Int)), some (.raw p), some (.raw q), some d]) (fun i a => a.2.length = i ∧ (a.1 ++ a.2).Perm allW) (allW, []) rfl rfl ⟨rfl, by rw [List.append_nil]⟩ (fun i d a e _ => xg_name) (fun i d a L' σ' H' e ha h => ?_) (fun a σ' H' ha h => ?_)
    · obtain ⟨l, f⟩ := a
      obtain ⟨h1, h2⟩ := ha
      have hi : i < m := by
        have z := (List.getElem?_eq_some_iff.mp e).1
        rwa [List.length_map, List.length_range] at z
      have hl : l.length + f.length = 65 := by
        have z := h2.length_eq
        rwa [List.length_append, allW_len] at z
      refine e_popApp h rfl rfl (x_callS (((HasSt.stM hB).bld _ _).bld _ _) (P := (· = [.raw st, .int (l.length : Int)])) (xad_cons (x_var rfl) (xad_cons (Xe.is (xl_len (xl_bld2 rfl)) (by rw [List.length_map])) xa_nil)) fun ds e => ⟨[.int (l.length : Int)], e, l.length, by show 1 ≤ l.length; have : f.length = i := h1; omega, by omega, rfl, by rw [List.length_map]⟩) (by rw [List.length_map, List.length_map]; show l.length + f.length ≤ 100000; omega) fun n d H2 en h => ?_
      obtain ⟨x, ex, rfl⟩ := map_got en
      refine ⟨(l.eraseIdx n, f ++ [x]), ⟨by show (f ++ [x]).length = _; rw [List.length_append, h1]; rfl, (perm_pop ex).trans h2⟩, ?_⟩
      rw [map_erase] at h
      show Sg (((stM K B st c ns hB).bld p ((l.eraseIdx n).map .str)).bld q ((f ++ [x]).map .str)) _ _ _ _ _
      rw [List.map_append]
      exact h.weak (by repeat (first | exact GLe.nil | apply GLe.keep | apply GLe.drop))
    · obtain ⟨l, f⟩ := a
      obtain ⟨h1, h2⟩ := ha
      have h1 : f.length = m := by
        rw [List.length_map, List.length_range] at h1
        exact h1
      have nd : (l ++ f).Nodup := h2.nodup_iff.mpr allW_nd
      refine e_retB h rfl fun v ok fr hv => k v _ H' fr.1 ⟨f, rfl, h1, (List.nodup_append.mp nd).2.1, fun x hx => h2.subset (List.mem_append_right _ hx)⟩ (hv.less fun a z => .inl z)
end
end Lf

namespace Lf
open PySem PySem.Spec PyProof.Rows L2
local macro_rules | `(tactic| walk_at "rv") => `(tactic| with_reducible first
  | exact rv_int | exact rv_cmp | exact rv_eqI | exact rv_neI | exact rv_eqS | exact rv_neS | exact rv_eqB | exact rv_neB)
local macro_rules | `(tactic| walk_at "xd") => `(tactic| first
  | (with_reducible first | exact x_int | exact x_str | exact x_bl | exact x_non | exact x_ty | exact x_ref)
  | ((with_reducible apply x_var); exact rfl)
  | ((with_reducible apply xd_op); (walk_at "xd"); (walk_at "xd"); (walk_at "rv"))
  | ((with_reducible apply xd_if); (walk_at "xb"); (intro _; walk_at "xd"); (intro _; walk_at "xd"))
  | ((with_reducible apply xd_tup); (walk_at "xa"); (first | decide | assumption | omega))
  | ((with_reducible apply xd_lst); (walk_at "xa"); (first | decide | assumption | omega)))
local macro_rules | `(tactic| walk_at "xb") => `(tactic| first
  | ((with_reducible apply xb_test); (walk_at "xd"))
  | ((with_reducible apply xb_B); (walk_at "xd"))
  | ((with_reducible apply xb_and); (walk_at "xb"); (intro _; walk_at "xb"))
  | ((with_reducible apply xb_or); (walk_at "xb"); (intro _; walk_at "xb"))
  | ((with_reducible apply xb_not); (walk_at "xb")))
local macro_rules | `(tactic| walk_at "xa") => `(tactic| first
  | (with_reducible exact xa_nil)
  | ((with_reducible apply xad_cons); (walk_at "xd"); (walk_at "xa")))

section
variable {P : Program} {w : World} {K : PySem.W.Frag} {mg : Str → Option Value} {base : Heap}
def preMix (ds : List Dt) (R : Dt → Prop) : Prop := ∃ l : List Int, l.length ≤ 1000 ∧ ds = [.lst (l.map .int)] ∧ R = fun d => ∃ r : List Int, r.Perm l ∧ d = .lst (r.map .int)
theorem c_Lmix (T : Txt w K mg) : Cal P w K mg base 3 "_law_mix" ["_law_state", "_law_things"] (spS K preMix) := by
  refine cal_Lmix T fun f fd F => st_ok F sc_Lmix ?_ fun cdv A outer s H σ Q E B st c ns hB ds R hr hp h k => ?_
  · rintro ds R ⟨l, _, rfl, rfl⟩
    rfl
  · obtain ⟨l0, l1, rfl, rfl⟩ := hp
    refine ⟨_, (pss_cons (ps_par (i := 2) (j := 3) rfl sc_Lmix.nd rfl rfl (by decide) rfl rfl (pa_cons (pe_callTy call_listQ (by rfl) T.f_list (by decide +kernel) (pa_cons (pv 1) pa_nil)) (pa_cons (pe_lst pa_nil) pa_nil)) (by rfl))
    (pss_cons (ps_while PassesOwn.never (pt_cmpR (op_neD hr.units) (pv 2) (pe_lst pa_nil) (nomark _)) (pss_one (ps_expr (pe_bm PySem.F.plainAttrs_list PySem.F.slot_list_append PySem.F.type_list_append mt_append (pv 3) (pa_cons (pe_bm PySem.F.plainAttrs_list PySem.F.slot_list_pop PySem.F.type_list_pop mt_popAt (pv 2) (pa_cons (pe_cal (c_Ltake T) (hr.mono (by decide)) (by rfl) (pa_cons (pv 0) (pa_cons (pe_callB call_lenQ (by rfl) T.f_len PySem.boot_len (pa_cons (pv 2) pa_nil)) pa_nil))) pa_nil)) pa_nil)))))
    (pss_one (ps_ret (pv 3))))), ?_⟩
    refine q_parN h (xn_listL (x_var rfl)) fun p q ds σ1 H1 e h => ?_
    subst e
    have h : Sg (((stM K B st c ns hB).bld p (l0.map .int)).bld q (([] : List Int).map .int)) H [] [some (.raw st), some (.lst (l0.map .int)), some (.raw p), some (.raw q)] σ1 H1 := h
    refine q_while (α := List Int × List Int) (fun a => ((stM K B st c ns hB).bld p (a.1.map .int)).bld q (a.2.map .int)) (fun _ => [some (.raw st), some (.lst (l0.map .int)), some (.raw p), some (.raw q)]) (fun a => (a.1 ++ a.2).Perm l0) (fun a => a.1.length) (l0, []) h (by show (l0 ++ []).Perm l0; rw [List.append_nil]) (Pt := fun a b => b = !a.1.isEmpty) (fun a ha => ?_) (fun a σ' H' ha ht h => ?_) fun a σ' H' ha ht h => ?_
    · refine xb_test (Xe.is (xl_neE (n := 0) (xl_bld2 rfl) fun d hd => ?_) ?_)
      · obtain ⟨z, _, e⟩ := List.mem_map.mp hd
        rw [← e]
        exact nice_int
      · rw [List.isEmpty_map]
    · obtain ⟨l, f⟩ := a
      have hl : l.length + f.length = l0.length := by
        have z := ha.length_eq
        rwa [List.length_append] at z
      have lp : 1 ≤ l.length := by
        cases l with
        | nil => cases ht
        | cons x l => exact Nat.le_add_left 1 _
      refine e_popApp h rfl rfl (x_callS (((HasSt.stM hB).bld _ _).bld _ _) (P := (· = [.raw st, .int (l.length : Int)])) (xad_cons (x_var rfl) (xad_cons (Xe.is (xl_len (xl_bld2 rfl)) (by rw [List.length_map])) xa_nil)) fun ds e => ⟨[.int (l.length : Int)], e, l.length, lp, by omega, rfl, by rw [List.length_map]⟩) (by rw [List.length_map, List.length_map]; show l.length + f.length ≤ 100000; omega) fun n d H2 en h => ?_
      obtain ⟨x, ex, rfl⟩ := map_got en
      refine ⟨(l.eraseIdx n, f ++ [x]), ?_, (perm_pop ex).trans ha, ?_⟩
      · have hn : n < l.length := (List.getElem?_eq_some_iff.mp ex).1
        show (l.eraseIdx n).length < l.length
        rw [List.length_eraseIdx_of_lt hn]
        omega
      · rw [map_erase] at h
        show Sg (((stM K B st c ns hB).bld p ((l.eraseIdx n).map .int)).bld q ((f ++ [x]).map .int)) _ _ _ _ _
        rw [List.map_append]
        exact h
    · obtain ⟨l, f⟩ := a
      have el : l = [] := by
        cases l with
        | nil => rfl
        | cons x l => cases ht
      subst el
      refine e_retB h rfl fun v ok fr hv => k v _ H' fr.1 ⟨f, ha, rfl⟩ (hv.less fun a z => .inl z)
def preHanded (ds : List Dt) (R : Dt → Prop) : Prop := ∃ l : List Dt, ds = [.lst l] ∧ R = fun d => Sq d l
theorem c_Lhanded (T : Txt w K mg) : Cal P w K mg base 3 "_law_handed" ["_law_state", "_law_things"] (spS K preHanded) := by
  refine cal_Lhanded T fun f fd F => st_ok F sc_Lhanded ?_ fun cdv A outer s H σ Q E B st c ns hB ds R hr hp h k => ?_
  · rintro ds R ⟨l, rfl, rfl⟩
    rfl
  · obtain ⟨l, rfl, rfl⟩ := hp
    refine ⟨_, (pss_one (ps_ret (pe_ifExp (pt_cmpR op_eq (pe_cal (c_Ltake T) (hr.mono (by decide)) (by rfl) (pa_cons (pv 0) (pa_cons pe_int pa_nil))) pe_int (nomark _)) (pe_callTy call_listQ (by rfl) T.f_list (by decide +kernel) (pa_cons (pv 1) pa_nil)) (pe_callTy call_tupQ (by rfl) T.f_tuple (by decide +kernel) (pa_cons (pv 1) pa_nil))))), ?_⟩
    refine e_ret (P := fun d => Sq d l) h ?_ fun d v H' e ok fr hv => k v d H' fr e hv
    refine x_if (P := fun _ => True) (xT_test (xI_eq (Pa := fun _ => True) (Pb := fun _ => True) ((x_callS (HasSt.stM hB) (P := (· = [.raw st, .int 2])) (xad_cons (x_var rfl) (xad_cons x_int xa_nil)) fun ds e => ⟨[.int 2], e, 2, by decide, by decide, rfl, rfl⟩).mono fun d ⟨k, e, _⟩ => ⟨_, e, trivial⟩) (xI_of x_int trivial))) (fun _ => ?_) fun _ => ?_
    · exact (xd_cb (xad_cons (x_var rfl) xa_nil) rc_listL).mono fun d e => .inl e
    · exact (xd_cb (xad_cons (x_var rfl) xa_nil) rc_tupL).mono fun d e => .inr e
def preKept (ds : List Dt) (R : Dt → Prop) : Prop := ∃ m : Nat, m ≤ 8 ∧ ds = [.int (m : Int)] ∧ R = fun d => ∃ ks, NumsOk m ks ∧ d = .lst (ks.map fun (k : Nat) => .int (k : Int))
theorem c_Lkept (T : Txt w K mg) : Cal P w K mg base 4 "_law_kept" ["_law_state", "_law_many"] (spS K preKept) := by
  refine cal_Lkept T fun f fd F => st_ok F sc_Lkept ?_ fun cdv A outer s H σ Q E B st c ns hB ds R hr hp h k => ?_
  · rintro ds R ⟨m, _, rfl, rfl⟩
    rfl
  · obtain ⟨m, m8, rfl, rfl⟩ := hp
    refine ⟨_, (pss_cons (ps_asg (pe_tup (pa_cons (pe_cal (c_Lone T) (hr.mono (by decide)) (by rfl) (pa_cons (pv 0) (pa_cons (pe_tup (pa_cons pe_int (pa_cons pe_int (pa_cons pe_int (pa_cons pe_int (pa_cons pe_int pa_nil)))))) pa_nil))) (pa_cons (pe_cal (c_Ltake T) (hr.mono (by decide)) (by rfl) (pa_cons (pv 0) (pa_cons pe_int pa_nil))) pa_nil))) (pg_tup rfl (pgs_cons (pg_name (i := 2) sc_Lkept.nd rfl (Or.inr rfl)) (pgs_cons (pg_name (i := 3) sc_Lkept.nd rfl (Or.inr rfl)) pgs_nil))))
    (pss_one (ps_ret (pe_lc (own := [("_law_k", 4)]) rfl sc_Lkept.nd (pi_range1 (by rfl) T.f_range (pa_cons (pv 1) pa_nil)) (blkOk_by (by kernel_rfl)) (fun _ _ _ _ _ => (pg_name (i := 4) sc_Lkept.nd rfl (Or.inl rfl))) (fun _ _ _ _ _ => (pts_one (pt_cmpR op_eq (pe_cmpR op_eq (pe_cal (c_Ltake T) (hr.mono (by decide)) (by rfl) (pa_cons (pv 0) (pa_cons (pv 2) pa_nil))) pe_int (nomark _)) (pe_cmpR op_eq (pv 3) pe_int (nomark _)) (nomark _)))) (fun _ _ _ _ _ => (pv 4)))))), ?_⟩
    refine q_asgG (P := fun d => ∃ a b : Nat, d = .tup [.int (a : Int), .int (b : Int)] ∧ 1 ≤ a ∧ a ≤ 6) (js := [2, 3]) (G' := fun d => G2 [some (.raw st), some (.int (m : Int)), none, none, none] 2 3 d) h ?_ (fun d ⟨a, b, e, _⟩ => by rw [e]; exact xg_two) fun d σ1 H1 ⟨wd, sd, e, w1, w6⟩ h => ?_
    · refine x_tup (P := fun ds => ∃ a b : Nat, ds = [.int (a : Int), .int (b : Int)] ∧ 1 ≤ a ∧ a ≤ 6) (xa_cons (P := fun d => ∃ a : Nat, d = .int (a : Int) ∧ 1 ≤ a ∧ a ≤ 6) (R := fun ds => ∃ b : Nat, ds = [.int (b : Int)]) ?_ (xa_cons (P := fun d => ∃ b : Nat, d = .int (b : Int)) ?_ xa_nil fun d ds ⟨b, e⟩ er => ⟨b, by rw [e, er]⟩) fun d ds ⟨a, e, h⟩ ⟨b, er⟩ => ⟨a, b, by rw [e, er], h⟩) (fun ds ⟨a, b, e, _⟩ => by rw [e]; show (2 : Nat) ≤ 100000; decide) fun ds ⟨a, b, e, h⟩ => ⟨a, b, by rw [e], h⟩
      · refine (x_callS (HasSt.stM hB) (pre := preOneOf) (P := (· = [.raw st, .tup [.int 2, .int 2, .int 3, .int 6, .int 1]])) (R := fun e => e ∈ [Dt.int 2, .int 2, .int 3, .int 6, .int 1]) (xad_cons (x_var rfl) (xad_cons (xd_tup (ds := [.int 2, .int 2, .int 3, .int 6, .int 1]) (xad_cons x_int (xad_cons x_int (xad_cons x_int (xad_cons x_int (xad_cons x_int xa_nil)))))) xa_nil)) fun ds e => ⟨_, e, _, _, .inr rfl, by decide, by decide, rfl, rfl⟩).mono fun d hd => ?_
        simp only [List.mem_cons, List.not_mem_nil, or_false] at hd
        rcases hd with e | e | e | e | e
        · exact ⟨2, e, by decide, by decide⟩
        · exact ⟨2, e, by decide, by decide⟩
        · exact ⟨3, e, by decide, by decide⟩
        · exact ⟨6, e, by decide, by decide⟩
        · exact ⟨1, e, by decide, by decide⟩
      · exact (x_callS (HasSt.stM hB) (P := (· = [.raw st, .int 2])) (xad_cons (x_var rfl) (xad_cons x_int xa_nil)) fun ds e => ⟨[.int 2], e, 2, by decide, by decide, rfl, rfl⟩).mono fun d ⟨k, e, _⟩ => ⟨k, e⟩
    subst e
    have h : Sg (stM K B st c ns hB) H [] [some (.raw st), some (.int (m : Int)), some (.int (wd : Int)), some (.int (sd : Int)), none] σ1 H1 := h
    refine e_ret (P := fun d => ∃ ks, NumsOk m ks ∧ d = .lst (ks.map fun (k : Nat) => .int (k : Int))) h ?_ fun d v H' e ok fr hv => k v d H' fr e hv
    have src : Xj (stM K B st c ns hB) [some (.raw st), some (.int (m : Int)), some (.int (wd : Int)), some (.int (sd : Int)), none] (iRng1 (tCons (tVar 1) tNil)) ((List.range m).map fun (i : Nat) => Dt.int (i : Int)) := by
      have z := (xi_rng1 (M := stM K B st c ns hB) (G := [some (.raw st), some (.int (m : Int)), some (.int (wd : Int)), some (.int (sd : Int)), none]) (ta := tCons (tVar 1) tNil) (n := (m : Int)) (xad_cons (x_var rfl) xa_nil) (by omega) (by omega)).j
      rw [Int.toNat_natCast] at z
      exact z
    refine x_lc (G' := fun d => [some (.raw st), some (.int (m : Int)), some (.int (wd : Int)), some (.int (sd : Int)), some d]) (js := [4]) (P := fun i acc => ∃ ks, NumsOk i ks ∧ acc = ks.map fun (k : Nat) => Dt.int (k : Int)) (Pt := fun _ _ _ => True) src ⟨[], ⟨fun k z => (by cases z), List.Pairwise.nil⟩, rfl⟩ (fun i d _ p acc => xg_name) (fun j hj => by simpa using hj) (fun i d p acc e hp => ?_) (fun i d p acc e hp _ => ?_) (fun i d acc e hp _ => ?_) (fun acc hp => ?_) (by rw [List.length_map, List.length_range]; omega)
    · refine xT_test (x_op (Pa := fun d => ∃ b, d = .bl b ∧ True) (Pb := fun d => ∃ b, d = .bl b ∧ True) (xI_eq (Pa := fun _ => True) (Pb := fun _ => True) ((x_callS ((HasSt.stM hB).bld _ _) (P := (· = [.raw st, .int (wd : Int)])) (xad_cons (x_var rfl) (xad_cons (x_var rfl) xa_nil)) fun ds e => ⟨[.int (wd : Int)], e, wd, w1, by omega, rfl, rfl⟩).mono fun d ⟨k, e, _⟩ => ⟨_, e, trivial⟩) (xI_of x_int trivial)) (xI_eq (Pa := fun _ => True) (Pb := fun _ => True) (xI_of (x_var rfl) trivial) (xI_of x_int trivial)) fun a b ⟨x, ea, _⟩ ⟨y, eb, _⟩ => ?_)
      subst ea
      subst eb
      exact fun x y H Q ok hx hy q => rv_eqB x y H Q ok hx hy fun v d H2 r e hv => q v d H2 r ⟨_, e, trivial⟩ hv
    · obtain ⟨ks, nu, ea⟩ := hp
      obtain ⟨j, ej, rfl⟩ := map_got e
      have hi : i < m := by
        have z := (List.getElem?_eq_some_iff.mp ej).1
        rwa [List.length_range] at z
      rw [List.getElem?_range hi] at ej
      cases ej
      refine (x_var (d := .int (i : Int)) rfl).mono fun d ed => ⟨ks ++ [i], ⟨fun k hk => ?_, ?_⟩, by rw [ea, ed, List.map_append]; rfl⟩
      · rcases List.mem_append.mp hk with z | z
        · have := nu.lt k z
          omega
        · rw [List.mem_singleton.mp z]
          omega
      · refine List.pairwise_append.mpr ⟨nu.up, List.pairwise_singleton _ _, fun a ha b hb => ?_⟩
        rw [List.mem_singleton.mp hb]
        exact nu.lt a ha
    · obtain ⟨ks, nu, ea⟩ := hp
      exact ⟨ks, ⟨fun k hk => Nat.lt_succ_of_lt (nu.lt k hk), nu.up⟩, ea⟩
    · obtain ⟨ks, nu, ea⟩ := hp
      rw [List.length_map, List.length_range] at nu
      exact ⟨ks, nu, by rw [ea]⟩
end
end Lf

namespace Lf
open PySem PySem.Spec PyProof.Rows L2
local macro_rules | `(tactic| walk_at "rv") => `(tactic| with_reducible first
  | exact rv_int | exact rv_cmp | exact rv_eqI | exact rv_neI | exact rv_eqS | exact rv_neS | exact rv_eqB | exact rv_neB)
local macro_rules | `(tactic| walk_at "xd") => `(tactic| first
  | (with_reducible first | exact x_int | exact x_str | exact x_bl | exact x_non | exact x_ty | exact x_ref)
  | ((with_reducible apply x_var); exact rfl)
  | ((with_reducible apply xd_op); (walk_at "xd"); (walk_at "xd"); (walk_at "rv"))
  | ((with_reducible apply xd_if); (walk_at "xb"); (intro _; walk_at "xd"); (intro _; walk_at "xd"))
  | ((with_reducible apply xd_tup); (walk_at "xa"); (first | decide | assumption | omega))
  | ((with_reducible apply xd_lst); (walk_at "xa"); (first | decide | assumption | omega)))
local macro_rules | `(tactic| walk_at "xb") => `(tactic| first
  | ((with_reducible apply xb_test); (walk_at "xd"))
  | ((with_reducible apply xb_B); (walk_at "xd"))
  | ((with_reducible apply xb_and); (walk_at "xb"); (intro _; walk_at "xb"))
  | ((with_reducible apply xb_or); (walk_at "xb"); (intro _; walk_at "xb"))
  | ((with_reducible apply xb_not); (walk_at "xb")))
local macro_rules | `(tactic| walk_at "xa") => `(tactic| first
  | (with_reducible exact xa_nil)
  | ((with_reducible apply xad_cons); (walk_at "xd"); (walk_at "xa")))

section
variable {P : Program} {w : World} {K : PySem.W.Frag} {mg : Str → Option Value} {base : Heap}
theorem xd_tup2' {M : Mode K} {G : List (Option Dt)} {ta : TA} {a b : Dt} (h : Xa M G ta (· = [a, b])) : Xd M G (tTup ta) (.tup [a, b]) := xd_tup h (show (2 : Nat) ≤ 100000 by decide)
/-! ### fields -/
def pW1 : List Str := ["no", "last", "raise", "row"]
def pW2 : List Str := ["no", "last", "raise", "lower"]
def pW3 : List Str := ["no", "least"]
def pW4 : List Str := ["no", "last", "raise", "later"]
def pW5 : List Str := ["exact", "floored"]
def partsW : List (List Str) := [pW1, pW2, pW3, pW4, pW4, pW5]
def preParts (ds : List Dt) (r : Dt) : Prop := ds = [] ∧ r = .lst (partsW.map fun ws => .tup (ws.map .str))
theorem c_Lparts (T : Txt w K mg) : Cal P w K mg base 1 "_law_parts" [] (spP K preParts) := by
  refine cal_Lparts T fun f fd F => pure_ok F sc_Lparts ?_ fun cdv A outer s H σ Q E B ds r hr hp h k => ?_
  · rintro ds r ⟨rfl, rfl⟩
    rfl
  · obtain ⟨rfl, rfl⟩ := hp
    refine ⟨_, (pss_cons (ps_set (i := 0) sc_Lparts.nd rfl (Or.inl rfl) (pe_lst (pa_cons (pe_tup (pa_cons pe_str (pa_cons pe_str (pa_cons pe_str (pa_cons pe_str pa_nil))))) (pa_cons (pe_tup (pa_cons pe_str (pa_cons pe_str (pa_cons pe_str (pa_cons pe_str pa_nil))))) (pa_cons (pe_tup (pa_cons pe_str (pa_cons pe_str pa_nil))) pa_nil)))))
    (pss_one (ps_ret (pe_op op_cat (pe_op op_cat (pv 0) (pe_op op_rep (pe_lst (pa_cons (pe_tup (pa_cons pe_str (pa_cons pe_str (pa_cons pe_str (pa_cons pe_str pa_nil))))) pa_nil)) pe_int)) (pe_lst (pa_cons (pe_tup (pa_cons pe_str (pa_cons pe_str pa_nil))) pa_nil)))))), ?_⟩
    have four : ∀ {G : List (Option Dt)} {a b c d : Str}, Xd (pureM K B) G (tTup (tCons (tC (.str a)) (tCons (tC (.str b)) (tCons (tC (.str c)) (tCons (tC (.str d)) tNil))))) (.tup ([a, b, c, d].map .str)) := fun {G a b c d} => xd_tup (xad_cons x_str (xad_cons x_str (xad_cons x_str (xad_cons x_str xa_nil)))) (show (4 : Nat) ≤ 100000 by decide)
    have two : ∀ {G : List (Option Dt)} {a b : Str}, Xd (pureM K B) G (tTup (tCons (tC (.str a)) (tCons (tC (.str b)) tNil))) (.tup ([a, b].map .str)) := fun {G a b} => xd_tup2' (xad_cons x_str (xad_cons x_str xa_nil))
    apply qd_asg (d := .lst ([pW1, pW2, pW3].map fun ws => .tup (ws.map .str))) h (xd_lst (ds := [_, _, _]) (xad_cons four (xad_cons four (xad_cons two xa_nil))) (show (3 : Nat) ≤ 100000 by decide))
    intro σ1 H1 h
    apply ed_ret h k
    refine Xe.is (xd_op (xd_op (x_var rfl) (xd_op (xd_lst (ds := [_]) (xad_cons four xa_nil) (show (1 : Nat) ≤ 100000 by decide)) x_int (rv_rep (by decide) (by decide) (show (1 : Nat) ≤ 1000 by decide))) (rv_cat (show (3 : Nat) + 2 ≤ sizeLine by decide))) (xd_lst (ds := [_]) (xad_cons two xa_nil) (show (1 : Nat) ≤ 100000 by decide)) (rv_cat (show (5 : Nat) + 1 ≤ sizeLine by decide))) rfl
def preField (ds : List Dt) (R : Dt → Prop) : Prop := ∃ x : Str, isW x ∧ ds = [.str x] ∧ R = fun d => ∃ f : Fd, FdOk f ∧ f.nm = x ∧ d = f.dt
theorem c_Lfield (T : Txt w K mg) : Cal P w K mg base 4 "_law_field" ["_law_state", "_law_called"] (spS K preField) := by
  refine cal_Lfield T fun f fd F => st_ok F sc_Lfield ?_ fun cdv A outer s H σ Q E B st c ns hB ds R hr hp h k => ?_
  · rintro ds R ⟨x, _, rfl, rfl⟩
    rfl
  · obtain ⟨x, hx, rfl, rfl⟩ := hp
    refine ⟨_, (pss_one (ps_ret (pe_callTy call_tupQ (by rfl) T.f_tuple (by decide +kernel) (pa_cons (pe_op op_cat (pe_lst (pa_cons (pv 1) pa_nil)) (pe_lc (own := [("_law_some", 2)]) rfl sc_Lfield.nd (pi_list (pe_cal0 (c_Lparts T) (hr.mono (by decide)) (by rfl))) (blkOk_by (by kernel_rfl)) (fun _ _ _ _ _ => (pg_name (i := 2) sc_Lfield.nd rfl (Or.inl rfl))) (fun _ _ _ _ _ => pts_nil) (fun _ _ _ _ _ => (pe_cal (c_Lone T) (hr.mono (by decide)) (by rfl) (pa_cons (pv 0) (pa_cons (pv 2) pa_nil)))))) pa_nil)))), ?_⟩
    have h : Sg (stM K B st c ns hB) H [] [some (.raw st), some (.str x), none] σ H := h
    refine e_ret (P := fun d => ∃ f : Fd, FdOk f ∧ f.nm = x ∧ d = f.dt) h ?_ fun d v H' e ok fr hv => k v d H' fr e hv
    refine x_cb (P := fun ds => ∃ f : Fd, FdOk f ∧ f.nm = x ∧ ds = [.lst (.str f.nm :: f.ws.map .str)]) (xa_cons (P := fun d => ∃ f : Fd, FdOk f ∧ f.nm = x ∧ d = .lst (.str f.nm :: f.ws.map .str)) ?_ xa_nil fun d ds ⟨f, h1, h2, e⟩ er => ⟨f, h1, h2, by rw [e, er]⟩) fun ds ⟨f, h1, h2, e⟩ => by
      rw [e]
      exact fun vs H Q ok hs q => rc_tupL vs H Q ok hs fun v d H2 r e hv => q v d H2 r ⟨f, h1, h2, e⟩ hv
    refine x_op (Pa := (· = .lst [.str x])) (Pb := fun d => ∃ f : Fd, FdOk f ∧ f.nm = x ∧ d = .lst (f.ws.map .str)) (xd_lst (xad_cons (x_var rfl) xa_nil) (show (1 : Nat) ≤ 100000 by decide)) ?_ fun a b ea ⟨f, h1, h2, eb⟩ => ?_
    · refine x_lc (G' := fun d => [some (.raw st), some (.str x), some d]) (js := [2]) (P := fun i acc => ∃ ss : List Str, acc = ss.map .str ∧ ss.length = i ∧ ∀ j y ws, ss[j]? = some y → partsW[j]? = some ws → y ∈ ws) (Pt := fun _ _ b => b = true) (xi_list (x_call (ds := []) xa_nil (by exact ⟨rfl, rfl⟩))).j ⟨[], rfl, rfl, fun j y ws (e : ([] : List Str)[j]? = some y) => (by rw [List.getElem?_nil] at e; cases e)⟩ (fun i d _ p acc => xg_name) (fun j hj => hj) (fun i d p acc _ _ σ H Q ok e q => q true H (Mode.refl _ H) rfl) (fun i d p acc e hp _ => ?_) (fun i d acc _ _ z => by cases z) (fun acc hp => ?_) (by rw [List.length_map]; decide)
      · obtain ⟨ss, ea, el, hm⟩ := hp
        obtain ⟨ws, ew, rfl⟩ := map_got e
        have lw : 1 ≤ (ws.map Dt.str).length ∧ (ws.map Dt.str).length ≤ 100000 := by
          have key : ∀ z ∈ partsW, 1 ≤ z.length ∧ z.length ≤ 100000 := by decide +kernel
          rw [List.length_map]
          exact key ws (List.mem_of_getElem? ew)
        refine (x_callS ((HasSt.stM hB).bld _ _) (pre := preOneOf) (P := (· = [.raw st, .tup (ws.map .str)])) (R := fun e => e ∈ ws.map Dt.str) (xad_cons (x_var rfl) (xad_cons (x_var rfl) xa_nil)) fun ds e => ⟨_, e, _, _, .inr rfl, lw.1, lw.2, rfl, rfl⟩).mono fun d hd => ?_
        obtain ⟨y, hy, ed⟩ := List.mem_map.mp hd
        refine ⟨ss ++ [y], by rw [ea, ← ed, List.map_append]; rfl, by rw [List.length_append, el]; rfl, fun j z ws' ez ew' => ?_⟩
        by_cases hj : j < ss.length
        · rw [List.getElem?_append_left hj] at ez
          exact hm j z ws' ez ew'
        · rw [List.getElem?_append_right (by omega)] at ez
          have hj' : j = i := by
            have := (List.getElem?_eq_some_iff.mp ez).1
            rw [List.length_singleton] at this
            omega
          subst hj'
          rw [el, Nat.sub_self] at ez
          cases ez
          rw [ew] at ew'
          cases ew'
          exact hy
      · obtain ⟨ss, ea, el, hm⟩ := hp
        have el' : ss.length = 6 := el
        match ss, el', hm, ea with
        | [s1, s2, s3, s4, s5, s6], _, hm, ea =>
          exact ⟨⟨x, s1, s2, s3, s4, s5, s6⟩, ⟨hx, hm 0 s1 _ rfl rfl, hm 1 s2 _ rfl rfl, hm 2 s3 _ rfl rfl, hm 3 s4 _ rfl rfl, hm 4 s5 _ rfl rfl, hm 5 s6 _ rfl rfl⟩, rfl, by rw [ea]; rfl⟩
    · subst ea
      subst eb
      exact fun y z H Q ok hy hz q => rv_cat (as := [.str x]) (bs := f.ws.map Dt.str) (show 1 + 6 ≤ sizeLine by decide) y z H Q ok hy hz fun v d H2 r e hv => q v d H2 r ⟨f, h1, h2, by rw [e, h2]; rfl⟩ hv
/-! ### works -/
def preBase (ds : List Dt) (R : Dt → Prop) : Prop := ∃ m : Nat, 1 ≤ m ∧ m ≤ 8 ∧ ds = [.int (m : Int)] ∧ R = fun d => ∃ rows, RowsOk rows ∧ rows.length = m ∧ d = .tup [.lst (rows.map .str), workD rows, workD rows]
theorem c_Lbase (T : Txt w K mg) : Cal P w K mg base 5 "_law_base" ["_law_state", "_law_many"] (spS K preBase) := by
  refine cal_Lbase T fun f fd F => st_ok F sc_Lbase ?_ fun cdv A outer s H σ Q E B st c ns hB ds R hr hp h k => ?_
  · rintro ds R ⟨m, _, _, rfl, rfl⟩
    rfl
  · obtain ⟨m, m1, m8, rfl, rfl⟩ := hp
    refine ⟨_, (pss_cons (ps_set (i := 2) sc_Lbase.nd rfl (Or.inl rfl) (pe_cal (c_Lsome_words T) (hr.mono (by decide)) (by rfl) (pa_cons (pv 0) (pa_cons (pv 1) pa_nil))))
    (pss_one (ps_ret (pe_tup (pa_cons (pv 2) (pa_cons (pe_mak (m_Work T) (hr.mono (by decide)) (by rfl) (pa_cons pe_str (pa_cons (pv 2) pa_nil))) (pa_cons (pe_mak (m_Work T) (hr.mono (by decide)) (by rfl) (pa_cons pe_str (pa_cons (pe_callTy call_tupQ (by rfl) T.f_tuple (by decide +kernel) (pa_cons (pv 2) pa_nil)) pa_nil))) pa_nil))))))), ?_⟩
    refine q_asg h (x_callS (HasSt.stM hB) (P := (· = [.raw st, .int (m : Int)])) (xad_cons (x_var rfl) (xad_cons (x_var rfl) xa_nil)) fun ds e => ⟨_, e, m, m8, rfl, rfl⟩) fun d σ1 H1 ⟨rows, e, hl, hn, hw⟩ h => ?_
    subst e
    have ok : RowsOk rows := ⟨by omega, by omega, hn, fun x hx => allW_ok x (hw x hx)⟩
    refine e_ret (P := (· = .tup [.lst (rows.map .str), workD rows, workD rows])) h ?_ fun d v H' e ok' fr hv => k v d H' fr ⟨rows, ok, hl, e⟩ hv
    refine xd_tup (ds := [_, _, _]) (xad_cons (x_var rfl) (xad_cons (x_make (P := (· = [.str "a", .lst (rows.map .str)])) (xad_cons x_str (xad_cons (x_var rfl) xa_nil)) fun ds e => ⟨_, _, ⟨rows, _, ok, e, .inl rfl, rfl, rfl⟩, rfl⟩) (xad_cons (x_make (P := (· = [.str "a", .tup (rows.map .str)])) (xad_cons x_str (xad_cons (xd_cb (xad_cons (x_var rfl) xa_nil) rc_tupL) xa_nil)) fun ds e => ⟨_, _, ⟨rows, _, ok, e, .inr rfl, rfl, rfl⟩, rfl⟩) xa_nil))) (show (3 : Nat) ≤ 100000 by decide)
def preEdn (ds : List Dt) (r : Dt) : Prop := ∃ rows ks, RowsOk rows ∧ NumsOk rows.length ks ∧ ds = [workD rows, .lst (rows.map .str), .lst (ks.map fun (k : Nat) => .int (k : Int))] ∧ r = editD rows ks
theorem c_Ledition (T : Txt w K mg) : Cal P w K mg base 5 "_law_edition" ["_law_base_here", "_law_rows", "_law_numbers"] (spP K preEdn) := by
  refine cal_Ledition T fun f fd F => pure_ok F sc_Ledition ?_ fun cdv A outer s H σ Q E B ds r hr hp h k => ?_
  · rintro ds r ⟨rows, ks, _, _, rfl, rfl⟩
    rfl
  · obtain ⟨rows, ks, ok, nu, rfl, rfl⟩ := hp
    have l8 := ok.hi
    have kl := nu.len
    refine ⟨_, (pss_one (ps_ret (pe_mak (m_Edition T) (hr.mono (by decide)) (by rfl) (pa_cons (pv 0) (pa_cons (pe_lc (own := [("_law_k", 3)]) rfl sc_Ledition.nd (pi_list (pv 2)) (blkOk_by (by kernel_rfl)) (fun _ _ _ _ _ => (pg_name (i := 3) sc_Ledition.nd rfl (Or.inl rfl))) (fun _ _ _ _ _ => pts_nil) (fun _ _ _ _ _ => (pe_ix (ix_listK K) (pv 1) (pv 3) (fun _ _ => rfl)))) pa_nil))))), ?_⟩
    apply ed_ret h k
    refine x_make (P := (· = [workD rows, .lst (ks.map fun k => .str (rowAt rows k))])) (xad_cons (x_var rfl) (xad_cons (x_lcR (rs := ks.map fun k => .str (rowAt rows k)) (ds := ks.map fun (k : Nat) => .int (k : Int)) (by rw [List.length_map, List.length_map]) (xi_list (x_var rfl)).j (fun i d e p acc ed ee => ?_) (hz := by rw [List.length_map]; omega)) xa_nil)) fun ds e => ⟨_, _, ⟨rows, ks, ok, nu, e, rfl, rfl⟩, rfl⟩
    obtain ⟨k, ek, rfl⟩ := map_got ed
    obtain ⟨k2, ek2, rfl⟩ := map_got ee
    rw [ek] at ek2
    cases ek2
    have hlt := nu.lt k (List.mem_of_getElem? ek)
    exact xd_op (x_var (d := .lst (rows.map .str)) rfl) (x_var rfl) (rv_ixL (atN (by rw [List.getElem?_map, rowAt_get hlt]; rfl)))
def preKer2 (ds : List Dt) (r : Dt) : Prop := ∃ ks m, ds = [.lst (ks.map fun (k : Nat) => .int (k : Int)), .int ((m : Nat) : Int)] ∧ m ≤ 8 ∧ r = .lst ((kernL ks m).map .int)
theorem c_Lkernels (T : Txt w K mg) : Cal P w K mg base 1 "_law_kernels" ["_law_numbers", "_law_many"] (spP K preKer2) := by
  refine cal_Lkernels T fun f fd F => pure_ok F sc_Lkernels ?_ fun cdv A outer s H σ Q E B ds r hr hp h k => ?_
  · rintro ds r ⟨ks, m, rfl, _, rfl⟩
    rfl
  · obtain ⟨ks, m, rfl, m8, rfl⟩ := hp
    refine ⟨_, (pss_cons (ps_set (i := 2) sc_Lkernels.nd rfl (Or.inl rfl) (pe_lst (pa_cons pe_int pa_nil)))
    (pss_cons (ps_for PassesOwn.never rfl (pi_range1 (by rfl) T.f_range (pa_cons (pv 1) pa_nil)) (pg_name (i := 3) sc_Lkernels.nd rfl (Or.inl rfl)) (pss_one (ps_expr (pe_bm PySem.F.plainAttrs_list PySem.F.slot_list_append PySem.F.type_list_append mt_append (pv 2) (pa_cons (pe_ifExp (pt_cmpR op_in_seq (pv 3) (pv 0) rfl) (pe_op op_add (pv 3) pe_int) (pe_ix ix_list (pv 2) (pv 3) (fun _ _ => rfl))) pa_nil)))))
    (pss_one (ps_ret (pv 2))))), ?_⟩
    apply qd_new (ds := [.int 0]) h (xad_cons x_int xa_nil)
    intro p σ1 H1 h
    have e1 : (ks.map fun (k : Nat) => Dt.int (k : Int)) = (ks.map fun (k : Nat) => (k : Int)).map .int := by rw [List.map_map]; rfl
    have h : Sg ((pureM K B).bld p ((kernL ks 0).map .int)) H [] [some (.lst ((ks.map fun (k : Nat) => (k : Int)).map .int)), some (.int (m : Int)), some (.raw p), none] σ1 H1 := by rw [← e1]; exact h
    refine q_forR (k := m) (fun i => (pureM K B).bld p ((kernL ks i).map .int)) (fun i => [some (.lst ((ks.map fun (k : Nat) => (k : Int)).map .int)), some (.int (m : Int)), some (.raw p), none]) h (xad_cons (x_var rfl) xa_nil) (by omega) (fun i L' σ' H' hi h => ?_) fun σ' H' h => ?_
    · refine ed_app (d := .int (behind ks (i + 1))) h rfl ?_ ?_ fun H2 h => ?_
      · rw [List.length_map, kernL_len]
        omega
      · refine Xe.is (xd_if (b := decide (i ∈ ks)) (d := .int ((i : Int) + 1)) (d' := .int (behind ks i)) (Xt.is (xb_test (xd_op (x_var rfl) (x_var rfl) rv_inLI)) (decide_eq_decide.mpr nat_mem)) (fun _ => xd_op (x_var rfl) x_int rv_int) fun _ => xl_ix (xl_bld rfl) (x_var rfl) ?_) ?_
        · refine atN ?_
          unfold kernL
          rw [List.getElem?_map, List.getElem?_map, List.getElem?_range (by omega)]
          rfl
        · show _ = Dt.int (if i ∈ ks then (i : Int) + 1 else behind ks i)
          by_cases c : i ∈ ks <;> simp [c]
      · rw [kernL_succ, List.map_append]
        exact h.weak (by repeat (first | exact GLe.nil | apply GLe.keep | apply GLe.drop))
    · exact e_retB h rfl fun v _ f hv => k v H' f hv
end
end Lf

namespace Lf
open PySem PySem.Spec PyProof.Rows L2
local macro_rules | `(tactic| walk_at "rv") => `(tactic| with_reducible first
  | exact rv_int | exact rv_cmp | exact rv_eqI | exact rv_neI | exact rv_eqS | exact rv_neS | exact rv_eqB | exact rv_neB)
local macro_rules | `(tactic| walk_at "xd") => `(tactic| first
  | (with_reducible first | exact x_int | exact x_str | exact x_bl | exact x_non | exact x_ty | exact x_ref)
  | ((with_reducible apply x_var); exact rfl)
  | ((with_reducible apply xd_op); (walk_at "xd"); (walk_at "xd"); (walk_at "rv"))
  | ((with_reducible apply xd_if); (walk_at "xb"); (intro _; walk_at "xd"); (intro _; walk_at "xd"))
  | ((with_reducible apply xd_tup); (walk_at "xa"); (first | decide | assumption | omega))
  | ((with_reducible apply xd_lst); (walk_at "xa"); (first | decide | assumption | omega)))
local macro_rules | `(tactic| walk_at "xb") => `(tactic| first
  | ((with_reducible apply xb_test); (walk_at "xd"))
  | ((with_reducible apply xb_B); (walk_at "xd"))
  | ((with_reducible apply xb_and); (walk_at "xb"); (intro _; walk_at "xb"))
  | ((with_reducible apply xb_or); (walk_at "xb"); (intro _; walk_at "xb"))
  | ((with_reducible apply xb_not); (walk_at "xb")))
local macro_rules | `(tactic| walk_at "xa") => `(tactic| first
  | (with_reducible exact xa_nil)
  | ((with_reducible apply xad_cons); (walk_at "xd"); (walk_at "xa")))

theorem behind_le (ks : List Nat) : ∀ i : Nat, 0 ≤ behind ks i ∧ behind ks i ≤ (i : Int)
  | 0 => ⟨Int.le_refl 0, Int.le_refl 0⟩
  | i + 1 => by
    have ih := behind_le ks i
    show 0 ≤ (if i ∈ ks then (i : Int) + 1 else behind ks i) ∧ (if i ∈ ks then (i : Int) + 1 else behind ks i) ≤ ((i + 1 : Nat) : Int)
    split <;> constructor <;> omega
theorem twf_of {d : Dt} {T : List Tb} (h : Setd d T) : TWf T := by
  rcases h with ⟨n, n1, n3, _, e⟩ | ⟨rows, kss, ok, nu, l1, l3, _, e⟩
  · subst e
    exact ⟨by rw [List.length_replicate]; exact n1, by rw [List.length_replicate]; exact n3, fun l m => (by cases (List.mem_replicate.mp m).2), .inl fun t m => (List.mem_replicate.mp m).2⟩
  · subst e
    have hi := ok.hi
    have form : ∀ l, some l ∈ (kss.map fun ks => some (kernL ks rows.length)) → ∃ ks, l = kernL ks rows.length := fun l m => by
      obtain ⟨ks, _, e⟩ := List.mem_map.mp m
      exact ⟨ks, (Option.some.inj e).symm⟩
    refine ⟨by rw [List.length_map]; exact l1, by rw [List.length_map]; exact l3, fun l m => ?_, .inr ⟨rows.length + 1, fun t m => ?_⟩⟩
    · obtain ⟨ks, e⟩ := form l m
      rw [e, kernL_len]
      refine ⟨by omega, by omega, fun v hv => ?_⟩
      obtain ⟨i, hi', ev⟩ := List.mem_map.mp hv
      have hb := behind_le ks i
      have hi2 := List.mem_range.mp hi'
      refine ⟨ev ▸ hb.1, fun l' m' => ?_⟩
      obtain ⟨ks', e'⟩ := form l' m'
      rw [e', kernL_len, ← ev]
      omega
    · obtain ⟨ks, _, e⟩ := List.mem_map.mp m
      exact ⟨_, e.symm, kernL_len _ _⟩
def G3' (G : List (Option Dt)) (i j l : Nat) (d : Dt) : List (Option Dt) := match d with
  | .tup [a, b, c] => ((G.set i (some a)).set j (some b)).set l (some c)
  | _ => G
section
variable {P : Program} {w : World} {K : PySem.W.Frag} {mg : Str → Option Value} {base : Heap}
def preSet (ds : List Dt) (R : Dt → Prop) : Prop := ∃ m : Nat, 1 ≤ m ∧ m ≤ 3 ∧ ds = [.int (m : Int)] ∧ R = fun d => ∃ sd Ts, Setd sd Ts ∧ d = .tup [sd, .lst (Ts.map tbDt)]
theorem c_Lsetting (T : Txt w K mg) : Cal P w K mg base 6 "_law_setting" ["_law_state", "_law_size"] (spS K preSet) := by
  refine cal_Lsetting T fun f fd F => st_ok F sc_Lsetting ?_ fun cdv A outer s H σ Q E B st c ns hB ds R hr hp h k => ?_
  · rintro ds R ⟨m, _, _, rfl, rfl⟩
    rfl
  · obtain ⟨m, m1, m3, rfl, rfl⟩ := hp
    refine ⟨_, (pss_cons (ps_if (pt_cmpR op_eq (pe_cal (c_Ltake T) (hr.mono (by decide)) (by rfl) (pa_cons (pv 0) (pa_cons pe_int pa_nil))) pe_int (nomark _)) (pss_one (ps_ret (pe_tup (pa_cons (pv 1) (pa_cons (pe_op op_rep (pe_lst (pa_cons pe_non pa_nil)) (pv 1)) pa_nil))))) pss_nil)
    (pss_cons (ps_set (i := 2) sc_Lsetting.nd rfl (Or.inr rfl) (pe_op op_add pe_int (pe_cal (c_Ltake T) (hr.mono (by decide)) (by rfl) (pa_cons (pv 0) (pa_cons pe_int pa_nil)))))
    (pss_cons (ps_asg (pe_cal (c_Lbase T) (hr.mono (by decide)) (by rfl) (pa_cons (pv 0) (pa_cons (pv 2) pa_nil))) (pg_tup rfl (pgs_cons (pg_name (i := 3) sc_Lsetting.nd rfl (Or.inr rfl)) (pgs_cons (pg_name (i := 4) sc_Lsetting.nd rfl (Or.inr rfl)) (pgs_cons (pg_name (i := 5) sc_Lsetting.nd rfl (Or.inr rfl)) pgs_nil)))))
    (pss_cons (ps_setLc (i := 6) (own := [("_law_k", 8)]) rfl sc_Lsetting.nd rfl rfl (sw_true rfl rfl rfl (by decide +kernel)) (pi_range1 (by rfl) T.f_range (pa_cons (pv 1) pa_nil)) (blkOk_by (by kernel_rfl)) (fun _ _ _ _ _ => (pg_name (i := 8) sc_Lsetting.nd rfl (Or.inl rfl))) (fun _ _ _ _ _ => pts_nil) (fun _ _ _ _ _ => (pe_cal (c_Lkept T) (hr.mono (by decide)) (by rfl) (pa_cons (pv 0) (pa_cons (pv 2) pa_nil)))))
    (pss_cons (ps_setLc (i := 7) (own := [("_law_numbers", 9)]) rfl sc_Lsetting.nd rfl rfl (sw_true rfl rfl rfl (by decide +kernel)) (pi_list (pv 6)) (blkOk_by (by kernel_rfl)) (fun _ _ _ _ _ => (pg_name (i := 9) sc_Lsetting.nd rfl (Or.inl rfl))) (fun _ _ _ _ _ => pts_nil) (fun _ _ _ _ _ => (pe_cal (c_Ledition T) (hr.mono (by decide)) (by rfl) (pa_cons (pe_cal (c_Lone T) (hr.mono (by decide)) (by rfl) (pa_cons (pv 0) (pa_cons (pe_lst (pa_cons (pv 4) (pa_cons (pv 5) pa_nil))) pa_nil))) (pa_cons (pv 3) (pa_cons (pv 9) pa_nil))))))
    (pss_one (ps_ret (pe_tup (pa_cons (pe_cal (c_Lhanded T) (hr.mono (by decide)) (by rfl) (pa_cons (pv 0) (pa_cons (pv 7) pa_nil))) (pa_cons (pe_lc (own := [("_law_numbers", 9)]) rfl sc_Lsetting.nd (pi_list (pv 6)) (blkOk_by (by kernel_rfl)) (fun _ _ _ _ _ => (pg_name (i := 9) sc_Lsetting.nd rfl (Or.inl rfl))) (fun _ _ _ _ _ => pts_nil) (fun _ _ _ _ _ => (pe_cal (c_Lkernels T) (hr.mono (by decide)) (by rfl) (pa_cons (pv 9) (pa_cons (pv 2) pa_nil))))) pa_nil)))))))))), ?_⟩
    have h : Sg (stM K B st c ns hB) H [] [some (.raw st), some (.int (m : Int)), none, none, none, none, none, none, none, none] σ H := h
    refine q_when (P := fun _ => True) h (xT_test (xI_eq (Pa := fun _ => True) (Pb := fun _ => True) ((x_callS (HasSt.stM hB) (P := (· = [.raw st, .int 2])) (xad_cons (x_var rfl) (xad_cons x_int xa_nil)) fun ds e => ⟨[.int 2], e, 2, by decide, by decide, rfl, rfl⟩).mono fun d ⟨k, e, _⟩ => ⟨_, e, trivial⟩) (xI_of x_int trivial))) (fun _ H1 h => ?_) fun _ H1 h => ?_
    · refine e_ret (P := (· = .tup [.int (m : Int), .lst (List.replicate m .non)])) h ?_ fun d v H' e ok fr hv => k v d H' fr ⟨.int (m : Int), List.replicate m none, .inl ⟨m, m1, m3, rfl, rfl⟩, by rw [e, List.map_replicate]; rfl⟩ hv
      refine xd_tup2' (xad_cons (x_var rfl) (xad_cons (Xe.is (xd_op (xd_lst (xad_cons x_non xa_nil) (show (1 : Nat) ≤ 100000 by decide)) (x_var rfl) (rv_rep (by omega) (by omega) (show (1 : Nat) ≤ 1000 by decide))) ?_) xa_nil))
      rw [Int.toNat_natCast, flat_one]
    · refine q_asg (P := fun d => ∃ n : Nat, d = .int (n : Int) ∧ 1 ≤ n ∧ n ≤ 8) h ?_ fun d σ1 H2 ⟨n, e, n1, n8⟩ h => ?_
      · refine (xI_op0 (P := fun z => 1 ≤ z ∧ z ≤ 8) (Pa := fun z => z = 1) (Pb := fun z => 0 ≤ z ∧ z < 8) (xI_of x_int rfl) ((x_callS (HasSt.stM hB) (P := (· = [.raw st, .int 8])) (xad_cons (x_var rfl) (xad_cons x_int xa_nil)) fun ds e => ⟨[.int 8], e, 8, by decide, by decide, rfl, rfl⟩).mono fun d ⟨k, e, hk⟩ => ⟨_, e, by omega, by omega⟩) fun a b ea hb => by subst ea; constructor <;> omega).mono fun d ⟨z, e, h1, h8⟩ => ⟨z.toNat, by rw [e, Int.toNat_of_nonneg (by omega)], by omega, by omega⟩
      subst e
      refine q_asgG (P := fun d => ∃ rows, RowsOk rows ∧ rows.length = n ∧ d = .tup [.lst (rows.map .str), workD rows, workD rows]) (js := [3, 4, 5]) (G' := fun d => G3' [some (.raw st), some (.int (m : Int)), some (.int (n : Int)), none, none, none, none, none, none, none] 3 4 5 d) h (x_callS (HasSt.stM hB) (P := (· = [.raw st, .int (n : Int)])) (xad_cons (x_var rfl) (xad_cons (x_var rfl) xa_nil)) fun ds e => ⟨_, e, n, n1, n8, rfl, rfl⟩) (fun d ⟨rows, _, _, e⟩ => by rw [e]; exact xg_three) fun d σ2 H3 ⟨rows, ok, hl, e⟩ h => ?_
      subst e
      subst hl
      have h : Sg (stM K B st c ns hB) H [] [some (.raw st), some (.int (m : Int)), some (.int (rows.length : Int)), some (.lst (rows.map .str)), some (workD rows), some (workD rows), none, none, none, none] σ2 H3 := h
      have src : Xj (stM K B st c ns hB) [some (.raw st), some (.int (m : Int)), some (.int (rows.length : Int)), some (.lst (rows.map .str)), some (workD rows), some (workD rows), none, none, none, none] (iRng1 (tCons (tVar 1) tNil)) ((List.range m).map fun (i : Nat) => Dt.int (i : Int)) := by
        have z := (xi_rng1 (M := stM K B st c ns hB) (G := [some (.raw st), some (.int (m : Int)), some (.int (rows.length : Int)), some (.lst (rows.map .str)), some (workD rows), some (workD rows), none, none, none, none]) (ta := tCons (tVar 1) tNil) (n := (m : Int)) (xad_cons (x_var rfl) xa_nil) (by omega) (by omega)).j
        rw [Int.toNat_natCast] at z
        exact z
      let numD : List Nat → Dt := fun ks => .lst (ks.map fun (k : Nat) => .int (k : Int))
      refine q_asg (P := fun d => ∃ kss : List (List Nat), kss.length = m ∧ (∀ ks ∈ kss, NumsOk rows.length ks) ∧ d = .lst (kss.map numD)) h ?_ fun d σ3 H4 ⟨kss, lk, nu, e⟩ h => ?_
      · refine x_lc (G' := fun d => [some (.raw st), some (.int (m : Int)), some (.int (rows.length : Int)), some (.lst (rows.map .str)), some (workD rows), some (workD rows), none, none, some d, none]) (js := [8]) (P := fun i acc => ∃ kss : List (List Nat), kss.length = i ∧ (∀ ks ∈ kss, NumsOk rows.length ks) ∧ acc = kss.map numD) (Pt := fun _ _ b => b = true) src ⟨[], rfl, fun ks z => (by cases z), rfl⟩ (fun i d _ p acc => xg_name) (fun j hj => hj) (fun i d p acc _ _ σ H Q ok e q => q true H (Mode.refl _ H) rfl) (fun i d p acc e hp _ => ?_) (fun i d acc _ _ z => by cases z) (fun acc hp => ?_) (by rw [List.length_map, List.length_range]; omega)
        · obtain ⟨kss, lk, nu, ea⟩ := hp
          refine (x_callS ((HasSt.stM hB).bld _ _) (P := (· = [.raw st, .int (rows.length : Int)])) (xad_cons (x_var rfl) (xad_cons (x_var rfl) xa_nil)) fun ds e => ⟨_, e, rows.length, n8, rfl, rfl⟩).mono fun d ⟨ks, hk, ed⟩ => ⟨kss ++ [ks], by rw [List.length_append, lk]; rfl, fun x hx => ?_, by rw [ea, ed, List.map_append]; rfl⟩
          rcases List.mem_append.mp hx with z | z
          · exact nu x z
          · rw [List.mem_singleton.mp z]
            exact hk
        · obtain ⟨kss, lk, nu, ea⟩ := hp
          rw [List.length_map, List.length_range] at lk
          exact ⟨kss, lk, nu, by rw [ea]⟩
      subst e
      have h : Sg (stM K B st c ns hB) H [] [some (.raw st), some (.int (m : Int)), some (.int (rows.length : Int)), some (.lst (rows.map .str)), some (workD rows), some (workD rows), some (.lst (kss.map numD)), none, none, none] σ3 H4 := h
      apply qd_asg (d := .lst (kss.map (editD rows))) h
      · refine x_lcR (rs := kss.map (editD rows)) (ds := kss.map numD) (by rw [List.length_map, List.length_map]) (xi_list (x_var rfl)).j (fun i d e p acc ed ee => ?_) (hz := by rw [List.length_map]; omega)
        obtain ⟨ks, ek, rfl⟩ := map_got ed
        obtain ⟨ks2, ek2, rfl⟩ := map_got ee
        rw [ek] at ek2
        cases ek2
        have one : Xd ((stM K B st c ns hB).bld p acc) ((wipeG [some (.raw st), some (.int (m : Int)), some (.int (rows.length : Int)), some (.lst (rows.map .str)), some (workD rows), some (workD rows), some (.lst (kss.map numD)), none, none, none] [9]).set 9 (some (numD ks))) (tCall (spS K preOneOf) [] E0 (tCons (tVar 0) (tCons (tLst (tCons (tVar 4) (tCons (tVar 5) tNil))) tNil))) (workD rows) :=
          (x_callS ((HasSt.stM hB).bld _ _) (pre := preOneOf) (P := (· = [.raw st, .lst [workD rows, workD rows]])) (R := fun e => e ∈ [workD rows, workD rows]) (xad_cons (x_var rfl) (xad_cons (xd_lst (xad_cons (x_var rfl) (xad_cons (x_var rfl) xa_nil)) (show (2 : Nat) ≤ 100000 by decide)) xa_nil)) fun ds e => ⟨_, e, _, _, .inl rfl, by show 1 ≤ 2; decide, by show 2 ≤ 100000; decide, rfl, rfl⟩).mono fun d hd => by
            rcases List.mem_cons.mp hd with e | e
            · exact e
            · exact List.mem_singleton.mp e
        exact x_call (xad_cons one (xad_cons (x_var rfl) (xad_cons (x_var rfl) xa_nil))) (by exact ⟨rows, ks, ok, nu ks (List.mem_of_getElem? ek), rfl, rfl⟩)
      intro σ4 H5 h
      refine e_ret (P := fun d => ∃ sd, Sq sd (kss.map (editD rows)) ∧ d = .tup [sd, .lst ((kss.map fun ks => (some (kernL ks rows.length) : Tb)).map tbDt)]) h ?_ fun d v H' ⟨sd, hs, e⟩ ok2 fr hv => k v d H' fr ⟨sd, _, .inr ⟨rows, kss, ok, nu, by omega, by omega, hs, rfl⟩, e⟩ hv
      refine x_tup (P := fun ds => ∃ sd, Sq sd (kss.map (editD rows)) ∧ ds = [sd, .lst ((kss.map fun ks => (some (kernL ks rows.length) : Tb)).map tbDt)]) (xa_cons (P := fun sd => Sq sd (kss.map (editD rows))) (R := (· = [.lst ((kss.map fun ks => (some (kernL ks rows.length) : Tb)).map tbDt)])) ?_ (xad_cons ?_ xa_nil) fun d ds hs e => ⟨d, hs, by rw [e]⟩) (fun ds ⟨sd, _, e⟩ => by rw [e]; show (2 : Nat) ≤ 100000; decide) fun ds ⟨sd, hs, e⟩ => ⟨sd, hs, by rw [e]⟩
      · exact x_callS (HasSt.stM hB) (P := (· = [.raw st, .lst (kss.map (editD rows))])) (xad_cons (x_var rfl) (xad_cons (x_var rfl) xa_nil)) fun ds e => ⟨_, e, _, rfl, rfl⟩
      · refine x_lcR (rs := (kss.map fun ks => (some (kernL ks rows.length) : Tb)).map tbDt) (ds := kss.map numD) (by rw [List.length_map, List.length_map, List.length_map]) (xi_list (x_var rfl)).j (fun i d e p acc ed ee => ?_) (hz := by rw [List.length_map]; omega)
        obtain ⟨ks, ek, rfl⟩ := map_got ed
        obtain ⟨t, et, rfl⟩ := map_got ee
        obtain ⟨ks2, ek2, rfl⟩ := map_got et
        rw [ek] at ek2
        cases ek2
        exact x_call (xad_cons (x_var rfl) (xad_cons (x_var rfl) xa_nil)) (by exact ⟨ks, rows.length, rfl, n8, rfl⟩)
end
end Lf

namespace Lf
open PySem PySem.Spec PyProof.Rows L2
local macro_rules | `(tactic| walk_at "rv") => `(tactic| with_reducible first
  | exact rv_int | exact rv_cmp | exact rv_eqI | exact rv_neI | exact rv_eqS | exact rv_neS | exact rv_eqB | exact rv_neB)
local macro_rules | `(tactic| walk_at "xd") => `(tactic| first
  | (with_reducible first | exact x_int | exact x_str | exact x_bl | exact x_non | exact x_ty | exact x_ref)
  | ((with_reducible apply x_var); exact rfl)
  | ((with_reducible apply xd_op); (walk_at "xd"); (walk_at "xd"); (walk_at "rv"))
  | ((with_reducible apply xd_if); (walk_at "xb"); (intro _; walk_at "xd"); (intro _; walk_at "xd"))
  | ((with_reducible apply xd_tup); (walk_at "xa"); (first | decide | assumption | omega))
  | ((with_reducible apply xd_lst); (walk_at "xa"); (first | decide | assumption | omega)))
local macro_rules | `(tactic| walk_at "xb") => `(tactic| first
  | ((with_reducible apply xb_test); (walk_at "xd"))
  | ((with_reducible apply xb_B); (walk_at "xd"))
  | ((with_reducible apply xb_and); (walk_at "xb"); (intro _; walk_at "xb"))
  | ((with_reducible apply xb_or); (walk_at "xb"); (intro _; walk_at "xb"))
  | ((with_reducible apply xb_not); (walk_at "xb")))
local macro_rules | `(tactic| walk_at "xa") => `(tactic| first
  | (with_reducible exact xa_nil)
  | ((with_reducible apply xad_cons); (walk_at "xd"); (walk_at "xa")))

section
variable {P : Program} {w : World} {K : PySem.W.Frag} {mg : Str → Option Value} {base : Heap}
def deedW : List Str := ["read", "jump", "give", "take", "anew"]
def preDeed (ds : List Dt) (R : Dt → Prop) : Prop := ∃ (Ts : List Tb) (s : Sd) (ws : List Str), TWf Ts ∧ s.spots.length = Ts.length ∧ (∀ v ∈ s.spots, 0 ≤ v) ∧ 1 ≤ ws.length ∧ ws.length ≤ 20 ∧ (∀ x ∈ ws, x ∈ deedW) ∧ ds = [intsD s.spots, .lst (Ts.map tbDt), .tup (ws.map .str)] ∧ R = fun d => ∃ x : Deed, okDeed Ts s x ∧ d = x.dt
theorem ints_of {L : List Dt} (h : ∀ d ∈ L, ∃ i : Int, d = .int i) : ∃ l : List Int, L = l.map .int := by
  induction L with
  | nil => exact ⟨[], rfl⟩
  | cons d L ih =>
    obtain ⟨i, e⟩ := h d List.mem_cons_self
    obtain ⟨l, e2⟩ := ih fun x hx => h x (List.mem_cons_of_mem _ hx)
    exact ⟨i :: l, by rw [e, e2]; rfl⟩
theorem c_Lplain_deed (T : Txt w K mg) : Cal P w K mg base 4 "_law_plain_deed" ["_law_state", "_law_played_places", "_law_floors", "_law_words"] (spS K preDeed) := by
  refine cal_Lplain_deed T fun f fd F => st_ok F sc_Lplain_deed ?_ fun cdv A outer s0 H σ Q E B st c ns hB ds R hr hp h k => ?_
  · rintro ds R ⟨Ts, s, ws, _, _, _, _, _, _, rfl, rfl⟩
    rfl
  · obtain ⟨Ts, s, ws, tw, sl, s0', w1, w2, hw, rfl, rfl⟩ := hp
    refine ⟨_, (pss_cons (ps_asg (pe_tup (pa_cons (pe_cal (c_Lone T) (hr.mono (by decide)) (by rfl) (pa_cons (pv 0) (pa_cons (pv 3) pa_nil))) (pa_cons (pe_cal (c_Ltake T) (hr.mono (by decide)) (by rfl) (pa_cons (pv 0) (pa_cons (pe_callB call_lenQ (by rfl) T.f_len PySem.boot_len (pa_cons (pv 2) pa_nil)) pa_nil))) pa_nil))) (pg_tup rfl (pgs_cons (pg_name (i := 4) sc_Lplain_deed.nd rfl (Or.inr rfl)) (pgs_cons (pg_name (i := 5) sc_Lplain_deed.nd rfl (Or.inl rfl)) pgs_nil))))
    (pss_cons (ps_if (pt_cmpR op_notIn_seq (pv 4) (pe_tup (pa_cons pe_str (pa_cons pe_str pa_nil))) rfl) (pss_one (ps_ret (pe_tup (pa_cons (pv 4) (pa_cons (pv 5) pa_nil))))) pss_nil)
    (pss_cons (ps_set (i := 6) sc_Lplain_deed.nd rfl (Or.inr rfl) (pe_ix ix_tup (pv 1) (pv 5) (fun _ _ => rfl)))
    (pss_cons (ps_set (i := 7) sc_Lplain_deed.nd rfl (Or.inl rfl) (pe_op op_cat (pe_lst (pa_cons (pe_op op_add (pv 6) pe_int) (pa_cons (pe_op op_add (pv 6) pe_int) (pa_cons (pe_op op_add (pv 6) pe_int) pa_nil)))) (pe_lc (own := [("_law_far", 8)]) rfl sc_Lplain_deed.nd (pi_tup (pv 1)) (blkOk_by (by kernel_rfl)) (fun _ _ _ _ _ => (pg_name (i := 8) sc_Lplain_deed.nd rfl (Or.inl rfl))) (fun _ _ _ _ _ => (pts_one (pt_cmpR op_gt (pv 8) (pv 6) (nomark _)))) (fun _ _ _ _ _ => (pv 8)))))
    (pss_cons (ps_if (pt_cmpR op_eq (pv 4) pe_str (nomark _)) (pss_one (ps_set (i := 7) sc_Lplain_deed.nd rfl (Or.inl rfl) (pe_op op_cat (pe_callTy call_listQ (by rfl) T.f_list (by decide +kernel) (pa_cons (pv 1) pa_nil)) (pe_lst (pa_cons pe_int (pa_cons pe_int (pa_cons pe_int (pa_cons (pe_op op_add (pv 6) pe_int) (pa_cons (pe_op op_add (pv 6) pe_int) pa_nil))))))))) pss_nil)
    (pss_cons (ps_if (pt_cmpR op_notN (pe_ix ix_list (pv 2) (pv 5) (fun _ _ => rfl)) pe_non (nomark _)) (pss_one (ps_setLc (i := 7) (own := [("_law_far", 8), ("_law_x", 9)]) rfl sc_Lplain_deed.nd rfl rfl (sw_true rfl rfl rfl (by decide +kernel)) (pi_enum (by rfl) T.f_enumerate (pa_cons (pe_ix ix_list (pv 2) (pv 5) (fun _ _ => rfl)) pa_nil)) (blkOk_by (by kernel_rfl)) (fun _ _ _ _ _ => (pgb_tup K 2 rfl (pgs_cons (pg_name (i := 8) sc_Lplain_deed.nd rfl (Or.inl rfl)) (pgs_cons (pg_name (i := 9) sc_Lplain_deed.nd rfl (Or.inl rfl)) pgs_nil)))) (fun _ _ _ _ _ => (pts_one (PW.pt (pw_and (pt_cmpR op_eq (pv 8) (pv 9) (nomark _)) (pw_and1 (PW.pt (pw_or (pt_cmpR op_eq (pv 4) pe_str (nomark _)) (pw_or1 (pt_cmpR op_gt (pv 8) (pv 6) (nomark _)))))))))) (fun _ _ _ _ _ => (pv 8)))) pss_nil)
    (pss_one (ps_ret (pe_ifExp (pt_cmpR (op_neD hr.units) (pv 7) (pe_lst pa_nil) (nomark _)) (pe_tup (pa_cons (pv 4) (pa_cons (pv 5) (pa_cons (pe_cal (c_Lone T) (hr.mono (by decide)) (by rfl) (pa_cons (pv 0) (pa_cons (pv 7) pa_nil))) pa_nil)))) (pe_tup (pa_cons (pe_cal (c_Lone T) (hr.mono (by decide)) (by rfl) (pa_cons (pv 0) (pa_cons (pe_tup (pa_cons pe_str (pa_cons pe_str pa_nil))) pa_nil))) (pa_cons (pv 5) pa_nil)))))))))))), ?_⟩
    have t1 := tw.lo
    have t3 := tw.hi
    refine q_asgG (P := fun d => ∃ (x : Str) (j : Nat), d = .tup [.str x, .int (j : Int)] ∧ x ∈ ws ∧ j < Ts.length) (js := [4, 5]) (G' := fun d => G2 [some (.raw st), some (intsD s.spots), some (.lst (Ts.map tbDt)), some (.tup (ws.map .str)), none, none, none, none, none, none] 4 5 d) h ?_ (fun d ⟨x, j, e, _⟩ => by rw [e]; exact xg_two) fun d σ1 H1 ⟨word, j, e, hword, hj⟩ h => ?_
    · refine x_tup (P := fun ds => ∃ (x : Str) (j : Nat), ds = [.str x, .int (j : Int)] ∧ x ∈ ws ∧ j < Ts.length) (xa_cons (P := fun d => ∃ x : Str, d = .str x ∧ x ∈ ws) (R := fun ds => ∃ j : Nat, ds = [.int (j : Int)] ∧ j < Ts.length) ?_ (xa_cons (P := fun d => ∃ j : Nat, d = .int (j : Int) ∧ j < Ts.length) ?_ xa_nil fun d ds ⟨j, e, h⟩ er => ⟨j, by rw [e, er], h⟩) fun d ds ⟨x, e, h⟩ ⟨j, er, h2⟩ => ⟨x, j, by rw [e, er], h, h2⟩) (fun ds ⟨x, j, e, _⟩ => by rw [e]; show (2 : Nat) ≤ 100000; decide) fun ds ⟨x, j, e, h⟩ => ⟨x, j, by rw [e], h⟩
      · exact (x_callS (HasSt.stM hB) (pre := preOneOf) (P := (· = [.raw st, .tup (ws.map .str)])) (R := fun e => e ∈ ws.map Dt.str) (xad_cons (x_var rfl) (xad_cons (x_var rfl) xa_nil)) fun ds e => ⟨_, e, _, _, .inr rfl, by rw [List.length_map]; exact w1, by rw [List.length_map]; omega, rfl, rfl⟩).mono fun d hd => by
          obtain ⟨x, hx, e⟩ := List.mem_map.mp hd
          exact ⟨x, e.symm, hx⟩
      · exact x_callS (HasSt.stM hB) (P := (· = [.raw st, .int (Ts.length : Int)])) (xad_cons (x_var rfl) (xad_cons (Xe.is (xd_cb (xad_cons (x_var rfl) xa_nil) rc_lenL) (by rw [List.length_map])) xa_nil)) fun ds e => ⟨_, e, Ts.length, t1, by omega, rfl, rfl⟩
    subst e
    have h : Sg (stM K B st c ns hB) H [] [some (.raw st), some (.tup (s.spots.map .int)), some (.lst (Ts.map tbDt)), some (.tup (ws.map .str)), some (.str word), some (.int (j : Int)), none, none, none, none] σ1 H1 := h
    have hd := hw word hword
    have hjs : j < s.spots.length := by rw [sl]; exact hj
    have tin : ∀ {b : Bool} {G : List (Option Dt)}, G[4]? = some (some (.str word)) → (!decide (word ∈ (["read", "jump"] : List Str))) = b → Xb (stM K B st c ns hB) G (tTest (tOp (rIn K true) (tVar 4) (tTup (tCons (tC (.str "read")) (tCons (tC (.str "jump")) tNil))))) b := fun e0 e =>
      Xt.is (xb_test (xd_op (x_var e0) (xd_tup2' (xad_cons x_str (xad_cons x_str xa_nil))) (rv_inTS (xs := ["read", "jump"])))) e
    refine qd_when (f := !decide (word ∈ (["read", "jump"] : List Str))) h (tin rfl rfl) (fun cw H2 h => ?_) fun cw H2 h => ?_
    · refine e_ret (P := (· = .tup [.str word, .int (j : Int)])) h (xd_tup2' (xad_cons (x_var rfl) (xad_cons (x_var rfl) xa_nil))) fun d v H' e ok fr hv => k v d H' fr ?_ hv
      simp only [deedW, List.mem_cons, List.not_mem_nil, or_false] at hd
      rcases hd with z | z | z | z | z <;> subst z
      · exact absurd cw (by decide +kernel)
      · exact absurd cw (by decide +kernel)
      · exact ⟨.give j, hj, e⟩
      · exact ⟨.take j, hj, e⟩
      · exact ⟨.anew j, hj, e⟩
    let spot := sg s.spots j
    have sp0 : 0 ≤ spot := s0' _ (List.mem_of_getElem? (sg_some hjs))
    have hrd : ∃ rd : Bool, word = (if rd = true then ("read" : Str) else ("jump" : Str)) := by
      have z : word ∈ (["read", "jump"] : List Str) := by
        by_cases z : word ∈ (["read", "jump"] : List Str)
        · exact z
        · rw [decide_eq_false z] at cw
          cases cw
      rcases List.mem_cons.mp z with e | e
      · exact ⟨true, e⟩
      · exact ⟨false, List.mem_singleton.mp e⟩
    obtain ⟨rd, ew⟩ := hrd
    have hw2 : decide (word = "jump") = !rd := by cases rd <;> (subst ew; decide +kernel)
    apply qd_asg (d := .int spot) h (xd_op (x_var rfl) (x_var rfl) (rv_ixT (at_sg hjs)))
    intro σ3 H3 h
    have h : Sg (stM K B st c ns hB) H [] [some (.raw st), some (.tup (s.spots.map .int)), some (.lst (Ts.map tbDt)), some (.tup (ws.map .str)), some (.str word), some (.int (j : Int)), some (.int spot), none, none, none] σ3 H3 := h
    let L1 : List Int := [spot + 1, spot + 2, spot + 4] ++ s.spots.filter fun v => decide (spot < v)
    have l1 : L1.length ≤ 6 := by
      show ([spot + 1, spot + 2, spot + 4] ++ s.spots.filter fun v => decide (spot < v)).length ≤ 6
      have z := List.length_filter_le (fun v => decide (spot < v)) s.spots
      rw [List.length_append]
      show 3 + _ ≤ 6
      omega
    apply qd_asg (d := .lst (L1.map .int)) h
    · refine Xe.is (xd_op (xd_lst (ds := [.int (spot + 1), .int (spot + 2), .int (spot + 4)]) (xad_cons (xd_op (x_var rfl) x_int rv_int) (xad_cons (xd_op (x_var rfl) x_int rv_int) (xad_cons (xd_op (x_var rfl) x_int rv_int) xa_nil))) (show (3 : Nat) ≤ 100000 by decide)) (x_lcNIf (ds := s.spots.map .int) (fun d => d) (fun d => match d with | .int v => decide (spot < v) | _ => false) (xi_tup (x_var rfl)).j (fun i d p acc e => ?_) (fun i d p acc e _ => x_var rfl) (hz := by rw [List.length_map]; omega)) (rv_cat ?_)) ?_
      · obtain ⟨v, ev, rfl⟩ := map_got e
        exact xb_test (xd_op (x_var rfl) (x_var rfl) rv_cmp)
      · rw [List.map_id', List.filter_map, List.length_map]
        have z := List.length_filter_le ((fun d => match d with | Dt.int v => decide (spot < v) | _ => false) ∘ Dt.int) s.spots
        refine Nat.le_trans (m := 6) ?_ (by decide)
        show 3 + _ ≤ 6
        omega
      · rw [List.map_id', List.filter_map, List.map_append]
        rfl
    intro σ4 H4 h
    let Good : List Int → Prop := fun L => L.length ≤ 1000 ∧ ∀ v ∈ L, 0 ≤ v ∧ (rd = true → spot < v)
    have g1 : Good L1 := ⟨by omega, fun v hv => by
      rcases List.mem_append.mp hv with z | z
      · simp only [List.mem_cons, List.not_mem_nil, or_false] at z
        rcases z with e | e | e <;> subst e <;> exact ⟨by omega, fun _ => by omega⟩
      · have q := of_decide_eq_true (List.mem_filter.mp z).2
        exact ⟨by omega, fun _ => q⟩⟩
    let Gs : Dt → List (Option Dt) := fun d => [some (.raw st), some (.tup (s.spots.map .int)), some (.lst (Ts.map tbDt)), some (.tup (ws.map .str)), some (.str word), some (.int (j : Int)), some (.int spot), some d, none, none]
    refine qd_joinP (f := decide (word = "jump")) (fun σ5 H5 => ∃ L, Good L ∧ Sg (stM K B st c ns hB) H [] (Gs (.lst (L.map .int))) σ5 H5) h (xb_test (xd_op (x_var rfl) x_str rv_eqS)) (fun σ5 H5 ⟨L, gL, h⟩ => ?_) (fun k5 cj H5 h => ?_) fun _ H5 h => ⟨L1, g1, h⟩
    · refine qd_joinP (f := !isNonD (tbDt (tg Ts j))) (fun σ6 H6 => ∃ L, Good L ∧ (∀ v ∈ L, ∀ l, tg Ts j = some l → v < (l.length : Int) ∧ sg l v.toNat = v) ∧ Sg (stM K B st c ns hB) H [] (Gs (.lst (L.map .int))) σ6 H6) h (xb_test (xd_op (xd_op (x_var rfl) (x_var rfl) (rv_ixL (at_tg hj))) x_non rv_notD)) (fun σ6 H6 ⟨L, gL, hL, h⟩ => ?_) (fun k6 cf H6 h => ?_) fun cf H6 h => ?_
      · have hn : ∀ d ∈ L.map Dt.int, Nice 0 d := fun d hd => by
          obtain ⟨z, _, e⟩ := List.mem_map.mp hd
          rw [← e]
          exact nice_int
        refine e_ret (P := fun d => ∃ x : Deed, okDeed Ts s x ∧ d = x.dt) h ?_ fun d v H' e ok fr hv => k v d H' fr e hv
        refine x_if (P := fun b => b = !(L.map Dt.int).isEmpty) (xb_test (xl_neE (n := 0) (xl_of (x_var rfl)) hn)) (fun ne => ?_) fun _ => ?_
        · have lp : 1 ≤ (L.map Dt.int).length := by
            cases L with
            | nil => cases ne
            | cons x L => exact Nat.le_add_left 1 _
          refine x_tup (P := fun ds => ∃ v ∈ L, ds = [.str word, .int (j : Int), .int v]) (xa_cons (P := (· = .str word)) (R := fun ds => ∃ v ∈ L, ds = [.int (j : Int), .int v]) (x_var rfl) (xa_cons (P := (· = .int (j : Int))) (R := fun ds => ∃ v ∈ L, ds = [.int v]) (x_var rfl) (xa_cons (P := fun d => d ∈ L.map Dt.int) (x_callS (HasSt.stM hB) (pre := preOneOf) (P := (· = [.raw st, .lst (L.map .int)])) (R := fun e => e ∈ L.map Dt.int) (xad_cons (x_var rfl) (xad_cons (x_var rfl) xa_nil)) fun ds e => ⟨_, e, _, _, .inl rfl, lp, by rw [List.length_map]; have := gL.1; omega, rfl, rfl⟩) xa_nil fun d ds hd er => by
            obtain ⟨v, hv, e⟩ := List.mem_map.mp hd
            exact ⟨v, hv, by rw [er, e]⟩) fun d ds e ⟨v, hv, er⟩ => ⟨v, hv, by rw [e, er]⟩) fun d ds e ⟨v, hv, er⟩ => ⟨v, hv, by rw [e, er]⟩) (fun ds ⟨v, _, e⟩ => by rw [e]; show (3 : Nat) ≤ 100000; decide) fun ds ⟨v, hv, e⟩ => ?_
          obtain ⟨v0, vr⟩ := gL.2 v hv
          exact ⟨.go rd j v, ⟨hj, v0, vr, hL v hv⟩, by rw [e, ew]; cases rd <;> rfl⟩
        · refine x_tup (P := fun ds => ∃ x : Str, x ∈ (["give", "take"] : List Str) ∧ ds = [.str x, .int (j : Int)]) (xa_cons (P := fun d => d ∈ (["give", "take"] : List Str).map Dt.str) (R := (· = [.int (j : Int)])) (x_callS (HasSt.stM hB) (pre := preOneOf) (P := (· = [.raw st, .tup ((["give", "take"] : List Str).map .str)])) (R := fun e => e ∈ (["give", "take"] : List Str).map Dt.str) (xad_cons (x_var rfl) (xad_cons (xd_tup2' (xad_cons x_str (xad_cons x_str xa_nil))) xa_nil)) fun ds e => ⟨_, e, _, _, .inr rfl, by decide, by decide, rfl, rfl⟩) (xad_cons (x_var rfl) xa_nil) fun d ds hd er => by
            obtain ⟨x, hx, e⟩ := List.mem_map.mp hd
            exact ⟨x, hx, by rw [er, e]⟩) (fun ds ⟨v, _, e⟩ => by rw [e]; show (2 : Nat) ≤ 100000; decide) fun ds ⟨x, hx, e⟩ => ?_
          rcases List.mem_cons.mp hx with z | z
          · exact ⟨.give j, hj, by rw [e, z]; rfl⟩
          · exact ⟨.take j, hj, by rw [e, List.mem_singleton.mp z]; rfl⟩
      · cases et : tg Ts j with
        | none => rw [et] at cf; cases cf
        | some l =>
          have ll := (tw.all l (tg_mem et)).1
          have atl : atI (Ts.map tbDt) ((j : Nat) : Int) = some (.lst (l.map .int)) := by rw [at_tg hj, et]; rfl
          let cc : Dt → Dt → Bool := fun x y => match x, y with
            | .int a, .int b => decide (a = b) && (!rd || decide (spot < a))
            | _, _ => false
          let RES : List Dt := ((enumP (l.map .int)).filter fun p => cc p.1 p.2).map fun p => p.1
          have form : ∀ p ∈ enumP (l.map Dt.int), ∃ (i : Nat) (b : Int), p = (.int (i : Int), .int b) ∧ l[i]? = some b := fun p hp => by
            obtain ⟨x, y⟩ := p
            obtain ⟨i, ex, ey⟩ := enumP_mem hp
            obtain ⟨b, eb, ey⟩ := map_got ey
            exact ⟨i, b, by rw [ex, ey], eb⟩
          obtain ⟨L3, e3⟩ := ints_of (L := RES) fun d hd => by
            obtain ⟨p, hp, e⟩ := List.mem_map.mp hd
            obtain ⟨i, b, ep, _⟩ := form p (List.mem_filter.mp hp).1
            exact ⟨i, by rw [← e, ep]⟩
          have key : ∀ v ∈ L3, 0 ≤ v ∧ (rd = true → spot < v) ∧ v < (l.length : Int) ∧ sg l v.toNat = v := fun v hv => by
            have hm : Dt.int v ∈ RES := by rw [e3]; exact List.mem_map.mpr ⟨v, hv, rfl⟩
            obtain ⟨p, hp, e⟩ := List.mem_map.mp hm
            obtain ⟨hp1, hp2⟩ := List.mem_filter.mp hp
            obtain ⟨i, b, ep, eb⟩ := form p hp1
            subst ep
            have ev : (i : Int) = v := by injection e
            subst ev
            have c1 : (decide ((i : Int) = b) && (!rd || decide (spot < (i : Int)))) = true := hp2
            obtain ⟨c2, c3⟩ := Bool.and_eq_true_iff.mp c1
            have c2 := of_decide_eq_true c2
            have il := (List.getElem?_eq_some_iff.mp eb).1
            refine ⟨by omega, fun e => ?_, by omega, ?_⟩
            · rw [e] at c3
              exact of_decide_eq_true (by simpa using c3)
            · rw [Int.toNat_natCast, c2]
              exact sg_eq eb
          have len3 : L3.length ≤ 1000 := by
            have z : RES.length = L3.length := by rw [e3, List.length_map]
            have z2 : RES.length ≤ l.length := by
              have q := List.length_filter_le (fun p : Dt × Dt => cc p.1 p.2) (enumP (l.map Dt.int))
              have q2 : (enumP (l.map Dt.int)).length = l.length := by rw [enumP_length, List.length_map]
              rw [q2] at q
              show (List.map _ (List.filter _ _)).length ≤ _
              rw [List.length_map]
              exact q
            exact Nat.le_trans (Nat.le_of_eq z.symm) (Nat.le_trans z2 (by omega))
          refine ed_asg (d := .lst (L3.map .int)) h ?_ fun σ7 H7 h => k6 _ _ ⟨L3, ⟨len3, fun v hv => ⟨(key v hv).1, (key v hv).2.1⟩⟩, fun v hv l' el => ?_, h⟩
          · refine Xe.is (x_lc2If (ps := enumP (l.map .int)) (fun x _ => x) cc ?_ (fun x y p acc hm => ?_) (fun x y p acc hm _ => x_var rfl) (hz := by rw [enumP_length, List.length_map]; omega)) (by rw [← e3])
            · rw [enumP_map]
              exact (xi_enum (xd_op (x_var rfl) (x_var rfl) (rv_ixL atl))).j
            · obtain ⟨i, b, ep, _⟩ := form _ hm
              cases ep
              refine xb_and (a := decide ((i : Int) = b)) (xb_test (xd_op (x_var rfl) (x_var rfl) rv_eqI)) fun _ => ?_
              exact xb_or (a := !rd) (Xt.is (xb_test (xd_op (x_var rfl) x_str rv_eqS)) hw2) fun _ => xb_test (xd_op (x_var rfl) (x_var rfl) rv_cmp)
          · rw [et] at el
            cases el
            exact (key v hv).2.2
      · refine ⟨L, gL, fun v _ l el => ?_, h⟩
        rw [el] at cf
        cases cf
    · have rf : rd = false := by
        rw [hw2] at cj
        cases rd
        · rfl
        · cases cj
      refine ed_asg (d := .lst ((s.spots ++ [0, 1, 3, spot + 1, spot + 3]).map .int)) h ?_ fun σ6 H6 h => k5 _ _ ⟨s.spots ++ [0, 1, 3, spot + 1, spot + 3], ⟨?_, fun v hv => ⟨?_, fun e => by rw [rf] at e; cases e⟩⟩, h⟩
      · refine Xe.is (xd_op (xd_cb (ds := [.tup (s.spots.map .int)]) (xad_cons (x_var rfl) xa_nil) rc_listT) (xd_lst (ds := [.int 0, .int 1, .int 3, .int (spot + 1), .int (spot + 3)]) (xad_cons x_int (xad_cons x_int (xad_cons x_int (xad_cons (xd_op (x_var rfl) x_int rv_int) (xad_cons (xd_op (x_var rfl) x_int rv_int) xa_nil))))) (show (5 : Nat) ≤ 100000 by decide)) (rv_cat ?_)) (by rw [List.map_append]; rfl)
        rw [List.length_map]
        refine Nat.le_trans (m := 8) ?_ (by decide)
        show s.spots.length + 5 ≤ 8
        omega
      · rw [List.length_append]
        show s.spots.length + 5 ≤ 1000
        omega
      · rcases List.mem_append.mp hv with z | z
        · exact s0' v z
        · simp only [List.mem_cons, List.not_mem_nil, or_false] at z
          omega
end
end Lf

namespace Lf
open PySem PySem.Spec PyProof.Rows L2
local macro_rules | `(tactic| walk_at "rv") => `(tactic| with_reducible first
  | exact rv_int | exact rv_cmp | exact rv_eqI | exact rv_neI | exact rv_eqS | exact rv_neS | exact rv_eqB | exact rv_neB)
local macro_rules | `(tactic| walk_at "xd") => `(tactic| first
  | (with_reducible first | exact x_int | exact x_str | exact x_bl | exact x_non | exact x_ty | exact x_ref)
  | ((with_reducible apply x_var); exact rfl)
  | ((with_reducible apply xd_op); (walk_at "xd"); (walk_at "xd"); (walk_at "rv"))
  | ((with_reducible apply xd_if); (walk_at "xb"); (intro _; walk_at "xd"); (intro _; walk_at "xd"))
  | ((with_reducible apply xd_tup); (walk_at "xa"); (first | decide | assumption | omega))
  | ((with_reducible apply xd_lst); (walk_at "xa"); (first | decide | assumption | omega)))
local macro_rules | `(tactic| walk_at "xb") => `(tactic| first
  | ((with_reducible apply xb_test); (walk_at "xd"))
  | ((with_reducible apply xb_B); (walk_at "xd"))
  | ((with_reducible apply xb_and); (walk_at "xb"); (intro _; walk_at "xb"))
  | ((with_reducible apply xb_or); (walk_at "xb"); (intro _; walk_at "xb"))
  | ((with_reducible apply xb_not); (walk_at "xb")))
local macro_rules | `(tactic| walk_at "xa") => `(tactic| first
  | (with_reducible exact xa_nil)
  | ((with_reducible apply xad_cons); (walk_at "xd"); (walk_at "xa")))

section
variable {P : Program} {w : World} {K : PySem.W.Frag} {mg : Str → Option Value} {base : Heap}
def pickM (ns : List Nat) (m : List Int) : List Int := ns.map fun n => sg m n
def pickD (ns : List Nat) (s : Sd) : Dt := .tup [intsD s.spots, .tup (s.held.map fun m => intsD (pickM ns m))]
def prePick (ds : List Dt) (r : Dt) : Prop := ∃ (ss : List Sd) (ns : List Nat) (f : Nat), ss.length ≤ 16 ∧ ns.length ≤ 3 ∧ (∀ n ∈ ns, n < f) ∧ (∀ s ∈ ss, s.held.length ≤ 4 ∧ ∀ m ∈ s.held, m.length = f) ∧ ds = [.lst (ss.map Sd.told), .lst (ns.map fun (n : Nat) => .int (n : Int))] ∧ r = .lst (ss.map (pickD ns))
def pick1 (ns : List Nat) (d : Dt) : Dt := match d with
  | .tup l => .tup (ns.map fun n => (l[n]?).getD .non)
  | _ => .non
def pick2 (ns : List Nat) (d : Dt) : Dt := match d with
  | .tup l => .tup (l.map (pick1 ns))
  | _ => .non
theorem pick1_eq {ns : List Nat} {m : List Int} (h : ∀ n ∈ ns, n < m.length) : pick1 ns (intsD m) = intsD (pickM ns m) := by
  show Dt.tup (ns.map fun n => ((m.map Dt.int)[n]?).getD .non) = .tup ((ns.map fun n => sg m n).map .int)
  congr 1
  rw [List.map_map]
  refine List.map_congr_left fun n hn => ?_
  rw [List.getElem?_map, sg_some (h n hn)]
  rfl
theorem c_Lpicked (T : Txt w K mg) : Cal P w K mg base 1 "_law_picked" ["_law_told", "_law_numbers"] (spP K prePick) := by
  refine cal_Lpicked T fun f fd F => pure_ok F sc_Lpicked ?_ fun cdv A outer s H σ Q E B ds r hr hp h k => ?_
  · rintro ds r ⟨ss, ns, f, _, _, _, _, rfl, rfl⟩
    rfl
  · obtain ⟨ss, ns, f, s16, n3, nf, hs, rfl, rfl⟩ := hp
    refine ⟨_, (pss_one (ps_ret (pe_lc (own := [("_law_places", 2), ("_law_marks", 3)]) rfl sc_Lpicked.nd (pi_list (pv 0)) (blkOk_by (by kernel_rfl)) (fun _ _ _ _ _ => (pgb_tup K 2 rfl (pgs_cons (pg_name (i := 2) sc_Lpicked.nd rfl (Or.inl rfl)) (pgs_cons (pg_name (i := 3) sc_Lpicked.nd rfl (Or.inl rfl)) pgs_nil)))) (fun _ _ _ _ _ => pts_nil) (fun _ _ _ _ _ => (pe_tup (pa_cons (pv 2) (pa_cons (pe_callTy (call_tupQK K) (by rfl) T.f_tuple (by decide +kernel) (pa_cons (pe_lc (own := [("_law_mark", 4)]) rfl sc_Lpicked.nd (pi_tupK K (pv 3)) (blkOk_by (by kernel_rfl)) (fun _ _ _ _ _ => (pg_name (i := 4) sc_Lpicked.nd rfl (Or.inr rfl))) (fun _ _ _ _ _ => pts_nil) (fun _ _ _ _ _ => (pe_callTy (call_tupQK K) (by rfl) T.f_tuple (by decide +kernel) (pa_cons (pe_lc (own := [("_law_n", 5)]) rfl sc_Lpicked.nd (pi_listK K (pv 1)) (blkOk_by (by kernel_rfl)) (fun _ _ _ _ _ => (pg_name (i := 5) sc_Lpicked.nd rfl (Or.inl rfl))) (fun _ _ _ _ _ => pts_nil) (fun _ _ _ _ _ => (pe_ix (ix_tupK K) (pv 4) (pv 5) (fun _ _ => rfl)))) pa_nil)))) pa_nil)) pa_nil))))))), ?_⟩
    refine ed_ret h k ?_
    let ps : List (Dt × Dt) := ss.map fun s => (intsD s.spots, Dt.tup (s.held.map intsD))
    have e1 : ss.map Sd.told = ps.map fun p => Dt.tup [p.1, p.2] := by
      rw [List.map_map]
      rfl
    have src : Xd (pureM K B) [some (.lst (ss.map Sd.told)), some (.lst (ns.map fun (n : Nat) => .int (n : Int))), none, none, none, none] (tVar 0) (.lst (ps.map fun p => Dt.tup [p.1, p.2])) := by
      rw [← e1]
      exact x_var rfl
    refine Xe.is (x_lc2 (ps := ps) (fun x y => .tup [x, pick2 ns y]) (xi_list src).j (fun x y p acc hm => ?_) (hz := by rw [List.length_map]; omega)) ?_
    · obtain ⟨s, hsm, e⟩ := List.mem_map.mp hm
      cases e
      obtain ⟨h4, hml⟩ := hs s hsm
      refine xd_tup2' (xad_cons (x_var rfl) (xad_cons ?_ xa_nil))
      refine xd_cb (ds := [.lst ((s.held.map intsD).map (pick1 ns))]) (xad_cons (x_lcN (ds := s.held.map intsD) (pick1 ns) (xi_tup (x_var rfl)).j (fun i d p2 acc2 e => ?_) (hz := by rw [List.length_map]; omega)) xa_nil) rc_tupL
      obtain ⟨m, em, rfl⟩ := map_got e
      have ml := hml m (List.mem_of_getElem? em)
      refine xd_cb (ds := [.lst (ns.map fun n => ((m.map Dt.int)[n]?).getD .non)]) (xad_cons (Xe.is (x_lcN (ds := ns.map fun (n : Nat) => Dt.int (n : Int)) (fun d => match d with | .int n => ((m.map Dt.int)[n.toNat]?).getD .non | _ => .non) (xi_list (x_var rfl)).j (fun i d p3 acc3 e3 => ?_) (hz := by rw [List.length_map]; omega)) (by rw [List.map_map]; rfl)) xa_nil) rc_tupL
      obtain ⟨n, en, rfl⟩ := map_got e3
      have hn := nf n (List.mem_of_getElem? en)
      refine Xe.is (xd_op (x_var rfl) (x_var rfl) (rv_ixT (at_sg (l := m) (d := n) (by omega)))) ?_
      show _ = ((m.map Dt.int)[n]?).getD .non
      rw [List.getElem?_map, sg_some (by omega)]
      rfl
    · congr 1
      show (ss.map fun s => (intsD s.spots, Dt.tup (s.held.map intsD))).map _ = _
      rw [List.map_map]
      refine List.map_congr_left fun s hsm => ?_
      show Dt.tup [intsD s.spots, .tup ((s.held.map intsD).map (pick1 ns))] = .tup [_, _]
      rw [List.map_map]
      congr 3
      refine congrArg Dt.tup (List.map_congr_left fun m hm => ?_)
      exact pick1_eq fun n hn => by rw [(hs s hsm).2 m hm]; exact nf n hn
end
end Lf

namespace Lf
open PySem PySem.Spec PyProof.Rows L2
local macro_rules | `(tactic| walk_at "rv") => `(tactic| with_reducible first
  | exact rv_int | exact rv_cmp | exact rv_eqI | exact rv_neI | exact rv_eqS | exact rv_neS | exact rv_eqB | exact rv_neB)
local macro_rules | `(tactic| walk_at "xd") => `(tactic| first
  | (with_reducible first | exact x_int | exact x_str | exact x_bl | exact x_non | exact x_ty | exact x_ref)
  | ((with_reducible apply x_var); exact rfl)
  | ((with_reducible apply xd_op); (walk_at "xd"); (walk_at "xd"); (walk_at "rv"))
  | ((with_reducible apply xd_if); (walk_at "xb"); (intro _; walk_at "xd"); (intro _; walk_at "xd"))
  | ((with_reducible apply xd_tup); (walk_at "xa"); (first | decide | assumption | omega))
  | ((with_reducible apply xd_lst); (walk_at "xa"); (first | decide | assumption | omega)))
local macro_rules | `(tactic| walk_at "xb") => `(tactic| first
  | ((with_reducible apply xb_test); (walk_at "xd"))
  | ((with_reducible apply xb_B); (walk_at "xd"))
  | ((with_reducible apply xb_and); (walk_at "xb"); (intro _; walk_at "xb"))
  | ((with_reducible apply xb_or); (walk_at "xb"); (intro _; walk_at "xb"))
  | ((with_reducible apply xb_not); (walk_at "xb")))
local macro_rules | `(tactic| walk_at "xa") => `(tactic| first
  | (with_reducible exact xa_nil)
  | ((with_reducible apply xad_cons); (walk_at "xd"); (walk_at "xa")))

section
variable {P : Program} {w : World} {K : PySem.W.Frag} {mg : Str → Option Value} {base : Heap}
/-- data of ints in lists and tuples -/
def SmOk : Nat → Dt → Prop
  | 0, d => ∃ i, d = .int i
  | n + 1, d => (∃ i, d = .int i) ∨ ∃ ds, (d = .lst ds ∨ d = .tup ds) ∧ ds.length ≤ 1000 ∧ ∀ x ∈ ds, SmOk n x
def preSame : Nat → List Dt → Dt → Prop
  | 0, _, _ => False
  | n + 1, ds, r => ∃ d, SmOk n d ∧ ds = [d, d] ∧ r = .bl true
theorem zip_self (ds : List Dt) : zipD ds ds = (ds.map fun d => (d, d)).map fun p => Dt.tup [p.1, p.2] := by
  unfold zipD
  induction ds with
  | nil => rfl
  | cons d ds ih => rw [List.zipWith_cons_cons, ih]; rfl
theorem c_Lsame (T : Txt w K mg) : ∀ n, Cal P w K mg base (n + 1) "_law_same" ["_law_found", "_law_due"] (spP K (preSame n))
  | 0 => cal_Lsame T fun f fd F => pure_ok F sc_Lsame (fun ds r hp => False.elim hp) fun cdv A outer s H σ Q E B ds r hr hp h k => False.elim hp
  | n + 1 => by
    have ih := c_Lsame T n
    refine cal_Lsame T fun f fd F => pure_ok F sc_Lsame ?_ fun cdv A outer s H σ Q E B ds r hr hp h k => ?_
    · rintro ds r ⟨d, _, rfl, rfl⟩
      rfl
    · obtain ⟨d, hd, rfl, rfl⟩ := hp
      refine ⟨_, (pss_cons (ps_if (pt_val (pe_callB call_isiT (by rfl) T.f_isinstance (by decide +kernel) (pa_cons (pv 1) (pa_cons (pe_tup (pa_cons (pe_bltn (v := .ty "list") (by rfl) T.f_list (by decide +kernel) rfl) (pa_cons (pe_bltn (v := .ty "tuple") (by rfl) T.f_tuple (by decide +kernel) rfl) pa_nil))) pa_nil)))) (pss_cons (ps_if (PW.pt (pw_or (pt_cmpR op_ne (pe_callB call_isi (by rfl) T.f_isinstance (by decide +kernel) (pa_cons (pv 0) (pa_cons (pe_bltn (v := .ty "list") (by rfl) T.f_list (by decide +kernel) rfl) pa_nil))) (pe_callB call_isi (by rfl) T.f_isinstance (by decide +kernel) (pa_cons (pv 1) (pa_cons (pe_bltn (v := .ty "list") (by rfl) T.f_list (by decide +kernel) rfl) pa_nil))) (nomark _)) (pw_or1 (pt_cmpR op_ne (pe_callB call_isi (by rfl) T.f_isinstance (by decide +kernel) (pa_cons (pv 0) (pa_cons (pe_bltn (v := .ty "tuple") (by rfl) T.f_tuple (by decide +kernel) rfl) pa_nil))) (pe_callB call_isi (by rfl) T.f_isinstance (by decide +kernel) (pa_cons (pv 1) (pa_cons (pe_bltn (v := .ty "tuple") (by rfl) T.f_tuple (by decide +kernel) rfl) pa_nil))) (nomark _))))) (pss_one (ps_ret pe_bl)) pss_nil)
    (pss_one (ps_ret (pe_and (pe_cmpR op_eq (pe_callB call_lenQ (by rfl) T.f_len PySem.boot_len (pa_cons (pv 0) pa_nil)) (pe_callB call_lenQ (by rfl) T.f_len PySem.boot_len (pa_cons (pv 1) pa_nil)) (nomark _)) (pe_one (pe_callB (cr_all rfl) (by rfl) T.f_all (by decide +kernel) (pa_cons (pe_lc (own := [("_law_a", 2), ("_law_b", 3)]) rfl sc_Lsame.nd (RZ.pi_zipA (by rfl) T.f_zip (pa_cons (pv 0) (pa_cons (pv 1) pa_nil))) (blkOk_by (by kernel_rfl)) (fun _ _ _ _ _ => (pgb_tup K 2 rfl (pgs_cons (pg_name (i := 2) sc_Lsame.nd rfl (Or.inl rfl)) (pgs_cons (pg_name (i := 3) sc_Lsame.nd rfl (Or.inl rfl)) pgs_nil)))) (fun _ _ _ _ _ => pts_nil) (fun _ _ _ _ _ => (pe_cal ih (hr.mono (by omega)) (by rfl) (pa_cons (pv 2) (pa_cons (pv 3) pa_nil))))) pa_nil))))))) pss_nil)
    (pss_cons (ps_if (pt_val (pe_callB call_isi (by rfl) T.f_isinstance (by decide +kernel) (pa_cons (pv 1) (pa_cons (pe_bltn (v := .ty "int") (by rfl) T.f_int (by decide +kernel) rfl) pa_nil)))) (pss_one (ps_ret (pe_and (pe_callB call_isi (by rfl) T.f_isinstance (by decide +kernel) (pa_cons (pv 0) (pa_cons (pe_bltn (v := .ty "int") (by rfl) T.f_int (by decide +kernel) rfl) pa_nil))) (pe_and (pe_cmpR op_eq (pe_callB call_isi (by rfl) T.f_isinstance (by decide +kernel) (pa_cons (pv 0) (pa_cons (pe_bltn (v := .ty "bool") (by rfl) T.f_bool (by decide +kernel) rfl) pa_nil))) (pe_callB call_isi (by rfl) T.f_isinstance (by decide +kernel) (pa_cons (pv 1) (pa_cons (pe_bltn (v := .ty "bool") (by rfl) T.f_bool (by decide +kernel) rfl) pa_nil))) (nomark _)) (pe_one (pe_cmpR op_eq (pv 0) (pv 1) (nomark _))))))) pss_nil)
    (pss_one (ps_ret (pe_and (pe_cmpR op_isN (pe_callB call_isiT (by rfl) T.f_isinstance (by decide +kernel) (pa_cons (pv 0) (pa_cons (pe_tup (pa_cons (pe_bltn (v := .ty "bool") (by rfl) T.f_bool (by decide +kernel) rfl) (pa_cons (pe_bltn (v := .ty "int") (by rfl) T.f_int (by decide +kernel) rfl) (pa_cons (pe_bltn (v := .ty "list") (by rfl) T.f_list (by decide +kernel) rfl) (pa_cons (pe_bltn (v := .ty "tuple") (by rfl) T.f_tuple (by decide +kernel) rfl) pa_nil))))) pa_nil))) pe_bl (nomark _)) (pe_one (pe_cmpR op_eq (pv 0) (pv 1) (nomark _)))))))), ?_⟩
      have two : ∀ {G : List (Option Dt)}, Xa (pureM K B) G (tCons (tC (.ty "list")) (tCons (tC (.ty "tuple")) tNil)) (· = [.ty "list", .ty "tuple"]) := xad_cons x_ty (xad_cons x_ty xa_nil)
      have isl : (∃ i, d = .int i) ∨ ∃ ds m, (d = .lst ds ∨ d = .tup ds) ∧ ds.length ≤ 1000 ∧ n = m + 1 ∧ ∀ x ∈ ds, SmOk m x := by
        cases n with
        | zero => exact .inl hd
        | succ m =>
          rcases hd with e | ⟨ds, e, l, h⟩
          · exact .inl e
          · exact .inr ⟨ds, m, e, l, rfl, h⟩
      rcases isl with ⟨i, rfl⟩ | ⟨ds, m, hq, hl, rfl, hx⟩
      · refine qd_when (f := false) h (xb_test (xd_cb (xad_cons (x_var rfl) (xad_cons (xd_tup2' two) xa_nil)) (rc_isiT (bs := ["list", "tuple"]) rfl (by decide +kernel)))) (fun c => by cases c) fun _ H2 h => ?_
        refine qd_when (f := true) h (xb_test (xd_cb (xad_cons (x_var rfl) (xad_cons x_ty xa_nil)) (rc_isi rfl (by decide +kernel)))) (fun _ H3 h => ?_) fun c => by cases c
        refine ed_ret h k (Xe.is (x_andV (a := true) (b := true) (xd_cb (xad_cons (x_var rfl) (xad_cons x_ty xa_nil)) (rc_isi rfl (by decide +kernel))) fun _ => x_andV (a := true) (b := true) (Xe.is (xd_op (xd_cb (xad_cons (x_var rfl) (xad_cons x_ty xa_nil)) (rc_isi (r := false) rfl (by decide +kernel))) (xd_cb (xad_cons (x_var rfl) (xad_cons x_ty xa_nil)) (rc_isi (r := false) rfl (by decide +kernel))) rv_eqB) rfl) fun _ => Xe.is (xd_op (x_var rfl) (x_var rfl) rv_eqI) (by simp)) rfl)
      · have wl : ∀ {G : List (Option Dt)}, G[0]? = some (some (.lst ds)) → True := fun _ => trivial
        rcases hq with rfl | rfl
        · refine qd_when (f := true) h (xb_test (xd_cb (xad_cons (x_var rfl) (xad_cons (xd_tup2' two) xa_nil)) (rc_isiT (bs := ["list", "tuple"]) rfl (by decide +kernel)))) (fun _ H2 h => ?_) fun c => by cases c
          refine qd_when (f := false) h (Xt.is (xb_or (a := false) (b := false) (xb_test (Xe.is (xd_op (xd_cb (xad_cons (x_var rfl) (xad_cons x_ty xa_nil)) (rc_isi (r := true) rfl (by decide +kernel))) (xd_cb (xad_cons (x_var rfl) (xad_cons x_ty xa_nil)) (rc_isi (r := true) rfl (by decide +kernel))) rv_neB) rfl)) fun _ => xb_test (Xe.is (xd_op (xd_cb (xad_cons (x_var rfl) (xad_cons x_ty xa_nil)) (rc_isi (r := false) rfl (by decide +kernel))) (xd_cb (xad_cons (x_var rfl) (xad_cons x_ty xa_nil)) (rc_isi (r := false) rfl (by decide +kernel))) rv_neB) rfl)) rfl) (fun c => by cases c) fun _ H3 h => ?_
          refine ed_ret h k (Xe.is (x_andV (a := true) (b := true) (Xe.is (xd_op (xd_cb (xad_cons (x_var rfl) xa_nil) rc_lenL) (xd_cb (xad_cons (x_var rfl) xa_nil) rc_lenL) rv_eqI) (by simp)) fun _ => Xe.is (xd_cb (xad_cons (Xe.is (x_lc2 (ps := ds.map fun d => (d, d)) (fun _ _ => .bl true) (by rw [← zip_self]; exact (xi_zipAL (xad_cons (x_var rfl) (xad_cons (x_var rfl) xa_nil)) rfl).j) (fun x y p acc hm => ?_) (hz := by rw [List.length_map]; omega)) (show _ = Dt.lst ((ds.map fun _ => true).map .bl) by rw [List.map_map, List.map_map]; rfl)) xa_nil) rc_all) ?_) rfl)
          · obtain ⟨z, hz, e⟩ := List.mem_map.mp hm
            cases e
            exact x_call (xad_cons (x_var rfl) (xad_cons (x_var rfl) xa_nil)) (by exact ⟨_, hx _ hz, rfl, rfl⟩)
          · simp
        · refine qd_when (f := true) h (xb_test (xd_cb (xad_cons (x_var rfl) (xad_cons (xd_tup2' two) xa_nil)) (rc_isiT (bs := ["list", "tuple"]) rfl (by decide +kernel)))) (fun _ H2 h => ?_) fun c => by cases c
          refine qd_when (f := false) h (Xt.is (xb_or (a := false) (b := false) (xb_test (Xe.is (xd_op (xd_cb (xad_cons (x_var rfl) (xad_cons x_ty xa_nil)) (rc_isi (r := false) rfl (by decide +kernel))) (xd_cb (xad_cons (x_var rfl) (xad_cons x_ty xa_nil)) (rc_isi (r := false) rfl (by decide +kernel))) rv_neB) rfl)) fun _ => xb_test (Xe.is (xd_op (xd_cb (xad_cons (x_var rfl) (xad_cons x_ty xa_nil)) (rc_isi (r := true) rfl (by decide +kernel))) (xd_cb (xad_cons (x_var rfl) (xad_cons x_ty xa_nil)) (rc_isi (r := true) rfl (by decide +kernel))) rv_neB) rfl)) rfl) (fun c => by cases c) fun _ H3 h => ?_
          refine ed_ret h k (Xe.is (x_andV (a := true) (b := true) (Xe.is (xd_op (xd_cb (xad_cons (x_var rfl) xa_nil) rc_lenT) (xd_cb (xad_cons (x_var rfl) xa_nil) rc_lenT) rv_eqI) (by simp)) fun _ => Xe.is (xd_cb (xad_cons (Xe.is (x_lc2 (ps := ds.map fun d => (d, d)) (fun _ _ => .bl true) (by rw [← zip_self]; exact (xi_zipAT (xad_cons (x_var rfl) (xad_cons (x_var rfl) xa_nil)) rfl).j) (fun x y p acc hm => ?_) (hz := by rw [List.length_map]; omega)) (show _ = Dt.lst ((ds.map fun _ => true).map .bl) by rw [List.map_map, List.map_map]; rfl)) xa_nil) rc_all) ?_) rfl)
          · obtain ⟨z, hz, e⟩ := List.mem_map.mp hm
            cases e
            exact x_call (xad_cons (x_var rfl) (xad_cons (x_var rfl) xa_nil)) (by exact ⟨_, hx _ hz, rfl, rfl⟩)
          · simp
end
end Lf

/-! a rule of some of the fields goes on like the whole one -/
namespace Lf
open PySem
def SameF (f g : Fd) : Prop := g.rd = f.rd ∧ g.jp = f.jp ∧ g.an = f.an ∧ g.gv = f.gv ∧ g.tk = f.tk ∧ g.kp = f.kp
structure Like (R R' : Rl) (ns : List Nat) : Prop where
  way : R'.way = R.way
  len : R'.fs.length = ns.length
  fs : ∀ (i n : Nat), ns[i]? = some n → ∃ f f' : Fd, R.fs[n]? = some f ∧ R'.fs[i]? = some f' ∧ SameF f f'
  at_ : ns[R'.at]? = some R.at
def Sd.pick (ns : List Nat) (s : Sd) : Sd := { s with held := s.held.map (pickM ns) }
theorem sg_pick {ns : List Nat} {m : List Int} {i n : Nat} (h : ns[i]? = some n) : sg (pickM ns m) i = sg m n := by
  unfold sg pickM
  rw [List.getD_eq_getElem?_getD, List.getElem?_map, h]
  rfl
theorem hg_pick {ns : List Nat} {l : List (List Int)} {d : Nat} (h : d < l.length) : hg (l.map (pickM ns)) d = pickM ns (hg l d) := by
  unfold hg
  rw [List.getD_eq_getElem?_getD, List.getD_eq_getElem?_getD, List.getElem?_map, List.getElem?_eq_getElem h]
  rfl
theorem mkM_pick {R R' : Rl} {ns : List Nat} (L : Like R R' ns) {F F' : Fd → Nat → Int} (hF : ∀ (f f' : Fd) (i n : Nat), ns[i]? = some n → SameF f f' → F' f' i = F f n) : mkM R'.fs F' = pickM ns (mkM R.fs F) := by
  refine List.ext_getElem? fun i => ?_
  unfold mkM pickM
  rw [List.getElem?_mapIdx, List.getElem?_map]
  cases e : ns[i]? with
  | none =>
    rw [List.getElem?_eq_none (by rw [L.len]; exact List.getElem?_eq_none_iff.mp e)]
    rfl
  | some n =>
    obtain ⟨f, f', e1, e2, hs⟩ := L.fs i n e
    rw [e2]
    show some (F' f' i) = some (sg (R.fs.mapIdx fun i f => F f i) n)
    unfold sg
    rw [List.getD_eq_getElem?_getD, List.getElem?_mapIdx, e1]
    exact congrArg some (hF f f' i n e hs)
end Lf

namespace Lf
open PySem
section
variable {R R' : Rl} {ns : List Nat} {T : List Tb} {s : Sd}
theorem goM_pick (L : Like R R' ns) {rd : Bool} {d : Nat} {e : Int} (h : d < s.held.length) : goM R' rd d e (s.pick ns) = (goM R rd d e s).pick ns := by
  have q : mkM R'.fs (fun f i => movedV (if rd = true then f.rd else f.jp) (sg (hg (s.held.map (pickM ns)) d) i) (sg s.spots d) e) = pickM ns (mkM R.fs fun f i => movedV (if rd = true then f.rd else f.jp) (sg (hg s.held d) i) (sg s.spots d) e) := mkM_pick L fun f f' i n e1 hs => by
    rw [hg_pick h, sg_pick e1, hs.1, hs.2.1]
  show (⟨_, _, _, _, _, _⟩ : Sd) = ⟨_, _, _, _, _, _⟩
  congr 1
  show (s.held.map (pickM ns)).set d _ = (s.held.set d _).map (pickM ns)
  rw [List.map_set]
  exact congrArg _ q
theorem anewM_pick (L : Like R R' ns) {d : Nat} (h : d < s.held.length) : anewM R' d (s.pick ns) = (anewM R d s).pick ns := by
  have q : mkM R'.fs (fun f i => if f.an = "least" then 0 else sg (hg (s.held.map (pickM ns)) d) i) = pickM ns (mkM R.fs fun f i => if f.an = "least" then 0 else sg (hg s.held d) i) := mkM_pick L fun f f' i n e1 hs => by
    rw [hg_pick h, sg_pick e1, hs.2.2.1]
  show (⟨_, _, _, _, _, _⟩ : Sd) = ⟨_, _, _, _, _, _⟩
  congr 1
  show (s.held.map (pickM ns)).set d _ = (s.held.set d _).map (pickM ns)
  rw [List.map_set]
  exact congrArg _ q
theorem giveM_pick (L : Like R R' ns) {m d : Nat} (h : d < s.held.length) (hm : m < s.held.length) : giveM R' m d (s.pick ns) = (giveM R m d s).pick ns := by
  have q : mkM R'.fs (fun f i => handV f.gv (sg (hg (s.held.map (pickM ns)) m) i) (sg (hg (s.held.map (pickM ns)) d) i) (decide (sg s.stamps d > sg s.stamps m))) = pickM ns (mkM R.fs fun f i => handV f.gv (sg (hg s.held m) i) (sg (hg s.held d) i) (decide (sg s.stamps d > sg s.stamps m))) := mkM_pick L fun f f' i n e1 hs => by
    rw [hg_pick h, hg_pick hm, sg_pick e1, sg_pick e1, hs.2.2.2.1]
  show (⟨_, _, _, _, _, _⟩ : Sd) = ⟨_, _, _, _, _, _⟩
  congr 1
  show (s.held.map (pickM ns)).set m _ = (s.held.set m _).map (pickM ns)
  rw [List.map_set]
  exact congrArg _ q
theorem tookM_pick (L : Like R R' ns) {t : Tb} {m d : Nat} (h : d < s.held.length) (hm : m < s.held.length) : tookM R' t m d (s.pick ns) = pickM ns (tookM R t m d s) := mkM_pick L fun f f' i n e1 hs => by
  show tookV f' t (sg (hg (s.held.map (pickM ns)) d) i) (sg (hg (s.held.map (pickM ns)) m) i) _ = _
  rw [hg_pick h, hg_pick hm, sg_pick e1, sg_pick e1]
  unfold tookV
  rw [hs.2.2.2.2.1, hs.2.2.2.2.2]
  rfl
theorem takeM_pick (L : Like R R' ns) {t : Tb} {m d : Nat} (h : d < s.held.length) (hm : m < s.held.length) : takeM R' t m d (s.pick ns) = (takeM R t m d s).pick ns := by
  unfold takeM
  simp only [tookM_pick L h hm, sg_pick L.at_, L.way]
  show (⟨_, _, _, _, _, _⟩ : Sd) = ⟨_, _, _, _, _, _⟩
  congr 1
  show (s.held.map (pickM ns)).set d _ = (s.held.set d _).map (pickM ns)
  rw [List.map_set]
end
end Lf

namespace Lf
open PySem
section
variable {R R' : Rl} {ns : List Nat} {T : List Tb} {s : Sd}
theorem doM_held {x : Deed} : (doM R T s x).1.held.length = s.held.length := by
  cases x <;> simp [doM, goM, anewM, giveM, takeM]
/-- the faults of a deed but the lost ones -/
def faW (R : Rl) (T : List Tb) (s : Sd) : Deed → List Str
  | .take d => takeF (tg T d) (takeM R (tg T d) T.length d s) (sg s.spots d) (sg (takeM R (tg T d) T.length d s).spots d)
  | _ => []
theorem doM_snd {x : Deed} : (doM R T s x).2 = faW R T s x ++ lostW (doM R T s x).1 := by
  cases x <;> rfl
theorem doM_pick (L : Like R R' ns) (hl : s.held.length = T.length + 1) {x : Deed} (hx : okDeed T s x) : (doM R' T (s.pick ns) x).1 = (doM R T s x).1.pick ns := by
  cases x with
  | go rd d e => exact goM_pick L (by have := hx.1; omega)
  | anew d => exact anewM_pick L (by have : d < T.length := hx; omega)
  | give d => exact giveM_pick L (by have : d < T.length := hx; omega) (by omega)
  | take d => exact takeM_pick L (by have : d < T.length := hx; omega) (by omega)
theorem faW_pick (L : Like R R' ns) (hl : s.held.length = T.length + 1) {x : Deed} (hx : okDeed T s x) : faW R' T (s.pick ns) x = faW R T s x := by
  cases x with
  | go rd d e => rfl
  | anew d => rfl
  | give d => rfl
  | take d =>
    have e : takeM R' (tg T d) T.length d (s.pick ns) = (takeM R (tg T d) T.length d s).pick ns := takeM_pick L (by have : d < T.length := hx; omega) (by omega)
    show takeF _ _ _ _ = takeF _ _ _ _
    rw [e]
    rfl
theorem okDeed_pick {x : Deed} : okDeed T (s.pick ns) x ↔ okDeed T s x := by
  cases x <;> exact Iff.rfl
theorem okAll_pick (L : Like R R' ns) : ∀ {xs : List Deed} {s : Sd}, s.held.length = T.length + 1 → okAll R T s xs → okAll R' T (s.pick ns) xs
  | [], _, _, _ => trivial
  | x :: xs, s, hl, h => ⟨okDeed_pick.mpr h.1, by rw [doM_pick L hl h.1]; exact okAll_pick L (by rw [doM_held]; exact hl) h.2⟩
theorem runM_pick (L : Like R R' ns) : ∀ {xs : List Deed} {s : Sd}, s.held.length = T.length + 1 → okAll R T s xs → (runM R' T (s.pick ns) xs).map (fun p => p.1) = (runM R T s xs).map fun p => p.1.pick ns
  | [], _, _, _ => rfl
  | x :: xs, s, hl, h => by
    show (doM R' T (s.pick ns) x).1 :: _ = (doM R T s x).1.pick ns :: _
    rw [doM_pick L hl h.1]
    exact congrArg _ (runM_pick L (by rw [doM_held]; exact hl) h.2)
end
end Lf

namespace Lf
open PySem
section
variable {R R' : Rl} {ns : List Nat} {T : List Tb} {s : Sd}
theorem init_pick {n k : Nat} : (∀ i ∈ ns, i < k) → Sd.init n ns.length = (Sd.init n k).pick ns := fun h => by
  show (⟨_, _, _, _, _, _⟩ : Sd) = ⟨_, _, _, _, _, _⟩
  congr 1
  show List.replicate (n + 1) _ = (List.replicate (n + 1) _).map (pickM ns)
  rw [List.map_replicate]
  congr 1
  unfold pickM
  refine List.ext_getElem? fun i => ?_
  rw [List.getElem?_map, List.getElem?_replicate]
  cases e : ns[i]? with
  | none => rw [if_neg (by have := List.getElem?_eq_none_iff.mp e; omega)]; rfl
  | some m =>
    rw [if_pos (List.getElem?_eq_some_iff.mp e).1]
    have hm := h m (List.mem_of_getElem? e)
    show some (0 : Int) = some (sg (List.replicate k 0) m)
    unfold sg
    rw [List.getD_eq_getElem?_getD, List.getElem?_replicate, if_pos hm]
    rfl
/-- lost, value by value -/
theorem isLost_iff : isLost s = true ↔ (∀ v ∈ s.spots, v < s.top) ∧ ∀ m ∈ s.held, ∀ v ∈ m, v < s.top := by
  unfold isLost
  rw [List.all_eq_true]
  constructor
  · intro h
    exact ⟨fun v hv => of_decide_eq_true (h v (List.mem_append_left _ hv)), fun m hm v hv => of_decide_eq_true (h v (List.mem_append_right _ (List.mem_flatten.mpr ⟨m, hm, hv⟩)))⟩
  · rintro ⟨h1, h2⟩ v hv
    refine decide_eq_true ?_
    rcases List.mem_append.mp hv with z | z
    · exact h1 v z
    · obtain ⟨m, hm, hv⟩ := List.mem_flatten.mp z
      exact h2 m hm v hv
theorem isLost_pick : isLost (s.pick ns) = true ↔ (∀ v ∈ s.spots, v < s.top) ∧ ∀ m ∈ s.held, ∀ n ∈ ns, sg m n < s.top := by
  rw [isLost_iff]
  constructor
  · rintro ⟨h1, h2⟩
    exact ⟨h1, fun m hm n hn => h2 (pickM ns m) (List.mem_map.mpr ⟨m, hm, rfl⟩) _ (List.mem_map.mpr ⟨n, hn, rfl⟩)⟩
  · rintro ⟨h1, h2⟩
    refine ⟨h1, fun m hm v hv => ?_⟩
    obtain ⟨m', hm', rfl⟩ := List.mem_map.mp hm
    obtain ⟨n, hn, rfl⟩ := List.mem_map.mp hv
    exact h2 m' hm' n hn
end
end Lf

namespace Lf
open PySem
section
variable {R R' : Rl} {ns : List Nat} {T : List Tb} {s : Sd}
/-- all of the fields, in any order -/
theorem isLost_all {f : Nat} (hw : ∀ m ∈ s.held, m.length = f) (hn : ∀ n, n ∈ ns ↔ n < f) : isLost (s.pick ns) = isLost s := by
  refine Bool.eq_iff_iff.mpr ?_
  rw [isLost_pick, isLost_iff]
  refine and_congr_right fun _ => forall_congr' fun m => forall_congr' fun hm => ?_
  constructor
  · intro h v hv
    obtain ⟨i, hi, rfl⟩ := List.mem_iff_getElem.mp hv
    have q := h i ((hn i).mpr (by rw [← hw m hm]; exact hi))
    unfold sg at q
    rw [List.getD_eq_getElem?_getD, List.getElem?_eq_getElem hi] at q
    exact q
  · intro h n hn'
    have hi : n < m.length := by rw [hw m hm]; exact (hn n).mp hn'
    unfold sg
    rw [List.getD_eq_getElem?_getD, List.getElem?_eq_getElem hi]
    exact h _ (List.getElem_mem hi)
/-- lost just where it is lost with each of the others beside the shown one -/
theorem isLost_each {f a : Nat} (ha : a < f) (hw : ∀ m ∈ s.held, m.length = f) (ps : Nat → List Nat) (hp : ∀ n x, x ∈ ps n ↔ x = a ∨ x = n) : isLost s = true ↔ isLost (s.pick [a]) = true ∧ ∀ n, n < f → n ≠ a → isLost (s.pick (ps n)) = true := by
  rw [← isLost_all (ns := List.range f) hw (fun n => List.mem_range), isLost_pick, isLost_pick]
  constructor
  · rintro ⟨h1, h2⟩
    refine ⟨⟨h1, fun m hm n hn => h2 m hm n (List.mem_range.mpr (by rw [List.mem_singleton.mp hn]; exact ha))⟩, fun n hn _ => isLost_pick.mpr ⟨h1, fun m hm x hx => h2 m hm x (List.mem_range.mpr ?_)⟩⟩
    rcases (hp n x).mp hx with e | e <;> subst e <;> assumption
  · rintro ⟨⟨h1, h2⟩, h3⟩
    refine ⟨h1, fun m hm n hn => ?_⟩
    by_cases e : n = a
    · exact h2 m hm n (List.mem_singleton.mpr e)
    · exact (isLost_pick.mp (h3 n (List.mem_range.mp hn) e)).2 m hm n ((hp n n).mpr (.inr rfl))
end
end Lf

namespace Lf
open PySem
section
variable {R R' : Rl} {ns : List Nat} {T : List Tb}
def keepF (l : List (Int × Str)) : List (Int × Str) := l.filter fun p => !decide (p.2 = ("lost" : Str))
def lostI (l : List (Int × Str)) : List Int := (l.filter fun p => decide (p.2 = ("lost" : Str))).map fun p => p.1
theorem takeF_no {t : Tb} {s : Sd} {a b : Int} : ∀ x ∈ takeF t s a b, x ≠ ("lost" : Str) := by
  intro x hx
  unfold takeF at hx
  rcases List.mem_append.mp hx with z | z
  · split at z
    · rw [List.mem_singleton.mp z]; decide +kernel
    · cases z
  · rcases List.mem_append.mp z with z | z
    · split at z
      · rw [List.mem_singleton.mp z]; decide +kernel
      · cases z
    · split at z
      · rw [List.mem_singleton.mp z]; decide +kernel
      · cases z
theorem faW_no {s : Sd} {x : Deed} : ∀ y ∈ faW R T s x, y ≠ ("lost" : Str) := by
  cases x with
  | take d => exact takeF_no
  | _ => intro y hy; cases hy
end
end Lf

namespace Lf
open PySem
section
variable {R R' : Rl} {ns : List Nat} {T : List Tb}
theorem keepF_app {a b : List (Int × Str)} : keepF (a ++ b) = keepF a ++ keepF b := List.filter_append ..
theorem lostI_app {a b : List (Int × Str)} : lostI (a ++ b) = lostI a ++ lostI b := by
  unfold lostI
  rw [List.filter_append, List.map_append]
theorem keepF_one {i : Int} {s : Sd} {ws : List Str} (h : ∀ y ∈ ws, y ≠ ("lost" : Str)) : keepF ((ws ++ lostW s).map fun w => (i, w)) = ws.map fun w => (i, w) := by
  rw [List.map_append, keepF_app]
  have e1 : keepF (ws.map fun w => (i, w)) = ws.map fun w => (i, w) := by
    unfold keepF
    rw [List.filter_eq_self]
    intro p hp
    obtain ⟨w, hw, rfl⟩ := List.mem_map.mp hp
    show (!decide (w = ("lost" : Str))) = true
    rw [decide_eq_false (h w hw)]
    rfl
  have e2 : keepF ((lostW s).map fun w => (i, w)) = [] := by
    unfold lostW
    split
    · unfold keepF
      exact List.filter_eq_nil_iff.mpr fun p hp => by
        rw [List.mem_singleton.mp hp]
        show ¬ (!decide (("lost" : Str) = ("lost" : Str))) = true
        simp
    · rfl
  rw [e1, e2, List.append_nil]
theorem lostI_one {i : Int} {s : Sd} {ws : List Str} (h : ∀ y ∈ ws, y ≠ ("lost" : Str)) : lostI ((ws ++ lostW s).map fun w => (i, w)) = if isLost s = true then [i] else [] := by
  rw [List.map_append, lostI_app]
  have e1 : lostI (ws.map fun w => (i, w)) = [] := by
    unfold lostI
    rw [List.filter_eq_nil_iff.mpr]
    · rfl
    · intro p hp
      obtain ⟨w, hw, rfl⟩ := List.mem_map.mp hp
      show ¬ decide (w = ("lost" : Str)) = true
      rw [decide_eq_false (h w hw)]
      decide
  rw [e1, List.nil_append]
  unfold lostW
  split
  · show lostI [(i, ("lost" : Str))] = [i]
    unfold lostI
    rw [List.filter_cons_of_pos (by simp)]
    rfl
  · rfl
theorem keepF_pick (L : Like R R' ns) : ∀ {xs : List Deed} {s : Sd} (n : Nat), s.held.length = T.length + 1 → okAll R T s xs → keepF (faultsM n (runM R' T (s.pick ns) xs)) = keepF (faultsM n (runM R T s xs))
  | [], _, _, _, _ => rfl
  | x :: xs, s, n, hl, h => by
    show keepF (((doM R' T (s.pick ns) x).2.map fun w => ((n : Int), w)) ++ faultsM (n + 1) (runM R' T (doM R' T (s.pick ns) x).1 xs)) = keepF (((doM R T s x).2.map fun w => ((n : Int), w)) ++ faultsM (n + 1) (runM R T (doM R T s x).1 xs))
    rw [keepF_app, keepF_app, doM_snd, doM_snd, keepF_one faW_no, keepF_one faW_no, faW_pick L hl h.1, doM_pick L hl h.1]
    rw [keepF_pick L (n + 1) (by rw [doM_held]; exact hl) h.2]
end
end Lf

namespace Lf
open PySem
section
variable {R R' : Rl} {ns : List Nat} {T : List Tb}
/-- the numbers of the stands where a place is lost -/
def lostL (n : Nat) : List Sd → List Int
  | [] => []
  | s :: ss => (if isLost s = true then [(n : Int)] else []) ++ lostL (n + 1) ss
theorem lostI_run : ∀ {xs : List Deed} {s : Sd} (n : Nat), lostI (faultsM n (runM R T s xs)) = lostL n ((runM R T s xs).map fun p => p.1)
  | [], _, _ => rfl
  | x :: xs, s, n => by
    show lostI (((doM R T s x).2.map fun w => ((n : Int), w)) ++ faultsM (n + 1) (runM R T (doM R T s x).1 xs)) = (if isLost (doM R T s x).1 = true then [(n : Int)] else []) ++ lostL (n + 1) _
    rw [lostI_app, doM_snd, lostI_one faW_no, lostI_run (n + 1)]
theorem lostL_ge : ∀ {ss : List Sd} {n : Nat}, ∀ k ∈ lostL n ss, (n : Int) ≤ k
  | [], _, k, h => by cases h
  | s :: ss, n, k, h => by
    rcases List.mem_append.mp h with z | z
    · split at z
      · rw [List.mem_singleton.mp z]; exact Int.le_refl _
      · cases z
    · have := lostL_ge (ss := ss) k z
      omega
theorem lostL_congr {f : Sd → Sd} : ∀ {ss : List Sd} {n : Nat}, (∀ s ∈ ss, isLost (f s) = isLost s) → lostL n (ss.map f) = lostL n ss
  | [], _, _ => rfl
  | s :: ss, n, h => by
    show (if isLost (f s) = true then [(n : Int)] else []) ++ lostL (n + 1) (ss.map f) = (if isLost s = true then [(n : Int)] else []) ++ lostL (n + 1) ss
    rw [h s List.mem_cons_self, lostL_congr fun x hx => h x (List.mem_cons_of_mem _ hx)]
end
end Lf

namespace Lf
open PySem
section
theorem lostL_mem : ∀ {ss : List Sd} {n i : Nat} {s : Sd}, ss[i]? = some s → (((n + i : Nat) : Int) ∈ lostL n ss ↔ isLost s = true)
  | [], _, _, _, h => by rw [List.getElem?_nil] at h; cases h
  | t :: ss, n, 0, s, h => by
    rw [List.getElem?_cons_zero] at h
    cases h
    constructor
    · intro z
      rcases List.mem_append.mp z with z | z
      · split at z
        · assumption
        · cases z
      · have := lostL_ge _ z
        omega
    · intro z
      refine List.mem_append_left _ ?_
      rw [if_pos z]
      exact List.mem_singleton.mpr rfl
  | t :: ss, n, i + 1, s, h => by
    rw [List.getElem?_cons_succ] at h
    have q := lostL_mem (n := n + 1) h
    rw [show n + 1 + i = n + (i + 1) by omega] at q
    rw [← q]
    constructor
    · intro z
      rcases List.mem_append.mp z with z | z
      · split at z
        · have := List.mem_singleton.mp z
          omega
        · cases z
      · exact z
    · exact fun z => List.mem_append_right _ z
theorem lostL_filter {g : Sd → Sd} {c : Int → Bool} : ∀ {ss : List Sd} {n : Nat}, (∀ i s, ss[i]? = some s → (isLost s = true ↔ isLost (g s) = true ∧ c ((n + i : Nat) : Int) = true)) → lostL n ss = (lostL n (ss.map g)).filter c
  | [], _, _ => rfl
  | s :: ss, n, h => by
    show (if isLost s = true then [(n : Int)] else []) ++ lostL (n + 1) ss = ((if isLost (g s) = true then [(n : Int)] else []) ++ lostL (n + 1) (ss.map g)).filter c
    rw [List.filter_append, ← lostL_filter (g := g) (c := c) fun i t e => by rw [show n + 1 + i = n + (i + 1) by omega]; exact h (i + 1) t (by rw [List.getElem?_cons_succ]; exact e)]
    congr 1
    have q := h 0 s rfl
    rw [Nat.add_zero] at q
    by_cases z : isLost s = true
    · obtain ⟨z1, z2⟩ := q.mp z
      rw [if_pos z, if_pos z1, List.filter_cons_of_pos z2]
      rfl
    · rw [if_neg z]
      by_cases z1 : isLost (g s) = true
      · rw [if_pos z1, List.filter_cons_of_neg fun z2 => z (q.mpr ⟨z1, z2⟩)]
        rfl
      · rw [if_neg z1]
        rfl
end
end Lf

/-! a rule of some fields, the whole run -/
namespace Lf
open PySem
section
variable {R R' : Rl} {ns : List Nat} {T : List Tb} {xs : List Deed}
/-- the stands alone -/
def stM1 (R : Rl) (T : List Tb) (xs : List Deed) : List Sd := (standsM R T xs).map fun p => p.1
theorem init_hl {n k : Nat} : (Sd.init n k).held.length = n + 1 := List.length_replicate
theorem init_to (L : Like R R' ns) (hn : ∀ i ∈ ns, i < R.fs.length) : Sd.init T.length R'.fs.length = (Sd.init T.length R.fs.length).pick ns := by
  rw [L.len]
  exact init_pick hn
theorem sub_ok (L : Like R R' ns) (hn : ∀ i ∈ ns, i < R.fs.length) (h : okAll R T (Sd.init T.length R.fs.length) xs) : okAll R' T (Sd.init T.length R'.fs.length) xs := by
  rw [init_to L hn]
  exact okAll_pick L init_hl h
theorem sub_stands (L : Like R R' ns) (hn : ∀ i ∈ ns, i < R.fs.length) (h : okAll R T (Sd.init T.length R.fs.length) xs) : stM1 R' T xs = (stM1 R T xs).map (Sd.pick ns) := by
  unfold stM1 standsM
  rw [init_to L hn, runM_pick L init_hl h, List.map_map]
  rfl
theorem sub_keep (L : Like R R' ns) (hn : ∀ i ∈ ns, i < R.fs.length) (h : okAll R T (Sd.init T.length R.fs.length) xs) : keepF (faultsM 0 (standsM R' T xs)) = keepF (faultsM 0 (standsM R T xs)) := by
  unfold standsM
  rw [init_to L hn, keepF_pick L 0 init_hl h]
theorem lost_run : lostI (faultsM 0 (standsM R T xs)) = lostL 0 (stM1 R T xs) := lostI_run 0
theorem sub_lost (L : Like R R' ns) (hn : ∀ i ∈ ns, i < R.fs.length) (h : okAll R T (Sd.init T.length R.fs.length) xs) : lostI (faultsM 0 (standsM R' T xs)) = lostL 0 ((stM1 R T xs).map (Sd.pick ns)) := by
  rw [lost_run, sub_stands L hn h]
theorem doM_mw {s : Sd} {x : Deed} (h : ∀ m ∈ s.held, m.length = R.fs.length) : ∀ m ∈ (doM R T s x).1.held, m.length = R.fs.length := by
  have key : ∀ (d : Nat) (F : Fd → Nat → Int), ∀ m ∈ s.held.set d (mkM R.fs F), m.length = R.fs.length := fun d F m hm => by
    rcases mem_setL hm with e | e
    · rw [e, mkM_len]
    · exact h m e
  cases x with
  | go rd d e => exact key _ _
  | anew d => exact key _ _
  | give d => exact key _ _
  | take d => exact key _ _
theorem run_mw : ∀ {xs : List Deed} {s : Sd}, (∀ m ∈ s.held, m.length = R.fs.length) → ∀ p ∈ runM R T s xs, ∀ m ∈ p.1.held, m.length = R.fs.length
  | [], _, _, _, hp => by cases hp
  | x :: xs, s, h, p, hp => by
    rcases List.mem_cons.mp hp with e | e
    · rw [e]
      exact doM_mw h
    · exact run_mw (doM_mw h) p e
theorem run_hl : ∀ {xs : List Deed} {s : Sd}, ∀ p ∈ runM R T s xs, p.1.held.length = s.held.length
  | [], _, _, hp => by cases hp
  | x :: xs, s, p, hp => by
    rcases List.mem_cons.mp hp with e | e
    · rw [e, doM_held]
    · rw [run_hl p e, doM_held]
theorem init_mw {n : Nat} : ∀ m ∈ (Sd.init n R.fs.length).held, m.length = R.fs.length := fun m hm => by
  rw [(List.mem_replicate.mp hm).2, List.length_replicate]
theorem st_mw : ∀ s ∈ stM1 R T xs, ∀ m ∈ s.held, m.length = R.fs.length := fun s hs => by
  obtain ⟨p, hp, rfl⟩ := List.mem_map.mp hs
  exact run_mw init_mw p hp
theorem st_hl : ∀ s ∈ stM1 R T xs, s.held.length = T.length + 1 := fun s hs => by
  obtain ⟨p, hp, rfl⟩ := List.mem_map.mp hs
  rw [run_hl p hp, init_hl]
theorem st_len : (stM1 R T xs).length = xs.length := by
  unfold stM1 standsM
  rw [List.length_map, run_len]
/-! all of the fields in their order -/
theorem pickM_id {m : List Int} {f : Nat} (h : m.length = f) : pickM (List.range f) m = m := by
  subst h
  refine List.ext_getElem? fun i => ?_
  unfold pickM
  rw [List.getElem?_map]
  by_cases hi : i < m.length
  · rw [List.getElem?_range hi, sg_some hi]
    rfl
  · rw [List.getElem?_eq_none (by rw [List.length_range]; omega), List.getElem?_eq_none (by omega)]
    rfl
theorem pick_id {s : Sd} {f : Nat} (h : ∀ m ∈ s.held, m.length = f) : s.pick (List.range f) = s := by
  unfold Sd.pick
  have e : s.held.map (pickM (List.range f)) = s.held := by
    refine (List.map_congr_left fun m hm => pickM_id (h m hm)).trans ?_
    exact List.map_id' _
  rw [e]
theorem runM_same (L : Like R R' (List.range R.fs.length)) : ∀ {xs : List Deed} {s : Sd}, s.held.length = T.length + 1 → (∀ m ∈ s.held, m.length = R.fs.length) → okAll R T s xs → runM R' T s xs = runM R T s xs
  | [], _, _, _, _ => rfl
  | x :: xs, s, hl, mw, h => by
    have e1 : (doM R' T s x).1 = (doM R T s x).1 := by
      have z := doM_pick L hl h.1
      rw [pick_id mw, pick_id (doM_mw mw)] at z
      exact z
    have e2 : faW R' T s x = faW R T s x := by
      have z := faW_pick L hl h.1
      rw [pick_id mw] at z
      exact z
    have e : doM R' T s x = doM R T s x := Prod.ext e1 (by rw [doM_snd, doM_snd, e1, e2])
    show doM R' T s x :: runM R' T (doM R' T s x).1 xs = doM R T s x :: runM R T (doM R T s x).1 xs
    rw [e, runM_same L (by rw [doM_held]; exact hl) (doM_mw mw) h.2]
theorem stands_same (L : Like R R' (List.range R.fs.length)) (h : okAll R T (Sd.init T.length R.fs.length) xs) : standsM R' T xs = standsM R T xs := by
  unfold standsM
  rw [L.len, List.length_range]
  exact runM_same L init_hl init_mw h
end
/-! ### the rules -/
theorem find_at {l : List Str} {x : Str} : ∀ {i : Nat}, l.Nodup → l[i]? = some x → l.findIdx (· = x) = i := by
  induction l with
  | nil => intro i _ e; simp at e
  | cons a l ih =>
    intro i nd e
    rw [List.findIdx_cons]
    cases i with
    | zero =>
      have q : a = x := Option.some.inj e
      rw [q, decide_eq_true rfl]
      rfl
    | succ i =>
      have e' : l[i]? = some x := by simpa using e
      have ne : a ≠ x := fun q => (List.nodup_cons.mp nd).1 (q ▸ List.mem_of_getElem? e')
      rw [decide_eq_false ne]
      show l.findIdx _ + 1 = i + 1
      rw [ih (List.nodup_cons.mp nd).2 e']
theorem find_get {l : List Str} {x : Str} (h : x ∈ l) : l[l.findIdx (· = x)]? = some x := by
  obtain ⟨i, hi, e⟩ := List.mem_iff_getElem.mp h
  have lt : l.findIdx (· = x) < l.length := List.findIdx_lt_length_of_exists ⟨x, h, decide_eq_true rfl⟩
  rw [List.getElem?_eq_getElem lt]
  have z := List.findIdx_getElem (w := lt)
  exact congrArg some (of_decide_eq_true z)
def fdAt (R : Rl) (n : Nat) : Fd := R.fs.getD n ⟨"", "", "", "", "", "", ""⟩
theorem fdAt_get {R : Rl} {n : Nat} (h : n < R.fs.length) : R.fs[n]? = some (fdAt R n) := by
  unfold fdAt
  rw [List.getD_eq_getElem?_getD, List.getElem?_eq_getElem h]
  rfl
theorem nm_get {R : Rl} {n : Nat} (h : n < R.fs.length) : (R.fs.map Fd.nm)[n]? = some (fdAt R n).nm := by
  rw [List.getElem?_map, fdAt_get h]
  rfl
theorem at_nm {R : Rl} (r : RlOk R) : (fdAt R R.at).nm = R.sh := by
  have z : (R.fs.map Fd.nm)[R.at]? = some R.sh := find_get r.sh
  rw [nm_get r.at_lt] at z
  exact Option.some.inj z
/-- the fields with some numbers -/
def Rl.sub (R : Rl) (ns : List Nat) : Rl := ⟨ns.map (fdAt R), R.way, R.sh⟩
section
variable {R : Rl} {ns : List Nat}
theorem sub_nd (r : RlOk R) (nd : ns.Nodup) (hn : ∀ n ∈ ns, n < R.fs.length) : ((R.sub ns).fs.map Fd.nm).Nodup := by
  show ((ns.map (fdAt R)).map Fd.nm).Nodup
  rw [List.map_map]
  refine List.pairwise_map.mpr (List.Pairwise.imp_of_mem (fun {a b} ha hb ne e => ne ?_) nd)
  have za := find_at r.fs.nd (nm_get (hn a ha))
  have zb := find_at r.fs.nd (nm_get (hn b hb))
  have e' : (fdAt R a).nm = (fdAt R b).nm := e
  rw [e'] at za
  exact za.symm.trans zb
theorem sub_at (r : RlOk R) (nd : ns.Nodup) (hn : ∀ n ∈ ns, n < R.fs.length) (ha : R.at ∈ ns) : ns[(R.sub ns).at]? = some R.at := by
  obtain ⟨i, hi, e⟩ := List.mem_iff_getElem.mp ha
  have e1 : ns[i]? = some R.at := by rw [List.getElem?_eq_getElem hi, e]
  have e2 : ((R.sub ns).fs.map Fd.nm)[i]? = some R.sh := by
    show ((ns.map (fdAt R)).map Fd.nm)[i]? = _
    rw [List.getElem?_map, List.getElem?_map, e1]
    exact congrArg some (at_nm r)
  have z : (R.sub ns).at = i := find_at (sub_nd r nd hn) e2
  rw [z, e1]
theorem like_sub (r : RlOk R) (nd : ns.Nodup) (hn : ∀ n ∈ ns, n < R.fs.length) (ha : R.at ∈ ns) : Like R (R.sub ns) ns where
  way := rfl
  len := List.length_map _
  fs i n e := ⟨fdAt R n, fdAt R n, fdAt_get (hn n (List.mem_of_getElem? e)), by
    show (ns.map (fdAt R))[i]? = _
    rw [List.getElem?_map, e]
    rfl, rfl, rfl, rfl, rfl, rfl, rfl⟩
  at_ := sub_at r nd hn ha
theorem rl_sub (r : RlOk R) (nd : ns.Nodup) (hn : ∀ n ∈ ns, n < R.fs.length) (ha : R.at ∈ ns) (hl : ns.length ≤ 3) : RlOk (R.sub ns) where
  fs := {
    lo := by
      show 1 ≤ (ns.map (fdAt R)).length
      rw [List.length_map]
      exact List.length_pos_of_mem ha
    hi := by
      show (ns.map (fdAt R)).length ≤ 3
      rw [List.length_map]
      exact hl
    nd := sub_nd r nd hn
    ok := fun f hf => by
      obtain ⟨n, h, rfl⟩ := List.mem_map.mp hf
      exact r.fs.ok _ (List.mem_of_getElem? (fdAt_get (hn n h))) }
  way := r.way
  sh := by
    show R.sh ∈ (ns.map (fdAt R)).map Fd.nm
    rw [← at_nm r]
    exact List.mem_map.mpr ⟨_, List.mem_map.mpr ⟨_, ha, rfl⟩, rfl⟩
end
/-- under other names -/
def renNs : List Str := ["zz", "q", "row"]
def renN (i : Nat) : Str := renNs.getD i ""
def Fd.ren (f : Fd) (x : Str) : Fd := { f with nm := x }
def Rl.ren (R : Rl) : Rl := ⟨R.fs.mapIdx fun i f => f.ren (renN i), R.way, renN R.at⟩
section
variable {R : Rl}
theorem ren_len : R.ren.fs.length = R.fs.length := List.length_mapIdx
theorem ren_get {i : Nat} (h : i < R.fs.length) : R.ren.fs[i]? = some ((fdAt R i).ren (renN i)) := by
  show (R.fs.mapIdx fun i f => f.ren (renN i))[i]? = _
  rw [List.getElem?_mapIdx, fdAt_get h]
  rfl
theorem ren_nms (h3 : R.fs.length ≤ 3) : R.ren.fs.map Fd.nm = renNs.take R.fs.length := by
  refine List.ext_getElem? fun i => ?_
  rw [List.getElem?_map]
  by_cases hi : i < R.fs.length
  · have h3' : i < 3 := by omega
    rw [ren_get hi, List.getElem?_take, if_pos hi]
    show some (renN i) = renNs[i]?
    unfold renN
    rw [List.getD_eq_getElem?_getD, List.getElem?_eq_getElem (show i < renNs.length from h3')]
    rfl
  · rw [List.getElem?_eq_none (by rw [ren_len]; omega), List.getElem?_eq_none (by rw [List.length_take]; omega)]
    rfl
theorem renNs_nd : renNs.Nodup := by decide +kernel
theorem ren_nd (h3 : R.fs.length ≤ 3) : (R.ren.fs.map Fd.nm).Nodup := by
  rw [ren_nms h3]
  exact List.Nodup.sublist (List.take_sublist _ _) renNs_nd
theorem ren_at (r : RlOk R) : R.ren.at = R.at := by
  refine find_at (ren_nd r.fs.hi) ?_
  rw [List.getElem?_map, ren_get r.at_lt]
  rfl
theorem like_ren (r : RlOk R) : Like R R.ren (List.range R.fs.length) where
  way := rfl
  len := by rw [ren_len, List.length_range]
  fs i n e := by
    obtain ⟨hi, e1⟩ := List.getElem?_eq_some_iff.mp e
    rw [List.length_range] at hi
    rw [List.getElem_range] at e1
    subst e1
    exact ⟨fdAt R i, _, fdAt_get hi, ren_get hi, rfl, rfl, rfl, rfl, rfl, rfl⟩
  at_ := by
    rw [ren_at r]
    exact List.getElem?_range r.at_lt
theorem isW_ren {x : Str} (h : x ∈ renNs) : isW x := by
  simp only [renNs, List.mem_cons, List.not_mem_nil, or_false] at h
  rcases h with e | e | e <;> subst e <;> exact ⟨by decide +kernel, by decide +kernel, by decide +kernel⟩
theorem rl_ren (r : RlOk R) : RlOk R.ren where
  fs := {
    lo := by rw [ren_len]; exact r.fs.lo
    hi := by rw [ren_len]; exact r.fs.hi
    nd := ren_nd r.fs.hi
    ok := fun f hf => by
      obtain ⟨i, hi, e⟩ := List.mem_iff_getElem.mp hf
      have hi' : i < R.fs.length := by rw [← ren_len]; exact hi
      have e2 : f = (fdAt R i).ren (renN i) := by
        have z := ren_get hi'
        rw [List.getElem?_eq_getElem hi, e] at z
        exact Option.some.inj z
      have ok := r.fs.ok _ (List.mem_of_getElem? (fdAt_get hi'))
      have hw : renN i ∈ renNs := by
        have h3 := r.fs.hi
        have h3' : i < renNs.length := show i < 3 by omega
        unfold renN
        rw [List.getD_eq_getElem?_getD, List.getElem?_eq_getElem h3']
        exact List.getElem_mem h3'
      rw [e2]
      exact ⟨isW_ren hw, ok.rd, ok.jp, ok.an, ok.gv, ok.tk, ok.kp⟩ }
  way := r.way
  sh := by
    refine List.mem_map.mpr ⟨_, List.mem_of_getElem? (ren_get r.at_lt), rfl⟩
end
end Lf

/-! what the law asks of the lost ones -/
namespace Lf
open PySem
section
variable {R : Rl} {T : List Tb} {xs : List Deed}
theorem isLost_mem {s : Sd} {ns ns' : List Nat} (h : ∀ x, x ∈ ns ↔ x ∈ ns') : isLost (s.pick ns) = isLost (s.pick ns') := by
  refine Bool.eq_iff_iff.mpr ?_
  rw [isLost_pick, isLost_pick]
  refine and_congr_right fun _ => forall_congr' fun m => forall_congr' fun _ => ?_
  constructor
  · exact fun z n hn => z n ((h n).mpr hn)
  · exact fun z n hn => z n ((h n).mp hn)
/-- the deeds at which it is lost, of the fields with some numbers -/
def lostP (R : Rl) (T : List Tb) (xs : List Deed) (ns : List Nat) : List Int := lostL 0 ((stM1 R T xs).map (Sd.pick ns))
def lost0 (R : Rl) (T : List Tb) (xs : List Deed) : List Int := lostL 0 (stM1 R T xs)
theorem lostP_at {ns : List Nat} {i : Nat} {s : Sd} (h : (stM1 R T xs)[i]? = some s) : ((i : Int) ∈ lostP R T xs ns ↔ isLost (s.pick ns) = true) := by
  have z := lostL_mem (ss := (stM1 R T xs).map (Sd.pick ns)) (n := 0) (i := i) (s := s.pick ns) (by rw [List.getElem?_map, h]; rfl)
  rw [Nat.zero_add] at z
  exact z
theorem lost_filter {pss : List (List Nat)} (ha : R.at < R.fs.length) (h1 : ∀ n, n < R.fs.length → n ≠ R.at → ∃ ps ∈ pss, ps.Perm [R.at, n]) (h2 : ∀ ps ∈ pss, ∃ n, n < R.fs.length ∧ n ≠ R.at ∧ ps.Perm [R.at, n]) :
    lost0 R T xs = (lostP R T xs [R.at]).filter fun k => pss.all fun ps => decide (k ∈ lostP R T xs ps) := by
  unfold lost0
  refine lostL_filter (g := Sd.pick [R.at]) fun i s e => ?_
  have mw := st_mw s (List.mem_of_getElem? e)
  rw [isLost_each ha mw (fun n => [R.at, n]) (fun n x => by simp only [List.mem_cons, List.not_mem_nil, or_false])]
  refine and_congr_right fun _ => ?_
  rw [Nat.zero_add, List.all_eq_true]
  constructor
  · intro h ps hps
    obtain ⟨n, n1, n2, hp⟩ := h2 ps hps
    refine decide_eq_true ((lostP_at e).mpr ?_)
    rw [isLost_mem (ns' := [R.at, n]) fun x => hp.mem_iff]
    exact h n n1 n2
  · intro h n n1 n2
    obtain ⟨ps, hps, hp⟩ := h1 n n1 n2
    have z := (lostP_at e).mp (of_decide_eq_true (h ps hps))
    rw [isLost_mem (ns' := [R.at, n]) fun x => hp.mem_iff] at z
    exact z
theorem lost_sub {pss : List (List Nat)} (ha : R.at < R.fs.length) (h1 : ∀ n, n < R.fs.length → n ≠ R.at → ∃ ps ∈ pss, ps.Perm [R.at, n]) (h2 : ∀ ps ∈ pss, ∃ n, n < R.fs.length ∧ n ≠ R.at ∧ ps.Perm [R.at, n]) :
    ∀ k ∈ lost0 R T xs, k ∈ lostP R T xs [R.at] := fun k hk => by
  rw [lost_filter ha h1 h2] at hk
  exact (List.mem_filter.mp hk).1
theorem lost_perm {ns : List Nat} (h : ns.Perm (List.range R.fs.length)) : lostP R T xs ns = lost0 R T xs := by
  unfold lostP lost0
  refine lostL_congr fun s hs => isLost_all (st_mw s hs) fun n => ?_
  rw [h.mem_iff, List.mem_range]
theorem lostL_len : ∀ {ss : List Sd} {n : Nat}, (lostL n ss).length ≤ ss.length
  | [], _ => Nat.le_refl 0
  | s :: ss, n => by
    have ih := lostL_len (ss := ss) (n := n + 1)
    show ((if isLost s = true then [(n : Int)] else []) ++ lostL (n + 1) ss).length ≤ ss.length + 1
    rw [List.length_append]
    split
    · rw [List.length_singleton]
      omega
    · rw [List.length_nil]
      omega
theorem lostP_len {ns : List Nat} : (lostP R T xs ns).length ≤ xs.length := by
  have z := lostL_len (ss := (stM1 R T xs).map (Sd.pick ns)) (n := 0)
  rw [List.length_map, st_len] at z
  exact z
theorem lost0_len : (lost0 R T xs).length ≤ xs.length := by
  have z := lostL_len (ss := stM1 R T xs) (n := 0)
  rw [st_len] at z
  exact z
end
end Lf

namespace Lf
open PySem PySem.Spec PyProof.Rows L2
local macro_rules | `(tactic| walk_at "rv") => `(tactic| with_reducible first
  | exact rv_int | exact rv_cmp | exact rv_eqI | exact rv_neI | exact rv_eqS | exact rv_neS | exact rv_eqB | exact rv_neB)
local macro_rules | `(tactic| walk_at "xd") => `(tactic| first
  | (with_reducible first | exact x_int | exact x_str | exact x_bl | exact x_non | exact x_ty | exact x_ref)
  | ((with_reducible apply x_var); exact rfl)
  | ((with_reducible apply xd_op); (walk_at "xd"); (walk_at "xd"); (walk_at "rv"))
  | ((with_reducible apply xd_if); (walk_at "xb"); (intro _; walk_at "xd"); (intro _; walk_at "xd"))
  | ((with_reducible apply xd_tup); (walk_at "xa"); (first | decide | assumption | omega))
  | ((with_reducible apply xd_lst); (walk_at "xa"); (first | decide | assumption | omega)))
local macro_rules | `(tactic| walk_at "xb") => `(tactic| first
  | ((with_reducible apply xb_test); (walk_at "xd"))
  | ((with_reducible apply xb_B); (walk_at "xd"))
  | ((with_reducible apply xb_and); (walk_at "xb"); (intro _; walk_at "xb"))
  | ((with_reducible apply xb_or); (walk_at "xb"); (intro _; walk_at "xb"))
  | ((with_reducible apply xb_not); (walk_at "xb")))
local macro_rules | `(tactic| walk_at "xa") => `(tactic| first
  | (with_reducible exact xa_nil)
  | ((with_reducible apply xad_cons); (walk_at "xd"); (walk_at "xa")))

section
variable {P : Program} {w : World} {K : PySem.W.Frag} {mg : Str → Option Value} {base : Heap}
def preRen (ds : List Dt) (r : Dt) : Prop := ∃ R : Rl, RlOk R ∧ ds = [.lst (R.fs.map Fd.dt), .tup [.str R.way, .str R.sh]] ∧ r = R.ren.dt
/-- names and rows, side by side -/
def renP (R : Rl) : List (Dt × Dt) := (List.range R.fs.length).map fun i => (.str (renN i), (fdAt R i).dt)
theorem renP_zip {R : Rl} (h3 : R.fs.length ≤ 3) : zipD ((renNs.take R.fs.length).map .str) (R.fs.map Fd.dt) = (renP R).map fun p => Dt.tup [p.1, p.2] := by
  rw [← ren_nms h3]
  unfold zipD renP
  refine List.ext_getElem? fun i => ?_
  rw [List.getElem?_zipWith, List.getElem?_map, List.getElem?_map, List.getElem?_map, List.getElem?_map, List.getElem?_map]
  by_cases hi : i < R.fs.length
  · rw [List.getElem?_range hi, fdAt_get hi, ren_get hi]
    rfl
  · rw [List.getElem?_eq_none (l := R.fs) (by omega), List.getElem?_eq_none (l := List.range R.fs.length) (by rw [List.length_range]; omega), List.getElem?_eq_none (l := R.ren.fs) (by rw [ren_len]; omega)]
    rfl
def renC (sh : Str) : Dt → Dt → Bool := fun _ y => match y with
  | .tup (.str a :: _) => decide (a = sh)
  | _ => false
theorem range_one {a : Nat} : ∀ {n : Nat}, a < n → (List.range n).filter (fun i => decide (i = a)) = [a]
  | 0, h => by omega
  | n + 1, h => by
    rw [List.range_succ, List.filter_append]
    by_cases e : n = a
    · subst e
      rw [List.filter_eq_nil_iff.mpr fun i hi => by have := List.mem_range.mp hi; simp; omega]
      simp
    · rw [range_one (by omega), List.filter_cons_of_neg (by simpa using e)]
      rfl
theorem renP_one {R : Rl} (r : RlOk R) : ((renP R).filter fun p => renC R.sh p.1 p.2) = [(.str (renN R.at), (fdAt R R.at).dt)] := by
  unfold renP
  rw [List.filter_map]
  have e : (List.range R.fs.length).filter ((fun p : Dt × Dt => renC R.sh p.1 p.2) ∘ fun i => (Dt.str (renN i), (fdAt R i).dt)) = [R.at] := by
    rw [← range_one r.at_lt]
    refine List.filter_congr fun i hi => ?_
    have hi := List.mem_range.mp hi
    show decide ((fdAt R i).nm = R.sh) = decide (i = R.at)
    refine Bool.eq_iff_iff.mpr ?_
    rw [decide_eq_true_iff, decide_eq_true_iff]
    constructor
    · intro e
      have z : (R.fs.map Fd.nm)[i]? = some R.sh := by rw [nm_get hi, e]
      exact (find_at r.fs.nd z).symm
    · intro e
      rw [e, at_nm r]
  rw [e]
  rfl
theorem ren_cut {R : Rl} (h1 : 1 ≤ R.fs.length) (h3 : R.fs.length ≤ 3) : cutD (renNs.map .str) none (some (R.fs.length : Int)) = (renNs.take R.fs.length).map .str := by
  have e : R.fs.length = 1 ∨ R.fs.length = 2 ∨ R.fs.length = 3 := by omega
  rcases e with e | e | e <;> rw [e] <;> rfl
def renRow : Dt → Dt → Dt := fun x y => match x, y with
  | x, .tup (_ :: l) => .tup (x :: l)
  | _, _ => .non
theorem ren_rows {R : Rl} : (renP R).map (fun p => renRow p.1 p.2) = R.ren.fs.map Fd.dt := by
  unfold renP
  refine List.ext_getElem? fun i => ?_
  rw [List.getElem?_map, List.getElem?_map, List.getElem?_map]
  by_cases hi : i < R.fs.length
  · rw [List.getElem?_range hi, ren_get hi]
    rfl
  · rw [List.getElem?_eq_none (by rw [List.length_range]; omega), List.getElem?_eq_none (by rw [ren_len]; omega)]
    rfl
theorem c_Lrenamed (T : Txt w K mg) : Cal P w K mg base 6 "_law_renamed" ["_law_rows", "_law_shown"] (spP K preRen) := by
  refine cal_Lrenamed T fun f fd F => pure_ok F sc_Lrenamed ?_ fun cdv A outer s H σ Q E B ds r hr hp h k => ?_
  · rintro ds r ⟨R, _, rfl, rfl⟩
    rfl
  · obtain ⟨R, rok, rfl, rfl⟩ := hp
    refine ⟨_, (pss_cons (ps_set (i := 2) sc_Lrenamed.nd rfl (Or.inl rfl) (pe_slice sl_list (pe_lst (pa_cons pe_str (pa_cons pe_str (pa_cons pe_str pa_nil)))) po_none (po_some (pe_callB call_lenQ (by rfl) T.f_len PySem.boot_len (pa_cons (pv 0) pa_nil)))))
    (pss_cons (ps_set (i := 3) sc_Lrenamed.nd rfl (Or.inl rfl) (pe_ix ix_list (pe_lc (own := [("_law_name", 4), ("_law_row", 5)]) rfl sc_Lrenamed.nd (pi_zip (by rfl) T.f_zip (pa_cons (pv 2) (pa_cons (pv 0) pa_nil))) (blkOk_by (by kernel_rfl)) (fun _ _ _ _ _ => (pgb_tup K 2 rfl (pgs_cons (pg_name (i := 4) sc_Lrenamed.nd rfl (Or.inl rfl)) (pgs_cons (pg_name (i := 5) sc_Lrenamed.nd rfl (Or.inl rfl)) pgs_nil)))) (fun _ _ _ _ _ => (pts_one (pt_cmpR op_eq (pe_ix (ix_tupK K) (pv 5) pe_int (fun _ _ => rfl)) (pe_ix (ix_tupK K) (pv 1) pe_int (fun _ _ => rfl)) (nomark _)))) (fun _ _ _ _ _ => (pv 4))) pe_int (fun _ _ => rfl)))
    (pss_one (ps_ret (pe_mak (m_Rule T) (hr.mono (by decide)) (by rfl) (pa_cons (pe_lc (own := [("_law_name", 4), ("_law_row", 5)]) rfl sc_Lrenamed.nd (pi_zip (by rfl) T.f_zip (pa_cons (pv 2) (pa_cons (pv 0) pa_nil))) (blkOk_by (by kernel_rfl)) (fun _ _ _ _ _ => (pgb_tup K 2 rfl (pgs_cons (pg_name (i := 4) sc_Lrenamed.nd rfl (Or.inl rfl)) (pgs_cons (pg_name (i := 5) sc_Lrenamed.nd rfl (Or.inl rfl)) pgs_nil)))) (fun _ _ _ _ _ => pts_nil) (fun _ _ _ _ _ => (pe_op (op_catAK K) (pe_tup (pa_cons (pv 4) pa_nil)) (pe_slice (sl_tupK K) (pv 5) (po_some pe_int) po_none)))) (pa_cons (pe_tup (pa_cons (pe_ix ix_tup (pv 1) pe_int (fun _ _ => rfl)) (pa_cons (pv 3) pa_nil))) pa_nil))))))), ?_⟩
    have h1 := rok.fs.lo
    have h3 := rok.fs.hi
    have zl : ((renNs.take R.fs.length).map Dt.str).length = (R.fs.map Fd.dt).length := by
      rw [List.length_map, List.length_map, List.length_take]
      exact Nat.min_eq_left h3
    have pl : (renP R).length ≤ 3 := by
      unfold renP
      rw [List.length_map, List.length_range]
      exact h3
    have inP : ∀ x y, (x, y) ∈ renP R → ∃ i, i < R.fs.length ∧ x = .str (renN i) ∧ y = (fdAt R i).dt := fun x y hm => by
      obtain ⟨i, hi, e⟩ := List.mem_map.mp hm
      cases e
      exact ⟨i, List.mem_range.mp hi, rfl, rfl⟩
    apply qd_asg (d := .lst ((renNs.take R.fs.length).map .str)) h
    · rw [← ren_cut h1 h3]
      exact x_slL (xd_lst (ds := renNs.map .str) (xad_cons x_str (xad_cons x_str (xad_cons x_str xa_nil))) (show (3 : Nat) ≤ 100000 by decide)) xo_none (xo_some (Xe.is (xd_cb (xad_cons (x_var rfl) xa_nil) rc_lenL) (by rw [List.length_map])))
    intro σ1 H1 h
    have h : Sg (pureM K B) H [] [some (.lst (R.fs.map Fd.dt)), some (.tup [.str R.way, .str R.sh]), some (.lst ((renNs.take R.fs.length).map .str)), none, none, none] σ1 H1 := h
    have src : ∀ {M : Mode K} {o3 : Option Dt}, Xi M [some (.lst (R.fs.map Fd.dt)), some (.tup [.str R.way, .str R.sh]), some (.lst ((renNs.take R.fs.length).map .str)), o3, none, none] (iZip K (tCons (tVar 2) (tCons (tVar 0) tNil))) ((renP R).map fun p => Dt.tup [p.1, p.2]) := fun {M o3} => by
      rw [← renP_zip h3]
      exact xi_zipL (xad_cons (x_var rfl) (xad_cons (x_var rfl) xa_nil)) zl
    apply qd_asg (d := .str (renN R.at)) h
    · refine xd_op (a := .lst [.str (renN R.at)]) (Xe.is (x_lc2If (ps := renP R) (fun x _ => x) (renC R.sh) src.j (fun x y p acc hm => ?_) (fun x y p acc hm _ => x_var rfl)) (by rw [renP_one rok]; rfl)) x_int (rv_ixL rfl)
      obtain ⟨i, hi, rfl, rfl⟩ := inP x y hm
      exact xb_test (xd_op (xd_op (x_var (d := (fdAt R i).dt) rfl) x_int (rv_ixT rfl)) (xd_op (x_var rfl) x_int (rv_ixT rfl)) rv_eqS)
    intro σ2 H2 h
    have h : Sg (pureM K B) H [] [some (.lst (R.fs.map Fd.dt)), some (.tup [.str R.way, .str R.sh]), some (.lst ((renNs.take R.fs.length).map .str)), some (.str (renN R.at)), none, none] σ2 H2 := h
    refine e_ret (P := (· = R.ren.dt)) h ?_ fun d v H' e ok fr hv => k v H' fr (by rw [e] at hv; exact hv)
    refine x_make (P := (· = [.lst (R.ren.fs.map Fd.dt), .tup [.str R.ren.way, .str R.ren.sh]])) (xad_cons ?_ (xad_cons ?_ xa_nil)) fun ds e => ⟨_, _, ⟨R.ren, rl_ren rok, e, rfl, rfl⟩, rfl⟩
    · rw [← ren_rows]
      refine x_lc2 (ps := renP R) renRow src.j fun x y p acc hm => ?_
      obtain ⟨i, hi, rfl, rfl⟩ := inP x y hm
      refine xd_op (xd_tup (ds := [.str (renN i)]) (xad_cons (x_var rfl) xa_nil) (show (1 : Nat) ≤ 100000 by decide)) (x_slT (lo := some 1) (hi := none) (x_var (d := (fdAt R i).dt) rfl) (xo_some x_int) xo_none (fun z => absurd (show (1 : Nat) = 0 from z.1) (by decide))) (rv_catT (by simp) ?_ ?_)
      · intro z
        cases z
      · show (1 : Nat) + 6 ≤ sizeLine
        decide
    · exact xd_tup2' (xad_cons (xd_op (x_var rfl) x_int (rv_ixT rfl)) (xad_cons (x_var rfl) xa_nil))
end
end Lf

/-! what is told, as data -/
namespace Lf
open PySem PySem.Spec PyProof.Rows L2
section
variable {R R' : Rl} {ns : List Nat} {T : List Tb} {xs : List Deed}
theorem playedD_st : playedD R T xs = .lst ((stM1 R T xs).map Sd.told) := by
  unfold playedD stM1
  rw [List.map_map]
  rfl
theorem told_pick {s : Sd} : (s.pick ns).told = pickD ns s := by
  show Dt.tup [intsD s.spots, .tup ((s.held.map (pickM ns)).map intsD)] = .tup [intsD s.spots, .tup (s.held.map fun m => intsD (pickM ns m))]
  rw [List.map_map]
  rfl
theorem played_pick (L : Like R R' ns) (hn : ∀ i ∈ ns, i < R.fs.length) (h : okAll R T (Sd.init T.length R.fs.length) xs) : playedD R' T xs = .lst ((stM1 R T xs).map (pickD ns)) := by
  rw [playedD_st, sub_stands L hn h, List.map_map]
  congr 1
  exact List.map_congr_left fun s _ => told_pick
/-! the deeper data of same -/
theorem sm_ints {n : Nat} {l : List Int} (h : l.length ≤ 1000) : SmOk (n + 1) (intsD l) := by
  refine .inr ⟨l.map .int, .inr rfl, by rw [List.length_map]; exact h, fun x hx => ?_⟩
  obtain ⟨i, _, rfl⟩ := List.mem_map.mp hx
  cases n with
  | zero => exact ⟨i, rfl⟩
  | succ n => exact .inl ⟨i, rfl⟩
theorem sm_told {s : Sd} (h1 : s.spots.length ≤ 1000) (h2 : s.held.length ≤ 1000) (h3 : ∀ m ∈ s.held, m.length ≤ 1000) : SmOk 3 s.told := by
  refine .inr ⟨_, .inr rfl, (show (2 : Nat) ≤ 1000 by decide), fun x hx => ?_⟩
  rcases List.mem_cons.mp hx with e | e
  · rw [e]
    exact sm_ints h1
  · rw [List.mem_singleton.mp e]
    refine .inr ⟨s.held.map intsD, .inr rfl, by rw [List.length_map]; exact h2, fun y hy => ?_⟩
    obtain ⟨m, hm, rfl⟩ := List.mem_map.mp hy
    exact sm_ints (h3 m hm)
theorem run_sp : ∀ {xs : List Deed} {s : Sd}, ∀ p ∈ runM R T s xs, p.1.spots.length = s.spots.length
  | [], _, _, hp => by cases hp
  | x :: xs, s, p, hp => by
    have key : (doM R T s x).1.spots.length = s.spots.length := by
      cases x with
      | go rd d e => exact List.length_set
      | anew d => exact List.length_set
      | give d => rfl
      | take d =>
        show (if R.way = "field" then s.spots.set d _ else if R.way = "greater" then s.spots.set d _ else s.spots).length = _
        split
        · exact List.length_set
        · split
          · exact List.length_set
          · rfl
    rcases List.mem_cons.mp hp with e | e
    · rw [e, key]
    · rw [run_sp p e, key]
theorem st_sp : ∀ s ∈ stM1 R T xs, s.spots.length = T.length := fun s hs => by
  obtain ⟨p, hp, rfl⟩ := List.mem_map.mp hs
  rw [run_sp p hp]
  exact List.length_replicate
theorem sm_played (hT : T.length ≤ 3) (hR : R.fs.length ≤ 3) (hx : xs.length ≤ 100) : SmOk 4 (playedD R T xs) := by
  rw [playedD_st]
  refine .inr ⟨_, .inl rfl, by rw [List.length_map, st_len]; omega, fun x hm => ?_⟩
  obtain ⟨s, hs, rfl⟩ := List.mem_map.mp hm
  exact sm_told (by rw [st_sp s hs]; omega) (by rw [st_hl s hs]; omega) fun m hm => by rw [st_mw s hs m hm]; omega
/-! the words of faults -/
def faWords : List Str := ["back", "ahead", "nobody", "lost"]
theorem faWords_ok : ∀ x ∈ faWords, PyData.strOk x = true := by decide +kernel
theorem one_in {p : Prop} [Decidable p] {z x : Str} (h : x ∈ (if p then [z] else [])) : x = z := by
  split at h
  · exact List.mem_singleton.mp h
  · cases h
theorem takeF_in {t : Tb} {s : Sd} {a b : Int} : ∀ x ∈ takeF t s a b, x ∈ faWords := by
  intro x hx
  unfold takeF at hx
  simp only [faWords, List.mem_cons, List.not_mem_nil, or_false]
  rcases List.mem_append.mp hx with z | z
  · exact .inl (one_in z)
  · rcases List.mem_append.mp z with z | z
    · exact .inr (.inl (one_in z))
    · exact .inr (.inr (.inl (one_in z)))
theorem doM_in {s : Sd} {x : Deed} : ∀ w ∈ (doM R T s x).2, w ∈ faWords := by
  intro w hw
  rw [doM_snd] at hw
  rcases List.mem_append.mp hw with z | z
  · cases x with
    | take d => exact takeF_in w z
    | _ => cases z
  · unfold lostW at z
    rw [one_in z]
    simp [faWords]
theorem run_in : ∀ {xs : List Deed} {s : Sd}, ∀ p ∈ runM R T s xs, ∀ w ∈ p.2, w ∈ faWords
  | [], _, _, hp => by cases hp
  | x :: xs, s, p, hp => by
    rcases List.mem_cons.mp hp with e | e
    · rw [e]
      exact doM_in
    · exact run_in p e
theorem faultsM_in : ∀ {ps : List (Sd × List Str)} {n : Nat}, (∀ p ∈ ps, ∀ w ∈ p.2, w ∈ faWords) → ∀ q ∈ faultsM n ps, q.2 ∈ faWords
  | [], _, _, q, hq => by cases hq
  | p :: ps, n, h, q, hq => by
    rcases List.mem_append.mp hq with z | z
    · obtain ⟨w, hw, rfl⟩ := List.mem_map.mp z
      exact h p List.mem_cons_self w hw
    · exact faultsM_in (fun p hp => h p (List.mem_cons_of_mem _ hp)) q z
def faL (R : Rl) (T : List Tb) (xs : List Deed) : List (Int × Str) := faultsM 0 (standsM R T xs)
theorem faL_in : ∀ q ∈ faL R T xs, q.2 ∈ faWords := faultsM_in run_in
theorem faL_len : (faL R T xs).length ≤ 20 * xs.length := by
  have z := faults_len (standsM R T xs) (fun p hp => run_mem R T xs _ p hp) 0
  have e : (standsM R T xs).length = xs.length := run_len R T xs _
  rw [e] at z
  exact z
def pairD (p : Int × Str) : Dt := .tup [.int p.1, .str p.2]
theorem nice_pair {n : Nat} {p : Int × Str} (h : p.2 ∈ faWords) : Nice (n + 1) (pairD p) := nice_tup fun d hd => by
  rcases List.mem_cons.mp hd with e | e
  · rw [e]
    exact nice_int
  · rw [List.mem_singleton.mp e]
    exact nice_str (faWords_ok _ h)
theorem nice_pairs {n : Nat} {l : List (Int × Str)} (h : ∀ p ∈ l, p.2 ∈ faWords) : Nice (n + 2) (pairsD l) := nice_lst fun d hd => by
  obtain ⟨p, hp, rfl⟩ := List.mem_map.mp hd
  exact nice_pair (h p hp)
/-- what the law keeps of the pairs -/
def keepC : Dt → Bool := fun d => match d with
  | .tup [_, .str w] => !decide (w = ("lost" : Str))
  | _ => false
theorem keepC_eq {l : List (Int × Str)} : (((l.map pairD).filter keepC).map fun d => d) = (keepF l).map pairD := by
  rw [List.map_id', List.filter_map]
  rfl
theorem keepF_in {l : List (Int × Str)} (h : ∀ p ∈ l, p.2 ∈ faWords) : ∀ p ∈ keepF l, p.2 ∈ faWords := fun p hp => h p (List.mem_filter.mp hp).1
end
end Lf

namespace Lf
open PySem PySem.Spec PyProof.Rows L2
local macro_rules | `(tactic| walk_at "rv") => `(tactic| with_reducible first
  | exact rv_int | exact rv_cmp | exact rv_eqI | exact rv_neI | exact rv_eqS | exact rv_neS | exact rv_eqB | exact rv_neB)
local macro_rules | `(tactic| walk_at "xd") => `(tactic| first
  | (with_reducible first | exact x_int | exact x_str | exact x_bl | exact x_non | exact x_ty | exact x_ref)
  | ((with_reducible apply x_var); exact rfl)
  | ((with_reducible apply xd_op); (walk_at "xd"); (walk_at "xd"); (walk_at "rv"))
  | ((with_reducible apply xd_if); (walk_at "xb"); (intro _; walk_at "xd"); (intro _; walk_at "xd"))
  | ((with_reducible apply xd_tup); (walk_at "xa"); (first | decide | assumption | omega))
  | ((with_reducible apply xd_lst); (walk_at "xa"); (first | decide | assumption | omega)))
local macro_rules | `(tactic| walk_at "xb") => `(tactic| first
  | ((with_reducible apply xb_test); (walk_at "xd"))
  | ((with_reducible apply xb_B); (walk_at "xd"))
  | ((with_reducible apply xb_and); (walk_at "xb"); (intro _; walk_at "xb"))
  | ((with_reducible apply xb_or); (walk_at "xb"); (intro _; walk_at "xb"))
  | ((with_reducible apply xb_not); (walk_at "xb")))
local macro_rules | `(tactic| walk_at "xa") => `(tactic| first
  | (with_reducible exact xa_nil)
  | ((with_reducible apply xad_cons); (walk_at "xd"); (walk_at "xa")))

section
variable {P : Program} {w : World} {K : PySem.W.Frag} {mg : Str → Option Value} {base : Heap}
def natsD (ns : List Nat) : Dt := .lst (ns.map fun (n : Nat) => .int (n : Int))
def preLess (ds : List Dt) (r : Dt) : Prop := ∃ R sd Ts xs ns, RlOk R ∧ Setd sd Ts ∧ TWf Ts ∧ xs.length ≤ 16 ∧ okAll R Ts (Sd.init Ts.length R.fs.length) xs ∧ ns.Nodup ∧ (∀ n ∈ ns, n < R.fs.length) ∧ R.at ∈ ns ∧ ns.length ≤ 3 ∧
  ds = [R.dt, sd, .lst (xs.map Deed.dt), playedD R Ts xs, faultsD R Ts xs, natsD ns] ∧ r = .lst ((lostP R Ts xs ns).map .int)
theorem c_Lless_right (T : Txt w K mg) : Cal P w K mg base 8 "_law_less_right" ["_law_made", "_law_there", "_law_deeds", "_law_told", "_law_due", "_law_numbers"] (spP K preLess) := by
  refine cal_Lless_right T fun f fd F => pure_ok F sc_Lless_right ?_ fun cdv A outer s H σ Q E B ds r hr hp h k => ?_
  · rintro ds r ⟨R, sd, Ts, xs, ns, _, _, _, _, _, _, _, _, _, rfl, rfl⟩
    rfl
  · obtain ⟨R, sd, Ts, xs, ns, rok, sok, tw, x16, okx, nd, nf, ha, n3, rfl, rfl⟩ := hp
    refine ⟨_, (pss_cons (ps_setLc (i := 6) (own := [("_law_n", 9)]) rfl sc_Lless_right.nd rfl rfl (sw_true rfl rfl rfl (by decide +kernel)) (pi_list (pv 5)) (blkOk_by (by kernel_rfl)) (fun _ _ _ _ _ => (pg_name (i := 9) sc_Lless_right.nd rfl (Or.inl rfl))) (fun _ _ _ _ _ => pts_nil) (fun _ _ _ _ _ => (pe_ix (ix_listK K) (pe_met0K K (t_Rule_fields T) (hr.mono (by decide)) (pv 0)) (pv 9) (fun _ _ => rfl))))
    (pss_cons (ps_set (i := 7) sc_Lless_right.nd rfl (Or.inl rfl) (pe_mak (m_Rule T) (hr.mono (by decide)) (by rfl) (pa_cons (pv 6) (pa_cons (pe_met0 (t_Rule_show T) (hr.mono (by decide)) (pv 0)) pa_nil))))
    (pss_cons (ps_set (i := 8) sc_Lless_right.nd rfl (Or.inl rfl) (pe_cal (c_faults T) (hr.mono (by decide)) (by rfl) (pa_cons (pv 7) (pa_cons (pv 1) (pa_cons (pv 2) pa_nil)))))
    (pss_cons (ps_if (pt_not (pt_val (pe_cal (c_Lsame T 5) (hr.mono (by decide)) (by rfl) (pa_cons (pe_cal (c_played T) (hr.mono (by decide)) (by rfl) (pa_cons (pv 7) (pa_cons (pv 1) (pa_cons (pv 2) pa_nil)))) (pa_cons (pe_cal (c_Lpicked T) (hr.mono (by decide)) (by rfl) (pa_cons (pv 3) (pa_cons (pv 5) pa_nil))) pa_nil))))) (pss_one (ps_ret pe_non)) pss_nil)
    (pss_cons (ps_if (pt_cmpR (op_neD hr.units) (pe_lc (own := [("_law_pair", 10)]) rfl sc_Lless_right.nd (pi_list (pv 8)) (blkOk_by (by kernel_rfl)) (fun _ _ _ _ _ => (pg_name (i := 10) sc_Lless_right.nd rfl (Or.inl rfl))) (fun _ _ _ _ _ => (pts_one (pt_cmpR op_ne (pe_ix (ix_tupK K) (pv 10) pe_int (fun _ _ => rfl)) pe_str (nomark _)))) (fun _ _ _ _ _ => (pv 10))) (pe_lc (own := [("_law_pair", 10)]) rfl sc_Lless_right.nd (pi_list (pv 4)) (blkOk_by (by kernel_rfl)) (fun _ _ _ _ _ => (pg_name (i := 10) sc_Lless_right.nd rfl (Or.inl rfl))) (fun _ _ _ _ _ => (pts_one (pt_cmpR op_ne (pe_ix (ix_tupK K) (pv 10) pe_int (fun _ _ => rfl)) pe_str (nomark _)))) (fun _ _ _ _ _ => (pv 10))) (nomark _)) (pss_one (ps_ret pe_non)) pss_nil)
    (pss_one (ps_ret (pe_lc (own := [("_law_k", 11), ("_law_word", 12)]) rfl sc_Lless_right.nd (pi_list (pv 8)) (blkOk_by (by kernel_rfl)) (fun _ _ _ _ _ => (pgb_tup K 2 rfl (pgs_cons (pg_name (i := 11) sc_Lless_right.nd rfl (Or.inl rfl)) (pgs_cons (pg_name (i := 12) sc_Lless_right.nd rfl (Or.inl rfl)) pgs_nil)))) (fun _ _ _ _ _ => (pts_one (pt_cmpR op_eq (pv 12) pe_str (nomark _)))) (fun _ _ _ _ _ => (pv 11)))))))))), ?_⟩
    have L := like_sub rok nd nf ha
    have rok2 := rl_sub rok nd nf ha n3
    have okx2 := sub_ok L nf okx
    have t3 := tw.hi
    apply qd_asg (d := .lst ((R.sub ns).fs.map Fd.dt)) h
    · refine Xe.is (x_lcN (ds := ns.map fun (n : Nat) => Dt.int (n : Int)) (fun d => match d with | .int n => (fdAt R n.toNat).dt | _ => .non) (xi_list (x_var rfl)).j (fun i d p acc e => ?_) (hz := by rw [List.length_map]; omega)) (by rw [List.map_map]; show _ = Dt.lst ((ns.map (fdAt R)).map Fd.dt); rw [List.map_map]; rfl)
      obtain ⟨n, en, rfl⟩ := map_got e
      have hn := nf n (List.mem_of_getElem? en)
      refine xd_op (x_meth (pre := preFlds) (x_var (d := R.dt) rfl) (by decide +kernel) xa_nil (by exact ⟨R, rfl, rfl⟩)) (x_var rfl) (rv_ixL ?_)
      exact atN (by rw [List.getElem?_map, fdAt_get hn]; rfl)
    intro σ1 H1 h
    have h : Sg (pureM K B) H [] [some R.dt, some sd, some (.lst (xs.map Deed.dt)), some (playedD R Ts xs), some (faultsD R Ts xs), some (natsD ns), some (.lst ((R.sub ns).fs.map Fd.dt)), none, none, none, none, none, none] σ1 H1 := h
    apply qd_asg (d := (R.sub ns).dt) h
    · exact x_make (P := (· = [.lst ((R.sub ns).fs.map Fd.dt), .tup [.str R.way, .str R.sh]])) (xad_cons (x_var rfl) (xad_cons (x_meth (pre := preShw) (x_var (d := R.dt) rfl) (by decide +kernel) xa_nil (by exact ⟨R, rfl, rfl⟩)) xa_nil)) fun ds e => ⟨_, _, ⟨R.sub ns, rok2, e, rfl, rfl⟩, rfl⟩
    intro σ2 H2 h
    apply qd_asg (d := faultsD (R.sub ns) Ts xs) h (x_call (xad_cons (x_var rfl) (xad_cons (x_var rfl) (xad_cons (x_var rfl) xa_nil))) (by exact ⟨R.sub ns, sd, Ts, xs, rok2, sok, tw, by omega, okx2, rfl, rfl⟩))
    intro σ3 H3 h
    have h : Sg (pureM K B) H [] [some R.dt, some sd, some (.lst (xs.map Deed.dt)), some (playedD R Ts xs), some (faultsD R Ts xs), some (natsD ns), some (.lst ((R.sub ns).fs.map Fd.dt)), some (R.sub ns).dt, some (faultsD (R.sub ns) Ts xs), none, none, none, none] σ3 H3 := h
    refine qd_no h (Xt.is (xb_not (a := true) (xb_test (x_call (ds := [playedD (R.sub ns) Ts xs, playedD (R.sub ns) Ts xs]) (xad_cons (x_call (xad_cons (x_var rfl) (xad_cons (x_var rfl) (xad_cons (x_var rfl) xa_nil))) (by exact ⟨R.sub ns, sd, Ts, xs, rok2, sok, tw, by omega, okx2, rfl, rfl⟩)) (xad_cons (Xe.is (x_call (pre := prePick) (r := .lst ((stM1 R Ts xs).map (pickD ns))) (xad_cons (x_var rfl) (xad_cons (x_var rfl) xa_nil)) ?_) (played_pick L nf okx).symm) xa_nil)) (by exact ⟨_, sm_played (xs := xs) t3 rok2.fs.hi (Nat.le_trans x16 (by decide)), rfl, rfl⟩)))) rfl) fun H4 h => ?_
    · refine ⟨stM1 R Ts xs, ns, R.fs.length, by rw [st_len]; exact x16, n3, nf, fun s hs => ⟨by rw [st_hl s hs]; omega, st_mw s hs⟩, ?_, rfl⟩
      rw [← playedD_st]
      rfl
    have kp : ∀ {M : Mode K} {l : List (Int × Str)} {j : Nat} {o : List (Option Dt)}, l.length ≤ 400 → (j = 8 ∨ j = 4) → o[j]? = some (some (pairsD l)) → o.length = 13 → Xd M o (tLc (iList K (tVar j)) (gName 10) (tTest (tOp rNe (tOp (rIxT K) (tVar 10) (tC (.int 1))) (tC (.str "lost")))) (tVar 10) [10]) (pairsD (keepF l)) := fun {M l j o} hl hj ho h13 => by
      refine Xe.is (x_lcNIf (ds := l.map pairD) (fun d => d) keepC (xi_list (x_var ho)).j (fun i d p acc e => ?_) (fun i d p acc e _ => x_var ?_) (hz := by rw [List.length_map]; omega)) (by rw [keepC_eq]; rfl)
      · obtain ⟨q, eq, rfl⟩ := map_got e
        exact xb_test (xd_op (xd_op (x_var (d := pairD q) (List.getElem?_set_self (by rw [wipeG_length, h13]; decide))) x_int (rv_ixT (i := 1) rfl)) x_str rv_neS)
      · exact List.getElem?_set_self (by rw [wipeG_length, h13]; decide)
    have l1 : (faL R Ts xs).length ≤ 400 := Nat.le_trans faL_len (by omega)
    have l2 : (faL (R.sub ns) Ts xs).length ≤ 400 := Nat.le_trans faL_len (by omega)
    refine qd_no h (xb_test (xd_op (kp (l := faL (R.sub ns) Ts xs) l2 (.inl rfl) rfl rfl) (Xe.is (kp (l := faL R Ts xs) l1 (.inr rfl) rfl rfl) (congrArg pairsD (sub_keep L nf okx).symm)) (rv_neR (nice_pairs (n := 0) (keepF_in faL_in))))) fun H5 h => ?_
    refine ed_ret h k ?_
    refine Xe.is (x_lc2If (ps := (faL (R.sub ns) Ts xs).map fun p => (.int p.1, .str p.2)) (fun x _ => x) (fun _ y => match y with | .str z => decide (z = ("lost" : Str)) | _ => false) ?_ (fun x y p acc hm => ?_) (fun x y p acc hm _ => x_var rfl) (hz := by rw [List.length_map]; omega)) ?_
    · rw [List.map_map]
      exact (xi_list (x_var (d := faultsD (R.sub ns) Ts xs) rfl)).j
    · obtain ⟨q, _, e⟩ := List.mem_map.mp hm
      cases e
      exact xb_test (xd_op (x_var rfl) x_str rv_eqS)
    · rw [List.filter_map, List.map_map]
      have z := sub_lost L nf okx
      show Dt.lst _ = Dt.lst ((lostL 0 ((stM1 R Ts xs).map (Sd.pick ns))).map .int)
      rw [← z]
      unfold lostI
      rw [List.map_map]
      rfl
end
end Lf

/-! a list that is still built is handed to a def; the drawn history -/
namespace Lf
open PySem PySem.Spec PyProof.Rows L2
/-! data without lists -/
mutual
def noL : Dt → Bool
  | .lst _ => false
  | .tup ds => noLs ds
  | .ins _ _ ds => noLs ds
  | _ => true
def noLs : List Dt → Bool
  | [] => true
  | d :: ds => noL d && noLs ds
end
theorem noLs_all : ∀ {ds : List Dt}, (∀ d ∈ ds, noL d = true) → noLs ds = true
  | [], _ => rfl
  | d :: ds, h => by
    show (noL d && noLs ds) = true
    rw [h d List.mem_cons_self, noLs_all fun x hx => h x (List.mem_cons_of_mem _ hx)]
    rfl
section
variable {K : PySem.W.Frag} {B : Addr → Prop} {H : Hp} {p : Addr} {zs : List V}
mutual
theorem At.noL (hp : H p = some (.lst zs)) : ∀ (d : Dt) (v : V), Lf.noL d = true → At K B H d v → At K (fun b => B b ∨ b = p) H d v
  | .non, _, _, h => h
  | .bl _, _, _, h => h
  | .int _, _, _, h => h
  | .str _, _, _, h => h
  | .lst _, _, n, _ => by cases n
  | .tup ds, _, n, h => by
    obtain ⟨a, xs, e, nb, ha, hx⟩ := h
    refine ⟨a, xs, e, fun z => z.elim nb fun q => ?_, ha, AtAll.noL hp ds xs n hx⟩
    rw [q, hp] at ha
    cases ha
  | .ins c ks ds, _, n, h => by
    obtain ⟨a, dx, xs, e, nb, ha, hx⟩ := h
    refine ⟨a, dx, xs, e, fun z => z.elim nb fun q => ?_, ha, AtAll.noL hp ds xs n hx⟩
    rw [q, hp] at ha
    cases ha
  | .raw _, _, _, h => h
  | .ty _, _, _, h => h
theorem AtAll.noL (hp : H p = some (.lst zs)) : ∀ (ds : List Dt) (vs : List V), Lf.noLs ds = true → AtAll K B H ds vs → AtAll K (fun b => B b ∨ b = p) H ds vs
  | [], _, _, h => h
  | d :: ds, _, n, h => by
    obtain ⟨v, r, e, h1, h2⟩ := h
    obtain ⟨n1, n2⟩ := Bool.and_eq_true_iff.mp (show (Lf.noL d && Lf.noLs ds) = true from n)
    exact ⟨v, r, e, At.noL hp d v n1 h1, AtAll.noL hp ds r n2 h2⟩
end
end
section
variable {K : PySem.W.Frag} {M : Mode K} {G : List (Option Dt)}
/-- the third argument is the list that is built -/
theorem x_callP {pre : List Dt → Dt → Prop} {ta : TA} {p : Addr} {ds : List Dt} {a b r : Dt} (ha : Xa (M.bld p ds) G ta (· = [a, b, .raw p])) (hp : pre [a, b, .lst ds] r)
    (up : ∀ v H, (M.bld p ds).ok H → At K M.B H r v → At K (M.bld p ds).B H r v) : Xd (M.bld p ds) G (tCall (spP K pre) [] E0 ta) r := fun σ H Q ok e k =>
  ha σ H _ ok e fun vs ds' H1 r1 ed hs => by
    rw [ed] at hs
    have o1 := (M.bld p ds).stab ok r1
    obtain ⟨va, ra, e1, h1, vb, rb, e2, h2, vc, rc, e3, h3, h4⟩ := hs
    have le : ∀ b, M.B b → (M.bld p ds).B b := fun b z => .inl z
    refine ⟨M.B, [a, b, .lst ds], r, fun c z => M.trk (bld_ok o1) z, ?_, hp, fun v H2 s2 hv => ?_⟩
    · rw [List.append_nil, e1, e2, e3, show rc = [] from h4]
      exact ⟨_, _, rfl, h1.less le, _, _, rfl, h2.less le, _, _, rfl, by rw [show vc = V.ref p from h3]; exact bld_out o1, rfl⟩
    · have r2 := (M.bld p ds).same o1 s2
      exact k v r H2 ((M.bld p ds).trans r1 r2) rfl (up v H2 ((M.bld p ds).stab o1 r2) hv)
theorem no_told {s : Sd} : noL s.told = true := by
  have z : ∀ l : List Int, noL (intsD l) = true := fun l => noLs_all fun d hd => by
    obtain ⟨i, _, rfl⟩ := List.mem_map.mp hd
    rfl
  refine noLs_all fun d hd => ?_
  rcases List.mem_cons.mp hd with e | e
  · rw [e]
    exact z _
  · rw [List.mem_singleton.mp e]
    refine noLs_all fun d hd => ?_
    obtain ⟨m, _, rfl⟩ := List.mem_map.mp hd
    exact z m
theorem told_up {p : Addr} {R : Rl} {T : List Tb} {xs : List Deed} (hne : xs ≠ []) (v : V) (H : Hp) (ok : (M.bld p (xs.map Deed.dt)).ok H) (hv : At K M.B H (playedD R T xs) v) : At K (M.bld p (xs.map Deed.dt)).B H (playedD R T xs) v := by
  rw [playedD_st] at hv ⊢
  obtain ⟨_, _, zs, hp, hz⟩ := ok
  obtain ⟨a, ys, e, nb, ha, hy⟩ := hv
  refine ⟨a, ys, e, fun z => z.elim nb fun q => ?_, ha, AtAll.noL hp _ _ (noLs_all fun d hd => ?_) hy⟩
  · subst q
    rw [hp] at ha
    cases ha
    cases xs with
    | nil => exact hne rfl
    | cons x xs =>
      obtain ⟨v1, q1, z1, h1, _⟩ := hz
      obtain ⟨v2, q2, z2, h2, _⟩ := hy
      rw [z1] at z2
      cases z2
      rw [Deed.dt_eq] at h1
      obtain ⟨b1, u1, e1, _, k1, l1⟩ := h1
      obtain ⟨b2, u2, e2, _, k2, l2⟩ := h2
      rw [e1] at e2
      cases e2
      rw [k1] at k2
      cases k2
      obtain ⟨w1, t1, f1, g1, _⟩ := l1
      obtain ⟨w2, t2, f2, g2, _⟩ := l2
      rw [f1] at f2
      cases f2
      obtain ⟨c, us, g3, _⟩ := g2
      rw [show _ = V.str _ from g1] at g3
      cases g3
  · obtain ⟨s, _, rfl⟩ := List.mem_map.mp hd
    exact no_told
end
section
variable {R : Rl} {T : List Tb}
theorem run_last : ∀ {xs : List Deed} {s : Sd}, xs ≠ [] → ((runM R T s xs).map fun p => p.1)[xs.length - 1]? = some (lastM R T s xs)
  | [], _, h => absurd rfl h
  | [x], s, _ => rfl
  | x :: y :: xs, s, _ => by
    show ((doM R T s x).1 :: ((runM R T (doM R T s x).1 (y :: xs)).map fun p => p.1))[(y :: xs).length]? = _
    have z := run_last (xs := y :: xs) (s := (doM R T s x).1) (by simp)
    rw [show (y :: xs).length = ((y :: xs).length - 1) + 1 from rfl, List.getElem?_cons_succ]
    exact z
theorem okAll_app : ∀ {xs : List Deed} {s : Sd} {x : Deed}, okAll R T s xs → okDeed T (lastM R T s xs) x → okAll R T s (xs ++ [x])
  | [], _, _, _, h => ⟨h, trivial⟩
  | y :: xs, s, x, h1, h2 => ⟨h1.1, okAll_app h1.2 h2⟩
end
end Lf

namespace Lf
open PySem PySem.Spec PyProof.Rows L2
local macro_rules | `(tactic| walk_at "rv") => `(tactic| with_reducible first
  | exact rv_int | exact rv_cmp | exact rv_eqI | exact rv_neI | exact rv_eqS | exact rv_neS | exact rv_eqB | exact rv_neB)
local macro_rules | `(tactic| walk_at "xd") => `(tactic| first
  | (with_reducible first | exact x_int | exact x_str | exact x_bl | exact x_non | exact x_ty | exact x_ref)
  | ((with_reducible apply x_var); exact rfl)
  | ((with_reducible apply xd_op); (walk_at "xd"); (walk_at "xd"); (walk_at "rv"))
  | ((with_reducible apply xd_if); (walk_at "xb"); (intro _; walk_at "xd"); (intro _; walk_at "xd"))
  | ((with_reducible apply xd_tup); (walk_at "xa"); (first | decide | assumption | omega))
  | ((with_reducible apply xd_lst); (walk_at "xa"); (first | decide | assumption | omega)))
local macro_rules | `(tactic| walk_at "xb") => `(tactic| first
  | ((with_reducible apply xb_test); (walk_at "xd"))
  | ((with_reducible apply xb_B); (walk_at "xd"))
  | ((with_reducible apply xb_and); (walk_at "xb"); (intro _; walk_at "xb"))
  | ((with_reducible apply xb_or); (walk_at "xb"); (intro _; walk_at "xb"))
  | ((with_reducible apply xb_not); (walk_at "xb")))
local macro_rules | `(tactic| walk_at "xa") => `(tactic| first
  | (with_reducible exact xa_nil)
  | ((with_reducible apply xad_cons); (walk_at "xd"); (walk_at "xa")))

section
variable {P : Program} {w : World} {K : PySem.W.Frag} {mg : Str → Option Value} {base : Heap}
def runWs : List Str := ["read", "read", "read", "jump", "give", "give", "give", "take", "take", "take", "anew"]
def preHist (ds : List Dt) (Q : Dt → Prop) : Prop := ∃ R sd Ts, ∃ m : Nat, RlOk R ∧ Setd sd Ts ∧ TWf Ts ∧ m ≤ 16 ∧ ds = [R.dt, sd, .lst (Ts.map tbDt), .int (m : Int)] ∧
  Q = fun d => ∃ xs : List Deed, xs.length = m ∧ okAll R Ts (Sd.init Ts.length R.fs.length) xs ∧ d = .tup [.lst (xs.map Deed.dt), playedD R Ts xs]
theorem c_Lplain_run (T : Txt w K mg) : Cal P w K mg base 8 "_law_plain_run" ["_law_state", "_law_made", "_law_there", "_law_floors", "_law_many"] (spS K preHist) := by
  refine cal_Lplain_run T fun f fd F => st_ok F sc_Lplain_run ?_ fun cdv A outer s H σ Q E B st c ns hB ds Res hr hp h k => ?_
  · rintro ds Res ⟨R, sd, Ts, m, _, _, _, _, rfl, rfl⟩
    rfl
  · obtain ⟨R, sd, Ts, m, rok, sok, tw, m16, rfl, rfl⟩ := hp
    refine ⟨_, (pss_cons (ps_par (i := 5) (j := 6) rfl sc_Lplain_run.nd rfl rfl (by decide) rfl rfl (pa_cons (pe_lst pa_nil) (pa_cons (pe_lst pa_nil) pa_nil)) (by rfl))
    (pss_cons (ps_set (i := 7) sc_Lplain_run.nd rfl (Or.inl rfl) (pe_tup (pa_cons pe_str (pa_cons pe_str (pa_cons pe_str (pa_cons pe_str (pa_cons pe_str (pa_cons pe_str (pa_cons pe_str (pa_cons pe_str (pa_cons pe_str (pa_cons pe_str (pa_cons pe_str pa_nil)))))))))))))
    (pss_cons (ps_set (i := 7) sc_Lplain_run.nd rfl (Or.inl rfl) (pe_ifExp (pt_cmpR op_eq (pe_cal (c_Ltake T) (hr.mono (by decide)) (by rfl) (pa_cons (pv 0) (pa_cons pe_int pa_nil))) pe_int (nomark _)) (pv 7) (pe_slice sl_tup (pv 7) po_none (po_some pe_int))))
    (pss_cons (ps_for PassesOwn.never rfl (pi_range1 (by rfl) T.f_range (pa_cons (pv 4) pa_nil)) (pg_name (i := 8) sc_Lplain_run.nd rfl (Or.inl rfl)) (pss_cons (ps_set (i := 9) sc_Lplain_run.nd rfl (Or.inl rfl) (pe_ifExp (pt_cmpR (op_neD hr.units) (pv 6) (pe_lst pa_nil) (nomark _)) (pe_ix ix_tup (pe_ix ix_list (pv 6) (pe_un un_neg pe_int) (fun _ _ => rfl)) pe_int (fun _ _ => rfl)) (pe_op op_repU (pe_tup (pa_cons pe_int pa_nil)) (pe_callB call_lenQ (by rfl) T.f_len PySem.boot_len (pa_cons (pv 3) pa_nil)))))
    (pss_cons (ps_expr (pe_bm PySem.F.plainAttrs_list PySem.F.slot_list_append PySem.F.type_list_append mt_append (pv 5) (pa_cons (pe_cal (c_Lplain_deed T) (hr.mono (by decide)) (by rfl) (pa_cons (pv 0) (pa_cons (pv 9) (pa_cons (pv 3) (pa_cons (pv 7) pa_nil))))) pa_nil)))
    (pss_one (ps_set (i := 6) sc_Lplain_run.nd rfl (Or.inl rfl) (pe_cal (c_played T) (hr.mono (by decide)) (by rfl) (pa_cons (pv 1) (pa_cons (pv 2) (pa_cons (pv 5) pa_nil)))))))))
    (pss_one (ps_ret (pe_tup (pa_cons (pv 5) (pa_cons (pv 6) pa_nil))))))))), ?_⟩
    have t1 := tw.lo
    have t3 := tw.hi
    let s0 := Sd.init Ts.length R.fs.length
    refine q_par0 (P := (· = .lst [])) h (fun p => xd_lst xa_nil (show (0 : Nat) ≤ 100000 by decide)) fun p d σ1 H1 e h => ?_
    subst e
    have h : Sg ((stM K B st c ns hB).bld p []) H [] [some (.raw st), some R.dt, some sd, some (.lst (Ts.map tbDt)), some (.int (m : Int)), some (.raw p), some (.lst []), none, none, none] σ1 H1 := h
    apply qd_asg (d := .tup (runWs.map .str)) h
    · exact xd_tup (ds := runWs.map .str) (xad_cons x_str (xad_cons x_str (xad_cons x_str (xad_cons x_str (xad_cons x_str (xad_cons x_str (xad_cons x_str (xad_cons x_str (xad_cons x_str (xad_cons x_str (xad_cons x_str xa_nil))))))))))) (show (11 : Nat) ≤ 100000 by decide)
    intro σ2 H2 h
    have h : Sg ((stM K B st c ns hB).bld p []) H [] [some (.raw st), some R.dt, some sd, some (.lst (Ts.map tbDt)), some (.int (m : Int)), some (.raw p), some (.lst []), some (.tup (runWs.map .str)), none, none] σ2 H2 := h
    refine q_asg (P := fun d => ∃ ws : List Str, 1 ≤ ws.length ∧ ws.length ≤ 20 ∧ (∀ x ∈ ws, x ∈ deedW) ∧ d = .tup (ws.map .str)) h ?_ fun d σ3 H3 ⟨ws, w1, w20, hw, e⟩ h => ?_
    · refine x_if (P := fun _ => True) (xT_test (xI_eq (Pa := fun _ => True) (Pb := fun _ => True) ((x_callS ((HasSt.stM hB).bld _ _) (P := (· = [.raw st, .int 2])) (xad_cons (x_var rfl) (xad_cons x_int xa_nil)) fun ds e => ⟨[.int 2], e, 2, by decide, by decide, rfl, rfl⟩).mono fun d ⟨k, e, _⟩ => ⟨_, e, trivial⟩) (xI_of x_int trivial))) (fun _ => ?_) fun _ => ?_
      · exact (x_var (d := .tup (runWs.map .str)) rfl).mono fun d e => ⟨runWs, by decide, by decide, by decide +kernel, e⟩
      · exact (x_slT (ds := runWs.map .str) (lo := none) (hi := some 10) (x_var rfl) xo_none (xo_some x_int) (fun z => absurd (show (10 : Nat) = 11 from z.2) (by decide))).mono fun d e => ⟨runWs.take 10, by decide, by decide, by decide +kernel, e⟩
    subst e
    have h : Sg ((stM K B st c ns hB).bld p []) H [] [some (.raw st), some R.dt, some sd, some (.lst (Ts.map tbDt)), some (.int (m : Int)), some (.raw p), some (.lst []), some (.tup (ws.map .str)), none, none] σ3 H3 := h
    have src : Xi ((stM K B st c ns hB).bld p []) [some (.raw st), some R.dt, some sd, some (.lst (Ts.map tbDt)), some (.int (m : Int)), some (.raw p), some (.lst []), some (.tup (ws.map .str)), none, none] (iRng1 (tCons (tVar 4) tNil)) ((List.range m).map fun (i : Nat) => Dt.int (i : Int)) := by
      have z := xi_rng1 (M := (stM K B st c ns hB).bld p []) (G := [some (.raw st), some R.dt, some sd, some (.lst (Ts.map tbDt)), some (.int (m : Int)), some (.raw p), some (.lst []), some (.tup (ws.map .str)), none, none]) (ta := tCons (tVar 4) tNil) (n := (m : Int)) (xad_cons (x_var rfl) xa_nil) (by omega) (by omega)
      rw [Int.toNat_natCast] at z
      exact z
    refine q_for (α := List Deed) (js := [8]) h src (fun a => (stM K B st c ns hB).bld p (a.map Deed.dt)) (fun a => [some (.raw st), some R.dt, some sd, some (.lst (Ts.map tbDt)), some (.int (m : Int)), some (.raw p), some (playedD R Ts a), some (.tup (ws.map .str)), none, none])
      (fun a d => [some (.raw st), some R.dt, some sd, some (.lst (Ts.map tbDt)), some (.int (m : Int)), some (.raw p), some (playedD R Ts a), some (.tup (ws.map .str)), some d, none]) (fun i a => a.length = i ∧ okAll R Ts s0 a) [] rfl rfl ⟨rfl, trivial⟩ (fun i d a _ _ => xg_name) (fun i d a L' σ' H' e ⟨al, oka⟩ h => ?_) fun a σ' H' ⟨al, oka⟩ h => ?_
    · have im : i < m := by
        have z := (List.getElem?_eq_some_iff.mp e).1
        rw [List.length_map, List.length_range] at z
        exact z
      have a16 : a.length ≤ 16 := by omega
      have fit : Fit (1 + a.length) R Ts (lastM R Ts s0 a) := by
        have z := fit_at rok a s0 1 a.length (fit_init rok tw) (Nat.le_refl 1) (by omega) oka (Nat.le_refl _)
        rw [List.take_length] at z
        exact z
      let sp := (lastM R Ts s0 a).spots
      have h : Sg ((stM K B st c ns hB).bld p (a.map Deed.dt)) H L' [some (.raw st), some R.dt, some sd, some (.lst (Ts.map tbDt)), some (.int (m : Int)), some (.raw p), some (.lst ((stM1 R Ts a).map Sd.told)), some (.tup (ws.map .str)), some d, none] σ' H' := by
        rw [← playedD_st]
        exact h
      apply qd_asg (d := intsD sp) h
      · refine x_if (P := fun b => b = !((stM1 R Ts a).map Sd.told).isEmpty) (xb_test (xl_neE (n := 3) (xl_of (x_var rfl)) fun x hx => ?_)) (fun ne => ?_) fun em => ?_
        · obtain ⟨s, _, rfl⟩ := List.mem_map.mp hx
          refine nice_tup fun y hy => ?_
          rcases List.mem_cons.mp hy with e | e
          · rw [e]
            exact nice_intsT
          · rw [List.mem_singleton.mp e]
            refine nice_tup fun z hz => ?_
            obtain ⟨l, _, rfl⟩ := List.mem_map.mp hz
            exact nice_intsT
        · have hne : a ≠ [] := fun z => by rw [z] at ne; cases ne
          have la : ((stM1 R Ts a).map Sd.told)[((stM1 R Ts a).map Sd.told).length - 1]? = some (lastM R Ts s0 a).told := by
            rw [List.length_map, st_len, List.getElem?_map]
            have z := run_last (R := R) (T := Ts) (s := s0) hne
            show Option.map _ (((runM R Ts s0 a).map fun p => p.1)[a.length - 1]?) = _
            rw [z]
            rfl
          exact xd_op (xd_op (x_var rfl) x_neg1 (rv_ixL (at_last la))) x_int (rv_ixT rfl)
        · have ha : a = [] := by
            cases a with
            | nil => rfl
            | cons x xs => cases em
          refine Xe.is (xd_op (xd_tup (ds := [.int 0]) (xad_cons x_int xa_nil) (show (1 : Nat) ≤ 100000 by decide)) (Xe.is (xd_cb (xad_cons (x_var rfl) xa_nil) rc_lenL) (by rw [List.length_map])) (rv_repU (n := (Ts.length : Int)) (by omega) (by omega) (by simp) (show (1 : Nat) ≤ 1000 by decide))) ?_
          rw [Int.toNat_natCast, flat_one]
          show Dt.tup _ = intsD (lastM R Ts s0 a).spots
          rw [ha]
          show _ = Dt.tup ((List.replicate Ts.length (0 : Int)).map .int)
          rw [List.map_replicate]
      intro σ4 H4 h
      have h : Sg ((stM K B st c ns hB).bld p (a.map Deed.dt)) H L' [some (.raw st), some R.dt, some sd, some (.lst (Ts.map tbDt)), some (.int (m : Int)), some (.raw p), some (.lst ((stM1 R Ts a).map Sd.told)), some (.tup (ws.map .str)), some d, some (intsD sp)] σ4 H4 := h
      refine q_app (P := fun d => ∃ x : Deed, okDeed Ts (lastM R Ts s0 a) x ∧ d = x.dt) h rfl (by rw [List.length_map]; omega) ?_ fun d2 H5 ⟨x, okx, e2⟩ h => ?_
      · exact x_callS ((HasSt.stM hB).bld _ _) (P := (· = [.raw st, intsD sp, .lst (Ts.map tbDt), .tup (ws.map .str)])) (xad_cons (x_var rfl) (xad_cons (x_var rfl) (xad_cons (x_var rfl) (xad_cons (x_var rfl) xa_nil)))) fun ds e => ⟨_, e, Ts, lastM R Ts s0 a, ws, tw, fit.w.sp, fit.w.sv, w1, w20, hw, rfl, rfl⟩
      subst e2
      have em : a.map Deed.dt ++ [x.dt] = (a ++ [x]).map Deed.dt := by rw [List.map_append]; rfl
      rw [em] at h
      have oka2 := okAll_app oka okx
      refine ed_asg (d := playedD R Ts (a ++ [x])) h (x_callP (pre := preRunS playedD) (a := R.dt) (b := sd) (xad_cons (x_var rfl) (xad_cons (x_var rfl) (xad_cons (x_var rfl) xa_nil))) (by exact ⟨R, sd, Ts, a ++ [x], rok, sok, tw, by rw [List.length_append, List.length_singleton]; omega, oka2, rfl, rfl⟩) (told_up (by simp))) fun σ6 H6 h => ?_
      exact ⟨a ++ [x], ⟨by rw [List.length_append, List.length_singleton, al], oka2⟩, h.weak (by repeat (first | exact GLe.nil | apply GLe.keep | apply GLe.drop))⟩
    · rw [List.length_map, List.length_range] at al
      have h := h.done (i := 5) rfl
      exact e_ret (P := (· = .tup [.lst (a.map Deed.dt), playedD R Ts a])) h (xd_tup2' (xad_cons (x_var rfl) (xad_cons (x_var rfl) xa_nil))) fun d v H'' e ok fr hv => k v d H'' fr ⟨a, al, oka, e⟩ hv
end
end Lf

namespace Lf
open PySem PySem.Spec PyProof.Rows L2
local macro_rules | `(tactic| walk_at "rv") => `(tactic| with_reducible first
  | exact rv_int | exact rv_cmp | exact rv_eqI | exact rv_neI | exact rv_eqS | exact rv_neS | exact rv_eqB | exact rv_neB)
local macro_rules | `(tactic| walk_at "xd") => `(tactic| first
  | (with_reducible first | exact x_int | exact x_str | exact x_bl | exact x_non | exact x_ty | exact x_ref)
  | ((with_reducible apply x_var); exact rfl)
  | ((with_reducible apply xd_op); (walk_at "xd"); (walk_at "xd"); (walk_at "rv"))
  | ((with_reducible apply xd_if); (walk_at "xb"); (intro _; walk_at "xd"); (intro _; walk_at "xd"))
  | ((with_reducible apply xd_tup); (walk_at "xa"); (first | decide | assumption | omega))
  | ((with_reducible apply xd_lst); (walk_at "xa"); (first | decide | assumption | omega)))
local macro_rules | `(tactic| walk_at "xb") => `(tactic| first
  | ((with_reducible apply xb_test); (walk_at "xd"))
  | ((with_reducible apply xb_B); (walk_at "xd"))
  | ((with_reducible apply xb_and); (walk_at "xb"); (intro _; walk_at "xb"))
  | ((with_reducible apply xb_or); (walk_at "xb"); (intro _; walk_at "xb"))
  | ((with_reducible apply xb_not); (walk_at "xb")))
local macro_rules | `(tactic| walk_at "xa") => `(tactic| first
  | (with_reducible exact xa_nil)
  | ((with_reducible apply xad_cons); (walk_at "xd"); (walk_at "xa")))

/-- what the law's slots hold: the state, the turn's number, the rest -/
abbrev lawG (st : Addr) (t : Option Dt) (l : List Dt) : List (Option Dt) := none :: some (.raw st) :: t :: (l.map some ++ List.replicate (19 - l.length) none)
section
variable {K : PySem.W.Frag} {M : Mode K} {G : List (Option Dt)}
theorem law_weak {H0 H : Hp} {L : List (Dt × V)} {σ : L2.St} {st : Addr} {t : Option Dt} {l : List Dt} (h : Sg M H0 L (lawG st t l) σ H) (hl : l.length ≤ 19) : Sg M H0 L (lawG st none []) σ H := by
  refine ⟨h.ok, h.fr, h.gh, ?_, fun i d e => ?_⟩
  · rw [h.env.1]
    simp only [List.length_cons, List.length_append, List.length_map, List.length_replicate, List.length_nil]
    omega
  · match i, e with
    | 0, e => cases e
    | 1, e => exact h.env.2 1 d e
    | 2, e => cases e
    | i + 3, e =>
      have e' : (List.replicate 19 (none : Option Dt))[i]? = some (some d) := e
      rw [List.getElem?_replicate] at e'
      split at e' <;> cases e'
theorem env_none {B : Addr → Prop} {H : Hp} {n : Nat} {σ : L2.St} (h : σ.length = n) : Env K B H (List.replicate n none) σ := ⟨by rw [h, List.length_replicate], fun i d e => by
  rw [List.getElem?_replicate] at e
  split at e <;> cases e⟩
/-- a def that draws, of arguments that are drawn -/
theorem x_callSG {pre : List Dt → (Dt → Prop) → Prop} {ta : TA} {st c : Addr} {ns : List Int} {P : List Dt → Prop} {R' : Dt → Prop} (hs : HasSt M st c ns) (ha : Xa M G ta P) (hp : ∀ ds, P ds → ∃ es R, ds = .raw st :: es ∧ pre es R ∧ ∀ d, R d → R' d) : Xe M G (tCall (spS K pre) [] E0 ta) R' := fun σ H Q ok e k =>
  ha σ H _ ok e fun vs ds H1 r1 pds hv => by
    obtain ⟨es, R, ee, h1, hR⟩ := hp ds pds
    subst ee
    obtain ⟨v, r, ev, hv1, hv2⟩ := hv
    have o1 := M.stab ok r1
    refine ⟨M.B, st, c, ns, r, es, R, by rw [ev, List.append_nil, show v = V.ref st from hv1], hs.mem, fun a b => M.trk o1 b, hs.ok o1, hv2, h1, fun w d H2 s2 pd' hw => ?_⟩
    exact k w d H2 (M.trans r1 (hs.of o1 s2)) (hR d pd') hw
end
theorem room65 {k : Nat} {A : Around} (r : Room k A) : A.units + 65 < cLine := by
  have := r.un
  omega
/-- the first statement: a fresh state -/
theorem q_fresh {K : PySem.W.Frag} {H : Hp} {σ : L2.St} {n b c' : L2.St → Hp → Prop} {r : VK} {u : TS} {a : Addr} {ns : List Int} {i j : Nat} (hi : σ[i]? = some (some (V.ref a))) (hS : SqL K H a (ns.map V.int))
    (k : ∀ c st H', StOk st c (ns.take 63) H' → u ⟨n, r, b, c'⟩ (σ.set j (some (.ref st))) H') : tSeq (tAsg (tCall (spFr K) [] E0 (tCons (tVar i) tNil)) (gName j)) u ⟨n, r, b, c'⟩ σ H :=
  ⟨_, hi, a, ns, rfl, hS, fun c st H' _ _ _ sok => k c st H' sok⟩
/-- a drawn order of numbers -/
theorem perm_nats {r : List Int} {l : List Nat} (h : r.Perm (l.map fun (n : Nat) => (n : Int))) : ∃ ps : List Nat, ps.Perm l ∧ r = ps.map fun (n : Nat) => (n : Int) := by
  refine ⟨r.map Int.toNat, ?_, ?_⟩
  · have z := h.map Int.toNat
    rw [List.map_map] at z
    have e : l.map (Int.toNat ∘ fun (n : Nat) => (n : Int)) = l := by
      refine (List.map_congr_left fun n _ => ?_).trans (List.map_id' l)
      exact Int.toNat_natCast n
    rw [e] at z
    exact z
  · rw [List.map_map]
    refine ((List.map_congr_left fun i hi => ?_).trans (List.map_id' r)).symm
    obtain ⟨n, _, e⟩ := List.mem_map.mp (h.mem_iff.mp hi)
    show ((i.toNat : Nat) : Int) = i
    rw [← e, Int.toNat_natCast]
section
variable {P : Program} {w : World} {K : PySem.W.Frag} {mg : Str → Option Value} {base : Heap}
def spLaw (K : PySem.W.Frag) : Sp := fun vs H Q _ => ∃ (a : Addr) (ns : List Int), vs = [.ref a] ∧ SqL K H a (ns.map V.int) ∧ ∀ H', Q (.bl true) H'
def lawWays : List Str := ["stay", "field", "greater", "field"]
theorem lawWays_in : ∀ x ∈ lawWays, x ∈ waysL := by decide +kernel
def intsL (l : List Int) : Dt := .lst (l.map .int)
theorem ok_law (T : Txt w K mg) {f : Addr} {fd : FuncData} (F : FunD K "law" "law" (defArgs s_law) (defBody s_law) (defScope s_law) [] [] f fd) : FnOk P w K mg base CX0 9 f fd ["_law_script"] (spLaw K) := by
  refine F.ok sc_law (fun vs H Q E h => ?_) fun cdv A outer s0 H0 vs Q E hr h => ?_
  · obtain ⟨a, ns, rfl, _⟩ := h
    rfl
  · obtain ⟨a, ns, rfl, hS, k⟩ := h
    refine ⟨_, ((pss_cons (ps_set (i := 1) sc_law.nd rfl (Or.inr rfl) (pe_cal (c_Lfresh T) (hr.mono (by decide)) (by rfl) (pa_cons (pv 0) pa_nil)))
    (pss_cons (ps_for PassesOwn.never rfl (pi_range1 (by rfl) T.f_range (pa_cons pe_int pa_nil)) (pg_name (i := 2) sc_law.nd rfl (Or.inl rfl)) (pss_cons (ps_set (i := 3) sc_law.nd rfl (Or.inl rfl) (pe_cal (c_Lsome_words T) (hr.mono (by decide)) (by rfl) (pa_cons (pv 1) (pa_cons (pe_op op_add pe_int (pe_cal (c_Ltake T) (hr.mono (by decide)) (by rfl) (pa_cons (pv 1) (pa_cons pe_int pa_nil)))) pa_nil))))
    (pss_cons (ps_setLc (i := 4) (own := [("_law_called", 17)]) rfl sc_law.nd rfl rfl (sw_true rfl rfl rfl (by decide +kernel)) (pi_list (pv 3)) (blkOk_by (by kernel_rfl)) (fun _ _ _ _ _ => (pg_name (i := 17) sc_law.nd rfl (Or.inl rfl))) (fun _ _ _ _ _ => pts_nil) (fun _ _ _ _ _ => (pe_cal (c_Lfield T) (hr.mono (by decide)) (by rfl) (pa_cons (pv 1) (pa_cons (pv 17) pa_nil)))))
    (pss_cons (ps_set (i := 5) sc_law.nd rfl (Or.inr rfl) (pe_cal (c_Ltake T) (hr.mono (by decide)) (by rfl) (pa_cons (pv 1) (pa_cons (pe_callB call_lenQ (by rfl) T.f_len PySem.boot_len (pa_cons (pv 4) pa_nil)) pa_nil))))
    (pss_cons (ps_set (i := 6) sc_law.nd rfl (Or.inr rfl) (pe_mak (m_Rule T) (hr.mono (by decide)) (by rfl) (pa_cons (pv 4) (pa_cons (pe_tup (pa_cons (pe_cal (c_Lone T) (hr.mono (by decide)) (by rfl) (pa_cons (pv 1) (pa_cons (pe_tup (pa_cons pe_str (pa_cons pe_str (pa_cons pe_str (pa_cons pe_str pa_nil))))) pa_nil))) (pa_cons (pe_ix ix_list (pv 3) (pv 5) (fun _ _ => rfl)) pa_nil))) pa_nil))))
    (pss_cons (ps_asg (pe_cal (c_Lsetting T) (hr.mono (by decide)) (by rfl) (pa_cons (pv 1) (pa_cons (pe_op op_add pe_int (pe_cal (c_Ltake T) (hr.mono (by decide)) (by rfl) (pa_cons (pv 1) (pa_cons pe_int pa_nil)))) pa_nil))) (pg_tup rfl (pgs_cons (pg_name (i := 7) sc_law.nd rfl (Or.inr rfl)) (pgs_cons (pg_name (i := 8) sc_law.nd rfl (Or.inl rfl)) pgs_nil))))
    (pss_cons (ps_asg (pe_cal (c_Lplain_run T) (hr.mono (by decide)) (by rfl) (pa_cons (pv 1) (pa_cons (pv 6) (pa_cons (pv 7) (pa_cons (pv 8) (pa_cons (pe_cal (c_Ltake T) (hr.mono (by decide)) (by rfl) (pa_cons (pv 1) (pa_cons pe_int pa_nil))) pa_nil)))))) (pg_tup rfl (pgs_cons (pg_name (i := 9) sc_law.nd rfl (Or.inr rfl)) (pgs_cons (pg_name (i := 10) sc_law.nd rfl (Or.inr rfl)) pgs_nil))))
    (pss_cons (ps_asg (pe_tup (pa_cons (pe_cal (c_faults T) (hr.mono (by decide)) (by rfl) (pa_cons (pv 6) (pa_cons (pv 7) (pa_cons (pv 9) pa_nil)))) (pa_cons (pe_lc (own := [("_law_n", 18)]) rfl sc_law.nd (pi_range1 (by rfl) T.f_range (pa_cons (pe_callB call_lenQ (by rfl) T.f_len PySem.boot_len (pa_cons (pv 4) pa_nil)) pa_nil)) (blkOk_by (by kernel_rfl)) (fun _ _ _ _ _ => (pg_name (i := 18) sc_law.nd rfl (Or.inl rfl))) (fun _ _ _ _ _ => (pts_one (pt_cmpR op_ne (pv 18) (pv 5) (nomark _)))) (fun _ _ _ _ _ => (pv 18))) pa_nil))) (pg_tup rfl (pgs_cons (pg_name (i := 11) sc_law.nd rfl (Or.inr rfl)) (pgs_cons (pg_name (i := 12) sc_law.nd rfl (Or.inl rfl)) pgs_nil))))
    (pss_cons (ps_setLc (i := 13) (own := [("_law_k", 19), ("_law_word", 20)]) rfl sc_law.nd rfl rfl (sw_true rfl rfl rfl (by decide +kernel)) (pi_list (pv 11)) (blkOk_by (by kernel_rfl)) (fun _ _ _ _ _ => (pgb_tup K 2 rfl (pgs_cons (pg_name (i := 19) sc_law.nd rfl (Or.inl rfl)) (pgs_cons (pg_name (i := 20) sc_law.nd rfl (Or.inl rfl)) pgs_nil)))) (fun _ _ _ _ _ => (pts_one (pt_cmpR op_eq (pv 20) pe_str (nomark _)))) (fun _ _ _ _ _ => (pv 19)))
    (pss_cons (ps_set (i := 14) sc_law.nd rfl (Or.inr rfl) (pe_cal (c_Lless_right T) (hr.mono (by decide)) (by rfl) (pa_cons (pv 6) (pa_cons (pv 7) (pa_cons (pv 9) (pa_cons (pv 10) (pa_cons (pv 11) (pa_cons (pe_lst (pa_cons (pv 5) pa_nil)) pa_nil))))))))
    (pss_cons (ps_set (i := 15) sc_law.nd rfl (Or.inr rfl) (pe_lc (own := [("_law_n", 18)]) rfl sc_law.nd (pi_list (pv 12)) (blkOk_by (by kernel_rfl)) (fun _ _ _ _ _ => (pg_name (i := 18) sc_law.nd rfl (Or.inl rfl))) (fun _ _ _ _ _ => pts_nil) (fun _ _ _ _ _ => (pe_cal (c_Lless_right T) (hr.mono (by decide)) (by rfl) (pa_cons (pv 6) (pa_cons (pv 7) (pa_cons (pv 9) (pa_cons (pv 10) (pa_cons (pv 11) (pa_cons (pe_cal (c_Lmix T) (hr.mono (by decide)) (by rfl) (pa_cons (pv 1) (pa_cons (pe_lst (pa_cons (pv 5) (pa_cons (pv 18) pa_nil))) pa_nil))) pa_nil))))))))))
    (pss_cons (ps_if (PW.pt (pw_or (pt_cmpR op_isN (pv 14) pe_non (nomark _)) (pw_or (pt_cmpR (op_inD (room65 hr)) pe_non (pv 15) rfl) (pw_or1 (pt_cmpR (op_neD hr.units) (pe_lc (own := [("_law_k", 19)]) rfl sc_law.nd (pi_list (pv 13)) (blkOk_by (by kernel_rfl)) (fun _ _ _ _ _ => (pg_name (i := 19) sc_law.nd rfl (Or.inl rfl))) (fun _ _ _ _ _ => (pts_one (pt_cmpR (op_notIn_seqK K) (pv 19) (pv 14) rfl))) (fun _ _ _ _ _ => (pv 19))) (pe_lst pa_nil) (nomark _)))))) (pss_one (ps_ret pe_bl)) pss_nil)
    (pss_cons (ps_if (pt_cmpR (op_neD hr.units) (pv 13) (pe_lc (own := [("_law_k", 19)]) rfl sc_law.nd (pi_list (pv 14)) (blkOk_by (by kernel_rfl)) (fun _ _ _ _ _ => (pg_name (i := 19) sc_law.nd rfl (Or.inr rfl))) (fun _ _ _ _ _ => (pts_one (pt_val (pe_callB (cr_allK K rfl) (by rfl) T.f_all (by decide +kernel) (pa_cons (pe_lc (own := [("_law_some", 21)]) rfl sc_law.nd (pi_listK K (pv 15)) (blkOk_by (by kernel_rfl)) (fun _ _ _ _ _ => (pg_name (i := 21) sc_law.nd rfl (Or.inl rfl))) (fun _ _ _ _ _ => pts_nil) (fun _ _ _ _ _ => (pe_cmpR (op_in_seqK K) (pv 19) (pv 21) rfl))) pa_nil))))) (fun _ _ _ _ _ => (pv 19))) (nomark _)) (pss_one (ps_ret pe_bl)) pss_nil)
    (pss_cons (ps_if (pt_cmpR (op_neD hr.units) (pe_cal (c_Lless_right T) (hr.mono (by decide)) (by rfl) (pa_cons (pv 6) (pa_cons (pv 7) (pa_cons (pv 9) (pa_cons (pv 10) (pa_cons (pv 11) (pa_cons (pe_cal (c_Lmix T) (hr.mono (by decide)) (by rfl) (pa_cons (pv 1) (pa_cons (pe_listRg rfl (by rfl) T.f_list (prg_1 (by rfl) T.f_range (pe_callB call_lenQ (by rfl) T.f_len PySem.boot_len (pa_cons (pv 4) pa_nil)))) pa_nil))) pa_nil))))))) (pv 13) (nomark _)) (pss_one (ps_ret pe_bl)) pss_nil)
    (pss_cons (ps_set (i := 16) sc_law.nd rfl (Or.inl rfl) (pe_cal (c_Lrenamed T) (hr.mono (by decide)) (by rfl) (pa_cons (pv 4) (pa_cons (pe_met0 (t_Rule_show T) (hr.mono (by decide)) (pv 6)) pa_nil))))
    (pss_one (ps_if (PW.pt (pw_or (pt_not (pt_val (pe_cal (c_Lsame T 5) (hr.mono (by decide)) (by rfl) (pa_cons (pe_cal (c_played T) (hr.mono (by decide)) (by rfl) (pa_cons (pv 16) (pa_cons (pv 7) (pa_cons (pv 9) pa_nil)))) (pa_cons (pv 10) pa_nil))))) (pw_or1 (pt_cmpR (op_neD hr.units) (pe_cal (c_faults T) (hr.mono (by decide)) (by rfl) (pa_cons (pv 16) (pa_cons (pv 7) (pa_cons (pv 9) pa_nil)))) (pv 11) (nomark _))))) (pss_one (ps_ret pe_bl)) pss_nil)))))))))))))))))
    (pss_one (ps_ret pe_bl))))).nox, ?_⟩
    refine q_fresh (a := a) rfl hS fun c st H sok => ?_
    have hB : (fun x : Addr => x = st) st := rfl
    have trk : ∀ x : Addr, x = st → H x ≠ none := fun x e => by
      obtain ⟨_, _, n, m, b, h3⟩ := sok
      rw [e, h3]
      exact fun z => nomatch z
    have h : Sg (stM K (fun x => x = st) st c (ns.take 63) hB) H [] (lawG st none []) ((start N_law [.ref a]).set 1 (some (.ref st))) H := by
      refine ⟨⟨trk, sok⟩, ⟨sok, Ks.refl H⟩, (fun g z => by cases z), ?_⟩
      have e0 : Env K (fun x => x = st) H (List.replicate 22 none) (start N_law [.ref a]) := env_none rfl
      exact e0.set (i := 1) (d := .raw st) (v := .ref st) rfl
    generalize (start N_law [.ref a]).set 1 (some (.ref st)) = σ at h
    let M0 := stM K (fun x => x = st) st c (ns.take 63) hB
    have HS : HasSt M0 st c (ns.take 63) := HasSt.stM (B := fun x => x = st) hB
    have draw : ∀ {M : Mode K} {G : List (Option Dt)} {te : TE} {m : Nat}, HasSt M st c (ns.take 63) → G[1]? = some (some (.raw st)) → 1 ≤ m → m ≤ 100000 → Xd M G te (.int (m : Int)) → Xe M G (tCall (spS K preTake) [] E0 (tCons (tVar 1) (tCons te tNil))) fun d => ∃ k : Nat, d = .int (k : Int) ∧ k < m := fun {M G te m} hM hG h1 h2 ht =>
      x_callS hM (P := (· = [.raw st, .int (m : Int)])) (xad_cons (x_var hG) (xad_cons ht xa_nil)) fun ds e => ⟨_, e, m, h1, h2, rfl, rfl⟩
    refine q_forR (k := 4) (fun _ => M0) (fun _ => lawG st none []) h (xad_cons x_int xa_nil) (by decide) (fun i L' σ1 H1 hi h => ?_) fun σ1 H1 h => ?_
    · have h : Sg M0 H L' (lawG st (some (.int (i : Int))) []) σ1 H1 := h
      generalize (Dt.int (i : Int)) = tn at h
      -- the names
      refine q_asg (P := fun d => ∃ ws : List Str, d = .lst (ws.map .str) ∧ (2 ≤ ws.length ∧ ws.length ≤ 3) ∧ ws.Nodup ∧ ∀ x ∈ ws, x ∈ allW) h ?_ fun d σ2 H2 ⟨ws, e, wl, wnd, wok⟩ h => ?_
      · refine x_callSG HS (P := fun ds => ∃ m : Nat, ds = [.raw st, .int (m : Int)] ∧ 2 ≤ m ∧ m ≤ 3) (xa_cons (P := (· = .raw st)) (R := fun ds => ∃ m : Nat, ds = [.int (m : Int)] ∧ 2 ≤ m ∧ m ≤ 3) (x_var rfl) (xa_cons (P := fun d => ∃ i : Int, d = .int i ∧ 2 ≤ i ∧ i ≤ 3) (R := (· = [])) ?_ xa_nil fun d ds ⟨z, e, h2, h3⟩ er => ⟨z.toNat, by rw [e, er, Int.toNat_of_nonneg (by omega)], by omega, by omega⟩) fun d ds e ⟨m, er, h⟩ => ⟨m, by rw [e, er], h⟩) fun ds ⟨m, e, h2, h3⟩ => ⟨_, _, e, ⟨m, by omega, rfl, rfl⟩, fun d ⟨ws, e, l, nd, al⟩ => ⟨ws, e, by omega, nd, al⟩⟩
        exact xI_op0 (Pa := fun z => z = 2) (Pb := fun z => 0 ≤ z ∧ z < 2) (xI_of x_int rfl) ((draw HS rfl (m := 2) (by decide) (by decide) x_int).mono fun d ⟨k, e, hk⟩ => ⟨_, e, by omega, by omega⟩) fun a b ea hb => by subst ea; constructor <;> omega
      subst e
      have h : Sg M0 H L' (lawG st (some tn) [.lst (ws.map .str)]) σ2 H2 := h
      have wW : ∀ x ∈ ws, isW x := fun x hx => allW_ok x (wok x hx)
      -- the rows
      refine q_asg (P := fun d => ∃ fs : List Fd, d = .lst (fs.map Fd.dt) ∧ fs.map Fd.nm = ws ∧ ∀ f ∈ fs, FdOk f) h ?_ fun d σ3 H3 ⟨fs, e, fnm, fok⟩ h => ?_
      · refine x_lc (ds := ws.map .str) (G' := fun d => (wipeG (lawG st (some tn) [.lst (ws.map .str)]) [17]).set 17 (some d)) (js := [17]) (P := fun i acc => ∃ fs : List Fd, fs.map Fd.nm = ws.take i ∧ (∀ f ∈ fs, FdOk f) ∧ acc = fs.map Fd.dt) (Pt := fun _ _ b => b = true) (xi_list (x_var rfl)).j ⟨[], rfl, fun f z => (by cases z), rfl⟩ (fun i d _ p acc => xg_name) (fun j hj => hj) (fun i d p acc _ _ σ H Q ok e q => q true H (Mode.refl _ H) rfl) (fun i d p acc e hp _ => ?_) (fun i d acc _ _ z => by cases z) (fun acc ⟨fs, e1, e2, e3⟩ => ⟨fs, by rw [e3], ?_, e2⟩) (by rw [List.length_map]; omega)
        · obtain ⟨x, ex, rfl⟩ := map_got e
          obtain ⟨fs, e1, e2, e3⟩ := hp
          refine (x_callS (HS.bld _ _) (pre := preField) (P := (· = [.raw st, .str x])) (R := fun d => ∃ f : Fd, FdOk f ∧ f.nm = x ∧ d = f.dt) (xad_cons (x_var rfl) (xad_cons (x_var rfl) xa_nil)) fun ds e => ⟨_, e, x, wW x (List.mem_of_getElem? ex), rfl, rfl⟩).mono fun d ⟨g, g1, g2, g3⟩ => ⟨fs ++ [g], ?_, fun y hy => ?_, by rw [e3, g3, List.map_append]; rfl⟩
          · rw [take_succ' ex, List.map_append, e1, ← g2]
            rfl
          · rcases List.mem_append.mp hy with z | z
            · exact e2 y z
            · rw [List.mem_singleton.mp z]
              exact g1
        · rw [e1, List.length_map, List.take_length]
      subst e
      subst fnm
      rw [List.length_map] at wl
      have h : Sg M0 H L' (lawG st (some tn) [.lst ((fs.map Fd.nm).map .str), .lst (fs.map Fd.dt)]) σ3 H3 := h
      have xlen : ∀ {M : Mode K} {G : List (Option Dt)}, G[4]? = some (some (.lst (fs.map Fd.dt))) → Xd M G (tCB (rLenQ K) (tCons (tVar 4) tNil)) (.int (fs.length : Nat)) := fun {M G} e => Xe.is (xd_cb (xad_cons (x_var e) xa_nil) rc_lenL) (by rw [List.length_map])
      -- the shown one's number
      refine q_asg h (draw HS rfl (m := fs.length) (by omega) (by omega) (xlen rfl)) fun d σ4 H4 ⟨at_, e, hat⟩ h => ?_
      subst e
      have h : Sg M0 H L' (lawG st (some tn) [.lst ((fs.map Fd.nm).map .str), .lst (fs.map Fd.dt), .int (at_ : Int)]) σ4 H4 := h
      obtain ⟨sh, hsh⟩ : ∃ sh, (fs.map Fd.nm)[at_]? = some sh := ⟨_, List.getElem?_eq_getElem (by rw [List.length_map]; exact hat)⟩
      -- the rule
      refine q_asg (P := fun d => ∃ way : Str, way ∈ waysL ∧ d = Rl.dt ⟨fs, way, sh⟩) h ?_ fun d σ5 H5 ⟨way, hway, e⟩ h => ?_
      · refine x_make (P := fun ds => ∃ way : Str, way ∈ waysL ∧ ds = [.lst (fs.map Fd.dt), .tup [.str way, .str sh]]) (xa_cons (P := (· = .lst (fs.map Fd.dt))) (R := fun ds => ∃ way : Str, way ∈ waysL ∧ ds = [.tup [.str way, .str sh]]) (x_var rfl) (xa_cons (P := fun d => ∃ way : Str, way ∈ waysL ∧ d = .tup [.str way, .str sh]) ?_ xa_nil fun d ds ⟨y, h1, e⟩ er => ⟨y, h1, by rw [e, er]⟩) fun d ds e ⟨y, h1, er⟩ => ⟨y, h1, by rw [e, er]⟩) fun ds ⟨y, h1, e⟩ => ⟨_, _, ⟨⟨fs, y, sh⟩, ⟨⟨by show 1 ≤ fs.length; omega, by show fs.length ≤ 3; omega, wnd, fok⟩, h1, List.mem_of_getElem? hsh⟩, e, rfl, rfl⟩, y, h1, rfl⟩
        refine x_tup (P := fun ds => ∃ way : Str, way ∈ waysL ∧ ds = [.str way, .str sh]) (xa_cons (P := fun d => d ∈ lawWays.map Dt.str) (R := (· = [.str sh])) ?_ (xad_cons (xd_op (x_var rfl) (x_var rfl) (rv_ixL (atN (by rw [List.getElem?_map, hsh]; rfl)))) xa_nil) fun d ds hd er => ?_) (fun ds ⟨y, _, e⟩ => by rw [e]; show (2 : Nat) ≤ 100000; decide) fun ds ⟨y, h1, e⟩ => ⟨y, h1, by rw [e]⟩
        · exact x_callS HS (pre := preOneOf) (P := (· = [.raw st, .tup (lawWays.map .str)])) (R := fun e => e ∈ lawWays.map Dt.str) (xad_cons (x_var rfl) (xad_cons (xd_tup (ds := lawWays.map .str) (xad_cons x_str (xad_cons x_str (xad_cons x_str (xad_cons x_str xa_nil)))) (show (4 : Nat) ≤ 100000 by decide)) xa_nil)) fun ds e => ⟨_, e, _, _, .inr rfl, by decide, by decide, rfl, rfl⟩
        · obtain ⟨y, hy, e⟩ := List.mem_map.mp hd
          exact ⟨y, lawWays_in y hy, by rw [er, ← e]⟩
      subst e
      obtain ⟨R, eR⟩ : ∃ R : Rl, R = ⟨fs, way, sh⟩ := ⟨_, rfl⟩
      have rok : RlOk R := by
        rw [eR]
        exact ⟨⟨by show 1 ≤ fs.length; omega, by show fs.length ≤ 3; omega, wnd, fok⟩, hway, List.mem_of_getElem? hsh⟩
      have eat : R.at = at_ := by
        rw [eR]
        exact find_at wnd hsh
      have efs : fs = R.fs := by rw [eR]
      rw [← eR] at h
      subst eat
      subst efs
      have f2 := wl.1
      have f3 := wl.2
      have alt := rok.at_lt
      have h : Sg M0 H L' (lawG st (some tn) [.lst ((R.fs.map Fd.nm).map .str), .lst (R.fs.map Fd.dt), .int (R.at : Int), R.dt]) σ5 H5 := h
      generalize (Dt.lst ((R.fs.map Fd.nm).map .str)) = nmD at h
      -- the setting
      refine q_asgG (P := fun d => ∃ sd Ts, Setd sd Ts ∧ d = .tup [sd, .lst (Ts.map tbDt)]) (js := [7, 8]) (G' := fun d => G2 (lawG st (some tn) [nmD, .lst (R.fs.map Fd.dt), .int (R.at : Int), R.dt]) 7 8 d) h ?_ (fun d ⟨sd, Ts, _, e⟩ => by rw [e]; exact xg_two) fun d σ6 H6 ⟨sd, Ts, sok2, e⟩ h => ?_
      · refine x_callSG HS (P := fun ds => ∃ m : Nat, ds = [.raw st, .int (m : Int)] ∧ 1 ≤ m ∧ m ≤ 3) (xa_cons (P := (· = .raw st)) (R := fun ds => ∃ m : Nat, ds = [.int (m : Int)] ∧ 1 ≤ m ∧ m ≤ 3) (x_var rfl) (xa_cons (P := fun d => ∃ i : Int, d = .int i ∧ 1 ≤ i ∧ i ≤ 3) (R := (· = [])) ?_ xa_nil fun d ds ⟨z, e, h2, h3⟩ er => ⟨z.toNat, by rw [e, er, Int.toNat_of_nonneg (by omega)], by omega, by omega⟩) fun d ds e ⟨m, er, h⟩ => ⟨m, by rw [e, er], h⟩) fun ds ⟨m, e, h2, h3⟩ => ⟨_, _, e, ⟨m, h2, h3, rfl, rfl⟩, fun d q => q⟩
        exact xI_op0 (Pa := fun z => z = 1) (Pb := fun z => 0 ≤ z ∧ z < 3) (xI_of x_int rfl) ((draw HS rfl (m := 3) (by decide) (by decide) x_int).mono fun d ⟨k, e, hk⟩ => ⟨_, e, by omega, by omega⟩) fun a b ea hb => by subst ea; constructor <;> omega
      subst e
      have tw := twf_of sok2
      have t3 := tw.hi
      have h : Sg M0 H L' (lawG st (some tn) [nmD, .lst (R.fs.map Fd.dt), .int (R.at : Int), R.dt, sd, .lst (Ts.map tbDt)]) σ6 H6 := h
      -- the history
      refine q_asgG (P := fun d => ∃ xs : List Deed, xs.length ≤ 16 ∧ okAll R Ts (Sd.init Ts.length R.fs.length) xs ∧ d = .tup [.lst (xs.map Deed.dt), playedD R Ts xs]) (js := [9, 10]) (G' := fun d => G2 (lawG st (some tn) [nmD, .lst (R.fs.map Fd.dt), .int (R.at : Int), R.dt, sd, .lst (Ts.map tbDt)]) 9 10 d) h ?_ (fun d ⟨xs, _, _, e⟩ => by rw [e]; exact xg_two) fun d σ7 H7 ⟨xs, x16, okx, e⟩ h => ?_
      · exact x_callSG HS (P := fun ds => ∃ m : Nat, ds = [.raw st, R.dt, sd, .lst (Ts.map tbDt), .int (m : Int)] ∧ m < 17) (xa_cons (P := (· = .raw st)) (R := fun ds => ∃ m : Nat, ds = [R.dt, sd, .lst (Ts.map tbDt), .int (m : Int)] ∧ m < 17) (x_var rfl) (xa_cons (P := (· = R.dt)) (R := fun ds => ∃ m : Nat, ds = [sd, .lst (Ts.map tbDt), .int (m : Int)] ∧ m < 17) (x_var rfl) (xa_cons (P := (· = sd)) (R := fun ds => ∃ m : Nat, ds = [.lst (Ts.map tbDt), .int (m : Int)] ∧ m < 17) (x_var rfl) (xa_cons (P := (· = .lst (Ts.map tbDt))) (R := fun ds => ∃ m : Nat, ds = [.int (m : Int)] ∧ m < 17) (x_var rfl) (xa_cons (draw HS rfl (m := 17) (by decide) (by decide) x_int) xa_nil
          fun d ds ⟨m, e, h⟩ er => ⟨m, by rw [e, er], h⟩) fun d ds e ⟨m, er, h⟩ => ⟨m, by rw [e, er], h⟩) fun d ds e ⟨m, er, h⟩ => ⟨m, by rw [e, er], h⟩) fun d ds e ⟨m, er, h⟩ => ⟨m, by rw [e, er], h⟩) fun d ds e ⟨m, er, h⟩ => ⟨m, by rw [e, er], h⟩)
          fun ds ⟨m, e, hm⟩ => ⟨_, _, e, ⟨R, sd, Ts, m, rok, sok2, tw, by omega, rfl, rfl⟩, fun d ⟨xs, xl, okx, e⟩ => ⟨xs, by omega, okx, e⟩⟩
      subst e
      have h : Sg M0 H L' (lawG st (some tn) [nmD, .lst (R.fs.map Fd.dt), .int (R.at : Int), R.dt, sd, .lst (Ts.map tbDt), .lst (xs.map Deed.dt), playedD R Ts xs]) σ7 H7 := h
      -- the faults, the others
      let others : List Nat := (List.range R.fs.length).filter fun n => !decide (n = R.at)
      have oth : ∀ n, n ∈ others ↔ n < R.fs.length ∧ n ≠ R.at := fun n => by
        rw [List.mem_filter, List.mem_range]
        simp
      have olen : others.length ≤ 3 := Nat.le_trans (List.length_filter_le _ _) (by rw [List.length_range]; exact f3)
      refine q_asgG (P := (· = .tup [faultsD R Ts xs, natsD others])) (js := [11, 12]) (G' := fun d => G2 (lawG st (some tn) [nmD, .lst (R.fs.map Fd.dt), .int (R.at : Int), R.dt, sd, .lst (Ts.map tbDt), .lst (xs.map Deed.dt), playedD R Ts xs]) 11 12 d) h (xd_tup2' (xad_cons ?_ (xad_cons ?_ xa_nil))) (fun d e => by rw [e]; exact xg_two) fun d σ8 H8 e h => ?_
      · exact x_call (xad_cons (x_var rfl) (xad_cons (x_var rfl) (xad_cons (x_var rfl) xa_nil))) (by exact ⟨R, sd, Ts, xs, rok, sok2, tw, by omega, okx, rfl, rfl⟩)
      · refine Xe.is (x_lcNIf (ds := (List.range ((R.fs.length : Nat) : Int).toNat).map fun (i : Nat) => Dt.int (i : Int)) (fun d => d) (fun d => match d with | .int v => !decide (v = (R.at : Int)) | _ => false) (xi_rng1 (xad_cons (xlen rfl) xa_nil) (by omega) (by omega)).j (fun i d p acc e => ?_) (fun i d p acc e _ => x_var rfl) (hz := by rw [List.length_map, List.length_range, Int.toNat_natCast]; omega)) ?_
        · obtain ⟨n, en, rfl⟩ := map_got e
          exact xb_test (xd_op (x_var rfl) (x_var rfl) rv_neI)
        · rw [List.map_id', List.filter_map, Int.toNat_natCast]
          show Dt.lst _ = Dt.lst (others.map _)
          congr 2
          refine List.filter_congr fun n _ => ?_
          show (!decide ((n : Int) = (R.at : Int))) = !decide (n = R.at)
          congr 1
          exact decide_eq_decide.mpr ⟨fun z => by omega, fun z => by rw [z]⟩
      subst e
      have h : Sg M0 H L' (lawG st (some tn) [nmD, .lst (R.fs.map Fd.dt), .int (R.at : Int), R.dt, sd, .lst (Ts.map tbDt), .lst (xs.map Deed.dt), playedD R Ts xs, faultsD R Ts xs, natsD others]) σ8 H8 := h
      have l1 : (faL R Ts xs).length ≤ 400 := Nat.le_trans faL_len (by omega)
      have lo1 : (lost0 R Ts xs).length ≤ 16 := Nat.le_trans lost0_len x16
      have lo2 : ∀ ps, (lostP R Ts xs ps).length ≤ 16 := fun ps => Nat.le_trans lostP_len x16
      -- the lost ones
      apply qd_asg (d := intsL (lost0 R Ts xs)) h
      · refine Xe.is (x_lc2If (ps := (faL R Ts xs).map fun p => (.int p.1, .str p.2)) (fun x _ => x) (fun _ y => match y with | .str z => decide (z = ("lost" : Str)) | _ => false) ?_ (fun x y p acc hm => ?_) (fun x y p acc hm _ => x_var rfl) (hz := by rw [List.length_map]; omega)) ?_
        · rw [List.map_map]
          exact (xi_list (x_var (d := faultsD R Ts xs) rfl)).j
        · obtain ⟨q, _, e⟩ := List.mem_map.mp hm
          cases e
          exact xb_test (xd_op (x_var rfl) x_str rv_eqS)
        · rw [List.filter_map, List.map_map]
          have z : lostI (faL R Ts xs) = lost0 R Ts xs := lost_run
          show Dt.lst _ = Dt.lst ((lost0 R Ts xs).map .int)
          rw [← z]
          unfold lostI
          rw [List.map_map]
          rfl
      intro σ9 H9 h
      have h : Sg M0 H L' (lawG st (some tn) [nmD, .lst (R.fs.map Fd.dt), .int (R.at : Int), R.dt, sd, .lst (Ts.map tbDt), .lst (xs.map Deed.dt), playedD R Ts xs, faultsD R Ts xs, natsD others, intsL (lost0 R Ts xs)]) σ9 H9 := h
      have less : ∀ ps : List Nat, ps.Nodup → (∀ n ∈ ps, n < R.fs.length) → R.at ∈ ps → ps.length ≤ 3 → preLess [R.dt, sd, .lst (xs.map Deed.dt), playedD R Ts xs, faultsD R Ts xs, natsD ps] (intsL (lostP R Ts xs ps)) := fun ps nd nf ha n3 => ⟨R, sd, Ts, xs, ps, rok, sok2, tw, x16, okx, nd, nf, ha, n3, rfl, rfl⟩
      -- the shown one alone
      apply qd_asg (d := intsL (lostP R Ts xs [R.at])) h
      · exact x_call (xad_cons (x_var rfl) (xad_cons (x_var rfl) (xad_cons (x_var rfl) (xad_cons (x_var rfl) (xad_cons (x_var rfl) (xad_cons (xd_lst (ds := [.int (R.at : Int)]) (xad_cons (x_var rfl) xa_nil) (show (1 : Nat) ≤ 100000 by decide)) xa_nil)))))) (less [R.at] (by simp) (fun n hn => by rw [List.mem_singleton.mp hn]; exact alt) List.mem_cons_self (by show (1 : Nat) ≤ 3; decide))
      intro σ10 H10 h
      have h : Sg M0 H L' (lawG st (some tn) [nmD, .lst (R.fs.map Fd.dt), .int (R.at : Int), R.dt, sd, .lst (Ts.map tbDt), .lst (xs.map Deed.dt), playedD R Ts xs, faultsD R Ts xs, natsD others, intsL (lost0 R Ts xs), intsL (lostP R Ts xs [R.at])]) σ10 H10 := h
      -- with each of the others
      let lp : List Nat → Dt := fun ps => intsL (lostP R Ts xs ps)
      have pn : ∀ n, n ∈ others → ∀ ps : List Nat, ps.Perm [R.at, n] → ps.Nodup ∧ (∀ x ∈ ps, x < R.fs.length) ∧ R.at ∈ ps ∧ ps.length ≤ 3 := fun n hn ps hp => by
        obtain ⟨n1, n2⟩ := (oth n).mp hn
        refine ⟨hp.nodup_iff.mpr (by simp [Ne.symm n2]), fun x hx => ?_, hp.mem_iff.mpr List.mem_cons_self, by rw [hp.length_eq]; show (2 : Nat) ≤ 3; decide⟩
        rcases List.mem_cons.mp (hp.mem_iff.mp hx) with e | e
        · rw [e]
          exact alt
        · rw [List.mem_singleton.mp e]
          exact n1
      refine q_asg (P := fun d => ∃ pss : List (List Nat), pss.length = others.length ∧ (∀ (j : Nat) (ps : List Nat) (n : Nat), pss[j]? = some ps → others[j]? = some n → ps.Perm [R.at, n]) ∧ d = .lst (pss.map lp)) h ?_ fun d σ11 H11 ⟨pss, pl, pp, e⟩ h => ?_
      · refine x_lc (ds := others.map fun (n : Nat) => Dt.int (n : Int)) (G' := fun d => (wipeG (lawG st (some tn) [nmD, .lst (R.fs.map Fd.dt), .int (R.at : Int), R.dt, sd, .lst (Ts.map tbDt), .lst (xs.map Deed.dt), playedD R Ts xs, faultsD R Ts xs, natsD others, intsL (lost0 R Ts xs), intsL (lostP R Ts xs [R.at])]) [18]).set 18 (some d)) (js := [18])
          (P := fun i acc => ∃ pss : List (List Nat), pss.length = i ∧ (∀ (j : Nat) (ps : List Nat) (n : Nat), pss[j]? = some ps → others[j]? = some n → ps.Perm [R.at, n]) ∧ acc = pss.map lp) (Pt := fun _ _ b => b = true) (xi_list (x_var rfl)).j ⟨[], rfl, fun j ps n z => (by rw [List.getElem?_nil] at z; cases z), rfl⟩ (fun i d _ p acc => xg_name) (fun j hj => hj) (fun i d p acc _ _ σ H Q ok e q => q true H (Mode.refl _ H) rfl) (fun i d p acc e hp _ => ?_) (fun i d acc _ _ z => by cases z) (fun acc ⟨pss, e1, e2, e3⟩ => ⟨pss, by rw [e1, List.length_map], e2, by rw [e3]⟩) (by rw [List.length_map]; omega)
        obtain ⟨n, en, rfl⟩ := map_got e
        obtain ⟨pss, e1, e2, e3⟩ := hp
        have hn : n ∈ others := List.mem_of_getElem? en
        refine x_callG (pre := preLess) (P := fun ds => ∃ ps : List Nat, ps.Perm [R.at, n] ∧ ds = [R.dt, sd, .lst (xs.map Deed.dt), playedD R Ts xs, faultsD R Ts xs, natsD ps]) (xa_cons (P := (· = R.dt)) (R := fun ds => ∃ ps : List Nat, ps.Perm [R.at, n] ∧ ds = [sd, .lst (xs.map Deed.dt), playedD R Ts xs, faultsD R Ts xs, natsD ps]) (x_var rfl) (xa_cons (P := (· = sd)) (R := fun ds => ∃ ps : List Nat, ps.Perm [R.at, n] ∧ ds = [.lst (xs.map Deed.dt), playedD R Ts xs, faultsD R Ts xs, natsD ps]) (x_var rfl) (xa_cons (P := (· = .lst (xs.map Deed.dt))) (R := fun ds => ∃ ps : List Nat, ps.Perm [R.at, n] ∧ ds = [playedD R Ts xs, faultsD R Ts xs, natsD ps]) (x_var rfl) (xa_cons (P := (· = playedD R Ts xs)) (R := fun ds => ∃ ps : List Nat, ps.Perm [R.at, n] ∧ ds = [faultsD R Ts xs, natsD ps]) (x_var rfl) (xa_cons (P := (· = faultsD R Ts xs)) (R := fun ds => ∃ ps : List Nat, ps.Perm [R.at, n] ∧ ds = [natsD ps]) (x_var rfl) (xa_cons (P := fun d => ∃ ps : List Nat, ps.Perm [R.at, n] ∧ d = natsD ps) ?_ xa_nil
            fun d ds ⟨m, h, e⟩ er => ⟨m, h, by rw [e, er]⟩) fun d ds e ⟨m, h, er⟩ => ⟨m, h, by rw [e, er]⟩) fun d ds e ⟨m, h, er⟩ => ⟨m, h, by rw [e, er]⟩) fun d ds e ⟨m, h, er⟩ => ⟨m, h, by rw [e, er]⟩) fun d ds e ⟨m, h, er⟩ => ⟨m, h, by rw [e, er]⟩) fun d ds e ⟨m, h, er⟩ => ⟨m, h, by rw [e, er]⟩)
          fun ds ⟨ps, hps, e⟩ => ?_
        · refine (x_callS (HS.bld _ _) (pre := preMix) (P := (· = [.raw st, .lst (([R.at, n].map fun (n : Nat) => (n : Int)).map .int)])) (R := fun d => ∃ r : List Int, r.Perm ([R.at, n].map fun (n : Nat) => (n : Int)) ∧ d = .lst (r.map .int)) (xad_cons (x_var rfl) (xad_cons (xd_lst (ds := [.int (R.at : Int), .int (n : Int)]) (xad_cons (x_var rfl) (xad_cons (x_var rfl) xa_nil)) (show (2 : Nat) ≤ 100000 by decide)) xa_nil)) fun ds e => ⟨_, e, [R.at, n].map fun (n : Nat) => (n : Int), (show (2 : Nat) ≤ 1000 by decide), rfl, rfl⟩).mono fun d ⟨r, hr, e⟩ => ?_
          obtain ⟨ps, hps, er⟩ := perm_nats hr
          exact ⟨ps, hps, by rw [e, er, List.map_map]; rfl⟩
        · obtain ⟨a1, a2, a3, a4⟩ := pn n hn ps hps
          refine ⟨_, e ▸ less ps a1 a2 a3 a4, pss ++ [ps], by rw [List.length_append, e1]; rfl, fun j qs m hj hm => ?_, by rw [e3, List.map_append]; rfl⟩
          by_cases jl : j < pss.length
          · rw [List.getElem?_append_left jl] at hj
            exact e2 j qs m hj hm
          · have ej : j = pss.length := by
              have z := (List.getElem?_eq_some_iff.mp hj).1
              rw [List.length_append, List.length_singleton] at z
              omega
            rw [ej, List.getElem?_append_right (Nat.le_refl _), Nat.sub_self] at hj
            rw [ej, e1, en] at hm
            cases hj
            cases hm
            exact hps
      subst e
      have h : Sg M0 H L' (lawG st (some tn) [nmD, .lst (R.fs.map Fd.dt), .int (R.at : Int), R.dt, sd, .lst (Ts.map tbDt), .lst (xs.map Deed.dt), playedD R Ts xs, faultsD R Ts xs, natsD others, intsL (lost0 R Ts xs), intsL (lostP R Ts xs [R.at]), .lst (pss.map lp)]) σ11 H11 := h
      have q1 : ∀ n, n < R.fs.length → n ≠ R.at → ∃ ps ∈ pss, ps.Perm [R.at, n] := fun n n1 n2 => by
        obtain ⟨j, hj, ej⟩ := List.mem_iff_getElem.mp ((oth n).mpr ⟨n1, n2⟩)
        have hj2 : j < pss.length := by rw [pl]; exact hj
        exact ⟨_, List.getElem_mem hj2, pp j _ n (List.getElem?_eq_getElem hj2) (by rw [List.getElem?_eq_getElem hj, ej])⟩
      have q2 : ∀ ps ∈ pss, ∃ n, n < R.fs.length ∧ n ≠ R.at ∧ ps.Perm [R.at, n] := fun ps hps => by
        obtain ⟨j, hj, ej⟩ := List.mem_iff_getElem.mp hps
        have hj2 : j < others.length := by rw [← pl]; exact hj
        obtain ⟨n1, n2⟩ := (oth _).mp (List.getElem_mem hj2)
        exact ⟨_, n1, n2, pp j ps _ (by rw [List.getElem?_eq_getElem hj, ej]) (List.getElem?_eq_getElem hj2)⟩
      have pl3 : pss.length ≤ 3 := by rw [pl]; exact olen
      -- nothing is none; what is lost is lost with the shown one alone
      refine qd_no h (Xt.is (xb_or (a := false) (b := false) (Xt.is (xb_test (xd_op (x_var rfl) x_non rv_isD)) rfl) fun _ => Xt.is (xb_or (a := false) (b := false) ?_ fun _ => ?_) rfl) rfl) fun H12 h => ?_
      · have nf : ∀ d ∈ pss.map lp, Nice 1 d := fun d hd => by
          obtain ⟨ps, _, rfl⟩ := List.mem_map.mp hd
          exact nice_intsL
        refine Xt.is (xb_test (xd_op x_non (x_var rfl) (rv_inD rfl (nice_all nf).1 rfl (nice_lst nf).shaped))) ?_
        refine List.any_eq_false.mpr fun z hz => ?_
        rw [pds_map] at hz
        obtain ⟨d, hd, rfl⟩ := List.mem_map.mp hz
        obtain ⟨ps, _, rfl⟩ := List.mem_map.mp hd
        intro z
        cases z
      · refine Xt.is (xb_test (xl_neE (n := 0) (ds := []) (xl_of (Xe.is (x_lcNIf (ds := (lost0 R Ts xs).map .int) (fun d => d) (fun d => match d with | .int v => !decide (v ∈ lostP R Ts xs [R.at]) | _ => false) (xi_list (x_var rfl)).j (fun i d p acc e => ?_) (fun i d p acc e _ => x_var rfl) (hz := by rw [List.length_map]; omega)) ?_)) (fun d hd => by cases hd))) rfl
        · obtain ⟨v, ev, rfl⟩ := map_got e
          exact xb_test (xd_op (x_var rfl) (x_var (d := intsL (lostP R Ts xs [R.at])) rfl) (rv_inLI (neg := true)))
        · rw [List.map_id', List.filter_map, List.filter_eq_nil_iff.mpr]
          · rfl
          · intro v hv
            show ¬ (!decide (v ∈ lostP R Ts xs [R.at])) = true
            rw [decide_eq_true (lost_sub alt q1 q2 v hv)]
            exact fun z => by cases z
      -- lost just where it is lost with each of the others
      refine qd_no h (Xt.is (xb_test (xd_op (b := intsL (lost0 R Ts xs)) (x_var rfl) ?_ (rv_neR (nice_intsL (n := 0))))) rfl) fun H13 h => ?_
      · refine Xe.is (x_lcNIf (ds := (lostP R Ts xs [R.at]).map .int) (fun d => d) (fun d => match d with | .int v => pss.all fun ps => decide (v ∈ lostP R Ts xs ps) | _ => false) (xi_list (x_var rfl)).j (fun i d p acc e => ?_) (fun i d p acc e _ => x_var rfl) (hz := by rw [List.length_map]; have := lo2 [R.at]; omega)) ?_
        · obtain ⟨v, ev, rfl⟩ := map_got e
          refine xb_test (Xe.is (xd_cb (xad_cons (Xe.is (x_lcR (rs := pss.map fun ps => Dt.bl (decide (v ∈ lostP R Ts xs ps))) (ds := pss.map lp) (by rw [List.length_map, List.length_map]) (xi_list (x_var rfl)).j (fun i d e p2 acc2 ed ee => ?_) (hz := by rw [List.length_map]; omega)) (show _ = Dt.lst ((pss.map fun ps => decide (v ∈ lostP R Ts xs ps)).map .bl) by rw [List.map_map]; rfl)) xa_nil) rc_all) ?_)
          · obtain ⟨ps, ep, rfl⟩ := map_got ed
            obtain ⟨ps2, ep2, rfl⟩ := map_got ee
            rw [ep] at ep2
            cases ep2
            exact xd_op (x_var rfl) (x_var (d := intsL (lostP R Ts xs ps)) rfl) (rv_inLI (neg := false))
          · rw [List.all_map]
            rfl
        · rw [List.map_id', List.filter_map, lost_filter alt q1 q2]
          rfl
      -- in another order
      refine qd_no h (Xt.is (xb_test (xd_op (a := intsL (lost0 R Ts xs)) (b := intsL (lost0 R Ts xs)) ?_ (x_var rfl) (rv_neR (nice_intsL (n := 0))))) rfl) fun H14 h => ?_
      · refine x_callG (pre := preLess) (P := fun ds => ∃ ps : List Nat, ps.Perm (List.range R.fs.length) ∧ ds = [R.dt, sd, .lst (xs.map Deed.dt), playedD R Ts xs, faultsD R Ts xs, natsD ps]) (xa_cons (P := (· = R.dt)) (R := fun ds => ∃ ps : List Nat, ps.Perm (List.range R.fs.length) ∧ ds = [sd, .lst (xs.map Deed.dt), playedD R Ts xs, faultsD R Ts xs, natsD ps]) (x_var rfl) (xa_cons (P := (· = sd)) (R := fun ds => ∃ ps : List Nat, ps.Perm (List.range R.fs.length) ∧ ds = [.lst (xs.map Deed.dt), playedD R Ts xs, faultsD R Ts xs, natsD ps]) (x_var rfl) (xa_cons (P := (· = .lst (xs.map Deed.dt))) (R := fun ds => ∃ ps : List Nat, ps.Perm (List.range R.fs.length) ∧ ds = [playedD R Ts xs, faultsD R Ts xs, natsD ps]) (x_var rfl) (xa_cons (P := (· = playedD R Ts xs)) (R := fun ds => ∃ ps : List Nat, ps.Perm (List.range R.fs.length) ∧ ds = [faultsD R Ts xs, natsD ps]) (x_var rfl) (xa_cons (P := (· = faultsD R Ts xs)) (R := fun ds => ∃ ps : List Nat, ps.Perm (List.range R.fs.length) ∧ ds = [natsD ps]) (x_var rfl) (xa_cons (P := fun d => ∃ ps : List Nat, ps.Perm (List.range R.fs.length) ∧ d = natsD ps) ?_ xa_nil
            fun d ds ⟨m, h, e⟩ er => ⟨m, h, by rw [e, er]⟩) fun d ds e ⟨m, h, er⟩ => ⟨m, h, by rw [e, er]⟩) fun d ds e ⟨m, h, er⟩ => ⟨m, h, by rw [e, er]⟩) fun d ds e ⟨m, h, er⟩ => ⟨m, h, by rw [e, er]⟩) fun d ds e ⟨m, h, er⟩ => ⟨m, h, by rw [e, er]⟩) fun d ds e ⟨m, h, er⟩ => ⟨m, h, by rw [e, er]⟩)
          fun ds ⟨ps, hps, e⟩ => ?_
        · refine (x_callS HS (pre := preMix) (P := (· = [.raw st, .lst (((List.range R.fs.length).map fun (n : Nat) => (n : Int)).map .int)])) (R := fun d => ∃ r : List Int, r.Perm ((List.range R.fs.length).map fun (n : Nat) => (n : Int)) ∧ d = .lst (r.map .int)) (xad_cons (x_var rfl) (xad_cons (Xe.is (x_lrg (xlen rfl) (by omega) (by omega)) (by rw [Int.toNat_natCast, List.map_map]; rfl)) xa_nil)) fun ds e => ⟨_, e, _, by rw [List.length_map, List.length_range]; omega, rfl, rfl⟩).mono fun d ⟨r, hr, e⟩ => ?_
          obtain ⟨ps, hps, er⟩ := perm_nats hr
          exact ⟨ps, hps, by rw [e, er, List.map_map]; rfl⟩
        · refine ⟨_, e ▸ less ps (hps.nodup_iff.mpr List.nodup_range) (fun n hn => List.mem_range.mp (hps.mem_iff.mp hn)) (hps.mem_iff.mpr (List.mem_range.mpr alt)) (by rw [hps.length_eq, List.length_range]; exact f3), ?_⟩
          rw [lost_perm hps]
      -- under other names
      apply qd_asg (d := R.ren.dt) h
      · exact x_call (pre := preRen) (xad_cons (x_var rfl) (xad_cons (x_meth (pre := preShw) (x_var (d := R.dt) rfl) (by decide +kernel) xa_nil (by exact ⟨R, rfl, rfl⟩)) xa_nil)) (by exact ⟨R, rok, rfl, rfl⟩)
      intro σ15 H15 h
      have h : Sg M0 H L' (lawG st (some tn) [nmD, .lst (R.fs.map Fd.dt), .int (R.at : Int), R.dt, sd, .lst (Ts.map tbDt), .lst (xs.map Deed.dt), playedD R Ts xs, faultsD R Ts xs, natsD others, intsL (lost0 R Ts xs), intsL (lostP R Ts xs [R.at]), .lst (pss.map lp), R.ren.dt]) σ15 H15 := h
      have rok2 := rl_ren rok
      have Lr := like_ren rok
      have okx2 := sub_ok Lr (fun i hi => List.mem_range.mp hi) okx
      have es := stands_same Lr okx
      have ep : playedD R.ren Ts xs = playedD R Ts xs := by unfold playedD; rw [es]
      have ef : faultsD R.ren Ts xs = faultsD R Ts xs := by unfold faultsD; rw [es]
      refine ed_when h (Xt.is (xb_or (a := false) (b := false) (Xt.is (xb_not (a := true) (xb_test (x_call (ds := [playedD R Ts xs, playedD R Ts xs]) (xad_cons (Xe.is (x_call (xad_cons (x_var rfl) (xad_cons (x_var rfl) (xad_cons (x_var rfl) xa_nil))) (by exact ⟨R.ren, sd, Ts, xs, rok2, sok2, tw, by omega, okx2, rfl, rfl⟩)) ep) (xad_cons (x_var rfl) xa_nil)) (by exact ⟨_, sm_played (xs := xs) t3 f3 (Nat.le_trans x16 (by decide)), rfl, rfl⟩)))) rfl) fun _ => Xt.is (xb_test (xd_op (Xe.is (x_call (xad_cons (x_var rfl) (xad_cons (x_var rfl) (xad_cons (x_var rfl) xa_nil))) (by exact ⟨R.ren, sd, Ts, xs, rok2, sok2, tw, by omega, okx2, rfl, rfl⟩)) ef) (x_var rfl) (rv_neR (nice_pairs (n := 0) faL_in)))) rfl) rfl) (fun e => by cases e) fun _ H16 h => ?_
      exact law_weak h (by show (14 : Nat) ≤ 19; decide)
    · exact sd_ret x_bl h fun v H' _ hv => by
        rw [show v = V.bl true from hv]
        exact k H'
end
end Lf

namespace Lf
open PySem PySem.Spec PyProof.Rows L2
theorem facts {P : Program} {w : World} {K : PySem.W.Frag} {h : Heap} {mg : Str → Option Value} {f : Addr} (X : K.In h) (G : h.Ns mainGlobals mg) (hfa : mg ("law" : Str) = some (.ref f)) (c : SaysM w K) :
    ∃ fd : FuncData, (∀ (s : Shared) (v : Value), BindsTo s fd ⟨[v], []⟩ [("_law_script", v)]) ∧ ∀ base : Heap, K.In base → base.Ns mainGlobals mg → FnOk P w K mg base CX0 9 f fd ["_law_script"] (spLaw K) := by
  have T : Txt w K mg := ⟨c, h, X, G⟩
  obtain ⟨fd, F⟩ := T.s.t.d.def_ 59 (d := d_law) rfl
  have e := hfa.symm.trans T.g_law
  cases e
  have b := FunD.bindsA (ps := ["_law_script"]) F fun _ _ _ _ _ _ us hl => match us, hl with | [_], _ => rfl
  exact ⟨fd, fun s v => b s [v] rfl, fun base _ _ => ok_law T F⟩
end Lf
open PySem PySem.W PySem.Calls PyProof.Rows
theorem PySem.Challenge.cw_leafmarks_k44_whole_fields_apart_holds : PySem.Challenge.rw_leafmarks_k44_whole_fields_apart.Holds := by
  w_on; o_law
  refine HandSHeadRun.head_any (r := OpenLaw.row PySem.Challenge.rw_leafmarks_k44_whole_fields_apart) (q := view (OpenLaw.row PySem.Challenge.rw_leafmarks_k44_whole_fields_apart).prog [70]) (H := Lf.hk) (ob := Lf.ob) (M := 20000) (loose := Lf.names) (d := HandSHeadRun.topDef (OpenLaw.row PySem.Challenge.rw_leafmarks_k44_whole_fields_apart).prog 70) (kwd := []) Lf.ob_eq
    (by kernel_rfl) (fun s => by kernel_rfl) Lf.run (by kernel_rfl) (by kernel_rfl) (by kernel_rfl) (by rfl) (by first | assumption | decide +kernel) (by decide +kernel) ⟨rfl, rfl, rfl, rfl, rfl, by decide +kernel⟩ ?hw ?hc
  case hw => w_witness2
  case hc =>
    refine L2.walk_ofE (l := PySem.Challenge.rw_leafmarks_k44_whole_fields_apart) (n := 63) (k := 9) (x := "_law_script") (CX := L2.CX0) rfl (by decide) (by kernel_rfl) ⟨rfl, by decide, by decide⟩ ?F (fun _ _ _ _ z => z)
    intro w mg fa h Y G hmg0
    obtain ⟨K, KX, c⟩ := Y
    have hmg : mg ("law" : PySem.Str) = some (.ref fa) := by
      have e : (HandSHeadRun.topDef (OpenLaw.row PySem.Challenge.rw_leafmarks_k44_whole_fields_apart).prog 70).name = ("law" : PySem.Str) := by kernel_rfl
      rw [← e]
      exact hmg0
    obtain ⟨fd, hb, hF⟩ := Lf.facts (P := (PySem.Challenge.rw_leafmarks_k44_whole_fields_apart).prog) (w := w) KX G hmg c
    exact ⟨K, fd, Lf.spLaw K, KX, hb, fun H a ns hl _ hS => ⟨a, ns, rfl, hS, fun _ => rfl⟩, hF⟩
