import PyProof.Rows.All
import Wide.All
import OpenK.AllK
import Wide.FinOn
import HandS.ForMost
import HandS.ForExc
import HandS.Deep
import HandS.Wide
import HandS.TupAny
import HandS.IsInst
import HandS.Property
import HandS.Style
import HandS.Conv
import HandS.More
import HandS.SlotsOwn
import HandS.HeadWalk
import HandS.CallRecv
import HandS.Flow
import KE.KOwnCellsLaws
import HandS.Defaults
import HandS.Head0
import HandS.Head1
import HandS.Head2
import HandS.HeadEnd
import HandS.HeadHook1
import HandS.HeadHook2
import KE.KStateDown
import PySem.Challenge.RW_sameruns_k60_join_brackets
set_option Elab.async false
set_option linter.all false
set_option maxRecDepth 100000
set_option maxHeartbeats 4000000
namespace Pc
open PySem PySem.Spec PyProof.Rows L2

/-- a value: data are trees, what has an identity is a place of the own heap -/
inductive W where
  | non | bl (b : Bool) | int (i : Int) | str (s : Str) | tup (ws : List W) | loc (n : Nat)
/-- what stands at a place -/
inductive Ob where
  | lst (ws : List W)
  | frz (ws : List W)
  | dct (kvs : List (Key × W))
  | ins (c : Nat) (fs : List (Nat × W))
abbrev Hs := List Ob
/-- an answer: a value, an exception (its class, its fields), or nothing is said -/
inductive Res (α : Type) where
  | ok (a : α) (h : Hs)
  | exc (c : Nat) (fs : List (Nat × W)) (h : Hs)
  | bad
@[inline] def Res.bind {α β : Type} (r : Res α) (f : α → Hs → Res β) : Res β := match r with
  | .ok a h => f a h
  | .exc c fs h => .exc c fs h
  | .bad => .bad
@[simp] theorem bind_ok {α β : Type} {a : α} {h : Hs} {f : α → Hs → Res β} : (Res.ok a h).bind f = f a h := rfl
@[simp] theorem bind_bad {α β : Type} {f : α → Hs → Res β} : (Res.bad : Res α).bind f = .bad := rfl
@[simp] theorem bind_exc {α β : Type} {c : Nat} {fs : List (Nat × W)} {h : Hs} {f : α → Hs → Res β} : (Res.exc c fs h : Res α).bind f = .exc c fs h := rfl

theorem Res.bind_assoc {α β γ : Type} {r : Res α} {f : α → Hs → Res β} {g : β → Hs → Res γ} : (r.bind f).bind g = r.bind fun a h => (f a h).bind g := by
  cases r <;> rfl
/-- what the representation hangs on: the written part, the classes' places, the attributes' names -/
structure Rd where
  K : PySem.W.Frag
  ca : Nat → Addr
  an : List Str

/-- a list of the written part -/
def KL (K : PySem.W.Frag) (a : Addr) (xs : List V) : Prop :=
  ∃ (o : Obj) (its : Array Value) (n : Nat), K.lookup a = some o ∧ o.cls = .type "list" ∧ o.dict = none ∧ o.data = .seq its n ∧ its.size ≤ sizeLine ∧ Vals xs its.toList
section
variable (R : Rd) (H : Hp) (ρ : List Addr)
mutual
def Rep : W → V → Prop
  | .non, v => v = .non
  | .bl b, v => v = .bl b
  | .int i, v => v = .int i
  | .str s, v => v = .str s
  | .loc n, v => ∃ a, ρ[n]? = some a ∧ v = .ref a
  | .tup ws, v => ∃ a vs, v = .ref a ∧ SqT R.K H a vs ∧ Reps ws vs
def Reps : List W → List V → Prop
  | [], vs => vs = []
  | w :: ws, vs => ∃ v r, vs = v :: r ∧ Rep w v ∧ Reps ws r
end
def RepK : List (Key × W) → List (Key × V) → Prop := Paired fun p q => p.1 = q.1 ∧ Rep R H ρ p.2 q.2
def RepF : List (Nat × W) → List (Str × V) → Prop := Paired fun p q => R.an[p.1]? = some q.1 ∧ Rep R H ρ p.2 q.2
def RepO (a : Addr) : Ob → Prop
  | .lst ws => ∃ vs, H a = some (.lst vs) ∧ Reps R H ρ ws vs
  | .frz ws => ∃ vs, ((∃ ob, H a = some (.frz ob (.lst vs))) ∨ KL R.K a vs) ∧ Reps R H ρ ws vs
  | .dct kvs => ∃ ks, H a = some (.dK ks) ∧ RepK R H ρ kvs ks
  | .ins c fs => ∃ dx gs, H a = some (.ins (R.ca c) dx gs) ∧ RepF R H ρ fs gs
end
/-- a place that is read only -/
def FrO (h : Hs) (i : Nat) : Prop := ∃ ws, h[i]? = some (.frz ws)
/-- the whole own heap is there -/
structure All (R : Rd) (H : Hp) (ρ : List Addr) (h : Hs) : Prop where
  len : ρ.length = h.length
  nd : ∀ (i j : Nat) (a : Addr), ρ[i]? = some a → ρ[j]? = some a → i = j ∨ FrO h i ∨ FrO h j
  an : R.an.Nodup
  ob : ∀ (n : Nat) (o : Ob), h[n]? = some o → ∃ a, ρ[n]? = some a ∧ RepO R H ρ a o
/-- what comes later: the places stay, the tuples stay -/
structure Lt (R : Rd) (H : Hp) (ρ : List Addr) (H' : Hp) (ρ' : List Addr) : Prop where
  pl : ∀ (n : Nat) (a : Addr), ρ[n]? = some a → ρ'[n]? = some a
  tup : ∀ a vs, SqT R.K H a vs → SqT R.K H' a vs
theorem Lt.refl {R : Rd} {H : Hp} {ρ : List Addr} : Lt R H ρ H ρ := ⟨fun _ _ h => h, fun _ _ h => h⟩
theorem Lt.trans {R : Rd} {H H1 H2 : Hp} {ρ ρ1 ρ2 : List Addr} (a : Lt R H ρ H1 ρ1) (b : Lt R H1 ρ1 H2 ρ2) : Lt R H ρ H2 ρ2 :=
  ⟨fun n x h => b.pl n x (a.pl n x h), fun x vs h => b.tup x vs (a.tup x vs h)⟩

section
variable {R : Rd} {H H' : Hp} {ρ ρ' : List Addr}
mutual
theorem Rep.later (l : Lt R H ρ H' ρ') : ∀ {w : W} {v : V}, Rep R H ρ w v → Rep R H' ρ' w v
  | .non, _, h => h
  | .bl _, _, h => h
  | .int _, _, h => h
  | .str _, _, h => h
  | .loc _, _, h => by
    obtain ⟨a, e, r⟩ := h
    exact ⟨a, l.pl _ _ e, r⟩
  | .tup _, _, h => by
    obtain ⟨a, vs, e, s, r⟩ := h
    exact ⟨a, vs, e, l.tup _ _ s, Reps.later l r⟩
theorem Reps.later (l : Lt R H ρ H' ρ') : ∀ {ws : List W} {vs : List V}, Reps R H ρ ws vs → Reps R H' ρ' ws vs
  | [], _, h => h
  | _ :: _, _, h => by
    obtain ⟨v, r, e, a, b⟩ := h
    exact ⟨v, r, e, Rep.later l a, Reps.later l b⟩
end
theorem RepK.later (l : Lt R H ρ H' ρ') {ks : List (Key × W)} {vs : List (Key × V)} (h : RepK R H ρ ks vs) : RepK R H' ρ' ks vs := Paired.mapP h fun _ _ z => ⟨z.1, z.2.later l⟩
theorem RepF.later (l : Lt R H ρ H' ρ') {ks : List (Nat × W)} {vs : List (Str × V)} (h : RepF R H ρ ks vs) : RepF R H' ρ' ks vs := Paired.mapP h fun _ _ z => ⟨z.1, z.2.later l⟩
theorem Reps.length : ∀ {ws : List W} {vs : List V}, Reps R H ρ ws vs → ws.length = vs.length
  | [], _, h => by
    have e : _ = [] := h
    rw [e]
    rfl
  | _ :: _, _, h => by
    obtain ⟨v, r, e, _, b⟩ := h
    rw [e]
    exact congrArg Nat.succ (Reps.length b)
theorem Reps.nil : Reps R H ρ [] [] := rfl
theorem Reps.cons {w : W} {v : V} {ws : List W} {vs : List V} (a : Rep R H ρ w v) (b : Reps R H ρ ws vs) : Reps R H ρ (w :: ws) (v :: vs) := ⟨v, vs, rfl, a, b⟩
theorem Reps.append : ∀ {ws us : List W} {vs xs : List V}, Reps R H ρ ws vs → Reps R H ρ us xs → Reps R H ρ (ws ++ us) (vs ++ xs)
  | [], _, _, _, a, b => by
    have e : _ = [] := a
    rw [e]
    exact b
  | _ :: _, _, _, _, a, b => by
    obtain ⟨v, r, e, a1, a2⟩ := a
    rw [e]
    exact ⟨v, _, rfl, a1, Reps.append a2 b⟩
theorem Reps.get : ∀ {ws : List W} {vs : List V} {i : Nat} {w : W}, Reps R H ρ ws vs → ws[i]? = some w → ∃ v, vs[i]? = some v ∧ Rep R H ρ w v
  | [], _, _, _, _, e => by simp at e
  | _ :: _, _, 0, _, a, e => by
    obtain ⟨v, r, rfl, a1, a2⟩ := a
    simp at e
    subst e
    exact ⟨v, rfl, a1⟩
  | _ :: _, _, i + 1, _, a, e => by
    obtain ⟨v, r, rfl, a1, a2⟩ := a
    obtain ⟨u, h1, h2⟩ := Reps.get (i := i) a2 (by simpa using e)
    exact ⟨u, by simpa using h1, h2⟩
theorem Reps.get' : ∀ {ws : List W} {vs : List V} {i : Nat} {v : V}, Reps R H ρ ws vs → vs[i]? = some v → ∃ w, ws[i]? = some w ∧ Rep R H ρ w v
  | [], _, _, _, a, e => by
    have z : _ = [] := a
    rw [z] at e
    simp at e
  | w :: _, _, 0, _, a, e => by
    obtain ⟨v, r, rfl, a1, a2⟩ := a
    simp at e
    subst e
    exact ⟨w, rfl, a1⟩
  | _ :: _, _, i + 1, _, a, e => by
    obtain ⟨v, r, rfl, a1, a2⟩ := a
    obtain ⟨u, h1, h2⟩ := Reps.get' (i := i) a2 (by simpa using e)
    exact ⟨u, by simpa using h1, h2⟩
theorem Reps.take : ∀ {ws : List W} {vs : List V} (n : Nat), Reps R H ρ ws vs → Reps R H ρ (ws.take n) (vs.take n)
  | _, _, 0, _ => rfl
  | [], _, n + 1, a => by
    have z : _ = [] := a
    rw [z]
    exact rfl
  | _ :: _, _, n + 1, a => by
    obtain ⟨v, r, rfl, a1, a2⟩ := a
    exact ⟨v, _, rfl, a1, Reps.take n a2⟩
theorem Reps.drop : ∀ {ws : List W} {vs : List V} (n : Nat), Reps R H ρ ws vs → Reps R H ρ (ws.drop n) (vs.drop n)
  | _, _, 0, a => a
  | [], _, n + 1, a => by
    have z : _ = [] := a
    rw [z]
    exact rfl
  | _ :: _, _, n + 1, a => by
    obtain ⟨v, r, rfl, a1, a2⟩ := a
    exact Reps.drop n a2
theorem Reps.set {w : W} {v : V} (r : Rep R H ρ w v) : ∀ {ws : List W} {vs : List V} (n : Nat), Reps R H ρ ws vs → Reps R H ρ (ws.set n w) (vs.set n v)
  | [], _, _, a => by
    have z : _ = [] := a
    rw [z]
    exact rfl
  | _ :: _, _, 0, a => by
    obtain ⟨u, q, rfl, a1, a2⟩ := a
    exact ⟨v, _, rfl, r, a2⟩
  | _ :: _, _, n + 1, a => by
    obtain ⟨u, q, rfl, a1, a2⟩ := a
    exact ⟨u, _, rfl, a1, Reps.set r n a2⟩
theorem Reps.ints : ∀ (ns : List Int), Reps R H ρ (ns.map W.int) (ns.map V.int)
  | [] => rfl
  | n :: ns => ⟨.int n, _, rfl, rfl, Reps.ints ns⟩
/-- the sequences that a heap knows stay under a store at a tracked thing that is no tuple -/
theorem sqT_upd {K : PySem.W.Frag} {a b : Addr} {vs : List V} {o : HO} (hb : ∀ xs, H b ≠ some (.tup xs)) (hf : ∀ ob xs, H b ≠ some (.frz ob xs)) (h : SqT K H a vs) : SqT K (upd H b o) a vs := by
  rcases h with h | h
  · refine .inl ?_
    rcases h with h | ⟨ob, h⟩
    · refine .inl ?_
      rw [upd_ne]
      · exact h
      · intro e
        rw [e] at h
        exact hb _ h
    · refine .inr ⟨ob, ?_⟩
      rw [upd_ne]
      · exact h
      · intro e
        rw [e] at h
        exact hf _ _ h
  · exact .inr h
theorem sqL_upd {K : PySem.W.Frag} {a b : Addr} {vs : List V} {o : HO} (hb : a ≠ b) (h : SqL K H a vs) : SqL K (upd H b o) a vs := by
  rcases h with h | h
  · refine .inl ?_
    rcases h with h | ⟨ob, h⟩
    · exact .inl (by rw [upd_ne hb]; exact h)
    · exact .inr ⟨ob, by rw [upd_ne hb]; exact h⟩
  · exact .inr h
end

section
variable {R : Rd} {H : Hp} {ρ : List Addr} {h : Hs}
theorem All.at (A : All R H ρ h) {n : Nat} {o : Ob} {a : Addr} (e : h[n]? = some o) (ea : ρ[n]? = some a) : RepO R H ρ a o := by
  obtain ⟨b, eb, r⟩ := A.ob n o e
  rw [ea] at eb
  cases eb
  exact r
theorem RepO.sqL {a : Addr} {ws : List W} (r : RepO R H ρ a (.frz ws)) : ∃ vs, SqL R.K H a vs ∧ Reps R H ρ ws vs := by
  obtain ⟨vs, e, q⟩ := r
  rcases e with ⟨ob, e⟩ | e
  · exact ⟨vs, .inl (.inr ⟨ob, e⟩), q⟩
  · exact ⟨vs, .inr e, q⟩
theorem RepO.there {a : Addr} {o : Ob} (r : RepO R H ρ a o) : (∃ u, H a = some u) ∨ ∃ ws, o = .frz ws := by
  cases o with
  | lst ws => obtain ⟨vs, e, _⟩ := r; exact .inl ⟨_, e⟩
  | frz ws => exact .inr ⟨ws, rfl⟩
  | dct kvs => obtain ⟨vs, e, _⟩ := r; exact .inl ⟨_, e⟩
  | ins c fs => obtain ⟨dx, gs, e, _⟩ := r; exact .inl ⟨_, e⟩
theorem All.there (A : All R H ρ h) {n : Nat} {a : Addr} (ea : ρ[n]? = some a) : (∃ u, H a = some u) ∨ FrO h n := by
  have hn : n < h.length := by
    rw [← A.len]
    exact (List.getElem?_eq_some_iff.mp ea).1
  rcases (A.at (List.getElem?_eq_getElem hn) ea).there with z | ⟨ws, z⟩
  · exact .inl z
  · exact .inr ⟨ws, by rw [List.getElem?_eq_getElem hn, z]⟩
theorem RepO.later {H' : Hp} {ρ' : List Addr} {a : Addr} {o : Ob} (l : Lt R H ρ H' ρ') (ha : H' a = H a ∨ H a = none ∨ (∃ ws, o = .frz ws) ∧ ∀ q xs, H a ≠ some (.frz q xs)) (r : RepO R H ρ a o) : RepO R H' ρ' a o := by
  have hs : ∀ u, H a = some u → (∀ ws, o ≠ .frz ws) → H' a = some u := fun u hu hn => by
    rcases ha with e | e | ⟨⟨ws, e⟩, _⟩
    · rw [e]; exact hu
    · rw [e] at hu; cases hu
    · exact absurd e (hn ws)
  cases o with
  | lst ws =>
    obtain ⟨vs, e, q⟩ := r
    exact ⟨vs, hs _ e (fun _ z => by cases z), q.later l⟩
  | frz ws =>
    obtain ⟨vs, s, q⟩ := r
    refine ⟨vs, ?_, q.later l⟩
    rcases s with ⟨ob, s⟩ | s
    · refine .inl ⟨ob, ?_⟩
      rcases ha with e | e | ⟨_, e⟩
      · rw [e]; exact s
      · rw [e] at s; cases s
      · exact absurd s (e _ _)
    · exact .inr s
  | dct kvs =>
    obtain ⟨vs, e, q⟩ := r
    exact ⟨vs, hs _ e (fun _ z => by cases z), q.later l⟩
  | ins c fs =>
    obtain ⟨dx, gs, e, q⟩ := r
    exact ⟨dx, gs, hs _ e (fun _ z => by cases z), q.later l⟩
theorem upd_or {p a : Addr} {o : HO} (hp : H p = none) : upd H p o a = H a ∨ H a = none := by
  by_cases z : a = p
  · rw [z]; exact .inr hp
  · exact .inl (upd_ne z)
theorem orl {p q r : Prop} (h : p ∨ q) : p ∨ q ∨ r := h.imp id .inl
theorem FrO.app {i : Nat} {o : List Ob} (f : FrO h i) : FrO (h ++ o) i := by
  obtain ⟨ws, e⟩ := f
  exact ⟨ws, by rw [List.getElem?_append_left (List.getElem?_eq_some_iff.mp e).1]; exact e⟩
/-- a new thing that is no place of the own heap (a tuple) -/
theorem All.tup (A : All R H ρ h) {p : Addr} {o : HO} (hp : H p = none) : All R (upd H p o) ρ h ∧ Lt R H ρ (upd H p o) ρ := by
  have l : Lt R H ρ (upd H p o) ρ := ⟨fun _ _ e => e, fun a vs s => sqT_upd (by rw [hp]; simp) (by rw [hp]; simp) s⟩
  refine ⟨⟨A.len, A.nd, A.an, fun n ob e => ?_⟩, l⟩
  obtain ⟨a, ea, r⟩ := A.ob n ob e
  exact ⟨a, ea, r.later l (orl (upd_or hp))⟩
/-- a new place -/
theorem All.new (A : All R H ρ h) {p : Addr} {o : HO} {ob : Ob} (hp : H p = none) (r : All R (upd H p o) ρ h → Lt R H ρ (upd H p o) (ρ ++ [p]) → RepO R (upd H p o) (ρ ++ [p]) p ob) :
    All R (upd H p o) (ρ ++ [p]) (h ++ [ob]) ∧ Lt R H ρ (upd H p o) (ρ ++ [p]) := by
  have l : Lt R H ρ (upd H p o) (ρ ++ [p]) := ⟨fun n a e => by
    rw [List.getElem?_append_left (List.getElem?_eq_some_iff.mp e).1]
    exact e, fun a vs s => sqT_upd (by rw [hp]; simp) (by rw [hp]; simp) s⟩
  have A1 := (A.tup (o := o) hp).1
  refine ⟨⟨by simp [A.len], ?_, A.an, fun n q e => ?_⟩, l⟩
  · have key : ∀ (i j : Nat) (a : Addr), i < j → (ρ ++ [p])[i]? = some a → (ρ ++ [p])[j]? = some a → i = j ∨ FrO (h ++ [ob]) i ∨ FrO (h ++ [ob]) j := fun i j a hij hi hj => by
      have hjl := (List.getElem?_eq_some_iff.mp hj).1
      rw [List.length_append] at hjl
      have hil : i < ρ.length := by simp at hjl; omega
      rw [List.getElem?_append_left hil] at hi
      by_cases hj2 : j < ρ.length
      · rw [List.getElem?_append_left hj2] at hj
        rcases A.nd i j a hi hj with e | e | e
        · exact .inl e
        · exact .inr (.inl e.app)
        · exact .inr (.inr e.app)
      · have hjp : a = p := by
          rw [List.getElem?_append_right (by omega)] at hj
          have : j - ρ.length = 0 := by simp at hjl; omega
          rw [this] at hj
          simpa using hj.symm
        rcases A.there hi with ⟨u, hu⟩ | e
        · rw [hjp, hp] at hu
          cases hu
        · exact .inr (.inl e.app)
    intro i j a hi hj
    rcases Nat.lt_trichotomy i j with e | e | e
    · exact key i j a e hi hj
    · exact .inl e
    · rcases key j i a e hj hi with e | e | e
      · exact .inl e.symm
      · exact .inr (.inr e)
      · exact .inr (.inl e)
  · by_cases hn : n < h.length
    · rw [List.getElem?_append_left hn] at e
      obtain ⟨a, ea, ra⟩ := A.ob n q e
      exact ⟨a, l.pl n a ea, ra.later l (orl (upd_or hp))⟩
    · have e2 : n = h.length ∧ q = ob := by
        rw [List.getElem?_append_right (by omega)] at e
        have h1 := (List.getElem?_eq_some_iff.mp e).1
        simp at h1
        have h2 : n - h.length = 0 := by omega
        rw [h2] at e
        simp at e
        exact ⟨by omega, e.symm⟩
      obtain ⟨e1, e3⟩ := e2
      refine ⟨p, ?_, ?_⟩
      · rw [e1, ← A.len, List.getElem?_append_right (Nat.le_refl _)]
        simp
      · rw [e3]
        exact r A1 l
/-- a store at a place -/
theorem All.put (A : All R H ρ h) {n : Nat} {a : Addr} {o : HO} {ob : Ob} (ea : ρ[n]? = some a) (hb : ∀ xs, H a ≠ some (.tup xs)) (hf : ∀ q xs, H a ≠ some (.frz q xs)) (hn : ¬ FrO h n)
    (r : Lt R H ρ (upd H a o) ρ → RepO R (upd H a o) ρ a ob) : All R (upd H a o) ρ (h.set n ob) ∧ Lt R H ρ (upd H a o) ρ := by
  have l : Lt R H ρ (upd H a o) ρ := ⟨fun _ _ e => e, fun b vs s => sqT_upd hb hf s⟩
  have fr : ∀ i, FrO h i → FrO (h.set n ob) i := fun i f => by
    obtain ⟨ws, e⟩ := f
    refine ⟨ws, ?_⟩
    rw [List.getElem?_set_ne]
    · exact e
    · intro z
      exact hn ⟨ws, by rw [z]; exact e⟩
  refine ⟨⟨by simp [A.len], fun i j b hi hj => ?_, A.an, fun m q e => ?_⟩, l⟩
  · rcases A.nd i j b hi hj with e | e | e
    · exact .inl e
    · exact .inr (.inl (fr _ e))
    · exact .inr (.inr (fr _ e))
  by_cases hm : m = n
  · subst hm
    have hl : m < h.length := by
      have := (List.getElem?_eq_some_iff.mp e).1
      simpa using this
    rw [List.getElem?_set_self hl] at e
    cases e
    exact ⟨a, ea, r l⟩
  · rw [List.getElem?_set_ne (Ne.symm hm)] at e
    obtain ⟨b, eb, rb⟩ := A.ob m q e
    refine ⟨b, eb, rb.later l ?_⟩
    by_cases z : b = a
    · rcases A.nd m n a (z ▸ eb) ea with y | ⟨ws, y⟩ | y
      · exact absurd y hm
      · rw [e] at y
        cases y
        exact .inr (.inr ⟨⟨_, rfl⟩, fun q xs w => hf q xs (z ▸ w)⟩)
      · exact absurd y hn
    · exact .inl (upd_ne z)
end
end Pc
set_option Elab.async false
set_option linter.all false
set_option maxRecDepth 100000
set_option maxHeartbeats 4000000
namespace Pc
open PySem PySem.Spec PyProof.Rows L2

inductive Bop where | add | sub | mul | fdiv | mod | shl | shr | band | bor | bxor deriving DecidableEq
inductive Cop where | eq | ne | lt | le | gt | ge | is | isnot | inn | notin deriving DecidableEq
inductive Bf where | len | abs | int | list | tuple | min2 | max2 deriving DecidableEq
inductive Bm where | append | extend | insert | get1 | get2 | pop0 deriving DecidableEq
inductive Ty where | tup | lst | int | bool | str deriving DecidableEq
inductive Tg where | nm (i : Nat) | tp (ts : List Tg)
inductive ItK where | seq | range deriving DecidableEq
inductive E where
  | var (i : Nat) | lit (w : W)
  | bin (op : Bop) (a b : E) | neg (a : E)
  | cmp (op : Cop) (a b : E) | chn (p q : Cop) (a b c : E)
  | and (es : List E) | or (es : List E) | not (a : E)
  | ite (t a b : E)
  | tup (es : List E) | lst (es : List E) | dct (es : List E)
  | ix (a i : E) | slc (a : E) (lo hi : Option E)
  | att (a : E) (f : Nat)
  | call (f : Nat) (es : List E) | new (c : Nat) (es : List E) | mth (m : Nat) (o : E) (es : List E)
  | blt (b : Bf) (es : List E) | bmt (m : Bm) (o : E) (es : List E)
  | isi (a : E) (tys : List Ty)
  | val (a : E)
  | lc (k : ItK) (es : List E) (tg : Tg) (own : List Nat) (cs : List E) (e : E)
inductive S where
  | set (i : Nat) (e : E) | seta (o : E) (f : Nat) (e : E) | seti (o i e : E) | sett (tg : Tg) (e : E)
  | expr (e : E) | ret (e : E) | retn
  | ifs (t : E) (a b : List S)
  | fors (k : ItK) (es : List E) (tg : Tg) (body : List S)
  | whil (t : E) (body : List S)
  | pass | brk | cont

/-- no exception is let out -/
def Res.quiet {α : Type} : Res α → Res α
  | .exc _ _ _ => .bad
  | r => r
@[simp] theorem quiet_ok {α : Type} {a : α} {h : Hs} : (Res.ok a h).quiet = .ok a h := rfl
/-! ### values -/
abbrev lim : Nat := 16777216
def valG {κ β : Type} [DecidableEq κ] : List (κ × β) → κ → Option β
  | [], _ => none
  | (g, x) :: r, f => if g = f then some x else valG r f
/-- in its place, or at the end (a dict) -/
def putG {κ β : Type} [DecidableEq κ] (f : κ) (v : β) : List (κ × β) → List (κ × β)
  | [] => [(f, v)]
  | (g, x) :: r => if g = f then (g, v) :: r.map (fun kv => if kv.1 = f then (kv.1, v) else kv) else (g, x) :: putG f v r
/-- the same of an instance's attributes -/
def putA {κ β : Type} [DecidableEq κ] (f : κ) (v : β) : List (κ × β) → List (κ × β)
  | [] => [(f, v)]
  | (g, x) :: r => if g = f then (g, v) :: r else (g, x) :: putA f v r
def wK : Key → W
  | .inl i => .int i
  | .inr s => .str s
def keyW : W → Option Key
  | .int i => some (.inl i)
  | .str s => some (.inr s)
  | _ => none
/-- key, value, key, value .. -/
def pairW : List W → Option (List (Key × W))
  | [] => some []
  | k :: v :: r => (keyW k).bind fun q => (pairW r).map fun ps => (q, v) :: ps
  | _ => none
mutual
/-- data, as HandS names them -/
def datW : W → Option PyData
  | .non => some .none
  | .bl b => some (.bool b)
  | .int i => some (.int i)
  | .str s => some (.str s)
  | .tup ws => (datWs ws).map .tuple
  | .loc _ => none
def datWs : List W → Option (List PyData)
  | [] => some []
  | w :: ws => (datW w).bind fun d => (datWs ws).map fun ds => d :: ds
end
/-- data, a list of data too -/
def datH (h : Hs) : W → Option PyData
  | .loc n => match h[n]? with
    | some (.lst ws) => (datWs ws).map .list
    | some (.frz ws) => (datWs ws).map .list
    | _ => none
  | w => datW w
def eqR (h : Hs) (x y : W) : Option Bool :=
  match datH h x, datH h y with
  | some d, some e => if SeqAt.shaped d = true ∧ SeqAt.shaped e = true then some (PyData.eqv d e) else none
  | _, _ => none
/-- x in y -/
def inR (h : Hs) (x y : W) : Option Bool :=
  match y with
  | .tup ws => match datW x, datWs ws with
    | some d, some ds => if SeqAt.shaped d = true ∧ SeqAt.shaped (.tuple ds) = true then some (ds.any fun z => PyData.eqv z d) else none
    | _, _ => none
  | .loc n => match h[n]? with
    | some (.lst ws) => match datW x, datWs ws with
      | some d, some ds => if SeqAt.shaped d = true ∧ SeqAt.shaped (.list ds) = true then some (ds.any fun z => PyData.eqv z d) else none
      | _, _ => none
    | some (.dct kvs) => (keyW x).map fun k => (valG kvs k).isSome
    | _ => none
  | _ => none
def isScal : W → Bool
  | .non => true
  | .bl _ => true
  | .int _ => true
  | .str _ => true
  | _ => false
def eqS : W → W → Bool
  | .non, .non => true
  | .bl a, .bl b => a == b
  | .int a, .int b => decide (a = b)
  | .str a, .str b => decide (a = b)
  | _, _ => false
def isNon : W → Bool
  | .non => true
  | _ => false
def isBl (b : Bool) : W → Bool
  | .bl a => decide (a = b)
  | _ => false
def isData : W → Bool
  | .tup _ => false
  | .loc _ => false
  | _ => true
def cmpW (op : Cop) (x y : W) (h : Hs) : Option Bool :=
  match op with
  | .eq => eqR h x y
  | .ne => (eqR h x y).map (! ·)
  | .lt => match x, y with | .int i, .int j => some (decide (i < j)) | _, _ => none
  | .le => match x, y with | .int i, .int j => some (decide (i ≤ j)) | _, _ => none
  | .gt => match x, y with | .int i, .int j => some (decide (j < i)) | _, _ => none
  | .ge => match x, y with | .int i, .int j => some (decide (j ≤ i)) | _, _ => none
  | .is => match y with
    | .non => some (isNon x)
    | .bl b => some (isBl b x)
    | _ => none
  | .isnot => match y with
    | .non => some (!isNon x)
    | .bl b => some (!isBl b x)
    | _ => none
  | .inn => inR h x y
  | .notin => (inR h x y).map (! ·)
def binW (op : Bop) (x y : W) (h : Hs) : Res W :=
  match op, x, y with
  | .add, .int i, .int j => .ok (.int (i + j)) h
  | .add, .str a, .str b => if a.length + b.length ≤ lim then .ok (.str (a ++ b)) h else .bad
  | .add, .tup a, .tup b => if a.length + b.length ≤ lim then .ok (.tup (a ++ b)) h else .bad
  | .add, .loc m, .loc n => match h[m]?, h[n]? with
    | some (.lst a), some (.lst b) => if a.length + b.length ≤ lim then .ok (.loc h.length) (h ++ [.lst (a ++ b)]) else .bad
    | _, _ => .bad
  | .sub, .int i, .int j => .ok (.int (i - j)) h
  | .mul, .int i, .int j => if i.natAbs.log2 + j.natAbs.log2 < 1000000 then .ok (.int (i * j)) h else .bad
  | .fdiv, .int i, .int j => if 0 < j ∧ j.natAbs.log2 < 9000 then .ok (.int (i / j)) h else .bad
  | .mod, .int i, .int j => if 0 < j then .ok (.int (i % j)) h else .bad
  | .shl, .int i, .int j => if 0 ≤ j ∧ j ≤ 1000000 ∧ i.natAbs < 2 ^ 64 then .ok (.int (i * 2 ^ j.toNat)) h else .bad
  | .shr, .int i, .int j => if 0 ≤ j then .ok (.int (i / 2 ^ j.toNat)) h else .bad
  | .band, .int i, .int j => .ok (.int (Builtin.bitAnd i j)) h
  | .bor, .int i, .int j => .ok (.int (Builtin.bitOr i j)) h
  | .bxor, .int i, .int j => .ok (.int (Builtin.bitXor i j)) h
  | _, _, _ => .bad
def truW (x : W) (h : Hs) : Option Bool :=
  match x with
  | .non => some false
  | .bl b => some b
  | .int i => some (i != 0)
  | .str s => if s.length ≤ lim then some ((s.length : Int) != 0) else none
  | .tup ws => some (!ws.isEmpty)
  | .loc n => match h[n]? with
    | some (.lst ws) => some (!ws.isEmpty)
    | some (.frz ws) => some (!ws.isEmpty)
    | some (.dct kvs) => some (!kvs.isEmpty)
    | _ => none
def lenW (x : W) (h : Hs) : Option Nat :=
  match x with
  | .str s => if s.length ≤ lim then some s.length else none
  | .tup ws => some ws.length
  | .loc n => match h[n]? with
    | some (.lst ws) => some ws.length
    | some (.frz ws) => some ws.length
    | _ => none
  | _ => none
def ixW (x i : W) (h : Hs) : Option W :=
  match x with
  | .tup ws => match i with | .int k => atI ws k | _ => none
  | .str s => match i with | .int k => if s.length ≤ lim then (atI s.cps.toList k).map fun c => W.str ⟨#[c]⟩ else none | _ => none
  | .loc n => match h[n]? with
    | some (.lst ws) => match i with | .int k => atI ws k | _ => none
    | some (.frz ws) => match i with | .int k => atI ws k | _ => none
    | some (.dct kvs) => (keyW i).bind fun k => valG kvs k
    | _ => none
  | _ => none
def cutG {α : Type} (xs : List α) (lo hi : Option Int) : List α := (xs.drop (HT.sIx xs.length 0 lo)).take (HT.sIx xs.length xs.length hi - HT.sIx xs.length 0 lo)
def slcW (x : W) (lo hi : Option Int) (h : Hs) : Res W :=
  match x with
  | .tup ws => .ok (.tup (cutG ws lo hi)) h
  | .loc n => match h[n]? with
    | some (.lst ws) => .ok (.loc h.length) (h ++ [.lst (cutG ws lo hi)])
    | some (.frz ws) => .ok (.loc h.length) (h ++ [.lst (cutG ws lo hi)])
    | _ => .bad
  | _ => .bad
inductive TyN where | non | bool | int | str | tup | lst | dct
def tyW (x : W) (h : Hs) : Option TyN :=
  match x with
  | .non => some .non
  | .bl _ => some .bool
  | .int _ => some .int
  | .str _ => some .str
  | .tup _ => some .tup
  | .loc n => match h[n]? with
    | some (.lst _) => some .lst
    | some (.dct _) => some .dct
    | _ => none
def isTy : TyN → Ty → Bool
  | .tup, .tup => true
  | .lst, .lst => true
  | .int, .int => true
  | .bool, .int => true
  | .bool, .bool => true
  | .str, .str => true
  | _, _ => false
def isiAny (x : W) (h : Hs) (ts : List Ty) : Option Bool := (tyW x h).map fun a => ts.any (isTy a)
/-- items of a sequence -/
def itemsW (x : W) (h : Hs) : Option (List W) :=
  match x with
  | .tup ws => some ws
  | .loc n => match h[n]? with
    | some (.lst ws) => some ws
    | some (.frz ws) => some ws
    | some (.dct kvs) => some (kvs.map fun p => wK p.1)
    | _ => none
  | _ => none
def bltW (b : Bf) (xs : List W) (h : Hs) : Res W :=
  match b, xs with
  | .len, [x] => match lenW x h with | some n => .ok (.int n) h | none => .bad
  | .abs, [.int i] => .ok (.int (if i < 0 then -i else i)) h
  | .int, [.int i] => .ok (.int i) h
  | .int, [.bl b] => .ok (.int (if b then 1 else 0)) h
  | .list, [x] => match itemsW x h with | some ws => .ok (.loc h.length) (h ++ [.lst ws]) | none => .bad
  | .tuple, [.tup ws] => .ok (.tup ws) h
  | .tuple, [.loc n] => match h[n]? with
    | some (.lst ws) => .ok (.tup ws) h
    | some (.frz ws) => .ok (.tup ws) h
    | _ => .bad
  | .min2, [.int i, .int j] => .ok (.int (if j < i then j else i)) h
  | .max2, [.int i, .int j] => .ok (.int (if j > i then j else i)) h
  | _, _ => .bad
def lstM : Bm → Bool
  | .append => true | .extend => true | .insert => true | .pop0 => true | _ => false
def dctM : Bm → Bool
  | .get1 => true | .get2 => true | _ => false
/-- what kind of thing has this method -/
def kindW (m : Bm) (o : W) (h : Hs) : Bool :=
  match o with
  | .loc n => match h[n]? with
    | some (.lst _) => lstM m
    | some (.dct _) => dctM m
    | _ => false
  | _ => false
def bmtW (m : Bm) (o : W) (xs : List W) (h : Hs) : Res W :=
  match o with
  | .loc n => match h[n]? with
    | some (.lst ws) => match m, xs with
      | .append, [x] => if ws.length < lim then .ok .non (h.set n (.lst (ws ++ [x]))) else .bad
      | .extend, [.loc k] => match h[k]? with
        | some (.lst us) => if ws.length + us.length ≤ lim then .ok .non (h.set n (.lst (ws ++ us))) else .bad
        | _ => .bad
      | .insert, [.int i, x] => if ws.length < lim ∧ 0 ≤ i ∧ i < 2 ^ 63 then .ok .non (h.set n (.lst (ws.take i.toNat ++ [x] ++ ws.drop i.toNat))) else .bad
      | .pop0, [] => match ws[ws.length - 1]? with
        | some x => .ok x (h.set n (.lst ws.dropLast))
        | none => .bad
      | _, _ => .bad
    | some (.dct kvs) => match m, xs with
      | .get1, [k] => match keyW k with | some k => .ok ((valG kvs k).getD .non) h | none => .bad
      | .get2, [k, x] => match keyW k with | some k => .ok ((valG kvs k).getD x) h | none => .bad
      | _, _ => .bad
    | _ => .bad
  | _ => .bad

/-! ### targets, loops -/
mutual
def bindTg : Tg → W → List (Option W) → Option (List (Option W))
  | .nm i, w, env => some (env.set i (some w))
  | .tp ts, w, env => match w with
    | .tup ws => bindTgs ts ws env
    | _ => none
def bindTgs : List Tg → List W → List (Option W) → Option (List (Option W))
  | [], [], env => some env
  | t :: ts, w :: ws, env => (bindTg t w env).bind fun env1 => bindTgs ts ws env1
  | _, _, _ => none
end
def wipeG {α : Type} (σ : List (Option α)) : List Nat → List (Option α)
  | [] => σ
  | v :: vs => (wipeG σ vs).set v none
/-- what is walked: items that stand, or the list at a place as it is at each turn -/
inductive Src where | items (ws : List W) | live (n : Nat) (cnt : Nat)
def intsFrom (lo : Int) : Nat → List W
  | 0 => []
  | n + 1 => .int lo :: intsFrom (lo + 1) n
def srcW (k : ItK) (xs : List W) (h : Hs) : Option Src :=
  match k, xs with
  | .seq, [.tup ws] => some (.items ws)
  | .seq, [.loc n] => match h[n]? with
    | some (.lst ws) => some (.live n ws.length)
    | some (.frz ws) => some (.live n ws.length)
    | _ => none
  | .range, [.int j] => if -(2 ^ 62) ≤ j ∧ j < 2 ^ 62 then some (.items (intsFrom 0 j.toNat)) else none
  | .range, [.int i, .int j] => if -(2 ^ 62) ≤ i ∧ i < 2 ^ 62 ∧ -(2 ^ 62) ≤ j ∧ j < 2 ^ 62 then some (.items (intsFrom i (j - i).toNat)) else none
  | _, _ => none
def readL (h : Hs) (n : Nat) : Option (List W) := match h[n]? with
  | some (.lst ws) => some ws
  | some (.frz ws) => some ws
  | _ => none
/-- the items as they are now; how many turns -/
def curW (src : Src) (h : Hs) : Option (List W) := match src with
  | .items ws => some ws
  | .live n _ => readL h n
def cntS : Src → Nat
  | .items ws => ws.length
  | .live _ c => c
/-- turns: c are left, i is next; step gives the next state, and whether the loop goes on -/
def loopG {σ : Type} (step : W → σ → Hs → Res (Bool × σ)) (src : Src) : Nat → Nat → σ → Hs → Res σ
  | 0, i, s, h => match curW src h with
    | some ws => if ws.length ≤ i then .ok s h else .bad
    | none => .bad
  | c + 1, i, s, h => match curW src h with
    | some ws => match ws[i]? with
      | some w => (step w s h).bind fun p h1 => if p.1 = true then loopG step src c (i + 1) p.2 h1 else .ok p.2 h1
      | none => .bad
    | none => .bad
def loopS {σ : Type} (step : W → σ → Hs → Res (Bool × σ)) (src : Src) (s : σ) (h : Hs) : Res σ := loopG step src (cntS src) 0 s h
/-- turns over items that stand -/
def loopI {σ : Type} (step : W → σ → Hs → Res (Bool × σ)) : List W → σ → Hs → Res σ
  | [], s, h => .ok s h
  | w :: ws, s, h => (step w s h).bind fun p h1 => if p.1 = true then loopI step ws p.2 h1 else .ok p.2 h1
theorem loopG_items {σ : Type} {step : W → σ → Hs → Res (Bool × σ)} {all : List W} : ∀ (ws pre : List W) (s : σ) (h : Hs), all = pre ++ ws → loopG step (.items all) ws.length pre.length s h = loopI step ws s h
  | [], pre, s, h, e => by
    show (if all.length ≤ pre.length then Res.ok s h else .bad) = .ok s h
    rw [if_pos (by rw [e]; simp)]
  | w :: ws, pre, s, h, e => by
    have hw : all[pre.length]? = some w := by rw [e, List.getElem?_append_right (Nat.le_refl _)]; simp
    show (match all[pre.length]? with
      | some w => (step w s h).bind fun p h1 => if p.1 = true then loopG step (.items all) ws.length (pre.length + 1) p.2 h1 else .ok p.2 h1
      | none => .bad) = _
    rw [hw]
    show (step w s h).bind _ = (step w s h).bind _
    congr 1
    funext p h1
    split
    · have := loopG_items (step := step) (all := all) ws (pre ++ [w]) p.2 h1 (by rw [e]; simp)
      rw [List.length_append] at this
      exact this
    · rfl
theorem loopS_items {σ : Type} {step : W → σ → Hs → Res (Bool × σ)} {ws : List W} {s : σ} {h : Hs} : loopS step (.items ws) s h = loopI step ws s h := loopG_items ws [] s h rfl

/-! ### the program -/
structure FnI where
  np : Nat
  nl : Nat
  body : List S
structure ClI where
  init : Nat
  mths : List (Nat × Nat)
  prps : List (Nat × Nat)
  add : Option Nat
structure Tab where
  fns : List FnI
  cls : List ClI

/-! ### expressions -/
abbrev En := List (Option W)
inductive Fl where | nx (env : En) | rt (w : W) | bk (env : En) | ct (env : En) | xc (c : Nat) (fs : List (Nat × W)) (env : En)
/-- an exception of an expression, at these slots -/
def Res.lift {α : Type} (r : Res α) (env : En) (f : α → Hs → Res Fl) : Res Fl := match r with
  | .ok a h => f a h
  | .exc c fs h => .ok (.xc c fs env) h
  | .bad => .bad
@[simp] theorem lift_ok {α : Type} {a : α} {h : Hs} {env : En} {f : α → Hs → Res Fl} : (Res.ok a h).lift env f = f a h := rfl
def ofO {α : Type} (o : Option α) (h : Hs) : Res α := match o with
  | some a => .ok a h
  | none => .bad
@[simp] theorem ofO_some {α : Type} {a : α} {h : Hs} : ofO (some a) h = .ok a h := rfl
@[simp] theorem ofO_none {α : Type} {h : Hs} : ofO (none : Option α) h = .bad := rfl
def newW (T : Tab) (cl : Nat → List W → Hs → Res W) (c : Nat) (xs : List W) (h : Hs) : Res W :=
  match T.cls[c]? with
  | some i => (cl i.init (.loc h.length :: xs) (h ++ [.ins c []])).quiet.bind fun r h1 => if isNon r = true then .ok (.loc h.length) h1 else .bad
  | none => .bad
/-- the def of a method -/
def mthF (T : Tab) (m : Nat) (o : W) (h : Hs) : Option Nat :=
  match o with
  | .loc n => match h[n]? with
    | some (.ins c fs) => match T.cls[c]? with
      | some i => if (valG fs m).isNone = true then valG i.mths m else none
      | none => none
    | _ => none
  | _ => none
def attW (T : Tab) (cl : Nat → List W → Hs → Res W) (o : W) (f : Nat) (h : Hs) : Res W :=
  match o with
  | .loc n => match h[n]? with
    | some (.ins c fs) => match T.cls[c]? with
      | some i => match valG i.prps f with
        | some g => (cl g [.loc n] h).quiet
        | none => match valG i.mths f with
          | some _ => .bad
          | none => ofO (valG fs f) h
      | none => .bad
    | _ => .bad
  | _ => .bad
/-- own + as a method -/
def addW (T : Tab) (cl : Nat → List W → Hs → Res W) (op : Bop) (x y : W) (h : Hs) : Res W :=
  match op, x, y with
  | .add, .loc m, .loc n => match h[m]?, h[n]? with
    | some (.ins c _), some (.ins d _) => if c = d then (match T.cls[c]? with
      | some i => match i.add with
        | some f => (cl f [x, y] h).quiet
        | none => .bad
      | none => .bad) else .bad
    | _, _ => binW op x y h
  | _, _, _ => binW op x y h
section
variable (T : Tab) (cl : Nat → List W → Hs → Res W)
mutual
def evE : E → En → Hs → Res W
  | .var i, env, h => match env[i]? with
    | some (some w) => .ok w h
    | _ => .bad
  | .lit w, _, h => .ok w h
  | .bin op a b, env, h => (evE a env h).bind fun x h1 => (evE b env h1).bind fun y h2 => addW T cl op x y h2
  | .neg a, env, h => (evE a env h).bind fun x h1 => match x with
    | .int i => .ok (.int (-i)) h1
    | _ => .bad
  | .cmp op a b, env, h => (evE a env h).bind fun x h1 => (evE b env h1).bind fun y h2 => (ofO (cmpW op x y h2) h2).bind fun k h3 => .ok (.bl k) h3
  | .chn p q a b c, env, h => (evE a env h).bind fun x h1 => (evE b env h1).bind fun y h2 => (ofO (cmpW p x y h2) h2).bind fun k h3 =>
    if k = true then (evE c env h3).bind fun z h4 => (ofO (cmpW q y z h4) h4).bind fun k2 h5 => .ok (.bl k2) h5 else .ok (.bl false) h3
  | .and es, env, h => evAndV es env h
  | .or es, env, h => evOrV es env h
  | .not a, env, h => (evE a env h).bind fun x h1 => match x with
    | .bl k => .ok (.bl (!k)) h1
    | _ => .bad
  | .val a, env, h => evE a env h
  | .ite t a b, env, h => (evT t env h).bind fun k h1 => if k = true then evE a env h1 else evE b env h1
  | .tup es, env, h => (evEs es env h).bind fun ws h1 => if ws.length ≤ lim then .ok (.tup ws) h1 else .bad
  | .lst es, env, h => (evEs es env h).bind fun ws h1 => if ws.length ≤ lim then .ok (.loc h1.length) (h1 ++ [.lst ws]) else .bad
  | .dct es, env, h => (evEs es env (h ++ [.dct []])).bind fun ws h1 => match pairW ws with
    | none => .bad
    | some ps => match h1[h.length]? with
      | some (.dct []) => .ok (.loc h.length) (h1.set h.length (.dct (ps.foldl (fun acc p => putG p.1 p.2 acc) [])))
      | _ => .bad
  | .ix a i, env, h => (evE a env h).bind fun x h1 => (evE i env h1).bind fun y h2 => ofO (ixW x y h2) h2
  | .slc a lo hi, env, h => (evE a env h).bind fun x h1 => (evO lo env h1).bind fun l h2 => (evO hi env h2).bind fun u h3 => slcW x l u h3
  | .att a f, env, h => (evE a env h).bind fun x h1 => attW T cl x f h1
  | .call f es, env, h => (evEs es env h).bind fun ws h1 => cl f ws h1
  | .new c es, env, h => (evEs es env h).bind fun ws h1 => newW T cl c ws h1
  | .mth m o es, env, h => (evE o env h).bind fun x h1 => match mthF T m x h1 with
    | none => .bad
    | some f => (evEs es env h1).bind fun ws h2 => (cl f (x :: ws) h2).quiet
  | .blt b es, env, h => (evEs es env h).bind fun ws h1 => bltW b ws h1
  | .bmt m o es, env, h => (evE o env h).bind fun x h1 => if kindW m x h1 = true then (evEs es env h1).bind fun ws h2 => bmtW m x ws h2 else .bad
  | .isi a tys, env, h => (evE a env h).bind fun x h1 => (ofO (isiAny x h1 tys) h1).bind fun k h2 => .ok (.bl k) h2
  | .lc k es tg own cs e, env, h => (evEs es env h).bind fun xs h1 => match srcW k xs h1 with
    | none => .bad
    | some src => (loopS (fun x (_ : Unit) g => match bindTg tg x (wipeG env own) with
        | none => .bad
        | some env1 => (evCs cs env1 g).quiet.bind fun b g1 => if b = true then (evE e env1 g1).quiet.bind fun y g2 => (match g2[h1.length]? with
            | some (.lst acc) => if acc.length < lim then .ok (true, ()) (g2.set h1.length (.lst (acc ++ [y]))) else .bad
            | _ => .bad) else .ok (true, ()) g1) src () (h1 ++ [.lst []])).bind fun _ h2 => .ok (.loc h1.length) h2
def evEs : List E → En → Hs → Res (List W)
  | [], _, h => .ok [] h
  | e :: es, env, h => (evE e env h).bind fun w h1 => (evEs es env h1).bind fun ws h2 => .ok (w :: ws) h2
def evT : E → En → Hs → Res Bool
  | .and es, env, h => evAnd es env h
  | .or es, env, h => evOr es env h
  | .not a, env, h => (evT a env h).bind fun k h1 => .ok (!k) h1
  | .val e, env, h => (evE e env h).bind fun x h1 => ofO (truW x h1) h1
  | _, _, _ => .bad
def evAnd : List E → En → Hs → Res Bool
  | [], _, _ => .bad
  | e :: es, env, h => match es with
    | [] => evT e env h
    | _ :: _ => (evT e env h).bind fun k h1 => if k = true then evAnd es env h1 else .ok false h1
def evOr : List E → En → Hs → Res Bool
  | [], _, _ => .bad
  | e :: es, env, h => match es with
    | [] => evT e env h
    | _ :: _ => (evT e env h).bind fun k h1 => if k = true then .ok true h1 else evOr es env h1
def evAndV : List E → En → Hs → Res W
  | [], _, _ => .bad
  | e :: es, env, h => match es with
    | [] => evE e env h
    | _ :: _ => (evE e env h).bind fun x h1 => match x with
      | .bl k => if k = true then evAndV es env h1 else .ok (.bl false) h1
      | _ => .bad
def evOrV : List E → En → Hs → Res W
  | [], _, _ => .bad
  | e :: es, env, h => match es with
    | [] => evE e env h
    | _ :: _ => (evE e env h).bind fun x h1 => match x with
      | .bl k => if k = true then .ok (.bl true) h1 else evOrV es env h1
      | _ => .bad
def evO : Option E → En → Hs → Res (Option Int)
  | none, _, h => .ok none h
  | some e, env, h => (evE e env h).bind fun x h1 => match x with
    | .int i => .ok (some i) h1
    | _ => .bad
def evCs : List E → En → Hs → Res Bool
  | [], _, h => .ok true h
  | e :: es, env, h => match es with
    | [] => evT e env h
    | _ :: _ => .bad
end

/-- o.f = w -/
def setA (o : W) (f : Nat) (w : W) (h : Hs) : Res Unit :=
  match o with
  | .loc n => match h[n]? with
    | some (.ins c fs) => match T.cls[c]? with
      | some i => if (valG i.prps f).isNone = true ∧ (valG i.mths f).isNone = true ∧ fs.length < 1000 then .ok () (h.set n (.ins c (putA f w fs))) else .bad
      | none => .bad
    | _ => .bad
  | _ => .bad
/-- o[i] = w -/
def setI (o i w : W) (h : Hs) : Res Unit :=
  match o with
  | .loc n => match h[n]? with
    | some (.lst ws) => match i with
      | .int k => match ixN ws.length k with
        | some j => .ok () (h.set n (.lst (ws.set j w)))
        | none => .bad
      | _ => .bad
    | some (.dct kvs) => match keyW i with
      | some k => if kvs.length < lim then .ok () (h.set n (.dct (putG k w kvs))) else .bad
      | none => .bad
    | _ => .bad
  | _ => .bad
def whilW (c : En → Hs → Res Bool) (b : En → Hs → Res Fl) : Nat → En → Hs → Res Fl
  | 0, _, _ => .bad
  | n + 1, env, h => (c env h).lift env fun k h1 => if k = true then (b env h1).bind fun fl h2 => (match fl with
      | .nx e => whilW c b n e h2
      | .ct e => whilW c b n e h2
      | .bk e => .ok (.nx e) h2
      | fl => .ok fl h2) else .ok (.nx env) h1
def fuelW : Nat := 1000000000000
/-- one turn of a for -/
def turnW (tg : Tg) (b : En → Hs → Res Fl) (x : W) (s : Fl) (g : Hs) : Res (Bool × Fl) :=
  match s with
  | .nx env => match bindTg tg x env with
    | none => .bad
    | some env1 => (b env1 g).bind fun fl g1 => match fl with
      | .nx e => .ok (true, .nx e) g1
      | .ct e => .ok (true, .nx e) g1
      | .bk e => .ok (false, .nx e) g1
      | fl => .ok (false, fl) g1
  | _ => .bad
mutual
def evS : S → En → Hs → Res Fl
  | .set i e, env, h => (evE T cl e env h).lift env fun w h1 => .ok (.nx (env.set i (some w))) h1
  | .seta o f e, env, h => (evE T cl e env h).lift env fun w h1 => (evE T cl o env h1).lift env fun x h2 => (setA T x f w h2).bind fun _ h3 => .ok (.nx env) h3
  | .seti o i e, env, h => (evE T cl e env h).lift env fun w h1 => (evE T cl o env h1).lift env fun x h2 => (evE T cl i env h2).lift env fun y h3 => (setI x y w h3).bind fun _ h4 => .ok (.nx env) h4
  | .sett tg e, env, h => (evE T cl e env h).lift env fun w h1 => match bindTg tg w env with
    | some env1 => .ok (.nx env1) h1
    | none => .bad
  | .expr e, env, h => (evE T cl e env h).lift env fun _ h1 => .ok (.nx env) h1
  | .ret e, env, h => (evE T cl e env h).lift env fun w h1 => .ok (.rt w) h1
  | .retn, _, h => .ok (.rt .non) h
  | .ifs t a b, env, h => (evT T cl t env h).lift env fun k h1 => if k = true then evSs a env h1 else evSs b env h1
  | .fors k es tg body, env, h => (evEs T cl es env h).lift env fun xs h1 => match srcW k xs h1 with
    | none => .bad
    | some src => loopS (turnW tg (evSs body)) src (.nx env) h1
  | .whil t body, env, h => whilW (evT T cl t) (evSs body) fuelW env h
  | .pass, env, h => .ok (.nx env) h
  | .brk, env, h => .ok (.bk env) h
  | .cont, env, h => .ok (.ct env) h
def evSs : List S → En → Hs → Res Fl
  | [], env, h => .ok (.nx env) h
  | s :: ss, env, h => (evS s env h).bind fun fl h1 => match fl with
    | .nx env1 => evSs ss env1 h1
    | fl => .ok fl h1
end
end
def evFn (T : Tab) : Nat → Nat → List W → Hs → Res W
  | 0, _, _, _ => .bad
  | k + 1, f, ws, h => match T.fns[f]? with
    | none => .bad
    | some i => if ws.length = i.np then (evSs T (evFn T k) i.body (ws.map some ++ List.replicate (i.nl - i.np) none) h).quiet.bind fun fl h1 => (match fl with
        | .rt w => .ok w h1
        | .nx _ => .ok .non h1
        | .xc c fs _ => .exc c fs h1
        | _ => .bad) else .bad
end Pc
set_option Elab.async false
set_option linter.all false
set_option maxRecDepth 100000
set_option maxHeartbeats 4000000
namespace Pc
open PySem PySem.Spec PyProof.Rows L2

theorem lim_le {n : Nat} (h : n ≤ lim) : n ≤ sizeLine := by rw [sizeLine_eq]; exact h
theorem lim_lt {n : Nat} (h : n < lim) : n < sizeLine := by rw [sizeLine_eq]; exact h

section
variable {R : Rd} {H : Hp} {ρ : List Addr} {h : Hs}
mutual
theorem dp_of : ∀ {w : W} {v : V} {d : PyData}, Rep R H ρ w v → datW w = some d → Dp R.K H v d
  | .non, v, d, r, e => by
    have r : v = .non := r
    have e : some PyData.none = some d := e
    cases e; rw [r]; exact .non
  | .bl b, v, d, r, e => by
    have r : v = .bl b := r
    have e : some (PyData.bool b) = some d := e
    cases e; rw [r]; exact .bl b
  | .int b, v, d, r, e => by
    have r : v = .int b := r
    have e : some (PyData.int b) = some d := e
    cases e; rw [r]; exact .int b
  | .str b, v, d, r, e => by
    have r : v = .str b := r
    have e : some (PyData.str b) = some d := e
    cases e; rw [r]; exact .str b
  | .loc n, v, d, r, e => by
    have e : none = some d := e
    cases e
  | .tup ws, v, d, r, e => by
    obtain ⟨a, vs, rfl, s, q⟩ := r
    have e : (datWs ws).map PyData.tuple = some d := e
    cases ed : datWs ws with
    | none => rw [ed] at e; cases e
    | some ds =>
      rw [ed] at e
      cases e
      exact .tup s (dps_of q ed)
theorem dps_of : ∀ {ws : List W} {vs : List V} {ds : List PyData}, Reps R H ρ ws vs → datWs ws = some ds → DpAll R.K H vs ds
  | [], vs, ds, r, e => by
    have r : vs = [] := r
    have e : some [] = some ds := e
    cases e; rw [r]; exact .nil
  | w :: ws, vs, ds, r, e => by
    obtain ⟨v, q, rfl, a, b⟩ := r
    have e : (datW w).bind (fun d => (datWs ws).map fun ds => d :: ds) = some ds := e
    cases ed : datW w with
    | none => rw [ed] at e; cases e
    | some d =>
      rw [ed] at e
      have e : (datWs ws).map (fun ds => d :: ds) = some ds := e
      cases es : datWs ws with
      | none => rw [es] at e; cases e
      | some ds2 =>
        rw [es] at e
        cases e
        exact .cons (dp_of a ed) (dps_of b es)
end
theorem dph_of (A : All R H ρ h) {w : W} {v : V} {d : PyData} (r : Rep R H ρ w v) (e : datH h w = some d) : Dp R.K H v d := by
  cases w with
  | loc n =>
    obtain ⟨a, ea, rfl⟩ := r
    unfold datH at e
    cases eo : h[n]? with
    | none => simp only [eo] at e; cases e
    | some o =>
      have ro := A.at eo ea
      cases o with
      | lst ws =>
        obtain ⟨vs, eh, q⟩ := ro
        simp only [eo] at e
        cases ed : datWs ws with
        | none => rw [ed] at e; cases e
        | some ds => rw [ed] at e; cases e; exact .lst (SqL.of eh) (dps_of q ed)
      | frz ws =>
        obtain ⟨vs, eh, q⟩ := RepO.sqL ro
        simp only [eo] at e
        cases ed : datWs ws with
        | none => rw [ed] at e; cases e
        | some ds => rw [ed] at e; cases e; exact .lst eh (dps_of q ed)
      | dct kvs => simp only [eo] at e; cases e
      | ins c fs => simp only [eo] at e; cases e
  | non => exact dp_of r e
  | bl b => exact dp_of r e
  | int b => exact dp_of r e
  | str b => exact dp_of r e
  | tup ws => exact dp_of r e

/-- dicts by keys -/
theorem repK_val : ∀ {kvs : List (Key × W)} {ks : List (Key × V)} {k : Key}, RepK R H ρ kvs ks → match valG kvs k with
    | some w => ∃ v, valV ks k = some v ∧ Rep R H ρ w v
    | none => valV ks k = none
  | _, _, k, .nil => rfl
  | (g, x) :: r, (g2, y) :: s, k, .cons q t => by
    obtain ⟨e1, e2⟩ := q
    have e1 : g = g2 := e1
    subst e1
    have ih := repK_val (k := k) t
    unfold valG
    by_cases e : g = k
    · rw [if_pos e]
      exact ⟨y, valV_pos (p := (g, y)) e, e2⟩
    · rw [if_neg e]
      cases ev : valG r k with
      | none =>
        rw [ev] at ih
        exact (valV_neg (p := (g, y)) e).trans ih
      | some w =>
        rw [ev] at ih
        obtain ⟨v, h1, h2⟩ := ih
        exact ⟨v, (valV_neg (p := (g, y)) e).trans h1, h2⟩
theorem repK_length {kvs : List (Key × W)} {ks : List (Key × V)} (r : RepK R H ρ kvs ks) : kvs.length = ks.length := Paired.length r
theorem putK_cons {p : Key × V} {r : List (Key × V)} {k : Key} {v : V} : putK (p :: r) k v = if p.1 = k then (p.1, v) :: r.map (fun kv => if kv.1 = k then (kv.1, v) else kv) else p :: putK r k v := by
  unfold putK
  by_cases e : p.1 = k
  · rw [if_pos e]
    have h1 : ((p :: r).any fun kv => decide (kv.1 = k)) = true := by simp [e]
    rw [if_pos h1]
    simp [e]
  · rw [if_neg e]
    have h1 : ((p :: r).any fun kv => decide (kv.1 = k)) = (r.any fun kv => decide (kv.1 = k)) := by simp [e]
    rw [h1]
    split
    · simp [e]
    · simp
theorem repK_map {k : Key} {w : W} {v : V} (rw_ : Rep R H ρ w v) : ∀ {kvs : List (Key × W)} {ks : List (Key × V)}, RepK R H ρ kvs ks →
    RepK R H ρ (kvs.map fun kv => if kv.1 = k then (kv.1, w) else kv) (ks.map fun kv => if kv.1 = k then (kv.1, v) else kv)
  | _, _, .nil => .nil
  | (g, x) :: r, (g2, y) :: s, .cons q t => by
    obtain ⟨e1, e2⟩ := q
    have e1 : g = g2 := e1
    subst e1
    refine .cons ?_ (repK_map rw_ t)
    by_cases e : g = k
    · show (fun (p : Key × W) (q : Key × V) => p.1 = q.1 ∧ Rep R H ρ p.2 q.2) (if g = k then (g, w) else (g, x)) (if g = k then (g, v) else (g, y))
      rw [if_pos e, if_pos e]
      exact ⟨rfl, rw_⟩
    · show (fun (p : Key × W) (q : Key × V) => p.1 = q.1 ∧ Rep R H ρ p.2 q.2) (if g = k then (g, w) else (g, x)) (if g = k then (g, v) else (g, y))
      rw [if_neg e, if_neg e]
      exact ⟨rfl, e2⟩
theorem repK_put {k : Key} {w : W} {v : V} (rw_ : Rep R H ρ w v) : ∀ {kvs : List (Key × W)} {ks : List (Key × V)}, RepK R H ρ kvs ks → RepK R H ρ (putG k w kvs) (putK ks k v)
  | _, _, .nil => .cons ⟨rfl, rw_⟩ .nil
  | (g, x) :: r, (g2, y) :: s, .cons q t => by
    obtain ⟨e1, e2⟩ := q
    have e1 : g = g2 := e1
    subst e1
    rw [putK_cons]
    unfold putG
    by_cases e : g = k
    · rw [if_pos e, if_pos e]
      exact .cons ⟨rfl, rw_⟩ (repK_map rw_ t)
    · rw [if_neg e, if_neg e]
      exact .cons ⟨rfl, e2⟩ (repK_put rw_ t)
theorem repK_fold : ∀ {ps : List (Key × W)} {qs : List (Key × V)} {kvs : List (Key × W)} {ks : List (Key × V)}, RepK R H ρ ps qs → RepK R H ρ kvs ks →
    RepK R H ρ (ps.foldl (fun acc p => putG p.1 p.2 acc) kvs) (mergeK ks qs)
  | _, _, _, _, .nil, b => b
  | p :: ps, q :: qs, kvs, ks, .cons a t, b => by
    show RepK R H ρ (ps.foldl (fun acc p => putG p.1 p.2 acc) (putG p.1 p.2 kvs)) (mergeK (putK ks q.1 q.2) qs)
    obtain ⟨e1, e2⟩ := a
    rw [e1]
    exact repK_fold t (repK_put e2 b)
/-- attributes -/
theorem an_inj {l : List Str} (nd : l.Nodup) {i j : Nat} {x : Str} (a : l[i]? = some x) (b : l[j]? = some x) : i = j := nodup_ix nd a b
theorem repF_val (nd : R.an.Nodup) {f : Nat} {nm : Str} (ef : R.an[f]? = some nm) : ∀ {fs : List (Nat × W)} {gs : List (Str × V)}, RepF R H ρ fs gs → match valG fs f with
    | some w => ∃ v, gs.lookup nm = some v ∧ Rep R H ρ w v
    | none => gs.lookup nm = none
  | _, _, .nil => rfl
  | (g, x) :: r, (g2, y) :: s, .cons q t => by
    obtain ⟨e1, e2⟩ := q
    have e1 : R.an[g]? = some g2 := e1
    have ih := repF_val nd ef t
    unfold valG
    by_cases e : g = f
    · rw [if_pos e]
      subst e
      rw [ef] at e1
      cases e1
      exact ⟨y, by simp [List.lookup], e2⟩
    · rw [if_neg e]
      have ne : ¬ nm = g2 := fun z => e (an_inj nd e1 (z ▸ ef))
      have hl : List.lookup nm ((g2, y) :: s) = List.lookup nm s := by
        have hb : (nm == g2) = false := by simp [ne]
        show (match nm == g2 with | true => some y | false => List.lookup nm s) = _
        rw [hb]
      cases ev : valG r f with
      | none =>
        rw [ev] at ih
        exact hl.trans ih
      | some w =>
        rw [ev] at ih
        obtain ⟨v, h1, h2⟩ := ih
        exact ⟨v, hl.trans h1, h2⟩
theorem repF_put (nd : R.an.Nodup) {f : Nat} {nm : Str} (ef : R.an[f]? = some nm) {w : W} {v : V} (rw_ : Rep R H ρ w v) : ∀ {fs : List (Nat × W)} {gs : List (Str × V)}, RepF R H ρ fs gs → RepF R H ρ (putA f w fs) (putF nm v gs)
  | _, _, .nil => .cons ⟨ef, rw_⟩ .nil
  | (g, x) :: r, (g2, y) :: s, .cons q t => by
    obtain ⟨e1, e2⟩ := q
    have e1 : R.an[g]? = some g2 := e1
    unfold putA putF
    by_cases e : g = f
    · rw [if_pos e]
      subst e
      rw [ef] at e1
      cases e1
      rw [if_pos rfl]
      exact .cons ⟨ef, rw_⟩ t
    · rw [if_neg e, if_neg fun z : g2 = nm => e (an_inj nd e1 (z ▸ ef))]
      exact .cons ⟨e1, e2⟩ (repF_put nd ef rw_ t)
theorem repF_length {kvs : List (Nat × W)} {ks : List (Str × V)} (r : RepF R H ρ kvs ks) : kvs.length = ks.length := Paired.length r
end
end Pc
set_option Elab.async false
set_option linter.all false
set_option maxRecDepth 100000
set_option maxHeartbeats 4000000
namespace Pc
open PySem PySem.Spec PyProof.Rows L2

/-- what is wanted of an answer: a relation to HandS's things, the wish behind it, the wish of an exception -/
def RepX (R : Rd) (H : Hp) (ρ : List Addr) (c : Nat) (fs : List (Nat × W)) (cls : Value) (d : Option Addr) : Prop :=
  cls = .ref (R.ca c) ∧ ((fs = [] ∧ d = none) ∨ ∃ dd gs, d = some dd ∧ H dd = some (.xd gs) ∧ RepF R H ρ fs gs)
def Pst {α β : Type} (R : Rd) (rel : Hp → List Addr → α → β → Prop) (Ex : XK) (r : Res α) (H : Hp) (ρ : List Addr) (Q : β → Hp → Prop) : Prop :=
  match r with
  | .ok a h' => ∀ b H' ρ', Lt R H ρ H' ρ' → All R H' ρ' h' → rel H' ρ' a b → Q b H'
  | .exc c fs h' => ∀ cls d H' ρ', Lt R H ρ H' ρ' → All R H' ρ' h' → RepX R H' ρ' c fs cls d → Ex cls d H'
  | .bad => False
abbrev rV (R : Rd) : Hp → List Addr → W → V → Prop := fun H ρ w v => Rep R H ρ w v
abbrev rVs (R : Rd) : Hp → List Addr → List W → List V → Prop := fun H ρ w v => Reps R H ρ w v
def rEq {α : Type} : Hp → List Addr → α → α → Prop := fun _ _ a b => a = b
section
variable {α β γ δ : Type} {R : Rd} {rel : Hp → List Addr → α → β → Prop} {rel2 : Hp → List Addr → γ → δ → Prop} {Ex : XK} {r : Res α} {H H1 : Hp} {ρ ρ1 : List Addr} {Q Q2 : β → Hp → Prop}
theorem Pst.later (l : Lt R H ρ H1 ρ1) (p : Pst R rel Ex r H ρ Q) : Pst R rel Ex r H1 ρ1 Q := by
  cases r with
  | ok a h' => exact fun b H' ρ' l2 A q => p b H' ρ' (l.trans l2) A q
  | exc c fs h' => exact fun b d H' ρ' l2 A q => p b d H' ρ' (l.trans l2) A q
  | bad => exact p
theorem Pst.mono (p : Pst R rel Ex r H ρ Q) (h : ∀ b H', Q b H' → Q2 b H') : Pst R rel Ex r H ρ Q2 := by
  cases r with
  | ok a h' => exact fun b H' ρ' l2 A q => h _ _ (p b H' ρ' l2 A q)
  | exc c fs h' => exact p
  | bad => exact p
/-- what follows the first part of a run -/
theorem Pst.bind {f : α → Hs → Res γ} {Q : δ → Hp → Prop} (p : Pst R rel2 Ex (r.bind f) H ρ Q) :
    Pst R rel Ex r H ρ fun b H' => ∃ a h1 ρ1, r = .ok a h1 ∧ Lt R H ρ H' ρ1 ∧ All R H' ρ1 h1 ∧ rel H' ρ1 a b ∧ Pst R rel2 Ex (f a h1) H' ρ1 Q := by
  cases r with
  | ok a h' => exact fun b H' ρ' l A q => ⟨a, h', ρ', rfl, l, A, q, Pst.later l p⟩
  | exc c fs h' => exact p
  | bad => exact p
theorem Pst.ret {a : α} {b : β} {h : Hs} (p : Pst R rel Ex (.ok a h) H ρ Q) (A : All R H ρ h) (q : rel H ρ a b) : Q b H := p b H ρ .refl A q
theorem Pst.ret' {a : α} {b : β} {h : Hs} (p : Pst R rel Ex (.ok a h) H ρ Q) (l : Lt R H ρ H1 ρ1) (A : All R H1 ρ1 h) (q : rel H1 ρ1 a b) : Q b H1 := p b H1 ρ1 l A q
theorem Pst.ofO {o : Option α} {h : Hs} {P : Prop} (p : Pst R rel Ex (ofO o h) H ρ Q) (k : ∀ a, o = some a → Pst R rel Ex (.ok a h) H ρ Q → P) : P := by
  cases o with
  | none => exact False.elim p
  | some a => exact k a rfl p
end

/-- a rule that is chosen at the run -/
def rAny (X : Cx) (f : Value → Value → Sem Value) : R2 := fun x y H Q => ∃ r : R2, OpR X f r ∧ r x y H Q
theorem op_any {X : Cx} {f : Value → Value → Sem Value} : OpR X f (rAny X f) := by
  intro pins s σ H x y v u Q I rx ry ⟨r, hr, q⟩
  exact hr pins s σ H x y v u Q I rx ry q
def rAnyC (X : Cx) (f : Value) : List V → Hp → VK → Prop := fun xs H Q => ∃ r, CallR X f r ∧ r xs H Q
theorem call_any {X : Cx} {f : Value} : CallR X f (rAnyC X f) := by
  intro pins s σ H xs us Q I rs ⟨r, hr, q⟩
  exact hr pins s σ H xs us Q I rs q
def rAnyI (X : Cx) : R2 := fun x y H Q => ∃ r : R2, IxR X r ∧ r x y H Q
theorem ix_any {X : Cx} : IxR X (rAnyI X) := by
  intro a b pins s σ H x y v u Q I rx ry ⟨r, hr, q⟩ hs
  exact hr a b pins s σ H x y v u Q I rx ry q hs
def rAnyS (X : Cx) : V → Option Int → Option Int → Hp → VK → Prop := fun x lo hi H Q => ∃ r, SlR X r ∧ r x lo hi H Q
theorem sl_any {X : Cx} : SlR X (rAnyS X) := by
  intro pins s σ H x v vl vu lo hi sl Q I rx hs pl pu ⟨r, hr, q⟩
  exact hr pins s σ H x v vl vu lo hi sl Q I rx hs pl pu q
def rAnyM (X : Cx) (id : String) : V → List V → Hp → VK → Prop := fun x xs H Q => ∃ r, MtR X id r ∧ r x xs H Q
theorem mt_any {X : Cx} {id : String} : MtR X id (rAnyM X id) := by
  intro pins s σ H x xs v us Q I rx rs ⟨r, hr, q⟩
  exact hr pins s σ H x xs v us Q I rx rs q

def bopO : Bop → Operator
  | .add => .Add | .sub => .Sub | .mul => .Mult | .fdiv => .FloorDiv | .mod => .Mod | .shl => .LShift | .shr => .RShift | .band => .BitAnd | .bor => .BitOr | .bxor => .BitXor
def copO : Cop → CmpOp
  | .eq => .Eq | .ne => .NotEq | .lt => .Lt | .le => .LtE | .gt => .Gt | .ge => .GtE | .is => .Is | .isnot => .IsNot | .inn => .In | .notin => .NotIn

section
variable {X : Cx} {R : Rd} {H : Hp} {ρ : List Addr} {h : Hs} {Ex : XK} {Q : VK}
theorem bin_ok (hR : R.K = X.K) (A : All R H ρ h) {op : Bop} {x y : W} {v u : V} (rx : Rep R H ρ x v) (ry : Rep R H ρ y u) (p : Pst R (rV R) Ex (binW op x y h) H ρ Q) : rAny X (binaryOp (bopO op)) v u H Q := by
  have hInt : ∀ {g : Int → Int → Int} {f : Value → Value → Sem Value} {i j : Int}, x = .int i → y = .int j → OpR X f (rI0 fun i j => .int (g i j)) → Pst R (rV R) Ex (.ok (.int (g i j)) h) H ρ Q → rAny X f v u H Q := fun {g f i j} ex ey ho q => by
    subst ex ey
    have rx : v = .int i := rx
    have ry : u = .int j := ry
    subst rx ry
    exact ⟨_, ho, i, j, rfl, rfl, q.ret A rfl⟩
  have hIntC : ∀ {C : Int → Int → Prop} {g : Int → Int → Int} {f : Value → Value → Sem Value} {i j : Int}, x = .int i → y = .int j → OpR X f (rI C fun i j => .int (g i j)) → C i j → Pst R (rV R) Ex (.ok (.int (g i j)) h) H ρ Q → rAny X f v u H Q := fun {C g f i j} ex ey ho hc q => by
    subst ex ey
    have rx : v = .int i := rx
    have ry : u = .int j := ry
    subst rx ry
    exact ⟨_, ho, i, j, rfl, rfl, hc, q.ret A rfl⟩
  unfold binW at p
  split at p
  · exact hInt rfl rfl op_add p
  · rename_i a b
    split at p
    · rename_i hl
      have rx : v = .str a := rx
      have ry : u = .str b := ry
      subst rx ry
      exact ⟨_, op_add_str, a, b, rfl, rfl, lim_le hl, p.ret A rfl⟩
    · exact False.elim p
  · rename_i a b
    split at p
    · rename_i hl
      obtain ⟨xa, vs, rfl, hs, qs⟩ := rx
      obtain ⟨ya, us, rfl, ht, qt⟩ := ry
      rw [hR] at hs ht
      refine ⟨_, op_catA, xa, ya, vs, us, rfl, rfl, hs, ht, lim_le (by rw [← qs.length, ← qt.length]; exact hl), fun e => ?_, fun _ e => ?_, fun _ _ pn hp => ?_⟩
      · refine p.ret A ⟨ya, us, rfl, by rw [hR]; exact ht, ?_⟩
        have q := qs.append qt
        rw [e] at q
        exact q
      · refine p.ret A ⟨xa, vs, rfl, by rw [hR]; exact hs, ?_⟩
        have q := qs.append qt
        rw [e, List.append_nil] at q
        exact q
      · obtain ⟨A1, l⟩ := A.tup (o := .tup (vs ++ us)) hp
        exact p.ret' l A1 ⟨pn, vs ++ us, rfl, SqT.of upd_same, (qs.append qt).later l⟩
    · exact False.elim p
  · rename_i m n
    split at p
    · rename_i a b ea eb
      split at p
      · rename_i hl
        obtain ⟨xa, e1, rfl⟩ := rx
        obtain ⟨ya, e2, rfl⟩ := ry
        obtain ⟨vs, hv, qs⟩ := A.at ea e1
        obtain ⟨us, hu, qt⟩ := A.at eb e2
        refine ⟨_, op_cat, xa, ya, vs, us, rfl, rfl, hv, hu, lim_le (by rw [← qs.length, ← qt.length]; exact hl), fun pn hp => ?_⟩
        obtain ⟨A1, l⟩ := A.new (ob := .lst (a ++ b)) (o := .lst (vs ++ us)) hp fun _ l => ⟨_, upd_same, (qs.append qt).later l⟩
        exact p.ret' l A1 ⟨pn, by rw [← A.len, List.getElem?_append_right (Nat.le_refl _)]; simp, rfl⟩
      · exact False.elim p
    · exact False.elim p
  · exact hInt rfl rfl op_sub p
  · split at p
    · rename_i hc
      exact hIntC rfl rfl op_mulW hc p
    · exact False.elim p
  · split at p
    · rename_i hc
      exact hIntC rfl rfl op_fdivW hc p
    · exact False.elim p
  · split at p
    · rename_i hc
      exact hIntC rfl rfl op_mod hc p
    · exact False.elim p
  · split at p
    · rename_i hc
      exact hIntC (C := CPow) rfl rfl op_shl hc p
    · exact False.elim p
  · split at p
    · rename_i hc
      exact hIntC rfl rfl op_shr hc p
    · exact False.elim p
  · exact hInt rfl rfl op_and p
  · exact hInt rfl rfl op_or p
  · exact hInt rfl rfl op_xor p
  · exact False.elim p

theorem op_inDT {X : Cx} (hu : X.A.units + 65 < cLine) : OpR X (compareOp .In) (fun x y H Q => ∃ d ds, Dp X.K H x d ∧ Dp X.K H y (.tuple ds) ∧ SeqAt.shaped d = true ∧ SeqAt.shaped (.tuple ds) = true ∧ Q (.bl (ds.any fun z => PyData.eqv z d)) H) := by
  intro pins s σ H x y v u Q I rx ry h
  obtain ⟨d, ds, hd, he, sd, se, q⟩ := h
  obtain ⟨as, r1⟩ := Dp.reads I d x v hd rx
  obtain ⟨bs, r2⟩ := Dp.reads I (.tuple ds) y u he ry
  exact SeqAt.in_tuple_reads r2 r1 (SeqAt.canLay_of_shaped se) (SeqAt.canLay_of_shaped sd) (room_in_shaped sd hu) ⟨.bl _, H, I, rfl, q⟩
theorem op_notInDT {X : Cx} (hu : X.A.units + 65 < cLine) : OpR X (compareOp .NotIn) (fun x y H Q => ∃ d ds, Dp X.K H x d ∧ Dp X.K H y (.tuple ds) ∧ SeqAt.shaped d = true ∧ SeqAt.shaped (.tuple ds) = true ∧ Q (.bl (!ds.any fun z => PyData.eqv z d)) H) := by
  intro pins s σ H x y v u Q I rx ry h
  obtain ⟨d, ds, hd, he, sd, se, q⟩ := h
  obtain ⟨as, r1⟩ := Dp.reads I d x v hd rx
  obtain ⟨bs, r2⟩ := Dp.reads I (.tuple ds) y u he ry
  exact SeqAt.notIn_tuple_reads r2 r1 (SeqAt.canLay_of_shaped se) (SeqAt.canLay_of_shaped sd) (room_in_shaped sd hu) ⟨.bl _, H, I, rfl, q⟩
theorem op_inK {X : Cx} (hu : X.A.units + 1 < cLine) : OpR X (compareOp .In) (fun y x H Q => ∃ a o, x = .ref a ∧ DGet H a y o ∧ Q (.bl o.isSome) H) := by
  intro pins s σ H y x iv u Q I ry rx h
  obtain ⟨a, ov, ex, g, q⟩ := h
  subst ex
  obtain rfl : u = Value.ref a := rx
  exact d_in hu I g ry fun s3 I3 => ⟨.bl ov.isSome, H, I3, rfl, q⟩
theorem op_notInK {X : Cx} (hu : X.A.units + 1 < cLine) : OpR X (compareOp .NotIn) (fun y x H Q => ∃ a o, x = .ref a ∧ DGet H a y o ∧ Q (.bl (!o.isSome)) H) := by
  intro pins s σ H y x iv u Q I ry rx h
  obtain ⟨a, ov, ex, g, q⟩ := h
  subst ex
  obtain rfl : u = Value.ref a := rx
  exact d_notIn hu I g ry fun s3 I3 => ⟨.bl (!ov.isSome), H, I3, rfl, q⟩
theorem key_of {k : W} {q : Key} {v : V} (e : keyW k = some q) (r : Rep R H ρ k v) : v = kV q := by
  cases k with
  | int i => cases e; exact r
  | str s => cases e; exact r
  | non => cases e
  | bl b => cases e
  | tup ws => cases e
  | loc n => cases e
theorem rep_key {k : Key} : Rep R H ρ (wK k) (kV k) := by
  cases k <;> rfl
theorem isNon_of {x : W} {v : V} (r : Rep R H ρ x v) : isNon x = decide (v = .non) := by
  cases x with
  | non =>
    have r : v = .non := r
    subst r
    rfl
  | bl b =>
    have r : v = .bl b := r
    subst r
    exact (decide_eq_false (by simp)).symm
  | int b =>
    have r : v = .int b := r
    subst r
    exact (decide_eq_false (by simp)).symm
  | str b =>
    have r : v = .str b := r
    subst r
    exact (decide_eq_false (by simp)).symm
  | tup ws =>
    obtain ⟨a, vs, e, _⟩ := r
    subst e
    exact (decide_eq_false (by simp)).symm
  | loc n =>
    obtain ⟨a, _, e⟩ := r
    subst e
    exact (decide_eq_false (by simp)).symm
/-- data that eqR compares -/
theorem eqR_some {x y : W} {b : Bool} (e : eqR h x y = some b) : ∃ d d', datH h x = some d ∧ datH h y = some d' ∧ SeqAt.shaped d = true ∧ SeqAt.shaped d' = true ∧ PyData.eqv d d' = b := by
  unfold eqR at e
  split at e
  · rename_i d d' e1 e2
    split at e
    · rename_i hs
      cases e
      exact ⟨d, d', e1, e2, hs.1, hs.2, rfl⟩
    · cases e
  · cases e
theorem inR_ok (hR : R.K = X.K) (hu : X.A.units + 65 < cLine) (A : All R H ρ h) {x y : W} {v u : V} {b : Bool} (rx : Rep R H ρ x v) (ry : Rep R H ρ y u) (e : inR h x y = some b) :
    (∃ r, OpR X (compareOp .In) r ∧ ∀ Q : VK, Q (.bl b) H → r v u H Q) ∧ ∃ r, OpR X (compareOp .NotIn) r ∧ ∀ Q : VK, Q (.bl (!b)) H → r v u H Q := by
  unfold inR at e
  cases y with
  | tup ws =>
    simp only at e
    split at e
    · rename_i d ds e1 e2
      split at e
      · rename_i hs
        cases e
        have hd := dp_of rx e1
        have he : Dp R.K H u (.tuple ds) := dp_of ry (by show (datWs ws).map PyData.tuple = _; rw [e2]; rfl)
        rw [hR] at hd he
        exact ⟨⟨_, op_inDT hu, fun Q q => ⟨d, ds, hd, he, hs.1, hs.2, q⟩⟩, ⟨_, op_notInDT hu, fun Q q => ⟨d, ds, hd, he, hs.1, hs.2, q⟩⟩⟩
      · cases e
    · cases e
  | loc n =>
    obtain ⟨a, ea, eu⟩ := id ry
    simp only at e
    split at e
    · rename_i ws eo
      split at e
      · rename_i d ds e1 e2
        split at e
        · rename_i hs
          cases e
          have hd := dp_of rx e1
          have he : Dp R.K H u (.list ds) := dph_of A ry (by unfold datH; simp only [eo]; rw [e2]; rfl)
          rw [hR] at hd he
          exact ⟨⟨_, op_inD hu, fun Q q => ⟨d, ds, hd, he, hs.1, hs.2, q⟩⟩, ⟨_, op_notInD hu, fun Q q => ⟨d, ds, hd, he, hs.1, hs.2, q⟩⟩⟩
        · cases e
      · cases e
    · rename_i kvs eo
      obtain ⟨ks, hk, rk⟩ := A.at eo ea
      cases ek : keyW x with
      | none => rw [ek] at e; cases e
      | some k =>
        rw [ek] at e
        cases e
        subst eu
        have ev := key_of ek rx
        subst ev
        have hv := repK_val (k := k) rk
        have hi : (valG kvs k).isSome = (valV ks k).isSome := by
          cases eg : valG kvs k with
          | none => rw [eg] at hv; rw [hv]; rfl
          | some w => rw [eg] at hv; obtain ⟨z, hz, _⟩ := hv; rw [hz]; rfl
        exact ⟨⟨_, op_inK (by omega), fun Q q => ⟨a, _, rfl, DGet.k hk, by rw [← hi]; exact q⟩⟩, ⟨_, op_notInK (by omega), fun Q q => ⟨a, _, rfl, DGet.k hk, by rw [← hi]; exact q⟩⟩⟩
    · cases e
  | non => cases e
  | bl b => cases e
  | int b => cases e
  | str b => cases e
/-! is of a bool -/
theorem op_isBW {X : Cx} : OpR X (compareOp .Is) (fun x y H Q => ∃ b, y = .bl b ∧ Q (.bl (decide (x = .bl b))) H) := by
  intro pins s σ H x y v u Q I rx ry h
  obtain ⟨b, rfl, q⟩ := h
  cases (show u = Value.bool b from ry)
  cases x with
  | bl a =>
    cases (show v = Value.bool a from rx)
    exact op_isBl pins s σ H (.bl a) (.bl b) _ _ Q I rx ry ⟨a, b, rfl, rfl, by simpa using q⟩
  | non => cases (show v = Value.none from rx); exact wpAny_is_other rfl (fun z => by cases z) ⟨.bl false, H, I, rfl, by simpa using q⟩
  | int i => obtain ⟨t, rfl⟩ := rx; exact wpAny_is_other rfl (fun z => by cases z) ⟨.bl false, H, I, rfl, by simpa using q⟩
  | str i => obtain ⟨t, rfl⟩ := rx; exact wpAny_is_other rfl (fun z => by cases z) ⟨.bl false, H, I, rfl, by simpa using q⟩
  | byt i => obtain ⟨t, rfl⟩ := rx; exact wpAny_is_other rfl (fun z => by cases z) ⟨.bl false, H, I, rfl, by simpa using q⟩
  | flt i => obtain ⟨t, rfl⟩ := rx; exact wpAny_is_other rfl (fun z => by cases z) ⟨.bl false, H, I, rfl, by simpa using q⟩
  | ref a => cases (show v = Value.ref a from rx); exact wpAny_is_other rfl (fun z => by cases z) ⟨.bl false, H, I, rfl, by simpa using q⟩
  | ty a => cases (show v = Value.type a from rx); exact wpAny_is_other rfl (fun z => by cases z) ⟨.bl false, H, I, rfl, by simpa using q⟩
theorem op_notBW {X : Cx} : OpR X (compareOp .IsNot) (fun x y H Q => ∃ b, y = .bl b ∧ Q (.bl (!decide (x = .bl b))) H) := by
  intro pins s σ H x y v u Q I rx ry h
  obtain ⟨b, rfl, q⟩ := h
  cases (show u = Value.bool b from ry)
  cases x with
  | bl a =>
    cases (show v = Value.bool a from rx)
    exact op_notBl pins s σ H (.bl a) (.bl b) _ _ Q I rx ry ⟨a, b, rfl, rfl, by simpa using q⟩
  | non => cases (show v = Value.none from rx); exact wpAny_isNot_other rfl (fun z => by cases z) ⟨.bl true, H, I, rfl, by simpa using q⟩
  | int i => obtain ⟨t, rfl⟩ := rx; exact wpAny_isNot_other rfl (fun z => by cases z) ⟨.bl true, H, I, rfl, by simpa using q⟩
  | str i => obtain ⟨t, rfl⟩ := rx; exact wpAny_isNot_other rfl (fun z => by cases z) ⟨.bl true, H, I, rfl, by simpa using q⟩
  | byt i => obtain ⟨t, rfl⟩ := rx; exact wpAny_isNot_other rfl (fun z => by cases z) ⟨.bl true, H, I, rfl, by simpa using q⟩
  | flt i => obtain ⟨t, rfl⟩ := rx; exact wpAny_isNot_other rfl (fun z => by cases z) ⟨.bl true, H, I, rfl, by simpa using q⟩
  | ref a => cases (show v = Value.ref a from rx); exact wpAny_isNot_other rfl (fun z => by cases z) ⟨.bl true, H, I, rfl, by simpa using q⟩
  | ty a => cases (show v = Value.type a from rx); exact wpAny_isNot_other rfl (fun z => by cases z) ⟨.bl true, H, I, rfl, by simpa using q⟩
theorem isBl_of {R : Rd} {H : Hp} {ρ : List Addr} {b : Bool} {x : W} {v : V} (rx : Rep R H ρ x v) : decide (v = .bl b) = isBl b x := by
  cases x with
  | bl a => have rx : v = .bl a := rx; subst rx; simp [isBl]
  | non => have rx : v = .non := rx; subst rx; simp [isBl]
  | int a => have rx : v = .int a := rx; subst rx; simp [isBl]
  | str a => have rx : v = .str a := rx; subst rx; simp [isBl]
  | tup ws => obtain ⟨a, vs, rfl, _⟩ := rx; simp [isBl]
  | loc n => obtain ⟨a, _, rfl⟩ := rx; simp [isBl]
theorem cmp_ok (hR : R.K = X.K) (hu : X.A.units + 65 < cLine) (A : All R H ρ h) {op : Cop} {x y : W} {v u : V} {b : Bool} (rx : Rep R H ρ x v) (ry : Rep R H ρ y u) (e : cmpW op x y h = some b) (q : Q (.bl b) H) : rAny X (compareOp (copO op)) v u H Q := by
  have hInt : ∀ {g : Int → Int → Bool} {f : Value → Value → Sem Value} {i j : Int}, x = .int i → y = .int j → OpR X f (rI0 fun i j => .bl (g i j)) → g i j = b → rAny X f v u H Q := fun {g f i j} ex ey ho eb => by
    subst ex ey eb
    have rx : v = .int i := rx
    have ry : u = .int j := ry
    subst rx ry
    exact ⟨_, ho, i, j, rfl, rfl, q⟩
  unfold cmpW at e
  cases op with
  | eq =>
    obtain ⟨d, d', e1, e2, s1, s2, eb⟩ := eqR_some e
    have hd := dph_of A rx e1
    have he := dph_of A ry e2
    rw [hR] at hd he
    exact ⟨_, op_eqD (by omega), d, d', hd, he, s1, s2, by rw [eb]; exact q⟩
  | ne =>
    cases e0 : eqR h x y with
    | none => rw [e0] at e; cases e
    | some b0 =>
      rw [e0] at e
      cases e
      obtain ⟨d, d', e1, e2, s1, s2, eb⟩ := eqR_some e0
      have hd := dph_of A rx e1
      have he := dph_of A ry e2
      rw [hR] at hd he
      exact ⟨_, op_neD (by omega), d, d', hd, he, s1, s2, by rw [eb]; exact q⟩
  | lt =>
    simp only at e
    split at e
    · cases e; exact hInt rfl rfl op_lt rfl
    · cases e
  | le =>
    simp only at e
    split at e
    · cases e; exact hInt rfl rfl op_le rfl
    · cases e
  | gt =>
    simp only at e
    split at e
    · cases e; exact hInt rfl rfl op_gt rfl
    · cases e
  | ge =>
    simp only at e
    split at e
    · cases e; exact hInt rfl rfl op_ge rfl
    · cases e
  | is =>
    simp only at e
    split at e
    · cases e
      have ry : u = .non := ry
      exact ⟨_, op_isN, ry, by rw [← isNon_of rx]; exact q⟩
    · rename_i b2
      cases e
      have ry : u = .bl b2 := ry
      exact ⟨_, op_isBW, b2, ry, by rw [isBl_of rx]; exact q⟩
    · cases e
  | isnot =>
    simp only at e
    split at e
    · cases e
      have ry : u = .non := ry
      exact ⟨_, op_notN, ry, by rw [← isNon_of rx]; exact q⟩
    · rename_i b2
      cases e
      have ry : u = .bl b2 := ry
      exact ⟨_, op_notBW, b2, ry, by rw [isBl_of rx]; exact q⟩
    · cases e
  | inn =>
    obtain ⟨⟨r, hr, k⟩, _⟩ := inR_ok hR hu A rx ry e
    exact ⟨r, hr, k Q q⟩
  | notin =>
    cases e0 : inR h x y with
    | none => rw [e0] at e; cases e
    | some b0 =>
      rw [e0] at e
      cases e
      obtain ⟨_, r, hr, k⟩ := inR_ok hR hu A rx ry e0
      exact ⟨r, hr, k Q q⟩
theorem tru_of (hR : R.K = X.K) (A : All R H ρ h) {x : W} {v : V} {b : Bool} (rx : Rep R H ρ x v) (e : truW x h = some b) : TruV X.K v H b := by
  cases x with
  | non => cases e; have rx : v = .non := rx; subst rx; rfl
  | bl b => cases e; have rx : v = .bl _ := rx; subst rx; rfl
  | int b => cases e; have rx : v = .int _ := rx; subst rx; rfl
  | str s =>
    have rx : v = .str _ := rx
    subst rx
    unfold truW at e
    simp only at e
    split at e
    · rename_i hl
      cases e
      exact ⟨lim_le hl, rfl⟩
    · cases e
  | tup ws =>
    cases e
    obtain ⟨a, vs, rfl, s, q⟩ := rx
    rw [hR] at s
    have hl := q.length
    refine .inr (.inl ⟨vs, s, ?_⟩)
    cases ws <;> cases vs <;> first | rfl | (exact absurd hl (by simp))
  | loc n =>
    obtain ⟨a, ea, rfl⟩ := rx
    unfold truW at e
    simp only at e
    split at e
    · rename_i ws eo
      cases e
      obtain ⟨vs, s, q⟩ := A.at eo ea
      have hl := q.length
      refine .inl ⟨vs, SqL.of s, ?_⟩
      cases ws <;> cases vs <;> first | rfl | (exact absurd hl (by simp))
    · rename_i ws eo
      cases e
      obtain ⟨vs, s, q⟩ := RepO.sqL (A.at eo ea)
      rw [hR] at s
      have hl := q.length
      refine .inl ⟨vs, s, ?_⟩
      cases ws <;> cases vs <;> first | rfl | (exact absurd hl (by simp))
    · rename_i ws eo
      cases e
      obtain ⟨vs, s, q⟩ := A.at eo ea
      have hl := repK_length q
      refine .inr (.inr ⟨vs, s, ?_⟩)
      cases ws <;> cases vs <;> first | rfl | (exact absurd hl (by simp))
    · cases e

theorem len_of (hR : R.K = X.K) (A : All R H ρ h) {x : W} {v : V} {n : Nat} (rx : Rep R H ρ x v) (e : lenW x h = some n) : LenV X.K v H n := by
  cases x with
  | str s =>
    have rx : v = .str _ := rx
    subst rx
    unfold lenW at e
    simp only at e
    split at e
    · rename_i hl
      cases e
      exact ⟨lim_le hl, rfl⟩
    · cases e
  | tup ws =>
    cases e
    obtain ⟨a, vs, rfl, s, q⟩ := rx
    rw [hR] at s
    exact .inr ⟨vs, s, q.length⟩
  | loc n =>
    obtain ⟨a, ea, rfl⟩ := rx
    unfold lenW at e
    simp only at e
    split at e
    · rename_i ws eo
      cases e
      obtain ⟨vs, s, q⟩ := A.at eo ea
      exact .inl ⟨vs, SqL.of s, q.length⟩
    · rename_i ws eo
      cases e
      obtain ⟨vs, s, q⟩ := RepO.sqL (A.at eo ea)
      rw [hR] at s
      exact .inl ⟨vs, s, q.length⟩
    · cases e
  | non => cases e
  | bl b => cases e
  | int b => cases e
theorem atI_of {ws : List W} {vs : List V} {k : Int} {w : W} (q : Reps R H ρ ws vs) (e : atI ws k = some w) : ∃ v, atI vs k = some v ∧ Rep R H ρ w v := by
  unfold atI at e ⊢
  rw [← q.length]
  cases ej : ixN ws.length k with
  | none => rw [ej] at e; cases e
  | some j =>
    rw [ej] at e
    exact q.get e
/-- a subscript that is no dict's -/
theorem ix_ok (hR : R.K = X.K) (A : All R H ρ h) {x i : W} {v u : V} {w : W} (rx : Rep R H ρ x v) (ri : Rep R H ρ i u) (e : ixW x i h = some w) (nd : ∀ n kvs, x = .loc n → h[n]? ≠ some (.dct kvs)) (q : ∀ z, Rep R H ρ w z → Q z H) :
    rAnyI X v u H Q := by
  cases x with
  | str s =>
    have rx : v = .str _ := rx
    subst rx
    unfold ixW at e
    cases i with
    | int k =>
      simp only at e
      split at e
      · rename_i hl
        cases ec : atI s.cps.toList k with
        | none => rw [ec] at e; cases e
        | some c =>
          rw [ec] at e
          cases e
          exact ⟨_, ix_str, s, k, c, rfl, ri, lim_le hl, ec, q _ rfl⟩
      · cases e
    | non => cases e
    | bl b => cases e
    | str b => cases e
    | tup b => cases e
    | loc b => cases e
  | tup ws =>
    obtain ⟨a, vs, rfl, s, qs⟩ := rx
    rw [hR] at s
    unfold ixW at e
    cases i with
    | int k =>
      obtain ⟨z, hz, rz⟩ := atI_of qs e
      exact ⟨_, ix_tup, a, vs, k, z, rfl, ri, s, hz, q _ rz⟩
    | non => cases e
    | bl b => cases e
    | str b => cases e
    | tup b => cases e
    | loc b => cases e
  | loc n =>
    obtain ⟨a, ea, rfl⟩ := rx
    unfold ixW at e
    simp only at e
    split at e
    · rename_i ws eo
      obtain ⟨vs, s, qs⟩ := A.at eo ea
      cases i with
      | int k =>
        obtain ⟨z, hz, rz⟩ := atI_of qs e
        exact ⟨_, ix_list, a, vs, k, z, rfl, ri, SqL.of s, hz, q _ rz⟩
      | non => cases e
      | bl b => cases e
      | str b => cases e
      | tup b => cases e
      | loc b => cases e
    · rename_i ws eo
      obtain ⟨vs, s, qs⟩ := RepO.sqL (A.at eo ea)
      rw [hR] at s
      cases i with
      | int k =>
        obtain ⟨z, hz, rz⟩ := atI_of qs e
        exact ⟨_, ix_list, a, vs, k, z, rfl, ri, s, hz, q _ rz⟩
      | non => cases e
      | bl b => cases e
      | str b => cases e
      | tup b => cases e
      | loc b => cases e
    · rename_i kvs eo
      exact absurd eo (nd n kvs rfl)
    · cases e
  | non => cases e
  | bl b => cases e
  | int b => cases e
theorem cut_of {ws : List W} {vs : List V} {lo hi : Option Int} (q : Reps R H ρ ws vs) : Reps R H ρ (cutG ws lo hi) (cutV vs lo hi) := by
  unfold cutG cutV
  rw [q.length]
  exact Reps.take _ (Reps.drop _ q)
theorem cut_all {α : Type} {xs : List α} {lo hi : Option Int} (e : HT.sIx xs.length 0 lo = 0 ∧ HT.sIx xs.length xs.length hi = xs.length) : cutG xs lo hi = xs := by
  unfold cutG
  rw [e.1, e.2]
  simp
theorem new_at (A : All R H ρ h) {p : Addr} : (ρ ++ [p])[h.length]? = some p := by
  rw [← A.len, List.getElem?_append_right (Nat.le_refl _)]
  simp
theorem slc_ok (hR : R.K = X.K) (A : All R H ρ h) {x : W} {v : V} {lo hi : Option Int} (rx : Rep R H ρ x v) (p : Pst R (rV R) Ex (slcW x lo hi h) H ρ Q) : rAnyS X v lo hi H Q := by
  cases x with
  | tup ws =>
    obtain ⟨a, vs, rfl, s, qs⟩ := rx
    have s2 := s
    rw [hR] at s2
    refine ⟨_, sl_tupA, a, vs, rfl, s2, fun e => ?_, fun _ pn hp => ?_⟩
    · refine p.ret A ⟨a, vs, rfl, s, ?_⟩
      rw [← qs.length] at e
      rw [cut_all e]
      exact qs
    · obtain ⟨A1, l⟩ := A.tup (o := .tup (cutV vs lo hi)) hp
      exact p.ret' l A1 ⟨pn, _, rfl, SqT.of upd_same, (cut_of qs).later l⟩
  | loc n =>
    obtain ⟨a, ea, rfl⟩ := rx
    unfold slcW at p
    simp only at p
    split at p
    · rename_i ws eo
      obtain ⟨vs, s, qs⟩ := A.at eo ea
      refine ⟨_, sl_list, a, vs, rfl, SqL.of s, fun pn hp => ?_⟩
      obtain ⟨A1, l⟩ := A.new (ob := .lst (cutG ws lo hi)) (o := .lst (cutV vs lo hi)) hp fun _ l => ⟨_, upd_same, (cut_of qs).later l⟩
      exact p.ret' l A1 ⟨pn, new_at A, rfl⟩
    · rename_i ws eo
      obtain ⟨vs, s, qs⟩ := RepO.sqL (A.at eo ea)
      rw [hR] at s
      refine ⟨_, sl_list, a, vs, rfl, s, fun pn hp => ?_⟩
      obtain ⟨A1, l⟩ := A.new (ob := .lst (cutG ws lo hi)) (o := .lst (cutV vs lo hi)) hp fun _ l => ⟨_, upd_same, (cut_of qs).later l⟩
      exact p.ret' l A1 ⟨pn, new_at A, rfl⟩
    · exact False.elim p
  | non => exact False.elim p
  | bl b => exact False.elim p
  | int b => exact False.elim p
  | str b => exact False.elim p
/-! ### built-in functions -/
def bfV : Bf → Value
  | .len => .builtin "len" | .abs => .builtin "abs" | .int => .type "int" | .list => .type "list" | .tuple => .type "tuple" | .min2 => .builtin "min" | .max2 => .builtin "max"
theorem items_ok (hR : R.K = X.K) (A : All R H ρ h) {x : W} {v : V} {ws : List W} (rx : Rep R H ρ x v) (e : itemsW x h = some ws) (nd : ∀ n kvs, x = .loc n → h[n]? ≠ some (.dct kvs)) :
    ∃ a vs, v = .ref a ∧ (SqL X.K H a vs ∨ SqT X.K H a vs) ∧ Reps R H ρ ws vs := by
  cases x with
  | tup us =>
    cases e
    obtain ⟨a, vs, rfl, s, q⟩ := rx
    rw [hR] at s
    exact ⟨a, vs, rfl, .inr s, q⟩
  | loc n =>
    obtain ⟨a, ea, rfl⟩ := rx
    unfold itemsW at e
    simp only at e
    split at e
    · rename_i us eo
      cases e
      obtain ⟨vs, s, q⟩ := A.at eo ea
      exact ⟨a, vs, rfl, .inl (SqL.of s), q⟩
    · rename_i us eo
      cases e
      obtain ⟨vs, s, q⟩ := RepO.sqL (A.at eo ea)
      rw [hR] at s
      exact ⟨a, vs, rfl, .inl s, q⟩
    · rename_i kvs eo
      exact absurd eo (nd n kvs rfl)
    · cases e
  | non => cases e
  | bl b => cases e
  | int b => cases e
  | str b => cases e
theorem one_of {x : W} {vs : List V} (q : Reps R H ρ [x] vs) : ∃ v, vs = [v] ∧ Rep R H ρ x v := by
  obtain ⟨v, r, e, a, b⟩ := q
  have b : r = [] := b
  subst b
  exact ⟨v, e, a⟩
theorem two_of {x y : W} {vs : List V} (q : Reps R H ρ [x, y] vs) : ∃ v u, vs = [v, u] ∧ Rep R H ρ x v ∧ Rep R H ρ y u := by
  obtain ⟨v, r, e, a, b⟩ := q
  obtain ⟨u, er, c⟩ := one_of b
  subst er
  exact ⟨v, u, e, a, c⟩

theorem blt_ok (hR : R.K = X.K) (hc : X.calm = true) (A : All R H ρ h) {b : Bf} {xs : List W} {vs : List V} (rx : Reps R H ρ xs vs) (p : Pst R (rV R) Ex (bltW b xs h) H ρ Q) : rAnyC X (bfV b) vs H Q := by
  unfold bltW at p
  split at p
  · rename_i x
    obtain ⟨v, rfl, r⟩ := one_of rx
    split at p
    · rename_i n e
      exact ⟨_, call_len, v, n, rfl, len_of hR A r e, p.ret A rfl⟩
    · exact False.elim p
  · rename_i i
    obtain ⟨v, rfl, r⟩ := one_of rx
    have r : v = .int i := r
    subst r
    exact ⟨_, call_abs, i, rfl, p.ret A rfl⟩
  · rename_i i
    obtain ⟨v, rfl, r⟩ := one_of rx
    have r : v = .int i := r
    subst r
    exact ⟨_, call_int1, .inl ⟨i, rfl, p.ret A rfl⟩⟩
  · rename_i i
    obtain ⟨v, rfl, r⟩ := one_of rx
    have r : v = .bl i := r
    subst r
    exact ⟨_, call_int1, .inr ⟨i, rfl, p.ret A rfl⟩⟩
  · rename_i x
    obtain ⟨v, rfl, r⟩ := one_of rx
    split at p
    · rename_i ws e
      by_cases hd : ∃ n kvs, x = .loc n ∧ h[n]? = some (.dct kvs)
      · obtain ⟨n, kvs, rfl, eo⟩ := hd
        obtain ⟨a, ea, rfl⟩ := r
        obtain ⟨ks, hk, rk⟩ := A.at eo ea
        unfold itemsW at e
        simp only [eo] at e
        cases e
        refine ⟨_, call_list_dK hc, a, ks, rfl, hk, fun pn hp => ?_⟩
        have qs : Reps R H ρ (kvs.map fun p => wK p.1) (ks.map fun kv => kV kv.1) := by
          clear p hk eo hp
          induction rk with
          | nil => exact Reps.nil
          | cons a _ ih =>
            refine Reps.cons ?_ ih
            obtain ⟨e1, _⟩ := a
            show Rep R H ρ (wK _) (kV _)
            rw [← e1]
            exact rep_key
        obtain ⟨A1, l⟩ := A.new (ob := .lst (kvs.map fun p => wK p.1)) (o := .lst (ks.map fun kv => kV kv.1)) hp fun _ l => ⟨_, upd_same, qs.later l⟩
        exact p.ret' l A1 ⟨pn, new_at A, rfl⟩
      · obtain ⟨a, vs, rfl, hs, qs⟩ := items_ok hR A r e fun n kvs e1 e2 => hd ⟨n, kvs, e1, e2⟩
        refine ⟨_, call_list_of, a, vs, rfl, hs, fun pn hp => ?_⟩
        obtain ⟨A1, l⟩ := A.new (ob := .lst ws) (o := .lst vs) hp fun _ l => ⟨_, upd_same, qs.later l⟩
        exact p.ret' l A1 ⟨pn, new_at A, rfl⟩
    · exact False.elim p
  · rename_i ws
    obtain ⟨v, rfl, r⟩ := one_of rx
    obtain ⟨a, vs, rfl, s, q⟩ := id r
    rw [hR] at s
    exact ⟨_, call_tuple_of, a, vs, rfl, .inr ⟨s, p.ret A r⟩⟩
  · rename_i n
    obtain ⟨v, rfl, r⟩ := one_of rx
    obtain ⟨a, ea, rfl⟩ := r
    split at p
    · rename_i ws eo
      obtain ⟨vs, s, qs⟩ := A.at eo ea
      refine ⟨_, call_tuple_of, a, vs, rfl, .inl ⟨SqL.of s, fun pn hp => ?_⟩⟩
      obtain ⟨A1, l⟩ := A.tup (o := .tup vs) hp
      exact p.ret' l A1 ⟨pn, vs, rfl, SqT.of upd_same, qs.later l⟩
    · rename_i ws eo
      obtain ⟨vs, s, qs⟩ := RepO.sqL (A.at eo ea)
      rw [hR] at s
      refine ⟨_, call_tuple_of, a, vs, rfl, .inl ⟨s, fun pn hp => ?_⟩⟩
      obtain ⟨A1, l⟩ := A.tup (o := .tup vs) hp
      exact p.ret' l A1 ⟨pn, vs, rfl, SqT.of upd_same, qs.later l⟩
    · exact False.elim p
  · rename_i i j
    obtain ⟨v, u, rfl, r1, r2⟩ := two_of rx
    have r1 : v = .int i := r1
    have r2 : u = .int j := r2
    subst r1 r2
    exact ⟨_, call_min2 hc, i, j, rfl, p.ret A rfl⟩
  · rename_i i j
    obtain ⟨v, u, rfl, r1, r2⟩ := two_of rx
    have r1 : v = .int i := r1
    have r2 : u = .int j := r2
    subst r1 r2
    exact ⟨_, call_max2 hc, i, j, rfl, p.ret A rfl⟩
  · exact False.elim p
/-! ### isinstance -/
def tyV' : Ty → String
  | .tup => "tuple" | .lst => "list" | .int => "int" | .bool => "bool" | .str => "str"
def tnV : TyN → String
  | .non => "NoneType" | .bool => "bool" | .int => "int" | .str => "str" | .tup => "tuple" | .lst => "list" | .dct => "dict"
theorem kit_all : ∀ (a : TyN) (t : Ty), kitB (tnV a) (tyV' t) = some (isTy a t) := by
  intro a t
  cases a <;> cases t <;> decide +kernel
theorem kit_any {K : PySem.W.Frag} {a : TyN} : ∀ ts : List Ty, PySem.W.kitAny K (.type (tnV a)) (ts.map fun t => .type (tyV' t)) = some (ts.any (isTy a))
  | [] => rfl
  | t :: ts => by
    refine kitAny_cons (b := isTy a t) (kit_ty (kit_all a t)) (fun e => ?_) (fun e => ?_)
    · rw [kit_any ts, List.any_cons, e]
      rfl
    · rw [List.any_cons, e]
      rfl
theorem ty_of (hR : R.K = X.K) (A : All R H ρ h) {x : W} {v : V} {a : TyN} (rx : Rep R H ρ x v) (e : tyW x h = some a) : TyX X.K H v (.type (tnV a)) := by
  cases x with
  | non => cases e; have rx : v = .non := rx; subst rx; exact .base .non
  | bl b => cases e; have rx : v = .bl _ := rx; subst rx; exact .base (.bl b)
  | int b => cases e; have rx : v = .int _ := rx; subst rx; exact .base (.int b)
  | str b => cases e; have rx : v = .str _ := rx; subst rx; exact .base (.str b)
  | tup ws =>
    cases e
    obtain ⟨a, vs, rfl, s, q⟩ := rx
    rw [hR] at s
    rcases s with s | ⟨o, its, n, lk, hc, _⟩
    · rcases s with s | ⟨ob, s⟩
      · exact .base (.tup s)
      · exact .fTuple s
    · exact .kTuple lk hc
  | loc n =>
    obtain ⟨a, ea, rfl⟩ := rx
    unfold tyW at e
    simp only at e
    split at e
    · rename_i ws eo
      cases e
      obtain ⟨vs, s, q⟩ := A.at eo ea
      exact .base (.lst s)
    · rename_i ws eo
      cases e
      obtain ⟨vs, s, q⟩ := A.at eo ea
      exact .base (.dK s)
    · cases e
/-! ### stores -/
theorem nolock {a : Addr} {o : HO} (e : H a = some o) (h1 : ∀ xs, o ≠ .tup xs) (h2 : ∀ q xs, o ≠ .frz q xs) : (∀ xs, H a ≠ some (.tup xs)) ∧ ∀ q xs, H a ≠ some (.frz q xs) :=
  ⟨fun xs z => by rw [e] at z; exact h1 xs (Option.some.inj z), fun q xs z => by rw [e] at z; exact h2 q xs (Option.some.inj z)⟩
theorem nofr {n : Nat} {o : Ob} (eo : h[n]? = some o) (hn : ∀ ws, o ≠ .frz ws) : ¬ FrO h n := fun ⟨ws, e⟩ => by
  rw [eo] at e
  exact hn ws (Option.some.inj e)
theorem put_lst (A : All R H ρ h) {n : Nat} {a : Addr} {ws us : List W} {vs zs : List V} (eo : h[n]? = some (.lst ws)) (ea : ρ[n]? = some a) (hv : H a = some (.lst vs)) (q : Reps R H ρ us zs) :
    All R (upd H a (.lst zs)) ρ (h.set n (.lst us)) ∧ Lt R H ρ (upd H a (.lst zs)) ρ :=
  let z := nolock hv (fun _ q => by cases q) (fun _ _ q => by cases q)
  A.put ea z.1 z.2 (nofr eo fun _ z => by cases z) fun l => ⟨_, upd_same, q.later l⟩
theorem put_dct (A : All R H ρ h) {us0 : List (Key × W)} {n : Nat} {a : Addr} {ks : List (Key × V)} {us : List (Key × W)} {zs : List (Key × V)} (eo : h[n]? = some (.dct us0)) (ea : ρ[n]? = some a) (hv : H a = some (.dK ks)) (q : RepK R H ρ us zs) :
    All R (upd H a (.dK zs)) ρ (h.set n (.dct us)) ∧ Lt R H ρ (upd H a (.dK zs)) ρ :=
  let z := nolock hv (fun _ q => by cases q) (fun _ _ q => by cases q)
  A.put ea z.1 z.2 (nofr eo fun _ z => by cases z) fun l => ⟨_, upd_same, q.later l⟩
theorem put_ins (A : All R H ρ h) {c0 : Nat} {us0 : List (Nat × W)} {n c : Nat} {a dx : Addr} {gs : List (Str × V)} {us : List (Nat × W)} {zs : List (Str × V)} (eo : h[n]? = some (.ins c0 us0)) (ea : ρ[n]? = some a) (hv : H a = some (.ins (R.ca c) dx gs)) (q : RepF R H ρ us zs) :
    All R (upd H a (.ins (R.ca c) dx zs)) ρ (h.set n (.ins c us)) ∧ Lt R H ρ (upd H a (.ins (R.ca c) dx zs)) ρ :=
  let z := nolock hv (fun _ q => by cases q) (fun _ _ q => by cases q)
  A.put ea z.1 z.2 (nofr eo fun _ z => by cases z) fun l => ⟨dx, _, upd_same, q.later l⟩
theorem reps_dropLast : ∀ {ws : List W} {vs : List V}, Reps R H ρ ws vs → Reps R H ρ ws.dropLast vs.dropLast := fun {ws vs} q => by
  rw [List.dropLast_eq_take, List.dropLast_eq_take, q.length]
  exact q.take _
/-- a method of a list -/
def bmL : Bm → String
  | .append => "list.append" | .extend => "list.extend" | .insert => "list.insert" | .pop0 => "list.pop" | _ => ""
theorem bml_ok (A : All R H ρ h) {m : Bm} {n : Nat} {ws xs : List W} {v : V} {vs : List V} (eo : h[n]? = some (.lst ws)) (rv : Rep R H ρ (.loc n) v) (rx : Reps R H ρ xs vs) (p : Pst R (rV R) Ex (bmtW m (.loc n) xs h) H ρ Q) :
    rAnyM X (bmL m) v vs H Q := by
  obtain ⟨a, ea, rfl⟩ := rv
  obtain ⟨zs, hz, qz⟩ := A.at eo ea
  unfold bmtW at p
  simp only [eo] at p
  split at p
  · rename_i x
    obtain ⟨v, rfl, r⟩ := one_of rx
    split at p
    · rename_i hl
      obtain ⟨A1, l⟩ := put_lst A eo ea hz (qz.append (Reps.cons r Reps.nil))
      exact ⟨_, mt_append, a, zs, v, rfl, rfl, hz, lim_lt (by rw [← qz.length]; exact hl), p.ret' l A1 rfl⟩
    · exact False.elim p
  · rename_i k
    obtain ⟨v, rfl, r⟩ := one_of rx
    obtain ⟨b, eb, rfl⟩ := r
    split at p
    · rename_i us ek
      obtain ⟨ys, hy, qy⟩ := A.at ek eb
      split at p
      · rename_i hl
        obtain ⟨A1, l⟩ := put_lst A eo ea hz (qz.append qy)
        exact ⟨_, mt_extend, a, b, zs, ys, rfl, rfl, hz, hy, lim_le (by rw [← qz.length, ← qy.length]; exact hl), p.ret' l A1 rfl⟩
      · exact False.elim p
    · exact False.elim p
  · rename_i i x
    obtain ⟨v, u, rfl, r1, r2⟩ := two_of rx
    have r1 : v = .int i := r1
    subst r1
    split at p
    · rename_i hl
      obtain ⟨A1, l⟩ := put_lst A eo ea hz (((qz.take i.toNat).append (Reps.cons r2 Reps.nil)).append (qz.drop i.toNat))
      exact ⟨_, mt_insert, a, zs, i, u, rfl, rfl, hz, lim_lt (by rw [← qz.length]; exact hl.1), hl.2.1, hl.2.2, p.ret' l A1 rfl⟩
    · exact False.elim p
  · have rx : vs = [] := rx
    subst rx
    split at p
    · rename_i x ex
      obtain ⟨z, hz2, rz⟩ := qz.get ex
      obtain ⟨A1, l⟩ := put_lst A eo ea hz (reps_dropLast qz)
      exact ⟨_, mt_pop, a, zs, z, rfl, rfl, hz, by rw [← qz.length]; exact hz2, p.ret' l A1 (rz.later l)⟩
    · exact False.elim p
  · exact False.elim p
end
end Pc
set_option Elab.async false
set_option linter.all false
set_option maxRecDepth 100000
set_option maxHeartbeats 4000000
namespace Pc
open PySem PySem.Spec PyProof.Rows L2

/-! ### the program's names and places -/
structure Dat where
  T : Tab
  an : List Str
  fnm : List (Option Str)
  cnm : List Str
  free : List Str
structure Pl where
  ca : Nat → Addr
  fa : Nat → Addr
  fd : Nat → FuncData
  ps : Nat → List Str
abbrev rdOf (D : Dat) (L : Pl) (K : PySem.W.Frag) : Rd := ⟨K, L.ca, D.an⟩
/-- what a def is worth: a run of the small program -/
def spW (R : Rd) (T : Tab) (k f : Nat) : Sp := fun vs H Q Ex => ∃ ws h ρ, All R H ρ h ∧ Reps R H ρ ws vs ∧ Pst R (rV R) Ex (evFn T k f ws h) H ρ Q
structure Fx (D : Dat) (L : Pl) (k : Nat) (X : Cx) : Prop where
  calm : X.calm = true
  nd : X.N.Nodup
  room : Room (2 * k + 1) X.A
  fn : ∀ f i, D.T.fns[f]? = some i → FnOk X.prog X.w X.K X.mg X.base (L2.CX X.prog X.w) (2 * k) (L.fa f) (L.fd f) (L.ps f) (spW (rdOf D L X.K) D.T k f) ∧ Binds X.K (L.fd f) (L.ps f) [] ∧ PySem.W.keepIn X.K (.ref (L.fa f)) = true
  fnm : ∀ (f : Nat) (x : Str), D.fnm[f]? = some (some x) → X.mg x = some (.ref (L.fa f))
  cls : ∀ (c : Nat) (i : ClI), D.T.cls[c]? = some i → Cls X.K (L.ca c) ∧ Mk X.K (L.ca c) (L.fa i.init) ∧ ∃ j, D.T.fns[i.init]? = some j
  mth : ∀ (c : Nat) (i : ClI) (m f : Nat), D.T.cls[c]? = some i → valG i.mths m = some f → (∃ j, D.T.fns[f]? = some j) ∧ ∃ nm, D.an[m]? = some nm ∧ Meth X.K (L.ca c) nm (L.fa f)
  prp : ∀ (c : Nat) (i : ClI) (m f : Nat), D.T.cls[c]? = some i → valG i.prps m = some f → (∃ j, D.T.fns[f]? = some j) ∧ ∃ nm p, D.an[m]? = some nm ∧ PropOf X.K (L.ca c) nm p (L.fa f)
  att : ∀ (c : Nat) (i : ClI) (m : Nat) (nm : Str), D.T.cls[c]? = some i → valG i.prps m = none → valG i.mths m = none → D.an[m]? = some nm → NoAttr X.K (L.ca c) nm
  cnm : ∀ (c : Nat) (x : Str), D.cnm[c]? = some x → X.mg x = some (.ref (L.ca c))
  free : ∀ x ∈ D.free, X.mg x = none
  add : ∀ (c : Nat) (i : ClI) (f : Nat), D.T.cls[c]? = some i → i.add = some f → (∃ j, D.T.fns[f]? = some j) ∧ PySem.W.selfFirst X.K (L.ca c) = true ∧ PySem.W.findIn X.K (.ref (L.ca c)) "__add__" = some (some (.ref (L.fa f))) ∧ PySem.W.isFn X.K (.ref (L.fa f)) = true

/-! ### the slots -/
structure EnvR (R : Rd) (H : Hp) (ρ : List Addr) (env : En) (σ : L2.St) : Prop where
  len : env.length = σ.length
  at_ : ∀ (i : Nat) (w : W), env[i]? = some (some w) → ∃ v, σ[i]? = some (some v) ∧ Rep R H ρ w v
section
variable {R : Rd} {H H' : Hp} {ρ ρ' : List Addr} {env : En} {σ : L2.St}
theorem EnvR.later (l : Lt R H ρ H' ρ') (e : EnvR R H ρ env σ) : EnvR R H' ρ' env σ := ⟨e.len, fun i w h => let ⟨v, h1, h2⟩ := e.at_ i w h; ⟨v, h1, h2.later l⟩⟩
theorem EnvR.set {i : Nat} {w : W} {v : V} (e : EnvR R H ρ env σ) (r : Rep R H ρ w v) : EnvR R H ρ (env.set i (some w)) (σ.set i (some v)) := by
  refine ⟨by simp [e.len], fun j u h => ?_⟩
  by_cases hj : j = i
  · subst hj
    have hl : j < env.length := by
      have := (List.getElem?_eq_some_iff.mp h).1
      simpa using this
    rw [List.getElem?_set_self hl] at h
    cases h
    exact ⟨v, List.getElem?_set_self (by rw [← e.len]; exact hl), r⟩
  · rw [List.getElem?_set_ne (Ne.symm hj)] at h
    obtain ⟨z, h1, h2⟩ := e.at_ j u h
    exact ⟨z, by rw [List.getElem?_set_ne (Ne.symm hj)]; exact h1, h2⟩
theorem EnvR.forget {i : Nat} (e : EnvR R H ρ env σ) : EnvR R H ρ (env.set i none) (σ.set i none) := by
  refine ⟨by simp [e.len], fun j u h => ?_⟩
  by_cases hj : j = i
  · subst hj
    have hl : j < env.length := by
      have := (List.getElem?_eq_some_iff.mp h).1
      simpa using this
    rw [List.getElem?_set_self hl] at h
    cases h
  · rw [List.getElem?_set_ne (Ne.symm hj)] at h
    obtain ⟨z, h1, h2⟩ := e.at_ j u h
    exact ⟨z, by rw [List.getElem?_set_ne (Ne.symm hj)]; exact h1, h2⟩
theorem EnvR.wipe : ∀ {vs : List Nat}, EnvR R H ρ env σ → EnvR R H ρ (wipeG env vs) (wipe σ vs)
  | [], e => e
  | v :: vs, e => (EnvR.wipe (vs := vs) e).forget
end

/-! ### a run as a reading -/
def rdG {α β : Type} (R : Rd) (Wx : WX) (rel : Hp → List Addr → α → β → Prop) (ev : En → Hs → Res α) : L2.St → Hp → (β → Hp → Prop) → Prop := fun σ H Q =>
  ∃ env h ρ, All R H ρ h ∧ EnvR R H ρ env σ ∧ Pst R rel (fun c d H' => Wx c d σ H') (ev env h) H ρ Q
section
variable {α β γ δ : Type} {R : Rd} {Wx : WX} {rel : Hp → List Addr → α → β → Prop} {rel2 : Hp → List Addr → γ → δ → Prop} {ev : En → Hs → Res α} {f : α → Hs → Res γ} {H H1 : Hp} {ρ ρ1 : List Addr} {h : Hs} {env : En} {σ : L2.St}
/-- the first part of a run, read; behind it the rest -/
theorem rd_bind {Q : δ → Hp → Prop} (A : All R H ρ h) (e : EnvR R H ρ env σ) (p : Pst R rel2 (fun c d H' => Wx c d σ H') ((ev env h).bind f) H ρ Q) {Q1 : β → Hp → Prop}
    (k : ∀ a b h1 H1 ρ1, ev env h = .ok a h1 → Lt R H ρ H1 ρ1 → All R H1 ρ1 h1 → EnvR R H1 ρ1 env σ → rel H1 ρ1 a b → Pst R rel2 (fun c d H' => Wx c d σ H') (f a h1) H1 ρ1 Q → Q1 b H1) :
    rdG R Wx rel ev σ H Q1 :=
  ⟨env, h, ρ, A, e, (Pst.bind p).mono fun b H' ⟨a, h1, ρ1, er, l, A1, q, p1⟩ => k a b h1 H' ρ1 er l A1 (e.later l) q p1⟩
theorem rd_mk {Q : β → Hp → Prop} (A : All R H ρ h) (e : EnvR R H ρ env σ) (p : Pst R rel (fun c d H' => Wx c d σ H') (ev env h) H ρ Q) : rdG R Wx rel ev σ H Q := ⟨env, h, ρ, A, e, p⟩
end
theorem _root_.L2.PE.imp {X : Cx} {e : Expr} {t u : TE} (h : PE X e t) (k : ∀ σ H Q, u σ H Q → t σ H Q) : PE X e u := ⟨fun pins s σ H Q I q => h.run pins s σ H Q I (k σ H Q q)⟩
theorem _root_.L2.PT.imp {X : Cx} {e : Expr} {t u : TT} (h : PT X e t) (k : ∀ σ H Q, u σ H Q → t σ H Q) : PT X e u := ⟨fun pins s σ H Q I q => h.run pins s σ H Q I (k σ H Q q)⟩
theorem _root_.L2.PW.imp {X : Cx} {e : Expr} {t u : TT} (h : PW X e t) (k : ∀ σ H Q, u σ H Q → t σ H Q) : PW X e u := ⟨fun wh pins s σ H Q I q => h.run wh pins s σ H Q I (k σ H Q q)⟩
theorem _root_.L2.PA.imp {X : Cx} {e : List Expr} {t u : TA} (h : PA X e t) (k : ∀ σ H Q, u σ H Q → t σ H Q) : PA X e u := ⟨fun pos pins s σ H Q I q => h.run pos pins s σ H Q I (k σ H Q q)⟩
theorem _root_.L2.PO.imp {X : Cx} {e : Option Expr} {t u : TO} (h : PO X e t) (k : ∀ σ H Q, u σ H Q → t σ H Q) : PO X e u := ⟨fun pins s σ H Q I q => h.run pins s σ H Q I (k σ H Q q)⟩
/-- a rule chosen at the run -/
theorem _root_.L2.PE.sel {X : Cx} {e : Expr} {u : TE} (k : ∀ σ H Q, u σ H Q → ∃ t, PE X e t ∧ t σ H Q) : PE X e u := ⟨fun pins s σ H Q I q => let ⟨_, h, z⟩ := k σ H Q q; h.run pins s σ H Q I z⟩

/-! ### what the text's expressions are not -/
def plainB : Expr → Bool
  | .BoolOp .. => true
  | .BinOp .. => true
  | .UnaryOp .. => true
  | .IfExp .. => true
  | .Dict .. => true
  | .ListComp .. => true
  | .Compare .. => true
  | .Call f _ _ _ => match f with
    | .Name x _ => !decide (x = ("super" : Str))
    | _ => true
  | .Constant .. => true
  | .Attribute .. => true
  | .Subscript .. => true
  | .Name .. => true
  | .List .. => true
  | .Tuple .. => true
  | _ => false
theorem star_ok {e : Expr} {es : List Expr} {env : Env} (h : plainB e = true) : starEach (e :: es) env = (false, eval e env) :: starEach es env := by
  cases e <;> first | rfl | cases h
theorem nosl_ok {e : Expr} (h : plainB e = true) : ∀ o i, subscripted e false o i = operate [o, i] (getItem o i) := by
  intro o i
  cases e <;> first | rfl | cases h
theorem base_ok {e : Expr} {m : Str} {env : Env} {w : Sem Value} (h : plainB e = true) : attributeBase e m env w = w := by
  cases e with
  | Call f args kws pos =>
    cases f with
    | Name x p =>
      have hx : ¬ x = ("super" : Str) := by
        intro z
        have h : (!decide (x = ("super" : Str))) = true := h
        rw [decide_eq_true z] at h
        cases h
      unfold attributeBase
      cases args with
      | nil =>
        cases kws with
        | nil =>
          simp only
          have hb : (x != ("super" : Str)) = true := by simp [hx]
          simp [hb]
        | cons a b => rfl
      | cons a b => rfl
    | _ => rfl
  | _ => first | rfl | cases h
theorem mark_ok {e : Expr} {op : CmpOp} (h : plainB e = true) : behindInMarks op e = false := by
  cases e <;> first | rfl | cases h
theorem fold_ok {e : Expr} {env : Env} (h : plainB e = true) : ∀ x, foldedSetIterable e env x = pure x := by
  intro x
  cases e <;> first | rfl | cases h
theorem stars_ok {env : Env} {pos : Pos} : ∀ {es : List Expr}, es.all plainB = true → (backTo pos (starEach es env)).any (·.1) = false
  | [], _ => rfl
  | e :: es, h => by
    rw [List.all_cons, Bool.and_eq_true] at h
    rw [star_ok h.1]
    show (false || (backTo pos (starEach es env)).any (·.1)) = false
    rw [stars_ok h.2]
    rfl
end Pc
set_option Elab.async false
set_option linter.all false
set_option maxRecDepth 100000
set_option maxHeartbeats 4000000
namespace Pc
open PySem PySem.Spec PyProof.Rows L2

section
variable {D : Dat} {L : Pl} {k : Nat} {X : Cx} {Wx : WX}
abbrev RE (D : Dat) (L : Pl) (k : Nat) (X : Cx) (Wx : WX) (e : E) : TE := rdG (rdOf D L X.K) Wx (rV (rdOf D L X.K)) (evE D.T (evFn D.T k) e)
abbrev REs (D : Dat) (L : Pl) (k : Nat) (X : Cx) (Wx : WX) (es : List E) : TA := rdG (rdOf D L X.K) Wx (rVs (rdOf D L X.K)) (evEs D.T (evFn D.T k) es)
abbrev RT (D : Dat) (L : Pl) (k : Nat) (X : Cx) (Wx : WX) (e : E) : TT := rdG (rdOf D L X.K) Wx rEq (evT D.T (evFn D.T k) e)
abbrev RO (D : Dat) (L : Pl) (k : Nat) (X : Cx) (Wx : WX) (e : Option E) : TO := rdG (rdOf D L X.K) Wx rEq (evO D.T (evFn D.T k) e)
theorem Fx.u65 (F : Fx D L k X) : X.A.units + 65 < cLine := by have := F.room.un; omega

theorem snd_var {i : Nat} {x : Str} {pos : Pos} (hN : X.N[i]? = some x) (hv : Vis X.env.scope x) (hd : (x == ("__debug__" : Str)) = false) (hcd : (x == ("__classdict__" : Str)) = false) : PE X (.Name x pos) (RE D L k X Wx (.var i)) :=
  (pe_var hN hv hd hcd).imp fun σ H Q hq => by
    obtain ⟨env, h, ρ, A, e, p⟩ := hq
    simp only [evE] at p
    split at p
    · rename_i w ew
      obtain ⟨v, h1, h2⟩ := e.at_ i w ew
      exact ⟨v, h1, p.ret A h2⟩
    · exact False.elim p
def litB : W → Const → Bool
  | .non, .none => true
  | .bl a, .bool b => a == b
  | .int i, .int j => decide (i = j)
  | .str s, .str t => decide (s = t)
  | _, _ => false
theorem snd_lit {w : W} {c : Const} {j : Nat} {pos : Pos} (hl : litB w c = true) : PE X (.Constant c j pos) (RE D L k X Wx (.lit w)) := by
  have done : ∀ v : V, (∀ R H ρ, Rep R H ρ w v) → PE X (.Constant c j pos) (tC v) → PE X (.Constant c j pos) (RE D L k X Wx (.lit w)) := fun v r h => h.imp fun σ H Q hq => by
    obtain ⟨env, hs, ρ, A, e, p⟩ := hq
    simp only [evE] at p
    exact p.ret A (r _ _ _)
  cases w with
  | non => cases c with
    | none => exact done .non (fun _ _ _ => rfl) pe_non
    | _ => cases hl
  | bl b => cases c with
    | bool b2 =>
      have e : b = b2 := eq_of_beq hl
      subst e
      exact done (.bl b) (fun _ _ _ => rfl) pe_bl
    | _ => cases hl
  | int b => cases c with
    | int b2 =>
      have e : b = b2 := of_decide_eq_true hl
      subst e
      exact done (.int b) (fun _ _ _ => rfl) pe_int
    | _ => cases hl
  | str b => cases c with
    | str b2 =>
      have e : b = b2 := of_decide_eq_true hl
      subst e
      exact done (.str b) (fun _ _ _ => rfl) pe_str
    | _ => cases hl
  | tup ws => cases c <;> cases hl
  | loc n => cases c <;> cases hl
variable {a b c : E} {ea eb ec : Expr} {pos : Pos}
theorem spW_quiet {R : Rd} {T : Tab} {k f : Nat} {Ex : XK} {ws : List W} {h : Hs} {H : Hp} {ρ : List Addr} {Q : VK} (p : Pst R (rV R) Ex (evFn T k f ws h).quiet H ρ Q) : Pst R (rV R) E0 (evFn T k f ws h) H ρ Q := by
  cases e : evFn T k f ws h with
  | ok w h' => rw [e] at p; exact p
  | exc c fs h' => rw [e] at p; exact False.elim p
  | bad => rw [e] at p; exact False.elim p
theorem op_addOwn {X : Cx} {C g : Addr} {sp : Sp} {kk : Nat} {fd : FuncData} {ps : List Str} (h1 : PySem.W.selfFirst X.K C = true) (h2 : PySem.W.findIn X.K (.ref C) "__add__" = some (some (.ref g))) (h3 : PySem.W.isFn X.K (.ref g) = true)
    (F : FnOk X.prog X.w X.K X.mg X.base (L2.CX X.prog X.w) kk g fd ps sp) (hb : Binds X.K fd ps []) (hr : Room kk X.A) :
    OpR X (binaryOp .Add) fun x y H Q => ∃ a b dx ex gs hs, x = .ref a ∧ y = .ref b ∧ H a = some (.ins C dx gs) ∧ H b = some (.ins C ex hs) ∧ sp [.ref a, .ref b] H Q E0 := by
  intro pins s σ H x y v u Q I rx ry h
  obtain ⟨a, b, dx, ex, gs, hs, rfl, rfl, ha, hb2, q⟩ := h
  cases (show v = Value.ref a from rx)
  cases (show u = Value.ref b from ry)
  obtain ⟨mA, O, _, _, _, _⟩ := ins_get I.hok ha
  obtain ⟨od, J, _⟩ := O.look
  obtain ⟨mA', O', _, _, _, _⟩ := ins_get I.hok hb2
  obtain ⟨od', J', _⟩ := O'.look
  obtain ⟨m, hF⟩ := I.fr
  refine PySem.W.binop_K (op := .Add) hF I.ok.mod.kin J J'.type h1 h2 h3 ?_
  refine wpAny_mono (run_fn (us := [.ref a, .ref b]) (vs := [.ref a, .ref b]) (dvs := []) (ds := []) F hr hb .nil passL I (.cons rfl (.cons rfl .nil)) q) (fun w s' z => ?_) fun _ _ x => x
  obtain ⟨z', H', I', rz, qz⟩ := z
  exact SlX.cmpback rz ⟨z', H', I', rz, qz⟩
theorem snd_bin (F : Fx D L k X) {op : Bop} (ha : PE X ea (RE D L k X Wx a)) (hb : PE X eb (RE D L k X Wx b)) : PE X (.BinOp ea (bopO op) eb pos) (RE D L k X Wx (.bin op a b)) :=
  (pe_op op_any ha hb).imp fun σ H Q hq => by
    obtain ⟨env, h, ρ, A, e, p⟩ := hq
    simp only [evE] at p
    refine rd_bind A e p fun x v h1 H1 ρ1 e1 l1 A1 en1 r1 p1 => rd_bind A1 en1 p1 fun y u h2 H2 ρ2 e2 l2 A2 en2 r2 p2 => ?_
    have r1' := r1.later l2
    unfold addW at p2
    split at p2
    · rename_i m n
      split at p2
      · rename_i c1 fs1 c2 fs2 em en
        split at p2
        · rename_i ec
          subst ec
          split at p2
          · rename_i i ei
            split at p2
            · rename_i f ef
              obtain ⟨ax, eax, rfl⟩ := r1'
              obtain ⟨ay, eay, rfl⟩ := r2
              obtain ⟨dx, gs, hx, _⟩ := A2.at em eax
              obtain ⟨ey, hs, hy, _⟩ := A2.at en eay
              obtain ⟨⟨j, ej⟩, f1, f2, f3⟩ := F.add c1 i f ei ef
              obtain ⟨hF, hB, hK⟩ := F.fn f j ej
              exact ⟨_, op_addOwn f1 f2 f3 hF hB (F.room.mono (by omega)), ax, ay, dx, ey, gs, hs, rfl, rfl, hx, hy, [.loc m, .loc n], h2, ρ2, A2, Reps.cons ⟨ax, eax, rfl⟩ (Reps.cons ⟨ay, eay, rfl⟩ Reps.nil), spW_quiet p2⟩
            · exact False.elim p2
          · exact False.elim p2
        · exact False.elim p2
      · exact bin_ok rfl A2 r1' r2 p2
    · exact bin_ok rfl A2 r1' r2 p2
theorem snd_neg (ha : PE X ea (RE D L k X Wx a)) : PE X (.UnaryOp .USub ea pos) (RE D L k X Wx (.neg a)) :=
  (pe_un un_neg ha).imp fun σ H Q hq => by
    obtain ⟨env, h, ρ, A, e, p⟩ := hq
    simp only [evE] at p
    refine rd_bind A e p fun x v h1 H1 ρ1 e1 l1 A1 en1 r1 p1 => ?_
    split at p1
    · rename_i i
      exact ⟨i, r1, p1.ret A1 rfl⟩
    · exact False.elim p1
theorem snd_cmp (F : Fx D L k X) {op : Cop} (hm : plainB eb = true) (ha : PE X ea (RE D L k X Wx a)) (hb : PE X eb (RE D L k X Wx b)) : PE X (.Compare ea [copO op] [eb] pos) (RE D L k X Wx (.cmp op a b)) :=
  (pe_cmpR op_any ha hb (mark_ok hm)).imp fun σ H Q hq => by
    obtain ⟨env, h, ρ, A, e, p⟩ := hq
    simp only [evE] at p
    refine rd_bind A e p fun x v h1 H1 ρ1 e1 l1 A1 en1 r1 p1 => rd_bind A1 en1 p1 fun y u h2 H2 ρ2 e2 l2 A2 en2 r2 p2 => ?_
    cases eo : cmpW op x y h2 with
    | none => rw [eo] at p2; exact False.elim p2
    | some b0 =>
      rw [eo] at p2
      exact cmp_ok rfl F.u65 A2 (r1.later l2) r2 eo (p2.ret A2 rfl)
/-- the same as a test -/
theorem snd_tcmp (F : Fx D L k X) {op : Cop} (hm : plainB eb = true) (ha : PE X ea (RE D L k X Wx a)) (hb : PE X eb (RE D L k X Wx b)) : PT X (.Compare ea [copO op] [eb] pos) (RT D L k X Wx (.val (.cmp op a b))) :=
  (pt_cmpR op_any ha hb (mark_ok hm)).imp fun σ H Q hq => by
    obtain ⟨env, h, ρ, A, e, p⟩ := hq
    simp only [evE, evT, Res.bind_assoc] at p
    refine rd_bind A e p fun x v h1 H1 ρ1 e1 l1 A1 en1 r1 p1 => rd_bind A1 en1 p1 fun y u h2 H2 ρ2 e2 l2 A2 en2 r2 p2 => ?_
    cases eo : cmpW op x y h2 with
    | none => rw [eo] at p2; exact False.elim p2
    | some b0 =>
      rw [eo] at p2
      exact cmp_ok rfl F.u65 A2 (r1.later l2) r2 eo ⟨b0, rfl, p2.ret A2 rfl⟩
theorem lm_ok {o1 o2 : CmpOp} {eb ec : Expr} (hm : plainB ec = true) : lastMarks [o1, o2] [eb, ec] = false := mark_ok hm
theorem snd_chn (F : Fx D L k X) {p q : Cop} (hm : plainB ec = true) (ha : PE X ea (RE D L k X Wx a)) (hb : PE X eb (RE D L k X Wx b)) (hc : PE X ec (RE D L k X Wx c)) :
    PE X (.Compare ea [copO p, copO q] [eb, ec] pos) (RE D L k X Wx (.chn p q a b c)) :=
  (pe_chain op_any op_any ha hb hc (lm_ok hm)).imp fun σ H Q hq => by
    obtain ⟨env, h, ρ, A, e, pp⟩ := hq
    simp only [evE] at pp
    refine rd_bind A e pp fun x v h1 H1 ρ1 e1 l1 A1 en1 r1 p1 => rd_bind A1 en1 p1 fun y u h2 H2 ρ2 e2 l2 A2 en2 r2 p2 => ?_
    cases eo : cmpW p x y h2 with
    | none => rw [eo] at p2; exact False.elim p2
    | some b0 =>
      rw [eo] at p2
      refine cmp_ok rfl F.u65 A2 (r1.later l2) r2 eo ⟨b0, rfl, ?_⟩
      cases b0 with
      | false => exact p2.ret A2 rfl
      | true =>
        refine rd_bind A2 en2 p2 fun z w h3 H3 ρ3 e3 l3 A3 en3 r3 p3 => ?_
        cases eo2 : cmpW q y z h3 with
        | none => rw [eo2] at p3; exact False.elim p3
        | some b1 =>
          rw [eo2] at p3
          exact cmp_ok rfl F.u65 A3 (r2.later l3) r3 eo2 (p3.ret A3 rfl)
/-- the same as a test -/
theorem snd_tchn (F : Fx D L k X) {p q : Cop} (hm : plainB ec = true) (ha : PE X ea (RE D L k X Wx a)) (hb : PE X eb (RE D L k X Wx b)) (hc : PE X ec (RE D L k X Wx c)) :
    PT X (.Compare ea [copO p, copO q] [eb, ec] pos) (RT D L k X Wx (.val (.chn p q a b c))) :=
  (pt_chain op_any op_any ha hb hc (lm_ok hm)).imp fun σ H Q hq => by
    obtain ⟨env, h, ρ, A, e, pp⟩ := hq
    simp only [evE, evT, Res.bind_assoc] at pp
    refine rd_bind A e pp fun x v h1 H1 ρ1 e1 l1 A1 en1 r1 p1 => rd_bind A1 en1 p1 fun y u h2 H2 ρ2 e2 l2 A2 en2 r2 p2 => ?_
    cases eo : cmpW p x y h2 with
    | none => rw [eo] at p2; exact False.elim p2
    | some b0 =>
      rw [eo] at p2
      refine cmp_ok rfl F.u65 A2 (r1.later l2) r2 eo ⟨b0, rfl, ?_⟩
      cases b0 with
      | false => exact ⟨false, rfl, p2.ret A2 rfl⟩
      | true =>
        rw [ofO_some, bind_ok, if_pos rfl] at p2
        simp only [Res.bind_assoc] at p2
        refine rd_bind A2 en2 p2 fun z w h3 H3 ρ3 e3 l3 A3 en3 r3 p3 => ?_
        cases eo2 : cmpW q y z h3 with
        | none => rw [eo2] at p3; exact False.elim p3
        | some b1 =>
          rw [eo2] at p3
          exact cmp_ok rfl F.u65 A3 (r2.later l3) r3 eo2 ⟨b1, rfl, p3.ret A3 rfl⟩
theorem snd_notv (ha : PE X ea (RE D L k X Wx a)) : PE X (.UnaryOp .Not ea pos) (RE D L k X Wx (.not a)) :=
  (pe_not ha).imp fun σ H Q hq => by
    obtain ⟨env, h, ρ, A, e, p⟩ := hq
    simp only [evE] at p
    refine rd_bind A e p fun x v h1 H1 ρ1 e1 l1 A1 en1 r1 p1 => ?_
    split at p1
    · rename_i i
      exact ⟨i, r1, p1.ret A1 rfl⟩
    · exact False.elim p1
theorem snd_nott (ha : PT X ea (RT D L k X Wx a)) : PT X (.UnaryOp .Not ea pos) (RT D L k X Wx (.not a)) :=
  (pt_not ha).imp fun σ H Q hq => by
    obtain ⟨env, h, ρ, A, e, p⟩ := hq
    simp only [evT] at p
    refine rd_bind A e p fun x v h1 H1 ρ1 e1 l1 A1 en1 r1 p1 => ?_
    have r1 : x = v := r1
    subst r1
    exact p1.ret A1 rfl
theorem snd_ite {t : E} {et : Expr} (ht : PT X et (RT D L k X Wx t)) (ha : PE X ea (RE D L k X Wx a)) (hb : PE X eb (RE D L k X Wx b)) : PE X (.IfExp et ea eb pos) (RE D L k X Wx (.ite t a b)) :=
  (pe_ifExp ht ha hb).imp fun σ H Q hq => by
    obtain ⟨env, h, ρ, A, e, p⟩ := hq
    simp only [evE] at p
    refine rd_bind A e p fun x v h1 H1 ρ1 e1 l1 A1 en1 r1 p1 => ?_
    have r1 : x = v := r1
    subst r1
    cases x with
    | true => exact rd_mk A1 en1 p1
    | false => exact rd_mk A1 en1 p1
/-- any other expression as a test -/
def testB : Expr → Bool
  | .Call .. => true
  | .Constant .. => true
  | .Attribute .. => true
  | .Subscript .. => true
  | .Name .. => true
  | .List .. => true
  | .Tuple .. => true
  | .BinOp .. => true
  | _ => false
theorem snd_val (ht : testB ea = true) (ha : PE X ea (RE D L k X Wx a)) : PT X ea (RT D L k X Wx (.val a)) :=
  (pt_truth ha (fun whole => by cases ea <;> first | rfl | cases ht)).imp fun σ H Q hq => by
    obtain ⟨env, h, ρ, A, e, p⟩ := hq
    simp only [evT] at p
    refine rd_bind A e p fun x v h1 H1 ρ1 e1 l1 A1 en1 r1 p1 => ?_
    cases eo : truW x h1 with
    | none => rw [eo] at p1; exact False.elim p1
    | some b0 =>
      rw [eo] at p1
      exact ⟨b0, tru_of rfl A1 r1 eo, p1.ret A1 rfl⟩
/-! ### argument lists -/
variable {es : List E} {xs : List Expr}
theorem snd_nil : PA X [] (REs D L k X Wx []) := pa_nil.imp fun σ H Q hq => by
  obtain ⟨env, h, ρ, A, e, p⟩ := hq
  simp only [evEs] at p
  exact p.ret A Reps.nil
theorem snd_cons (hp : plainB ea = true) (ha : PE X ea (RE D L k X Wx a)) (hs : PA X xs (REs D L k X Wx es)) : PA X (ea :: xs) (REs D L k X Wx (a :: es)) :=
  (pa_cons ha hs (star_ok hp)).imp fun σ H Q hq => by
    obtain ⟨env, h, ρ, A, e, p⟩ := hq
    simp only [evEs] at p
    refine rd_bind A e p fun x v h1 H1 ρ1 e1 l1 A1 en1 r1 p1 => rd_bind A1 en1 p1 fun ys us h2 H2 ρ2 e2 l2 A2 en2 r2 p2 => ?_
    exact p2.ret A2 (Reps.cons (r1.later l2) r2)
theorem snd_tup {j : Nat} (hs : PA X xs (REs D L k X Wx es)) : PE X (.Tuple xs j pos) (RE D L k X Wx (.tup es)) :=
  (pe_tup hs).imp fun σ H Q hq => by
    obtain ⟨env, h, ρ, A, e, p⟩ := hq
    simp only [evE] at p
    refine rd_bind A e p fun ws vs h1 H1 ρ1 e1 l1 A1 en1 r1 p1 => ?_
    split at p1
    · rename_i hl
      refine ⟨lim_le (by rw [← r1.length]; exact hl), fun pn hp => ?_⟩
      obtain ⟨A2, l⟩ := A1.tup (o := .tup vs) hp
      exact p1.ret' l A2 ⟨pn, vs, rfl, SqT.of upd_same, r1.later l⟩
    · exact False.elim p1
theorem snd_lst (hs : PA X xs (REs D L k X Wx es)) : PE X (.List xs pos) (RE D L k X Wx (.lst es)) :=
  (pe_lst hs).imp fun σ H Q hq => by
    obtain ⟨env, h, ρ, A, e, p⟩ := hq
    simp only [evE] at p
    refine rd_bind A e p fun ws vs h1 H1 ρ1 e1 l1 A1 en1 r1 p1 => ?_
    split at p1
    · rename_i hl
      refine ⟨lim_le (by rw [← r1.length]; exact hl), fun pn hp => ?_⟩
      obtain ⟨A2, l⟩ := A1.new (ob := .lst ws) (o := .lst vs) hp fun _ l => ⟨_, upd_same, r1.later l⟩
      exact p1.ret' l A2 ⟨pn, new_at A1, rfl⟩
    · exact False.elim p1
/-! ### subscripts, attributes -/
theorem pe_ix_dct (F : Fx D L k X) (hp : plainB eb = true) (ha : PE X ea (RE D L k X Wx a)) (hb : PE X eb (RE D L k X Wx b)) : PE X (.Subscript ea eb pos) (RE D L k X Wx (.ix a b)) :=
  PE.sel fun σ H Q hq => by
    obtain ⟨env, h, ρ, A, e, p⟩ := hq
    simp only [evE] at p
    by_cases hd : ∃ n h1 y h2 kvs, evE D.T (evFn D.T k) a env h = .ok (.loc n) h1 ∧ evE D.T (evFn D.T k) b env h1 = .ok y h2 ∧ h2[n]? = some (.dct kvs)
    · obtain ⟨n, h1, y, h2, kvs, e1, e2, e3⟩ := hd
      refine ⟨_, pe_dget (by have := F.u65; omega) ha hb (nosl_ok hp), ?_⟩
      refine rd_bind A e p fun x v h1' H1 ρ1 e1' l1 A1 en1 r1 p1 => rd_bind A1 en1 p1 fun y' u h2' H2 ρ2 e2' l2 A2 en2 r2 p2 => ?_
      rw [e1] at e1'
      cases e1'
      rw [e2] at e2'
      cases e2'
      obtain ⟨ad, ead, rfl⟩ := r1.later l2
      obtain ⟨ks, hk, rk⟩ := A2.at e3 ead
      unfold ixW at p2
      simp only [e3] at p2
      cases ek : keyW y with
      | none => rw [ek] at p2; exact False.elim p2
      | some key =>
        rw [ek] at p2
        have hv := repK_val (k := key) rk
        cases eg : valG kvs key with
        | none => simp only [Option.bind_some, eg] at p2; exact False.elim p2
        | some w =>
          rw [eg] at hv
          simp only [Option.bind_some, eg] at p2
          obtain ⟨z, hz, rz⟩ := hv
          have ev := key_of ek r2
          subst ev
          exact ⟨ad, z, rfl, by rw [← hz]; exact DGet.k hk, p2.ret A2 rz⟩
    · refine ⟨_, pe_ix ix_any ha hb (nosl_ok hp), ?_⟩
      refine rd_bind A e p fun x v h1' H1 ρ1 e1' l1 A1 en1 r1 p1 => rd_bind A1 en1 p1 fun y' u h2' H2 ρ2 e2' l2 A2 en2 r2 p2 => ?_
      cases eo : ixW x y' h2' with
      | none => rw [eo] at p2; exact False.elim p2
      | some w =>
        rw [eo] at p2
        exact ix_ok rfl A2 (r1.later l2) r2 eo (fun n kvs ex en => hd ⟨n, h1', y', h2', kvs, by rw [← ex]; exact e1', e2', en⟩) fun z rz => p2.ret A2 rz
theorem snd_onone : PO X none (RO D L k X Wx none) := po_none.imp fun σ H Q hq => by
  obtain ⟨env, h, ρ, A, e, p⟩ := hq
  simp only [evO] at p
  exact p.ret A rfl
theorem snd_osome (ha : PE X ea (RE D L k X Wx a)) : PO X (some ea) (RO D L k X Wx (some a)) := (po_some ha).imp fun σ H Q hq => by
  obtain ⟨env, h, ρ, A, e, p⟩ := hq
  simp only [evO] at p
  refine rd_bind A e p fun x v h1 H1 ρ1 e1 l1 A1 en1 r1 p1 => ?_
  split at p1
  · rename_i i
    exact ⟨i, r1, p1.ret A1 rfl⟩
  · exact False.elim p1
theorem snd_slc {lo hi : Option E} {el eh : Option Expr} {p2 : Pos} (ha : PE X ea (RE D L k X Wx a)) (hl : PO X el (RO D L k X Wx lo)) (hh : PO X eh (RO D L k X Wx hi)) :
    PE X (.Subscript ea (.Slice el eh none p2) pos) (RE D L k X Wx (.slc a lo hi)) :=
  (pe_slice sl_any ha hl hh).imp fun σ H Q hq => by
    obtain ⟨env, h, ρ, A, e, p⟩ := hq
    simp only [evE] at p
    refine rd_bind A e p fun x v h1 H1 ρ1 e1 l1 A1 en1 r1 p1 => rd_bind A1 en1 p1 fun l l' h2 H2 ρ2 e2 l2 A2 en2 r2 p2 => rd_bind A2 en2 p2 fun u u' h3 H3 ρ3 e3 l3 A3 en3 r3 p3 => ?_
    have r2 : l = l' := r2
    have r3 : u = u' := r3
    subst r2 r3
    exact slc_ok rfl A3 (r1.later (l2.trans l3)) p3
end
end Pc
set_option Elab.async false
set_option linter.all false
set_option maxRecDepth 100000
set_option maxHeartbeats 4000000
namespace Pc
open PySem PySem.Spec PyProof.Rows L2

section
variable {D : Dat} {L : Pl} {k : Nat} {X : Cx} {Wx : WX} {a b c : E} {ea eb ec : Expr} {es : List E} {xs : List Expr} {pos apos : Pos}
theorem quiet_of {R : Rd} {Ex : XK} {r : Res W} {H : Hp} {ρ : List Addr} {Q : VK} (p : Pst R (rV R) Ex r.quiet H ρ Q) : Pst R (rV R) E0 r H ρ Q := by
  cases r with
  | ok w h' => exact p
  | exc c fs h' => exact False.elim p
  | bad => exact False.elim p
theorem snd_att (F : Fx D L k X) {f : Nat} {nm : Str} (ef : D.an[f]? = some nm) (hp : plainB ea = true) (ha : PE X ea (RE D L k X Wx a)) : PE X (.Attribute ea nm pos) (RE D L k X Wx (.att a f)) :=
  PE.sel fun σ H Q hq => by
    obtain ⟨env, h, ρ, A, e, p⟩ := hq
    simp only [evE] at p
    by_cases hd : ∃ n h1 c fs i g, evE D.T (evFn D.T k) a env h = .ok (.loc n) h1 ∧ h1[n]? = some (.ins c fs) ∧ D.T.cls[c]? = some i ∧ valG i.prps f = some g
    · obtain ⟨n, h1, c, fs, i, g, e1, e2, e3, e4⟩ := hd
      obtain ⟨⟨j, ej⟩, nm2, pr, en, hpr⟩ := F.prp c i f g e3 e4
      rw [ef] at en
      cases en
      obtain ⟨hF, hB, hK⟩ := F.fn g j ej
      refine ⟨_, pe_prop ha (F.cls c i e3).1 hpr hF F.room hB .nil (dvs := []) (ds := []) (E := E0) (fun _ _ _ _ _ _ _ hx => passL (X := X.nox) _ _ _ _ _ _ (by assumption) hx) (base_ok hp), ?_⟩
      refine rd_bind A e p fun x v h1' H1 ρ1 e1' l1 A1 en1 r1 p1 => ?_
      rw [e1] at e1'
      cases e1'
      obtain ⟨ad, ead, rfl⟩ := r1
      obtain ⟨dx, gs, hx, rf⟩ := A1.at e2 ead
      refine ⟨ad, dx, gs, rfl, hx, [.loc n], h1, ρ1, A1, Reps.cons ⟨ad, ead, rfl⟩ Reps.nil, ?_⟩
      unfold attW at p1
      simp only [e2, e3, e4] at p1
      exact quiet_of p1
    · refine ⟨_, pe_fld ha (base_ok hp), ?_⟩
      refine rd_bind A e p fun x v h1 H1 ρ1 e1 l1 A1 en1 r1 p1 => ?_
      unfold attW at p1
      cases x with
      | loc n =>
        obtain ⟨ad, ead, rfl⟩ := r1
        simp only at p1
        split at p1
        · rename_i c fs e2
          obtain ⟨dx, gs, hx, rf⟩ := A1.at e2 ead
          split at p1
          · rename_i i e3
            split at p1
            · rename_i g e4
              exact absurd ⟨n, h1, c, fs, i, g, e1, e2, e3, e4⟩ hd
            · rename_i e4
              split at p1
              · exact False.elim p1
              · rename_i e5
                have hv := repF_val A1.an ef rf
                cases eg : valG fs f with
                | none => rw [eg] at p1; exact False.elim p1
                | some w =>
                  rw [eg] at hv p1
                  obtain ⟨z, hz, rz⟩ := hv
                  exact ⟨ad, L.ca c, dx, gs, z, rfl, hx, (F.cls c i e3).1, F.att c i f nm e3 e4 e5 ef, hz, p1.ret A1 rz⟩
          · exact False.elim p1
        · exact False.elim p1
      | non => exact False.elim p1
      | bl b => exact False.elim p1
      | int b => exact False.elim p1
      | str b => exact False.elim p1
      | tup b => exact False.elim p1
theorem pe_callS0 {f : Addr} {fd : FuncData} {ps : List Str} {sp : Sp} {E : L2.St → XK} {x : Str} {p : Pos} {kk : Nat} {CX : CXT} (F : FnOk X.prog X.w X.K X.mg X.base CX kk f fd ps sp) (hr : Room kk X.A) (hg : Gl X x) (hm : X.mg x = some (.ref f)) (hk : PySem.W.keepIn X.K (.ref f) = true)
    (hb : Binds X.K fd ps []) (hx : ∀ σ, PassesAt CX X σ (E σ)) (hdb : (x == ("__debug__" : Str)) = false) : PE X (.Call (.Name x p) [] [] pos) (tCallS sp E tNil) := by
  refine ⟨fun pins s σ H Q I h => ?_⟩
  refine wpAny_Call_Name_kw (ld_glob I hg hm ?_ hdb)
  exact PySem.W.callWith_K0 I.kIn hk (run_fnS (us := []) F hr hb (hx σ) I .nil h)
theorem snd_call (F : Fx D L k X) (tk : Takes X Wx) {f : Nat} {i : FnI} {x : Str} {p : Pos} {y : Expr} (ei : D.T.fns[f]? = some i) (en : D.fnm[f]? = some (some x)) (hg : Gl X x) (hdb : (x == ("__debug__" : Str)) = false) (hpl : (y :: xs).all plainB = true)
    (hs : PA X (y :: xs) (REs D L k X Wx es)) : PE X (.Call (.Name x p) (y :: xs) [] pos) (RE D L k X Wx (.call f es)) := by
  obtain ⟨hF, hB, hK⟩ := F.fn f i ei
  rw [List.all_cons, Bool.and_eq_true] at hpl
  exact (pe_callS hF (F.room.mono (by omega)) hg (F.fnm f x en) hK hB (passAt tk) hs hdb (star_ok hpl.1) (stars_ok hpl.2)).imp fun σ H Q hq => by
    obtain ⟨env, h, ρ, A, e, p⟩ := hq
    simp only [evE] at p
    exact rd_bind A e p fun ws vs h1 H1 ρ1 e1 l1 A1 en1 r1 p1 => ⟨ws, h1, ρ1, A1, r1, p1⟩
theorem snd_call0 (F : Fx D L k X) (tk : Takes X Wx) {f : Nat} {i : FnI} {x : Str} {p : Pos} (ei : D.T.fns[f]? = some i) (en : D.fnm[f]? = some (some x)) (hg : Gl X x) (hdb : (x == ("__debug__" : Str)) = false) :
    PE X (.Call (.Name x p) [] [] pos) (RE D L k X Wx (.call f [])) := by
  obtain ⟨hF, hB, hK⟩ := F.fn f i ei
  exact (pe_callS0 hF (F.room.mono (by omega)) hg (F.fnm f x en) hK hB (passAt tk) hdb).imp fun σ H Q hq => by
    obtain ⟨env, h, ρ, A, e, p⟩ := hq
    simp only [evE, evEs, bind_ok] at p
    exact ⟨[], h, ρ, A, Reps.nil, p⟩
theorem new_ok {R : Rd} {T : Tab} {k : Nat} {c : Nat} {i : ClI} {h : Hs} {H : Hp} {ρ : List Addr} {ws : List W} {vs : List V} {Ex : XK} {Q : VK} (A : All R H ρ h) (r : Reps R H ρ ws vs) (ei : T.cls[c]? = some i) (p : Pst R (rV R) Ex (newW T (evFn T k) c ws h) H ρ Q) :
    ∀ x dx, H x = none → H dx = none → dx ≠ x → spW R T k i.init (.ref x :: (vs ++ [])) (upd (upd H dx (.own x)) x (.ins (R.ca c) dx [])) (fun v H2 => v = .non ∧ Q (.ref x) H2) E0 := by
  intro x dx hx hdx ne
  unfold newW at p
  simp only [ei] at p
  have A1 := A.tup (o := .own x) hdx
  have hx1 : upd H dx (.own x) x = none := by rw [upd_ne (Ne.symm ne)]; exact hx
  have A2 := A1.1.new (p := x) (o := .ins (R.ca c) dx []) (ob := .ins c []) hx1 fun _ _ => ⟨dx, [], upd_same, .nil⟩
  have l2 := A1.2.trans A2.2
  rw [List.append_nil]
  refine ⟨.loc h.length :: ws, h ++ [.ins c []], ρ ++ [x], A2.1, Reps.cons ⟨x, new_at A, rfl⟩ (r.later l2), ?_⟩
  have p2 := Pst.bind (rel := rV R) (Pst.later l2 p)
  refine (quiet_of (p2.mono fun v H' hh => ?_))
  obtain ⟨w, h1, ρ1, er, l3, A3, rw_, p3⟩ := hh
  split at p3
  · rename_i hn
    rw [isNon_of rw_] at hn
    refine ⟨of_decide_eq_true hn, p3.ret A3 ⟨x, l3.pl _ _ (new_at A), rfl⟩⟩
  · exact False.elim p3
theorem snd_new (F : Fx D L k X) {c : Nat} {i : ClI} {x : Str} {p : Pos} {y : Expr} (ei : D.T.cls[c]? = some i) (en : D.cnm[c]? = some x) (hg : Gl X x) (hdb : (x == ("__debug__" : Str)) = false) (hpl : (y :: xs).all plainB = true)
    (hs : PA X (y :: xs) (REs D L k X Wx es)) : PE X (.Call (.Name x p) (y :: xs) [] pos) (RE D L k X Wx (.new c es)) := by
  obtain ⟨hC, hM, j, ej⟩ := F.cls c i ei
  obtain ⟨hF, hB, hK⟩ := F.fn i.init j ej
  rw [List.all_cons, Bool.and_eq_true] at hpl
  exact (pe_make hM hF F.room hg (F.cnm c x en) hB .nil passL hs hdb (star_ok hpl.1) (stars_ok hpl.2)).imp fun σ H Q hq => by
    obtain ⟨env, h, ρ, A, e, p⟩ := hq
    simp only [evE] at p
    exact rd_bind A e p fun ws vs h1 H1 ρ1 e1 l1 A1 en1 r1 p1 => new_ok A1 r1 ei p1
theorem snd_new0 (F : Fx D L k X) {c : Nat} {i : ClI} {x : Str} {p : Pos} (ei : D.T.cls[c]? = some i) (en : D.cnm[c]? = some x) (hg : Gl X x) (hdb : (x == ("__debug__" : Str)) = false) :
    PE X (.Call (.Name x p) [] [] pos) (RE D L k X Wx (.new c [])) := by
  obtain ⟨hC, hM, j, ej⟩ := F.cls c i ei
  obtain ⟨hF, hB, hK⟩ := F.fn i.init j ej
  exact (pe_make0 hM hF F.room hg (F.cnm c x en) hB .nil passL hdb).imp fun σ H Q hq => by
    obtain ⟨env, h, ρ, A, e, p⟩ := hq
    simp only [evE, evEs, bind_ok] at p
    exact new_ok A Reps.nil ei p
/-- the tree of a method call -/
theorem meth_tree {o : Expr} {m : Str} {apos pos : Pos} {args : List Expr} {env : Env} (hb : plainB o = true) (hl : (apos.endLine == pos.line) = true) (hpl : args.all plainB = true) (hn : args.length < 30) :
    eval (.Call (.Attribute o m apos) args [] pos) env = (do
      let ov ← eval o env
      standAt apos.atName
      let (f, first) ← holding [ov] (getMethod ov m (plainOf o env))
      callWith pos f first (backTo pos (starEach args env)) (backToKw pos (keywordEach [] env))) := by
  refine mcall_of (base_ok hb) fun ov => mcall_line ?_ hl
  have hs : ∀ {es : List Expr}, es.all plainB = true → (backTo pos (starEach es env)).all (fun x => !x.1) = true := by
    intro es
    induction es with
    | nil => intro _; rfl
    | cons e es ih =>
      intro h
      rw [List.all_cons, Bool.and_eq_true] at h
      rw [star_ok h.1]
      show (true && (backTo pos (starEach es env)).all (fun x => !x.1)) = true
      rw [ih h.2]
      rfl
  show ((backTo pos (starEach args env)).all (fun x => !x.1) && true && decide (args.length + 0 + 0 < 30)) = true
  rw [hs hpl]
  simpa using hn
theorem mthF_some {T : Tab} {m f : Nat} {x : W} {h : Hs} (e : mthF T m x h = some f) : ∃ n c fs i, x = .loc n ∧ h[n]? = some (.ins c fs) ∧ T.cls[c]? = some i ∧ valG fs m = none ∧ valG i.mths m = some f := by
  unfold mthF at e
  split at e
  · rename_i n
    split at e
    · rename_i c fs en
      split at e
      · rename_i i ei
        split at e
        · rename_i hn
          exact ⟨n, c, fs, i, rfl, en, ei, by simpa using hn, e⟩
        · cases e
      · cases e
    · cases e
  · cases e
theorem REs_nil {σ : L2.St} {H : Hp} {Q : List V → Hp → Prop} (q : REs D L k X Wx [] σ H Q) : Q [] H := by
  obtain ⟨env, h, ρ, A, e, p⟩ := q
  simp only [evEs] at p
  exact p.ret A Reps.nil
theorem snd_mth (F : Fx D L k X) {m : Nat} {nm : Str} (em : D.an[m]? = some nm) (hp : plainB ea = true) (hl : (apos.endLine == pos.line) = true) (hpl : xs.all plainB = true) (hn : xs.length < 30) (hes : es.length = xs.length)
    (ha : PE X ea (RE D L k X Wx a)) (hs : PA X xs (REs D L k X Wx es)) : PE X (.Call (.Attribute ea nm apos) xs [] pos) (RE D L k X Wx (.mth m a es)) :=
  PE.sel fun σ H Q hq => by
    obtain ⟨env, h, ρ, A, e, p⟩ := hq
    simp only [evE] at p
    cases e1 : evE D.T (evFn D.T k) a env h with
    | bad => rw [e1] at p; exact False.elim p
    | exc c fs h' =>
      -- the receiver raises: any rule that evaluates it first
      rw [e1] at p
      refine ⟨_, ⟨fun pins s σ H (Q : VK) I (q : RE D L k X Wx a σ H fun _ _ => False) => PySem.W.methodCall_KW (pl := plainOf ea X.env) (thn (ha.run pins s σ H _ I q) fun _ _ ⟨_, _, _, _, z⟩ => False.elim z) (meth_tree hp hl hpl hn)⟩, rd_mk A e (by rw [e1]; exact p)⟩
    | ok x h1 =>
      rw [e1, bind_ok] at p
      split at p
      · exact False.elim p
      · rename_i f ef
        obtain ⟨n, c, fs, i, rfl, en, ei, hno, evm⟩ := mthF_some ef
        obtain ⟨⟨j, ej⟩, nm2, en2, hM⟩ := F.mth c i m f ei evm
        rw [em] at en2
        cases en2
        obtain ⟨hF, hB, hK⟩ := F.fn f j ej
        have fin : ∀ v H1 ρ1, Lt (rdOf D L X.K) H ρ H1 ρ1 → All (rdOf D L X.K) H1 ρ1 h1 → Rep (rdOf D L X.K) H1 ρ1 (.loc n) v → ∃ ad dx gs, v = .ref ad ∧ H1 ad = some (.ins (L.ca c) dx gs) ∧ gs.lookup nm = none ∧
            REs D L k X Wx es σ H1 fun vs H2 => spW (rdOf D L X.K) D.T k f (v :: (vs ++ [])) H2 Q E0 := by
          intro v H1 ρ1 l1 A1 r1
          obtain ⟨ad, ead, rfl⟩ := id r1
          obtain ⟨dx, gs, hx, rf⟩ := A1.at en ead
          have hv := repF_val A1.an em rf
          rw [hno] at hv
          refine ⟨ad, dx, gs, rfl, hx, hv, rd_bind A1 (e.later l1) (Pst.later l1 p) fun ws vs h2 H2 ρ2 e2 l2 A2 en2 r2 p2 => ?_⟩
          rw [List.append_nil]
          exact ⟨.loc n :: ws, h2, ρ2, A2, Reps.cons (r1.later l2) r2, quiet_of p2⟩
        cases xs with
        | nil =>
          cases es with
          | nil =>
            refine ⟨_, pe_meth0 ha (F.cls c i ei).1 hM hF (F.room.mono (by omega)) hB (dvs := []) .nil passL (meth_tree hp hl hpl hn), ?_⟩
            exact rd_mk A e (by rw [e1]; exact fun v H1 ρ1 l1 A1 r1 => let ⟨ad, dx, gs, z1, z2, z3, z4⟩ := fin v H1 ρ1 l1 A1 r1; ⟨ad, dx, gs, z1, z2, z3, REs_nil z4⟩)
          | cons y ys => cases hes
        | cons y ys =>
          rw [List.all_cons, Bool.and_eq_true] at hpl
          refine ⟨_, pe_meth ha (F.cls c i ei).1 hM hF (F.room.mono (by omega)) hB (dvs := []) .nil passL hs (star_ok hpl.1) (stars_ok hpl.2) (meth_tree hp hl (by rw [List.all_cons, hpl.1, hpl.2]; rfl) hn), ?_⟩
          exact rd_mk A e (by rw [e1]; exact fun v H1 ρ1 l1 A1 r1 => fin v H1 ρ1 l1 A1 r1)

/-! ### built-in functions, isinstance -/
def bfN : Bf → Str
  | .len => "len" | .abs => "abs" | .int => "int" | .list => "list" | .tuple => "tuple" | .min2 => "min" | .max2 => "max"
theorem bfN_ok (b : Bf) : bootBuiltins (bfN b) = some (bfV b) ∧ bfN b ≠ ("__name__" : Str) ∧ (bfN b == ("__debug__" : Str)) = false := by
  cases b <;> decide +kernel
theorem snd_blt (F : Fx D L k X) {b : Bf} {p : Pos} {y : Expr} (hf : bfN b ∈ D.free) (hg : Gl X (bfN b)) (hpl : (y :: xs).all plainB = true) (hs : PA X (y :: xs) (REs D L k X Wx es)) :
    PE X (.Call (.Name (bfN b) p) (y :: xs) [] pos) (RE D L k X Wx (.blt b es)) := by
  rw [List.all_cons, Bool.and_eq_true] at hpl
  obtain ⟨h1, h2, h3⟩ := bfN_ok b
  have red : ∀ σ H Q, RE D L k X Wx (.blt b es) σ H Q → tCB (rAnyC X (bfV b)) (REs D L k X Wx es) σ H Q := fun σ H Q hq => by
    obtain ⟨env, h, ρ, A, e, p⟩ := hq
    simp only [evE] at p
    exact rd_bind A e p fun ws vs h1 H1 ρ1 e1 l1 A1 en1 r1 p1 => blt_ok rfl F.calm A1 r1 p1
  have hm := F.free _ hf
  have hB : ∀ id, bfV b = .builtin id → PE X (.Call (.Name (bfN b) p) (y :: xs) [] pos) (tCB (rAnyC X (bfV b)) (REs D L k X Wx es)) := fun id e => by
    rw [e] at h1 ⊢
    exact pe_callB call_any hg hm h1 hs h2 h3 (star_ok hpl.1) (stars_ok hpl.2)
  have hT : ∀ id, bfV b = .type id → PE X (.Call (.Name (bfN b) p) (y :: xs) [] pos) (tCB (rAnyC X (bfV b)) (REs D L k X Wx es)) := fun id e => by
    rw [e] at h1 ⊢
    exact pe_callTy call_any hg hm h1 hs h2 h3 (star_ok hpl.1) (stars_ok hpl.2)
  have hA : PE X (.Call (.Name (bfN b) p) (y :: xs) [] pos) (tCB (rAnyC X (bfV b)) (REs D L k X Wx es)) := by
    cases b with
    | len => exact hB _ rfl
    | abs => exact hB _ rfl
    | int => exact hT _ rfl
    | list => exact hT _ rfl
    | tuple => exact hT _ rfl
    | min2 => exact hB _ rfl
    | max2 => exact hB _ rfl
  exact hA.imp red
def tyN : Ty → Str
  | .tup => "tuple" | .lst => "list" | .int => "int" | .bool => "bool" | .str => "str"
theorem tyN_ok (b : Ty) : bootBuiltins (tyN b) = some (.type (tyV' b)) ∧ tyN b ≠ ("__name__" : Str) ∧ (tyN b == ("__debug__" : Str)) = false := by
  cases b <;> decide +kernel
theorem pe_tyN {t : Ty} {p : Pos} (hg : Gl X (tyN t)) (hm : X.mg (tyN t) = none) : PE X (.Name (tyN t) p) (tC (.ty (tyV' t))) :=
  let ⟨h1, h2, h3⟩ := tyN_ok t
  pe_bltn hg hm h1 rfl h2 h3
theorem isi_boot : bootBuiltins ("isinstance" : Str) = some (.builtin "isinstance") := by decide +kernel
/-- isinstance(x, T) -/
theorem snd_isi1 (F : Fx D L k X) {t : Ty} {p p2 : Pos} (hp : plainB ea = true) (hf : ("isinstance" : Str) ∈ D.free) (hg : Gl X ("isinstance" : Str)) (hf2 : tyN t ∈ D.free) (hg2 : Gl X (tyN t)) (ha : PE X ea (RE D L k X Wx a)) :
    PE X (.Call (.Name ("isinstance" : Str) p) [ea, .Name (tyN t) p2] [] pos) (RE D L k X Wx (.isi a [t])) :=
  (pe_callB call_isi hg (F.free _ hf) isi_boot (pa_cons ha (pa_cons (pe_tyN hg2 (F.free _ hf2)) pa_nil rfl) (star_ok hp)) (by decide +kernel) (by decide +kernel) (star_ok hp) rfl).imp fun σ H Q hq => by
    obtain ⟨env, h, ρ, A, e, p⟩ := hq
    simp only [evE] at p
    refine rd_bind A e p fun x v h1 H1 ρ1 e1 l1 A1 en1 r1 p1 => ?_
    unfold isiAny at p1
    cases et : tyW x h1 with
    | none => rw [et] at p1; exact False.elim p1
    | some n =>
      rw [et] at p1
      have hk : PySem.W.kitOne X.K (.type (tnV n)) (.type (tyV' t)) = some ([t].any (isTy n)) := by
        rw [List.any_cons, List.any_nil, Bool.or_false]
        exact kit_ty (kit_all n t)
      exact ⟨v, _, _, _, _, rfl, .ty _, ty_of rfl A1 r1 et, hk, p1.ret A1 rfl⟩
/-- isinstance(x, (T, U, ..)) -/
theorem pa_tyNs (F : Fx D L k X) : ∀ {ts : List Ty} {ps : List Pos}, (∀ t ∈ ts, tyN t ∈ D.free ∧ Gl X (tyN t)) → ∃ ta : TA, PA X ((ts.zip ps).map fun q => Expr.Name (tyN q.1) q.2) ta ∧ (ts.length = ps.length → ∀ σ H (Q : List V → Hp → Prop), Q (ts.map fun t => V.ty (tyV' t)) H → ta σ H Q)
  | [], _, _ => ⟨_, pa_nil, fun _ σ H Q q => q⟩
  | t :: ts, [], _ => ⟨_, pa_nil, fun e => nomatch e⟩
  | t :: ts, p :: ps, h => by
    obtain ⟨ta, h1, h2⟩ := pa_tyNs F (ts := ts) (ps := ps) fun u hu => h u (List.mem_cons_of_mem _ hu)
    have ht := h t List.mem_cons_self
    refine ⟨_, pa_cons (pe_tyN ht.2 (F.free _ ht.1)) h1 rfl, fun e σ H Q q => ?_⟩
    exact h2 (by simpa using e) σ H _ q
theorem clsv_all : ∀ ts : List Ty, Paired ClsV (ts.map fun t => V.ty (tyV' t)) (ts.map fun t => Value.type (tyV' t))
  | [] => .nil
  | t :: ts => .cons (.ty _) (clsv_all ts)
theorem snd_isiT (F : Fx D L k X) {ts : List Ty} {ps : List Pos} {p p2 : Pos} {j : Nat} (hp : plainB ea = true) (hf : ("isinstance" : Str) ∈ D.free) (hg : Gl X ("isinstance" : Str)) (hf2 : ∀ t ∈ ts, tyN t ∈ D.free ∧ Gl X (tyN t)) (hl : ts.length = ps.length) (hz : ts.length ≤ 100)
    (ha : PE X ea (RE D L k X Wx a)) : PE X (.Call (.Name ("isinstance" : Str) p) [ea, .Tuple ((ts.zip ps).map fun q => Expr.Name (tyN q.1) q.2) j p2] [] pos) (RE D L k X Wx (.isi a ts)) := by
  obtain ⟨ta, h1, h2⟩ := pa_tyNs F (ps := ps) hf2
  refine (pe_callB call_isiT hg (F.free _ hf) isi_boot (pa_cons ha (pa_cons (pe_tup h1) pa_nil rfl) (star_ok hp)) (by decide +kernel) (by decide +kernel) (star_ok hp) rfl).imp fun σ H Q hq => ?_
  obtain ⟨env, h, ρ, A, e, p⟩ := hq
  simp only [evE] at p
  refine rd_bind A e p fun x v h1 H1 ρ1 e1 l1 A1 en1 r1 p1 => h2 hl σ H1 _ ⟨?_, fun pn hpn => ?_⟩
  · rw [List.length_map]
    exact Nat.le_trans hz (by rw [sizeLine_eq]; decide)
  · unfold isiAny at p1
    cases et : tyW x h1 with
    | none => rw [et] at p1; exact False.elim p1
    | some n =>
      rw [et] at p1
      obtain ⟨A2, l2⟩ := A1.tup (o := .tup (ts.map fun t => V.ty (tyV' t))) hpn
      refine ⟨v, pn, _, .type (tnV n), ts.map fun t => .type (tyV' t), _, rfl, upd_same, clsv_all ts, ty_of rfl A2 (r1.later l2) et, kit_any ts, p1.ret' l2 A2 rfl⟩

/-! ### methods of built-in things -/
def bmN : Bm → Str
  | .append => "append" | .extend => "extend" | .insert => "insert" | .get1 => "get" | .get2 => "get" | .pop0 => "pop"
theorem few_ok {env : Env} {pos : Pos} (hpl : xs.all plainB = true) (hn : xs.length < 30) : ((backTo pos (starEach xs env)).all (fun x => !x.1) && (backToKw pos (keywordEach [] env)).all (fun x => x.1.isSome)
      && decide (xs.length + ([] : List Keyword).length + (if ([] : List Keyword).isEmpty then 0 else 1) < 30)) = true := by
  have hs : ∀ {es : List Expr}, es.all plainB = true → (backTo pos (starEach es env)).all (fun x => !x.1) = true := by
    intro es
    induction es with
    | nil => intro _; rfl
    | cons e es ih =>
      intro h
      rw [List.all_cons, Bool.and_eq_true] at h
      rw [star_ok h.1]
      show (true && (backTo pos (starEach es env)).all (fun x => !x.1)) = true
      rw [ih h.2]
      rfl
  show ((backTo pos (starEach xs env)).all (fun x => !x.1) && true && decide (xs.length + 0 + 0 < 30)) = true
  rw [hs hpl]
  simpa using hn
/-- a method that runs on a list -/
theorem red_bmt {m : Bm} {id : String} {σ : L2.St} {H : Hp} {Q : VK} {env : En} {h h1 : Hs} {ρ : List Addr} {n : Nat} {ws : List W} (A : All (rdOf D L X.K) H ρ h) (e : EnvR (rdOf D L X.K) H ρ env σ) (e1 : evE D.T (evFn D.T k) a env h = .ok (.loc n) h1) (en : h1[n]? = some (.lst ws))
    (hid : bmL m = id) (p : Pst (rdOf D L X.K) (rV (rdOf D L X.K)) (fun c d H' => Wx c d σ H') ((evEs D.T (evFn D.T k) es env h1).bind fun ws h2 => bmtW m (.loc n) ws h2) H ρ Q)
    (hk : ∀ h2 us, h2[n]? = some (.dct us) → ∀ xs, bmtW m (.loc n) xs h2 = .bad) :
    RE D L k X Wx a σ H fun x H1 => tyV X.K "list" x H1 ∧ REs D L k X Wx es σ H1 fun xs H2 => rAnyM X id x xs H2 Q :=
  rd_mk A e (by
    rw [e1]
    exact fun v H1 ρ1 l1 A1 r1 => by
      refine ⟨?_, rd_bind A1 (e.later l1) (Pst.later l1 p) fun ys vs h2 H2 ρ2 e2 l2 A2 en2 r2 p2 => ?_⟩
      · obtain ⟨ad, ead, rfl⟩ := r1
        obtain ⟨us, hu, _⟩ := A1.at en ead
        exact .inl ⟨rfl, us, SqL.of hu⟩
      · cases eo : h2[n]? with
        | none =>
          unfold bmtW at p2
          simp only [eo] at p2
          exact False.elim p2
        | some o =>
          cases o with
          | lst us => rw [← hid]; exact bml_ok A2 eo (Rep.later l2 r1) r2 p2
          | dct us => rw [hk h2 us eo] at p2; exact False.elim p2
          | frz us =>
            unfold bmtW at p2
            simp only [eo] at p2
            exact False.elim p2
          | ins c us =>
            unfold bmtW at p2
            simp only [eo] at p2
            exact False.elim p2)
theorem bmt_list {m : Bm} (hm : lstM m = true) {n : Nat} : ∀ (h2 : Hs) (us : List (Key × W)), h2[n]? = some (.dct us) → ∀ xs, bmtW m (.loc n) xs h2 = .bad := by
  intro h2 us e xs
  unfold bmtW
  simp only [e]
  cases m <;> first | (cases hm; done) | (split <;> first | rfl | (rename_i z; cases z))
/-- the receiver says it is a list -/
theorem kind_list {m : Bm} (hm : lstM m = true) {x : W} {h : Hs} (e : kindW m x h = true) : ∃ n ws, x = .loc n ∧ h[n]? = some (.lst ws) := by
  unfold kindW at e
  split at e
  · rename_i n
    split at e
    · rename_i ws en
      exact ⟨n, ws, rfl, en⟩
    · cases m <;> first | (cases hm; done) | (cases e; done)
    · cases e
  · cases e
theorem kind_dict {m : Bm} (hm : dctM m = true) {x : W} {h : Hs} (e : kindW m x h = true) : ∃ n ws, x = .loc n ∧ h[n]? = some (.dct ws) := by
  unfold kindW at e
  split at e
  · rename_i n
    split at e
    · cases m <;> first | (cases hm; done) | (cases e; done)
    · rename_i ws en
      exact ⟨n, ws, rfl, en⟩
    · cases e
  · cases e
theorem bm_frame {m : Bm} {σ : L2.St} {H : Hp} {Q : VK} (hq : RE D L k X Wx (.bmt m a es) σ H Q) : ∃ env h ρ, All (rdOf D L X.K) H ρ h ∧ EnvR (rdOf D L X.K) H ρ env σ ∧
    ((∃ x h1, evE D.T (evFn D.T k) a env h = .ok x h1 ∧ kindW m x h1 = true ∧ Pst (rdOf D L X.K) (rV (rdOf D L X.K)) (fun c d H' => Wx c d σ H') ((evEs D.T (evFn D.T k) es env h1).bind fun ws h2 => bmtW m x ws h2) H ρ Q) ∨
      RE D L k X Wx a σ H fun _ _ => False) := by
  obtain ⟨env, h, ρ, A, e, p⟩ := hq
  simp only [evE] at p
  refine ⟨env, h, ρ, A, e, ?_⟩
  cases e1 : evE D.T (evFn D.T k) a env h with
  | bad => rw [e1] at p; exact False.elim p
  | exc c fs h' =>
    rw [e1] at p
    exact .inr (rd_mk A e (by rw [e1]; exact p))
  | ok x h1 =>
    rw [e1, bind_ok] at p
    split at p
    · rename_i hk
      exact .inl ⟨x, h1, rfl, hk, p⟩
    · exact False.elim p
theorem snd_bml (F : Fx D L k X) {m : Bm} {y : Expr} (hm : lstM m = true) (hp : plainB ea = true) (hl : (apos.endLine == pos.line) = true) (hpl : (y :: xs).all plainB = true) (hn : (y :: xs).length < 30)
    (ha : PE X ea (RE D L k X Wx a)) (hs : PA X (y :: xs) (REs D L k X Wx es)) : PE X (.Call (.Attribute ea (bmN m) apos) (y :: xs) [] pos) (RE D L k X Wx (.bmt m a es)) := by
  have few := few_ok (env := X.env) (pos := pos) hpl hn
  rw [List.all_cons, Bool.and_eq_true] at hpl
  have go : ∀ {id : String}, bmL m = id → PE X (.Call (.Attribute ea (bmN m) apos) (y :: xs) [] pos) (tBM X.K "list" (rAnyM X id) (RE D L k X Wx a) (REs D L k X Wx es)) →
      PE X (.Call (.Attribute ea (bmN m) apos) (y :: xs) [] pos) (RE D L k X Wx (.bmt m a es)) := fun {id} hid hr => hr.imp fun σ H Q hq => by
    obtain ⟨env, h, ρ, A, e, hx | hx⟩ := bm_frame hq
    · obtain ⟨x, h1, e1, hk, p⟩ := hx
      obtain ⟨n, ws, rfl, en⟩ := kind_list hm hk
      exact red_bmt A e e1 en hid p (bmt_list hm)
    · obtain ⟨env, h, ρ, A, e, p⟩ := hx
      exact ⟨env, h, ρ, A, e, p.mono fun _ _ z => False.elim z⟩
  cases m with
  | append => exact go rfl (pe_bm PySem.F.plainAttrs_list PySem.F.slot_list_append PySem.F.type_list_append mt_any ha hs (base_ok hp) few hl (star_ok hpl.1) (stars_ok hpl.2))
  | extend => exact go rfl (pe_bm PySem.F.plainAttrs_list PySem.F.slot_list_extend PySem.F.type_list_extend mt_any ha hs (base_ok hp) few hl (star_ok hpl.1) (stars_ok hpl.2))
  | insert => exact go rfl (pe_bm PySem.F.plainAttrs_list PySem.F.slot_list_insert PySem.F.type_list_insert mt_any ha hs (base_ok hp) few hl (star_ok hpl.1) (stars_ok hpl.2))
  | get1 => cases hm
  | get2 => cases hm
  | pop0 => exact go rfl (pe_bm PySem.F.plainAttrs_list PySem.F.slot_list_pop PySem.F.type_list_pop mt_any ha hs (base_ok hp) few hl (star_ok hpl.1) (stars_ok hpl.2))
theorem snd_pop0 (F : Fx D L k X) (hp : plainB ea = true) (hl : (apos.endLine == pos.line) = true) (ha : PE X ea (RE D L k X Wx a)) : PE X (.Call (.Attribute ea (bmN .pop0) apos) [] [] pos) (RE D L k X Wx (.bmt .pop0 a [])) :=
  (pe_bm0 PySem.F.plainAttrs_list PySem.F.slot_list_pop PySem.F.type_list_pop mt_any ha (base_ok hp) hl).imp fun σ H Q hq => by
    obtain ⟨env, h, ρ, A, e, hx | hx⟩ := bm_frame hq
    · obtain ⟨x, h1, e1, hk, p⟩ := hx
      obtain ⟨n, ws, rfl, en⟩ := kind_list rfl hk
      have q := red_bmt (id := "list.pop") A e e1 en rfl p (bmt_list rfl)
      obtain ⟨env2, h2, ρ2, A2, e2, p2⟩ := q
      exact ⟨env2, h2, ρ2, A2, e2, p2.mono fun v H' z => ⟨z.1, REs_nil z.2⟩⟩
    · obtain ⟨env, h, ρ, A, e, p⟩ := hx
      exact ⟨env, h, ρ, A, e, p.mono fun _ _ z => False.elim z⟩

theorem trees1 {env : Env} {pos : Pos} {e : Expr} (h : plainB e = true) : backTo pos (starEach [e] env) = [(false, eval e env)] := by
  rw [star_ok h] <;> rfl
theorem trees2 {env : Env} {pos : Pos} {e f : Expr} (h : plainB e = true) (h2 : plainB f = true) : backTo pos (starEach [e, f] env) = [(false, eval e env), (false, eval f env)] := by
  rw [star_ok h, star_ok h2] <;> rfl
theorem bm_dct {m : Bm} (hm : dctM m = true) {n : Nat} {xs : List W} {h : Hs} {o : Ob} (eo : h[n]? = some o) (hno : ∀ us, o ≠ .dct us) : bmtW m (.loc n) xs h = .bad := by
  unfold bmtW
  simp only [eo]
  cases o with
  | lst us => cases m <;> first | (cases hm; done) | (simp only)
  | dct us => exact absurd rfl (hno us)
  | frz us => rfl
  | ins c us => rfl
theorem snd_get1 (F : Fx D L k X) (hp : plainB ea = true) (hpb : plainB eb = true) (hl : (apos.endLine == pos.line) = true) (ha : PE X ea (RE D L k X Wx a)) (hb : PE X eb (RE D L k X Wx b)) :
    PE X (.Call (.Attribute ea ("get" : Str) apos) [eb] [] pos) (RE D L k X Wx (.bmt .get1 a [b])) :=
  (pe_dget1 (by have := F.u65; omega) ha hb ⟨base_ok hp, few_ok (by simp [hpb]) (by show 1 < 30; omega), hl, trees1 hpb⟩).imp fun σ H Q hq => by
    obtain ⟨env, h, ρ, A, e, hx | hx⟩ := bm_frame hq
    · obtain ⟨x, h1, e1, hk, p⟩ := hx
      obtain ⟨n, ws, rfl, en⟩ := kind_dict rfl hk
      refine rd_mk A e ?_
      rw [e1]
      intro v H1 ρ1 l1 A1 r1
      obtain ⟨ad, ead, rfl⟩ := id r1
      obtain ⟨ks, hks, _⟩ := A1.at en ead
      simp only [evEs, Res.bind_assoc, bind_ok] at p
      refine ⟨ad, rfl, .inl ⟨ks, .inl hks⟩, rd_bind A1 (e.later l1) (Pst.later l1 p) fun y u h2 H2 ρ2 e2 l2 A2 en2 r2 p2 => ?_⟩
      cases eo : h2[n]? with
      | none =>
        unfold bmtW at p2
        simp only [eo] at p2
        exact False.elim p2
      | some o =>
        by_cases hd : ∃ us, o = .dct us
        · obtain ⟨us, rfl⟩ := hd
          unfold bmtW at p2
          simp only [eo] at p2
          obtain ⟨qs, hqs, rq⟩ := A2.at eo (l2.pl _ _ ead)
          cases ek : keyW y with
          | none => rw [ek] at p2; exact False.elim p2
          | some key =>
            rw [ek] at p2
            simp only at p2
            have ev := key_of ek r2
            subst ev
            refine ⟨valV qs key, DGet.k hqs, ?_⟩
            have hv := repK_val (k := key) rq
            cases eg : valG us key with
            | none =>
              rw [eg] at hv p2
              rw [hv]
              exact p2.ret A2 rfl
            | some w =>
              rw [eg] at hv p2
              obtain ⟨z, hz, rz⟩ := hv
              rw [hz]
              exact p2.ret A2 rz
        · rw [bm_dct rfl eo fun us z => hd ⟨us, z⟩] at p2
          exact False.elim p2
    · obtain ⟨env, h, ρ, A, e, p⟩ := hx
      exact ⟨env, h, ρ, A, e, p.mono fun _ _ z => False.elim z⟩
theorem snd_get2 (F : Fx D L k X) (hp : plainB ea = true) (hpb : plainB eb = true) (hpc : plainB ec = true) (hl : (apos.endLine == pos.line) = true) (ha : PE X ea (RE D L k X Wx a)) (hb : PE X eb (RE D L k X Wx b)) (hc : PE X ec (RE D L k X Wx c)) :
    PE X (.Call (.Attribute ea ("get" : Str) apos) [eb, ec] [] pos) (RE D L k X Wx (.bmt .get2 a [b, c])) :=
  (pe_dget2 (by have := F.u65; omega) ha hb hc ⟨base_ok hp, few_ok (by simp [hpb, hpc]) (by show 2 < 30; omega), hl, trees2 hpb hpc⟩).imp fun σ H Q hq => by
    obtain ⟨env, h, ρ, A, e, hx | hx⟩ := bm_frame hq
    · obtain ⟨x, h1, e1, hk, p⟩ := hx
      obtain ⟨n, ws, rfl, en⟩ := kind_dict rfl hk
      refine rd_mk A e ?_
      rw [e1]
      intro v H1 ρ1 l1 A1 r1
      obtain ⟨ad, ead, rfl⟩ := id r1
      obtain ⟨ks, hks, _⟩ := A1.at en ead
      simp only [evEs, Res.bind_assoc, bind_ok] at p
      refine ⟨ad, rfl, .inl ⟨ks, .inl hks⟩, rd_bind A1 (e.later l1) (Pst.later l1 p) fun y u h2 H2 ρ2 e2 l2 A2 en2 r2 p2 => rd_bind A2 en2 p2 fun y3 u3 h3 H3 ρ3 e3 l3 A3 en3 r3 p3 => ?_⟩
      cases eo : h3[n]? with
      | none =>
        unfold bmtW at p3
        simp only [eo] at p3
        exact False.elim p3
      | some o =>
        by_cases hd : ∃ us, o = .dct us
        · obtain ⟨us, rfl⟩ := hd
          unfold bmtW at p3
          simp only [eo] at p3
          obtain ⟨qs, hqs, rq⟩ := A3.at eo (l3.pl _ _ (l2.pl _ _ ead))
          cases ek : keyW y with
          | none => rw [ek] at p3; exact False.elim p3
          | some key =>
            rw [ek] at p3
            simp only at p3
            have ev := key_of ek (r2.later l3)
            subst ev
            refine ⟨valV qs key, DGet.k hqs, ?_⟩
            have hv := repK_val (k := key) rq
            cases eg : valG us key with
            | none =>
              rw [eg] at hv p3
              rw [hv]
              exact p3.ret A3 r3
            | some w =>
              rw [eg] at hv p3
              obtain ⟨z, hz, rz⟩ := hv
              rw [hz]
              exact p3.ret A3 rz
        · rw [bm_dct rfl eo fun us z => hd ⟨us, z⟩] at p3
          exact False.elim p3
    · obtain ⟨env, h, ρ, A, e, p⟩ := hx
      exact ⟨env, h, ρ, A, e, p.mono fun _ _ z => False.elim z⟩
/-! ### displays of dicts -/
theorem snd_dct0 : PE X (.Dict [] [] pos) (RE D L k X Wx (.dct [])) := pe_dnewK.imp fun σ H Q hq => by
  obtain ⟨env, h, ρ, A, e, p⟩ := hq
  simp only [evE, evEs, bind_ok, pairW, List.foldl_nil] at p
  have he : (h ++ [Ob.dct []])[h.length]? = some (.dct []) := by
    rw [List.getElem?_append_right (Nat.le_refl _)]
    simp
  simp only [he] at p
  intro pn hp
  obtain ⟨A2, l⟩ := A.new (ob := .dct []) (o := .dK []) hp fun _ l => ⟨_, upd_same, .nil⟩
  have hs : (h ++ [Ob.dct []]).set h.length (.dct []) = h ++ [.dct []] := by
    simp [List.set_append]
  rw [hs] at p
  exact p.ret' l A2 ⟨pn, new_at A, rfl⟩
/-- key, value, .. of the small syntax as readings -/
def prs (D : Dat) (L : Pl) (k : Nat) (X : Cx) (Wx : WX) : List E → List (TE × TE)
  | a :: b :: r => (RE D L k X Wx a, RE D L k X Wx b) :: prs D L k X Wx r
  | _ => []
theorem prs_ok {σ : L2.St} {env : En} {α : Type} {rel : Hp → List Addr → α → V → Prop} {Q : V → Hp → Prop} : ∀ {es : List E} {h : Hs} {H : Hp} {ρ : List Addr} {f : List W → Hs → Res α} {Q1 : List (V × V) → Hp → Prop}, All (rdOf D L X.K) H ρ h → EnvR (rdOf D L X.K) H ρ env σ →
    (∃ n, es.length = 2 * n) → Pst (rdOf D L X.K) rel (fun c d H' => Wx c d σ H') ((evEs D.T (evFn D.T k) es env h).bind f) H ρ Q →
    (∀ ws vs h1 H1 ρ1, Lt (rdOf D L X.K) H ρ H1 ρ1 → All (rdOf D L X.K) H1 ρ1 h1 → Reps (rdOf D L X.K) H1 ρ1 ws (vs.flatMap fun q => [q.1, q.2]) → ws.length = es.length → Pst (rdOf D L X.K) rel (fun c d H' => Wx c d σ H') (f ws h1) H1 ρ1 Q → Q1 vs H1) →
    tPairs (prs D L k X Wx es) σ H Q1
  | [], h, H, ρ, f, Q1, A, e, _, p, kk => kk [] [] h H ρ .refl A Reps.nil rfl (by simpa only [evEs, bind_ok] using p)
  | [_], _, _, _, _, _, _, _, hn, _, _ => by
    obtain ⟨n, hn⟩ := hn
    have hn : 1 = 2 * n := hn
    omega
  | a :: b :: r, h, H, ρ, f, Q1, A, e, hn, p, kk => by
    simp only [evEs, Res.bind_assoc, bind_ok] at p
    refine rd_bind A e p fun x v h1 H1 ρ1 e1 l1 A1 en1 r1 p1 => rd_bind A1 en1 p1 fun y u h2 H2 ρ2 e2 l2 A2 en2 r2 p2 => ?_
    refine prs_ok (es := r) (f := fun ws h3 => f (x :: y :: ws) h3) A2 en2 ?_ p2 fun ws vs h3 H3 ρ3 l3 A3 r3 hw3 p3 => ?_
    · obtain ⟨n, hn⟩ := hn
      have hn : r.length + 2 = 2 * n := hn
      exact ⟨n - 1, by omega⟩
    · exact kk (x :: y :: ws) ((v, u) :: vs) h3 H3 ρ3 ((l1.trans l2).trans l3) A3 (Reps.cons (r1.later (l2.trans l3)) (Reps.cons (r2.later l3) r3)) (congrArg (· + 2) hw3) p3
theorem pair_ok {R : Rd} {H : Hp} {ρ : List Addr} : ∀ {ws : List W} {vs : List (V × V)} {ps : List (Key × W)}, Reps R H ρ ws (vs.flatMap fun q => [q.1, q.2]) → pairW ws = some ps → ∃ kvs : List (Key × V), vs = kvs.map (fun kv => (kV kv.1, kv.2)) ∧ RepK R H ρ ps kvs
  | [], [], ps, _, e => by cases e; exact ⟨[], rfl, .nil⟩
  | [], q :: vs, ps, r, _ => by
    have r : _ = ([] : List V) := r
    cases r
  | [_], _, ps, _, e => by cases e
  | x :: y :: ws, [], ps, r, e => by
    obtain ⟨v, t, z, _⟩ := r
    cases z
  | x :: y :: ws, (v, u) :: vs, ps, r, e => by
    obtain ⟨v', t, z, r1, r2⟩ := r
    cases z
    obtain ⟨u', t2, z2, r3, r4⟩ := r2
    cases z2
    unfold pairW at e
    cases ek : keyW x with
    | none => rw [ek] at e; cases e
    | some q =>
      rw [ek] at e
      cases ep : pairW ws with
      | none => rw [ep] at e; cases e
      | some ps2 =>
        rw [ep] at e
        cases e
        obtain ⟨kvs, e1, e2⟩ := pair_ok r4 ep
        have ev := key_of ek r1
        subst ev
        exact ⟨(q, u) :: kvs, by rw [e1]; rfl, .cons ⟨rfl, r3⟩ e2⟩
theorem pair_len : ∀ {ws : List W} {ps : List (Key × W)}, pairW ws = some ps → ws.length = 2 * ps.length
  | [], ps, e => by cases e; rfl
  | [_], ps, e => by cases e
  | x :: y :: ws, ps, e => by
    unfold pairW at e
    cases ek : keyW x with
    | none => rw [ek] at e; cases e
    | some q =>
      rw [ek] at e
      cases ep : pairW ws with
      | none => rw [ep] at e; cases e
      | some ps2 =>
        rw [ep] at e
        cases e
        have := pair_len ep
        simp
        omega
theorem evEs_len {T : Tab} {cl : Nat → List W → Hs → Res W} {env : En} : ∀ {es : List E} {h h1 : Hs} {ws : List W}, evEs T cl es env h = .ok ws h1 → ws.length = es.length
  | [], h, h1, ws, e => by
    simp only [evEs] at e
    cases e
    rfl
  | a :: es, h, h1, ws, e => by
    simp only [evEs] at e
    cases e1 : evE T cl a env h with
    | bad => rw [e1] at e; cases e
    | exc c fs h' => rw [e1] at e; cases e
    | ok x h2 =>
      rw [e1, bind_ok] at e
      cases e2 : evEs T cl es env h2 with
      | bad => rw [e2] at e; cases e
      | exc c fs h' => rw [e2] at e; cases e
      | ok ys h3 =>
        rw [e2, bind_ok] at e
        cases e
        exact congrArg Nat.succ (evEs_len e2)
theorem snd_dct {ks : List (Option Expr)} {vs : List Expr} (h : PPs X pos ks vs (prs D L k X Wx es)) (hall : ks.all (·.isSome) = true) (hl : ks.length = vs.length) (h0 : ks ≠ []) (h15 : ks.length ≤ 15) (hes : es.length = 2 * ks.length) :
    PE X (.Dict ks vs pos) (RE D L k X Wx (.dct es)) :=
  (pe_disp h hall hl h0 h15).imp fun σ H Q hq => by
    obtain ⟨env, h, ρ, A, e, p⟩ := hq
    simp only [evE] at p
    intro pn hp
    obtain ⟨A2, l⟩ := A.new (ob := .dct []) (o := .dK []) hp fun _ l => ⟨_, upd_same, .nil⟩
    have pp := Pst.later l p
    cases ee : evEs D.T (evFn D.T k) es env (h ++ [.dct []]) with
    | bad => rw [ee] at p; exact False.elim p
    | exc c fs h' =>
      refine prs_ok (f := fun _ _ => (.bad : Res W)) (rel := rV (rdOf D L X.K)) (Q := Q) A2 (e.later l) ⟨ks.length, hes⟩ (by rw [ee] at pp ⊢; exact pp) fun ws vs h1 H1 ρ1 l1 A1 r1 _ p1 => False.elim p1
    | ok ws h1 =>
      refine prs_ok A2 (e.later l) ⟨ks.length, hes⟩ pp fun ws2 vs2 h2 H2 ρ2 l2 A3 r2 hw p2 => ?_
      split at p2
      · exact False.elim p2
      · rename_i ps ep
        split at p2
        · rename_i eo
          have ea : ρ2[h.length]? = some pn := l2.pl _ _ (new_at A)
          obtain ⟨kq, hkq, rq⟩ := A3.at eo ea
          cases rq
          obtain ⟨kvs, e1, e2⟩ := pair_ok r2 ep
          have hlen := pair_len ep
          have hlw := r2.length
          refine ⟨hkq, kvs, e1, ?_, ?_⟩
          · have h3 := repK_length e2
            omega
          · obtain ⟨A4, l4⟩ := put_dct A3 eo ea hkq (repK_fold e2 .nil)
            exact p2.ret' l4 A4 ⟨pn, ea, rfl⟩
        · exact False.elim p2
end
end Pc
set_option Elab.async false
set_option linter.all false
set_option maxRecDepth 100000
set_option maxHeartbeats 4000000
namespace Pc
open PySem PySem.Spec PyProof.Rows L2

section
variable {D : Dat} {L : Pl} {k : Nat} {X : Cx} {Wx : WX} {a b c : E} {ea eb ec : Expr} {es : List E} {xs : List Expr} {pos apos : Pos}
abbrev RAnd (D : Dat) (L : Pl) (k : Nat) (X : Cx) (Wx : WX) (es : List E) : TT := rdG (rdOf D L X.K) Wx rEq (evAnd D.T (evFn D.T k) es)
abbrev ROr (D : Dat) (L : Pl) (k : Nat) (X : Cx) (Wx : WX) (es : List E) : TT := rdG (rdOf D L X.K) Wx rEq (evOr D.T (evFn D.T k) es)
abbrev RAndV (D : Dat) (L : Pl) (k : Nat) (X : Cx) (Wx : WX) (es : List E) : TE := rdG (rdOf D L X.K) Wx (rV (rdOf D L X.K)) (evAndV D.T (evFn D.T k) es)
abbrev ROrV (D : Dat) (L : Pl) (k : Nat) (X : Cx) (Wx : WX) (es : List E) : TE := rdG (rdOf D L X.K) Wx (rV (rdOf D L X.K)) (evOrV D.T (evFn D.T k) es)
theorem snd_and1 (ha : PT X ea (RT D L k X Wx a)) : PW X (.BoolOp .And [ea] pos) (RAnd D L k X Wx [a]) := (pw_and1 ha).imp fun σ H Q hq => by
  obtain ⟨env, h, ρ, A, e, p⟩ := hq
  simp only [evAnd] at p
  exact ⟨env, h, ρ, A, e, p⟩
theorem snd_or1 (ha : PT X ea (RT D L k X Wx a)) : PW X (.BoolOp .Or [ea] pos) (ROr D L k X Wx [a]) := (pw_or1 ha).imp fun σ H Q hq => by
  obtain ⟨env, h, ρ, A, e, p⟩ := hq
  simp only [evOr] at p
  exact ⟨env, h, ρ, A, e, p⟩
theorem snd_and2 {y : Expr} (ha : PT X ea (RT D L k X Wx a)) (hb : PW X (.BoolOp .And (y :: xs) pos) (RAnd D L k X Wx (b :: es))) : PW X (.BoolOp .And (ea :: y :: xs) pos) (RAnd D L k X Wx (a :: b :: es)) :=
  (pw_and ha hb).imp fun σ H Q hq => by
    obtain ⟨env, h, ρ, A, e, p⟩ := hq
    rw [evAnd] at p
    refine rd_bind A e p fun x v h1 H1 ρ1 e1 l1 A1 en1 r1 p1 => ?_
    have r1 : x = v := r1
    subst r1
    cases x with
    | true => exact rd_mk A1 en1 p1
    | false => exact p1.ret A1 rfl
theorem snd_or2 {y : Expr} (ha : PT X ea (RT D L k X Wx a)) (hb : PW X (.BoolOp .Or (y :: xs) pos) (ROr D L k X Wx (b :: es))) : PW X (.BoolOp .Or (ea :: y :: xs) pos) (ROr D L k X Wx (a :: b :: es)) :=
  (pw_or ha hb).imp fun σ H Q hq => by
    obtain ⟨env, h, ρ, A, e, p⟩ := hq
    rw [evOr] at p
    refine rd_bind A e p fun x v h1 H1 ρ1 e1 l1 A1 en1 r1 p1 => ?_
    have r1 : x = v := r1
    subst r1
    cases x with
    | true => exact p1.ret A1 rfl
    | false => exact rd_mk A1 en1 p1
theorem snd_andT (h : PW X (.BoolOp .And xs pos) (RAnd D L k X Wx es)) : PT X (.BoolOp .And xs pos) (RT D L k X Wx (.and es)) := h.pt.imp fun σ H Q hq => by
  obtain ⟨env, h, ρ, A, e, p⟩ := hq
  simp only [evT] at p
  exact ⟨env, h, ρ, A, e, p⟩
theorem snd_orT (h : PW X (.BoolOp .Or xs pos) (ROr D L k X Wx es)) : PT X (.BoolOp .Or xs pos) (RT D L k X Wx (.or es)) := h.pt.imp fun σ H Q hq => by
  obtain ⟨env, h, ρ, A, e, p⟩ := hq
  simp only [evT] at p
  exact ⟨env, h, ρ, A, e, p⟩
theorem snd_andv1 (ha : PE X ea (RE D L k X Wx a)) : PE X (.BoolOp .And [ea] pos) (RAndV D L k X Wx [a]) := (pe_one ha).imp fun σ H Q hq => by
  obtain ⟨env, h, ρ, A, e, p⟩ := hq
  simp only [evAndV] at p
  exact ⟨env, h, ρ, A, e, p⟩
theorem snd_orv1 (ha : PE X ea (RE D L k X Wx a)) : PE X (.BoolOp .Or [ea] pos) (ROrV D L k X Wx [a]) := (pe_one ha).imp fun σ H Q hq => by
  obtain ⟨env, h, ρ, A, e, p⟩ := hq
  simp only [evOrV] at p
  exact ⟨env, h, ρ, A, e, p⟩
theorem snd_andv2 {y : Expr} (ha : PE X ea (RE D L k X Wx a)) (hb : PE X (.BoolOp .And (y :: xs) pos) (RAndV D L k X Wx (b :: es))) : PE X (.BoolOp .And (ea :: y :: xs) pos) (RAndV D L k X Wx (a :: b :: es)) :=
  (pe_and ha hb).imp fun σ H Q hq => by
    obtain ⟨env, h, ρ, A, e, p⟩ := hq
    rw [evAndV] at p
    refine rd_bind A e p fun x v h1 H1 ρ1 e1 l1 A1 en1 r1 p1 => ?_
    split at p1
    · rename_i kb
      refine ⟨kb, r1, ?_⟩
      cases kb with
      | true => exact rd_mk A1 en1 p1
      | false => exact p1.ret A1 rfl
    · exact False.elim p1
theorem snd_orv2 {y : Expr} (ha : PE X ea (RE D L k X Wx a)) (hb : PE X (.BoolOp .Or (y :: xs) pos) (ROrV D L k X Wx (b :: es))) : PE X (.BoolOp .Or (ea :: y :: xs) pos) (ROrV D L k X Wx (a :: b :: es)) :=
  (pe_or ha hb).imp fun σ H Q hq => by
    obtain ⟨env, h, ρ, A, e, p⟩ := hq
    rw [evOrV] at p
    refine rd_bind A e p fun x v h1 H1 ρ1 e1 l1 A1 en1 r1 p1 => ?_
    split at p1
    · rename_i kb
      refine ⟨kb, r1, ?_⟩
      cases kb with
      | true => exact p1.ret A1 rfl
      | false => exact rd_mk A1 en1 p1
    · exact False.elim p1
theorem snd_andE (h : PE X (.BoolOp .And xs pos) (RAndV D L k X Wx es)) : PE X (.BoolOp .And xs pos) (RE D L k X Wx (.and es)) := h.imp fun σ H Q hq => by
  obtain ⟨env, h, ρ, A, e, p⟩ := hq
  simp only [evE] at p
  exact ⟨env, h, ρ, A, e, p⟩
theorem snd_orE (h : PE X (.BoolOp .Or xs pos) (ROrV D L k X Wx es)) : PE X (.BoolOp .Or xs pos) (RE D L k X Wx (.or es)) := h.imp fun σ H Q hq => by
  obtain ⟨env, h, ρ, A, e, p⟩ := hq
  simp only [evE] at p
  exact ⟨env, h, ρ, A, e, p⟩

/-! ### targets -/
/-- a name may be stored -/
def TgOk (X : Cx) (x : Str) : Prop := Loc X.env.scope x ∧ (X.fn x = true ∨ X.env.scope.names.lookup x = some .local)
mutual
def slTg : Tg → List Nat
  | .nm i => [i]
  | .tp ts => slTgs ts
def slTgs : List Tg → List Nat
  | [] => []
  | t :: ts => slTg t ++ slTgs ts
end
/-- but for these slots the same -/
def SameBut (sl : List Nat) (σ σ1 : L2.St) : Prop := ∀ vs : List Nat, (∀ i ∈ sl, i ∈ vs) → wipe σ1 vs = wipe σ vs
theorem wipe_set {σ : L2.St} {i : Nat} {x : Option V} : ∀ {vs : List Nat}, i ∈ vs → wipe (σ.set i x) vs = wipe σ vs
  | [], h => by cases h
  | v :: vs, h => by
    show (wipe (σ.set i x) vs).set v none = (wipe σ vs).set v none
    by_cases e : i ∈ vs
    · rw [wipe_set e]
    · have hv : i = v := by
        rcases List.mem_cons.mp h with z | z
        · exact z
        · exact absurd z e
      subst hv
      have hz : ∀ us : List Nat, i ∉ us → wipe (σ.set i x) us = (wipe σ us).set i x := by
        intro us
        induction us with
        | nil => intro _; rfl
        | cons u us ih =>
          intro hn
          rw [List.mem_cons, not_or] at hn
          show (wipe (σ.set i x) us).set u none = ((wipe σ us).set u none).set i x
          rw [ih hn.2, List.set_comm none x (Ne.symm hn.1)]
      rw [hz vs e, List.set_set]
theorem wipe_idem {σ : L2.St} : ∀ {vs : List Nat}, wipe (wipe σ vs) vs = wipe σ vs := fun {vs} => by
  have : ∀ us : List Nat, (∀ i ∈ us, i ∈ vs) → wipe (wipe σ us) vs = wipe σ vs := by
    intro us
    induction us with
    | nil => intro _; rfl
    | cons u us ih =>
      intro h
      show wipe ((wipe σ us).set u none) vs = wipe σ vs
      rw [wipe_set (h u List.mem_cons_self), ih fun i hi => h i (List.mem_cons_of_mem _ hi)]
  exact this vs fun _ h => h
def rdTg (R : Rd) (tg : Tg) : TG := fun v σ H Q => ∃ env ρ w env1, EnvR R H ρ env σ ∧ Rep R H ρ w v ∧ bindTg tg w env = some env1 ∧ ∀ σ1, EnvR R H ρ env1 σ1 → SameBut (slTg tg) σ σ1 → Q σ1 H
def rdTgs (R : Rd) (ts : List Tg) : TGs := fun vs σ H Q => ∃ env ρ ws env1, EnvR R H ρ env σ ∧ Reps R H ρ ws vs ∧ bindTgs ts ws env = some env1 ∧ ∀ σ1, EnvR R H ρ env1 σ1 → SameBut (slTgs ts) σ σ1 → Q σ1 H

theorem _root_.L2.PG.imp {e : Expr} {t u : TG} (h : PG X e t) (kk : ∀ v σ H Q, u v σ H Q → t v σ H Q) : PG X e u := ⟨fun pins s σ H v w Q I r q => h.run pins s σ H v w Q I r (kk v σ H Q q)⟩
theorem _root_.L2.PGs.imp {e : List Expr} {t u : TGs} (h : PGs X e t) (kk : ∀ v σ H Q, u v σ H Q → t v σ H Q) : PGs X e u := ⟨fun pins s σ H v w Q I r q => h.run pins s σ H v w Q I r (kk v σ H Q q)⟩
/-- a target's text: ok x says that the name x may be stored -/
def tgP : Expr → Bool
  | .Name .. => true
  | .Tuple .. => true
  | _ => false
mutual
def chkTg (N : List Str) (ok : Str → Bool) : Tg → Expr → Bool
  | .nm i, .Name x _ => decide (N[i]? = some x) && ok x
  | .tp ts, .Tuple es _ _ => chkTgs N ok ts es
  | _, _ => false
def chkTgs (N : List Str) (ok : Str → Bool) : List Tg → List Expr → Bool
  | [], [] => true
  | t :: ts, e :: es => chkTg N ok t e && chkTgs N ok ts es
  | _, _ => false
end
theorem chkTg_p {N : List Str} {ok : Str → Bool} {t : Tg} {e : Expr} (h : chkTg N ok t e = true) : tgP e = true := by
  cases t <;> cases e <;> first | rfl | (simp only [chkTg] at h; cases h)
theorem asg_cons {e : Expr} {es : List Expr} {env : Env} (h : tgP e = true) : (assignEach (e :: es) env).map (·.2) = assign e env :: (assignEach es env).map (·.2) ∧ (assignEach (e :: es) env).map (·.1) = false :: (assignEach es env).map (·.1) := by
  cases e <;> first | exact ⟨rfl, rfl⟩ | cases h
theorem asg_all {N : List Str} {ok : Str → Bool} {env : Env} : ∀ {ts : List Tg} {es : List Expr}, chkTgs N ok ts es = true → (assignEach es env).length = ts.length ∧ (assignEach es env).findIdx? (·.1) = none
  | [], [], _ => ⟨rfl, rfl⟩
  | [], _ :: _, h => by simp only [chkTgs] at h; cases h
  | _ :: _, [], h => by simp only [chkTgs] at h; cases h
  | t :: ts, e :: es, h => by
    simp only [chkTgs, Bool.and_eq_true] at h
    obtain ⟨h1, h2⟩ := h
    obtain ⟨a1, a2⟩ := asg_cons (es := es) (env := env) (chkTg_p h1)
    obtain ⟨i1, i2⟩ := asg_all (env := env) h2
    constructor
    · have := congrArg List.length a1
      rw [List.length_map, List.length_cons, List.length_map] at this
      rw [this, i1, List.length_cons]
    · rw [List.findIdx?_eq_none_iff] at i2 ⊢
      intro x hx
      have hm : x.1 ∈ (assignEach (e :: es) env).map (·.1) := List.mem_map_of_mem hx
      rw [a2] at hm
      rcases List.mem_cons.mp hm with z | z
      · rw [z]
      · obtain ⟨y, hy, ey⟩ := List.mem_map.mp z
        rw [← ey]
        exact i2 y hy
theorem bindTgs_len : ∀ {ts : List Tg} {ws : List W} {env env1 : En}, bindTgs ts ws env = some env1 → ws.length = ts.length
  | [], [], _, _, _ => rfl
  | [], _ :: _, _, _, h => by simp only [bindTgs] at h; cases h
  | _ :: _, [], _, _, h => by simp only [bindTgs] at h; cases h
  | t :: ts, w :: ws, env, env1, h => by
    simp only [bindTgs] at h
    cases e : bindTg t w env with
    | none => rw [e] at h; cases h
    | some e2 =>
      rw [e] at h
      exact congrArg Nat.succ (bindTgs_len h)
mutual
theorem sndTg {R : Rd} (hR : R.K = X.K) (hc : X.calm = true) (hN : X.N.Nodup) {ok : Str → Bool} (hok : ∀ x, ok x = true → TgOk X x) : ∀ (t : Tg) (e : Expr), chkTg X.N ok t e = true → PG X e (rdTg R t)
  | .nm i, e, h => by
    cases e with
    | Name x p =>
      simp only [chkTg, Bool.and_eq_true, decide_eq_true_eq] at h
      obtain ⟨h1, h2⟩ := hok x h.2
      refine (pg_name hN h.1 h1 h2).imp fun v σ H Q hq => ?_
      obtain ⟨env, ρ, w, env1, e1, r, eb, kk⟩ := hq
      simp only [bindTg] at eb
      cases eb
      exact kk _ (e1.set r) fun vs hv => wipe_set (hv i (by simp [slTg]))
    | _ => simp only [chkTg] at h; cases h
  | .tp ts, e, h => by
    cases e with
    | Tuple es j p =>
      simp only [chkTg] at h
      obtain ⟨a1, a2⟩ := asg_all (env := X.env) h
      refine (pg_tup hc (sndTgs hR hc hN hok ts es h) a1 a2).imp fun v σ H Q hq => ?_
      obtain ⟨env, ρ, w, env1, e1, r, eb, kk⟩ := hq
      simp only [bindTg] at eb
      split at eb
      · rename_i ws
        obtain ⟨a, vs, rfl, s, q⟩ := r
        rw [hR] at s
        refine ⟨a, vs, rfl, s, ?_, env, ρ, ws, env1, e1, q, eb, fun σ1 a b => kk σ1 a (by simpa only [slTg] using b)⟩
        rw [← q.length]
        exact bindTgs_len eb
      · cases eb
    | _ => simp only [chkTg] at h; cases h
theorem sndTgs {R : Rd} (hR : R.K = X.K) (hc : X.calm = true) (hN : X.N.Nodup) {ok : Str → Bool} (hok : ∀ x, ok x = true → TgOk X x) : ∀ (ts : List Tg) (es : List Expr), chkTgs X.N ok ts es = true → PGs X es (rdTgs R ts)
  | [], [], _ => pgs_nil.imp fun v σ H Q hq => by
    obtain ⟨env, ρ, ws, env1, e1, r, eb, kk⟩ := hq
    cases ws with
    | nil =>
      simp only [bindTgs] at eb
      cases eb
      exact ⟨r, kk _ e1 fun _ _ => rfl⟩
    | cons w ws => simp only [bindTgs] at eb; cases eb
  | [], _ :: _, h => by simp only [chkTgs] at h; cases h
  | _ :: _, [], h => by simp only [chkTgs] at h; cases h
  | t :: ts, e :: es, h => by
    simp only [chkTgs, Bool.and_eq_true] at h
    obtain ⟨h1, h2⟩ := h
    refine (pgs_cons (sndTg hR hc hN hok t e h1) (sndTgs hR hc hN hok ts es h2) (asg_cons (chkTg_p h1)).1).imp fun v σ H Q hq => ?_
    obtain ⟨env, ρ, ws, env1, e1, r, eb, kk⟩ := hq
    cases ws with
    | nil => simp only [bindTgs] at eb; cases eb
    | cons w ws =>
      simp only [bindTgs] at eb
      obtain ⟨u, r2, rfl, ra, rb⟩ := r
      cases e2 : bindTg t w env with
      | none => rw [e2] at eb; cases eb
      | some env2 =>
        rw [e2] at eb
        exact ⟨u, r2, rfl, env, ρ, w, env2, e1, ra, e2, fun σ1 en1 sb => ⟨env2, ρ, ws, env1, en1, rb, eb, fun σ2 en2 sb2 => kk σ2 en2 fun vs hv => (sb2 vs fun i hi => hv i (by simp only [slTgs]; exact List.mem_append_right _ hi)).trans (sb vs fun i hi => hv i (by simp only [slTgs]; exact List.mem_append_left _ hi))⟩⟩
end

/-! ### what is walked -/
structure Wk (R : Rd) (J : It) (src : Src) (H0 : Hp) (ρ0 : List Addr) : Prop where
  go : ∀ H ρ h (i : Nat) ws w, Lt R H0 ρ0 H ρ → All R H ρ h → curW src h = some ws → ws[i]? = some w → J.go i H ∧ ∀ x H', J.yld i H x H' → H' = H ∧ Rep R H ρ w x
  stop : ∀ H ρ h (i : Nat) ws, Lt R H0 ρ0 H ρ → All R H ρ h → curW src h = some ws → ws.length ≤ i → J.stop i H
theorem wk_tup {R : Rd} {H : Hp} {ρ : List Addr} {a : Addr} {vs : List V} {ws : List W} (s : SqT R.K H a vs) (q : Reps R H ρ ws vs) : Wk R (Itt R.K a) (.items ws) H ρ where
  go := fun H1 ρ1 h i us w l A e ew => by
    cases e
    obtain ⟨v, hv, rv⟩ := (q.later l).get ew
    refine ⟨⟨vs, v, l.tup _ _ s, hv⟩, fun x H' y => ⟨y.1, ?_⟩⟩
    have := y.2 vs (l.tup _ _ s)
    rw [hv] at this
    cases this
    exact rv
  stop := fun H1 ρ1 h i us l A e hl => by
    cases e
    exact ⟨vs, l.tup _ _ s, by rw [← q.length]; exact hl⟩
theorem readL_ok {R : Rd} {H : Hp} {ρ : List Addr} {h : Hs} {n : Nat} {a : Addr} {ws : List W} (A : All R H ρ h) (ea : ρ[n]? = some a) (e : readL h n = some ws) : ∃ vs, SqL R.K H a vs ∧ Reps R H ρ ws vs := by
  unfold readL at e
  split at e
  · rename_i us eo
    cases e
    obtain ⟨vs, s, q⟩ := A.at eo ea
    exact ⟨vs, SqL.of s, q⟩
  · rename_i us eo
    cases e
    obtain ⟨vs, s, q⟩ := RepO.sqL (A.at eo ea)
    exact ⟨vs, s, q⟩
  · cases e
theorem wk_list {R : Rd} {H : Hp} {ρ : List Addr} {n c : Nat} {a : Addr} (ea : ρ[n]? = some a) : Wk R (Itl R.K a) (.live n c) H ρ where
  go := fun H1 ρ1 h i us w l A e ew => by
    obtain ⟨vs, s, q⟩ := readL_ok A (l.pl _ _ ea) e
    obtain ⟨v, hv, rv⟩ := q.get ew
    refine ⟨⟨vs, v, s, hv⟩, fun x H' y => ⟨y.1, ?_⟩⟩
    have := y.2 vs s
    rw [hv] at this
    cases this
    exact rv
  stop := fun H1 ρ1 h i us l A e hl => by
    obtain ⟨vs, s, q⟩ := readL_ok A (l.pl _ _ ea) e
    exact ⟨vs, s, by rw [← q.length]; exact hl⟩
theorem intsFrom_get : ∀ (n : Nat) (lo : Int) (i : Nat), (intsFrom lo n)[i]? = if i < n then some (.int (lo + (i : Int))) else none
  | 0, lo, i => rfl
  | n + 1, lo, 0 => by simp [intsFrom]
  | n + 1, lo, i + 1 => by
    show (intsFrom (lo + 1) n)[i]? = _
    rw [intsFrom_get n (lo + 1) i]
    by_cases h : i < n
    · rw [if_pos h, if_pos (by omega)]
      congr 2
      omega
    · rw [if_neg h, if_neg (by omega)]
theorem intsFrom_len : ∀ (n : Nat) (lo : Int), (intsFrom lo n).length = n
  | 0, _ => rfl
  | n + 1, lo => congrArg Nat.succ (intsFrom_len n (lo + 1))
theorem wk_range {R : Rd} {H : Hp} {ρ : List Addr} {lo : Int} {n : Nat} : Wk R (Itr lo n) (.items (intsFrom lo n)) H ρ where
  go := fun H1 ρ1 h i us w l A e ew => by
    cases e
    rw [intsFrom_get] at ew
    split at ew
    · rename_i hi
      cases ew
      exact ⟨hi, fun x H' y => ⟨y.1, y.2⟩⟩
    · cases ew
  stop := fun H1 ρ1 h i us l A e hl => by
    cases e
    rw [intsFrom_len] at hl
    exact hl
def rdI (R : Rd) (Wx : WX) (kd : ItK) (ev : En → Hs → Res (List W)) : TI := fun σ H Rr => ∃ env h ρ, All R H ρ h ∧ EnvR R H ρ env σ ∧
  match ev env h with
  | .ok xs h1 => ∃ src, srcW kd xs h1 = some src ∧ ∀ J H1 ρ1, Lt R H ρ H1 ρ1 → All R H1 ρ1 h1 → Wk R J src H1 ρ1 → Rr J H1
  | .exc c fs h' => ∀ cls d H' ρ', Lt R H ρ H' ρ' → All R H' ρ' h' → RepX R H' ρ' c fs cls d → Wx cls d σ H'
  | .bad => False
theorem PI_sel {tg iter : Expr} {u : TI} (kk : ∀ σ H Rr, u σ H Rr → ∃ t, PI X tg iter t ∧ t σ H Rr) : PI X tg iter u := ⟨fun pins s σ H Rr I q => let ⟨_, h, z⟩ := kk σ H Rr q; h.run pins s σ H Rr I z⟩
abbrev RI (D : Dat) (L : Pl) (k : Nat) (X : Cx) (Wx : WX) (kd : ItK) (es : List E) : TI := rdI (rdOf D L X.K) Wx kd (evEs D.T (evFn D.T k) es)
theorem snd_iseq {tg : Expr} (ha : PE X ea (RE D L k X Wx a)) : PI X tg ea (RI D L k X Wx .seq [a]) := PI_sel fun σ H Rr hq => by
  obtain ⟨env, h, ρ, A, e, p⟩ := hq
  simp only [evEs] at p
  cases e1 : evE D.T (evFn D.T k) a env h with
  | bad => rw [e1] at p; exact False.elim p
  | exc c fs h' =>
    rw [e1] at p
    exact ⟨_, pi_tup ha, rd_mk A e (by rw [e1]; exact p)⟩
  | ok x h1 =>
    rw [e1] at p
    simp only [bind_ok] at p
    obtain ⟨src, es, kk⟩ := p
    unfold srcW at es
    split at es
    · rename_i ws ez
      cases es
      simp only [List.cons.injEq, and_true] at ez
      subst ez
      refine ⟨_, pi_tup ha, rd_mk A e ?_⟩
      rw [e1]
      intro v H1 ρ1 l1 A1 r1
      obtain ⟨ad, vs, rfl, s, q⟩ := r1
      exact ⟨ad, rfl, ⟨vs, s⟩, kk _ H1 ρ1 l1 A1 (wk_tup (R := rdOf D L X.K) s q)⟩
    · rename_i n ek ez
      simp only [List.cons.injEq, and_true] at ez
      subst ez
      have fin : ∀ {c : Nat}, src = .live n c → (∃ ws, readL h1 n = some ws) → ∃ t, PI X tg ea t ∧ t σ H Rr := fun {c} ec hw => by
        subst ec
        refine ⟨_, pi_list ha, rd_mk A e ?_⟩
        rw [e1]
        intro v H1 ρ1 l1 A1 r1
        obtain ⟨ad, ead, rfl⟩ := r1
        obtain ⟨ws, ew⟩ := hw
        obtain ⟨vs, s, q⟩ := readL_ok A1 ead ew
        exact ⟨ad, rfl, ⟨vs, s⟩, kk _ H1 ρ1 l1 A1 (wk_list (R := rdOf D L X.K) ead)⟩
      split at es
      · rename_i ws eo
        cases es
        exact fin rfl ⟨ws, by unfold readL; rw [eo]⟩
      · rename_i ws eo
        cases es
        exact fin rfl ⟨ws, by unfold readL; rw [eo]⟩
      · cases es
    · rename_i z _; cases z
    · rename_i z _; cases z
    · cases es
theorem snd_irange1 (F : Fx D L k X) {tg : Expr} {p : Pos} (hf : ("range" : Str) ∈ D.free) (hg : Gl X ("range" : Str)) (hp : plainB ea = true) (hs : PA X [ea] (REs D L k X Wx [a])) : PI X tg (.Call (.Name ("range" : Str) p) [ea] [] pos) (RI D L k X Wx .range [a]) := PI_sel fun σ H Rr hq => by
  refine ⟨_, pi_range1 hg (F.free _ hf) hs (star_ok hp), ?_⟩
  obtain ⟨env, h, ρ, A, e, p⟩ := hq
  refine rd_mk A e ?_
  cases e1 : evEs D.T (evFn D.T k) [a] env h with
  | bad => rw [e1] at p; exact False.elim p
  | exc c fs h' => rw [e1] at p; exact p
  | ok xs h1 =>
    rw [e1] at p
    obtain ⟨src, es, kk⟩ := p
    intro v H1 ρ1 l1 A1 r1
    have hlen := evEs_len e1
    cases xs with
    | nil => cases hlen
    | cons x xs =>
      cases xs with
      | cons y ys => cases hlen
      | nil =>
        obtain ⟨u, rfl, r⟩ := one_of r1
        unfold srcW at es
        cases x with
        | int j =>
          simp only at es
          split at es
          · rename_i hb
            cases es
            have r : u = .int j := r
            subst r
            exact ⟨j, rfl, hb.1, hb.2, kk _ H1 ρ1 l1 A1 wk_range⟩
          · cases es
        | non => cases es
        | bl b => cases es
        | str b => cases es
        | tup b => cases es
        | loc b => cases es
theorem snd_irange2 (F : Fx D L k X) {tg : Expr} {p : Pos} (hf : ("range" : Str) ∈ D.free) (hg : Gl X ("range" : Str)) (hp : plainB ea = true) (hp2 : plainB eb = true) (hs : PA X [ea, eb] (REs D L k X Wx [a, b])) :
    PI X tg (.Call (.Name ("range" : Str) p) [ea, eb] [] pos) (RI D L k X Wx .range [a, b]) := PI_sel fun σ H Rr hq => by
  refine ⟨_, pi_range2 hg (F.free _ hf) hs (by rw [star_ok hp, star_ok hp2] <;> rfl) (star_ok hp2), ?_⟩
  obtain ⟨env, h, ρ, A, e, p⟩ := hq
  refine rd_mk A e ?_
  cases e1 : evEs D.T (evFn D.T k) [a, b] env h with
  | bad => rw [e1] at p; exact False.elim p
  | exc c fs h' => rw [e1] at p; exact p
  | ok xs h1 =>
    rw [e1] at p
    obtain ⟨src, es, kk⟩ := p
    intro v H1 ρ1 l1 A1 r1
    have hlen := evEs_len e1
    match xs, hlen with
    | [x, y], _ =>
      obtain ⟨u, w, rfl, r, r2⟩ := two_of r1
      unfold srcW at es
      split at es
      · rename_i z _; cases z
      · rename_i z _; cases z
      · rename_i z; cases z
      · rename_i i j _ ez
        simp only [List.cons.injEq, and_true] at ez
        obtain ⟨z1, z2⟩ := ez
        subst z1 z2
        split at es
        · rename_i hb
          cases es
          have r : u = .int _ := r
          have r2 : w = .int _ := r2
          subst r r2
          exact ⟨_, _, rfl, hb, kk _ H1 ρ1 l1 A1 wk_range⟩
        · cases es
      · cases es
/-! ### comprehensions -/
abbrev W0 : WX := fun _ _ _ _ => False
theorem rd_bindQ {α γ β δ : Type} {R : Rd} {rel : Hp → List Addr → α → β → Prop} {rel2 : Hp → List Addr → γ → δ → Prop} {ev : En → Hs → Res α} {f : α → Hs → Res γ} {H : Hp} {ρ : List Addr} {h : Hs} {env : En} {σ : L2.St} {Ex : XK}
    {Q : δ → Hp → Prop} (A : All R H ρ h) (e : EnvR R H ρ env σ) (p : Pst R rel2 Ex ((ev env h).quiet.bind f) H ρ Q) {Q1 : β → Hp → Prop}
    (kk : ∀ a b h1 H1 ρ1, ev env h = .ok a h1 → Lt R H ρ H1 ρ1 → All R H1 ρ1 h1 → EnvR R H1 ρ1 env σ → rel H1 ρ1 a b → Pst R rel2 Ex (f a h1) H1 ρ1 Q → Q1 b H1) :
    rdG R W0 rel ev σ H Q1 := by
  refine ⟨env, h, ρ, A, e, ?_⟩
  cases e1 : ev env h with
  | bad => rw [e1] at p; exact False.elim p
  | exc c fs h' => rw [e1] at p; exact False.elim p
  | ok a h1 =>
    rw [e1] at p
    exact fun b H1 ρ1 l1 A1 r1 => kk a b h1 H1 ρ1 e1 l1 A1 (e.later l1) r1 (Pst.later l1 p)
theorem wipe_eq {σ : L2.St} {vs : List Nat} {σ1 : L2.St} {sl : List Nat} (hsl : ∀ i ∈ sl, i ∈ vs) (sb : SameBut sl (wipe σ vs) σ1) : wipe σ1 vs = wipe σ vs := (sb vs hsl).trans wipe_idem
theorem red_lc {tgw : Tg} {cs : List E} {e : E} {kd : ItK} {own : List (Str × Nat)} (hsl : ∀ i ∈ slTg tgw, i ∈ own.map (·.2)) (σ : L2.St) (H : Hp) (Q : VK) (hq : RE D L k X Wx (.lc kd es tgw (own.map (·.2)) cs e) σ H Q) :
    tLc (RI D L k X Wx kd es) (rdTg (rdOf D L X.K) tgw) (rdG (rdOf D L X.K) W0 rEq (evCs D.T (evFn D.T k) cs)) (rdG (rdOf D L X.K) W0 (rV (rdOf D L X.K)) (evE D.T (evFn D.T k) e)) (own.map (·.2)) σ H Q := by
    obtain ⟨env, h, ρ, A, en, p⟩ := hq
    simp only [evE] at p
    refine ⟨env, h, ρ, A, en, ?_⟩
    cases e1 : evEs D.T (evFn D.T k) es env h with
    | bad => rw [e1] at p; exact False.elim p
    | exc c fs h' => rw [e1] at p; exact p
    | ok xs h1 =>
      rw [e1, bind_ok] at p
      split at p
      · exact False.elim p
      · rename_i src esrc
        refine ⟨src, esrc, fun J H1 ρ1 l1 A1 wk Dd hD => ?_⟩
        obtain ⟨A2, l2⟩ := A1.new (ob := .lst []) (o := .lst []) hD fun _ l => ⟨[], upd_same, Reps.nil⟩
        have p2 := Pst.later (l1.trans l2) p
        generalize hst : (fun (x : W) (_ : Unit) (g : Hs) => (match bindTg tgw x (wipeG env (own.map (·.2))) with
          | none => (Res.bad : Res (Bool × Unit))
          | some env1 => (evCs D.T (evFn D.T k) cs env1 g).quiet.bind fun b g1 => if b = true then (evE D.T (evFn D.T k) e env1 g1).quiet.bind fun y g2 => (match g2[h1.length]? with
            | some (.lst acc) => if acc.length < lim then .ok (true, ()) (g2.set h1.length (.lst (acc ++ [y]))) else .bad
            | _ => .bad) else .ok (true, ()) g1)) = step at p2
        have eW : EnvR (rdOf D L X.K) (upd H1 Dd (.lst [])) (ρ1 ++ [Dd]) (wipeG env (own.map (·.2))) (wipe σ (own.map (·.2))) := (en.later (l1.trans l2)).wipe
        refine ⟨fun i m Hc => ∃ hc ρc, Lt (rdOf D L X.K) (upd H1 Dd (.lst [])) (ρ1 ++ [Dd]) Hc ρc ∧ All (rdOf D L X.K) Hc ρc hc ∧ Pst (rdOf D L X.K) (rV (rdOf D L X.K)) (fun c d H' => Wx c d σ H') ((loopG step src m i () hc).bind fun _ h2 => .ok (.loc h1.length) h2) Hc ρc Q,
          ⟨cntS src, _, _, .refl, A2, p2⟩, ?_⟩
        rintro i m Hc ⟨hc, ρc, lc, Ac, pc⟩
        have eD : ρc[h1.length]? = some Dd := lc.pl _ _ (new_at A1)
        cases m with
        | zero =>
          unfold loopG at pc
          split at pc
          · rename_i ws ew
            split at pc
            · rename_i hlw
              exact .inl ⟨wk.stop Hc ρc hc i ws (l2.trans lc) Ac ew hlw, pc.ret Ac ⟨Dd, eD, rfl⟩⟩
            · exact False.elim pc
          · exact False.elim pc
        | succ m =>
          unfold loopG at pc
          split at pc
          · rename_i ws ew
            split at pc
            · rename_i w eiw
              obtain ⟨hgo, hy⟩ := wk.go Hc ρc hc i ws w (l2.trans lc) Ac ew eiw
              refine .inr ⟨hgo, _, fun H' z => ⟨m, Nat.lt_succ_self m, z⟩, fun x H' y => ?_⟩
              obtain ⟨eH, rx⟩ := hy x H' y
              subst eH
              rw [Res.bind_assoc] at pc
              have est : step w () hc = (match bindTg tgw w (wipeG env (own.map (·.2))) with
                | none => (Res.bad : Res (Bool × Unit))
                | some env1 => (evCs D.T (evFn D.T k) cs env1 hc).quiet.bind fun b g1 => if b = true then (evE D.T (evFn D.T k) e env1 g1).quiet.bind fun y g2 => (match g2[h1.length]? with
                  | some (.lst acc) => if acc.length < lim then .ok (true, ()) (g2.set h1.length (.lst (acc ++ [y]))) else .bad
                  | _ => .bad) else .ok (true, ()) g1) := by rw [← hst]
              rw [est] at pc
              split at pc
              · exact False.elim pc
              · rename_i env1 eb
                refine ⟨_, ρc, w, env1, eW.later lc, rx, eb, fun σ1 en1 sb => ⟨wipe_eq hsl sb, ?_⟩⟩
                rw [Res.bind_assoc] at pc
                refine rd_bindQ Ac en1 pc fun b b' h3 H3 ρ3 e3 l3 A3 en3 r3 p3 => ?_
                have r3 : b = b' := r3
                subst r3
                cases b with
                | false => exact ⟨h3, ρ3, lc.trans l3, A3, p3⟩
                | true =>
                  simp only [if_true, Res.bind_assoc] at p3
                  refine rd_bindQ A3 en3 p3 fun y v h4 H4 ρ4 e4 l4 A4 en4 r4 p4 => ?_
                  split at p4
                  · rename_i acc eacc
                    split at p4
                    · rename_i hl
                      obtain ⟨vs, hv, qv⟩ := A4.at eacc (l4.pl _ _ (l3.pl _ _ eD))
                      obtain ⟨A5, l5⟩ := put_lst A4 eacc (l4.pl _ _ (l3.pl _ _ eD)) hv (qv.append (Reps.cons r4 Reps.nil))
                      exact ⟨vs, hv, lim_lt (by rw [← qv.length]; exact hl), _, ρ4, ((lc.trans l3).trans l4).trans l5, A5, Pst.later l5 p4⟩
                    · exact False.elim p4
                  · exact False.elim p4
            · exact False.elim pc
          · exact False.elim pc
theorem snd_lc (F : Fx D L k X) {elt tg iter : Expr} {ifs : List Expr} {scope : Scope} {own : List (Str × Nat)} {tgw : Tg} {cs : List E} {e : E} {kd : ItK} (hi : PI X tg iter (RI D L k X Wx kd es)) (ok : BlkOk X.N X.env.scope scope own)
    (hg : ∀ (s : Shared) (H : Hp) (C : Addr) (cl : List (Str × Addr)) (fp : List Addr), PG (X.blk s H scope (compEnvC scope cl C X.env) fp) tg (rdTg (rdOf D L X.K) tgw))
    (ht : ∀ (s : Shared) (H : Hp) (C : Addr) (cl : List (Str × Addr)) (fp : List Addr), PTs (X.blk s H scope (compEnvC scope cl C X.env) fp) ifs (rdG (rdOf D L X.K) W0 rEq (evCs D.T (evFn D.T k) cs)))
    (he : ∀ (s : Shared) (H : Hp) (C : Addr) (cl : List (Str × Addr)) (fp : List Addr), PE (X.blk s H scope (compEnvC scope cl C X.env) fp) elt (rdG (rdOf D L X.K) W0 (rV (rdOf D L X.K)) (evE D.T (evFn D.T k) e)))
    (hfo : ∀ x, foldedSetIterable iter X.env x = pure x) (hsl : ∀ i ∈ slTg tgw, i ∈ own.map (·.2)) :
    PE X (.ListComp elt [⟨tg, iter, ifs, 0⟩] scope pos) (RE D L k X Wx (.lc kd es tgw (own.map (·.2)) cs e)) :=
  (pe_lc F.calm F.nd hi ok hg ht he hfo).imp (red_lc hsl)
end
end Pc
set_option Elab.async false
set_option linter.all false
set_option maxRecDepth 100000
set_option maxHeartbeats 4000000
namespace Pc
open PySem PySem.Spec PyProof.Rows L2

def PstS (R : Rd) (Wx : WX) (r : Res Fl) (H : Hp) (ρ : List Addr) (Z : Ends) : Prop :=
  match r with
  | .ok (.nx env) h => ∀ σ' H' ρ', Lt R H ρ H' ρ' → All R H' ρ' h → EnvR R H' ρ' env σ' → Z.nx σ' H'
  | .ok (.bk env) h => ∀ σ' H' ρ', Lt R H ρ H' ρ' → All R H' ρ' h → EnvR R H' ρ' env σ' → Z.bk σ' H'
  | .ok (.ct env) h => ∀ σ' H' ρ', Lt R H ρ H' ρ' → All R H' ρ' h → EnvR R H' ρ' env σ' → Z.ct σ' H'
  | .ok (.rt w) h => ∀ v H' ρ', Lt R H ρ H' ρ' → All R H' ρ' h → Rep R H' ρ' w v → Z.rt v H'
  | .ok (.xc c fs env) h => ∀ cls d σ' H' ρ', Lt R H ρ H' ρ' → All R H' ρ' h → EnvR R H' ρ' env σ' → RepX R H' ρ' c fs cls d → Wx cls d σ' H'
  | .exc _ _ _ => False
  | .bad => False
def rdS (R : Rd) (Wx : WX) (ev : En → Hs → Res Fl) : TS := fun Z σ H => ∃ env h ρ, All R H ρ h ∧ EnvR R H ρ env σ ∧ PstS R Wx (ev env h) H ρ Z
theorem PstS.later {R : Rd} {Wx : WX} {r : Res Fl} {H H1 : Hp} {ρ ρ1 : List Addr} {Z : Ends} (l : Lt R H ρ H1 ρ1) (p : PstS R Wx r H ρ Z) : PstS R Wx r H1 ρ1 Z := by
  cases r with
  | ok fl h =>
    cases fl with
    | nx env => exact fun σ' H' ρ' l2 A e => p σ' H' ρ' (l.trans l2) A e
    | bk env => exact fun σ' H' ρ' l2 A e => p σ' H' ρ' (l.trans l2) A e
    | ct env => exact fun σ' H' ρ' l2 A e => p σ' H' ρ' (l.trans l2) A e
    | rt w => exact fun σ' H' ρ' l2 A e => p σ' H' ρ' (l.trans l2) A e
    | xc c fs env => exact fun cls d σ' H' ρ' l2 A e x => p cls d σ' H' ρ' (l.trans l2) A e x
  | exc c fs h => exact p
  | bad => exact p
theorem _root_.L2.PS.imp {X : Cx} {e : Stmt} {t u : TS} (h : PS X e t) (kk : ∀ D σ H, u D σ H → t D σ H) : PS X e u := ⟨fun pins s σ H D I q => h.run pins s σ H D I (kk D σ H q)⟩
theorem _root_.L2.PSs.imp {X : Cx} {e : List Stmt} {t u : TS} (h : PSs X e t) (kk : ∀ D σ H, u D σ H → t D σ H) : PSs X e u := ⟨fun pins s σ H D I q => h.run pins s σ H D I (kk D σ H q)⟩
theorem PS_sel {X : Cx} {e : Stmt} {u : TS} (kk : ∀ D σ H, u D σ H → ∃ t, PS X e t ∧ t D σ H) : PS X e u := ⟨fun pins s σ H D I q => let ⟨_, h, z⟩ := kk D σ H q; h.run pins s σ H D I z⟩
/-- the first part of a statement -/
theorem rd_lift {α β : Type} {R : Rd} {Wx : WX} {rel : Hp → List Addr → α → β → Prop} {ev : En → Hs → Res α} {f : α → Hs → Res Fl} {H : Hp} {ρ : List Addr} {h : Hs} {env : En} {σ : L2.St} {Z : Ends}
    (A : All R H ρ h) (e : EnvR R H ρ env σ) (p : PstS R Wx ((ev env h).lift env f) H ρ Z) {Q1 : β → Hp → Prop}
    (kk : ∀ a b h1 H1 ρ1, ev env h = .ok a h1 → Lt R H ρ H1 ρ1 → All R H1 ρ1 h1 → EnvR R H1 ρ1 env σ → rel H1 ρ1 a b → PstS R Wx (f a h1) H1 ρ1 Z → Q1 b H1) :
    rdG R Wx rel ev σ H Q1 := by
  refine ⟨env, h, ρ, A, e, ?_⟩
  cases e1 : ev env h with
  | bad => rw [e1] at p; exact False.elim p
  | exc c fs h' =>
    rw [e1] at p
    exact fun cls d H' ρ' l A' x => p cls d σ H' ρ' l A' (e.later l) x
  | ok a h1 =>
    rw [e1] at p
    exact fun b H1 ρ1 l1 A1 r1 => kk a b h1 H1 ρ1 e1 l1 A1 (e.later l1) r1 (PstS.later l1 p)
section
variable {D : Dat} {L : Pl} {k : Nat} {X : Cx} {Wx : WX} {a b c : E} {ea eb ec : Expr} {es : List E} {xs : List Expr} {pos apos : Pos} {sa sb : List S} {ta tb : List Stmt}
abbrev RS (D : Dat) (L : Pl) (k : Nat) (X : Cx) (Wx : WX) (s : S) : TS := rdS (rdOf D L X.K) Wx (evS D.T (evFn D.T k) s)
abbrev RSs (D : Dat) (L : Pl) (k : Nat) (X : Cx) (Wx : WX) (s : List S) : TS := rdS (rdOf D L X.K) Wx (evSs D.T (evFn D.T k) s)
theorem snd_snil : PSs X [] (RSs D L k X Wx []) := pss_nil.imp fun Z σ H hq => by
  obtain ⟨env, h, ρ, A, e, p⟩ := hq
  simp only [evSs] at p
  exact p σ H ρ .refl A e
theorem snd_scons {s : S} {ss : List S} {t : Stmt} {ts : List Stmt} (h1 : PS X t (RS D L k X Wx s)) (h2 : PSs X ts (RSs D L k X Wx ss)) : PSs X (t :: ts) (RSs D L k X Wx (s :: ss)) := (pss_cons h1 h2).imp fun Z σ H hq => by
  obtain ⟨env, h, ρ, A, e, p⟩ := hq
  simp only [evSs] at p
  refine ⟨env, h, ρ, A, e, ?_⟩
  cases e1 : evS D.T (evFn D.T k) s env h with
  | bad => rw [e1] at p; exact False.elim p
  | exc c fs h' => rw [e1] at p; exact False.elim p
  | ok fl h1 =>
    rw [e1, bind_ok] at p
    cases fl with
    | nx env1 => exact fun σ1 H1 ρ1 l1 A1 en1 => ⟨env1, h1, ρ1, A1, en1, PstS.later l1 p⟩
    | bk env1 => exact p
    | ct env1 => exact p
    | rt w => exact p
    | xc c fs env1 => exact p
theorem snd_pass : PS X (.Pass pos) (RS D L k X Wx .pass) := ps_pass.imp fun Z σ H hq => by
  obtain ⟨env, h, ρ, A, e, p⟩ := hq
  simp only [evS] at p
  exact p σ H ρ .refl A e
theorem snd_brk : PS X (.Break pos) (RS D L k X Wx .brk) := ps_break.imp fun Z σ H hq => by
  obtain ⟨env, h, ρ, A, e, p⟩ := hq
  simp only [evS] at p
  exact p σ H ρ .refl A e
theorem snd_cont : PS X (.Continue pos) (RS D L k X Wx .cont) := ps_continue.imp fun Z σ H hq => by
  obtain ⟨env, h, ρ, A, e, p⟩ := hq
  simp only [evS] at p
  exact p σ H ρ .refl A e
/-- not a comprehension -/
def notC : Expr → Bool
  | .ListComp .. => false
  | .SetComp .. => false
  | .DictComp .. => false
  | _ => true
theorem sw_none {e : Expr} {t : Option Expr} {l : Nat} {env : Env} (h : notC e = true) : swapsWith e t l env = pure false := by
  cases e <;> first | rfl | cases h
theorem snd_expr (hn : notC ea = true) (ha : PE X ea (RE D L k X Wx a)) : PS X (.Expr ea pos) (RS D L k X Wx (.expr a)) := (ps_expr ha (sw_none hn)).imp fun Z σ H hq => by
  obtain ⟨env, h, ρ, A, e, p⟩ := hq
  simp only [evS] at p
  exact rd_lift A e p fun x v h1 H1 ρ1 e1 l1 A1 en1 r1 p1 => p1 σ H1 ρ1 .refl A1 en1
theorem snd_ret (ha : PE X ea (RE D L k X Wx a)) : PS X (.Return (some ea) pos) (RS D L k X Wx (.ret a)) := (ps_ret ha).imp fun Z σ H hq => by
  obtain ⟨env, h, ρ, A, e, p⟩ := hq
  simp only [evS] at p
  exact rd_lift A e p fun x v h1 H1 ρ1 e1 l1 A1 en1 r1 p1 => p1 v H1 ρ1 .refl A1 r1
theorem snd_retn : PS X (.Return none pos) (RS D L k X Wx .retn) := ps_retN.imp fun Z σ H hq => by
  obtain ⟨env, h, ρ, A, e, p⟩ := hq
  simp only [evS] at p
  exact p .non H ρ .refl A rfl
theorem snd_if {t : E} {et : Expr} (ht : PT X et (RT D L k X Wx t)) (h1 : PSs X ta (RSs D L k X Wx sa)) (h2 : PSs X tb (RSs D L k X Wx sb)) : PS X (.If et ta tb pos) (RS D L k X Wx (.ifs t sa sb)) := (ps_if ht h1 h2).imp fun Z σ H hq => by
  obtain ⟨env, h, ρ, A, e, p⟩ := hq
  simp only [evS] at p
  refine rd_lift A e p fun x v h1 H1 ρ1 e1 l1 A1 en1 r1 p1 => ?_
  have r1 : x = v := r1
  subst r1
  cases x with
  | true => exact ⟨env, h1, ρ1, A1, en1, p1⟩
  | false => exact ⟨env, h1, ρ1, A1, en1, p1⟩
theorem snd_set (F : Fx D L k X) {i : Nat} {x : Str} {p' : Pos} (hn : notC ea = true) (hi : X.N[i]? = some x) (ht : TgOk X x) (ha : PE X ea (RE D L k X Wx a)) : PS X (.Assign [.Name x p'] ea pos) (RS D L k X Wx (.set i a)) :=
  (ps_set F.nd hi ht.1 ha (sw_none hn) ht.2).imp fun Z σ H hq => by
    obtain ⟨env, h, ρ, A, e, p⟩ := hq
    simp only [evS] at p
    exact rd_lift A e p fun x v h1 H1 ρ1 e1 l1 A1 en1 r1 p1 => p1 _ H1 ρ1 .refl A1 (en1.set r1)
theorem snd_sett (F : Fx D L k X) {tg : Tg} {et : Expr} {ok : Str → Bool} (hok : ∀ x, ok x = true → TgOk X x) (hc : chkTg X.N ok tg et = true) (hn : notC ea = true) (hw : swappedStores [et] ea X.env = pure none) (ha : PE X ea (RE D L k X Wx a)) :
    PS X (.Assign [et] ea pos) (RS D L k X Wx (.sett tg a)) :=
  (ps_asg ha (sndTg (R := rdOf D L X.K) rfl F.calm F.nd hok tg et hc) (sw_none hn) hw (asg_cons (chkTg_p hc)).1).imp fun Z σ H hq => by
    obtain ⟨env, h, ρ, A, e, p⟩ := hq
    simp only [evS] at p
    refine rd_lift A e p fun x v h1 H1 ρ1 e1 l1 A1 en1 r1 p1 => ?_
    split at p1
    · rename_i env1 eb
      exact ⟨env, ρ1, x, env1, en1, r1, eb, fun σ1 en2 _ => p1 σ1 H1 ρ1 .refl A1 en2⟩
    · exact False.elim p1
theorem snd_seta (F : Fx D L k X) {o : E} {eo : Expr} {f : Nat} {nm : Str} {p' : Pos} (ef : D.an[f]? = some nm) (hn : notC ea = true) (ho : PE X eo (RE D L k X Wx o)) (ha : PE X ea (RE D L k X Wx a)) :
    PS X (.Assign [.Attribute eo nm p'] ea pos) (RS D L k X Wx (.seta o f a)) :=
  (ps_fld ho ha (sw_none hn)).imp fun Z σ H hq => by
    obtain ⟨env, h, ρ, A, e, p⟩ := hq
    simp only [evS] at p
    refine rd_lift A e p fun w v h1 H1 ρ1 e1 l1 A1 en1 r1 p1 => rd_lift A1 en1 p1 fun x u h2 H2 ρ2 e2 l2 A2 en2 r2 p2 => ?_
    unfold setA at p2
    cases x with
    | loc n =>
      obtain ⟨ad, ead, rfl⟩ := r2
      simp only at p2
      split at p2
      · rename_i c fs en
        obtain ⟨dx, gs, hx, rf⟩ := A2.at en ead
        split at p2
        · rename_i i ei
          split at p2
          · rename_i hcond
            obtain ⟨hc1, hc2, hc3⟩ := hcond
            have q1 : valG i.prps f = none := by simpa using hc1
            have q2 : valG i.mths f = none := by simpa using hc2
            obtain ⟨A3, l3⟩ := put_ins A2 en ead hx (repF_put A2.an ef (r1.later l2) rf)
            exact ⟨ad, L.ca c, dx, gs, rfl, hx, (F.cls c i ei).1, F.att c i f nm ei q1 q2 ef, by rw [← repF_length rf]; exact hc3, p2 σ _ ρ2 l3 A3 (en2.later l3)⟩
          · exact False.elim p2
        · exact False.elim p2
      · exact False.elim p2
    | non => exact False.elim p2
    | bl b => exact False.elim p2
    | int b => exact False.elim p2
    | str b => exact False.elim p2
    | tup b => exact False.elim p2

theorem key_rep {R : Rd} {H : Hp} {ρ : List Addr} {y : W} {key : Key} {u : V} (ek : keyW y = some key) (r : Rep R H ρ y u) : u = kV key := key_of ek r
theorem snd_seti (F : Fx D L k X) {o i : E} {eo ei : Expr} {p' : Pos} (hn : notC ea = true) (hpi : plainB ei = true) (ho : PE X eo (RE D L k X Wx o)) (hi : PE X ei (RE D L k X Wx i)) (ha : PE X ea (RE D L k X Wx a)) :
    PS X (.Assign [.Subscript eo ei p'] ea pos) (RS D L k X Wx (.seti o i a)) := PS_sel fun Z σ H hq => by
  obtain ⟨env, h, ρ, A, e, p⟩ := hq
  simp only [evS] at p
  by_cases hd : ∃ w h1 n h2 y h3 kvs, evE D.T (evFn D.T k) a env h = .ok w h1 ∧ evE D.T (evFn D.T k) o env h1 = .ok (.loc n) h2 ∧ evE D.T (evFn D.T k) i env h2 = .ok y h3 ∧ h3[n]? = some (.dct kvs)
  · obtain ⟨w, h1, n, h2, y, h3, kvs, e1, e2, e3, e4⟩ := hd
    refine ⟨_, ps_dput (by have := F.u65; omega) ho hi ha (sw_none hn), ?_⟩
    refine rd_lift A e p fun w' v h1' H1 ρ1 e1' l1 A1 en1 r1 p1 => rd_lift A1 en1 p1 fun x u h2' H2 ρ2 e2' l2 A2 en2 r2 p2 => rd_lift A2 en2 p2 fun y' z h3' H3 ρ3 e3' l3 A3 en3 r3 p3 => ?_
    rw [e1] at e1'; cases e1'
    rw [e2] at e2'; cases e2'
    rw [e3] at e3'; cases e3'
    obtain ⟨ad, ead, rfl⟩ := r2.later l3
    obtain ⟨ks, hk, rk⟩ := A3.at e4 ead
    unfold setI at p3
    simp only [e4] at p3
    cases ek : keyW y with
    | none => rw [ek] at p3; exact False.elim p3
    | some key =>
      rw [ek] at p3
      simp only at p3
      split at p3
      · rename_i hl
        have ev := key_of ek r3
        subst ev
        obtain ⟨A4, l4⟩ := put_dct A3 e4 ead hk (repK_put (r1.later (l2.trans l3)) rk)
        exact ⟨ad, _, rfl, DPut.k hk (lim_lt (by rw [← repK_length rk]; exact hl)), p3 σ _ ρ3 l4 A4 (en3.later l4)⟩
      · exact False.elim p3
  · have hsw : swapsWithSole [.Subscript eo ei p'] ea pos.line X.env = pure false := by
      show swapsWith ea (some (.Subscript eo ei p')) pos.line X.env = pure false
      exact sw_none hn
    have hse : swappedStores [.Subscript eo ei p'] ea X.env = pure none := rfl
    refine ⟨_, ps_asg ha (pg_sub ho hi set_list (fun v => by cases ei <;> first | rfl | cases hpi)) hsw hse rfl, ?_⟩
    refine rd_lift A e p fun w' v h1' H1 ρ1 e1' l1 A1 en1 r1 p1 => rd_lift A1 en1 p1 fun x u h2' H2 ρ2 e2' l2 A2 en2 r2 p2 => rd_lift A2 en2 p2 fun y' z h3' H3 ρ3 e3' l3 A3 en3 r3 p3 => ?_
    unfold setI at p3
    cases x with
    | loc n =>
      obtain ⟨ad, ead, rfl⟩ := r2.later l3
      simp only at p3
      split at p3
      · rename_i ws eo
        split at p3
        · rename_i j
          split at p3
          · rename_i jj ej
            obtain ⟨vs, hv, qv⟩ := A3.at eo ead
            obtain ⟨A4, l4⟩ := put_lst A3 eo ead hv (qv.set (r1.later (l2.trans l3)) jj)
            exact ⟨ad, vs, j, jj, rfl, r3, hv, by rw [← qv.length]; exact ej, p3 σ _ ρ3 l4 A4 (en3.later l4)⟩
          · exact False.elim p3
        · exact False.elim p3
      · rename_i kvs eo
        exact absurd ⟨w', h1', n, h2', y', h3', kvs, e1', e2', e3', eo⟩ hd
      · exact False.elim p3
    | non => exact False.elim p3
    | bl b => exact False.elim p3
    | int b => exact False.elim p3
    | str b => exact False.elim p3
    | tup b => exact False.elim p3
theorem snd_for (F : Fx D L k X) (hp : PassesOwn (model X.prog X.w) X.A X.env X.xe) {tg iter : Expr} {tgw : Tg} {kd : ItK} {ok : Str → Bool} (hok : ∀ x, ok x = true → TgOk X x) (hc : chkTg X.N ok tgw tg = true) (hi : PI X tg iter (RI D L k X Wx kd es))
    (hfo : ∀ x, foldedSetIterable iter X.env x = pure x) (hb : PSs X ta (RSs D L k X Wx sa)) : PS X (.For tg iter ta [] pos) (RS D L k X Wx (.fors kd es tgw sa)) :=
  (ps_for hp F.calm hi (sndTg (R := rdOf D L X.K) rfl F.calm F.nd hok tgw tg hc) hb hfo).imp fun Z σ H hq => by
    obtain ⟨env, h, ρ, A, e, p⟩ := hq
    simp only [evS] at p
    refine ⟨env, h, ρ, A, e, ?_⟩
    cases e1 : evEs D.T (evFn D.T k) es env h with
    | bad => rw [e1] at p; exact False.elim p
    | exc c fs h' =>
      rw [e1] at p
      exact fun cls d H' ρ' l A' x => p cls d σ H' ρ' l A' (e.later l) x
    | ok xs h1 =>
      rw [e1, lift_ok] at p
      split at p
      · exact False.elim p
      · rename_i src esrc
        refine ⟨src, esrc, fun J H1 ρ1 l1 A1 wk => ?_⟩
        refine ⟨fun i m σc Hc => ∃ envc hc ρc, Lt (rdOf D L X.K) H1 ρ1 Hc ρc ∧ All (rdOf D L X.K) Hc ρc hc ∧ EnvR (rdOf D L X.K) Hc ρc envc σc ∧ PstS (rdOf D L X.K) Wx (loopG (turnW tgw (evSs D.T (evFn D.T k) sa)) src m i (.nx envc) hc) Hc ρc Z,
          ⟨cntS src, env, h1, ρ1, .refl, A1, e.later l1, PstS.later l1 p⟩, ?_⟩
        rintro i m σc Hc ⟨envc, hc, ρc, lc, Ac, ec, pc⟩
        cases m with
        | zero =>
          unfold loopG at pc
          split at pc
          · rename_i ws ew
            split at pc
            · rename_i hlw
              exact .inl ⟨wk.stop Hc ρc hc i ws lc Ac ew hlw, pc σc Hc ρc .refl Ac ec⟩
            · exact False.elim pc
          · exact False.elim pc
        | succ m =>
          unfold loopG at pc
          split at pc
          · rename_i ws ew
            split at pc
            · rename_i w eiw
              obtain ⟨hgo, hy⟩ := wk.go Hc ρc hc i ws w lc Ac ew eiw
              refine .inr ⟨hgo, _, fun σ' H' z => ⟨m, Nat.lt_succ_self m, z⟩, fun x H' y => ?_⟩
              obtain ⟨eH, rx⟩ := hy x H' y
              subst eH
              unfold turnW at pc
              simp only at pc
              split at pc
              · exact False.elim pc
              · rename_i env1 eb
                rw [Res.bind_assoc] at pc
                refine ⟨envc, ρc, w, env1, ec, rx, eb, fun σ1 en1 _ => ⟨env1, hc, ρc, Ac, en1, ?_⟩⟩
                cases e2 : evSs D.T (evFn D.T k) sa env1 hc with
                | bad => rw [e2] at pc; exact False.elim pc
                | exc c fs h' => rw [e2] at pc; exact False.elim pc
                | ok fl h2 =>
                  rw [e2, bind_ok] at pc
                  cases fl with
                  | nx e3 => exact fun σ2 H2 ρ2 l2 A2 en2 => ⟨e3, h2, ρ2, lc.trans l2, A2, en2, PstS.later l2 pc⟩
                  | ct e3 => exact fun σ2 H2 ρ2 l2 A2 en2 => ⟨e3, h2, ρ2, lc.trans l2, A2, en2, PstS.later l2 pc⟩
                  | bk e3 => exact fun σ2 H2 ρ2 l2 A2 en2 => pc σ2 H2 ρ2 l2 A2 en2
                  | rt w => exact pc
                  | xc c fs e3 => exact pc
            · exact False.elim pc
          · exact False.elim pc
theorem snd_while (F : Fx D L k X) (hp : PassesOwn (model X.prog X.w) X.A X.env X.xe) {t : E} {et : Expr} (ht : PT X et (RT D L k X Wx t)) (hb : PSs X ta (RSs D L k X Wx sa)) : PS X (.While et ta [] pos) (RS D L k X Wx (.whil t sa)) :=
  (ps_while hp ht hb).imp fun Z σ H hq => by
    obtain ⟨env, h, ρ, A, e, p⟩ := hq
    simp only [evS] at p
    refine ⟨fun m σc Hc => ∃ envc hc ρc, Lt (rdOf D L X.K) H ρ Hc ρc ∧ All (rdOf D L X.K) Hc ρc hc ∧ EnvR (rdOf D L X.K) Hc ρc envc σc ∧ PstS (rdOf D L X.K) Wx (whilW (evT D.T (evFn D.T k) t) (evSs D.T (evFn D.T k) sa) m envc hc) Hc ρc Z,
      ⟨fuelW, env, h, ρ, .refl, A, e, p⟩, ?_⟩
    rintro m σc Hc ⟨envc, hc, ρc, lc, Ac, ec, pc⟩
    cases m with
    | zero => exact False.elim pc
    | succ m =>
      unfold whilW at pc
      refine rd_lift Ac ec pc fun x v h1 H1 ρ1 e1 l1 A1 en1 r1 p1 => ?_
      have r1 : x = v := r1
      subst r1
      cases x with
      | false => exact p1 σc H1 ρ1 .refl A1 en1
      | true =>
        refine ⟨fun σ' H' => ∃ envc hc ρc, Lt (rdOf D L X.K) H ρ H' ρc ∧ All (rdOf D L X.K) H' ρc hc ∧ EnvR (rdOf D L X.K) H' ρc envc σ' ∧ PstS (rdOf D L X.K) Wx (whilW (evT D.T (evFn D.T k) t) (evSs D.T (evFn D.T k) sa) m envc hc) H' ρc Z,
          fun σ' H' z => ⟨m, Nat.lt_succ_self m, z⟩, envc, h1, ρ1, A1, en1, ?_⟩
        rw [if_pos rfl] at p1
        cases e2 : evSs D.T (evFn D.T k) sa envc h1 with
        | bad => rw [e2] at p1; exact False.elim p1
        | exc c fs h' => rw [e2] at p1; exact False.elim p1
        | ok fl h2 =>
          rw [e2, bind_ok] at p1
          cases fl with
          | nx e3 => exact fun σ2 H2 ρ2 l2 A2 en2 => ⟨e3, h2, ρ2, (lc.trans l1).trans l2, A2, en2, PstS.later l2 p1⟩
          | ct e3 => exact fun σ2 H2 ρ2 l2 A2 en2 => ⟨e3, h2, ρ2, (lc.trans l1).trans l2, A2, en2, PstS.later l2 p1⟩
          | bk e3 => exact p1
          | rt w => exact p1
          | xc c fs e3 => exact p1
theorem snd_setlc (F : Fx D L k X) {elt tg iter : Expr} {ifs : List Expr} {scope : Scope} {own : List (Str × Nat)} {i : Nat} {y : Str} {py spos : Pos} {tgw : Tg} {cs : List E} {e : E} {kd : ItK} (hi : PI X tg iter (RI D L k X Wx kd es)) (ok : BlkOk X.N X.env.scope scope own)
    (hg : ∀ (s : Shared) (H : Hp) (C : Addr) (cl : List (Str × Addr)) (fp : List Addr), PG (X.blk s H scope (compEnvC scope cl C X.env) fp) tg (rdTg (rdOf D L X.K) tgw))
    (ht : ∀ (s : Shared) (H : Hp) (C : Addr) (cl : List (Str × Addr)) (fp : List Addr), PTs (X.blk s H scope (compEnvC scope cl C X.env) fp) ifs (rdG (rdOf D L X.K) W0 rEq (evCs D.T (evFn D.T k) cs)))
    (he : ∀ (s : Shared) (H : Hp) (C : Addr) (cl : List (Str × Addr)) (fp : List Addr), PE (X.blk s H scope (compEnvC scope cl C X.env) fp) elt (rdG (rdOf D L X.K) W0 (rV (rdOf D L X.K)) (evE D.T (evFn D.T k) e)))
    (hfo : ∀ x, foldedSetIterable iter X.env x = pure x) (hsl : ∀ i ∈ slTg tgw, i ∈ own.map (·.2)) 
    (hy : X.N[i]? = some y) (hyl : X.env.scope.names.lookup y = some .local) (hk : X.env.scope.kind = .function) (hlin : (py.line == pos.line) = true) (hany : (scope.names.any fun (n, k) => n == y && (k == .local || k == .cell)) = false) :
    PS X (.Assign [.Name y py] (.ListComp elt [⟨tg, iter, ifs, 0⟩] scope pos) spos) (RS D L k X Wx (.set i (.lc kd es tgw (own.map (·.2)) cs e))) :=
  (ps_setLc F.calm F.nd hy hyl (sw_true hk hyl hlin hany) hi ok hg ht he hfo).imp fun Z σ H hq => by
    obtain ⟨env, h, ρ, A, en, p⟩ := hq
    simp only [evS] at p
    exact red_lc hsl σ H _ (rd_lift A en p fun x v h1 H1 ρ1 e1 l1 A1 en1 r1 p1 => p1 _ H1 ρ1 .refl A1 (en1.set r1))
/-- a comprehension whose target is a captured name -/
theorem snd_setc (F : Fx D L k X) {i : Nat} {x : Str} {p' : Pos} (hi : X.N[i]? = some x) (ht : TgOk X x) (hcell : X.env.scope.names.lookup x = some .cell) (hk : X.env.scope.kind = .function) {elt : Expr} {gs : List Comprehension} {scope : Scope} {lpos : Pos} (ha : PE X (.ListComp elt gs scope lpos) (RE D L k X Wx a)) :
    PS X (.Assign [.Name x p'] (.ListComp elt gs scope lpos) pos) (RS D L k X Wx (.set i a)) := by
  have hsw : swapsWith (.ListComp elt gs scope lpos) (some (.Name x p')) pos.line X.env = pure false := by
    have hb : X.env.blockKind = .function := by unfold Env.blockKind; rw [hk]; rfl
    have hc : X.env.kindOf x = some .cell := hcell
    unfold swapsWith
    simp only [hb, hc]
    rfl
  exact (ps_set F.nd hi ht.1 ha hsw ht.2).imp fun Z σ H hq => by
    obtain ⟨env, h, ρ, A, e, p⟩ := hq
    simp only [evS] at p
    exact rd_lift A e p fun x v h1 H1 ρ1 e1 l1 A1 en1 r1 p1 => p1 _ H1 ρ1 .refl A1 (en1.set r1)
theorem snd_cs0 : PTs X [] (rdG (rdOf D L X.K) Wx rEq (evCs D.T (evFn D.T k) [])) := ⟨fun pins s σ H Q I hq => by
  obtain ⟨env, h, ρ, A, e, p⟩ := hq
  simp only [evCs] at p
  exact pts_nil.run pins s σ H Q I (p.ret A rfl)⟩
theorem snd_cs1 (h : PT X ea (RT D L k X Wx a)) : PTs X [ea] (rdG (rdOf D L X.K) Wx rEq (evCs D.T (evFn D.T k) [a])) := ⟨fun pins s σ H Q I hq => by
  obtain ⟨env, h', ρ, A, e, p⟩ := hq
  simp only [evCs] at p
  exact (pts_one h).run pins s σ H Q I ⟨env, h', ρ, A, e, p⟩⟩
end
end Pc
set_option Elab.async false
set_option linter.all false
set_option maxRecDepth 100000
set_option maxHeartbeats 4000000
namespace Pc
open PySem PySem.Spec PyProof.Rows L2

def glB (sc : Scope) (x : Str) : Bool := match sc.names.lookup x with
  | some .globalImplicit => true
  | _ => false
def visB (sc : Scope) (x : Str) : Bool := match sc.names.lookup x with
  | some .local => true
  | some .cell => true
  | some .free => true
  | _ => false
def locB (sc : Scope) (x : Str) : Bool := match sc.names.lookup x with
  | some .local => true
  | some .cell => true
  | _ => false
def lclB (sc : Scope) (x : Str) : Bool := match sc.names.lookup x with
  | some .local => true
  | _ => false
def celB (sc : Scope) (x : Str) : Bool := match sc.names.lookup x with
  | some .cell => true
  | _ => false
def arB : Bm → Nat → Bool
  | .append, 1 => true
  | .extend, 1 => true
  | .insert, 2 => true
  | .get1, 1 => true
  | .get2, 2 => true
  | .pop0, 0 => true
  | _, _ => false
def ownN (N : List Str) (own : List Nat) : List (Str × Nat) := own.map fun i => ((N[i]?).getD "", i)
def tyBs (D : Dat) (sc : Scope) : List Ty → List Expr → Bool
  | [], [] => true
  | t :: ts, .Name x _ :: es => decide (x = tyN t) && D.free.contains x && glB sc x && tyBs D sc ts es
  | _, _ => false
def tyB (D : Dat) (sc : Scope) (ts : List Ty) : Expr → Bool
  | .Name x _ => match ts with
    | [t] => decide (x = tyN t) && D.free.contains x && glB sc x
    | _ => false
  | .Tuple es _ _ => tyBs D sc ts es && decide (ts.length ≤ 100)
  | _ => false
section
variable (D : Dat) (N : List Str)
mutual
def chkE : E → Scope → Expr → Bool
  | .var i, sc, .Name x _ => decide (N[i]? = some x) && visB sc x && !(x == ("__debug__" : Str)) && !(x == ("__classdict__" : Str))
  | .lit w, _, .Constant c _ _ => litB w c
  | .bin op a b, sc, .BinOp x o y _ => decide (o = bopO op) && chkE a sc x && chkE b sc y
  | .neg a, sc, .UnaryOp o x _ => decide (o = .USub) && chkE a sc x
  | .not a, sc, .UnaryOp o x _ => decide (o = .Not) && chkE a sc x
  | .cmp op a b, sc, .Compare x [o] [y] _ => decide (o = copO op) && plainB y && chkE a sc x && chkE b sc y
  | .chn p q a b c, sc, .Compare x [o1, o2] [y, z] _ => decide (o1 = copO p) && decide (o2 = copO q) && plainB z && chkE a sc x && chkE b sc y && chkE c sc z
  | .and es, sc, .BoolOp o xs _ => decide (o = .And) && !xs.isEmpty && chkEs es sc xs
  | .or es, sc, .BoolOp o xs _ => decide (o = .Or) && !xs.isEmpty && chkEs es sc xs
  | .ite t a b, sc, .IfExp t' x y _ => chkT t sc t' && chkE a sc x && chkE b sc y
  | .tup es, sc, .Tuple xs _ _ => chkEs es sc xs
  | .lst es, sc, .List xs _ => chkEs es sc xs
  | .dct es, sc, .Dict ks vs _ => match ks with
    | [] => es.isEmpty && vs.isEmpty
    | _ :: _ => decide (ks.length ≤ 15) && decide (ks.length = vs.length) && chkD es sc ks vs
  | .ix a i, sc, .Subscript x y _ => plainB y && chkE a sc x && chkE i sc y
  | .slc a lo hi, sc, .Subscript x (.Slice l u none _) _ => chkE a sc x && chkO lo sc l && chkO hi sc u
  | .att a f, sc, .Attribute x nm _ => plainB x && decide (D.an[f]? = some nm) && chkE a sc x
  | .call f es, sc, .Call (.Name x _) xs [] _ => glB sc x && !(x == ("__debug__" : Str)) && decide (D.fnm[f]? = some (some x)) && (D.T.fns[f]?).isSome && chkEs es sc xs
  | .new c es, sc, .Call (.Name x _) xs [] _ => glB sc x && !(x == ("__debug__" : Str)) && decide (D.cnm[c]? = some x) && (D.T.cls[c]?).isSome && chkEs es sc xs
  | .mth m o es, sc, .Call (.Attribute x nm ap) xs [] p => decide (D.an[m]? = some nm) && plainB x && (ap.endLine == p.line) && decide (xs.length < 30) && chkE o sc x && chkEs es sc xs
  | .blt b es, sc, .Call (.Name x _) xs [] _ => decide (x = bfN b) && D.free.contains x && glB sc x && !xs.isEmpty && chkEs es sc xs
  | .bmt m o es, sc, .Call (.Attribute x nm ap) xs [] p => decide (nm = bmN m) && plainB x && (ap.endLine == p.line) && arB m xs.length && chkE o sc x && chkEs es sc xs
  | .isi a ts, sc, .Call (.Name x _) [y, z] [] _ => decide (x = ("isinstance" : Str)) && D.free.contains x && glB sc x && plainB y && tyB D sc ts z && chkE a sc y
  | .lc kd es tg own cs e, sc, .ListComp elt [⟨tg', iter, ifs, as⟩] scope _ => decide (as = 0) && plainB iter && (match kd with
      | .seq => decide (es.length = 1) && chkEs es sc [iter]
      | .range => match iter with
        | .Call (.Name x _) xs [] _ => decide (x = ("range" : Str)) && D.free.contains x && glB sc x && (decide (xs.length = 1) || decide (xs.length = 2)) && chkEs es sc xs
        | _ => false) &&
      blkC N sc scope (ownN N own) && chkTg N (locB scope) tg tg' && (slTg tg).all (fun i => own.contains i) && chkCs cs (relS scope sc) ifs && chkE e (relS scope sc) elt
  | _, _, _ => false
def chkEs : List E → Scope → List Expr → Bool
  | [], _, [] => true
  | e :: es, sc, x :: xs => plainB x && chkE e sc x && chkEs es sc xs
  | _, _, _ => false
def chkD : List E → Scope → List (Option Expr) → List Expr → Bool
  | [], _, [], [] => true
  | a :: es, sc, some x :: ks, y :: vs => match es with
    | [] => false
    | b :: es => chkE a sc x && chkE b sc y && chkD es sc ks vs
  | _, _, _, _ => false
def chkO : Option E → Scope → Option Expr → Bool
  | none, _, none => true
  | some a, sc, some x => chkE a sc x
  | _, _, _ => false
def chkT : E → Scope → Expr → Bool
  | .and es, sc, .BoolOp o xs _ => decide (o = .And) && !xs.isEmpty && chkTs es sc xs
  | .or es, sc, .BoolOp o xs _ => decide (o = .Or) && !xs.isEmpty && chkTs es sc xs
  | .not a, sc, .UnaryOp o x _ => decide (o = .Not) && chkT a sc x
  | .val (.cmp op a b), sc, .Compare x [o] [y] _ => decide (o = copO op) && plainB y && chkE a sc x && chkE b sc y
  | .val (.chn p q a b c), sc, .Compare x [o1, o2] [y, z] _ => decide (o1 = copO p) && decide (o2 = copO q) && plainB z && chkE a sc x && chkE b sc y && chkE c sc z
  | .val e, sc, x => testB x && chkE e sc x
  | _, _, _ => false
def chkTs : List E → Scope → List Expr → Bool
  | [], _, [] => true
  | e :: es, sc, x :: xs => chkT e sc x && chkTs es sc xs
  | _, _, _ => false
def chkCs : List E → Scope → List Expr → Bool
  | [], _, [] => true
  | e :: es, sc, x :: xs => es.isEmpty && xs.isEmpty && chkT e sc x
  | _, _, _ => false
end
end
end Pc
set_option Elab.async false
set_option linter.all false
set_option maxRecDepth 100000
set_option maxHeartbeats 4000000
namespace Pc
open PySem PySem.Spec PyProof.Rows L2

section
variable {D : Dat} {L : Pl} {k : Nat} {X : Cx} {Wx : WX}
theorem gl_of {sc : Scope} {x : Str} (h : glB sc x = true) : sc.names.lookup x = some .globalImplicit := by
  unfold glB at h
  split at h
  · assumption
  · cases h
theorem vis_of {sc : Scope} {x : Str} (h : visB sc x = true) : Vis sc x := by
  unfold visB at h
  split at h
  · exact .inl (by assumption)
  · exact .inr (.inl (by assumption))
  · exact .inr (.inr (by assumption))
  · cases h
theorem loc_of {sc : Scope} {x : Str} (h : locB sc x = true) : Loc sc x := by
  unfold locB at h
  split at h
  · exact .inl (by assumption)
  · exact .inr (by assumption)
  · cases h
theorem nb {b : Bool} (h : (!b) = true) : b = false := by cases b <;> first | rfl | cases h
theorem Fx.blk (F : Fx D L k X) {s : Shared} {H : Hp} {scope : Scope} {ce : Env} {fp : List Addr} : Fx D L k (X.blk s H scope ce fp) := ⟨F.calm, F.nd, F.room, F.fn, F.fnm, F.cls, F.mth, F.prp, F.att, F.cnm, F.free, F.add⟩
theorem tgok_blk {s : Shared} {H : Hp} {scope : Scope} {C : Addr} {cl : List (Str × Addr)} {fp : List Addr} : ∀ x, locB scope x = true → TgOk (X.blk s H scope (compEnvC scope cl C X.env) fp) x := by
  intro x h
  rcases loc_of h with h | h
  · have := PySem.oc_lookup_relabel (env := X.env) (k0 := .local) rfl h
    exact ⟨.inl this, .inr this⟩
  · have := PySem.oc_lookup_relabel (env := X.env) (k0 := .cell) rfl h
    refine ⟨.inr this, .inl ?_⟩
    show (scope.names.lookup x == some .cell) = true
    rw [h]
    rfl
theorem chkEs_plain {N : List Str} {sc : Scope} : ∀ {es : List E} {xs : List Expr}, chkEs D N es sc xs = true → xs.all plainB = true ∧ es.length = xs.length
  | [], [], _ => ⟨rfl, rfl⟩
  | [], _ :: _, h => by simp only [chkEs] at h; cases h
  | _ :: _, [], h => by simp only [chkEs] at h; cases h
  | e :: es, x :: xs, h => by
    simp only [chkEs, Bool.and_eq_true] at h
    obtain ⟨⟨h1, h2⟩, h3⟩ := h
    obtain ⟨i1, i2⟩ := chkEs_plain h3
    exact ⟨by rw [List.all_cons, h1, i1]; rfl, congrArg Nat.succ i2⟩
theorem tyBs_of {sc : Scope} : ∀ {ts : List Ty} {es : List Expr}, tyBs D sc ts es = true → ∃ ps : List Pos, ts.length = ps.length ∧ es = (ts.zip ps).map (fun q => Expr.Name (tyN q.1) q.2) ∧ ∀ t ∈ ts, tyN t ∈ D.free ∧ sc.names.lookup (tyN t) = some .globalImplicit
  | [], [], _ => ⟨[], rfl, rfl, fun _ h => nomatch h⟩
  | [], _ :: _, h => by simp only [tyBs] at h; cases h
  | _ :: _, [], h => by simp only [tyBs] at h; cases h
  | t :: ts, e :: es, h => by
    cases e with
    | Name x p =>
      simp only [tyBs, Bool.and_eq_true, decide_eq_true_eq] at h
      obtain ⟨⟨⟨h1, h2⟩, h3⟩, h4⟩ := h
      subst h1
      obtain ⟨ps, e1, e2, e3⟩ := tyBs_of h4
      refine ⟨p :: ps, congrArg Nat.succ e1, by rw [e2]; rfl, fun u hu => ?_⟩
      rcases List.mem_cons.mp hu with z | z
      · rw [z]; exact ⟨by simpa using h2, gl_of h3⟩
      · exact e3 u z
    | _ => simp only [tyBs] at h; cases h
theorem ownN_snd {N : List Str} (own : List Nat) : (ownN N own).map (·.2) = own := by
  unfold ownN
  rw [List.map_map]
  exact List.map_id own
mutual
theorem sndE : ∀ (e : E) (X : Cx) (Wx : WX), Fx D L k X → Takes X Wx → ∀ ae : Expr, chkE D X.N e X.env.scope ae = true → PE X ae (RE D L k X Wx e)
  | .var i, X, Wx, F, tk, ae, h => by
    cases ae with
    | Name x p =>
      simp only [chkE, Bool.and_eq_true, decide_eq_true_eq] at h
      obtain ⟨⟨⟨h1, h2⟩, h3⟩, h4⟩ := h
      exact snd_var h1 (vis_of h2) (nb h3) (nb h4)
    | _ => simp only [chkE] at h; cases h
  | .lit w, X, Wx, F, tk, ae, h => by
    cases ae with
    | Constant c j p =>
      simp only [chkE] at h
      exact snd_lit h
    | _ => simp only [chkE] at h; cases h
  | .bin op a b, X, Wx, F, tk, ae, h => by
    cases ae with
    | BinOp x o y p =>
      simp only [chkE, Bool.and_eq_true, decide_eq_true_eq] at h
      obtain ⟨⟨h1, h2⟩, h3⟩ := h
      subst h1
      exact snd_bin F (sndE a X Wx F tk x h2) (sndE b X Wx F tk y h3)
    | _ => simp only [chkE] at h; cases h
  | .neg a, X, Wx, F, tk, ae, h => by
    cases ae with
    | UnaryOp o x p =>
      simp only [chkE, Bool.and_eq_true, decide_eq_true_eq] at h
      obtain ⟨h1, h2⟩ := h
      subst h1
      exact snd_neg (sndE a X Wx F tk x h2)
    | _ => simp only [chkE] at h; cases h
  | .not a, X, Wx, F, tk, ae, h => by
    cases ae with
    | UnaryOp o x p =>
      simp only [chkE, Bool.and_eq_true, decide_eq_true_eq] at h
      obtain ⟨h1, h2⟩ := h
      subst h1
      exact snd_notv (sndE a X Wx F tk x h2)
    | _ => simp only [chkE] at h; cases h
  | .cmp op a b, X, Wx, F, tk, ae, h => by
    cases ae with
    | Compare x os ys p =>
      match os, ys, h with
      | [o], [y], h =>
        simp only [chkE, Bool.and_eq_true, decide_eq_true_eq] at h
        obtain ⟨⟨⟨h1, h2⟩, h3⟩, h4⟩ := h
        subst h1
        exact snd_cmp F h2 (sndE a X Wx F tk x h3) (sndE b X Wx F tk y h4)
      | [], _, h => simp only [chkE] at h; cases h
      | [_], [], h => simp only [chkE] at h; cases h
      | [_], _ :: _ :: _, h => simp only [chkE] at h; cases h
      | _ :: _ :: _, _, h => simp only [chkE] at h; cases h
    | _ => simp only [chkE] at h; cases h
  | .chn p q a b c, X, Wx, F, tk, ae, h => by
    cases ae with
    | Compare x os ys ps =>
      match os, ys, h with
      | [o1, o2], [y, z], h =>
        simp only [chkE, Bool.and_eq_true, decide_eq_true_eq] at h
        obtain ⟨⟨⟨⟨⟨h1, h2⟩, h3⟩, h4⟩, h5⟩, h6⟩ := h
        subst h1 h2
        exact snd_chn F h3 (sndE a X Wx F tk x h4) (sndE b X Wx F tk y h5) (sndE c X Wx F tk z h6)
      | [], _, h => simp only [chkE] at h; cases h
      | [_], _, h => simp only [chkE] at h; cases h
      | _ :: _ :: _ :: _, _, h => simp only [chkE] at h; cases h
      | [_, _], [], h => simp only [chkE] at h; cases h
      | [_, _], [_], h => simp only [chkE] at h; cases h
      | [_, _], _ :: _ :: _ :: _, h => simp only [chkE] at h; cases h
    | _ => simp only [chkE] at h; cases h
  | .and es, X, Wx, F, tk, ae, h => by
    cases ae with
    | BoolOp o xs p =>
      simp only [chkE, Bool.and_eq_true, decide_eq_true_eq] at h
      obtain ⟨⟨h1, h2⟩, h3⟩ := h
      subst h1
      exact snd_andE (sndAV es X Wx F tk xs p h3 (nb h2))
    | _ => simp only [chkE] at h; cases h
  | .or es, X, Wx, F, tk, ae, h => by
    cases ae with
    | BoolOp o xs p =>
      simp only [chkE, Bool.and_eq_true, decide_eq_true_eq] at h
      obtain ⟨⟨h1, h2⟩, h3⟩ := h
      subst h1
      exact snd_orE (sndOV es X Wx F tk xs p h3 (nb h2))
    | _ => simp only [chkE] at h; cases h
  | .ite t a b, X, Wx, F, tk, ae, h => by
    cases ae with
    | IfExp t' x y p =>
      simp only [chkE, Bool.and_eq_true] at h
      obtain ⟨⟨h1, h2⟩, h3⟩ := h
      exact snd_ite (sndT t X Wx F tk t' h1) (sndE a X Wx F tk x h2) (sndE b X Wx F tk y h3)
    | _ => simp only [chkE] at h; cases h
  | .tup es, X, Wx, F, tk, ae, h => by
    cases ae with
    | Tuple xs j p =>
      simp only [chkE] at h
      exact snd_tup (sndEs es X Wx F tk xs h)
    | _ => simp only [chkE] at h; cases h
  | .lst es, X, Wx, F, tk, ae, h => by
    cases ae with
    | List xs p =>
      simp only [chkE] at h
      exact snd_lst (sndEs es X Wx F tk xs h)
    | _ => simp only [chkE] at h; cases h
  | .dct es, X, Wx, F, tk, ae, h => by
    cases ae with
    | Dict ks vs p =>
      cases ks with
      | nil =>
        simp only [chkE, Bool.and_eq_true, List.isEmpty_iff] at h
        obtain ⟨h1, h2⟩ := h
        subst h1 h2
        exact snd_dct0
      | cons q ks =>
        simp only [chkE, Bool.and_eq_true, decide_eq_true_eq] at h
        obtain ⟨⟨h1, h2⟩, h3⟩ := h
        obtain ⟨g1, g2, g3⟩ := sndD es X Wx F tk (q :: ks) vs p h3
        exact snd_dct g1 g2 h2 (by simp) h1 g3
    | _ => simp only [chkE] at h; cases h
  | .ix a i, X, Wx, F, tk, ae, h => by
    cases ae with
    | Subscript x y p =>
      simp only [chkE, Bool.and_eq_true] at h
      obtain ⟨⟨h1, h2⟩, h3⟩ := h
      exact pe_ix_dct F h1 (sndE a X Wx F tk x h2) (sndE i X Wx F tk y h3)
    | _ => simp only [chkE] at h; cases h
  | .slc a lo hi, X, Wx, F, tk, ae, h => by
    cases ae with
    | Subscript x y p =>
      cases y with
      | Slice l u st p2 =>
        cases st with
        | none =>
          simp only [chkE, Bool.and_eq_true] at h
          obtain ⟨⟨h1, h2⟩, h3⟩ := h
          exact snd_slc (sndE a X Wx F tk x h1) (sndO lo X Wx F tk l h2) (sndO hi X Wx F tk u h3)
        | some _ => simp only [chkE] at h; cases h
      | _ => simp only [chkE] at h; cases h
    | _ => simp only [chkE] at h; cases h
  | .att a f, X, Wx, F, tk, ae, h => by
    cases ae with
    | Attribute x nm p =>
      simp only [chkE, Bool.and_eq_true, decide_eq_true_eq] at h
      obtain ⟨⟨h1, h2⟩, h3⟩ := h
      exact snd_att F h2 h1 (sndE a X Wx F tk x h3)
    | _ => simp only [chkE] at h; cases h
  | .call f es, X, Wx, F, tk, ae, h => by
    cases ae with
    | Call fn xs kw p =>
      cases fn with
      | Name x p2 =>
        cases kw with
        | nil =>
          simp only [chkE, Bool.and_eq_true, decide_eq_true_eq] at h
          obtain ⟨⟨⟨⟨h1, h2⟩, h3⟩, h4⟩, h5⟩ := h
          obtain ⟨i, ei⟩ := Option.isSome_iff_exists.mp h4
          have hs := sndEs es X Wx F tk xs h5
          obtain ⟨g1, g2⟩ := chkEs_plain h5
          cases xs with
          | nil =>
            cases es with
            | nil => exact snd_call0 F tk ei h3 (gl_of h1) (nb h2)
            | cons _ _ => cases g2
          | cons y ys => exact snd_call F tk ei h3 (gl_of h1) (nb h2) g1 hs
        | cons _ _ => simp only [chkE] at h; cases h
      | _ => simp only [chkE] at h; cases h
    | _ => simp only [chkE] at h; cases h
  | .new c es, X, Wx, F, tk, ae, h => by
    cases ae with
    | Call fn xs kw p =>
      cases fn with
      | Name x p2 =>
        cases kw with
        | nil =>
          simp only [chkE, Bool.and_eq_true, decide_eq_true_eq] at h
          obtain ⟨⟨⟨⟨h1, h2⟩, h3⟩, h4⟩, h5⟩ := h
          obtain ⟨i, ei⟩ := Option.isSome_iff_exists.mp h4
          have hs := sndEs es X Wx F tk xs h5
          obtain ⟨g1, g2⟩ := chkEs_plain h5
          cases xs with
          | nil =>
            cases es with
            | nil => exact snd_new0 F ei h3 (gl_of h1) (nb h2)
            | cons _ _ => cases g2
          | cons y ys => exact snd_new F ei h3 (gl_of h1) (nb h2) g1 hs
        | cons _ _ => simp only [chkE] at h; cases h
      | _ => simp only [chkE] at h; cases h
    | _ => simp only [chkE] at h; cases h
  | .mth m o es, X, Wx, F, tk, ae, h => by
    cases ae with
    | Call fn xs kw p =>
      cases fn with
      | Attribute x nm ap =>
        cases kw with
        | nil =>
          simp only [chkE, Bool.and_eq_true, decide_eq_true_eq] at h
          obtain ⟨⟨⟨⟨⟨h1, h2⟩, h3⟩, h4⟩, h5⟩, h6⟩ := h
          obtain ⟨g1, g2⟩ := chkEs_plain h6
          exact snd_mth F h1 h2 h3 g1 h4 g2 (sndE o X Wx F tk x h5) (sndEs es X Wx F tk xs h6)
        | cons _ _ => simp only [chkE] at h; cases h
      | _ => simp only [chkE] at h; cases h
    | _ => simp only [chkE] at h; cases h
  | .blt b es, X, Wx, F, tk, ae, h => by
    cases ae with
    | Call fn xs kw p =>
      cases fn with
      | Name x p2 =>
        cases kw with
        | nil =>
          simp only [chkE, Bool.and_eq_true, decide_eq_true_eq] at h
          obtain ⟨⟨⟨⟨h1, h2⟩, h3⟩, h4⟩, h5⟩ := h
          subst h1
          have hs := sndEs es X Wx F tk xs h5
          obtain ⟨g1, g2⟩ := chkEs_plain h5
          cases xs with
          | nil => cases h4
          | cons y ys => exact snd_blt F (by simpa using h2) (gl_of h3) g1 hs
        | cons _ _ => simp only [chkE] at h; cases h
      | _ => simp only [chkE] at h; cases h
    | _ => simp only [chkE] at h; cases h
  | .bmt m o es, X, Wx, F, tk, ae, h => by
    cases ae with
    | Call fn xs kw p =>
      cases fn with
      | Attribute x nm ap =>
        cases kw with
        | nil =>
          simp only [chkE, Bool.and_eq_true, decide_eq_true_eq] at h
          obtain ⟨⟨⟨⟨⟨h1, h2⟩, h3⟩, h4⟩, h5⟩, h6⟩ := h
          subst h1
          have ho := sndE o X Wx F tk x h5
          match xs, es, h4, h6 with
          | [], [], h4, h6 =>
            cases m <;> first | (cases h4; done) | exact snd_pop0 F h2 h3 ho
          | [y], [b], h4, h6 =>
            have hs := sndEs [b] X Wx F tk [y] h6
            obtain ⟨g1, g2⟩ := chkEs_plain h6
            simp only [chkEs, Bool.and_eq_true] at h6
            cases m with
            | append => exact snd_bml F rfl h2 h3 g1 (by show 1 < 30; omega) ho hs
            | extend => exact snd_bml F rfl h2 h3 g1 (by show 1 < 30; omega) ho hs
            | get1 => exact snd_get1 F h2 h6.1.1 h3 ho (sndE b X Wx F tk y h6.1.2)
            | _ => cases h4
          | [y, z], [b, c], h4, h6 =>
            have hs := sndEs [b, c] X Wx F tk [y, z] h6
            obtain ⟨g1, g2⟩ := chkEs_plain h6
            simp only [chkEs, Bool.and_eq_true] at h6
            cases m with
            | insert => exact snd_bml F rfl h2 h3 g1 (by show 2 < 30; omega) ho hs
            | get2 => exact snd_get2 F h2 h6.1.1 h6.2.1.1 h3 ho (sndE b X Wx F tk y h6.1.2) (sndE c X Wx F tk z h6.2.1.2)
            | _ => cases h4
          | _ :: _ :: _ :: _, _, h4, h6 => cases m <;> cases h4
          | [], _ :: _, h4, h6 => simp only [chkEs] at h6; cases h6
          | [_], [], h4, h6 => simp only [chkEs] at h6; cases h6
          | [_], _ :: _ :: _, h4, h6 => simp only [chkEs, Bool.and_false] at h6; cases h6
          | [_, _], [], h4, h6 => simp only [chkEs] at h6; cases h6
          | [_, _], [_], h4, h6 => simp only [chkEs, Bool.and_false] at h6; cases h6
          | [_, _], _ :: _ :: _ :: _, h4, h6 => simp only [chkEs, Bool.and_false] at h6; cases h6
        | cons _ _ => simp only [chkE] at h; cases h
      | _ => simp only [chkE] at h; cases h
    | _ => simp only [chkE] at h; cases h
  | .isi a ts, X, Wx, F, tk, ae, h => by
    cases ae with
    | Call fn xs kw p =>
      match fn, xs, kw, h with
      | .Name x p2, [y, z], [], h =>
        simp only [chkE, Bool.and_eq_true, decide_eq_true_eq] at h
        obtain ⟨⟨⟨⟨⟨h1, h2⟩, h3⟩, h4⟩, h5⟩, h6⟩ := h
        subst h1
        have ha := sndE a X Wx F tk y h6
        cases z with
        | Name t p3 =>
          unfold tyB at h5
          simp only at h5
          split at h5
          · rename_i t1
            simp only [Bool.and_eq_true, decide_eq_true_eq] at h5
            obtain ⟨⟨g1, g2⟩, g3⟩ := h5
            subst g1
            exact snd_isi1 F h4 (by simpa using h2) (gl_of h3) (by simpa using g2) (gl_of g3) ha
          · cases h5
        | Tuple zs j p3 =>
          unfold tyB at h5
          simp only [Bool.and_eq_true, decide_eq_true_eq] at h5
          obtain ⟨ps, e1, e2, e3⟩ := tyBs_of h5.1
          subst e2
          exact snd_isiT F h4 (by simpa using h2) (gl_of h3) e3 e1 h5.2 ha
        | _ => unfold tyB at h5; simp only at h5; cases h5
      | .Name _ _, [], _, h => simp only [chkE] at h; cases h
      | .Name _ _, [_], _, h => simp only [chkE] at h; cases h
      | .Name _ _, _ :: _ :: _ :: _, _, h => simp only [chkE] at h; cases h
      | .Name _ _, [_, _], _ :: _, h => simp only [chkE] at h; cases h
      | .BoolOp .., _, _, h => simp only [chkE] at h; cases h
      | .NamedExpr .., _, _, h => simp only [chkE] at h; cases h
      | .BinOp .., _, _, h => simp only [chkE] at h; cases h
      | .UnaryOp .., _, _, h => simp only [chkE] at h; cases h
      | .Lambda .., _, _, h => simp only [chkE] at h; cases h
      | .IfExp .., _, _, h => simp only [chkE] at h; cases h
      | .Dict .., _, _, h => simp only [chkE] at h; cases h
      | .Set .., _, _, h => simp only [chkE] at h; cases h
      | .ListComp .., _, _, h => simp only [chkE] at h; cases h
      | .SetComp .., _, _, h => simp only [chkE] at h; cases h
      | .DictComp .., _, _, h => simp only [chkE] at h; cases h
      | .GeneratorExp .., _, _, h => simp only [chkE] at h; cases h
      | .Await .., _, _, h => simp only [chkE] at h; cases h
      | .Yield .., _, _, h => simp only [chkE] at h; cases h
      | .YieldFrom .., _, _, h => simp only [chkE] at h; cases h
      | .Compare .., _, _, h => simp only [chkE] at h; cases h
      | .Call .., _, _, h => simp only [chkE] at h; cases h
      | .FormattedValue .., _, _, h => simp only [chkE] at h; cases h
      | .JoinedStr .., _, _, h => simp only [chkE] at h; cases h
      | .Constant .., _, _, h => simp only [chkE] at h; cases h
      | .Attribute .., _, _, h => simp only [chkE] at h; cases h
      | .Subscript .., _, _, h => simp only [chkE] at h; cases h
      | .Starred .., _, _, h => simp only [chkE] at h; cases h
      | .List .., _, _, h => simp only [chkE] at h; cases h
      | .Tuple .., _, _, h => simp only [chkE] at h; cases h
      | .Slice .., _, _, h => simp only [chkE] at h; cases h
    | _ => simp only [chkE] at h; cases h
  | .lc kd es tg own cs e, X, Wx, F, tk, ae, h => by
    cases ae with
    | ListComp elt gens scope p =>
      match gens, h with
      | [⟨tg', iter, ifs, as⟩], h =>
        simp only [chkE, Bool.and_eq_true, decide_eq_true_eq] at h
        obtain ⟨⟨⟨⟨⟨⟨⟨h1, h2⟩, h3⟩, h4⟩, h5⟩, h6⟩, h7⟩, h8⟩ := h
        subst h1
        have hi : PI X tg' iter (RI D L k X Wx kd es) := by
          cases kd with
          | seq =>
            simp only [Bool.and_eq_true, decide_eq_true_eq] at h3
            match es, h3 with
            | [a], h3 =>
              have h3 := h3.2
              simp only [chkEs, Bool.and_eq_true] at h3
              exact snd_iseq (sndE a X Wx F tk iter h3.1.2)
            | [], h3 => cases h3.1
            | _ :: _ :: _, h3 => cases h3.1
          | range =>
            cases iter with
            | Call fn xs kw p3 =>
              match fn, kw, h3 with
              | .Name x p4, [], h3 =>
                simp only [Bool.and_eq_true, decide_eq_true_eq, Bool.or_eq_true] at h3
                obtain ⟨⟨⟨⟨q1, q2⟩, q3⟩, q4⟩, q5⟩ := h3
                subst q1
                have hs := sndEs es X Wx F tk xs q5
                obtain ⟨g1, g2⟩ := chkEs_plain q5
                match xs, es, q4, g2, hs, g1 with
                | [y], [b], _, _, hs, g1 => 
                  simp only [List.all_cons, List.all_nil, Bool.and_true] at g1
                  exact snd_irange1 F (by simpa using q2) (gl_of q3) g1 hs
                | [y, z], [b, c], _, _, hs, g1 => 
                  simp only [List.all_cons, List.all_nil, Bool.and_true, Bool.and_eq_true] at g1
                  exact snd_irange2 F (by simpa using q2) (gl_of q3) g1.1 g1.2 hs
                | [], _, q4, _, _, _ => exact absurd q4 (by simp)
                | _ :: _ :: _ :: _, _, q4, _, _, _ => exact absurd q4 (by simp)
                | [_], [], _, g2, _, _ => cases g2
                | [_], _ :: _ :: _, _, g2, _, _ => cases g2
                | [_, _], [], _, g2, _, _ => cases g2
                | [_, _], [_], _, g2, _, _ => cases g2
                | [_, _], _ :: _ :: _ :: _, _, g2, _, _ => cases g2
              | .Name x p4, _ :: _, h3 => simp only at h3; cases h3
              | .BoolOp .., _, h => simp only at h; cases h
              | .NamedExpr .., _, h => simp only at h; cases h
              | .BinOp .., _, h => simp only at h; cases h
              | .UnaryOp .., _, h => simp only at h; cases h
              | .Lambda .., _, h => simp only at h; cases h
              | .IfExp .., _, h => simp only at h; cases h
              | .Dict .., _, h => simp only at h; cases h
              | .Set .., _, h => simp only at h; cases h
              | .ListComp .., _, h => simp only at h; cases h
              | .SetComp .., _, h => simp only at h; cases h
              | .DictComp .., _, h => simp only at h; cases h
              | .GeneratorExp .., _, h => simp only at h; cases h
              | .Await .., _, h => simp only at h; cases h
              | .Yield .., _, h => simp only at h; cases h
              | .YieldFrom .., _, h => simp only at h; cases h
              | .Compare .., _, h => simp only at h; cases h
              | .Call .., _, h => simp only at h; cases h
              | .FormattedValue .., _, h => simp only at h; cases h
              | .JoinedStr .., _, h => simp only at h; cases h
              | .Constant .., _, h => simp only at h; cases h
              | .Attribute .., _, h => simp only at h; cases h
              | .Subscript .., _, h => simp only at h; cases h
              | .Starred .., _, h => simp only at h; cases h
              | .List .., _, h => simp only at h; cases h
              | .Tuple .., _, h => simp only at h; cases h
              | .Slice .., _, h => simp only at h; cases h
            | _ => simp only at h3; cases h3
        have hsl : ∀ i ∈ slTg tg, i ∈ (ownN X.N own).map (·.2) := fun i hi => by
          rw [ownN_snd]
          have := List.all_eq_true.mp h6 i hi
          simpa using this
        have key := snd_lc (own := ownN X.N own) (tgw := tg) (cs := cs) (e := e) (elt := elt) (ifs := ifs) (pos := p) F hi (blkOk_by h4)
          (fun s H C cl fp => sndTg (X := X.blk s H scope (compEnvC scope cl C X.env) fp) rfl F.calm F.nd (tgok_blk (X := X)) tg tg' h5)
          (fun s H C cl fp => sndCs cs (X.blk s H scope (compEnvC scope cl C X.env) fp) W0 F.blk takes0 ifs h7)
          (fun s H C cl fp => sndE e (X.blk s H scope (compEnvC scope cl C X.env) fp) W0 F.blk takes0 elt h8) (fold_ok h2) hsl
        rw [ownN_snd] at key
        exact key
      | [], h => simp only [chkE] at h; cases h
      | _ :: _ :: _, h => simp only [chkE] at h; cases h
    | _ => simp only [chkE] at h; cases h
  | .val a, X, Wx, F, tk, ae, h => by
    cases ae <;> (simp only [chkE] at h; cases h)
theorem sndEs : ∀ (es : List E) (X : Cx) (Wx : WX), Fx D L k X → Takes X Wx → ∀ xs : List Expr, chkEs D X.N es X.env.scope xs = true → PA X xs (REs D L k X Wx es)
  | [], X, Wx, F, tk, xs, h => by
    cases xs with
    | nil => exact snd_nil
    | cons x xs => simp only [chkEs] at h; cases h
  | a :: es, X, Wx, F, tk, xs, h => by
    cases xs with
    | nil => simp only [chkEs] at h; cases h
    | cons x xs =>
      simp only [chkEs, Bool.and_eq_true] at h
      exact snd_cons h.1.1 (sndE a X Wx F tk x h.1.2) (sndEs es X Wx F tk xs h.2)
theorem sndAV : ∀ (es : List E) (X : Cx) (Wx : WX), Fx D L k X → Takes X Wx → ∀ (xs : List Expr) (p : Pos), chkEs D X.N es X.env.scope xs = true → xs.isEmpty = false → PE X (.BoolOp .And xs p) (RAndV D L k X Wx es)
  | [], X, Wx, F, tk, xs, p, h, hn => by
    cases xs with
    | nil => cases hn
    | cons x xs => simp only [chkEs] at h; cases h
  | a :: es, X, Wx, F, tk, xs, p, h, hn => by
    cases xs with
    | nil => cases hn
    | cons x xs =>
      simp only [chkEs, Bool.and_eq_true] at h
      have ha := sndE a X Wx F tk x h.1.2
      cases xs with
      | nil =>
        cases es with
        | nil => exact snd_andv1 ha
        | cons _ _ => have h := h.2; simp only [chkEs] at h; cases h
      | cons y ys =>
        have hr := sndAV es X Wx F tk (y :: ys) p h.2 rfl
        cases es with
        | nil => have h := h.2; simp only [chkEs] at h; cases h
        | cons b bs => exact snd_andv2 ha hr
theorem sndOV : ∀ (es : List E) (X : Cx) (Wx : WX), Fx D L k X → Takes X Wx → ∀ (xs : List Expr) (p : Pos), chkEs D X.N es X.env.scope xs = true → xs.isEmpty = false → PE X (.BoolOp .Or xs p) (ROrV D L k X Wx es)
  | [], X, Wx, F, tk, xs, p, h, hn => by
    cases xs with
    | nil => cases hn
    | cons x xs => simp only [chkEs] at h; cases h
  | a :: es, X, Wx, F, tk, xs, p, h, hn => by
    cases xs with
    | nil => cases hn
    | cons x xs =>
      simp only [chkEs, Bool.and_eq_true] at h
      have ha := sndE a X Wx F tk x h.1.2
      cases xs with
      | nil =>
        cases es with
        | nil => exact snd_orv1 ha
        | cons _ _ => have h := h.2; simp only [chkEs] at h; cases h
      | cons y ys =>
        have hr := sndOV es X Wx F tk (y :: ys) p h.2 rfl
        cases es with
        | nil => have h := h.2; simp only [chkEs] at h; cases h
        | cons b bs => exact snd_orv2 ha hr
theorem sndD : ∀ (es : List E) (X : Cx) (Wx : WX), Fx D L k X → Takes X Wx → ∀ (ks : List (Option Expr)) (vs : List Expr) (p : Pos), chkD D X.N es X.env.scope ks vs = true → PPs X p ks vs (prs D L k X Wx es) ∧ ks.all (·.isSome) = true ∧ es.length = 2 * ks.length
  | [], X, Wx, F, tk, ks, vs, p, h => by
    cases ks with
    | nil =>
      cases vs with
      | nil => exact ⟨pps_nil, rfl, rfl⟩
      | cons _ _ => simp only [chkD] at h; cases h
    | cons _ _ => simp only [chkD] at h; cases h
  | a :: es, X, Wx, F, tk, ks, vs, p, h => by
    cases ks with
    | nil => simp only [chkD] at h; cases h
    | cons q ks =>
      cases q with
      | none => simp only [chkD] at h; cases h
      | some x =>
        cases vs with
        | nil => simp only [chkD] at h; cases h
        | cons y vs =>
          cases es with
          | nil => simp only [chkD] at h; cases h
          | cons b es =>
            simp only [chkD, Bool.and_eq_true] at h
            obtain ⟨g1, g2, g3⟩ := sndD es X Wx F tk ks vs p h.2
            refine ⟨pps_cons (sndE a X Wx F tk x h.1.1) (sndE b X Wx F tk y h.1.2) g1, ?_, ?_⟩
            · rw [List.all_cons, g2]; rfl
            · simp only [List.length_cons]; omega
theorem sndO : ∀ (o : Option E) (X : Cx) (Wx : WX), Fx D L k X → Takes X Wx → ∀ x : Option Expr, chkO D X.N o X.env.scope x = true → PO X x (RO D L k X Wx o)
  | none, X, Wx, F, tk, x, h => by
    cases x with
    | none => exact snd_onone
    | some _ => simp only [chkO] at h; cases h
  | some a, X, Wx, F, tk, x, h => by
    cases x with
    | none => simp only [chkO] at h; cases h
    | some y =>
      simp only [chkO] at h
      exact snd_osome (sndE a X Wx F tk y h)
theorem sndT : ∀ (e : E) (X : Cx) (Wx : WX), Fx D L k X → Takes X Wx → ∀ ae : Expr, chkT D X.N e X.env.scope ae = true → PT X ae (RT D L k X Wx e)
  | .and es, X, Wx, F, tk, ae, h => by
    cases ae with
    | BoolOp o xs p =>
      simp only [chkT, Bool.and_eq_true, decide_eq_true_eq] at h
      obtain ⟨⟨h1, h2⟩, h3⟩ := h
      subst h1
      exact snd_andT (sndAnd es X Wx F tk xs p h3 (nb h2))
    | _ => simp only [chkT] at h; cases h
  | .or es, X, Wx, F, tk, ae, h => by
    cases ae with
    | BoolOp o xs p =>
      simp only [chkT, Bool.and_eq_true, decide_eq_true_eq] at h
      obtain ⟨⟨h1, h2⟩, h3⟩ := h
      subst h1
      exact snd_orT (sndOr es X Wx F tk xs p h3 (nb h2))
    | _ => simp only [chkT] at h; cases h
  | .not a, X, Wx, F, tk, ae, h => by
    cases ae with
    | UnaryOp o x p =>
      simp only [chkT, Bool.and_eq_true, decide_eq_true_eq] at h
      obtain ⟨h1, h2⟩ := h
      subst h1
      exact snd_nott (sndT a X Wx F tk x h2)
    | _ => simp only [chkT] at h; cases h
  | .val (.cmp op a b), X, Wx, F, tk, ae, h => by
    cases ae with
    | Compare x os ys p =>
      match os, ys, h with
      | [o], [y], h =>
        simp only [chkT, Bool.and_eq_true, decide_eq_true_eq] at h
        obtain ⟨⟨⟨h1, h2⟩, h3⟩, h4⟩ := h
        subst h1
        exact snd_tcmp F h2 (sndE a X Wx F tk x h3) (sndE b X Wx F tk y h4)
      | [], _, h => simp [chkT, testB] at h
      | [_], [], h => simp [chkT, testB] at h
      | [_], _ :: _ :: _, h => simp [chkT, testB] at h
      | _ :: _ :: _, _, h => simp [chkT, testB] at h
    | _ => simp [chkT, chkE, testB] at h
  | .val (.chn p q a b c), X, Wx, F, tk, ae, h => by
    cases ae with
    | Compare x os ys ps =>
      match os, ys, h with
      | [o1, o2], [y, z], h =>
        simp only [chkT, Bool.and_eq_true, decide_eq_true_eq] at h
        obtain ⟨⟨⟨⟨⟨h1, h2⟩, h3⟩, h4⟩, h5⟩, h6⟩ := h
        subst h1 h2
        exact snd_tchn F h3 (sndE a X Wx F tk x h4) (sndE b X Wx F tk y h5) (sndE c X Wx F tk z h6)
      | [], _, h => simp [chkT, testB] at h
      | [_], _, h => simp [chkT, testB] at h
      | _ :: _ :: _ :: _, _, h => simp [chkT, testB] at h
      | [_, _], [], h => simp [chkT, testB] at h
      | [_, _], [_], h => simp [chkT, testB] at h
      | [_, _], _ :: _ :: _ :: _, h => simp [chkT, testB] at h
    | _ => simp [chkT, chkE, testB] at h
  | .val (.and es), X, Wx, F, tk, ae, h => by
    simp only [chkT, Bool.and_eq_true] at h
    exact snd_val h.1 (sndE (.and es) X Wx F tk ae h.2)
  | .val (.or es), X, Wx, F, tk, ae, h => by
    simp only [chkT, Bool.and_eq_true] at h
    exact snd_val h.1 (sndE (.or es) X Wx F tk ae h.2)
  | .val (.not a), X, Wx, F, tk, ae, h => by
    simp only [chkT, Bool.and_eq_true] at h
    exact snd_val h.1 (sndE (.not a) X Wx F tk ae h.2)
  | .val (.val a), X, Wx, F, tk, ae, h => by
    simp only [chkT, Bool.and_eq_true] at h
    exact snd_val h.1 (sndE (.val a) X Wx F tk ae h.2)
  | .val (.var i), X, Wx, F, tk, ae, h => by
    simp only [chkT, Bool.and_eq_true] at h
    exact snd_val h.1 (sndE (.var i) X Wx F tk ae h.2)
  | .val (.lit w), X, Wx, F, tk, ae, h => by
    simp only [chkT, Bool.and_eq_true] at h
    exact snd_val h.1 (sndE (.lit w) X Wx F tk ae h.2)
  | .val (.bin op a b), X, Wx, F, tk, ae, h => by
    simp only [chkT, Bool.and_eq_true] at h
    exact snd_val h.1 (sndE (.bin op a b) X Wx F tk ae h.2)
  | .val (.neg a), X, Wx, F, tk, ae, h => by
    simp only [chkT, Bool.and_eq_true] at h
    exact snd_val h.1 (sndE (.neg a) X Wx F tk ae h.2)
  | .val (.ite t a b), X, Wx, F, tk, ae, h => by
    simp only [chkT, Bool.and_eq_true] at h
    exact snd_val h.1 (sndE (.ite t a b) X Wx F tk ae h.2)
  | .val (.tup es), X, Wx, F, tk, ae, h => by
    simp only [chkT, Bool.and_eq_true] at h
    exact snd_val h.1 (sndE (.tup es) X Wx F tk ae h.2)
  | .val (.lst es), X, Wx, F, tk, ae, h => by
    simp only [chkT, Bool.and_eq_true] at h
    exact snd_val h.1 (sndE (.lst es) X Wx F tk ae h.2)
  | .val (.dct es), X, Wx, F, tk, ae, h => by
    simp only [chkT, Bool.and_eq_true] at h
    exact snd_val h.1 (sndE (.dct es) X Wx F tk ae h.2)
  | .val (.ix a i), X, Wx, F, tk, ae, h => by
    simp only [chkT, Bool.and_eq_true] at h
    exact snd_val h.1 (sndE (.ix a i) X Wx F tk ae h.2)
  | .val (.slc a lo hi), X, Wx, F, tk, ae, h => by
    simp only [chkT, Bool.and_eq_true] at h
    exact snd_val h.1 (sndE (.slc a lo hi) X Wx F tk ae h.2)
  | .val (.att a f), X, Wx, F, tk, ae, h => by
    simp only [chkT, Bool.and_eq_true] at h
    exact snd_val h.1 (sndE (.att a f) X Wx F tk ae h.2)
  | .val (.call f es), X, Wx, F, tk, ae, h => by
    simp only [chkT, Bool.and_eq_true] at h
    exact snd_val h.1 (sndE (.call f es) X Wx F tk ae h.2)
  | .val (.new c es), X, Wx, F, tk, ae, h => by
    simp only [chkT, Bool.and_eq_true] at h
    exact snd_val h.1 (sndE (.new c es) X Wx F tk ae h.2)
  | .val (.mth m o es), X, Wx, F, tk, ae, h => by
    simp only [chkT, Bool.and_eq_true] at h
    exact snd_val h.1 (sndE (.mth m o es) X Wx F tk ae h.2)
  | .val (.blt b es), X, Wx, F, tk, ae, h => by
    simp only [chkT, Bool.and_eq_true] at h
    exact snd_val h.1 (sndE (.blt b es) X Wx F tk ae h.2)
  | .val (.bmt m o es), X, Wx, F, tk, ae, h => by
    simp only [chkT, Bool.and_eq_true] at h
    exact snd_val h.1 (sndE (.bmt m o es) X Wx F tk ae h.2)
  | .val (.isi a ts), X, Wx, F, tk, ae, h => by
    simp only [chkT, Bool.and_eq_true] at h
    exact snd_val h.1 (sndE (.isi a ts) X Wx F tk ae h.2)
  | .val (.lc kd es tg own cs e), X, Wx, F, tk, ae, h => by
    simp only [chkT, Bool.and_eq_true] at h
    exact snd_val h.1 (sndE (.lc kd es tg own cs e) X Wx F tk ae h.2)
  | .var _, X, Wx, F, tk, ae, h => by simp only [chkT] at h; cases h
  | .lit _, X, Wx, F, tk, ae, h => by simp only [chkT] at h; cases h
  | .bin _ _ _, X, Wx, F, tk, ae, h => by simp only [chkT] at h; cases h
  | .neg _, X, Wx, F, tk, ae, h => by simp only [chkT] at h; cases h
  | .cmp _ _ _, X, Wx, F, tk, ae, h => by simp only [chkT] at h; cases h
  | .chn _ _ _ _ _, X, Wx, F, tk, ae, h => by simp only [chkT] at h; cases h
  | .ite _ _ _, X, Wx, F, tk, ae, h => by simp only [chkT] at h; cases h
  | .tup _, X, Wx, F, tk, ae, h => by simp only [chkT] at h; cases h
  | .lst _, X, Wx, F, tk, ae, h => by simp only [chkT] at h; cases h
  | .dct _, X, Wx, F, tk, ae, h => by simp only [chkT] at h; cases h
  | .ix _ _, X, Wx, F, tk, ae, h => by simp only [chkT] at h; cases h
  | .slc _ _ _, X, Wx, F, tk, ae, h => by simp only [chkT] at h; cases h
  | .att _ _, X, Wx, F, tk, ae, h => by simp only [chkT] at h; cases h
  | .call _ _, X, Wx, F, tk, ae, h => by simp only [chkT] at h; cases h
  | .new _ _, X, Wx, F, tk, ae, h => by simp only [chkT] at h; cases h
  | .mth _ _ _, X, Wx, F, tk, ae, h => by simp only [chkT] at h; cases h
  | .blt _ _, X, Wx, F, tk, ae, h => by simp only [chkT] at h; cases h
  | .bmt _ _ _, X, Wx, F, tk, ae, h => by simp only [chkT] at h; cases h
  | .isi _ _, X, Wx, F, tk, ae, h => by simp only [chkT] at h; cases h
  | .lc _ _ _ _ _ _, X, Wx, F, tk, ae, h => by simp only [chkT] at h; cases h
theorem sndAnd : ∀ (es : List E) (X : Cx) (Wx : WX), Fx D L k X → Takes X Wx → ∀ (xs : List Expr) (p : Pos), chkTs D X.N es X.env.scope xs = true → xs.isEmpty = false → PW X (.BoolOp .And xs p) (RAnd D L k X Wx es)
  | [], X, Wx, F, tk, xs, p, h, hn => by
    cases xs with
    | nil => cases hn
    | cons x xs => simp only [chkTs] at h; cases h
  | a :: es, X, Wx, F, tk, xs, p, h, hn => by
    cases xs with
    | nil => cases hn
    | cons x xs =>
      simp only [chkTs, Bool.and_eq_true] at h
      have ha := sndT a X Wx F tk x h.1
      cases xs with
      | nil =>
        cases es with
        | nil => exact snd_and1 ha
        | cons _ _ => have h := h.2; simp only [chkTs] at h; cases h
      | cons y ys =>
        have hr := sndAnd es X Wx F tk (y :: ys) p h.2 rfl
        cases es with
        | nil => have h := h.2; simp only [chkTs] at h; cases h
        | cons b bs => exact snd_and2 ha hr
theorem sndOr : ∀ (es : List E) (X : Cx) (Wx : WX), Fx D L k X → Takes X Wx → ∀ (xs : List Expr) (p : Pos), chkTs D X.N es X.env.scope xs = true → xs.isEmpty = false → PW X (.BoolOp .Or xs p) (ROr D L k X Wx es)
  | [], X, Wx, F, tk, xs, p, h, hn => by
    cases xs with
    | nil => cases hn
    | cons x xs => simp only [chkTs] at h; cases h
  | a :: es, X, Wx, F, tk, xs, p, h, hn => by
    cases xs with
    | nil => cases hn
    | cons x xs =>
      simp only [chkTs, Bool.and_eq_true] at h
      have ha := sndT a X Wx F tk x h.1
      cases xs with
      | nil =>
        cases es with
        | nil => exact snd_or1 ha
        | cons _ _ => have h := h.2; simp only [chkTs] at h; cases h
      | cons y ys =>
        have hr := sndOr es X Wx F tk (y :: ys) p h.2 rfl
        cases es with
        | nil => have h := h.2; simp only [chkTs] at h; cases h
        | cons b bs => exact snd_or2 ha hr
theorem sndCs : ∀ (es : List E) (X : Cx) (Wx : WX), Fx D L k X → Takes X Wx → ∀ xs : List Expr, chkCs D X.N es X.env.scope xs = true → PTs X xs (rdG (rdOf D L X.K) Wx rEq (evCs D.T (evFn D.T k) es))
  | [], X, Wx, F, tk, xs, h => by
    cases xs with
    | nil => exact snd_cs0
    | cons x xs => simp only [chkCs] at h; cases h
  | a :: es, X, Wx, F, tk, xs, h => by
    cases xs with
    | nil => simp only [chkCs] at h; cases h
    | cons x xs =>
      simp only [chkCs, Bool.and_eq_true, List.isEmpty_iff] at h
      obtain ⟨⟨h1, h2⟩, h3⟩ := h
      subst h1 h2
      exact snd_cs1 (sndT a X Wx F tk x h3)
end
end
end Pc
set_option Elab.async false
set_option linter.all false
set_option maxRecDepth 100000
set_option maxHeartbeats 4000000
namespace Pc
open PySem PySem.Spec PyProof.Rows L2

section
variable {D : Dat} {L : Pl} {k : Nat} {X : Cx} {Wx : WX}
/-- a walked thing -/
def chkI (D : Dat) (N : List Str) (kd : ItK) (es : List E) (sc : Scope) (iter : Expr) : Bool := match kd with
  | .seq => decide (es.length = 1) && chkEs D N es sc [iter]
  | .range => match iter with
    | .Call (.Name x _) xs [] _ => decide (x = ("range" : Str)) && D.free.contains x && glB sc x && (decide (xs.length = 1) || decide (xs.length = 2)) && chkEs D N es sc xs
    | _ => false
theorem sndI (kd : ItK) (es : List E) (tg' iter : Expr) (F : Fx D L k X) (tk : Takes X Wx) (h3 : chkI D X.N kd es X.env.scope iter = true) : PI X tg' iter (RI D L k X Wx kd es) := by
  unfold chkI at h3
  cases kd with
  | seq =>
    simp only [Bool.and_eq_true, decide_eq_true_eq] at h3
    match es, h3 with
    | [a], h3 =>
      have h3 := h3.2
      simp only [chkEs, Bool.and_eq_true] at h3
      exact snd_iseq (sndE a X Wx F tk iter h3.1.2)
    | [], h3 => cases h3.1
    | _ :: _ :: _, h3 => cases h3.1
  | range =>
    cases iter with
    | Call fn xs kw p3 =>
      match fn, kw, h3 with
      | .Name x p4, [], h3 =>
        simp only [Bool.and_eq_true, decide_eq_true_eq, Bool.or_eq_true] at h3
        obtain ⟨⟨⟨⟨q1, q2⟩, q3⟩, q4⟩, q5⟩ := h3
        subst q1
        have hs := sndEs es X Wx F tk xs q5
        obtain ⟨g1, g2⟩ := chkEs_plain q5
        match xs, es, q4, g2, hs, g1 with
        | [y], [b], _, _, hs, g1 => 
          simp only [List.all_cons, List.all_nil, Bool.and_true] at g1
          exact snd_irange1 F (by simpa using q2) (gl_of q3) g1 hs
        | [y, z], [b, c], _, _, hs, g1 => 
          simp only [List.all_cons, List.all_nil, Bool.and_true, Bool.and_eq_true] at g1
          exact snd_irange2 F (by simpa using q2) (gl_of q3) g1.1 g1.2 hs
        | [], _, q4, _, _, _ => exact absurd q4 (by simp)
        | _ :: _ :: _ :: _, _, q4, _, _, _ => exact absurd q4 (by simp)
        | [_], [], _, g2, _, _ => cases g2
        | [_], _ :: _ :: _, _, g2, _, _ => cases g2
        | [_, _], [], _, g2, _, _ => cases g2
        | [_, _], [_], _, g2, _, _ => cases g2
        | [_, _], _ :: _ :: _ :: _, _, g2, _, _ => cases g2
      | .Name x p4, _ :: _, h3 => simp only at h3; cases h3
      | .BoolOp .., _, h => simp only at h; cases h
      | .NamedExpr .., _, h => simp only at h; cases h
      | .BinOp .., _, h => simp only at h; cases h
      | .UnaryOp .., _, h => simp only at h; cases h
      | .Lambda .., _, h => simp only at h; cases h
      | .IfExp .., _, h => simp only at h; cases h
      | .Dict .., _, h => simp only at h; cases h
      | .Set .., _, h => simp only at h; cases h
      | .ListComp .., _, h => simp only at h; cases h
      | .SetComp .., _, h => simp only at h; cases h
      | .DictComp .., _, h => simp only at h; cases h
      | .GeneratorExp .., _, h => simp only at h; cases h
      | .Await .., _, h => simp only at h; cases h
      | .Yield .., _, h => simp only at h; cases h
      | .YieldFrom .., _, h => simp only at h; cases h
      | .Compare .., _, h => simp only at h; cases h
      | .Call .., _, h => simp only at h; cases h
      | .FormattedValue .., _, h => simp only at h; cases h
      | .JoinedStr .., _, h => simp only at h; cases h
      | .Constant .., _, h => simp only at h; cases h
      | .Attribute .., _, h => simp only at h; cases h
      | .Subscript .., _, h => simp only at h; cases h
      | .Starred .., _, h => simp only at h; cases h
      | .List .., _, h => simp only at h; cases h
      | .Tuple .., _, h => simp only at h; cases h
      | .Slice .., _, h => simp only at h; cases h
    | _ => simp only at h3; cases h3

/-- the parts of a comprehension -/
theorem lc_parts {kd : ItK} {es : List E} {tg : Tg} {own : List Nat} {cs : List E} {e : E} {elt tg' iter : Expr} {ifs : List Expr} {as : Int} {scope : Scope} {p : Pos} (F : Fx D L k X) (tk : Takes X Wx)
    (h : chkE D X.N (.lc kd es tg own cs e) X.env.scope (.ListComp elt [⟨tg', iter, ifs, as⟩] scope p) = true) : as = 0 ∧ PI X tg' iter (RI D L k X Wx kd es) ∧ BlkOk X.N X.env.scope scope (ownN X.N own) ∧
    (∀ (s : Shared) (H : Hp) (C : Addr) (cl : List (Str × Addr)) (fp : List Addr), PG (X.blk s H scope (compEnvC scope cl C X.env) fp) tg' (rdTg (rdOf D L X.K) tg)) ∧
    (∀ (s : Shared) (H : Hp) (C : Addr) (cl : List (Str × Addr)) (fp : List Addr), PTs (X.blk s H scope (compEnvC scope cl C X.env) fp) ifs (rdG (rdOf D L X.K) W0 rEq (evCs D.T (evFn D.T k) cs))) ∧
    (∀ (s : Shared) (H : Hp) (C : Addr) (cl : List (Str × Addr)) (fp : List Addr), PE (X.blk s H scope (compEnvC scope cl C X.env) fp) elt (rdG (rdOf D L X.K) W0 (rV (rdOf D L X.K)) (evE D.T (evFn D.T k) e))) ∧
    (∀ x, foldedSetIterable iter X.env x = pure x) ∧ ∀ i ∈ slTg tg, i ∈ (ownN X.N own).map (·.2) := by
  simp only [chkE, Bool.and_eq_true, decide_eq_true_eq] at h
  obtain ⟨⟨⟨⟨⟨⟨⟨h1, h2⟩, h3⟩, h4⟩, h5⟩, h6⟩, h7⟩, h8⟩ := h
  refine ⟨h1, sndI kd es tg' iter F tk h3, blkOk_by h4, fun s H C cl fp => ?_, fun s H C cl fp => ?_, fun s H C cl fp => ?_, fold_ok h2, fun i hi => ?_⟩
  · exact sndTg (X := X.blk s H scope (compEnvC scope cl C X.env) fp) rfl F.calm F.nd (tgok_blk (X := X)) tg tg' h5
  · exact sndCs cs (X.blk s H scope (compEnvC scope cl C X.env) fp) W0 F.blk takes0 ifs h7
  · exact sndE e (X.blk s H scope (compEnvC scope cl C X.env) fp) W0 F.blk takes0 elt h8
  · rw [ownN_snd]
    have := List.all_eq_true.mp h6 i hi
    simpa using this
def notT : Expr → Bool
  | .Tuple .. => false
  | _ => true
theorem nosw {t e : Expr} {env : Env} (h : notT e = true) : swappedStores [t] e env = pure none := by
  cases e <;> first | (cases h; done) | (cases t <;> rfl)
end
section
variable (D : Dat) (N : List Str) (sc : Scope)
mutual
def chkS : S → Stmt → Bool
  | .set i e, .Assign [.Name x p'] ae _ => decide (N[i]? = some x) && locB sc x && chkE D N e sc ae && (match ae with
    | .ListComp _ _ scope lp => celB sc x || (lclB sc x && (p'.line == lp.line) && !(scope.names.any fun (n, k) => n == x && (k == .local || k == .cell)))
    | ae => notC ae)
  | .seta o f e, .Assign [.Attribute x nm _] ae _ => decide (D.an[f]? = some nm) && notC ae && chkE D N o sc x && chkE D N e sc ae
  | .seti o i e, .Assign [.Subscript x y _] ae _ => notC ae && plainB y && chkE D N o sc x && chkE D N i sc y && chkE D N e sc ae
  | .sett tg e, .Assign [t] ae _ => chkTg N (locB sc) tg t && notC ae && notT ae && chkE D N e sc ae
  | .expr e, .Expr ae _ => notC ae && chkE D N e sc ae
  | .ret e, .Return (some ae) _ => chkE D N e sc ae
  | .retn, .Return none _ => true
  | .ifs t a b, .If et ta tb _ => chkT D N t sc et && chkSs a ta && chkSs b tb
  | .fors kd es tg body, .For tg' iter tb [] _ => plainB iter && chkI D N kd es sc iter && chkTg N (locB sc) tg tg' && chkSs body tb
  | .whil t body, .While et tb [] _ => chkT D N t sc et && chkSs body tb
  | .pass, .Pass _ => true
  | .brk, .Break _ => true
  | .cont, .Continue _ => true
  | _, _ => false
def chkSs : List S → List Stmt → Bool
  | [], [] => true
  | s :: ss, t :: ts => chkS s t && chkSs ss ts
  | _, _ => false
end
end
section
variable {D : Dat} {L : Pl} {k : Nat}
/-- where statements run -/
structure Bx (X : Cx) : Prop where
  po : PassesOwn (model X.prog X.w) X.A X.env X.xe
  fn : ∀ x, X.fn x = true
  kd : X.env.scope.kind = .function
theorem Bx.tg {X : Cx} (B : Bx X) : ∀ x, locB X.env.scope x = true → TgOk X x := fun x h => ⟨loc_of h, .inl (B.fn x)⟩
theorem set_shape {D : Dat} {N : List Str} {sc : Scope} {i : Nat} {e : E} {t : Stmt} (h : chkS D N sc (.set i e) t = true) : ∃ x p' ae pos, t = .Assign [.Name x p'] ae pos := by
  cases t with
  | Assign ts ae pos =>
    cases ts with
    | nil => unfold chkS at h; cases h
    | cons t1 ts =>
      cases ts with
      | nil => cases t1 <;> first | exact ⟨_, _, _, _, rfl⟩ | (unfold chkS at h; cases h)
      | cons _ _ => cases t1 <;> (unfold chkS at h; cases h)
  | _ => unfold chkS at h; cases h
theorem sndSet {D : Dat} {L : Pl} {k : Nat} (i : Nat) (e : E) (X : Cx) (Wx : WX) (F : Fx D L k X) (tk : Takes X Wx) (B : Bx X) (t : Stmt) (h : chkS D X.N X.env.scope (.set i e) t = true) : PS X t (RS D L k X Wx (.set i e)) := by
  obtain ⟨x, p', ae, pos, rfl⟩ := set_shape h
  simp only [chkS, Bool.and_eq_true, decide_eq_true_eq] at h
  obtain ⟨⟨⟨h1, h2⟩, h3⟩, h4⟩ := h
  by_cases hl : ∃ elt gens scope lp, ae = .ListComp elt gens scope lp
  · obtain ⟨elt, gens, scope, lp, rfl⟩ := hl
    simp only [Bool.or_eq_true, Bool.and_eq_true] at h4
    rcases h4 with h4 | ⟨⟨h4, h5⟩, h6⟩
    · refine snd_setc F h1 (B.tg x h2) ?_ B.kd (sndE e X Wx F tk _ h3)
      unfold celB at h4
      split at h4
      · assumption
      · cases h4
    · cases e with
      | lc kd es tg own cs e =>
        match gens, h3 with
        | [⟨tg', iter, ifs, as⟩], h3 =>
          obtain ⟨g1, g2, g3, g4, g5, g6, g7, g8⟩ := lc_parts F tk h3
          subst g1
          have hloc : X.env.scope.names.lookup x = some .local := by
            unfold lclB at h4
            split at h4
            · assumption
            · cases h4
          have key := snd_setlc (i := i) (y := x) (py := p') (spos := pos) (elt := elt) (pos := lp) F g2 g3 g4 g5 g6 g7 g8 h1 hloc B.kd h5 (nb h6)
          rw [ownN_snd] at key
          exact key
        | [], h3 => simp only [chkE] at h3; cases h3
        | _ :: _ :: _, h3 => simp only [chkE] at h3; cases h3
      | _ => simp only [chkE] at h3; cases h3
  · have hn : notC ae = true := by
      cases ae <;> first | exact h4 | exact absurd ⟨_, _, _, _, rfl⟩ hl
    exact snd_set F hn h1 (B.tg x h2) (sndE e X Wx F tk ae h3)
theorem sndSeta (o : E) (f : Nat) (e : E) (X : Cx) (Wx : WX) (F : Fx D L k X) (tk : Takes X Wx) (B : Bx X) (t : Stmt) (h : chkS D X.N X.env.scope (.seta o f e) t = true) : PS X t (RS D L k X Wx (.seta o f e)) := by
  cases t with
  | Assign ts ae pos =>
    cases ts with
    | nil => simp [chkS] at h
    | cons t1 ts =>
      cases ts with
      | cons _ _ => cases t1 <;> simp [chkS] at h
      | nil =>
        cases t1 with
        | Attribute x nm p' =>
          simp only [chkS, Bool.and_eq_true, decide_eq_true_eq] at h
          obtain ⟨⟨⟨h1, h2⟩, h3⟩, h4⟩ := h
          exact snd_seta F h1 h2 (sndE o X Wx F tk x h3) (sndE e X Wx F tk ae h4)
        | _ => simp [chkS] at h
  | _ => simp [chkS] at h
theorem sndSeti (o i e : E) (X : Cx) (Wx : WX) (F : Fx D L k X) (tk : Takes X Wx) (B : Bx X) (t : Stmt) (h : chkS D X.N X.env.scope (.seti o i e) t = true) : PS X t (RS D L k X Wx (.seti o i e)) := by
  cases t with
  | Assign ts ae pos =>
    cases ts with
    | nil => simp [chkS] at h
    | cons t1 ts =>
      cases ts with
      | cons _ _ => cases t1 <;> simp [chkS] at h
      | nil =>
        cases t1 with
        | Subscript x y p' =>
          simp only [chkS, Bool.and_eq_true, decide_eq_true_eq] at h
          obtain ⟨⟨⟨⟨h1, h2⟩, h3⟩, h4⟩, h5⟩ := h
          exact snd_seti F h1 h2 (sndE o X Wx F tk x h3) (sndE i X Wx F tk y h4) (sndE e X Wx F tk ae h5)
        | _ => simp [chkS] at h
  | _ => simp [chkS] at h
theorem sndSett (tg : Tg) (e : E) (X : Cx) (Wx : WX) (F : Fx D L k X) (tk : Takes X Wx) (B : Bx X) (t : Stmt) (h : chkS D X.N X.env.scope (.sett tg e) t = true) : PS X t (RS D L k X Wx (.sett tg e)) := by
  cases t with
  | Assign ts ae pos =>
    cases ts with
    | nil => simp [chkS] at h
    | cons t1 ts =>
      cases ts with
      | cons _ _ => simp [chkS] at h
      | nil =>
        simp only [chkS, Bool.and_eq_true] at h
        obtain ⟨⟨⟨h1, h2⟩, h3⟩, h4⟩ := h
        exact snd_sett F B.tg h1 h2 (nosw h3) (sndE e X Wx F tk ae h4)
  | _ => simp [chkS] at h
theorem sndExpr (e : E) (X : Cx) (Wx : WX) (F : Fx D L k X) (tk : Takes X Wx) (B : Bx X) (t : Stmt) (h : chkS D X.N X.env.scope (.expr e) t = true) : PS X t (RS D L k X Wx (.expr e)) := by
  cases t with
  | Expr ae pos =>
    simp only [chkS, Bool.and_eq_true] at h
    exact snd_expr h.1 (sndE e X Wx F tk ae h.2)
  | _ => simp [chkS] at h
theorem sndRet (e : E) (X : Cx) (Wx : WX) (F : Fx D L k X) (tk : Takes X Wx) (B : Bx X) (t : Stmt) (h : chkS D X.N X.env.scope (.ret e) t = true) : PS X t (RS D L k X Wx (.ret e)) := by
  cases t with
  | Return o pos =>
    cases o with
    | some ae =>
      simp only [chkS] at h
      exact snd_ret (sndE e X Wx F tk ae h)
    | none => simp [chkS] at h
  | _ => simp [chkS] at h
theorem sndRetn  (X : Cx) (Wx : WX) (F : Fx D L k X) (tk : Takes X Wx) (B : Bx X) (t : Stmt) (h : chkS D X.N X.env.scope (.retn) t = true) : PS X t (RS D L k X Wx (.retn)) := by
  cases t with
  | Return o pos =>
    cases o with
    | some ae => simp [chkS] at h
    | none => exact snd_retn
  | _ => simp [chkS] at h
theorem sndPass  (X : Cx) (Wx : WX) (F : Fx D L k X) (tk : Takes X Wx) (B : Bx X) (t : Stmt) (h : chkS D X.N X.env.scope (.pass) t = true) : PS X t (RS D L k X Wx (.pass)) := by
  cases t with
  | Pass p => exact snd_pass
  | _ => simp [chkS] at h
theorem sndBrk  (X : Cx) (Wx : WX) (F : Fx D L k X) (tk : Takes X Wx) (B : Bx X) (t : Stmt) (h : chkS D X.N X.env.scope (.brk) t = true) : PS X t (RS D L k X Wx (.brk)) := by
  cases t with
  | Break p => exact snd_brk
  | _ => simp [chkS] at h
theorem sndCont  (X : Cx) (Wx : WX) (F : Fx D L k X) (tk : Takes X Wx) (B : Bx X) (t : Stmt) (h : chkS D X.N X.env.scope (.cont) t = true) : PS X t (RS D L k X Wx (.cont)) := by
  cases t with
  | Continue p => exact snd_cont
  | _ => simp [chkS] at h
mutual
theorem sndS : ∀ (s : S) (X : Cx) (Wx : WX), Fx D L k X → Takes X Wx → Bx X → ∀ t : Stmt, chkS D X.N X.env.scope s t = true → PS X t (RS D L k X Wx s)
  | .set i e, X, Wx, F, tk, B, t, h => sndSet i e X Wx F tk B t h
  | .seta o f e, X, Wx, F, tk, B, t, h => sndSeta o f e X Wx F tk B t h
  | .seti o i e, X, Wx, F, tk, B, t, h => sndSeti o i e X Wx F tk B t h
  | .sett tg e, X, Wx, F, tk, B, t, h => sndSett tg e X Wx F tk B t h
  | .expr e, X, Wx, F, tk, B, t, h => sndExpr e X Wx F tk B t h
  | .ret e, X, Wx, F, tk, B, t, h => sndRet e X Wx F tk B t h
  | .retn, X, Wx, F, tk, B, t, h => sndRetn  X Wx F tk B t h
  | .ifs t' a b, X, Wx, F, tk, B, t, h => by
    cases t with
    | If et ta tb pos =>
      simp only [chkS, Bool.and_eq_true] at h
      obtain ⟨⟨h1, h2⟩, h3⟩ := h
      exact snd_if (sndT t' X Wx F tk et h1) (sndSs a X Wx F tk B ta h2) (sndSs b X Wx F tk B tb h3)
    | _ => simp [chkS] at h
  | .fors kd es tg body, X, Wx, F, tk, B, t, h => by
    cases t with
    | For tg' iter tb orelse pos =>
      cases orelse with
      | nil =>
        simp only [chkS, Bool.and_eq_true] at h
        obtain ⟨⟨⟨h1, h2⟩, h3⟩, h4⟩ := h
        exact snd_for F B.po B.tg h3 (sndI kd es tg' iter F tk h2) (fold_ok h1) (sndSs body X Wx F tk B tb h4)
      | cons _ _ => simp [chkS] at h
    | _ => simp [chkS] at h
  | .whil t' body, X, Wx, F, tk, B, t, h => by
    cases t with
    | While et tb orelse pos =>
      cases orelse with
      | nil =>
        simp only [chkS, Bool.and_eq_true] at h
        exact snd_while F B.po (sndT t' X Wx F tk et h.1) (sndSs body X Wx F tk B tb h.2)
      | cons _ _ => simp [chkS] at h
    | _ => simp [chkS] at h
  | .pass, X, Wx, F, tk, B, t, h => sndPass  X Wx F tk B t h
  | .brk, X, Wx, F, tk, B, t, h => sndBrk  X Wx F tk B t h
  | .cont, X, Wx, F, tk, B, t, h => sndCont  X Wx F tk B t h
theorem sndSs : ∀ (ss : List S) (X : Cx) (Wx : WX), Fx D L k X → Takes X Wx → Bx X → ∀ ts : List Stmt, chkSs D X.N X.env.scope ss ts = true → PSs X ts (RSs D L k X Wx ss)
  | [], X, Wx, F, tk, B, ts, h => by
    cases ts with
    | nil => exact snd_snil
    | cons _ _ => simp [chkSs] at h
  | s :: ss, X, Wx, F, tk, B, ts, h => by
    cases ts with
    | nil => simp [chkSs] at h
    | cons t ts =>
      simp only [chkSs, Bool.and_eq_true] at h
      exact snd_scons (sndS s X Wx F tk B t h.1) (sndSs ss X Wx F tk B ts h.2)
end
end
end Pc
set_option Elab.async false
set_option linter.all false
set_option maxRecDepth 100000
set_option maxHeartbeats 4000000
namespace Pc
open PySem PySem.Spec PyProof.Rows L2

/-- a def's text -/
structure Tx where
  name : Str
  qual : Str
  params : Arguments
  body : List Stmt
  scope : Scope
  N : List Str
  ps : List Str
/-- what the text's own shape says of the small program -/
structure Fit (D : Dat) (i : FnI) (t : Tx) : Prop where
  np : i.np = t.ps.length
  nl : i.nl = t.N.length
  sc : FnScope t.N t.ps t.scope
  ck : chkSs D t.N t.scope i.body t.body = true
  bd : ∀ (kV doc pm : Value) (an : Option Addr) (cdv ct : Value) (us : List Value), us.length = t.ps.length → bindArgs (PySem.W.fnOf t.name t.qual t.params t.body t.scope .none kV doc pm an cdv ct) ⟨us, []⟩ = pure (t.ps.zip us)
/-- what the head says -/
structure Hd (D : Dat) (L : Pl) (tx : Nat → Tx) (K : PySem.W.Frag) (mg : Str → Option Value) : Prop where
  fd : ∀ f i, D.T.fns[f]? = some i → FunD K (tx f).name (tx f).qual (tx f).params (tx f).body (tx f).scope [] [] (L.fa f) (L.fd f) ∧ L.ps f = (tx f).ps
  fnm : ∀ (f : Nat) (x : Str), D.fnm[f]? = some (some x) → mg x = some (.ref (L.fa f))
  cls : ∀ (c : Nat) (i : ClI), D.T.cls[c]? = some i → Cls K (L.ca c) ∧ Mk K (L.ca c) (L.fa i.init) ∧ ∃ j, D.T.fns[i.init]? = some j
  mth : ∀ (c : Nat) (i : ClI) (m f : Nat), D.T.cls[c]? = some i → valG i.mths m = some f → (∃ j, D.T.fns[f]? = some j) ∧ ∃ nm, D.an[m]? = some nm ∧ Meth K (L.ca c) nm (L.fa f)
  prp : ∀ (c : Nat) (i : ClI) (m f : Nat), D.T.cls[c]? = some i → valG i.prps m = some f → (∃ j, D.T.fns[f]? = some j) ∧ ∃ nm p, D.an[m]? = some nm ∧ PropOf K (L.ca c) nm p (L.fa f)
  att : ∀ (c : Nat) (i : ClI) (m : Nat) (nm : Str), D.T.cls[c]? = some i → valG i.prps m = none → valG i.mths m = none → D.an[m]? = some nm → NoAttr K (L.ca c) nm
  cnm : ∀ (c : Nat) (x : Str), D.cnm[c]? = some x → mg x = some (.ref (L.ca c))
  free : ∀ x ∈ D.free, mg x = none
  add : ∀ (c : Nat) (i : ClI) (f : Nat), D.T.cls[c]? = some i → i.add = some f → (∃ j, D.T.fns[f]? = some j) ∧ PySem.W.selfFirst K (L.ca c) = true ∧ PySem.W.findIn K (.ref (L.ca c)) "__add__" = some (some (.ref (L.fa f))) ∧ PySem.W.isFn K (.ref (L.fa f)) = true

theorem envR_start {R : Rd} {H : Hp} {ρ : List Addr} {ws : List W} {vs : List V} {N : List Str} {np nl : Nat} (r : Reps R H ρ ws vs) (h1 : ws.length = np) (h2 : nl = N.length) :
    EnvR R H ρ (ws.map some ++ List.replicate (nl - np) none) (L2.start N vs) := by
  have hl := r.length
  refine ⟨?_, fun i w e => ?_⟩
  · unfold L2.start
    simp [hl, h2, ← h1]
  · unfold L2.start
    by_cases hi : i < ws.length
    · rw [List.getElem?_append_left (by simpa using hi), List.getElem?_map] at e
      have e2 : ws[i]? = some w := by
        cases q : ws[i]? with
        | none => rw [q] at e; cases e
        | some x => rw [q] at e; cases e; rfl
      obtain ⟨v, hv, rv⟩ := r.get e2
      refine ⟨v, ?_, rv⟩
      rw [List.getElem?_append_left (by simpa [← hl] using hi), List.getElem?_map, hv]
      rfl
    · rw [List.getElem?_append_right (by simpa using hi), List.getElem?_replicate] at e
      split at e <;> cases e

section
variable {D : Dat} {L : Pl} {tx : Nat → Tx} {P : Program} {w : World} {K : PySem.W.Frag} {mg : Str → Option Value} {base : Heap}
theorem fnOk (hd : Hd D L tx K mg) (ft : ∀ f i, D.T.fns[f]? = some i → Fit D i (tx f)) : ∀ (k f : Nat) (i : FnI), D.T.fns[f]? = some i →
    FnOk P w K mg base (L2.CX P w) (2 * k) (L.fa f) (L.fd f) (L.ps f) (spW (rdOf D L K) D.T k f)
  | 0, f, i, _ => by
    have no : ∀ vs H Q E, spW (rdOf D L K) D.T 0 f vs H Q E → False := fun vs H Q E ⟨ws, h, ρ, A, r, p⟩ => p
    exact ⟨fun vs H Q E z => (no vs H Q E z).elim, fun A outer s H args us vs Q E _ _ _ _ z => (no vs H Q E z).elim⟩
  | k + 1, f, i, hf => by
    obtain ⟨FD, hps⟩ := hd.fd f i hf
    obtain ⟨np, nl, sc, ck, bd⟩ := ft f i hf
    rw [hps]
    have hun : ∀ (ws : List W) (h : Hs), evFn D.T (k + 1) f ws h = if ws.length = i.np then (evSs D.T (evFn D.T k) i.body (ws.map some ++ List.replicate (i.nl - i.np) none) h).quiet.bind fun fl h1 => (match fl with
        | .rt w => .ok w h1
        | .nx _ => .ok .non h1
        | .xc c fs _ => .exc c fs h1
        | _ => .bad) else .bad := fun ws h => by
      show (match D.T.fns[f]? with
        | none => _
        | some i => _) = _
      rw [hf] <;> rfl
    refine FunD.ok (k := 2 * k + 1) FD sc (fun vs H Q E ⟨ws, h, ρ, A, r, p⟩ => ?_) fun cdv A outer s H vs Q E hr ⟨ws, h, ρ, A0, r, p⟩ => ?_
    · rw [hun] at p
      by_cases hl : ws.length = i.np
      · rw [← r.length, hl, np]
      · rw [if_neg hl] at p
        exact False.elim p
    · rw [hun] at p
      by_cases hl : ws.length = i.np
      · rw [if_pos hl] at p
        let X := cxOf (L2.CX P w) P w K mg base (tx f).N (tx f).qual (tx f).scope (L.fa f) cdv A outer s H E
        have FX : Fx D L k X := ⟨rfl, sc.nd, hr, fun g j hg => ⟨fnOk hd ft k g j hg, by
            obtain ⟨FG, hpg⟩ := hd.fd g j hg
            show Binds K (L.fd g) (L.ps g) []
            rw [hpg]
            exact FG.bindsN (ft g j hg).bd, (hd.fd g j hg).1.kp⟩, hd.fnm, hd.cls, hd.mth, hd.prp, hd.att, hd.cnm, hd.free, hd.add⟩
        refine ⟨RSs D L k X (fun cls d _ H => E cls d H) i.body, sndSs i.body X _ FX (takes_of rfl rfl rfl rfl) ⟨passes_of rfl, fun _ => rfl, sc.kind⟩ (tx f).body ck, _, h, ρ, A0, envR_start r hl nl, ?_⟩
        cases e1 : evSs D.T (evFn D.T k) i.body (ws.map some ++ List.replicate (i.nl - i.np) none) h with
        | bad => rw [e1] at p; exact False.elim p
        | exc c fs h' =>
          rw [e1] at p
          exact False.elim p
        | ok fl h1 =>
          rw [e1, quiet_ok, bind_ok] at p
          cases fl with
          | nx env1 => exact fun σ' H' ρ' l A' en => p .non H' ρ' l A' rfl
          | rt u => exact p
          | xc c fs env1 => exact fun cls d σ' H' ρ' l A' en x => p cls d H' ρ' l A' x
          | bk env1 => exact False.elim p
          | ct env1 => exact False.elim p
      · rw [if_neg hl] at p
        exact False.elim p
end
end Pc
set_option Elab.async false
set_option linter.all false
set_option maxRecDepth 100000
set_option maxHeartbeats 4000000
namespace Pc
open PySem PySem.Spec PyProof.Rows L2

/-! ### the text by places -/
def noSt : Stmt := .Pass ⟨0, 0, 0, 0⟩
def stAt (b : List Stmt) (i : Nat) : Stmt := (b[i]?).getD noSt
def stCls : Stmt → List Stmt
  | .ClassDef (body := b) .. => b
  | _ => []
def stArgs : Stmt → Arguments
  | .FunctionDef (args := q) .. => q
  | _ => ⟨[], [], none, [], [], none, []⟩
def stBody : Stmt → List Stmt
  | .FunctionDef (body := q) .. => q
  | _ => []
def stScope : Stmt → Scope
  | .FunctionDef (scope := q) .. => q
  | _ => ⟨.function, [], false, false, []⟩
/-- where a def stands -/
inductive Pth where | glo (x : Str) | mth (c m : Str) | prp (c m : Str)
def getP (K : PySem.W.Frag) (a : Addr) : Addr := match PySem.W.recIn K a "property" with
  | some (.ref g :: _) => g
  | _ => 0
def Pth.a (K : PySem.W.Frag) : Pth → Addr
  | .glo x => He.ga K x
  | .mth c m => He.ma K (He.ga K c) m
  | .prp c m => getP K (He.ma K (He.ga K c) m)
/-- the program as it is given to the layer -/
structure Pg where
  D : Dat
  tx : List (Pth × Tx)
def noTx : Pth × Tx := (.glo "", ⟨"", "", ⟨[], [], none, [], [], none, []⟩, [], ⟨.function, [], false, false, []⟩, [], []⟩)
def Pg.at_ (g : Pg) (f : Nat) : Pth × Tx := (g.tx[f]?).getD noTx
def fdAt (K : PySem.W.Frag) (a : Addr) : FuncData := match K.lookup a with
  | some ⟨_, _, .func fd, _⟩ => fd
  | _ => PySem.W.fnOf "" "" ⟨[], [], none, [], [], none, []⟩ [] ⟨.function, [], false, false, []⟩ .none .none .none .none none .none .none
def Pg.pl (g : Pg) (K : PySem.W.Frag) : Pl := ⟨fun c => He.ga K ((g.D.cnm[c]?).getD ""), fun f => (g.at_ f).1.a K, fun f => fdAt K ((g.at_ f).1.a K), fun f => (g.at_ f).2.ps⟩

abbrev Ow : Type := Option (Str × Str × Arguments × FuncBody × Scope × Addr × List (Str × Addr) × Addr)
def obW (K : PySem.W.Frag) (a : Addr) : Ow := match K.lookup a with
  | some ⟨_, _, .func q, _⟩ => some (q.name, q.qualname, q.params, q.body, q.scope, q.globals, q.closure, q.builtins)
  | _ => none
def Tx.val (t : Tx) : Ow := some (t.name, t.qual, t.params, .stmts t.body, t.scope, mainGlobals, [], builtinsNs)
def noneB : Value → Bool
  | .none => true
  | _ => false
def defB (K : PySem.W.Frag) (a : Addr) (qual : Str) : Bool := PySem.W.keepIn K (.ref a) && match K.lookup a with
  | some ⟨_, _, .func q, _⟩ => PySem.W.codeIn K q.code qual && noneB q.defaults
  | _ => false
theorem funD_of {K : PySem.W.Frag} {a : Addr} {t : Tx} (e : obW K a = t.val) (c : defB K a t.qual = true) : FunD K t.name t.qual t.params t.body t.scope [] [] a (fdAt K a) := by
  obtain ⟨kp, c2⟩ := Bool.and_eq_true_iff.mp c
  unfold obW at e
  unfold fdAt
  cases q : K.lookup a with
  | none => rw [q] at c2; cases c2
  | some o =>
    obtain ⟨oc, od, dt, osl⟩ := o
    rw [q] at c2 e
    cases dt with
    | func fd =>
      obtain ⟨n1, n2, n3, n4, n5, n6, n7, n8, n9, n10, n11, n12, n13, n14, n15⟩ := fd
      have e2 : (some (n1, n2, n3, n4, n5, n6, n7, n15) : Ow) = some (t.name, t.qual, t.params, .stmts t.body, t.scope, mainGlobals, [], builtinsNs) := e
      simp only [Option.some.injEq, Prod.mk.injEq] at e2
      obtain ⟨h1, h2, h3, h4, h5, h6, h7, h8⟩ := e2
      subst h1 h2 h3 h4 h5 h6 h7 h8
      obtain ⟨k1, k2⟩ := Bool.and_eq_true_iff.mp (show (PySem.W.codeIn K n13 t.qual && noneB n8) = true from c2)
      have e8 : n8 = .none := by cases n8 <;> first | rfl | cases k2
      subst e8
      exact ⟨⟨oc, od, .none, n9, n10, n11, n12, n13, n14, osl, rfl, q, k1, .inl ⟨rfl, rfl⟩, .inl rfl⟩, kp⟩
    | _ => cases c2

def upB (n : Nat) (p : Nat → Bool) : Bool := (List.range n).all p
theorem upB_ok {n : Nat} {p : Nat → Bool} (h : upB n p = true) {i : Nat} (hi : i < n) : p i = true := List.all_eq_true.mp h i (List.mem_range.mpr hi)
theorem lt_of {α : Type} {l : List α} {i : Nat} {a : α} (h : l[i]? = some a) : i < l.length := (List.getElem?_eq_some_iff.mp h).1
def hasF (g : Pg) (f : Nat) : Bool := (g.D.T.fns[f]?).isSome
theorem hasF_ok {g : Pg} {f : Nat} (h : hasF g f = true) : ∃ j, g.D.T.fns[f]? = some j := Option.isSome_iff_exists.mp h
def gloB (K : PySem.W.Frag) (x : Str) (a : Addr) : Bool := He.eqO (PySem.W.nsIn K mainGlobals x) (some (some (.ref a)))
def metB (K : PySem.W.Frag) (C : Addr) (nm : Str) (a : Addr) : Bool := He.eqO (PySem.W.findIn K (.ref C) nm) (some (some (.ref a))) && (PySem.W.isFn K (.ref a) && PySem.W.keepIn K (.ref a))
def prpB (K : PySem.W.Frag) (C : Addr) (nm : Str) (a : Addr) : Bool := match PySem.W.findIn K (.ref C) nm with
  | some (some (.ref p)) => He.eqO (PySem.W.specialIn K (.ref p) "__get__") (some (some (.builtin "property.__get__"))) && (decide (PySem.W.takesIn K (.ref p) = some true) && (match PySem.W.recIn K p "property" with
    | some (.ref q :: _) => decide (q = a)
    | _ => false))
  | _ => false
theorem prpB_ok {K : PySem.W.Frag} {C : Addr} {nm : Str} {a : Addr} (h : prpB K C nm a = true) : ∃ p, PropOf K C nm p a := by
  unfold prpB at h
  split at h
  · rename_i p e
    obtain ⟨h1, h2⟩ := Bool.and_eq_true_iff.mp h
    obtain ⟨h2, h3⟩ := Bool.and_eq_true_iff.mp h2
    refine ⟨p, e, He.eqO_ok h1, of_decide_eq_true h2, ?_⟩
    split at h3
    · rename_i q rest e2
      have e3 : q = a := of_decide_eq_true h3
      subst e3
      exact ⟨rest, e2⟩
    · cases h3
  · cases h
def nmAt (g : Pg) (m : Nat) : Str := (g.D.an[m]?).getD ""
def clsB (g : Pg) (K : PySem.W.Frag) (L : Pl) (c : Nat) (i : ClI) : Bool :=
  (He.Fa.cls ((g.D.cnm[c]?).getD "")).ok K && (PySem.W.makesIn K (L.ca c) && (metB K (L.ca c) "__init__" (L.fa i.init) && (PySem.W.keepIn K (.ref (L.ca c)) && (hasF g i.init &&
  ((i.mths.all fun p => decide (p.1 < g.D.an.length) && (hasF g p.2 && metB K (L.ca c) (nmAt g p.1) (L.fa p.2))) &&
  ((i.prps.all fun p => decide (p.1 < g.D.an.length) && (hasF g p.2 && prpB K (L.ca c) (nmAt g p.1) (L.fa p.2))) &&
  (upB g.D.an.length (fun m => (valG i.prps m).isSome || ((valG i.mths m).isSome || He.eqO (PySem.W.findIn K (.ref (L.ca c)) (nmAt g m)) (some none))) &&
  (match i.add with
    | none => true
    | some f => hasF g f && (PySem.W.selfFirst K (L.ca c) && metB K (L.ca c) "__add__" (L.fa f))))))))))
def hdB (g : Pg) (K : PySem.W.Frag) : Bool :=
  upB g.D.T.fns.length (fun f => defB K ((g.pl K).fa f) (g.at_ f).2.qual) &&
  (upB g.D.fnm.length (fun f => match g.D.fnm[f]? with
    | some (some x) => gloB K x ((g.pl K).fa f)
    | _ => true) &&
  (upB g.D.cnm.length (fun c => gloB K ((g.D.cnm[c]?).getD "") ((g.pl K).ca c)) &&
  (upB g.D.T.cls.length (fun c => match g.D.T.cls[c]? with
    | some i => clsB g K (g.pl K) c i
    | _ => false) &&
  (g.D.free.all fun x => He.eqO (PySem.W.nsIn K mainGlobals x) (some none)))))
abbrev AlP : Type := Bool × List Ow
def obP (g : Pg) (K : PySem.W.Frag) : AlP := (hdB g K, (List.range g.D.T.fns.length).map fun f => obW K ((g.pl K).fa f))
def valP (g : Pg) : AlP := (true, (List.range g.D.T.fns.length).map fun f => (g.at_ f).2.val)
def Says (g : Pg) (K : PySem.W.Frag) : Prop := obP g K = valP g
def obPG (n : Nat) (g : Pg) (h : Addr → Option Obj) : AlP := obP g (He.frG h (He.asD h n))
def hookP (n : Nat) (g : Pg) : PySem.W.Hook where
  α := AlP
  obs := fun s => obPG n g s.heap.get?
  val := fun _ => valP g
  says := fun _ h => ∃ K : PySem.W.Frag, K.In h ∧ Says g K
  of := fun _ _ e => ⟨_, He.frG_in, e⟩
  keeps := fun _ _ _ ⟨K, hK, c⟩ k => ⟨K, PySem.W.Frag.In.keeps hK k, c⟩
def obT (n : Nat) (g : Pg) (s : PySem.W.SharedT) : AlP := obPG n g (HandSHeadRun.getT s)
theorem obT_eq {n : Nat} {g : Pg} (s : PySem.W.SharedT) : obT n g s = (hookP n g).obs s.abs := by
  have e : HandSHeadRun.getT s = s.abs.heap.get? := funext fun a => HandSHeadRun.getT_eq s a
  show obPG n g (HandSHeadRun.getT s) = obPG n g s.abs.heap.get?
  rw [e]
theorem valG_mem {κ β : Type} [DecidableEq κ] : ∀ {l : List (κ × β)} {k : κ} {b : β}, valG l k = some b → (k, b) ∈ l
  | [], _, _, h => by cases h
  | (g, x) :: r, k, b, h => by
    unfold valG at h
    split at h
    · rename_i e
      cases h
      subst e
      exact List.mem_cons_self ..
    · exact List.mem_cons_of_mem _ (valG_mem h)
theorem nmAt_ok {g : Pg} {m : Nat} (h : m < g.D.an.length) : g.D.an[m]? = some (nmAt g m) := by
  unfold nmAt
  rw [List.getElem?_eq_getElem h]
  rfl
theorem metB_ok {K : PySem.W.Frag} {C : Addr} {nm : Str} {a : Addr} (h : metB K C nm a = true) : PySem.W.findIn K (.ref C) nm = some (some (.ref a)) ∧ PySem.W.isFn K (.ref a) = true ∧ PySem.W.keepIn K (.ref a) = true := by
  obtain ⟨h1, h2⟩ := Bool.and_eq_true_iff.mp h
  obtain ⟨h2, h3⟩ := Bool.and_eq_true_iff.mp h2
  exact ⟨He.eqO_ok h1, h2, h3⟩
theorem hd_of {g : Pg} {K : PySem.W.Frag} {h : Heap} {mg : Str → Option Value} (X : K.In h) (G : h.Ns mainGlobals mg) (s : Says g K) : Hd g.D (g.pl K) (fun f => (g.at_ f).2) K mg := by
  have hb : hdB g K = true := congrArg (fun z : AlP => z.1) s
  have hl : (List.range g.D.T.fns.length).map (fun f => obW K ((g.pl K).fa f)) = (List.range g.D.T.fns.length).map (fun f => (g.at_ f).2.val) := congrArg (fun z : AlP => z.2) s
  obtain ⟨b1, hb⟩ := Bool.and_eq_true_iff.mp hb
  obtain ⟨b2, hb⟩ := Bool.and_eq_true_iff.mp hb
  obtain ⟨b3, hb⟩ := Bool.and_eq_true_iff.mp hb
  obtain ⟨b4, b5⟩ := Bool.and_eq_true_iff.mp hb
  have cl : ∀ (c : Nat) (i : ClI), g.D.T.cls[c]? = some i → clsB g K (g.pl K) c i = true := fun c i e => by
    have z := upB_ok b4 (lt_of e)
    simp only [e] at z
    exact z
  refine ⟨fun f i e => ⟨?_, rfl⟩, fun f x e => ?_, fun c i e => ?_, fun c i m f e em => ?_, fun c i m f e em => ?_, fun c i m nm e e1 e2 en => ?_, fun c x e => ?_, fun x hx => ?_, fun c i f e ea => ?_⟩
  · have hf := lt_of e
    refine funD_of (a := (g.pl K).fa f) ?_ (upB_ok b1 hf)
    have z := congrArg (fun l => l[f]?) hl
    simp only [List.getElem?_map, List.getElem?_range hf, Option.map_some, Option.some.injEq] at z
    exact z
  · have z := upB_ok b2 (lt_of e)
    simp only [e] at z
    exact PySem.W.mg_of X G (He.eqO_ok z)
  · have z := cl c i e
    obtain ⟨z1, z⟩ := Bool.and_eq_true_iff.mp z
    obtain ⟨z2, z⟩ := Bool.and_eq_true_iff.mp z
    obtain ⟨z3, z⟩ := Bool.and_eq_true_iff.mp z
    obtain ⟨z4, z⟩ := Bool.and_eq_true_iff.mp z
    obtain ⟨z5, z⟩ := Bool.and_eq_true_iff.mp z
    obtain ⟨m1, m2, m3⟩ := metB_ok z3
    exact ⟨He.cls_ok z1, ⟨z2, m1, m2, z4⟩, hasF_ok z5⟩
  · have z := cl c i e
    obtain ⟨_, z⟩ := Bool.and_eq_true_iff.mp z
    obtain ⟨_, z⟩ := Bool.and_eq_true_iff.mp z
    obtain ⟨_, z⟩ := Bool.and_eq_true_iff.mp z
    obtain ⟨_, z⟩ := Bool.and_eq_true_iff.mp z
    obtain ⟨_, z⟩ := Bool.and_eq_true_iff.mp z
    obtain ⟨z, _⟩ := Bool.and_eq_true_iff.mp z
    have q := List.all_eq_true.mp z _ (valG_mem em)
    obtain ⟨q1, q⟩ := Bool.and_eq_true_iff.mp q
    obtain ⟨q2, q3⟩ := Bool.and_eq_true_iff.mp q
    obtain ⟨m1, m2, m3⟩ := metB_ok q3
    exact ⟨hasF_ok q2, nmAt g m, nmAt_ok (of_decide_eq_true q1), ⟨m1, m2, m3⟩⟩
  · have z := cl c i e
    obtain ⟨_, z⟩ := Bool.and_eq_true_iff.mp z
    obtain ⟨_, z⟩ := Bool.and_eq_true_iff.mp z
    obtain ⟨_, z⟩ := Bool.and_eq_true_iff.mp z
    obtain ⟨_, z⟩ := Bool.and_eq_true_iff.mp z
    obtain ⟨_, z⟩ := Bool.and_eq_true_iff.mp z
    obtain ⟨_, z⟩ := Bool.and_eq_true_iff.mp z
    obtain ⟨z, _⟩ := Bool.and_eq_true_iff.mp z
    have q := List.all_eq_true.mp z _ (valG_mem em)
    obtain ⟨q1, q⟩ := Bool.and_eq_true_iff.mp q
    obtain ⟨q2, q3⟩ := Bool.and_eq_true_iff.mp q
    obtain ⟨p, hp⟩ := prpB_ok q3
    exact ⟨hasF_ok q2, nmAt g m, p, nmAt_ok (of_decide_eq_true q1), hp⟩
  · have z := cl c i e
    obtain ⟨_, z⟩ := Bool.and_eq_true_iff.mp z
    obtain ⟨_, z⟩ := Bool.and_eq_true_iff.mp z
    obtain ⟨_, z⟩ := Bool.and_eq_true_iff.mp z
    obtain ⟨_, z⟩ := Bool.and_eq_true_iff.mp z
    obtain ⟨_, z⟩ := Bool.and_eq_true_iff.mp z
    obtain ⟨_, z⟩ := Bool.and_eq_true_iff.mp z
    obtain ⟨_, z⟩ := Bool.and_eq_true_iff.mp z
    obtain ⟨z, _⟩ := Bool.and_eq_true_iff.mp z
    have q := upB_ok z (lt_of en)
    have hn : nmAt g m = nm := by
      unfold nmAt
      rw [en]
      rfl
    rw [e1, e2, hn] at q
    exact He.eqO_ok q
  · have z := upB_ok b3 (lt_of e)
    simp only [e, Option.getD_some] at z
    exact PySem.W.mg_of X G (He.eqO_ok z)
  · exact PySem.W.mg_none_of X G (He.eqO_ok (List.all_eq_true.mp b5 x hx))
  · have z := cl c i e
    obtain ⟨_, z⟩ := Bool.and_eq_true_iff.mp z
    obtain ⟨_, z⟩ := Bool.and_eq_true_iff.mp z
    obtain ⟨_, z⟩ := Bool.and_eq_true_iff.mp z
    obtain ⟨_, z⟩ := Bool.and_eq_true_iff.mp z
    obtain ⟨_, z⟩ := Bool.and_eq_true_iff.mp z
    obtain ⟨_, z⟩ := Bool.and_eq_true_iff.mp z
    obtain ⟨_, z⟩ := Bool.and_eq_true_iff.mp z
    obtain ⟨_, z⟩ := Bool.and_eq_true_iff.mp z
    rw [ea] at z
    obtain ⟨z1, z⟩ := Bool.and_eq_true_iff.mp z
    obtain ⟨z2, z3⟩ := Bool.and_eq_true_iff.mp z
    obtain ⟨m1, m2, m3⟩ := metB_ok z3
    exact ⟨hasF_ok z1, z2, m1, m2⟩

/-- the promise of a law -/
theorem law_F {P : Program} {w : World} {g : Pg} {fl k n : Nat} {i : FnI} {x : Str} {hm : Heap} {mg : Str → Option Value} {fa : Addr} (hf : g.D.T.fns[fl]? = some i) (hps : (g.at_ fl).2.ps = [x]) (han : g.D.an.Nodup)
    (hn : g.D.fnm[fl]? = some (some ("law" : Str))) (ft : ∀ f i, g.D.T.fns[f]? = some i → Fit g.D i (g.at_ f).2)
    (ev : ∀ ns : List Int, ns.length ≤ n → ∃ h', evFn g.D.T k fl [.loc 0] [.frz (ns.map W.int)] = .ok (.bl true) h')
    (Y : ∃ K : PySem.W.Frag, K.In hm ∧ Says g K) (G : hm.Ns mainGlobals mg) (hmg : mg ("law" : Str) = some (.ref fa)) :
    ∃ (K : PySem.W.Frag) (fd : FuncData) (sp : Sp), K.In hm ∧ (∀ (s : Shared) (u : Value), BindsTo s fd ⟨[u], []⟩ [(x, u)]) ∧
      (∀ (H : Hp) (a : Addr) (ns : List Int), ns.length ≤ n → Only H → SqL K H a (ns.map V.int) → sp [.ref a] H (fun v _ => v = .bl true) fun _ _ _ => False) ∧
      ∀ base : Heap, K.In base → base.Ns mainGlobals mg → FnOk P w K mg base (fun _ _ _ _ _ _ => False) (2 * k) fa fd [x] sp := by
  obtain ⟨K, KX, s⟩ := Y
  have hd := hd_of KX G s
  have ea : fa = (g.pl K).fa fl := by
    have z := hd.fnm fl ("law" : Str) hn
    rw [hmg] at z
    cases z
    rfl
  obtain ⟨F, hp⟩ := hd.fd fl i hf
  refine ⟨K, (g.pl K).fd fl, fun vs H Q _ => spW (rdOf g.D (g.pl K) K) g.D.T k fl vs H Q fun _ _ _ => False, KX, fun s u => ?_, fun H a ns hl ho hs => ?_, fun base _ _ => ?_⟩
  · have b := FunD.bindsA F (ft fl i hf).bd s [u] (by show 1 = (g.at_ fl).2.ps.length; rw [hps]; rfl)
    rw [hps] at b
    exact b
  · obtain ⟨h', e⟩ := ev ns hl
    refine ⟨[.loc 0], [.frz (ns.map W.int)], [a], ⟨rfl, fun i j b hi hj => ?_, han, fun m o em => ?_⟩, ⟨_, _, rfl, ⟨a, rfl, rfl⟩, rfl⟩, ?_⟩
    · have h1 := lt_of hi
      have h2 := lt_of hj
      simp at h1 h2
      exact .inl (by omega)
    · have h1 := lt_of em
      simp at h1
      subst h1
      simp at em
      subst em
      refine ⟨a, rfl, ns.map V.int, ?_, Reps.ints ns⟩
      rcases hs with (hs | hs) | hs
      · rcases ho a with z | ⟨o, xs, z⟩
        · rw [z] at hs; cases hs
        · rw [z] at hs; cases hs
      · exact .inl hs
      · exact .inr hs
    · rw [e]
      exact fun b H' ρ' _ _ r => r
  · rw [ea, ← hps]
    have z := fnOk (P := P) (w := w) (base := base) hd ft k fl i hf
    refine ⟨fun vs H Q E q => z.len vs H Q _ q, fun A outer s H args us vs Q E hr he hb hv hs => codeAny_mono (z.run A outer s H args us vs Q _ hr he hb hv hs) fun r s' y => ?_⟩
    cases r with
    | ok c => cases c <;> exact y
    | error e =>
      obtain ⟨a, B, H', cls, d, _, _, _, _, _, _, _, q⟩ := y
      exact q
end Pc
set_option Elab.async false
set_option linter.all false
set_option maxRecDepth 100000
set_option maxHeartbeats 4000000
namespace Pc
open PySem PySem.Spec PyProof.Rows L2

def wp {α : Type} (r : Res α) (Q : α → Hs → Prop) : Prop := ∃ a h, r = .ok a h ∧ Q a h
section
variable {α β : Type} {r : Res α} {Q Q' : α → Hs → Prop} {a : α} {h : Hs}
theorem wp.ok (q : Q a h) : wp (.ok a h) Q := ⟨a, h, rfl, q⟩
theorem wp.of (e : r = .ok a h) (q : Q a h) : wp r Q := ⟨a, h, e, q⟩
theorem wp.bind {f : α → Hs → Res β} {Q : β → Hs → Prop} (w : wp r fun a h => wp (f a h) Q) : wp (r.bind f) Q := by
  obtain ⟨a, h, rfl, q⟩ := w
  exact q
theorem wp.lift {env : En} {f : α → Hs → Res Fl} {Q : Fl → Hs → Prop} (w : wp r fun a h => wp (f a h) Q) : wp (r.lift env f) Q := by
  obtain ⟨a, h, rfl, q⟩ := w
  exact q
theorem wp.quiet (w : wp r Q) : wp r.quiet Q := by
  obtain ⟨a, h, rfl, q⟩ := w
  exact ⟨a, h, rfl, q⟩
theorem wp.mono (w : wp r Q) (k : ∀ a h, Q a h → Q' a h) : wp r Q' := by
  obtain ⟨a, h, e, q⟩ := w
  exact ⟨a, h, e, k a h q⟩
theorem wp.ofO {o : Option α} (e : o = some a) (q : Q a h) : wp (Pc.ofO o h) Q := by
  rw [e]
  exact wp.ok q
end
section
variable {T : Tab} {cl : Nat → List W → Hs → Res W} {env : En} {h : Hs} {Q : W → Hs → Prop} {QT : Bool → Hs → Prop} {QL : List W → Hs → Prop} {a b c : E} {es : List E}
theorem we_var {i : Nat} {w : W} (e : env[i]? = some (some w)) (q : Q w h) : wp (evE T cl (.var i) env h) Q := by
  refine wp.of ?_ q
  simp only [evE, e]
theorem we_lit {w : W} (q : Q w h) : wp (evE T cl (.lit w) env h) Q := wp.of (by simp only [evE]) q
theorem we_bin {op : Bop} (q : wp (evE T cl a env h) fun x h1 => wp (evE T cl b env h1) fun y h2 => wp (addW T cl op x y h2) Q) : wp (evE T cl (.bin op a b) env h) Q := by
  simp only [evE]
  exact wp.bind (q.mono fun _ _ z => wp.bind z)
theorem we_neg (q : wp (evE T cl a env h) fun x h1 => ∃ i, x = .int i ∧ Q (.int (-i)) h1) : wp (evE T cl (.neg a) env h) Q := by
  simp only [evE]
  refine wp.bind (q.mono fun x h1 ⟨i, e, q⟩ => ?_)
  subst e
  exact wp.ok q
theorem we_cmp {op : Cop} (q : wp (evE T cl a env h) fun x h1 => wp (evE T cl b env h1) fun y h2 => ∃ k, cmpW op x y h2 = some k ∧ Q (.bl k) h2) : wp (evE T cl (.cmp op a b) env h) Q := by
  simp only [evE]
  exact wp.bind (q.mono fun x h1 z => wp.bind (z.mono fun y h2 ⟨k, e, q⟩ => wp.bind (wp.ofO e (wp.ok q))))
theorem we_not (q : wp (evE T cl a env h) fun x h1 => ∃ k, x = .bl k ∧ Q (.bl (!k)) h1) : wp (evE T cl (.not a) env h) Q := by
  simp only [evE]
  refine wp.bind (q.mono fun x h1 ⟨i, e, q⟩ => ?_)
  subst e
  exact wp.ok q
theorem we_val (q : wp (evE T cl a env h) Q) : wp (evE T cl (.val a) env h) Q := by
  simp only [evE]
  exact q
theorem we_and1 (q : wp (evE T cl a env h) Q) : wp (evAndV T cl [a] env h) Q := by
  simp only [evAndV]
  exact q
theorem we_and2 (q : wp (evE T cl a env h) fun x h1 => ∃ k, x = .bl k ∧ if k = true then wp (evAndV T cl (b :: es) env h1) Q else Q (.bl false) h1) : wp (evAndV T cl (a :: b :: es) env h) Q := by
  rw [evAndV]
  refine wp.bind (q.mono fun x h1 ⟨k, e, q⟩ => ?_)
  subst e
  cases k with
  | true => exact q
  | false => exact wp.ok q
theorem we_and (q : wp (evAndV T cl es env h) Q) : wp (evE T cl (.and es) env h) Q := by
  simp only [evE]
  exact q
theorem we_or1 (q : wp (evE T cl a env h) Q) : wp (evOrV T cl [a] env h) Q := by
  simp only [evOrV]
  exact q
theorem we_or2 (q : wp (evE T cl a env h) fun x h1 => ∃ k, x = .bl k ∧ if k = true then Q (.bl true) h1 else wp (evOrV T cl (b :: es) env h1) Q) : wp (evOrV T cl (a :: b :: es) env h) Q := by
  rw [evOrV]
  refine wp.bind (q.mono fun x h1 ⟨k, e, q⟩ => ?_)
  subst e
  cases k with
  | true => exact wp.ok q
  | false => exact q
theorem we_or (q : wp (evOrV T cl es env h) Q) : wp (evE T cl (.or es) env h) Q := by
  simp only [evE]
  exact q
theorem we_ite (q : wp (evT T cl a env h) fun k h1 => if k = true then wp (evE T cl b env h1) Q else wp (evE T cl c env h1) Q) : wp (evE T cl (.ite a b c) env h) Q := by
  simp only [evE]
  refine wp.bind (q.mono fun k h1 q => ?_)
  cases k <;> exact q
theorem we_nil (q : QL [] h) : wp (evEs T cl [] env h) QL := wp.of (by simp only [evEs]) q
theorem we_cons (q : wp (evE T cl a env h) fun w h1 => wp (evEs T cl es env h1) fun ws h2 => QL (w :: ws) h2) : wp (evEs T cl (a :: es) env h) QL := by
  simp only [evEs]
  exact wp.bind (q.mono fun _ _ z => wp.bind (z.mono fun _ _ q => wp.ok q))
theorem we_tup (q : wp (evEs T cl es env h) fun ws h1 => ws.length ≤ lim ∧ Q (.tup ws) h1) : wp (evE T cl (.tup es) env h) Q := by
  simp only [evE]
  refine wp.bind (q.mono fun ws h1 ⟨l, q⟩ => ?_)
  rw [if_pos l]
  exact wp.ok q
theorem we_lst (q : wp (evEs T cl es env h) fun ws h1 => ws.length ≤ lim ∧ Q (.loc h1.length) (h1 ++ [.lst ws])) : wp (evE T cl (.lst es) env h) Q := by
  simp only [evE]
  refine wp.bind (q.mono fun ws h1 ⟨l, q⟩ => ?_)
  rw [if_pos l]
  exact wp.ok q
theorem we_ix (q : wp (evE T cl a env h) fun x h1 => wp (evE T cl b env h1) fun y h2 => ∃ w, ixW x y h2 = some w ∧ Q w h2) : wp (evE T cl (.ix a b) env h) Q := by
  simp only [evE]
  exact wp.bind (q.mono fun x h1 z => wp.bind (z.mono fun y h2 ⟨k, e, q⟩ => wp.ofO e q))
theorem we_slc {lo hi : Option E} (q : wp (evE T cl a env h) fun x h1 => wp (evO T cl lo env h1) fun l h2 => wp (evO T cl hi env h2) fun u h3 => wp (slcW x l u h3) Q) : wp (evE T cl (.slc a lo hi) env h) Q := by
  simp only [evE]
  exact wp.bind (q.mono fun x h1 z => wp.bind (z.mono fun y h2 z => wp.bind z))
theorem wo_none {Q : Option Int → Hs → Prop} (q : Q none h) : wp (evO T cl none env h) Q := wp.of (by simp only [evO]) q
theorem wo_some {Q : Option Int → Hs → Prop} (q : wp (evE T cl a env h) fun x h1 => ∃ i, x = .int i ∧ Q (some i) h1) : wp (evO T cl (some a) env h) Q := by
  simp only [evO]
  refine wp.bind (q.mono fun x h1 ⟨i, e, q⟩ => ?_)
  subst e
  exact wp.ok q
theorem we_att {f : Nat} (q : wp (evE T cl a env h) fun x h1 => wp (attW T cl x f h1) Q) : wp (evE T cl (.att a f) env h) Q := by
  simp only [evE]
  exact wp.bind q
theorem we_call {f : Nat} (q : wp (evEs T cl es env h) fun ws h1 => wp (cl f ws h1) Q) : wp (evE T cl (.call f es) env h) Q := by
  simp only [evE]
  exact wp.bind q
theorem we_new {f : Nat} (q : wp (evEs T cl es env h) fun ws h1 => wp (newW T cl f ws h1) Q) : wp (evE T cl (.new f es) env h) Q := by
  simp only [evE]
  exact wp.bind q
theorem we_mth {m : Nat} (q : wp (evE T cl a env h) fun x h1 => ∃ f, mthF T m x h1 = some f ∧ wp (evEs T cl es env h1) fun ws h2 => wp (cl f (x :: ws) h2) Q) : wp (evE T cl (.mth m a es) env h) Q := by
  simp only [evE]
  refine wp.bind (q.mono fun x h1 ⟨f, e, q⟩ => ?_)
  rw [e]
  exact wp.bind (q.mono fun _ _ z => wp.quiet z)
theorem we_blt {f : Bf} (q : wp (evEs T cl es env h) fun ws h1 => wp (bltW f ws h1) Q) : wp (evE T cl (.blt f es) env h) Q := by
  simp only [evE]
  exact wp.bind q
theorem we_bmt {m : Bm} (q : wp (evE T cl a env h) fun x h1 => kindW m x h1 = true ∧ wp (evEs T cl es env h1) fun ws h2 => wp (bmtW m x ws h2) Q) : wp (evE T cl (.bmt m a es) env h) Q := by
  simp only [evE]
  refine wp.bind (q.mono fun x h1 ⟨e, q⟩ => ?_)
  rw [if_pos e]
  exact wp.bind q
theorem we_isi {ts : List Ty} (q : wp (evE T cl a env h) fun x h1 => ∃ k, isiAny x h1 ts = some k ∧ Q (.bl k) h1) : wp (evE T cl (.isi a ts) env h) Q := by
  simp only [evE]
  exact wp.bind (q.mono fun x h1 ⟨k, e, q⟩ => wp.bind (wp.ofO e (wp.ok q)))
theorem we_dct (q : wp (evEs T cl es env (h ++ [.dct []])) fun ws h1 => ∃ ps, pairW ws = some ps ∧ h1[h.length]? = some (.dct []) ∧ Q (.loc h.length) (h1.set h.length (.dct (ps.foldl (fun acc p => putG p.1 p.2 acc) [])))) : wp (evE T cl (.dct es) env h) Q := by
  simp only [evE]
  refine wp.bind (q.mono fun ws h1 ⟨ps, e, e2, q⟩ => ?_)
  rw [e]
  simp only [e2]
  exact wp.ok q
/-! tests -/
theorem wt_val (q : wp (evE T cl a env h) fun x h1 => ∃ k, truW x h1 = some k ∧ QT k h1) : wp (evT T cl (.val a) env h) QT := by
  simp only [evT]
  exact wp.bind (q.mono fun x h1 ⟨k, e, q⟩ => wp.ofO e q)
/-- a comparison as a test -/
theorem wt_cmp {op : Cop} (q : wp (evE T cl a env h) fun x h1 => wp (evE T cl b env h1) fun y h2 => ∃ k, cmpW op x y h2 = some k ∧ QT k h2) : wp (evT T cl (.val (.cmp op a b)) env h) QT :=
  wt_val (we_cmp (q.mono fun _ _ z => z.mono fun _ _ ⟨k, e, q⟩ => ⟨k, e, k, rfl, q⟩))
theorem wt_isi {ts : List Ty} (q : wp (evE T cl a env h) fun x h1 => ∃ k, isiAny x h1 ts = some k ∧ QT k h1) : wp (evT T cl (.val (.isi a ts)) env h) QT :=
  wt_val (we_isi (q.mono fun _ _ ⟨k, e, q⟩ => ⟨k, e, k, rfl, q⟩))
theorem wt_not (q : wp (evT T cl a env h) fun k h1 => QT (!k) h1) : wp (evT T cl (.not a) env h) QT := by
  simp only [evT]
  exact wp.bind (q.mono fun _ _ q => wp.ok q)
theorem wt_and (q : wp (evAnd T cl es env h) QT) : wp (evT T cl (.and es) env h) QT := by
  simp only [evT]
  exact q
theorem wt_or (q : wp (evOr T cl es env h) QT) : wp (evT T cl (.or es) env h) QT := by
  simp only [evT]
  exact q
theorem wt_and1 (q : wp (evT T cl a env h) QT) : wp (evAnd T cl [a] env h) QT := by
  simp only [evAnd]
  exact q
theorem wt_or1 (q : wp (evT T cl a env h) QT) : wp (evOr T cl [a] env h) QT := by
  simp only [evOr]
  exact q
theorem wt_and2 (q : wp (evT T cl a env h) fun k h1 => if k = true then wp (evAnd T cl (b :: es) env h1) QT else QT false h1) : wp (evAnd T cl (a :: b :: es) env h) QT := by
  rw [evAnd]
  refine wp.bind (q.mono fun k h1 q => ?_)
  cases k with
  | true => exact q
  | false => exact wp.ok q
theorem wt_or2 (q : wp (evT T cl a env h) fun k h1 => if k = true then QT true h1 else wp (evOr T cl (b :: es) env h1) QT) : wp (evOr T cl (a :: b :: es) env h) QT := by
  rw [evOr]
  refine wp.bind (q.mono fun k h1 q => ?_)
  cases k with
  | true => exact wp.ok q
  | false => exact q
theorem wc_nil (q : QT true h) : wp (evCs T cl [] env h) QT := wp.of (by simp only [evCs]) q
theorem wc_one (q : wp (evT T cl a env h) QT) : wp (evCs T cl [a] env h) QT := by
  simp only [evCs]
  exact q
/-! statements -/
variable {QS : Fl → Hs → Prop} {s : S} {ss sa sb : List S}
theorem ws_nil (q : QS (.nx env) h) : wp (evSs T cl [] env h) QS := wp.of (by simp only [evSs]) q
theorem ws_cons (q : wp (evS T cl s env h) fun fl h1 => match fl with
    | .nx env1 => wp (evSs T cl ss env1 h1) QS
    | fl => QS fl h1) : wp (evSs T cl (s :: ss) env h) QS := by
  simp only [evSs]
  refine wp.bind (q.mono fun fl h1 q => ?_)
  cases fl <;> first | exact q | exact wp.ok q
theorem ws_set {i : Nat} (q : wp (evE T cl a env h) fun w h1 => wp (evSs T cl ss (env.set i (some w)) h1) QS) : wp (evSs T cl (.set i a :: ss) env h) QS := by
  refine ws_cons ?_
  simp only [evS]
  exact wp.lift (q.mono fun w h1 q => wp.ok q)
theorem ws_expr (q : wp (evE T cl a env h) fun w h1 => wp (evSs T cl ss env h1) QS) : wp (evSs T cl (.expr a :: ss) env h) QS := by
  refine ws_cons ?_
  simp only [evS]
  exact wp.lift (q.mono fun w h1 q => wp.ok q)
theorem ws_ret (q : wp (evE T cl a env h) fun w h1 => QS (.rt w) h1) : wp (evSs T cl (.ret a :: ss) env h) QS := by
  refine ws_cons ?_
  simp only [evS]
  exact wp.lift (q.mono fun w h1 q => wp.ok q)
theorem ws_seta {f : Nat} (q : wp (evE T cl b env h) fun w h1 => wp (evE T cl a env h1) fun x h2 => wp (setA T x f w h2) fun _ h3 => wp (evSs T cl ss env h3) QS) : wp (evSs T cl (.seta a f b :: ss) env h) QS := by
  refine ws_cons ?_
  simp only [evS]
  exact wp.lift (q.mono fun w h1 q => wp.lift (q.mono fun x h2 q => wp.bind (q.mono fun _ h3 q => wp.ok q)))
theorem ws_seti (q : wp (evE T cl c env h) fun w h1 => wp (evE T cl a env h1) fun x h2 => wp (evE T cl b env h2) fun y h3 => wp (setI x y w h3) fun _ h4 => wp (evSs T cl ss env h4) QS) : wp (evSs T cl (.seti a b c :: ss) env h) QS := by
  refine ws_cons ?_
  simp only [evS]
  exact wp.lift (q.mono fun w h1 q => wp.lift (q.mono fun x h2 q => wp.lift (q.mono fun y h3 q => wp.bind (q.mono fun _ h4 q => wp.ok q))))
theorem ws_sett {tg : Tg} (q : wp (evE T cl a env h) fun w h1 => ∃ env1, bindTg tg w env = some env1 ∧ wp (evSs T cl ss env1 h1) QS) : wp (evSs T cl (.sett tg a :: ss) env h) QS := by
  refine ws_cons ?_
  simp only [evS]
  refine wp.lift (q.mono fun w h1 ⟨env1, e, q⟩ => ?_)
  rw [e]
  exact wp.ok q
/-- both ways go on with the rest -/
theorem ws_if (q : wp (evT T cl a env h) fun k h1 => if k = true then wp (evSs T cl (sa ++ ss) env h1) QS else wp (evSs T cl (sb ++ ss) env h1) QS) : wp (evSs T cl (.ifs a sa sb :: ss) env h) QS := by
  have app : ∀ (xs : List S) (env : En) (h : Hs), wp (evSs T cl (xs ++ ss) env h) QS → wp (evSs T cl xs env h) fun fl h1 => match fl with
      | .nx env1 => wp (evSs T cl ss env1 h1) QS
      | fl => QS fl h1 := by
    intro xs
    induction xs with
    | nil => exact fun env h q => ws_nil q
    | cons x xs ih =>
      intro env h q
      rw [List.cons_append] at q
      simp only [evSs] at q ⊢
      obtain ⟨fl, h1, e, q⟩ := q
      cases e1 : evS T cl x env h with
      | ok f1 g1 =>
        rw [e1, bind_ok] at e
        rw [bind_ok]
        cases f1 with
        | nx env1 => exact ih env1 g1 ⟨fl, h1, e, q⟩
        | rt w => cases e; exact wp.ok q
        | bk w => cases e; exact wp.ok q
        | ct w => cases e; exact wp.ok q
        | xc c fs w => cases e; exact wp.ok q
      | exc c fs g => rw [e1] at e; cases e
      | bad => rw [e1] at e; cases e
  refine ws_cons ?_
  simp only [evS]
  refine wp.lift (q.mono fun k h1 q => ?_)
  cases k with
  | true => exact app sa env h1 q
  | false => exact app sb env h1 q
theorem ws_for {k : ItK} {tg : Tg} {body : List S} (q : wp (evEs T cl es env h) fun xs h1 => ∃ src, srcW k xs h1 = some src ∧ wp (loopS (turnW tg (evSs T cl body)) src (.nx env) h1) fun fl h2 => match fl with
    | .nx env1 => wp (evSs T cl ss env1 h2) QS
    | fl => QS fl h2) : wp (evSs T cl (.fors k es tg body :: ss) env h) QS := by
  refine ws_cons ?_
  simp only [evS]
  refine wp.lift (q.mono fun xs h1 ⟨src, e, q⟩ => ?_)
  rw [e]
  exact q
end
/-- a def's run -/
theorem wf {T : Tab} {k f : Nat} {i : FnI} {ws : List W} {env : En} {h : Hs} {Q : W → Hs → Prop} (hf : T.fns[f]? = some i) (hl : ws.length = i.np) (he : ws.map some ++ List.replicate (i.nl - i.np) none = env)
    (q : wp (evSs T (evFn T k) i.body env h) fun fl h1 => match fl with
      | .rt w => Q w h1
      | .nx _ => Q .non h1
      | _ => False) : wp (evFn T (k + 1) f ws h) Q := by
  subst he
  unfold evFn
  simp only [hf, hl, if_true]
  refine wp.bind (wp.quiet (q.mono fun fl h1 q => ?_))
  cases fl with
  | rt w => exact wp.ok q
  | nx w => exact wp.ok q
  | bk w => exact q.elim
  | ct w => exact q.elim
  | xc c fs w => exact q.elim
/-- a loop over items that stand -/
theorem wloop {σ : Type} {step : W → σ → Hs → Res (Bool × σ)} {Q : σ → Hs → Prop} : ∀ (ws : List W) (I : List W → σ → Hs → Prop) (s : σ) (h : Hs), I ws s h →
    (∀ w r s h, I (w :: r) s h → wp (step w s h) fun p h1 => if p.1 = true then I r p.2 h1 else Q p.2 h1) → (∀ s h, I [] s h → Q s h) → wp (loopI step ws s h) Q
  | [], I, s, h, i0, _, hz => wp.ok (hz s h i0)
  | w :: ws, I, s, h, i0, hs, hz => by
    unfold loopI
    refine wp.bind ((hs w ws s h i0).mono fun p h1 q => ?_)
    cases e : p.1 with
    | true =>
      rw [e] at q
      rw [if_pos rfl]
      exact wloop ws I p.2 h1 q hs hz
    | false =>
      rw [e] at q
      simp only [Bool.false_eq_true, if_false] at q ⊢
      exact wp.ok q
/-- a for over items that stand -/
theorem wturn {tg : Tg} {b : En → Hs → Res Fl} {x : W} {env env1 : En} {g : Hs} {Q : Bool × Fl → Hs → Prop} (hb : bindTg tg x env = some env1) (q : wp (b env1 g) fun fl h1 => match fl with
    | .nx e => Q (true, .nx e) h1
    | .ct e => Q (true, .nx e) h1
    | .bk e => Q (false, .nx e) h1
    | fl => Q (false, fl) h1) : wp (turnW tg b x (.nx env) g) Q := by
  unfold turnW
  simp only [hb]
  refine wp.bind (q.mono fun fl h1 q => ?_)
  cases fl <;> exact wp.ok q
/-- a while: n a measure -/
theorem wwhile {c : En → Hs → Res Bool} {b : En → Hs → Res Fl} {Q : Fl → Hs → Prop} {I : Nat → En → Hs → Prop} : ∀ (n fuel : Nat) (env : En) (h : Hs), n < fuel → I n env h →
    (∀ n env h, I n env h → wp (c env h) fun k h1 => if k = true then wp (b env h1) fun fl h2 => match fl with
      | .nx e => ∃ m, m < n ∧ I m e h2
      | .ct e => ∃ m, m < n ∧ I m e h2
      | .bk e => Q (.nx e) h2
      | fl => Q fl h2 else Q (.nx env) h1) → wp (whilW c b fuel env h) Q
  | n, 0, _, _, hn, _, _ => absurd hn (Nat.not_lt_zero _)
  | n, fuel + 1, env, h, hn, i0, hs => by
    unfold whilW
    refine wp.lift ((hs n env h i0).mono fun k h1 q => ?_)
    cases k with
    | false => exact wp.ok q
    | true =>
      rw [if_pos rfl] at q ⊢
      refine wp.bind (q.mono fun fl h2 q => ?_)
      cases fl with
      | nx e =>
        obtain ⟨m, hm, i1⟩ := q
        exact wwhile m fuel e h2 (by omega) i1 hs
      | ct e =>
        obtain ⟨m, hm, i1⟩ := q
        exact wwhile m fuel e h2 (by omega) i1 hs
      | bk e => exact wp.ok q
      | rt w => exact wp.ok q
      | xc c fs w => exact wp.ok q
theorem ws_while {T : Tab} {cl : Nat → List W → Hs → Res W} {env : En} {h : Hs} {QS : Fl → Hs → Prop} {ss body : List S} {t : E} (q : wp (whilW (evT T cl t) (evSs T cl body) fuelW env h) fun fl h1 => match fl with
    | .nx env1 => wp (evSs T cl ss env1 h1) QS
    | fl => QS fl h1) : wp (evSs T cl (.whil t body :: ss) env h) QS := by
  refine ws_cons ?_
  simp only [evS]
  exact q
end Pc
set_option Elab.async false
set_option linter.all false
set_option maxRecDepth 100000
set_option maxHeartbeats 400000
namespace Pc
open PySem PySem.Spec PyProof.Rows L2

/-! ### rules by values -/
section
variable {h : Hs} {n : Nat} {ws : List W}
theorem ix_lst {i : Int} {w : W} (e : h[n]? = some (.lst ws)) (a : atI ws i = some w) : ixW (.loc n) (.int i) h = some w := by
  unfold ixW
  simp only [e, a]
theorem ix_frz {i : Int} {w : W} (e : h[n]? = some (.frz ws)) (a : atI ws i = some w) : ixW (.loc n) (.int i) h = some w := by
  unfold ixW
  simp only [e, a]
theorem ix_dct {kvs : List (Key × W)} {y : W} {k : Key} {w : W} (e : h[n]? = some (.dct kvs)) (ek : keyW y = some k) (a : valG kvs k = some w) : ixW (.loc n) y h = some w := by
  unfold ixW
  simp only [e, ek, Option.bind_some, a]
theorem len_lst {h : Hs} (e : h[n]? = some (.lst ws)) : lenW (.loc n) h = some ws.length := by
  unfold lenW
  simp only [e]
theorem atI_nat {α : Type} {xs : List α} {i : Nat} {x : α} (e : xs[i]? = some x) : atI xs (i : Int) = some x := by
  have hl : i < xs.length := (List.getElem?_eq_some_iff.mp e).1
  unfold atI ixN
  rw [if_pos (by omega), if_pos (by omega)]
  simpa using e
theorem atI_in {α : Type} {xs : List α} {i : Int} (h0 : 0 ≤ i) (h1 : i < xs.length) : ∃ x, atI xs i = some x ∧ x ∈ xs := by
  obtain ⟨j, rfl⟩ := Int.eq_ofNat_of_zero_le h0
  have hj : j < xs.length := by omega
  exact ⟨xs[j], atI_nat (List.getElem?_eq_getElem hj), List.getElem_mem hj⟩
theorem shp_int (i : Int) : SeqAt.shaped (.int i) = true := by
  unfold SeqAt.shaped
  rw [PyData.canLay0] <;> rfl
theorem bq {α : Type} [BEq α] [LawfulBEq α] [DecidableEq α] (a b : α) : (a == b) = decide (a = b) := by
  rw [Bool.eq_iff_iff, beq_iff_eq, decide_eq_true_eq]
theorem eqR_int {i j : Int} : eqR h (.int i) (.int j) = some (decide (i = j)) := by
  unfold eqR
  show (if SeqAt.shaped (.int i) = true ∧ SeqAt.shaped (.int j) = true then some (PyData.eqv (.int i) (.int j)) else none) = _
  rw [if_pos ⟨shp_int i, shp_int j⟩, PyData.eqv]
  exact congrArg some (bq i j)
theorem shp_str {s : Str} (e : PyData.strOk s = true) : SeqAt.shaped (.str s) = true := by
  unfold SeqAt.shaped
  rw [PyData.canLay0, e] <;> rfl
theorem eqR_str {s t : Str} (es : PyData.strOk s = true) (et : PyData.strOk t = true) : eqR h (.str s) (.str t) = some (decide (s = t)) := by
  unfold eqR
  show (if SeqAt.shaped (.str s) = true ∧ SeqAt.shaped (.str t) = true then some (PyData.eqv (.str s) (.str t)) else none) = _
  rw [if_pos ⟨shp_str es, shp_str et⟩, PyData.eqv]
  exact congrArg some (bq s t)
theorem cmp_eq_int {i j : Int} : cmpW .eq (.int i) (.int j) h = some (decide (i = j)) := eqR_int (h := h)
theorem cmp_ne_int {i j : Int} : cmpW .ne (.int i) (.int j) h = some (!decide (i = j)) := by
  show (eqR h (.int i) (.int j)).map (! ·) = _
  rw [eqR_int]
  rfl
theorem cmp_eq_str {s t : Str} (es : PyData.strOk s = true) (et : PyData.strOk t = true) : cmpW .eq (.str s) (.str t) h = some (decide (s = t)) := eqR_str (h := h) es et
theorem cmp_lt_int {i j : Int} : cmpW .lt (.int i) (.int j) h = some (decide (i < j)) := rfl
theorem cmp_le_int {i j : Int} : cmpW .le (.int i) (.int j) h = some (decide (i ≤ j)) := rfl
theorem cmp_gt_int {i j : Int} : cmpW .gt (.int i) (.int j) h = some (decide (j < i)) := rfl
theorem cmp_ge_int {i j : Int} : cmpW .ge (.int i) (.int j) h = some (decide (j ≤ i)) := rfl
theorem tru_bl {b : Bool} : truW (.bl b) h = some b := rfl
theorem ex_int {i : Int} {Q : Int → Prop} (q : Q i) : ∃ j, W.int i = W.int j ∧ Q j := ⟨i, rfl, q⟩
theorem ex_bl {i : Bool} {Q : Bool → Prop} (q : Q i) : ∃ j, W.bl i = W.bl j ∧ Q j := ⟨i, rfl, q⟩
end
section
variable {α β : Type} {Q : W → Hs → Prop} {h : Hs}
theorem wa_bin {T : Tab} {cl : Nat → List W → Hs → Res W} {op : Bop} {x y w : W} (e : addW T cl op x y h = .ok w h) (q : Q w h) : wp (addW T cl op x y h) Q := wp.of e q
theorem wb_mod {T : Tab} {cl : Nat → List W → Hs → Res W} {i j : Int} (hj : 0 < j) (q : Q (.int (i % j)) h) : wp (addW T cl .mod (.int i) (.int j) h) Q := wp.of (by show (if 0 < j then _ else _) = _; rw [if_pos hj]) q
theorem wb_div {T : Tab} {cl : Nat → List W → Hs → Res W} {i j : Int} (hj : 0 < j) (hl : j.natAbs.log2 < 9000) (q : Q (.int (i / j)) h) : wp (addW T cl .fdiv (.int i) (.int j) h) Q := wp.of (by show (if 0 < j ∧ _ then _ else _) = _; rw [if_pos ⟨hj, hl⟩]) q
theorem wb_add {T : Tab} {cl : Nat → List W → Hs → Res W} {i j : Int} (q : Q (.int (i + j)) h) : wp (addW T cl .add (.int i) (.int j) h) Q := wp.of rfl q
theorem wb_sub {T : Tab} {cl : Nat → List W → Hs → Res W} {i j : Int} (q : Q (.int (i - j)) h) : wp (addW T cl .sub (.int i) (.int j) h) Q := wp.of rfl q
theorem wb_mul {T : Tab} {cl : Nat → List W → Hs → Res W} {i j : Int} (hl : i.natAbs.log2 + j.natAbs.log2 < 1000000) (q : Q (.int (i * j)) h) : wp (addW T cl .mul (.int i) (.int j) h) Q := wp.of (by show (if _ then _ else _) = _; rw [if_pos hl]) q
theorem wb_adds {T : Tab} {cl : Nat → List W → Hs → Res W} {s t : Str} (hl : s.length + t.length ≤ lim) (q : Q (.str (s ++ t)) h) : wp (addW T cl .add (.str s) (.str t) h) Q := wp.of (by show (if _ then _ else _) = _; rw [if_pos hl]) q
theorem wb_addt {T : Tab} {cl : Nat → List W → Hs → Res W} {s t : List W} (hl : s.length + t.length ≤ lim) (q : Q (.tup (s ++ t)) h) : wp (addW T cl .add (.tup s) (.tup t) h) Q := wp.of (by show (if _ then _ else _) = _; rw [if_pos hl]) q
theorem wl_len {n : Nat} {x : W} (e : lenW x h = some n) (q : Q (.int n) h) : wp (bltW .len [x] h) Q := wp.of (by show (match lenW x h with | some n => _ | none => _) = _; rw [e]) q
theorem wl_abs {i : Int} (q : Q (.int (if i < 0 then -i else i)) h) : wp (bltW .abs [.int i] h) Q := wp.of rfl q
theorem wl_int {i : Int} (q : Q (.int i) h) : wp (bltW .int [.int i] h) Q := wp.of rfl q
end

local macro_rules
  | `(tactic| infer_instance) => `(tactic| first
    | with_reducible refine we_lit ?_ | with_reducible refine we_bin ?_ | with_reducible refine we_cmp ?_ | with_reducible refine we_and ?_ | with_reducible refine we_and2 ?_ | with_reducible refine we_and1 ?_ | with_reducible refine we_or ?_ | with_reducible refine we_or2 ?_
    | with_reducible refine we_or1 ?_ | with_reducible refine we_val ?_ | with_reducible refine we_not ?_ | with_reducible refine we_ite ?_ | with_reducible refine we_nil ?_ | with_reducible refine we_cons ?_ | with_reducible refine we_tup ?_ | with_reducible refine we_lst ?_
    | with_reducible refine we_ix ?_ | with_reducible refine we_slc ?_ | with_reducible refine wo_none ?_ | with_reducible refine wo_some ?_ | with_reducible refine we_att ?_ | with_reducible refine we_call ?_ | with_reducible refine we_new ?_ | with_reducible refine we_mth ?_
    | with_reducible refine we_blt ?_ | with_reducible refine we_bmt ?_ | with_reducible refine we_isi ?_ | with_reducible refine we_dct ?_ | with_reducible refine we_neg ?_ | with_reducible refine wt_cmp ?_ | with_reducible refine wt_isi ?_ | with_reducible refine wt_val ?_
    | with_reducible refine wt_not ?_ | with_reducible refine wt_and ?_ | with_reducible refine wt_or ?_ | with_reducible refine wt_and2 ?_ | with_reducible refine wt_or2 ?_ | with_reducible refine wt_and1 ?_ | with_reducible refine wt_or1 ?_ | with_reducible refine wc_nil ?_
    | with_reducible refine wc_one ?_ | with_reducible refine wb_add ?_ | with_reducible refine wb_sub ?_ | with_reducible refine wl_int ?_ | with_reducible refine wl_abs ?_ | with_reducible refine ex_int ?_ | with_reducible refine ex_bl ?_
    | ((with_reducible refine we_var (w := ?_) ?_ ?_); rotate_left; · rfl)
    | with_reducible refine ⟨_, cmp_eq_int, ?_⟩ | with_reducible refine ⟨_, cmp_ne_int, ?_⟩ | with_reducible refine ⟨_, cmp_lt_int, ?_⟩ | with_reducible refine ⟨_, cmp_gt_int, ?_⟩ | with_reducible refine ⟨_, cmp_le_int, ?_⟩ | with_reducible refine ⟨_, cmp_ge_int, ?_⟩ | with_reducible refine ⟨_, tru_bl, ?_⟩
    | ((with_reducible refine ⟨_, ix_lst (w := ?_) (by assumption) ?_, ?_⟩); rotate_left; · rfl)
    | with_reducible refine wl_len (len_lst (by assumption)) ?_)
structure Pool (p : Nat) (h : Hs) : Prop where
  ex : ∃ (q : Nat) (i : Nat) (d s : Int) (ns : List Int), h[p]? = some (.lst [.loc q, .int i, .int d, .int s]) ∧ h[q]? = some (.lst (ns.map W.int)) ∧ q < p ∧ ns.length ≤ 63
/-- all but p stays -/
structure Kp (p : Nat) (h h' : Hs) : Prop where
  le : h.length ≤ h'.length
  at_ : ∀ n o, n ≠ p → h[n]? = some o → h'[n]? = some o
theorem Kp.refl {p : Nat} {h : Hs} : Kp p h h := ⟨Nat.le_refl _, fun _ _ _ e => e⟩
theorem Kp.trans {p : Nat} {h1 h2 h3 : Hs} (a : Kp p h1 h2) (b : Kp p h2 h3) : Kp p h1 h3 := ⟨Nat.le_trans a.le b.le, fun n o hn e => b.at_ n o hn (a.at_ n o hn e)⟩
theorem Kp.set {p : Nat} {h : Hs} {o : Ob} : Kp p h (h.set p o) := ⟨by simp, fun n o hn e => by rw [List.getElem?_set_ne (Ne.symm hn)]; exact e⟩
theorem Kp.app {p : Nat} {h l : Hs} : Kp p h (h ++ l) := ⟨by simp, fun n o hn e => by rw [List.getElem?_append_left (List.getElem?_eq_some_iff.mp e).1]; exact e⟩
theorem Pool.lt {p : Nat} {h : Hs} (P : Pool p h) : p < h.length := by
  obtain ⟨q, i, d, s, ns, e, _⟩ := P.ex
  exact (List.getElem?_eq_some_iff.mp e).1
theorem set_at {h : Hs} {p : Nat} {o : Ob} (hl : p < h.length) : (h.set p o)[p]? = some o := List.getElem?_set_self hl
theorem set_ne {h : Hs} {p q : Nat} {o x : Ob} (hn : q ≠ p) (e : h[q]? = some x) : (h.set p o)[q]? = some x := by rw [List.getElem?_set_ne (Ne.symm hn)]; exact e

theorem wi_lst {Q : Unit → Hs → Prop} {h : Hs} {n j : Nat} {ws us : List W} {k : Int} {w : W} (e : h[n]? = some (.lst ws)) (ej : ixN ws.length k = some j) (hw : ws.set j w = us) (q : ∀ h2, h2[n]? = some (.lst us) → Kp n h h2 → Q () h2) : wp (setI (.loc n) (.int k) w h) Q :=
  wp.of (a := ()) (h := h.set n (.lst us)) (by unfold setI; simp only [e, ej, hw]) (q _ (set_at (List.getElem?_eq_some_iff.mp e).1) .set)
def b_draw : List S := [.whil (.and [(.val (.cmp .eq (.ix (.var 0) (.lit (.int 2))) (.lit (.int 0)))), (.val (.cmp .lt (.ix (.var 0) (.lit (.int 1))) (.blt .len [(.ix (.var 0) (.lit (.int 0)))])))]) [.seti (.var 0) (.lit (.int 2)) (.blt .abs [(.ix (.ix (.var 0) (.lit (.int 0))) (.ix (.var 0) (.lit (.int 1))))]), .seti (.var 0) (.lit (.int 1)) (.bin .add (.ix (.var 0) (.lit (.int 1))) (.lit (.int 1)))], .ifs (.val (.cmp .eq (.ix (.var 0) (.lit (.int 2))) (.lit (.int 0)))) [.seti (.var 0) (.lit (.int 3)) (.bin .add (.ix (.var 0) (.lit (.int 3))) (.lit (.int 7))), .ret (.bin .mod (.blt .int [(.bin .fdiv (.ix (.var 0) (.lit (.int 3))) (.lit (.int 3)))]) (.var 1))] [], .set 2 (.bin .mod (.blt .int [(.ix (.var 0) (.lit (.int 2)))]) (.var 1)), .seti (.var 0) (.lit (.int 2)) (.bin .fdiv (.blt .int [(.ix (.var 0) (.lit (.int 2)))]) (.var 1)), .ret (.var 2)]
theorem draw_ok {T : Tab} {f k p : Nat} {m : Int} {h : Hs} (hf : T.fns[f]? = some ⟨2, 3, b_draw⟩) (P : Pool p h) (hm : 0 < m) (hl : m.natAbs.log2 < 9000) :
    wp (evFn T (k + 1) f [.loc p, .int m] h) fun w h' => ∃ r : Int, w = .int r ∧ 0 ≤ r ∧ r < m ∧ Pool p h' ∧ Kp p h h' := by
  obtain ⟨q, i, d, s, ns, ep, eq, hqp', hns⟩ := P.ex
  have hqp : q ≠ p := Nat.ne_of_lt hqp'
  refine wf hf rfl (env := [some (.loc p), some (.int m), none]) rfl ?_
  refine ws_while ?_
  refine wwhile (I := fun n env h1 => env = [some (.loc p), some (.int m), none] ∧ Kp p h h1 ∧ ∃ (i : Nat) (d s : Int), h1[p]? = some (.lst [.loc q, .int i, .int d, .int s]) ∧ h1[q]? = some (.lst (ns.map W.int)) ∧ n = ns.length - i) (ns.length - i) fuelW _ _ (by unfold fuelW; omega) ⟨rfl, .refl, i, d, s, ep, eq, rfl⟩ ?_
  rintro n env h1 ⟨rfl, kp, i, d, s, ep, eq, rfl⟩
  have fin : ∀ h1 : Hs, Kp p h h1 → ∀ (i : Nat) (d s : Int), h1[p]? = some (.lst [.loc q, .int i, .int d, .int s]) → h1[q]? = some (.lst (ns.map W.int)) →
      wp (evSs T (evFn T k) [.ifs (.val (.cmp .eq (.ix (.var 0) (.lit (.int 2))) (.lit (.int 0)))) [.seti (.var 0) (.lit (.int 3)) (.bin .add (.ix (.var 0) (.lit (.int 3))) (.lit (.int 7))), .ret (.bin .mod (.blt .int [(.bin .fdiv (.ix (.var 0) (.lit (.int 3))) (.lit (.int 3)))]) (.var 1))] [], .set 2 (.bin .mod (.blt .int [(.ix (.var 0) (.lit (.int 2)))]) (.var 1)), .seti (.var 0) (.lit (.int 2)) (.bin .fdiv (.blt .int [(.ix (.var 0) (.lit (.int 2)))]) (.var 1)), .ret (.var 2)] [some (.loc p), some (.int m), none] h1)
        fun fl h' => match fl with
          | .rt w => ∃ r : Int, w = .int r ∧ 0 ≤ r ∧ r < m ∧ Pool p h' ∧ Kp p h h'
          | .nx _ => ∃ r : Int, W.non = .int r ∧ 0 ≤ r ∧ r < m ∧ Pool p h' ∧ Kp p h h'
          | _ => False := by
    intro h1 kp i d s ep eq
    have hp : p < h1.length := (List.getElem?_eq_some_iff.mp ep).1
    refine ws_if ?_
    repeat infer_instance
    by_cases hd : d = 0
    · rw [if_pos (decide_eq_true hd)]
      refine ws_seti ?_
      repeat infer_instance
      refine wi_lst ep rfl rfl fun h2 ep2 k2 => ?_
      have eq2 := k2.at_ _ _ hqp eq
      refine ws_ret ?_
      repeat infer_instance
      refine wb_div (j := 3) (by decide) (by decide) ?_
      repeat infer_instance
      exact wb_mod hm ⟨_, rfl, Int.emod_nonneg _ (by omega), Int.emod_lt_of_pos _ hm, ⟨q, i, d, _, ns, ep2, eq2, hqp', hns⟩, kp.trans k2⟩
    · rw [if_neg (by simpa using hd)]
      refine ws_set ?_
      repeat infer_instance
      refine wb_mod hm ?_
      refine ws_seti ?_
      repeat infer_instance
      refine wb_div hm hl ?_
      repeat infer_instance
      refine wi_lst ep rfl rfl fun h2 ep2 k2 => ?_
      have eq2 := k2.at_ _ _ hqp eq
      refine ws_ret ?_
      repeat infer_instance
      exact ⟨Int.emod_nonneg _ (by omega), Int.emod_lt_of_pos _ hm, ⟨q, i, _, s, ns, ep2, eq2, hqp', hns⟩, kp.trans k2⟩
  have hp : p < h1.length := (List.getElem?_eq_some_iff.mp ep).1
  repeat infer_instance
  by_cases hd : d = 0
  · rw [if_pos (decide_eq_true hd)]
    repeat infer_instance
    by_cases hi : (i : Int) < (ns.map W.int).length
    · rw [if_pos (decide_eq_true hi)]
      have hi2 : i < ns.length := by simp at hi; omega
      refine ws_seti ?_
      repeat infer_instance
      refine ⟨_, ix_lst eq (atI_nat (by rw [List.getElem?_map, List.getElem?_eq_getElem hi2]; rfl)), ?_⟩
      repeat infer_instance
      refine wi_lst ep rfl rfl fun h2 ep2 k2 => ?_
      have eq2 := k2.at_ _ _ hqp eq
      refine ws_seti ?_
      repeat infer_instance
      refine wi_lst ep2 rfl rfl fun h3 ep3 k3 => ?_
      have eq3 := k3.at_ _ _ hqp eq2
      exact ws_nil ⟨ns.length - (i + 1), by omega, rfl, (kp.trans k2).trans k3, i + 1, _, s, ep3, eq3, rfl⟩
    · rw [if_neg (by simpa using hi)]
      exact fin h1 kp i d s ep eq
  · rw [if_neg (by simpa using hd)]
    exact fin h1 kp i d s ep eq
end Pc
set_option Elab.async false
set_option linter.all false
set_option maxRecDepth 100000
set_option maxHeartbeats 400000
namespace Pc
open PySem PySem.Spec PyProof.Rows L2
local macro_rules
  | `(tactic| infer_instance) => `(tactic| first
    | with_reducible refine we_lit ?_ | with_reducible refine we_bin ?_ | with_reducible refine we_cmp ?_ | with_reducible refine we_and ?_ | with_reducible refine we_and2 ?_ | with_reducible refine we_and1 ?_ | with_reducible refine we_or ?_ | with_reducible refine we_or2 ?_
    | with_reducible refine we_or1 ?_ | with_reducible refine we_val ?_ | with_reducible refine we_not ?_ | with_reducible refine we_ite ?_ | with_reducible refine we_nil ?_ | with_reducible refine we_cons ?_ | with_reducible refine we_tup ?_ 
    | with_reducible refine we_ix ?_ | with_reducible refine we_slc ?_ | with_reducible refine wo_none ?_ | with_reducible refine wo_some ?_ | with_reducible refine we_att ?_ | with_reducible refine we_call ?_ | with_reducible refine we_new ?_ | with_reducible refine we_mth ?_
    | with_reducible refine we_blt ?_ | with_reducible refine we_bmt ?_ | with_reducible refine we_isi ?_ | with_reducible refine we_dct ?_ | with_reducible refine we_neg ?_ | with_reducible refine wt_cmp ?_ | with_reducible refine wt_isi ?_ | with_reducible refine wt_val ?_
    | with_reducible refine wt_not ?_ | with_reducible refine wt_and ?_ | with_reducible refine wt_or ?_ | with_reducible refine wt_and2 ?_ | with_reducible refine wt_or2 ?_ | with_reducible refine wt_and1 ?_ | with_reducible refine wt_or1 ?_ | with_reducible refine wc_nil ?_
    | with_reducible refine wc_one ?_ | with_reducible refine wb_add ?_ | with_reducible refine wb_sub ?_ | with_reducible refine wl_int ?_ | with_reducible refine wl_abs ?_ | with_reducible refine ex_int ?_ | with_reducible refine ex_bl ?_
    | ((with_reducible refine we_var (w := ?_) ?_ ?_); rotate_left; · rfl)
    | with_reducible refine ⟨_, cmp_eq_int, ?_⟩ | with_reducible refine ⟨_, cmp_ne_int, ?_⟩ | with_reducible refine ⟨_, cmp_lt_int, ?_⟩ | with_reducible refine ⟨_, cmp_gt_int, ?_⟩ | with_reducible refine ⟨_, cmp_le_int, ?_⟩ | with_reducible refine ⟨_, cmp_ge_int, ?_⟩ | with_reducible refine ⟨_, tru_bl, ?_⟩
    | ((with_reducible refine ⟨_, ix_lst (w := ?_) (by assumption) ?_, ?_⟩); rotate_left; · rfl)
    | ((with_reducible refine And.intro (a := _ ≤ lim) ?_ ?_); · exact Nat.le_of_ble_eq_true rfl)
    | with_reducible refine wl_len (len_lst (by assumption)) ?_)

theorem Pool.grow {p : Nat} {h h' : Hs} (P : Pool p h) (k : ∀ (n : Nat) (o : Ob), h[n]? = some o → h'[n]? = some o) : Pool p h' := by
  obtain ⟨q, i, d, s, ns, e1, e2, e3, e4⟩ := P.ex
  exact ⟨q, i, d, s, ns, k _ _ e1, k _ _ e2, e3, e4⟩
theorem app_at {h l : Hs} {n : Nat} {o : Ob} (e : h[n]? = some o) : (h ++ l)[n]? = some o := by rw [List.getElem?_append_left (List.getElem?_eq_some_iff.mp e).1]; exact e
theorem new_at2 {h : Hs} {o : Ob} : (h ++ [o])[h.length]? = some o := by rw [List.getElem?_append_right (Nat.le_refl _)]; simp
/-- a new place -/
structure Nw (p n : Nat) (o : Ob) (h h' : Hs) : Prop where
  ne : n ≠ p
  at_ : h'[n]? = some o
  pool : Pool p h'
  kp : Kp p h h'
  gr : ∀ (m : Nat) (x : Ob), h[m]? = some x → h'[m]? = some x
  fr : h.length ≤ n
theorem Pool.nw {p : Nat} {h : Hs} {o : Ob} (P : Pool p h) : Nw p h.length o h (h ++ [o]) := ⟨fun z => by have := P.lt; omega, new_at2, P.grow fun _ _ e => app_at e, .app, fun _ _ e => app_at e, Nat.le_refl _⟩
section
variable {T : Tab} {cl : Nat → List W → Hs → Res W} {env : En} {h : Hs} {Q : W → Hs → Prop} {es : List E}
theorem we_lstP {p : Nat} (q : wp (evEs T cl es env h) fun ws h1 => ws.length ≤ lim ∧ Pool p h1 ∧ ∀ n h2, Nw p n (.lst ws) h1 h2 → Q (.loc n) h2) : wp (evE T cl (.lst es) env h) Q :=
  we_lst (q.mono fun ws h1 ⟨a, b, c⟩ => ⟨a, c _ _ b.nw⟩)
theorem wb_addl {p m n : Nat} {a b : List W} (P : Pool p h) (em : h[m]? = some (.lst a)) (en : h[n]? = some (.lst b)) (hl : a.length + b.length ≤ lim) (q : ∀ n h2, Nw p n (.lst (a ++ b)) h h2 → Q (.loc n) h2) : wp (addW T cl .add (.loc m) (.loc n) h) Q := by
  refine wp.of (a := .loc h.length) (h := h ++ [.lst (a ++ b)]) ?_ (q _ _ P.nw)
  unfold addW binW
  simp only [em, en, if_pos hl]
end
/-- a for over items that stand -/
theorem ws_forI {T : Tab} {cl : Nat → List W → Hs → Res W} {env : En} {h : Hs} {es : List E} {k : ItK} {tg : Tg} {body ss : List S} {QS : Fl → Hs → Prop} (I : List W → En → Hs → Prop)
    (q : wp (evEs T cl es env h) fun xs h1 => ∃ ws, srcW k xs h1 = some (.items ws) ∧ I ws env h1)
    (st : ∀ w r env g, I (w :: r) env g → ∃ env1, bindTg tg w env = some env1 ∧ wp (evSs T cl body env1 g) fun fl h2 => match fl with
      | .nx e => I r e h2
      | .ct e => I r e h2
      | .bk e => wp (evSs T cl ss e h2) QS
      | fl => QS fl h2)
    (fin : ∀ env g, I [] env g → wp (evSs T cl ss env g) QS) : wp (evSs T cl (.fors k es tg body :: ss) env h) QS := by
  refine ws_for (q.mono fun xs h1 ⟨ws, e, i⟩ => ⟨_, e, ?_⟩)
  rw [loopS_items]
  refine wloop ws (fun r s g => ∃ env, s = Fl.nx env ∧ I r env g) (Fl.nx env) h1 ⟨env, rfl, i⟩ ?_ ?_
  · rintro w r s g ⟨env, rfl, i⟩
    obtain ⟨env1, hb, wb⟩ := st w r env g i
    refine wturn hb (wb.mono fun fl h2 z => ?_)
    cases fl with
    | nx e => exact ⟨e, rfl, z⟩
    | ct e => exact ⟨e, rfl, z⟩
    | bk e => exact z
    | rt w => exact z
    | xc c fs e => exact z
  · rintro s g ⟨env, rfl, i⟩
    exact fin env g i
theorem readL_lst {g : Hs} {n : Nat} {ws : List W} (e : g[n]? = some (.lst ws)) : readL g n = some ws := by
  unfold readL
  simp only [e]
theorem wloopL {σ : Type} {step : W → σ → Hs → Res (Bool × σ)} {Q : σ → Hs → Prop} {n c : Nat} {all : List W} (I : List W → σ → Hs → Prop) (hI : ∀ r s g, I r s g → g[n]? = some (.lst all))
    (hs : ∀ w r s h, I (w :: r) s h → wp (step w s h) fun p h1 => if p.1 = true then I r p.2 h1 else Q p.2 h1) (hz : ∀ s h, I [] s h → Q s h) : ∀ (r pre : List W) (s : σ) (h : Hs), all = pre ++ r → I r s h → wp (loopG step (.live n c) r.length pre.length s h) Q
  | [], pre, s, h, e, i => by
    have h1 := readL_lst (hI _ _ _ i)
    show wp (match readL h n with
      | some ws => if ws.length ≤ pre.length then Res.ok s h else .bad
      | none => .bad) Q
    rw [h1]
    simp only
    rw [if_pos (by rw [e]; simp)]
    exact wp.ok (hz s h i)
  | w :: r, pre, s, h, e, i => by
    have h1 := readL_lst (hI _ _ _ i)
    have hw : all[pre.length]? = some w := by rw [e, List.getElem?_append_right (Nat.le_refl _)]; simp
    show wp (match readL h n with
      | some ws => match ws[pre.length]? with
        | some w => (step w s h).bind fun p h1 => if p.1 = true then loopG step (.live n c) r.length (pre.length + 1) p.2 h1 else .ok p.2 h1
        | none => .bad
      | none => .bad) Q
    rw [h1]
    simp only [hw]
    refine wp.bind ((hs w r s h i).mono fun p h2 q => ?_)
    cases e2 : p.1 with
    | true =>
      rw [e2] at q
      rw [if_pos rfl] at q ⊢
      have := wloopL (c := c) I hI hs hz r (pre ++ [w]) p.2 h2 (by rw [e]; simp) q
      rw [List.length_append] at this
      exact this
    | false =>
      rw [e2] at q
      simp only [Bool.false_eq_true, if_false] at q ⊢
      exact wp.ok q
/-- a for over a list that stays -/
theorem ws_forL {T : Tab} {cl : Nat → List W → Hs → Res W} {env : En} {h : Hs} {es : List E} {tg : Tg} {body ss : List S} {QS : Fl → Hs → Prop} (I : Nat → List W → List W → En → Hs → Prop)
    (q : wp (evEs T cl es env h) fun xs h1 => ∃ n ws, xs = [.loc n] ∧ I n ws ws env h1)
    (hI : ∀ n ws r env g, I n ws r env g → g[n]? = some (.lst ws))
    (st : ∀ n ws w r env g, I n ws (w :: r) env g → ∃ env1, bindTg tg w env = some env1 ∧ wp (evSs T cl body env1 g) fun fl h2 => match fl with
      | .nx e => I n ws r e h2
      | .ct e => I n ws r e h2
      | .bk e => wp (evSs T cl ss e h2) QS
      | fl => QS fl h2)
    (fin : ∀ n ws env g, I n ws [] env g → wp (evSs T cl ss env g) QS) : wp (evSs T cl (.fors .seq es tg body :: ss) env h) QS := by
  refine ws_for (q.mono fun xs h1 ⟨n, ws, e, i⟩ => ⟨.live n ws.length, ?_, ?_⟩)
  · subst e
    have := hI _ _ _ _ _ i
    simp only [srcW, this]
  · refine wloopL (all := ws) (fun r s g => ∃ env, s = Fl.nx env ∧ I n ws r env g) ?_ ?_ ?_ ws [] (Fl.nx env) h1 rfl ⟨env, rfl, i⟩
    · rintro r s g ⟨env, rfl, i⟩
      exact hI _ _ _ _ _ i
    · rintro w r s g ⟨env, rfl, i⟩
      obtain ⟨env1, hb, wb⟩ := st n ws w r env g i
      refine wturn hb (wb.mono fun fl h2 z => ?_)
      cases fl with
      | nx e => exact ⟨e, rfl, z⟩
      | ct e => exact ⟨e, rfl, z⟩
      | bk e => exact z
      | rt w => exact z
      | xc c fs e => exact z
    · rintro s g ⟨env, rfl, i⟩
      exact fin n ws env g i
theorem src_range {h : Hs} {j : Int} (h0 : -(2 ^ 62) ≤ j) (h1 : j < 2 ^ 62) : srcW .range [.int j] h = some (.items (intsFrom 0 j.toNat)) := by
  simp only [srcW, if_pos (And.intro h0 h1)]
theorem intsFrom_int : ∀ (n : Nat) (i : Int) (w : W), w ∈ intsFrom i n → ∃ j, w = .int j ∧ i ≤ j ∧ j < i + n
  | 0, _, _, h => by cases h
  | n + 1, i, w, h => by
    rcases List.mem_cons.mp h with e | m
    · exact ⟨i, e, Int.le_refl _, by omega⟩
    · obtain ⟨j, e, a, b⟩ := intsFrom_int n (i + 1) w m
      exact ⟨j, e, by omega, by omega⟩
theorem ix_str {h : Hs} {s : Str} {r m : Int} {Q : W → Prop} (r0 : 0 ≤ r) (r1 : r < m) (q : ∀ c, c ∈ s.cps.toList → Q (.str ⟨#[c]⟩)) (hm : m ≤ (s.length : Int)) (hl : s.length ≤ lim) : ∃ w, ixW (.str s) (.int r) h = some w ∧ Q w := by
  obtain ⟨x, ex, mx⟩ := atI_in (xs := s.cps.toList) r0 (by
    have : s.cps.toList.length = s.length := by simp [Str.length]
    omega)
  refine ⟨_, ?_, q x mx⟩
  unfold ixW
  simp only [if_pos hl, ex, Option.map_some]
theorem strOk_one {s : Str} {c : Nat} (h : PyData.strOk s = true) (m : c ∈ s.cps.toList) : PyData.strOk ⟨#[c]⟩ = true := by
  unfold PyData.strOk at h ⊢
  have := Array.all_eq_true_iff_forall_mem.mp h c (by simpa using m)
  simpa using this
theorem strOk_app {s t : Str} (hs : PyData.strOk s = true) (ht : PyData.strOk t = true) : PyData.strOk (s ++ t) = true := by
  unfold PyData.strOk at hs ht ⊢
  show (s.cps ++ t.cps).all _ = true
  rw [Array.all_append, hs, ht]
  rfl
theorem len_app {s t : Str} : (s ++ t).length = s.length + t.length := by
  show (s.cps ++ t.cps).size = _
  rw [Array.size_append]
  rfl
theorem datWs_str : ∀ xs : List Str, datWs (xs.map W.str) = some (xs.map PyData.str)
  | [] => rfl
  | x :: xs => by
    simp only [List.map_cons, datWs, datW, datWs_str xs, Option.bind_some, Option.map_some]
theorem depthAll_str : ∀ xs : List Str, PyData.depthAll (xs.map PyData.str) = 0
  | [] => by simp [PyData.depthAll]
  | x :: xs => by simp [PyData.depthAll, PyData.depth, depthAll_str xs]
theorem canLay_strs : ∀ {xs : List Str}, xs.all PyData.strOk = true → PyData.canLayAll0 (xs.map PyData.str) = true
  | [], _ => by simp [PyData.canLayAll0]
  | x :: xs, h => by
    rw [List.all_cons, Bool.and_eq_true] at h
    simp [PyData.canLayAll0, PyData.canLay0, h.1, canLay_strs h.2]
theorem shp_strs {xs : List Str} (h : xs.all PyData.strOk = true) : SeqAt.shaped (.tuple (xs.map PyData.str)) = true := by
  unfold SeqAt.shaped
  simp [PyData.canLay0, canLay_strs h, PyData.depth, depthAll_str]
theorem any_strs (s : Str) : ∀ xs : List Str, (xs.map PyData.str).any (fun z => PyData.eqv z (.str s)) = decide (s ∈ xs)
  | [] => by simp
  | x :: xs => by
    rw [List.map_cons, List.any_cons, any_strs s xs, PyData.eqv, bq]
    by_cases h : x = s
    · subst h
      simp
    · have h2 : ¬ s = x := fun z => h z.symm
      simp [h, h2]
theorem in_strs {h : Hs} {s : Str} (xs : List Str) (hs : PyData.strOk s = true) (hx : xs.all PyData.strOk = true) : cmpW .inn (.str s) (.tup (xs.map W.str)) h = some (decide (s ∈ xs)) := by
  show inR h (.str s) (.tup (xs.map W.str)) = _
  unfold inR
  simp only [datWs_str, datW, if_pos (And.intro (shp_str hs) (shp_strs hx)), any_strs]
/-! values that are all right -/
def goodS (s : Str) : Bool := PyData.strOk s && Nat.ble s.length 64
def goodW : W → Bool
  | .str s => goodS s
  | _ => false
def intW : W → Bool
  | .int _ => true
  | _ => false
theorem goodW_ok {w : W} (h : goodW w = true) : ∃ s, w = .str s ∧ goodS s = true := by
  cases w with
  | str s => exact ⟨s, rfl, h⟩
  | _ => cases h
theorem intW_ok {w : W} (h : intW w = true) : ∃ i, w = .int i := by
  cases w with
  | int s => exact ⟨s, rfl⟩
  | _ => cases h
theorem goodS_ok {s : Str} (h : goodS s = true) : PyData.strOk s = true ∧ s.length ≤ 64 := by
  obtain ⟨a, b⟩ := Bool.and_eq_true_iff.mp h
  exact ⟨a, Nat.le_of_ble_eq_true b⟩
/-- what every run that only draws leaves -/
structure Dn (p : Nat) (h h' : Hs) : Prop where
  pool : Pool p h'
  kp : Kp p h h'
theorem Dn.trans {p : Nat} {a b c : Hs} (x : Dn p a b) (y : Dn p b c) : Dn p a c := ⟨y.pool, x.kp.trans y.kp⟩
theorem Nw.dn {p n : Nat} {o : Ob} {h h' : Hs} (w : Nw p n o h h') : Dn p h h' := ⟨w.pool, w.kp⟩
theorem Pool.dn {p : Nat} {h : Hs} (P : Pool p h) : Dn p h h := ⟨P, .refl⟩
/-- a run that draws: what it gives -/
abbrev Dw (p : Nat) (h : Hs) (r : Res W) (Post : W → Prop) : Prop := wp r fun w h' => Dn p h h' ∧ Post w
theorem draw_ok' {T : Tab} {f k p : Nat} {m : Int} {h : Hs} (hf : T.fns[f]? = some ⟨2, 3, b_draw⟩) (P : Pool p h) (hm : 0 < m) (hl : m.natAbs.log2 < 9000) : Dw p h (evFn T (k + 1) f [.loc p, .int m] h) fun w => ∃ r : Int, w = .int r ∧ 0 ≤ r ∧ r < m :=
  (draw_ok hf P hm hl).mono fun _ _ ⟨r, e, a, b, c, d⟩ => ⟨⟨c, d⟩, r, e, a, b⟩

theorem Pool.touch {p n : Nat} {h h2 : Hs} (P : Pool p h) (k : Kp n h h2) (hn : p < n) : Pool p h2 := by
  obtain ⟨q, i, d, s, ns, e1, e2, e3, e4⟩ := P.ex
  exact ⟨q, i, d, s, ns, k.at_ _ _ (Nat.ne_of_lt hn) e1, k.at_ _ _ (by omega) e2, e3, e4⟩
/-- a store at a thing that is newer -/
theorem Dn.touch {p n : Nat} {h0 h h2 : Hs} (d : Dn p h0 h) (k : Kp n h h2) (hn : h0.length ≤ n) (hp : p < n) : Dn p h0 h2 :=
  ⟨d.pool.touch k hp, ⟨Nat.le_trans d.kp.le k.le, fun m o hm e => k.at_ _ _ (by have := (List.getElem?_eq_some_iff.mp e).1; omega) (d.kp.at_ m o hm e)⟩⟩
theorem wm_append {h : Hs} {n : Nat} {ws : List W} {x : W} {Q : W → Hs → Prop} (e : h[n]? = some (.lst ws)) (hl : ws.length < lim) (q : ∀ h2, h2[n]? = some (.lst (ws ++ [x])) → Kp n h h2 → Q .non h2) : wp (bmtW .append (.loc n) [x] h) Q :=
  wp.of (a := .non) (h := h.set n (.lst (ws ++ [x]))) (by unfold bmtW; simp only [e, if_pos hl]) (q _ (set_at (List.getElem?_eq_some_iff.mp e).1) .set)
theorem kind_lst {h : Hs} {n : Nat} {ws : List W} {m : Bm} (e : h[n]? = some (.lst ws)) (hm : lstM m = true) : kindW m (.loc n) h = true := by
  unfold kindW
  simp only [e, hm]
theorem wl_tuple {h : Hs} {n : Nat} {ws : List W} {Q : W → Hs → Prop} (e : h[n]? = some (.lst ws)) (q : Q (.tup ws) h) : wp (bltW .tuple [.loc n] h) Q :=
  wp.of (by unfold bltW; simp only [e]) q
def b_pick (d : Nat) : List S := [.ret (.ix (.var 1) (.call d [(.var 0), (.blt .len [(.var 1)])]))]
theorem pick_ok {T : Tab} {f d k p l : Nat} {ws : List W} {h : Hs} (hd : T.fns[d]? = some ⟨2, 3, b_draw⟩) (hf : T.fns[f]? = some ⟨2, 2, b_pick d⟩) (P : Pool p h) (hn : l ≠ p) (el : h[l]? = some (.lst ws)) (h0 : ws ≠ []) (hl : ws.length < 2 ^ 64) :
    Dw p h (evFn T (k + 2) f [.loc p, .loc l] h) fun w => w ∈ ws := by
  refine wf hf rfl rfl ?_
  refine ws_ret ?_
  repeat infer_instance
  have hp : 0 < ws.length := List.length_pos_iff.mpr h0
  refine (draw_ok' hd P (by omega) ?_).mono ?_
  · refine Nat.lt_of_lt_of_le (m := 65) ?_ (by decide)
    refine (Nat.log2_lt (by simp; omega)).mpr ?_
    simp
    omega
  · rintro _ h1 ⟨D1, r, rfl, r0, r1⟩
    have e1 := D1.kp.at_ _ _ hn el
    obtain ⟨x, ex, mx⟩ := atI_in r0 r1
    exact ⟨x, ix_lst e1 ex, D1, mx⟩
end Pc
set_option Elab.async false
set_option linter.all false
set_option maxRecDepth 100000
set_option maxHeartbeats 400000
namespace Pc
open PySem PySem.Spec PyProof.Rows L2
/-- what a comprehension's turn does -/
def lcStep (T : Tab) (cl : Nat → List W → Hs → Res W) (tg : Tg) (own : List Nat) (cs : List E) (e : E) (env : En) (d : Nat) (x : W) (_ : Unit) (g : Hs) : Res (Bool × Unit) := match bindTg tg x (wipeG env own) with
  | none => .bad
  | some env1 => (evCs T cl cs env1 g).quiet.bind fun b g1 => if b = true then (evE T cl e env1 g1).quiet.bind fun y g2 => (match g2[d]? with
      | some (.lst acc) => if acc.length < lim then .ok (true, ()) (g2.set d (.lst (acc ++ [y]))) else .bad
      | _ => .bad) else .ok (true, ()) g1
theorem we_lc0 {T : Tab} {cl : Nat → List W → Hs → Res W} {k : ItK} {es : List E} {tg : Tg} {own : List Nat} {cs : List E} {e : E} {env : En} {h : Hs} {Q : W → Hs → Prop}
    (q : wp (evEs T cl es env h) fun xs h1 => ∃ src, srcW k xs h1 = some src ∧ wp (loopS (lcStep T cl tg own cs e env h1.length) src () (h1 ++ [.lst []])) fun _ h2 => Q (.loc h1.length) h2) : wp (evE T cl (.lc k es tg own cs e) env h) Q := by
  simp only [evE]
  refine wp.bind (q.mono fun xs h1 ⟨src, e1, q⟩ => ?_)
  rw [e1]
  exact wp.bind (q.mono fun _ h2 z => wp.ok z)
/-- h grows -/
def Ext (h g : Hs) : Prop := ∀ (n : Nat) (o : Ob), h[n]? = some o → g[n]? = some o
/-- a turn's parts only read -/
def Rdo (T : Tab) (cl : Nat → List W → Hs → Res W) (tg : Tg) (own : List Nat) (cs : List E) (e : E) (env : En) (h1 : Hs) (pf : W → Bool) (ff : W → W) (w : W) : Prop :=
  ∃ env1, bindTg tg w (wipeG env own) = some env1 ∧ ∀ g, Ext h1 g → wp (evCs T cl cs env1 g) fun b g1 => g1 = g ∧ b = pf w ∧ (b = true → wp (evE T cl e env1 g) fun y g2 => g2 = g ∧ y = ff w)
section
variable {T : Tab} {cl : Nat → List W → Hs → Res W} {es : List E} {tg : Tg} {own : List Nat} {cs : List E} {e : E} {env : En} {h h1 : Hs} {Q : W → Hs → Prop} {pf : W → Bool} {ff : W → W}
theorem lc_turn {w : W} {acc : List W} (r : Rdo T cl tg own cs e env h1 pf ff w) (hl : acc.length < lim) : wp (lcStep T cl tg own cs e env h1.length w () (h1 ++ [.lst acc])) fun p g => p.1 = true ∧ g = h1 ++ [.lst (acc ++ (if pf w = true then [ff w] else []))] := by
  obtain ⟨env1, hb, ev⟩ := r
  unfold lcStep
  simp only [hb]
  refine wp.bind (wp.quiet ((ev (h1 ++ [.lst acc]) fun n o e => app_at e).mono fun b g1 ⟨e1, e2, z⟩ => ?_))
  subst e1
  cases b with
  | false => exact wp.ok ⟨rfl, by rw [← e2]; simp⟩
  | true =>
    rw [if_pos rfl]
    refine wp.bind (wp.quiet ((z rfl).mono fun y g2 ⟨e3, e4⟩ => ?_))
    subst e3 e4
    rw [new_at2]
    simp only
    rw [if_pos hl]
    refine wp.ok ⟨rfl, ?_⟩
    rw [← e2, if_pos rfl, List.set_append_right _ _ (Nat.le_refl _)]
    simp
theorem filt_snoc {pre : List W} {w : W} : ((pre ++ [w]).filter pf).map ff = (pre.filter pf).map ff ++ (if pf w = true then [ff w] else []) := by
  rw [List.filter_append, List.map_append]
  congr 1
  by_cases h : pf w = true
  · simp [h]
  · simp [h]
theorem lc_acc {pre r : List W} {ws : List W} (e : ws = pre ++ r) (hl : ws.length < lim) : ((pre.filter pf).map ff).length < lim := by
  rw [List.length_map]
  have h1 := List.length_filter_le pf pre
  have h2 : pre.length ≤ ws.length := by rw [e, List.length_append]; omega
  omega
/-- over a list -/
theorem we_lcL {p : Nat} (pf : W → Bool) (ff : W → W) (q : wp (evEs T cl es env h) fun xs h1 => ∃ n ws, xs = [.loc n] ∧ h1[n]? = some (.lst ws) ∧ ws.length < lim ∧ Pool p h1 ∧ (∀ w ∈ ws, Rdo T cl tg own cs e env h1 pf ff w) ∧ ∀ m h2, Nw p m (.lst ((ws.filter pf).map ff)) h1 h2 → Q (.loc m) h2) :
    wp (evE T cl (.lc .seq es tg own cs e) env h) Q := by
  refine we_lc0 (q.mono fun xs h1 ⟨n, ws, e1, en, hl, P, hw, z⟩ => ⟨.live n ws.length, ?_, ?_⟩)
  · subst e1
    simp only [srcW, en]
  · refine wloopL (all := ws) (fun r _ g => ∃ pre, ws = pre ++ r ∧ g = h1 ++ [.lst ((pre.filter pf).map ff)]) ?_ ?_ ?_ ws [] () _ rfl ⟨[], rfl, rfl⟩
    · rintro r s g ⟨pre, _, rfl⟩
      exact app_at en
    · rintro w r s g ⟨pre, e2, rfl⟩
      refine (lc_turn (hw w (by rw [e2]; simp)) (lc_acc e2 hl)).mono fun pq g2 ⟨e3, e4⟩ => ?_
      rw [if_pos e3]
      exact ⟨pre ++ [w], by rw [e2]; simp, by rw [e4, filt_snoc]⟩
    · rintro s g ⟨pre, e2, rfl⟩
      have e3 : pre = ws := by rw [e2]; simp
      rw [e3]
      exact z _ _ P.nw
/-- over a tuple -/
theorem we_lcT {p : Nat} (pf : W → Bool) (ff : W → W) (q : wp (evEs T cl es env h) fun xs h1 => ∃ ws, xs = [.tup ws] ∧ ws.length < lim ∧ Pool p h1 ∧ (∀ w ∈ ws, Rdo T cl tg own cs e env h1 pf ff w) ∧ ∀ m h2, Nw p m (.lst ((ws.filter pf).map ff)) h1 h2 → Q (.loc m) h2) :
    wp (evE T cl (.lc .seq es tg own cs e) env h) Q := by
  refine we_lc0 (q.mono fun xs h1 ⟨ws, e1, hl, P, hw, z⟩ => ⟨.items ws, ?_, ?_⟩)
  · subst e1
    rfl
  · rw [loopS_items]
    refine wloop ws (fun r _ g => ∃ pre, ws = pre ++ r ∧ g = h1 ++ [.lst ((pre.filter pf).map ff)]) () _ ⟨[], rfl, rfl⟩ ?_ ?_
    · rintro w r s g ⟨pre, e2, rfl⟩
      refine (lc_turn (hw w (by rw [e2]; simp)) (lc_acc e2 hl)).mono fun pq g2 ⟨e3, e4⟩ => ?_
      rw [if_pos e3]
      exact ⟨pre ++ [w], by rw [e2]; simp, by rw [e4, filt_snoc]⟩
    · rintro s g ⟨pre, e2, rfl⟩
      have e3 : pre = ws := by rw [e2]; simp
      rw [e3]
      exact z _ _ P.nw
end
end Pc
set_option Elab.async false
set_option linter.all false
set_option maxRecDepth 100000
set_option maxHeartbeats 400000
namespace Pc
open PySem PySem.Spec PyProof.Rows L2
section
variable {T : Tab} {cl : Nat → List W → Hs → Res W} {es : List E} {tg : Tg} {own : List Nat} {e : E} {env : En} {h h1 : Hs} {Q : W → Hs → Prop} {PY : W → Prop}
def Rdp (T : Tab) (cl : Nat → List W → Hs → Res W) (tg : Tg) (own : List Nat) (e : E) (env : En) (h1 : Hs) (PY : W → Prop) (w : W) : Prop :=
  ∃ env1, bindTg tg w (wipeG env own) = some env1 ∧ ∀ g, Ext h1 g → wp (evE T cl e env1 g) fun y g2 => g2 = g ∧ PY y
theorem lc_turnP {w : W} {acc : List W} (r : Rdp T cl tg own e env h1 PY w) (hl : acc.length < lim) : wp (lcStep T cl tg own [] e env h1.length w () (h1 ++ [.lst acc])) fun p g => p.1 = true ∧ ∃ y, PY y ∧ g = h1 ++ [.lst (acc ++ [y])] := by
  obtain ⟨env1, hb, ev⟩ := r
  unfold lcStep
  simp only [hb]
  refine wp.bind (wp.quiet (wc_nil ?_))
  rw [if_pos rfl]
  refine wp.bind (wp.quiet ((ev (h1 ++ [.lst acc]) fun n o e => app_at e).mono fun y g2 ⟨e3, e4⟩ => ?_))
  subst e3
  rw [new_at2]
  simp only
  rw [if_pos hl]
  refine wp.ok ⟨rfl, y, e4, ?_⟩
  rw [List.set_append_right _ _ (Nat.le_refl _)]
  simp
/-- over a list -/
theorem we_lcLP {p : Nat} (PY : W → Prop) (q : wp (evEs T cl es env h) fun xs h1 => ∃ n ws, xs = [.loc n] ∧ h1[n]? = some (.lst ws) ∧ ws.length < lim ∧ Pool p h1 ∧ (∀ w ∈ ws, Rdp T cl tg own e env h1 PY w) ∧ ∀ us m h2, us.length = ws.length → (∀ u ∈ us, PY u) → Nw p m (.lst us) h1 h2 → Q (.loc m) h2) :
    wp (evE T cl (.lc .seq es tg own [] e) env h) Q := by
  refine we_lc0 (q.mono fun xs h1 ⟨n, ws, e1, en, hl, P, hw, z⟩ => ⟨.live n ws.length, ?_, ?_⟩)
  · subst e1
    simp only [srcW, en]
  · refine wloopL (all := ws) (fun r _ g => ∃ pre us, ws = pre ++ r ∧ us.length = pre.length ∧ (∀ u ∈ us, PY u) ∧ g = h1 ++ [.lst us]) ?_ ?_ ?_ ws [] () _ rfl ⟨[], [], rfl, rfl, (fun _ h => by cases h), rfl⟩
    · rintro r s g ⟨pre, us, _, _, _, rfl⟩
      exact app_at en
    · rintro w r s g ⟨pre, us, e2, e3, e4, rfl⟩
      have hl2 : pre.length ≤ ws.length := by rw [e2, List.length_append]; omega
      refine (lc_turnP (hw w (by rw [e2]; simp)) (by omega)).mono fun pq g2 ⟨e5, y, hy, e6⟩ => ?_
      rw [if_pos e5]
      refine ⟨pre ++ [w], us ++ [y], by rw [e2]; simp, by simp [e3], fun u hu => ?_, e6⟩
      rcases List.mem_append.mp hu with mu | mu
      · exact e4 u mu
      · simp at mu
        rw [mu]
        exact hy
    · rintro s g ⟨pre, us, e2, e3, e4, rfl⟩
      have e5 : pre = ws := by rw [e2]; simp
      exact z us _ _ (by rw [e3, e5]) e4 P.nw
end
end Pc
set_option Elab.async false
set_option linter.all false
set_option maxRecDepth 100000
set_option maxHeartbeats 400000
namespace Pc
open PySem PySem.Spec PyProof.Rows L2
section
variable {T : Tab} {cl : Nat → List W → Hs → Res W} {es : List E} {tg : Tg} {own : List Nat} {e : E} {env : En} {h : Hs}
/-- a turn -/
theorem lc_one {d : Nat} {x : W} {g : Hs} {acc : List W} {env1 : En} {Q : Bool × Unit → Hs → Prop} (hb : bindTg tg x (wipeG env own) = some env1)
    (q : wp (evE T cl e env1 g) fun y g2 => g2[d]? = some (.lst acc) ∧ acc.length < lim ∧ ∀ g3, g3[d]? = some (.lst (acc ++ [y])) → Kp d g2 g3 → Q (true, ()) g3) : wp (lcStep T cl tg own [] e env d x () g) Q := by
  unfold lcStep
  simp only [hb]
  refine wp.bind (wp.quiet (wc_nil ?_))
  rw [if_pos rfl]
  refine wp.bind (wp.quiet (q.mono fun y g2 ⟨e3, hl, z⟩ => ?_))
  rw [e3]
  simp only
  rw [if_pos hl]
  exact wp.ok (z _ (set_at (List.getElem?_eq_some_iff.mp e3).1) .set)
theorem loop3 {step : W → Unit → Hs → Res (Bool × Unit)} {a b c : W} {g : Hs} {Q : Hs → Prop}
    (q : wp (step a () g) fun p g => p.1 = true ∧ wp (step b () g) fun p g => p.1 = true ∧ wp (step c () g) fun p g => p.1 = true ∧ Q g) : wp (loopS step (.items [a, b, c]) () g) fun _ g => Q g := by
  rw [loopS_items]
  unfold loopI
  refine wp.bind (q.mono fun p1 g1 ⟨e1, q⟩ => ?_)
  rw [if_pos e1]
  unfold loopI
  refine wp.bind (q.mono fun p1 g1 ⟨e1, q⟩ => ?_)
  rw [if_pos e1]
  unfold loopI
  refine wp.bind (q.mono fun p1 g1 ⟨e1, q⟩ => ?_)
  rw [if_pos e1]
  unfold loopI
  exact wp.ok q
theorem loop3L {step : W → Unit → Hs → Res (Bool × Unit)} {a b c : W} {g : Hs} {n : Nat} {Q : Hs → Prop} (e0 : g[n]? = some (.lst [a, b, c]))
    (q : wp (step a () g) fun p g => p.1 = true ∧ g[n]? = some (.lst [a, b, c]) ∧ wp (step b () g) fun p g => p.1 = true ∧ g[n]? = some (.lst [a, b, c]) ∧ wp (step c () g) fun p g => p.1 = true ∧ g[n]? = some (.lst [a, b, c]) ∧ Q g) : wp (loopS step (.live n 3) () g) fun _ g => Q g := by
  have st : ∀ (i : Nat) (x : W) (k : Nat) (s : Unit) (g : Hs) (Q' : Unit → Hs → Prop), g[n]? = some (.lst [a, b, c]) → [a, b, c][i]? = some x → (wp (step x s g) fun p g1 => p.1 = true ∧ wp (loopG step (.live n 3) k (i + 1) p.2 g1) Q') → wp (loopG step (.live n 3) (k + 1) i s g) Q' := fun i x k s g Q' eg ex z => by
    unfold loopG
    have e2 : curW (.live n 3) g = some [a, b, c] := readL_lst eg
    rw [e2]
    simp only [ex]
    refine wp.bind (z.mono fun p g1 ⟨e1, z⟩ => ?_)
    rw [if_pos e1]
    exact z
  unfold loopS
  refine st 0 a 2 () g _ e0 rfl (q.mono fun p1 g1 ⟨e1, e0, q⟩ => ⟨e1, ?_⟩)
  refine st 1 b 1 () g1 _ e0 rfl (q.mono fun p1 g1 ⟨e1, e0, q⟩ => ⟨e1, ?_⟩)
  refine st 2 c 0 () g1 _ e0 rfl (q.mono fun p1 g1 ⟨e1, e0, q⟩ => ⟨e1, ?_⟩)
  unfold loopG
  have e2 : curW (.live n 3) g1 = some [a, b, c] := readL_lst e0
  rw [e2]
  exact wp.ok q
end
end Pc
set_option Elab.async false
set_option linter.all false
set_option maxRecDepth 100000
set_option maxHeartbeats 4000000
namespace K60
open PySem PySem.Spec PyProof.Rows L2 Pc
abbrev prg : Program := PySem.Challenge.pw_sameruns_k60_join_brackets
/-- Object___init__(self, words, functions, data, needs, places, marks): 0 self, 1 words, 2 functions, 3 data, 4 needs, 5 places, 6 marks -/
def b_Object___init__ : List S := [.seta (.var 0) 2 (.var 1), .seta (.var 0) 3 (.var 2), .seta (.var 0) 4 (.var 3), .seta (.var 0) 5 (.var 4), .seta (.var 0) 6 (.var 5), .seta (.var 0) 7 (.var 6)]
abbrev s_Object___init__ : Stmt := stAt (stCls (stAt prg.main.body 2)) 0
/-- Object_parts(self): 0 self -/
def b_Object_parts : List S := [.ret (.tup [(.att (.var 0) 2), (.att (.var 0) 3), (.att (.var 0) 4), (.att (.var 0) 5), (.att (.var 0) 6), (.att (.var 0) 7)])]
abbrev s_Object_parts : Stmt := stAt (stCls (stAt prg.main.body 2)) 1
/-- Object_size(self): 0 self -/
def b_Object_size : List S := [.ret (.blt .len [(.att (.var 0) 2)])]
abbrev s_Object_size : Stmt := stAt (stCls (stAt prg.main.body 2)) 2
/-- Object___add__(self, other): 0 self, 1 other, 2 count, 3 functions, 4 places, 5 marks, 6 name, 7 start, 8 params, 9 frame, 10 index, 11 kind, 12 chain, 13 need -/
def b_Object___add__ : List S := [.set 2 (.blt .len [(.att (.var 0) 2)]), .set 3 (.lc .seq [(.att (.var 1) 3)] (.tp [(.nm 6), (.nm 7), (.nm 8), (.nm 9)]) [6, 7, 8, 9] [] (.tup [(.var 6), (.bin .add (.var 2) (.var 7)), (.var 8), (.var 9)])), .set 4 (.lc .seq [(.att (.var 1) 6)] (.tp [(.nm 10), (.nm 11), (.nm 6)]) [10, 11, 6] [] (.tup [(.bin .add (.var 2) (.var 10)), (.var 11), (.var 6)])), .set 5 (.lc .seq [(.att (.var 1) 7)] (.tp [(.nm 10), (.nm 11), (.nm 12)]) [10, 11, 12] [] (.tup [(.bin .add (.var 2) (.var 10)), (.var 11), (.var 12)])), .ret (.new 0 [(.bin .add (.att (.var 0) 2) (.att (.var 1) 2)), (.bin .add (.att (.var 0) 3) (.blt .tuple [(.var 3)])), (.bin .add (.att (.var 0) 4) (.att (.var 1) 4)), (.bin .add (.att (.var 0) 5) (.blt .tuple [(.lc .seq [(.att (.var 1) 5)] (.nm 13) [13] [(.val (.cmp .notin (.var 13) (.att (.var 0) 5)))] (.var 13))])), (.bin .add (.att (.var 0) 6) (.blt .tuple [(.var 4)])), (.bin .add (.att (.var 0) 7) (.blt .tuple [(.var 5)]))])]
abbrev s_Object___add__ : Stmt := stAt (stCls (stAt prg.main.body 2)) 3
/-- _law_pool(_law_script): 0 _law_script -/
def b__law_pool : List S := [.ret (.lst [(.blt .list [(.slc (.var 0) none (some (.lit (.int 63))))]), (.lit (.int 0)), (.lit (.int 0)), (.lit (.int 11))])]
abbrev s__law_pool : Stmt := stAt prg.main.body 4
/-- _law_draw(_law_pool_here, _law_many_here): 0 _law_pool_here, 1 _law_many_here, 2 _law_digit -/
def b__law_draw : List S := [.whil (.and [(.val (.cmp .eq (.ix (.var 0) (.lit (.int 2))) (.lit (.int 0)))), (.val (.cmp .lt (.ix (.var 0) (.lit (.int 1))) (.blt .len [(.ix (.var 0) (.lit (.int 0)))])))]) [.seti (.var 0) (.lit (.int 2)) (.blt .abs [(.ix (.ix (.var 0) (.lit (.int 0))) (.ix (.var 0) (.lit (.int 1))))]), .seti (.var 0) (.lit (.int 1)) (.bin .add (.ix (.var 0) (.lit (.int 1))) (.lit (.int 1)))], .ifs (.val (.cmp .eq (.ix (.var 0) (.lit (.int 2))) (.lit (.int 0)))) [.seti (.var 0) (.lit (.int 3)) (.bin .add (.ix (.var 0) (.lit (.int 3))) (.lit (.int 7))), .ret (.bin .mod (.blt .int [(.bin .fdiv (.ix (.var 0) (.lit (.int 3))) (.lit (.int 3)))]) (.var 1))] [], .set 2 (.bin .mod (.blt .int [(.ix (.var 0) (.lit (.int 2)))]) (.var 1)), .seti (.var 0) (.lit (.int 2)) (.bin .fdiv (.blt .int [(.ix (.var 0) (.lit (.int 2)))]) (.var 1)), .ret (.var 2)]
abbrev s__law_draw : Stmt := stAt prg.main.body 5
/-- _law_pick(_law_pool_here, _law_things): 0 _law_pool_here, 1 _law_things -/
def b__law_pick : List S := [.ret (.ix (.var 1) (.call 5 [(.var 0), (.blt .len [(.var 1)])]))]
abbrev s__law_pick : Stmt := stAt prg.main.body 6
/-- _law_word(_law_pool_here): 0 _law_pool_here, 1 _law_kind, 2 _law_edges -/
def b__law_word : List S := [.set 1 (.call 5 [(.var 0), (.lit (.int 4))]), .ifs (.val (.cmp .lt (.var 1) (.lit (.int 2)))) [.ret (.bin .sub (.call 5 [(.var 0), (.lit (.int 12))]) (.lit (.int 4)))] [], .set 2 (.lst [(.neg (.lit (.int 2147483648))), (.neg (.lit (.int 2147483647))), (.neg (.lit (.int 2049))), (.neg (.lit (.int 2048))), (.neg (.lit (.int 1))), (.lit (.int 0)), (.lit (.int 1)), (.lit (.int 31)), (.lit (.int 32)), (.lit (.int 33)), (.lit (.int 2047)), (.lit (.int 2048)), (.lit (.int 4095)), (.lit (.int 2147483647))]), .ifs (.val (.cmp .eq (.var 1) (.lit (.int 2)))) [.ret (.ix (.var 2) (.call 5 [(.var 0), (.lit (.int 14))]))] [], .ret (.bin .sub (.call 5 [(.var 0), (.lit (.int 4294967296))]) (.lit (.int 2147483648)))]
abbrev s__law_word : Stmt := stAt prg.main.body 7
/-- _law_alike(_law_a, _law_b): 0 _law_a, 1 _law_b, 2 _law_k -/
def b__law_alike : List S := [.ifs (.val (.isi (.var 1) [.tup, .lst])) [.ifs (.and [(.val (.isi (.var 1) [.tup])), (.not (.val (.isi (.var 0) [.tup])))]) [.ret (.lit (.bl false))] [], .ifs (.and [(.val (.isi (.var 1) [.lst])), (.not (.val (.isi (.var 0) [.lst])))]) [.ret (.lit (.bl false))] [], .ifs (.val (.cmp .ne (.blt .len [(.var 0)]) (.blt .len [(.var 1)]))) [.ret (.lit (.bl false))] [], .fors .range [(.blt .len [(.var 1)])] (.nm 2) [.ifs (.not (.val (.call 8 [(.ix (.var 0) (.var 2)), (.ix (.var 1) (.var 2))]))) [.ret (.lit (.bl false))] []], .ret (.lit (.bl true))] [], .ifs (.val (.cmp .is (.var 1) (.lit .non))) [.ret (.cmp .is (.var 0) (.lit .non))] [], .ifs (.val (.cmp .is (.var 1) (.lit (.bl true)))) [.ret (.cmp .is (.var 0) (.lit (.bl true)))] [], .ifs (.val (.cmp .is (.var 1) (.lit (.bl false)))) [.ret (.cmp .is (.var 0) (.lit (.bl false)))] [], .ifs (.val (.isi (.var 1) [.str])) [.ret (.and [(.isi (.var 0) [.str]), (.cmp .eq (.var 0) (.var 1))])] [], .ret (.and [(.isi (.var 0) [.int]), (.not (.isi (.var 0) [.bool])), (.cmp .eq (.var 0) (.var 1))])]
abbrev s__law_alike : Stmt := stAt prg.main.body 8
/-- _law_table(): 0 _law_table_here, 1 _law_three, 2 _law_other, 3 _law_k, 4 _law_pair -/
def b__law_table : List S := [.set 0 (.dct [(.lit (.str "jalr")), (.tup [(.lit (.str "I")), (.lit (.int 103)), (.lit (.int 0)), (.lit (.int 0))]), (.lit (.str "lw")), (.tup [(.lit (.str "I")), (.lit (.int 3)), (.lit (.int 2)), (.lit (.int 0))]), (.lit (.str "sw")), (.tup [(.lit (.str "S")), (.lit (.int 35)), (.lit (.int 2)), (.lit (.int 0))])]), .seti (.var 0) (.lit (.str "jal")) (.tup [(.lit (.str "J")), (.lit (.int 111)), (.lit (.int 0)), (.lit (.int 0))]), .seti (.var 0) (.lit (.str "lui")) (.tup [(.lit (.str "U")), (.lit (.int 55)), (.lit (.int 0)), (.lit (.int 0))]), .seti (.var 0) (.lit (.str "auipc")) (.tup [(.lit (.str "U")), (.lit (.int 23)), (.lit (.int 0)), (.lit (.int 0))]), .set 1 (.lst [(.lit (.str "add")), (.lit (.str "sll")), (.lit (.str "slt")), (.lit (.str "sltu")), (.lit (.str "xor")), (.lit (.str "srl")), (.lit (.str "or")), (.lit (.str "and"))]), .set 2 (.lst [(.lit (.str "mul")), (.lit (.str "mulh")), (.lit (.str "mulhsu")), (.lit (.str "mulhu")), (.lit (.str "div")), (.lit (.str "divu")), (.lit (.str "rem")), (.lit (.str "remu"))]), .fors .range [(.lit (.int 8))] (.nm 3) [.seti (.var 0) (.ix (.var 1) (.var 3)) (.tup [(.lit (.str "R")), (.lit (.int 51)), (.var 3), (.lit (.int 0))]), .seti (.var 0) (.ix (.var 2) (.var 3)) (.tup [(.lit (.str "R")), (.lit (.int 51)), (.var 3), (.lit (.int 1))])], .seti (.var 0) (.lit (.str "sub")) (.tup [(.lit (.str "R")), (.lit (.int 51)), (.lit (.int 0)), (.lit (.int 32))]), .seti (.var 0) (.lit (.str "sra")) (.tup [(.lit (.str "R")), (.lit (.int 51)), (.lit (.int 5)), (.lit (.int 32))]), .fors .seq [(.lst [(.tup [(.lit (.str "addi")), (.lit (.int 0))]), (.tup [(.lit (.str "slti")), (.lit (.int 2))]), (.tup [(.lit (.str "sltiu")), (.lit (.int 3))]), (.tup [(.lit (.str "xori")), (.lit (.int 4))]), (.tup [(.lit (.str "ori")), (.lit (.int 6))]), (.tup [(.lit (.str "andi")), (.lit (.int 7))])])] (.nm 4) [.seti (.var 0) (.ix (.var 4) (.lit (.int 0))) (.tup [(.lit (.str "I")), (.lit (.int 19)), (.ix (.var 4) (.lit (.int 1))), (.lit (.int 0))])], .seti (.var 0) (.lit (.str "slli")) (.tup [(.lit (.str "shift")), (.lit (.int 19)), (.lit (.int 1)), (.lit (.int 0))]), .seti (.var 0) (.lit (.str "srli")) (.tup [(.lit (.str "shift")), (.lit (.int 19)), (.lit (.int 5)), (.lit (.int 0))]), .seti (.var 0) (.lit (.str "srai")) (.tup [(.lit (.str "shift")), (.lit (.int 19)), (.lit (.int 5)), (.lit (.int 32))]), .fors .seq [(.lst [(.tup [(.lit (.str "beq")), (.lit (.int 0))]), (.tup [(.lit (.str "bne")), (.lit (.int 1))]), (.tup [(.lit (.str "blt")), (.lit (.int 4))]), (.tup [(.lit (.str "bge")), (.lit (.int 5))]), (.tup [(.lit (.str "bltu")), (.lit (.int 6))]), (.tup [(.lit (.str "bgeu")), (.lit (.int 7))])])] (.nm 4) [.seti (.var 0) (.ix (.var 4) (.lit (.int 0))) (.tup [(.lit (.str "B")), (.lit (.int 99)), (.ix (.var 4) (.lit (.int 1))), (.lit (.int 0))])], .ret (.var 0)]
abbrev s__law_table : Stmt := stAt prg.main.body 9
/-- _law_encoded(_law_table_here, _law_row): 0 _law_table_here, 1 _law_row, 2 _law_form, 3 _law_m, 4 _law_bits -/
def b__law_encoded : List S := [.ifs (.val (.cmp .eq (.blt .len [(.var 1)]) (.lit (.int 1)))) [.ret (.ite (.val (.cmp .eq (.ix (.var 1) (.lit (.int 0))) (.lit (.str "ecall")))) (.lit (.int 115)) (.lit (.int 1048691)))] [], .set 2 (.ix (.var 0) (.ix (.var 1) (.lit (.int 0)))), .ifs (.val (.cmp .eq (.ix (.var 2) (.lit (.int 0))) (.lit (.str "U")))) [.ret (.bin .add (.bin .add (.bin .mul (.ix (.var 1) (.lit (.int 2))) (.lit (.int 4096))) (.bin .mul (.ix (.var 1) (.lit (.int 1))) (.lit (.int 128)))) (.ix (.var 2) (.lit (.int 1))))] [], .ifs (.val (.cmp .eq (.ix (.var 2) (.lit (.int 0))) (.lit (.str "J")))) [.set 3 (.bin .mod (.blt .int [(.ix (.var 1) (.lit (.int 2)))]) (.lit (.int 2097152))), .set 4 (.bin .add (.bin .add (.bin .mul (.bin .fdiv (.var 3) (.lit (.int 1048576))) (.lit (.int 524288))) (.bin .mul (.bin .mod (.bin .fdiv (.var 3) (.lit (.int 2))) (.lit (.int 1024))) (.lit (.int 512)))) (.bin .mul (.bin .mod (.bin .fdiv (.var 3) (.lit (.int 2048))) (.lit (.int 2))) (.lit (.int 256)))), .ret (.bin .add (.bin .add (.bin .mul (.bin .add (.var 4) (.bin .mod (.bin .fdiv (.var 3) (.lit (.int 4096))) (.lit (.int 256)))) (.lit (.int 4096))) (.bin .mul (.ix (.var 1) (.lit (.int 1))) (.lit (.int 128)))) (.ix (.var 2) (.lit (.int 1))))] [], .ifs (.or [(.val (.cmp .eq (.ix (.var 2) (.lit (.int 0))) (.lit (.str "R")))), (.val (.cmp .eq (.ix (.var 2) (.lit (.int 0))) (.lit (.str "shift"))))]) [.set 4 (.bin .add (.bin .add (.bin .mul (.ix (.var 2) (.lit (.int 3))) (.lit (.int 33554432))) (.bin .mul (.ix (.var 1) (.lit (.int 3))) (.lit (.int 1048576)))) (.bin .mul (.ix (.var 1) (.lit (.int 2))) (.lit (.int 32768)))), .ret (.bin .add (.bin .add (.bin .add (.var 4) (.bin .mul (.ix (.var 2) (.lit (.int 2))) (.lit (.int 4096)))) (.bin .mul (.ix (.var 1) (.lit (.int 1))) (.lit (.int 128)))) (.ix (.var 2) (.lit (.int 1))))] [], .ifs (.val (.cmp .eq (.ix (.var 2) (.lit (.int 0))) (.lit (.str "I")))) [.set 3 (.bin .mod (.blt .int [(.ix (.var 1) (.lit (.int 3)))]) (.lit (.int 4096))), .ret (.bin .add (.bin .add (.bin .add (.bin .add (.bin .mul (.var 3) (.lit (.int 1048576))) (.bin .mul (.ix (.var 1) (.lit (.int 2))) (.lit (.int 32768)))) (.bin .mul (.ix (.var 2) (.lit (.int 2))) (.lit (.int 4096)))) (.bin .mul (.ix (.var 1) (.lit (.int 1))) (.lit (.int 128)))) (.ix (.var 2) (.lit (.int 1))))] [], .ifs (.val (.cmp .eq (.ix (.var 2) (.lit (.int 0))) (.lit (.str "S")))) [.set 3 (.bin .mod (.blt .int [(.ix (.var 1) (.lit (.int 3)))]) (.lit (.int 4096))), .set 4 (.bin .add (.bin .add (.bin .add (.bin .mul (.bin .fdiv (.var 3) (.lit (.int 32))) (.lit (.int 33554432))) (.bin .mul (.ix (.var 1) (.lit (.int 1))) (.lit (.int 1048576)))) (.bin .mul (.ix (.var 1) (.lit (.int 2))) (.lit (.int 32768)))) (.bin .mul (.ix (.var 2) (.lit (.int 2))) (.lit (.int 4096)))), .ret (.bin .add (.bin .add (.var 4) (.bin .mul (.bin .mod (.var 3) (.lit (.int 32))) (.lit (.int 128)))) (.ix (.var 2) (.lit (.int 1))))] [], .set 3 (.bin .mod (.blt .int [(.ix (.var 1) (.lit (.int 3)))]) (.lit (.int 8192))), .set 4 (.bin .add (.bin .add (.bin .mul (.bin .add (.bin .mul (.bin .fdiv (.var 3) (.lit (.int 4096))) (.lit (.int 64))) (.bin .mod (.bin .fdiv (.var 3) (.lit (.int 32))) (.lit (.int 64)))) (.lit (.int 33554432))) (.bin .mul (.ix (.var 1) (.lit (.int 2))) (.lit (.int 1048576)))) (.bin .mul (.ix (.var 1) (.lit (.int 1))) (.lit (.int 32768)))), .ret (.bin .add (.bin .add (.bin .add (.var 4) (.bin .mul (.ix (.var 2) (.lit (.int 2))) (.lit (.int 4096)))) (.bin .mul (.bin .add (.bin .mul (.bin .mod (.bin .fdiv (.var 3) (.lit (.int 2))) (.lit (.int 16))) (.lit (.int 2))) (.bin .mod (.bin .fdiv (.var 3) (.lit (.int 2048))) (.lit (.int 2)))) (.lit (.int 128)))) (.ix (.var 2) (.lit (.int 1))))]
abbrev s__law_encoded : Stmt := stAt prg.main.body 10
/-- _law_edge(_law_pool_here, _law_least, _law_greatest): 0 _law_pool_here, 1 _law_least, 2 _law_greatest, 3 _law_kind -/
def b__law_edge : List S := [.set 3 (.call 5 [(.var 0), (.lit (.int 5))]), .ifs (.val (.cmp .eq (.var 3) (.lit (.int 0)))) [.ret (.var 1)] [], .ifs (.val (.cmp .eq (.var 3) (.lit (.int 1)))) [.ret (.var 2)] [], .ifs (.val (.cmp .eq (.var 3) (.lit (.int 2)))) [.ret (.lit (.int 0))] [], .ret (.bin .add (.var 1) (.call 5 [(.var 0), (.bin .add (.bin .sub (.var 2) (.var 1)) (.lit (.int 1)))]))]
abbrev s__law_edge : Stmt := stAt prg.main.body 11
/-- _law_drawn_row(_law_pool_here, _law_table_here): 0 _law_pool_here, 1 _law_table_here, 2 _law_kind, 3 _law_form, 4 _law_a, 5 _law_b -/
def b__law_drawn_row : List S := [.set 2 (.call 6 [(.var 0), (.bin .add (.blt .list [(.var 1)]) (.lst [(.lit (.str "ecall")), (.lit (.str "ebreak"))]))]), .ifs (.val (.cmp .inn (.var 2) (.tup [(.lit (.str "ecall")), (.lit (.str "ebreak"))]))) [.ret (.tup [(.var 2)])] [], .set 3 (.ix (.ix (.var 1) (.var 2)) (.lit (.int 0))), .set 4 (.call 5 [(.var 0), (.lit (.int 32))]), .ifs (.val (.cmp .eq (.var 3) (.lit (.str "U")))) [.ret (.tup [(.var 2), (.var 4), (.call 11 [(.var 0), (.lit (.int 0)), (.lit (.int 1048575))])])] [], .ifs (.val (.cmp .eq (.var 3) (.lit (.str "J")))) [.ret (.tup [(.var 2), (.var 4), (.bin .mul (.lit (.int 2)) (.call 11 [(.var 0), (.neg (.lit (.int 524288))), (.lit (.int 524287))]))])] [], .set 5 (.call 5 [(.var 0), (.lit (.int 32))]), .ifs (.val (.cmp .eq (.var 3) (.lit (.str "B")))) [.ret (.tup [(.var 2), (.var 4), (.var 5), (.bin .mul (.lit (.int 2)) (.call 11 [(.var 0), (.neg (.lit (.int 2048))), (.lit (.int 2047))]))])] [], .ifs (.or [(.val (.cmp .eq (.var 3) (.lit (.str "I")))), (.val (.cmp .eq (.var 3) (.lit (.str "S"))))]) [.ret (.tup [(.var 2), (.var 4), (.var 5), (.call 11 [(.var 0), (.neg (.lit (.int 2048))), (.lit (.int 2047))])])] [], .ret (.tup [(.var 2), (.var 4), (.var 5), (.call 5 [(.var 0), (.lit (.int 32))])])]
abbrev s__law_drawn_row : Stmt := stAt prg.main.body 12
/-- _law_title(_law_pool_here): 0 _law_pool_here, 1 _law_signs, 2 _law_out, 3 _law_turn, 4 _law_some -/
def b__law_title : List S := [.ifs (.val (.cmp .gt (.call 5 [(.var 0), (.lit (.int 3))]) (.lit (.int 0)))) [.set 4 (.lst [(.lit (.str "g")), (.lit (.str "main")), (.lit (.str "f")), (.lit (.str "x5")), (.lit (.str "call")), (.lit (.str "high")), (.lit (.str "low")), (.lit (.str "need")), (.lit (.str "array")), (.lit (.str "mark"))]), .ret (.call 6 [(.var 0), (.bin .add (.var 4) (.lst [(.lit (.str "function")), (.lit (.str "add")), (.lit (.str "lw")), (.lit (.str "ecall")), (.lit (.str "a0")), (.lit (.str "abcdefgh"))]))])] [], .set 1 (.lit (.str "abcdefghijklmnopqrstuvwxyz0123456789")), .set 2 (.ix (.var 1) (.call 5 [(.var 0), (.lit (.int 26))])), .fors .range [(.call 5 [(.var 0), (.lit (.int 8))])] (.nm 3) [.set 2 (.bin .add (.var 2) (.ix (.var 1) (.call 5 [(.var 0), (.lit (.int 36))])))], .ifs (.val (.cmp .inn (.var 2) (.tup [(.lit (.str "break")), (.lit (.str "continue")), (.lit (.str "else")), (.lit (.str "if")), (.lit (.str "mod")), (.lit (.str "return")), (.lit (.str "tell")), (.lit (.str "use")), (.lit (.str "while")), (.lit (.str "word"))]))) [.ret (.lit (.str "zz"))] [], .ret (.var 2)]
abbrev s__law_title : Stmt := stAt prg.main.body 13
/-- _law_many(_law_pool_here): 0 _law_pool_here -/
def b__law_many : List S := [.ret (.call 6 [(.var 0), (.lst [(.lit (.int 0)), (.lit (.int 0)), (.lit (.int 0)), (.lit (.int 0)), (.lit (.int 1)), (.lit (.int 1)), (.lit (.int 1)), (.lit (.int 1)), (.lit (.int 1)), (.lit (.int 2)), (.lit (.int 2)), (.lit (.int 2)), (.lit (.int 2)), (.lit (.int 3)), (.lit (.int 3)), (.lit (.int 6))])])]
abbrev s__law_many : Stmt := stAt prg.main.body 14
/-- _law_long(_law_pool_here): 0 _law_pool_here -/
def b__law_long : List S := [.ret (.call 6 [(.var 0), (.lst [(.lit (.int 1)), (.lit (.int 2)), (.lit (.int 9)), (.lit (.int 10)), (.lit (.int 999)), (.lit (.int 1000)), (.bin .add (.lit (.int 1)) (.call 5 [(.var 0), (.lit (.int 1000))]))])])]
abbrev s__law_long : Stmt := stAt prg.main.body 15
/-- _law_want(_law_pool_here): 0 _law_pool_here, 1 _law_title_here, 2 _law_kind -/
def b__law_want : List S := [.set 1 (.call 13 [(.var 0)]), .set 2 (.call 5 [(.var 0), (.lit (.int 3))]), .ifs (.val (.cmp .eq (.var 2) (.lit (.int 0)))) [.ret (.tup [(.var 1), (.lit (.str "word")), (.lit (.int 0))])] [], .ifs (.val (.cmp .eq (.var 2) (.lit (.int 1)))) [.ret (.tup [(.var 1), (.lit (.str "array")), (.call 15 [(.var 0)])])] [], .ret (.tup [(.var 1), (.lit (.str "function")), (.call 5 [(.var 0), (.lit (.int 7))])])]
abbrev s__law_want : Stmt := stAt prg.main.body 16
/-- _law_datum(_law_pool_here): 0 _law_pool_here, 1 _law_title_here -/
def b__law_datum : List S := [.set 1 (.call 13 [(.var 0)]), .ifs (.val (.cmp .eq (.call 5 [(.var 0), (.lit (.int 2))]) (.lit (.int 0)))) [.ret (.tup [(.var 1), (.lit (.int 0)), (.call 7 [(.var 0)])])] [], .ret (.tup [(.var 1), (.call 15 [(.var 0)]), (.lit (.int 0))])]
abbrev s__law_datum : Stmt := stAt prg.main.body 17
/-- _law_chain(_law_pool_here): 0 _law_pool_here, 1 _law_out, 2 _law_turn, 3 _law_title_here, 4 _law_some -/
def b__law_chain : List S := [.set 1 (.lst []), .fors .range [(.call 6 [(.var 0), (.lst [(.lit (.int 1)), (.lit (.int 1)), (.lit (.int 2)), (.lit (.int 3)), (.lit (.int 8))])])] (.nm 2) [.set 3 (.call 13 [(.var 0)]), .set 4 (.lst [(.lit (.int 0)), (.lit (.int 9)), (.lit (.int 10)), (.lit (.int 199)), (.call 5 [(.var 0), (.lit (.int 200))])]), .expr (.bmt .append (.var 1) [(.tup [(.var 3), (.call 6 [(.var 0), (.var 4)])])])], .ret (.blt .tuple [(.var 1)])]
abbrev s__law_chain : Stmt := stAt prg.main.body 18
/-- _law_open_row(_law_pool_here, _law_calls, _law_outers): 0 _law_pool_here, 1 _law_calls, 2 _law_outers, 3 _law_kind, 4 _law_a, 5 _law_b, 6 _law_way -/
def b__law_open_row : List S := [.set 3 (.call 5 [(.var 0), (.lit (.int 5))]), .set 4 (.call 5 [(.var 0), (.lit (.int 32))]), .set 5 (.call 5 [(.var 0), (.lit (.int 32))]), .ifs (.and [(.val (.cmp .eq (.var 3) (.lit (.int 0)))), (.val (.cmp .ne (.var 1) (.lst [])))]) [.ret (.tup [(.tup [(.lit (.str "jal")), (.var 4), (.lit (.int 0))]), (.lit (.str "call")), (.call 6 [(.var 0), (.var 1)])])] [], .ifs (.and [(.val (.cmp .eq (.var 3) (.lit (.int 1)))), (.val (.cmp .ne (.var 2) (.lst [])))]) [.ret (.tup [(.tup [(.lit (.str "lui")), (.var 4), (.lit (.int 0))]), (.lit (.str "high")), (.call 6 [(.var 0), (.var 2)])])] [], .ifs (.and [(.val (.cmp .gt (.var 3) (.lit (.int 1)))), (.val (.cmp .ne (.var 2) (.lst [])))]) [.set 6 (.ix (.lst [(.lit (.str "addi")), (.lit (.str "lw")), (.lit (.str "sw"))]) (.bin .sub (.var 3) (.lit (.int 2)))), .ret (.tup [(.tup [(.var 6), (.var 4), (.var 5), (.lit (.int 0))]), (.lit (.str "low")), (.call 6 [(.var 0), (.var 2)])])] [], .ret (.tup [(.tup [(.lit (.str "addi")), (.var 4), (.var 5), (.lit (.int 0))]), (.lit (.str "")), (.lit (.str ""))])]
abbrev s__law_open_row : Stmt := stAt prg.main.body 19
/-- _law_one_word(_law_pool_here, _law_table_here, _law_thing_here, _law_calls, _law_outers): 0 _law_pool_here, 1 _law_table_here, 2 _law_thing_here, 3 _law_calls, 4 _law_outers, 5 _law_at, 6 _law_found, 7 _law_kind -/
def b__law_one_word : List S := [.set 5 (.blt .len [(.ix (.var 2) (.lit (.str "rows")))]), .ifs (.val (.cmp .eq (.call 5 [(.var 0), (.lit (.int 3))]) (.lit (.int 0)))) [.set 6 (.call 19 [(.var 0), (.var 3), (.var 4)]), .expr (.bmt .append (.ix (.var 2) (.lit (.str "rows"))) [(.ix (.var 6) (.lit (.int 0)))]), .ifs (.val (.cmp .ne (.ix (.var 6) (.lit (.int 1))) (.lit (.str "")))) [.expr (.bmt .append (.ix (.var 2) (.lit (.str "open"))) [(.tup [(.var 5), (.ix (.var 6) (.lit (.int 1))), (.ix (.var 6) (.lit (.int 2)))])])] []] [.expr (.bmt .append (.ix (.var 2) (.lit (.str "rows"))) [(.call 12 [(.var 0), (.var 1)])])], .ifs (.val (.cmp .eq (.call 5 [(.var 0), (.lit (.int 3))]) (.lit (.int 0)))) [.set 7 (.call 6 [(.var 0), (.lst [(.lit (.str "tell")), (.lit (.str "call")), (.lit (.str "divide")), (.lit (.str "index")), (.lit (.str "depth"))])]), .expr (.bmt .append (.ix (.var 2) (.lit (.str "signs"))) [(.tup [(.var 5), (.var 7), (.call 18 [(.var 0)])])])] []]
abbrev s__law_one_word : Stmt := stAt prg.main.body 20
/-- _law_thing(_law_pool_here, _law_table_here): 0 _law_pool_here, 1 _law_table_here, 2 _law_thing_here, 3 _law_turn, 4 _law_heads, 5 _law_calls, 6 _law_outers, 7 _law_one, 8 _law_want_here, 9 _law_title_here, 10 _law_takes -/
def b__law_thing : List S := [.set 2 (.dct [(.lit (.str "rows")), (.lst []), (.lit (.str "defs")), (.lst []), (.lit (.str "outer")), (.lst []), (.lit (.str "wants")), (.lst []), (.lit (.str "open")), (.lst []), (.lit (.str "signs")), (.lst [])]), .fors .range [(.call 14 [(.var 0)])] (.nm 3) [.set 8 (.call 16 [(.var 0)]), .ifs (.val (.cmp .notin (.var 8) (.ix (.var 2) (.lit (.str "wants"))))) [.expr (.bmt .append (.ix (.var 2) (.lit (.str "wants"))) [(.var 8)])] []], .fors .range [(.call 14 [(.var 0)])] (.nm 3) [.expr (.bmt .append (.ix (.var 2) (.lit (.str "outer"))) [(.call 17 [(.var 0)])])], .set 4 (.lst []), .fors .range [(.call 6 [(.var 0), (.lst [(.lit (.int 0)), (.lit (.int 1)), (.lit (.int 1)), (.lit (.int 1)), (.lit (.int 1)), (.lit (.int 1)), (.lit (.int 2)), (.lit (.int 2)), (.lit (.int 2)), (.lit (.int 3)), (.lit (.int 3)), (.lit (.int 6))])])] (.nm 3) [.set 9 (.call 13 [(.var 0)]), .set 10 (.call 5 [(.var 0), (.lit (.int 7))]), .expr (.bmt .append (.var 4) [(.tup [(.var 9), (.var 10), (.bin .mul (.lit (.int 4)) (.bin .add (.lit (.int 1)) (.call 5 [(.var 0), (.lit (.int 511))])))])])], .set 5 (.lc .seq [(.var 4)] (.nm 7) [7] [] (.ix (.var 7) (.lit (.int 0)))), .set 5 (.bin .add (.var 5) (.lc .seq [(.ix (.var 2) (.lit (.str "wants")))] (.nm 7) [7] [(.val (.cmp .eq (.ix (.var 7) (.lit (.int 1))) (.lit (.str "function"))))] (.ix (.var 7) (.lit (.int 0))))), .set 6 (.lc .seq [(.ix (.var 2) (.lit (.str "outer")))] (.nm 7) [7] [] (.ix (.var 7) (.lit (.int 0)))), .set 6 (.bin .add (.var 6) (.lc .seq [(.ix (.var 2) (.lit (.str "wants")))] (.nm 7) [7] [(.val (.cmp .ne (.ix (.var 7) (.lit (.int 1))) (.lit (.str "function"))))] (.ix (.var 7) (.lit (.int 0))))), .fors .seq [(.var 4)] (.nm 7) [.expr (.bmt .append (.ix (.var 2) (.lit (.str "defs"))) [(.tup [(.ix (.var 7) (.lit (.int 0))), (.blt .len [(.ix (.var 2) (.lit (.str "rows")))]), (.ix (.var 7) (.lit (.int 1))), (.ix (.var 7) (.lit (.int 2)))])]), .fors .range [(.bin .add (.lit (.int 1)) (.call 5 [(.var 0), (.lit (.int 4))]))] (.nm 3) [.expr (.call 20 [(.var 0), (.var 1), (.var 2), (.var 5), (.var 6)])]], .ret (.var 2)]
abbrev s__law_thing : Stmt := stAt prg.main.body 21
/-- _law_parts_of(_law_table_here, _law_thing_here): 0 _law_table_here, 1 _law_thing_here, 2 _law_values, 3 _law_rest, 4 _law_key, 5 _law_row -/
def b__law_parts_of : List S := [.set 2 (.blt .tuple [(.lc .seq [(.ix (.var 1) (.lit (.str "rows")))] (.nm 5) [5] [] (.call 10 [(.var 0), (.var 5)]))]), .set 3 (.lc .seq [(.lst [(.lit (.str "defs")), (.lit (.str "outer")), (.lit (.str "wants")), (.lit (.str "open")), (.lit (.str "signs"))])] (.nm 4) [4] [] (.blt .tuple [(.ix (.var 1) (.var 4))])), .ret (.tup [(.var 2), (.ix (.var 3) (.lit (.int 0))), (.ix (.var 3) (.lit (.int 1))), (.ix (.var 3) (.lit (.int 2))), (.ix (.var 3) (.lit (.int 3))), (.ix (.var 3) (.lit (.int 4)))])]
abbrev s__law_parts_of : Stmt := stAt prg.main.body 22
/-- _law_like_needs(_law_pool_here, _law_thing_here, _law_others): 0 _law_pool_here, 1 _law_thing_here, 2 _law_others, 3 _law_want_here, 4 _law_more, 5 _law_at -/
def b__law_like_needs : List S := [.fors .seq [(.var 2)] (.nm 3) [.ifs (.val (.cmp .eq (.call 5 [(.var 0), (.lit (.int 2))]) (.lit (.int 0)))) [.set 4 (.var 3), .ifs (.and [(.val (.cmp .eq (.ix (.var 3) (.lit (.int 1))) (.lit (.str "function")))), (.val (.cmp .eq (.call 5 [(.var 0), (.lit (.int 3))]) (.lit (.int 0))))]) [.set 4 (.tup [(.ix (.var 3) (.lit (.int 0))), (.ix (.var 3) (.lit (.int 1))), (.bin .mod (.blt .int [(.bin .add (.ix (.var 3) (.lit (.int 2))) (.lit (.int 1)))]) (.lit (.int 7)))])] [], .ifs (.val (.cmp .notin (.var 4) (.ix (.var 1) (.lit (.str "wants"))))) [.set 5 (.call 5 [(.var 0), (.bin .add (.blt .len [(.ix (.var 1) (.lit (.str "wants")))]) (.lit (.int 1)))]), .expr (.bmt .insert (.ix (.var 1) (.lit (.str "wants"))) [(.var 5), (.var 4)])] []] []]]
abbrev s__law_like_needs : Stmt := stAt prg.main.body 23
/-- _law_sum(_law_a, _law_b): 0 _law_a, 1 _law_b, 2 _law_many_here, 3 _law_defs, 4 _law_wants, 5 _law_open_at, 6 _law_signs, 7 _law_first, 8 _law_one -/
def b__law_sum : List S := [.set 2 (.blt .len [(.ix (.var 0) (.lit (.int 0)))]), .set 3 (.lc .seq [(.ix (.var 1) (.lit (.int 1)))] (.nm 8) [8] [] (.tup [(.ix (.var 8) (.lit (.int 0))), (.bin .add (.ix (.var 8) (.lit (.int 1))) (.var 2)), (.ix (.var 8) (.lit (.int 2))), (.ix (.var 8) (.lit (.int 3)))])), .set 4 (.lc .seq [(.ix (.var 1) (.lit (.int 3)))] (.nm 8) [8] [(.val (.cmp .notin (.var 8) (.ix (.var 0) (.lit (.int 3)))))] (.var 8)), .set 5 (.lc .seq [(.ix (.var 1) (.lit (.int 4)))] (.nm 8) [8] [] (.tup [(.bin .add (.ix (.var 8) (.lit (.int 0))) (.var 2)), (.ix (.var 8) (.lit (.int 1))), (.ix (.var 8) (.lit (.int 2)))])), .set 6 (.lc .seq [(.ix (.var 1) (.lit (.int 5)))] (.nm 8) [8] [] (.tup [(.bin .add (.ix (.var 8) (.lit (.int 0))) (.var 2)), (.ix (.var 8) (.lit (.int 1))), (.ix (.var 8) (.lit (.int 2)))])), .set 7 (.tup [(.bin .add (.ix (.var 0) (.lit (.int 0))) (.ix (.var 1) (.lit (.int 0)))), (.bin .add (.ix (.var 0) (.lit (.int 1))) (.blt .tuple [(.var 3)])), (.bin .add (.ix (.var 0) (.lit (.int 2))) (.ix (.var 1) (.lit (.int 2))))]), .set 7 (.bin .add (.var 7) (.tup [(.bin .add (.ix (.var 0) (.lit (.int 3))) (.blt .tuple [(.var 4)]))])), .ret (.bin .add (.var 7) (.tup [(.bin .add (.ix (.var 0) (.lit (.int 4))) (.blt .tuple [(.var 5)])), (.bin .add (.ix (.var 0) (.lit (.int 5))) (.blt .tuple [(.var 6)]))]))]
abbrev s__law_sum : Stmt := stAt prg.main.body 24
/-- _law_object(_law_due): 0 _law_due -/
def b__law_object : List S := [.ret (.new 0 [(.ix (.var 0) (.lit (.int 0))), (.ix (.var 0) (.lit (.int 1))), (.ix (.var 0) (.lit (.int 2))), (.ix (.var 0) (.lit (.int 3))), (.ix (.var 0) (.lit (.int 4))), (.ix (.var 0) (.lit (.int 5)))])]
abbrev s__law_object : Stmt := stAt prg.main.body 25
/-- _law_is(_law_one, _law_due): 0 _law_one, 1 _law_due -/
def b__law_is : List S := [.ret (.and [(.call 8 [(.mth 0 (.var 0) []), (.var 1)]), (.call 8 [(.att (.var 0) 1), (.blt .len [(.ix (.var 1) (.lit (.int 0)))])])])]
abbrev s__law_is : Stmt := stAt prg.main.body 26
/-- law(_law_script): 0 _law_script, 1 _law_pool_here, 2 _law_table_here, 3 _law_things, 4 _law_dues, 5 _law_a, 6 _law_b, 7 _law_c, 8 _law_both, 9 _law_full, 10 _law_left, 11 _law_turn, 12 _law_thing_here -/
def b_law : List S := [.set 1 (.call 4 [(.var 0)]), .set 2 (.call 9 []), .set 3 (.lc .range [(.lit (.int 3))] (.nm 11) [11] [] (.call 21 [(.var 1), (.var 2)])), .expr (.call 23 [(.var 1), (.ix (.var 3) (.lit (.int 1))), (.blt .list [(.ix (.ix (.var 3) (.lit (.int 0))) (.lit (.str "wants")))])]), .expr (.call 23 [(.var 1), (.ix (.var 3) (.lit (.int 2))), (.bin .add (.ix (.ix (.var 3) (.lit (.int 0))) (.lit (.str "wants"))) (.ix (.ix (.var 3) (.lit (.int 1))) (.lit (.str "wants"))))]), .set 4 (.lc .seq [(.var 3)] (.nm 12) [12] [] (.call 22 [(.var 2), (.var 12)])), .set 5 (.call 25 [(.ix (.var 4) (.lit (.int 0)))]), .set 6 (.call 25 [(.ix (.var 4) (.lit (.int 1)))]), .set 7 (.call 25 [(.ix (.var 4) (.lit (.int 2)))]), .set 8 (.call 24 [(.ix (.var 4) (.lit (.int 0))), (.ix (.var 4) (.lit (.int 1)))]), .set 9 (.call 24 [(.var 8), (.ix (.var 4) (.lit (.int 2)))]), .set 10 (.bin .add (.var 5) (.var 6)), .ifs (.or [(.not (.val (.call 26 [(.var 10), (.var 8)]))), (.not (.val (.call 26 [(.bin .add (.var 10) (.var 7)), (.var 9)])))]) [.ret (.lit (.bl false))] [], .ifs (.not (.val (.call 26 [(.bin .add (.var 6) (.var 7)), (.call 24 [(.ix (.var 4) (.lit (.int 1))), (.ix (.var 4) (.lit (.int 2)))])]))) [.ret (.lit (.bl false))] [], .ifs (.not (.val (.call 26 [(.bin .add (.var 5) (.bin .add (.var 6) (.var 7))), (.var 9)]))) [.ret (.lit (.bl false))] [], .ifs (.not (.val (.call 26 [(.bin .add (.var 6) (.var 6)), (.call 24 [(.ix (.var 4) (.lit (.int 1))), (.ix (.var 4) (.lit (.int 1)))])]))) [.ret (.lit (.bl false))] [], .ifs (.or [(.not (.val (.call 26 [(.var 10), (.var 8)]))), (.not (.val (.call 26 [(.bin .add (.var 5) (.var 6)), (.var 8)])))]) [.ret (.lit (.bl false))] [], .ret (.and [(.call 26 [(.var 5), (.ix (.var 4) (.lit (.int 0)))]), (.call 26 [(.var 6), (.ix (.var 4) (.lit (.int 1)))]), (.call 26 [(.var 7), (.ix (.var 4) (.lit (.int 2)))])])]
abbrev s_law : Stmt := stAt prg.main.body 27
def fnT : List FnI := [⟨7, 7, b_Object___init__⟩, ⟨1, 1, b_Object_parts⟩, ⟨1, 1, b_Object_size⟩, ⟨2, 14, b_Object___add__⟩, ⟨1, 1, b__law_pool⟩, ⟨2, 3, b__law_draw⟩, ⟨2, 2, b__law_pick⟩, ⟨1, 3, b__law_word⟩, ⟨2, 3, b__law_alike⟩, ⟨0, 5, b__law_table⟩, ⟨2, 5, b__law_encoded⟩, ⟨3, 4, b__law_edge⟩, ⟨2, 6, b__law_drawn_row⟩, ⟨1, 5, b__law_title⟩, ⟨1, 1, b__law_many⟩, ⟨1, 1, b__law_long⟩, ⟨1, 3, b__law_want⟩, ⟨1, 2, b__law_datum⟩, ⟨1, 5, b__law_chain⟩, ⟨3, 7, b__law_open_row⟩, ⟨5, 8, b__law_one_word⟩, ⟨2, 11, b__law_thing⟩, ⟨2, 6, b__law_parts_of⟩, ⟨3, 6, b__law_like_needs⟩, ⟨2, 9, b__law_sum⟩, ⟨1, 1, b__law_object⟩, ⟨2, 2, b__law_is⟩, ⟨1, 13, b_law⟩]
def clT : List ClI := [⟨0, [(0, 1)], [(1, 2)], some 3⟩]
def T : Tab := ⟨fnT, clT⟩
def D : Dat := ⟨T, ["parts", "size", "words", "functions", "data", "needs", "places", "marks"], [none, none, none, none, some "_law_pool", some "_law_draw", some "_law_pick", some "_law_word", some "_law_alike", some "_law_table", some "_law_encoded", some "_law_edge", some "_law_drawn_row", some "_law_title", some "_law_many", some "_law_long", some "_law_want", some "_law_datum", some "_law_chain", some "_law_open_row", some "_law_one_word", some "_law_thing", some "_law_parts_of", some "_law_like_needs", some "_law_sum", some "_law_object", some "_law_is", some "law"], ["Object"], ["range", "list", "len", "int", "tuple", "abs", "isinstance", "str", "bool"]⟩
def x_Object___init__ : Tx := ⟨"__init__", "Object.__init__", stArgs s_Object___init__, stBody s_Object___init__, stScope s_Object___init__, ["self", "words", "functions", "data", "needs", "places", "marks"], ["self", "words", "functions", "data", "needs", "places", "marks"]⟩
def x_Object_parts : Tx := ⟨"parts", "Object.parts", stArgs s_Object_parts, stBody s_Object_parts, stScope s_Object_parts, ["self"], ["self"]⟩
def x_Object_size : Tx := ⟨"size", "Object.size", stArgs s_Object_size, stBody s_Object_size, stScope s_Object_size, ["self"], ["self"]⟩
def x_Object___add__ : Tx := ⟨"__add__", "Object.__add__", stArgs s_Object___add__, stBody s_Object___add__, stScope s_Object___add__, ["self", "other", "count", "functions", "places", "marks", "name", "start", "params", "frame", "index", "kind", "chain", "need"], ["self", "other"]⟩
def x__law_pool : Tx := ⟨"_law_pool", "_law_pool", stArgs s__law_pool, stBody s__law_pool, stScope s__law_pool, ["_law_script"], ["_law_script"]⟩
def x__law_draw : Tx := ⟨"_law_draw", "_law_draw", stArgs s__law_draw, stBody s__law_draw, stScope s__law_draw, ["_law_pool_here", "_law_many_here", "_law_digit"], ["_law_pool_here", "_law_many_here"]⟩
def x__law_pick : Tx := ⟨"_law_pick", "_law_pick", stArgs s__law_pick, stBody s__law_pick, stScope s__law_pick, ["_law_pool_here", "_law_things"], ["_law_pool_here", "_law_things"]⟩
def x__law_word : Tx := ⟨"_law_word", "_law_word", stArgs s__law_word, stBody s__law_word, stScope s__law_word, ["_law_pool_here", "_law_kind", "_law_edges"], ["_law_pool_here"]⟩
def x__law_alike : Tx := ⟨"_law_alike", "_law_alike", stArgs s__law_alike, stBody s__law_alike, stScope s__law_alike, ["_law_a", "_law_b", "_law_k"], ["_law_a", "_law_b"]⟩
def x__law_table : Tx := ⟨"_law_table", "_law_table", stArgs s__law_table, stBody s__law_table, stScope s__law_table, ["_law_table_here", "_law_three", "_law_other", "_law_k", "_law_pair"], []⟩
def x__law_encoded : Tx := ⟨"_law_encoded", "_law_encoded", stArgs s__law_encoded, stBody s__law_encoded, stScope s__law_encoded, ["_law_table_here", "_law_row", "_law_form", "_law_m", "_law_bits"], ["_law_table_here", "_law_row"]⟩
def x__law_edge : Tx := ⟨"_law_edge", "_law_edge", stArgs s__law_edge, stBody s__law_edge, stScope s__law_edge, ["_law_pool_here", "_law_least", "_law_greatest", "_law_kind"], ["_law_pool_here", "_law_least", "_law_greatest"]⟩
def x__law_drawn_row : Tx := ⟨"_law_drawn_row", "_law_drawn_row", stArgs s__law_drawn_row, stBody s__law_drawn_row, stScope s__law_drawn_row, ["_law_pool_here", "_law_table_here", "_law_kind", "_law_form", "_law_a", "_law_b"], ["_law_pool_here", "_law_table_here"]⟩
def x__law_title : Tx := ⟨"_law_title", "_law_title", stArgs s__law_title, stBody s__law_title, stScope s__law_title, ["_law_pool_here", "_law_signs", "_law_out", "_law_turn", "_law_some"], ["_law_pool_here"]⟩
def x__law_many : Tx := ⟨"_law_many", "_law_many", stArgs s__law_many, stBody s__law_many, stScope s__law_many, ["_law_pool_here"], ["_law_pool_here"]⟩
def x__law_long : Tx := ⟨"_law_long", "_law_long", stArgs s__law_long, stBody s__law_long, stScope s__law_long, ["_law_pool_here"], ["_law_pool_here"]⟩
def x__law_want : Tx := ⟨"_law_want", "_law_want", stArgs s__law_want, stBody s__law_want, stScope s__law_want, ["_law_pool_here", "_law_title_here", "_law_kind"], ["_law_pool_here"]⟩
def x__law_datum : Tx := ⟨"_law_datum", "_law_datum", stArgs s__law_datum, stBody s__law_datum, stScope s__law_datum, ["_law_pool_here", "_law_title_here"], ["_law_pool_here"]⟩
def x__law_chain : Tx := ⟨"_law_chain", "_law_chain", stArgs s__law_chain, stBody s__law_chain, stScope s__law_chain, ["_law_pool_here", "_law_out", "_law_turn", "_law_title_here", "_law_some"], ["_law_pool_here"]⟩
def x__law_open_row : Tx := ⟨"_law_open_row", "_law_open_row", stArgs s__law_open_row, stBody s__law_open_row, stScope s__law_open_row, ["_law_pool_here", "_law_calls", "_law_outers", "_law_kind", "_law_a", "_law_b", "_law_way"], ["_law_pool_here", "_law_calls", "_law_outers"]⟩
def x__law_one_word : Tx := ⟨"_law_one_word", "_law_one_word", stArgs s__law_one_word, stBody s__law_one_word, stScope s__law_one_word, ["_law_pool_here", "_law_table_here", "_law_thing_here", "_law_calls", "_law_outers", "_law_at", "_law_found", "_law_kind"], ["_law_pool_here", "_law_table_here", "_law_thing_here", "_law_calls", "_law_outers"]⟩
def x__law_thing : Tx := ⟨"_law_thing", "_law_thing", stArgs s__law_thing, stBody s__law_thing, stScope s__law_thing, ["_law_pool_here", "_law_table_here", "_law_thing_here", "_law_turn", "_law_heads", "_law_calls", "_law_outers", "_law_one", "_law_want_here", "_law_title_here", "_law_takes"], ["_law_pool_here", "_law_table_here"]⟩
def x__law_parts_of : Tx := ⟨"_law_parts_of", "_law_parts_of", stArgs s__law_parts_of, stBody s__law_parts_of, stScope s__law_parts_of, ["_law_table_here", "_law_thing_here", "_law_values", "_law_rest", "_law_key", "_law_row"], ["_law_table_here", "_law_thing_here"]⟩
def x__law_like_needs : Tx := ⟨"_law_like_needs", "_law_like_needs", stArgs s__law_like_needs, stBody s__law_like_needs, stScope s__law_like_needs, ["_law_pool_here", "_law_thing_here", "_law_others", "_law_want_here", "_law_more", "_law_at"], ["_law_pool_here", "_law_thing_here", "_law_others"]⟩
def x__law_sum : Tx := ⟨"_law_sum", "_law_sum", stArgs s__law_sum, stBody s__law_sum, stScope s__law_sum, ["_law_a", "_law_b", "_law_many_here", "_law_defs", "_law_wants", "_law_open_at", "_law_signs", "_law_first", "_law_one"], ["_law_a", "_law_b"]⟩
def x__law_object : Tx := ⟨"_law_object", "_law_object", stArgs s__law_object, stBody s__law_object, stScope s__law_object, ["_law_due"], ["_law_due"]⟩
def x__law_is : Tx := ⟨"_law_is", "_law_is", stArgs s__law_is, stBody s__law_is, stScope s__law_is, ["_law_one", "_law_due"], ["_law_one", "_law_due"]⟩
def x_law : Tx := ⟨"law", "law", stArgs s_law, stBody s_law, stScope s_law, ["_law_script", "_law_pool_here", "_law_table_here", "_law_things", "_law_dues", "_law_a", "_law_b", "_law_c", "_law_both", "_law_full", "_law_left", "_law_turn", "_law_thing_here"], ["_law_script"]⟩
def pg : Pg := ⟨D, [(.mth "Object" "__init__", x_Object___init__), (.mth "Object" "parts", x_Object_parts), (.prp "Object" "size", x_Object_size), (.mth "Object" "__add__", x_Object___add__), (.glo "_law_pool", x__law_pool), (.glo "_law_draw", x__law_draw), (.glo "_law_pick", x__law_pick), (.glo "_law_word", x__law_word), (.glo "_law_alike", x__law_alike), (.glo "_law_table", x__law_table), (.glo "_law_encoded", x__law_encoded), (.glo "_law_edge", x__law_edge), (.glo "_law_drawn_row", x__law_drawn_row), (.glo "_law_title", x__law_title), (.glo "_law_many", x__law_many), (.glo "_law_long", x__law_long), (.glo "_law_want", x__law_want), (.glo "_law_datum", x__law_datum), (.glo "_law_chain", x__law_chain), (.glo "_law_open_row", x__law_open_row), (.glo "_law_one_word", x__law_one_word), (.glo "_law_thing", x__law_thing), (.glo "_law_parts_of", x__law_parts_of), (.glo "_law_like_needs", x__law_like_needs), (.glo "_law_sum", x__law_sum), (.glo "_law_object", x__law_object), (.glo "_law_is", x__law_is), (.glo "law", x_law)]⟩
theorem fit_Object___init__ : Fit D ⟨7, 7, b_Object___init__⟩ x_Object___init__ := ⟨rfl, rfl, ⟨rfl, rfl, rfl, by decide +kernel, rfl, by decide +kernel, by decide +kernel⟩, by decide +kernel, fun _ _ _ _ _ _ us hl => match us, hl with | [_, _, _, _, _, _, _], _ => rfl⟩
theorem fit_Object_parts : Fit D ⟨1, 1, b_Object_parts⟩ x_Object_parts := ⟨rfl, rfl, ⟨rfl, rfl, rfl, by decide +kernel, rfl, by decide +kernel, by decide +kernel⟩, by decide +kernel, fun _ _ _ _ _ _ us hl => match us, hl with | [_], _ => rfl⟩
theorem fit_Object_size : Fit D ⟨1, 1, b_Object_size⟩ x_Object_size := ⟨rfl, rfl, ⟨rfl, rfl, rfl, by decide +kernel, rfl, by decide +kernel, by decide +kernel⟩, by decide +kernel, fun _ _ _ _ _ _ us hl => match us, hl with | [_], _ => rfl⟩
theorem fit_Object___add__ : Fit D ⟨2, 14, b_Object___add__⟩ x_Object___add__ := ⟨rfl, rfl, ⟨rfl, rfl, rfl, by decide +kernel, rfl, by decide +kernel, by decide +kernel⟩, by decide +kernel, fun _ _ _ _ _ _ us hl => match us, hl with | [_, _], _ => rfl⟩
theorem fit__law_pool : Fit D ⟨1, 1, b__law_pool⟩ x__law_pool := ⟨rfl, rfl, ⟨rfl, rfl, rfl, by decide +kernel, rfl, by decide +kernel, by decide +kernel⟩, by decide +kernel, fun _ _ _ _ _ _ us hl => match us, hl with | [_], _ => rfl⟩
theorem fit__law_draw : Fit D ⟨2, 3, b__law_draw⟩ x__law_draw := ⟨rfl, rfl, ⟨rfl, rfl, rfl, by decide +kernel, rfl, by decide +kernel, by decide +kernel⟩, by decide +kernel, fun _ _ _ _ _ _ us hl => match us, hl with | [_, _], _ => rfl⟩
theorem fit__law_pick : Fit D ⟨2, 2, b__law_pick⟩ x__law_pick := ⟨rfl, rfl, ⟨rfl, rfl, rfl, by decide +kernel, rfl, by decide +kernel, by decide +kernel⟩, by decide +kernel, fun _ _ _ _ _ _ us hl => match us, hl with | [_, _], _ => rfl⟩
theorem fit__law_word : Fit D ⟨1, 3, b__law_word⟩ x__law_word := ⟨rfl, rfl, ⟨rfl, rfl, rfl, by decide +kernel, rfl, by decide +kernel, by decide +kernel⟩, by decide +kernel, fun _ _ _ _ _ _ us hl => match us, hl with | [_], _ => rfl⟩
theorem fit__law_alike : Fit D ⟨2, 3, b__law_alike⟩ x__law_alike := ⟨rfl, rfl, ⟨rfl, rfl, rfl, by decide +kernel, rfl, by decide +kernel, by decide +kernel⟩, by decide +kernel, fun _ _ _ _ _ _ us hl => match us, hl with | [_, _], _ => rfl⟩
theorem fit__law_table : Fit D ⟨0, 5, b__law_table⟩ x__law_table := ⟨rfl, rfl, ⟨rfl, rfl, rfl, by decide +kernel, rfl, by decide +kernel, by decide +kernel⟩, by decide +kernel, fun _ _ _ _ _ _ us hl => match us, hl with | [], _ => rfl⟩
theorem fit__law_encoded : Fit D ⟨2, 5, b__law_encoded⟩ x__law_encoded := ⟨rfl, rfl, ⟨rfl, rfl, rfl, by decide +kernel, rfl, by decide +kernel, by decide +kernel⟩, by decide +kernel, fun _ _ _ _ _ _ us hl => match us, hl with | [_, _], _ => rfl⟩
theorem fit__law_edge : Fit D ⟨3, 4, b__law_edge⟩ x__law_edge := ⟨rfl, rfl, ⟨rfl, rfl, rfl, by decide +kernel, rfl, by decide +kernel, by decide +kernel⟩, by decide +kernel, fun _ _ _ _ _ _ us hl => match us, hl with | [_, _, _], _ => rfl⟩
theorem fit__law_drawn_row : Fit D ⟨2, 6, b__law_drawn_row⟩ x__law_drawn_row := ⟨rfl, rfl, ⟨rfl, rfl, rfl, by decide +kernel, rfl, by decide +kernel, by decide +kernel⟩, by decide +kernel, fun _ _ _ _ _ _ us hl => match us, hl with | [_, _], _ => rfl⟩
theorem fit__law_title : Fit D ⟨1, 5, b__law_title⟩ x__law_title := ⟨rfl, rfl, ⟨rfl, rfl, rfl, by decide +kernel, rfl, by decide +kernel, by decide +kernel⟩, by decide +kernel, fun _ _ _ _ _ _ us hl => match us, hl with | [_], _ => rfl⟩
theorem fit__law_many : Fit D ⟨1, 1, b__law_many⟩ x__law_many := ⟨rfl, rfl, ⟨rfl, rfl, rfl, by decide +kernel, rfl, by decide +kernel, by decide +kernel⟩, by decide +kernel, fun _ _ _ _ _ _ us hl => match us, hl with | [_], _ => rfl⟩
theorem fit__law_long : Fit D ⟨1, 1, b__law_long⟩ x__law_long := ⟨rfl, rfl, ⟨rfl, rfl, rfl, by decide +kernel, rfl, by decide +kernel, by decide +kernel⟩, by decide +kernel, fun _ _ _ _ _ _ us hl => match us, hl with | [_], _ => rfl⟩
theorem fit__law_want : Fit D ⟨1, 3, b__law_want⟩ x__law_want := ⟨rfl, rfl, ⟨rfl, rfl, rfl, by decide +kernel, rfl, by decide +kernel, by decide +kernel⟩, by decide +kernel, fun _ _ _ _ _ _ us hl => match us, hl with | [_], _ => rfl⟩
theorem fit__law_datum : Fit D ⟨1, 2, b__law_datum⟩ x__law_datum := ⟨rfl, rfl, ⟨rfl, rfl, rfl, by decide +kernel, rfl, by decide +kernel, by decide +kernel⟩, by decide +kernel, fun _ _ _ _ _ _ us hl => match us, hl with | [_], _ => rfl⟩
theorem fit__law_chain : Fit D ⟨1, 5, b__law_chain⟩ x__law_chain := ⟨rfl, rfl, ⟨rfl, rfl, rfl, by decide +kernel, rfl, by decide +kernel, by decide +kernel⟩, by decide +kernel, fun _ _ _ _ _ _ us hl => match us, hl with | [_], _ => rfl⟩
theorem fit__law_open_row : Fit D ⟨3, 7, b__law_open_row⟩ x__law_open_row := ⟨rfl, rfl, ⟨rfl, rfl, rfl, by decide +kernel, rfl, by decide +kernel, by decide +kernel⟩, by decide +kernel, fun _ _ _ _ _ _ us hl => match us, hl with | [_, _, _], _ => rfl⟩
theorem fit__law_one_word : Fit D ⟨5, 8, b__law_one_word⟩ x__law_one_word := ⟨rfl, rfl, ⟨rfl, rfl, rfl, by decide +kernel, rfl, by decide +kernel, by decide +kernel⟩, by decide +kernel, fun _ _ _ _ _ _ us hl => match us, hl with | [_, _, _, _, _], _ => rfl⟩
theorem fit__law_thing : Fit D ⟨2, 11, b__law_thing⟩ x__law_thing := ⟨rfl, rfl, ⟨rfl, rfl, rfl, by decide +kernel, rfl, by decide +kernel, by decide +kernel⟩, by decide +kernel, fun _ _ _ _ _ _ us hl => match us, hl with | [_, _], _ => rfl⟩
theorem fit__law_parts_of : Fit D ⟨2, 6, b__law_parts_of⟩ x__law_parts_of := ⟨rfl, rfl, ⟨rfl, rfl, rfl, by decide +kernel, rfl, by decide +kernel, by decide +kernel⟩, by decide +kernel, fun _ _ _ _ _ _ us hl => match us, hl with | [_, _], _ => rfl⟩
theorem fit__law_like_needs : Fit D ⟨3, 6, b__law_like_needs⟩ x__law_like_needs := ⟨rfl, rfl, ⟨rfl, rfl, rfl, by decide +kernel, rfl, by decide +kernel, by decide +kernel⟩, by decide +kernel, fun _ _ _ _ _ _ us hl => match us, hl with | [_, _, _], _ => rfl⟩
theorem fit__law_sum : Fit D ⟨2, 9, b__law_sum⟩ x__law_sum := ⟨rfl, rfl, ⟨rfl, rfl, rfl, by decide +kernel, rfl, by decide +kernel, by decide +kernel⟩, by decide +kernel, fun _ _ _ _ _ _ us hl => match us, hl with | [_, _], _ => rfl⟩
theorem fit__law_object : Fit D ⟨1, 1, b__law_object⟩ x__law_object := ⟨rfl, rfl, ⟨rfl, rfl, rfl, by decide +kernel, rfl, by decide +kernel, by decide +kernel⟩, by decide +kernel, fun _ _ _ _ _ _ us hl => match us, hl with | [_], _ => rfl⟩
theorem fit__law_is : Fit D ⟨2, 2, b__law_is⟩ x__law_is := ⟨rfl, rfl, ⟨rfl, rfl, rfl, by decide +kernel, rfl, by decide +kernel, by decide +kernel⟩, by decide +kernel, fun _ _ _ _ _ _ us hl => match us, hl with | [_, _], _ => rfl⟩
theorem fit_law : Fit D ⟨1, 13, b_law⟩ x_law := ⟨rfl, rfl, ⟨rfl, rfl, rfl, by decide +kernel, rfl, by decide +kernel, by decide +kernel⟩, by decide +kernel, fun _ _ _ _ _ _ us hl => match us, hl with | [_], _ => rfl⟩
theorem fits : ∀ f i, D.T.fns[f]? = some i → Fit D i (pg.at_ f).2
  | 0, _, h => by cases (Option.some.inj h); exact fit_Object___init__
  | 1, _, h => by cases (Option.some.inj h); exact fit_Object_parts
  | 2, _, h => by cases (Option.some.inj h); exact fit_Object_size
  | 3, _, h => by cases (Option.some.inj h); exact fit_Object___add__
  | 4, _, h => by cases (Option.some.inj h); exact fit__law_pool
  | 5, _, h => by cases (Option.some.inj h); exact fit__law_draw
  | 6, _, h => by cases (Option.some.inj h); exact fit__law_pick
  | 7, _, h => by cases (Option.some.inj h); exact fit__law_word
  | 8, _, h => by cases (Option.some.inj h); exact fit__law_alike
  | 9, _, h => by cases (Option.some.inj h); exact fit__law_table
  | 10, _, h => by cases (Option.some.inj h); exact fit__law_encoded
  | 11, _, h => by cases (Option.some.inj h); exact fit__law_edge
  | 12, _, h => by cases (Option.some.inj h); exact fit__law_drawn_row
  | 13, _, h => by cases (Option.some.inj h); exact fit__law_title
  | 14, _, h => by cases (Option.some.inj h); exact fit__law_many
  | 15, _, h => by cases (Option.some.inj h); exact fit__law_long
  | 16, _, h => by cases (Option.some.inj h); exact fit__law_want
  | 17, _, h => by cases (Option.some.inj h); exact fit__law_datum
  | 18, _, h => by cases (Option.some.inj h); exact fit__law_chain
  | 19, _, h => by cases (Option.some.inj h); exact fit__law_open_row
  | 20, _, h => by cases (Option.some.inj h); exact fit__law_one_word
  | 21, _, h => by cases (Option.some.inj h); exact fit__law_thing
  | 22, _, h => by cases (Option.some.inj h); exact fit__law_parts_of
  | 23, _, h => by cases (Option.some.inj h); exact fit__law_like_needs
  | 24, _, h => by cases (Option.some.inj h); exact fit__law_sum
  | 25, _, h => by cases (Option.some.inj h); exact fit__law_object
  | 26, _, h => by cases (Option.some.inj h); exact fit__law_is
  | 27, _, h => by cases (Option.some.inj h); exact fit_law
  | n + 28, _, h => by cases h
def lawF : Nat := 27
def lawAt : Nat := 27
def f_Object___init__ : Nat := 0
def f_Object_parts : Nat := 1
def f_Object_size : Nat := 2
def f_Object___add__ : Nat := 3
def f__law_pool : Nat := 4
def f__law_draw : Nat := 5
def f__law_pick : Nat := 6
def f__law_word : Nat := 7
def f__law_alike : Nat := 8
def f__law_table : Nat := 9
def f__law_encoded : Nat := 10
def f__law_edge : Nat := 11
def f__law_drawn_row : Nat := 12
def f__law_title : Nat := 13
def f__law_many : Nat := 14
def f__law_long : Nat := 15
def f__law_want : Nat := 16
def f__law_datum : Nat := 17
def f__law_chain : Nat := 18
def f__law_open_row : Nat := 19
def f__law_one_word : Nat := 20
def f__law_thing : Nat := 21
def f__law_parts_of : Nat := 22
def f__law_like_needs : Nat := 23
def f__law_sum : Nat := 24
def f__law_object : Nat := 25
def f__law_is : Nat := 26
def f_law : Nat := 27
theorem law_at : D.T.fns[lawF]? = some ⟨1, 13, b_law⟩ := by kernel_rfl
theorem law_ps : (pg.at_ lawF).2.ps = [("_law_script" : Str)] := by kernel_rfl
theorem law_nm : D.fnm[lawF]? = some (some ("law" : Str)) := by kernel_rfl
theorem an_nd : D.an.Nodup := by decide +kernel
def looseN : List Str := ["_wall", "Object", "_law_pool", "_law_draw", "_law_pick", "_law_word", "_law_alike", "_law_table", "_law_encoded", "_law_edge", "_law_drawn_row", "_law_title", "_law_many", "_law_long", "_law_want", "_law_datum", "_law_chain", "_law_open_row", "_law_one_word", "_law_thing", "_law_parts_of", "_law_like_needs", "_law_sum", "_law_object", "_law_is"]
end K60
set_option Elab.async false
set_option linter.all false
set_option maxRecDepth 100000
set_option maxHeartbeats 400000
namespace K60
open PySem PySem.Spec PyProof.Rows L2 Pc
theorem if_t {A B : Prop} (a : A) : if true = true then A else B := a
theorem if_f {A B : Prop} (b : B) : if false = true then A else B := by
  rw [if_neg (by decide)]
  exact b
local macro_rules
  | `(tactic| infer_instance) => `(tactic| first
    | with_reducible refine ws_set ?_ | with_reducible refine ws_ret ?_ | with_reducible refine ws_expr ?_ | ((with_reducible refine ws_if ?_); dsimp only [List.cons_append, List.nil_append]) | with_reducible refine ws_seti ?_ | with_reducible refine ws_seta ?_
    | with_reducible refine we_lit ?_ | with_reducible refine we_bin ?_ | with_reducible refine we_cmp ?_ | with_reducible refine we_and ?_ | with_reducible refine we_and2 ?_ | with_reducible refine we_and1 ?_ | with_reducible refine we_or ?_ | with_reducible refine we_or2 ?_
    | with_reducible refine we_or1 ?_ | with_reducible refine we_val ?_ | with_reducible refine we_not ?_ | with_reducible refine we_ite ?_ | with_reducible refine we_nil ?_ | with_reducible refine we_cons ?_ | with_reducible refine we_tup ?_ 
    | with_reducible refine we_ix ?_ | with_reducible refine we_slc ?_ | with_reducible refine wo_none ?_ | with_reducible refine wo_some ?_ | with_reducible refine we_att ?_ | with_reducible refine we_call ?_ | with_reducible refine we_new ?_ | with_reducible refine we_mth ?_
    | with_reducible refine we_blt ?_ | with_reducible refine we_bmt ?_ | with_reducible refine we_isi ?_ | with_reducible refine we_dct ?_ | with_reducible refine we_neg ?_ | with_reducible refine wt_cmp ?_ | with_reducible refine wt_isi ?_ | with_reducible refine wt_val ?_
    | with_reducible refine wt_not ?_ | with_reducible refine wt_and ?_ | with_reducible refine wt_or ?_ | with_reducible refine wt_and2 ?_ | with_reducible refine wt_or2 ?_ | with_reducible refine wt_and1 ?_ | with_reducible refine wt_or1 ?_ | with_reducible refine wc_nil ?_
    | with_reducible refine wc_one ?_ | with_reducible refine wb_add ?_ | with_reducible refine wb_sub ?_ | with_reducible refine wl_int ?_ | with_reducible refine wl_abs ?_ | with_reducible refine ex_int ?_ | with_reducible refine ex_bl ?_
    | ((with_reducible refine we_var (w := ?_) ?_ ?_); rotate_left; · rfl)
    | with_reducible refine ⟨_, cmp_eq_int, ?_⟩ | with_reducible refine ⟨_, cmp_ne_int, ?_⟩ | with_reducible refine ⟨_, cmp_lt_int, ?_⟩ | with_reducible refine ⟨_, cmp_gt_int, ?_⟩ | with_reducible refine ⟨_, cmp_le_int, ?_⟩ | with_reducible refine ⟨_, cmp_ge_int, ?_⟩ | with_reducible refine ⟨_, tru_bl, ?_⟩
    | ((with_reducible refine ⟨_, ix_lst (w := ?_) (by assumption) ?_, ?_⟩); rotate_left; · rfl)
    | ((with_reducible refine And.intro (a := _ ≤ lim) ?_ ?_); · exact Nat.le_of_ble_eq_true rfl)
    | with_reducible refine if_t ?_ | with_reducible refine if_f ?_
    | with_reducible refine wl_len (len_lst (by assumption)) ?_)

theorem if_dec {p : Prop} [Decidable p] {A B : Prop} (h1 : p → A) (h2 : ¬ p → B) : if decide p = true then A else B := by
  by_cases h : p
  · rw [if_pos (decide_eq_true h)]
    exact h1 h
  · rw [if_neg (by simpa using h)]
    exact h2 h
theorem if_ndec {p : Prop} [Decidable p] {A B : Prop} (h1 : ¬ p → A) (h2 : p → B) : if (!decide p) = true then A else B := by
  by_cases h : p
  · rw [if_neg (by simpa using h)]
    exact h2 h
  · rw [if_pos (by simpa using h)]
    exact h1 h
theorem ixq {h : Hs} {n : Nat} {ws : List W} {r m : Int} {Q : W → Prop} (e : h[n]? = some (.lst ws)) (r0 : 0 ≤ r) (r1 : r < m) (q : ∀ x ∈ ws, Q x) (hm : m ≤ (ws.length : Int) := by decide) : ∃ w, ixW (.loc n) (.int r) h = some w ∧ Q w := by
  obtain ⟨x, ex, mx⟩ := atI_in r0 (show r < (ws.length : Int) by omega)
  exact ⟨x, ix_lst e ex, q x mx⟩
theorem Dw.go {p : Nat} {h : Hs} {r : Res W} {Post : W → Prop} {Q : W → Hs → Prop} (d : Dw p h r Post) (k : ∀ w h1, Dn p h h1 → Post w → Q w h1) : wp r Q := d.mono fun w h1 ⟨a, b⟩ => k w h1 a b
theorem dr {k p : Nat} {m : Int} {h : Hs} {Q : W → Hs → Prop} (P : Pool p h) (q : ∀ (r : Int) h1, Dn p h h1 → 0 ≤ r → r < m → Q (.int r) h1) (hm : 0 < m := by decide) (hl : m.natAbs.log2 < 9000 := by decide) : wp (evFn D.T (k + 1) 5 [.loc p, .int m] h) Q :=
  (draw_ok' rfl P hm hl).mono fun w h1 ⟨D1, r, e, a, b⟩ => by
    subst e
    exact q r h1 D1 a b
theorem pk {k p l : Nat} {ws : List W} {h : Hs} {Q : W → Hs → Prop} (P : Pool p h) (hn : l ≠ p) (el : h[l]? = some (.lst ws)) (q : ∀ w h1, Dn p h h1 → w ∈ ws → Q w h1) (h0 : ws ≠ [] := by simp) (hl : ws.length < 2 ^ 64 := by first | decide | simp) : wp (evFn D.T (k + 2) 6 [.loc p, .loc l] h) Q :=
  (pick_ok (d := 5) rfl rfl P hn el h0 hl).mono fun w h1 ⟨a, b⟩ => q w h1 a b
theorem word_ok {k p : Nat} {h : Hs} (P : Pool p h) : Dw p h (evFn D.T (k + 2) 7 [.loc p] h) fun w => ∃ i, w = .int i := by
  refine wf (i := ⟨1, 3, b__law_word⟩) (env := [some (.loc p), none, none]) rfl rfl rfl ?_
  unfold b__law_word
  repeat infer_instance
  refine dr P fun r h1 D1 r0 r1 => ?_
  repeat infer_instance
  refine if_dec (fun c => ?_) fun c => ?_
  · repeat infer_instance
    refine dr D1.pool fun r h2 D2 _ _ => ?_
    repeat infer_instance
    exact ⟨D1.trans D2, _, rfl⟩
  repeat infer_instance
  refine we_lstP (p := p) ?_
  repeat infer_instance
  refine ⟨D1.pool, fun n h2 N2 => ?_⟩
  repeat infer_instance
  refine if_dec (fun c => ?_) fun c => ?_
  · repeat infer_instance
    refine dr N2.pool fun r h3 D3 r0 r1 => ?_
    exact ixq (D3.kp.at_ _ _ N2.ne N2.at_) r0 r1 fun x mx => ⟨D1.trans (N2.dn.trans D3), intW_ok (List.all_eq_true.mp (by decide) x mx)⟩
  · repeat infer_instance
    refine dr N2.pool fun r h3 D3 r0 r1 => ?_
    repeat infer_instance
    exact ⟨D1.trans (N2.dn.trans D3), _, rfl⟩
theorem edge_ok {k p : Nat} {a b : Int} {h : Hs} (P : Pool p h) (hab : a ≤ b) (hl : b - a < 2 ^ 64) : Dw p h (evFn D.T (k + 2) 11 [.loc p, .int a, .int b] h) fun w => ∃ i, w = .int i ∧ (a ≤ i ∧ i ≤ b ∨ i = 0) := by
  refine wf (i := ⟨3, 4, b__law_edge⟩) (env := [some (.loc p), some (.int a), some (.int b), none]) rfl rfl rfl ?_
  unfold b__law_edge
  repeat infer_instance
  refine dr P fun r h1 D1 r0 r1 => ?_
  repeat infer_instance
  refine if_dec (fun c => ?_) fun c => ?_
  · repeat infer_instance
    exact ⟨D1, _, rfl, .inl ⟨Int.le_refl _, hab⟩⟩
  repeat infer_instance
  refine if_dec (fun c => ?_) fun c => ?_
  · repeat infer_instance
    exact ⟨D1, _, rfl, .inl ⟨hab, Int.le_refl _⟩⟩
  repeat infer_instance
  refine if_dec (fun c => ?_) fun c => ?_
  · repeat infer_instance
    exact ⟨D1, _, rfl, .inr rfl⟩
  repeat infer_instance
  refine dr D1.pool (fun r h2 D2 r0 r1 => ?_) (by omega) ?_
  · repeat infer_instance
    exact ⟨D1.trans D2, _, rfl, .inl ⟨by omega, by omega⟩⟩
  · refine Nat.lt_of_lt_of_le (m := 66) ?_ (by decide)
    refine (Nat.log2_lt (by omega)).mpr ?_
    omega
theorem title_ok {k p : Nat} {h : Hs} (P : Pool p h) : Dw p h (evFn D.T (k + 3) 13 [.loc p] h) fun w => ∃ s, w = .str s ∧ goodS s = true := by
  refine wf (i := ⟨1, 5, b__law_title⟩) (env := [some (.loc p), none, none, none, none]) rfl rfl rfl ?_
  unfold b__law_title
  repeat infer_instance
  refine dr P fun r h1 D1 r0 r1 => ?_
  repeat infer_instance
  refine if_dec (fun c => ?_) fun c => ?_
  · repeat infer_instance
    refine we_lstP (p := p) ?_
    repeat infer_instance
    refine ⟨D1.pool, fun n h2 N2 => ?_⟩
    repeat infer_instance
    refine we_lstP (p := p) ?_
    repeat infer_instance
    refine ⟨N2.pool, fun n' h3 N3 => ?_⟩
    refine wb_addl N3.pool (N3.gr _ _ N2.at_) N3.at_ (by decide) fun n4 h4 N4 => ?_
    repeat infer_instance
    exact pk N4.pool N4.ne N4.at_ fun w h5 D5 m => ⟨D1.trans (N2.dn.trans (N3.dn.trans (N4.dn.trans D5))), goodW_ok (List.all_eq_true.mp (by decide +kernel) w m)⟩
  have hsg : PyData.strOk ("abcdefghijklmnopqrstuvwxyz0123456789" : Str) = true := by decide +kernel
  have hsl : ("abcdefghijklmnopqrstuvwxyz0123456789" : Str).length = 36 := by decide +kernel
  repeat infer_instance
  refine dr D1.pool fun r2 h2 D2 r20 r21 => ?_
  refine ix_str r20 r21 (fun c hc => ?_) (by rw [hsl]; decide) (by rw [hsl]; decide)
  have hc := strOk_one hsg hc
  refine ws_forI (fun r env g => ∃ x out, env = [some (.loc p), some (.str ("abcdefghijklmnopqrstuvwxyz0123456789" : Str)), some (.str out), x, none] ∧ Dn p h g ∧ PyData.strOk out = true ∧ out.length + r.length ≤ 10) ?_ ?_ ?_
  · repeat infer_instance
    refine dr D2.pool fun r3 h3 D3 r30 r31 => ?_
    repeat infer_instance
    refine ⟨_, src_range (by omega) (by omega), none, _, rfl, D1.trans (D2.trans D3), hc, ?_⟩
    rw [intsFrom_len]
    show 1 + _ ≤ 10
    omega
  · rintro w r env g ⟨x, out, rfl, Dg, ho, hl⟩
    refine ⟨_, rfl, ?_⟩
    repeat infer_instance
    refine dr Dg.pool fun r3 h3 D3 r30 r31 => ?_
    refine ix_str r30 r31 (fun c' hc' => ?_) (by rw [hsl]; decide) (by rw [hsl]; decide)
    have hlen : out.length + 1 + r.length ≤ 10 := by simp at hl; omega
    refine wb_adds (by show out.length + 1 ≤ lim; unfold lim; omega) ?_
    refine ws_nil ⟨_, _, rfl, Dg.trans D3, strOk_app ho (strOk_one hsg hc'), ?_⟩
    rw [len_app]
    show out.length + 1 + r.length ≤ 10
    exact hlen
  · rintro env g ⟨x, out, rfl, Dg, ho, hl⟩
    repeat infer_instance
    refine ⟨_, in_strs ["break", "continue", "else", "if", "mod", "return", "tell", "use", "while", "word"] ho (by decide +kernel), ?_⟩
    refine if_dec (fun c => ?_) fun c => ?_
    · repeat infer_instance
      exact ⟨Dg, _, rfl, by decide +kernel⟩
    · repeat infer_instance
      refine ⟨Dg, _, rfl, ?_⟩
      unfold goodS
      rw [ho]
      exact Nat.ble_eq_true_of_le (by simp at hl; omega)
theorem title {k p : Nat} {h : Hs} {Q : W → Hs → Prop} (P : Pool p h) (q : ∀ s h1, Dn p h h1 → goodS s = true → Q (.str s) h1) : wp (evFn D.T (k + 3) 13 [.loc p] h) Q := Dw.go (title_ok P) fun w h1 D1 ⟨s, e, g⟩ => e ▸ q s h1 D1 g
theorem word {k p : Nat} {h : Hs} {Q : W → Hs → Prop} (P : Pool p h) (q : ∀ i h1, Dn p h h1 → Q (.int i) h1) : wp (evFn D.T (k + 2) 7 [.loc p] h) Q := Dw.go (word_ok P) fun w h1 D1 ⟨s, e⟩ => e ▸ q s h1 D1
theorem edge {k p : Nat} {a b : Int} {h : Hs} {Q : W → Hs → Prop} (P : Pool p h) (q : ∀ i h1, Dn p h h1 → (a ≤ i ∧ i ≤ b ∨ i = 0) → Q (.int i) h1) (hab : a ≤ b := by decide) (hl : b - a < 2 ^ 64 := by decide) : wp (evFn D.T (k + 2) 11 [.loc p, .int a, .int b] h) Q := Dw.go (edge_ok P hab hl) fun w h1 D1 ⟨s, e, z⟩ => e ▸ q s h1 D1 z
/-- an int within -/
def intB (a b : Int) : W → Bool
  | .int i => decide (a ≤ i) && decide (i ≤ b)
  | _ => false
theorem intB_ok {a b : Int} {w : W} (h : intB a b w = true) : ∃ i, w = .int i ∧ a ≤ i ∧ i ≤ b := by
  cases w with
  | int i =>
    obtain ⟨h1, h2⟩ := Bool.and_eq_true_iff.mp h
    exact ⟨i, rfl, of_decide_eq_true h1, of_decide_eq_true h2⟩
  | _ => cases h
theorem many {k p : Nat} {h : Hs} {Q : W → Hs → Prop} (P : Pool p h) (q : ∀ i h1, Dn p h h1 → 0 ≤ i → i ≤ 6 → Q (.int i) h1) : wp (evFn D.T (k + 3) 14 [.loc p] h) Q := by
  refine wf (i := ⟨1, 1, b__law_many⟩) (env := [some (.loc p)]) rfl rfl rfl ?_
  unfold b__law_many
  repeat infer_instance
  refine we_lstP (p := p) ?_
  repeat infer_instance
  refine ⟨P, fun n h2 N2 => ?_⟩
  repeat infer_instance
  refine pk N2.pool N2.ne N2.at_ fun w h3 D3 m => ?_
  obtain ⟨i, rfl, a, b⟩ := intB_ok (a := 0) (b := 6) (List.all_eq_true.mp (by decide) w m)
  exact q i h3 (N2.dn.trans D3) a b
theorem long {k p : Nat} {h : Hs} {Q : W → Hs → Prop} (P : Pool p h) (q : ∀ i h1, Dn p h h1 → Q (.int i) h1) : wp (evFn D.T (k + 3) 15 [.loc p] h) Q := by
  refine wf (i := ⟨1, 1, b__law_long⟩) (env := [some (.loc p)]) rfl rfl rfl ?_
  unfold b__law_long
  repeat infer_instance
  refine we_lstP (p := p) ?_
  repeat infer_instance
  refine dr P fun r h1 D1 r0 r1 => ?_
  repeat infer_instance
  refine ⟨D1.pool, fun n h2 N2 => ?_⟩
  repeat infer_instance
  refine pk N2.pool N2.ne N2.at_ fun w h3 D3 m => ?_
  obtain ⟨i, rfl⟩ : ∃ i, w = .int i := by
    have : List.all [W.int 1, .int 2, .int 9, .int 10, .int 999, .int 1000, .int (1 + r)] intW = true := rfl
    exact intW_ok (List.all_eq_true.mp this w m)
  exact q i h3 (D1.trans (N2.dn.trans D3))
/-- a need -/
def needW (x : Str × Str × Int) : W := .tup [.str x.1, .str x.2.1, .int x.2.2]
def goodN (x : Str × Str × Int) : Prop := goodS x.1 = true ∧ goodS x.2.1 = true
theorem want {k p : Nat} {h : Hs} {Q : W → Hs → Prop} (P : Pool p h) (q : ∀ x h1, Dn p h h1 → goodN x → Q (needW x) h1) : wp (evFn D.T (k + 4) 16 [.loc p] h) Q := by
  refine wf (i := ⟨1, 3, b__law_want⟩) (env := [some (.loc p), none, none]) rfl rfl rfl ?_
  unfold b__law_want
  repeat infer_instance
  refine title P fun s h1 D1 gs => ?_
  repeat infer_instance
  refine dr D1.pool fun r h2 D2 r0 r1 => ?_
  repeat infer_instance
  refine if_dec (fun c => ?_) fun c => ?_
  · repeat infer_instance
    exact q (s, "word", 0) h2 (D1.trans D2) ⟨gs, (by decide +kernel : goodS ("word" : Str) = true)⟩
  repeat infer_instance
  refine if_dec (fun c => ?_) fun c => ?_
  · repeat infer_instance
    refine long D2.pool fun i h3 D3 => ?_
    repeat infer_instance
    exact q (s, "array", i) h3 (D1.trans (D2.trans D3)) ⟨gs, (by decide +kernel : goodS ("array" : Str) = true)⟩
  · repeat infer_instance
    refine dr D2.pool fun r h3 D3 r0 r1 => ?_
    repeat infer_instance
    exact q (s, "function", r) h3 (D1.trans (D2.trans D3)) ⟨gs, (by decide +kernel : goodS ("function" : Str) = true)⟩
def dataW (x : Str × Int × Int) : W := .tup [.str x.1, .int x.2.1, .int x.2.2]
theorem datum {k p : Nat} {h : Hs} {Q : W → Hs → Prop} (P : Pool p h) (q : ∀ x h1, Dn p h h1 → goodS x.1 = true → Q (dataW x) h1) : wp (evFn D.T (k + 4) 17 [.loc p] h) Q := by
  refine wf (i := ⟨1, 2, b__law_datum⟩) (env := [some (.loc p), none]) rfl rfl rfl ?_
  unfold b__law_datum
  repeat infer_instance
  refine title P fun s h1 D1 gs => ?_
  repeat infer_instance
  refine dr D1.pool fun r h2 D2 r0 r1 => ?_
  repeat infer_instance
  refine if_dec (fun c => ?_) fun c => ?_
  · repeat infer_instance
    refine word D2.pool fun i h3 D3 => ?_
    repeat infer_instance
    exact q (s, 0, i) h3 (D1.trans (D2.trans D3)) gs
  · repeat infer_instance
    refine long D2.pool fun i h3 D3 => ?_
    repeat infer_instance
    exact q (s, i, 0) h3 (D1.trans (D2.trans D3)) gs
end K60
set_option Elab.async false
set_option linter.all false
set_option maxRecDepth 100000
set_option maxHeartbeats 800000
namespace K60
open PySem PySem.Spec PyProof.Rows L2 Pc
local macro_rules
  | `(tactic| infer_instance) => `(tactic| first
    | with_reducible refine ws_set ?_ | with_reducible refine ws_ret ?_ | with_reducible refine ws_expr ?_ | ((with_reducible refine ws_if ?_); dsimp only [List.cons_append, List.nil_append]) | with_reducible refine ws_seti ?_ | with_reducible refine ws_seta ?_
    | with_reducible refine we_lit ?_ | with_reducible refine we_bin ?_ | with_reducible refine we_cmp ?_ | with_reducible refine we_and ?_ | with_reducible refine we_and2 ?_ | with_reducible refine we_and1 ?_ | with_reducible refine we_or ?_ | with_reducible refine we_or2 ?_
    | with_reducible refine we_or1 ?_ | with_reducible refine we_val ?_ | with_reducible refine we_not ?_ | with_reducible refine we_ite ?_ | with_reducible refine we_nil ?_ | with_reducible refine we_cons ?_ | with_reducible refine we_tup ?_ 
    | with_reducible refine we_ix ?_ | with_reducible refine we_slc ?_ | with_reducible refine wo_none ?_ | with_reducible refine wo_some ?_ | with_reducible refine we_att ?_ | with_reducible refine we_call ?_ | with_reducible refine we_new ?_ | with_reducible refine we_mth ?_
    | with_reducible refine we_blt ?_ | with_reducible refine we_bmt ?_ | with_reducible refine we_isi ?_ | with_reducible refine we_dct ?_ | with_reducible refine we_neg ?_ | with_reducible refine wt_cmp ?_ | with_reducible refine wt_isi ?_ | with_reducible refine wt_val ?_
    | with_reducible refine wt_not ?_ | with_reducible refine wt_and ?_ | with_reducible refine wt_or ?_ | with_reducible refine wt_and2 ?_ | with_reducible refine wt_or2 ?_ | with_reducible refine wt_and1 ?_ | with_reducible refine wt_or1 ?_ | with_reducible refine wc_nil ?_
    | with_reducible refine wc_one ?_ | with_reducible refine wb_add ?_ | with_reducible refine wb_sub ?_ | with_reducible refine wl_int ?_ | with_reducible refine wl_abs ?_ | with_reducible refine ex_int ?_ | with_reducible refine ex_bl ?_
    | ((with_reducible refine we_var (w := ?_) ?_ ?_); rotate_left; · rfl)
    | with_reducible refine ⟨_, cmp_eq_int, ?_⟩ | with_reducible refine ⟨_, cmp_ne_int, ?_⟩ | with_reducible refine ⟨_, cmp_lt_int, ?_⟩ | with_reducible refine ⟨_, cmp_gt_int, ?_⟩ | with_reducible refine ⟨_, cmp_le_int, ?_⟩ | with_reducible refine ⟨_, cmp_ge_int, ?_⟩ | with_reducible refine ⟨_, tru_bl, ?_⟩
    | ((with_reducible refine ⟨_, ix_lst (w := ?_) (by assumption) ?_, ?_⟩); rotate_left; · rfl)
    | ((with_reducible refine And.intro (a := _ ≤ lim) ?_ ?_); · exact Nat.le_of_ble_eq_true rfl)
    | with_reducible refine if_t ?_ | with_reducible refine if_f ?_
    | with_reducible refine wl_len (len_lst (by assumption)) ?_)

abbrev Frm := Str × Str × Int × Int × Int
abbrev fr (a b : Str) (i j k : Int) : Frm := (a, b, i, j, k)
def tblL : List Frm := [fr "jalr" "I" 103 0 0, fr "lw" "I" 3 2 0, fr "sw" "S" 35 2 0, fr "jal" "J" 111 0 0, fr "lui" "U" 55 0 0, fr "auipc" "U" 23 0 0, fr "add" "R" 51 0 0, fr "mul" "R" 51 0 1, fr "sll" "R" 51 1 0, fr "mulh" "R" 51 1 1, fr "slt" "R" 51 2 0, fr "mulhsu" "R" 51 2 1, fr "sltu" "R" 51 3 0, fr "mulhu" "R" 51 3 1, fr "xor" "R" 51 4 0, fr "div" "R" 51 4 1, fr "srl" "R" 51 5 0, fr "divu" "R" 51 5 1, fr "or" "R" 51 6 0, fr "rem" "R" 51 6 1, fr "and" "R" 51 7 0, fr "remu" "R" 51 7 1, fr "sub" "R" 51 0 32, fr "sra" "R" 51 5 32, fr "addi" "I" 19 0 0, fr "slti" "I" 19 2 0, fr "sltiu" "I" 19 3 0, fr "xori" "I" 19 4 0, fr "ori" "I" 19 6 0, fr "andi" "I" 19 7 0, fr "slli" "shift" 19 1 0, fr "srli" "shift" 19 5 0, fr "srai" "shift" 19 5 32, fr "beq" "B" 99 0 0, fr "bne" "B" 99 1 0, fr "blt" "B" 99 4 0, fr "bge" "B" 99 5 0, fr "bltu" "B" 99 6 0, fr "bgeu" "B" 99 7 0]
abbrev frmW (x : Frm) : W := .tup [.str x.2.1, .int x.2.2.1, .int x.2.2.2.1, .int x.2.2.2.2]
def tblK : List (Key × W) := tblL.map fun x => (Sum.inr x.1, frmW x)
theorem tbl_get : ∀ x ∈ tblL, valG tblK (Sum.inr x.1) = some (frmW x) := by
  have key : ∀ (l : List Frm) (m : List Frm), (∀ x ∈ l, (m.find? fun y => decide (y.1 = x.1)) = some x) → ∀ x ∈ l, valG (m.map fun x => ((Sum.inr x.1 : Key), frmW x)) (Sum.inr x.1) = some (frmW x) := by
    intro l m hl x hx
    have h := hl x hx
    clear hl hx
    induction m with
    | nil => cases h
    | cons y m ih =>
      rw [List.map_cons]
      unfold valG
      by_cases e : y.1 = x.1
      · rw [List.find?_cons_of_pos (by simpa using e)] at h
        cases h
        rw [if_pos rfl]
      · rw [List.find?_cons_of_neg (by simpa using e)] at h
        rw [if_neg (fun z => e (Sum.inr.inj z))]
        exact ih h
  exact key tblL tblL (by decide +kernel)
theorem tbl_ok : ∀ x ∈ tblL, goodS x.1 = true ∧ goodS x.2.1 = true := by decide +kernel
/-- a small number -/
def sm (i : Int) : Prop := -(2 ^ 40) ≤ i ∧ i ≤ 2 ^ 40
/-- a row of the listing -/
def RowW (w : W) : Prop := (∃ s, w = .tup [.str s] ∧ goodS s = true) ∨ ∃ x ∈ tblL, ((x.2.1 = "U" ∨ x.2.1 = "J") ∧ ∃ a b, sm a ∧ sm b ∧ w = .tup [.str x.1, .int a, .int b]) ∨ (¬ (x.2.1 = "U" ∨ x.2.1 = "J") ∧ ∃ a b c, sm a ∧ sm b ∧ sm c ∧ w = .tup [.str x.1, .int a, .int b, .int c])
theorem ab_lt {i : Int} (a : -(2 ^ 64) < i) (b : i < 2 ^ 64) : i.natAbs.log2 < 500 := by
  by_cases h : i = 0
  · subst h; decide
  refine Nat.lt_of_lt_of_le (m := 65) ?_ (by decide)
  refine (Nat.log2_lt (by omega)).mpr ?_
  omega
theorem wb_mul2 {T : Tab} {cl : Nat → List W → Hs → Res W} {h : Hs} {Q : W → Hs → Prop} {i j : Int} (q : Q (.int (i * j)) h) (a : -(2 ^ 64) < i := by omega) (b : i < 2 ^ 64 := by omega) (c : -(2 ^ 64) < j := by omega) (d : j < 2 ^ 64 := by omega) : wp (addW T cl .mul (.int i) (.int j) h) Q :=
  wb_mul (by have := ab_lt a b; have := ab_lt c d; omega) q
theorem str_lit {h : Hs} {s t : Str} {Q : Bool → Prop} (hs : goodS s = true) (q : Q (decide (s = t))) (ht : goodS t = true := by decide +kernel) : ∃ k, cmpW .eq (.str s) (.str t) h = some k ∧ Q k := ⟨_, cmp_eq_str (goodS_ok hs).1 (goodS_ok ht).1, q⟩
theorem items_dct {h : Hs} {t : Nat} {kvs : List (Key × W)} (e : h[t]? = some (.dct kvs)) : itemsW (.loc t) h = some (kvs.map fun p => wK p.1) := by
  unfold itemsW
  simp only [e]
theorem wl_list {p : Nat} {h : Hs} {Q : W → Hs → Prop} {x : W} {ws : List W} (P : Pool p h) (e : itemsW x h = some ws) (q : ∀ n h2, Nw p n (.lst ws) h h2 → Q (.loc n) h2) : wp (bltW .list [x] h) Q := by
  refine wp.of (a := .loc h.length) (h := h ++ [.lst ws]) ?_ (q _ _ P.nw)
  show (match itemsW x h with | some ws => _ | none => _) = _
  rw [e]
theorem drawn_row {k p t : Nat} {h : Hs} {Q : W → Hs → Prop} (P : Pool p h) (ht : t ≠ p) (et : h[t]? = some (.dct tblK)) (q : ∀ w h1, Dn p h h1 → RowW w → Q w h1) : wp (evFn D.T (k + 3) 12 [.loc p, .loc t] h) Q := by
  refine wf (i := ⟨2, 6, b__law_drawn_row⟩) (env := [some (.loc p), some (.loc t), none, none, none, none]) rfl rfl rfl ?_
  unfold b__law_drawn_row
  repeat infer_instance
  refine wl_list P (items_dct et) fun n h1 N1 => ?_
  repeat infer_instance
  refine we_lstP (p := p) ?_
  repeat infer_instance
  refine ⟨N1.pool, fun n' h2 N2 => ?_⟩
  refine wb_addl N2.pool (N2.gr _ _ N1.at_) N2.at_ (by decide +kernel) fun n3 h3 N3 => ?_
  repeat infer_instance
  refine pk N3.pool N3.ne N3.at_ (fun w h4 D4 m => ?_) (by simp) (by decide +kernel)
  have Da := N1.dn.trans (N2.dn.trans (N3.dn.trans D4))
  obtain ⟨s, rfl, gs, hs⟩ : ∃ s, w = .str s ∧ goodS s = true ∧ ((s = "ecall" ∨ s = "ebreak") ∨ ∃ x ∈ tblL, x.1 = s) := by
    rcases List.mem_append.mp m with m | m
    · simp only [tblK, List.map_map, List.mem_map] at m
      obtain ⟨x, hx, rfl⟩ := m
      exact ⟨x.1, rfl, (tbl_ok x hx).1, .inr ⟨x, hx, rfl⟩⟩
    · simp only [List.mem_cons, List.not_mem_nil, or_false] at m
      rcases m with rfl | rfl
      · exact ⟨_, rfl, by decide +kernel, .inl (.inl rfl)⟩
      · exact ⟨_, rfl, by decide +kernel, .inl (.inr rfl)⟩
  repeat infer_instance
  refine ⟨_, in_strs ["ecall", "ebreak"] (goodS_ok gs).1 (by decide +kernel), ?_⟩
  refine if_dec (fun c => ?_) fun c => ?_
  · repeat infer_instance
    exact q _ _ Da (.inl ⟨s, rfl, gs⟩)
  have c1 : ∃ x ∈ tblL, x.1 = s := by
    rcases hs with hs | hs
    · exact absurd (by simpa using hs) c
    · exact hs
  obtain ⟨x, hx, rfl⟩ := c1
  have et4 := Da.kp.at_ _ _ ht et
  have gf := (tbl_ok x hx).2
  repeat infer_instance
  refine ⟨_, ix_dct et4 (k := Sum.inr x.1) rfl (tbl_get x hx), ?_⟩
  repeat infer_instance
  refine ⟨.str x.2.1, rfl, ?_⟩
  repeat infer_instance
  refine dr Da.pool fun a h5 D5 a0 a1 => ?_
  repeat infer_instance
  refine str_lit gf ?_
  refine if_dec (fun cU => ?_) fun cU => ?_
  · repeat infer_instance
    refine edge D5.pool fun b h6 D6 hb => ?_
    repeat infer_instance
    exact q _ _ (Da.trans (D5.trans D6)) (.inr ⟨x, hx, .inl ⟨.inl cU, a, b, ⟨by omega, by omega⟩, ⟨by omega, by omega⟩, rfl⟩⟩)
  repeat infer_instance
  refine str_lit gf ?_
  refine if_dec (fun cJ => ?_) fun cJ => ?_
  · repeat infer_instance
    refine edge D5.pool fun b h6 D6 hb => ?_
    refine wb_mul2 ?_
    repeat infer_instance
    exact q _ _ (Da.trans (D5.trans D6)) (.inr ⟨x, hx, .inl ⟨.inr cJ, a, _, ⟨by omega, by omega⟩, ⟨by omega, by omega⟩, rfl⟩⟩)
  have no : ¬ (x.2.1 = "U" ∨ x.2.1 = "J") := fun z => z.elim cU cJ
  repeat infer_instance
  refine dr D5.pool fun b h6 D6 b0 b1 => ?_
  repeat infer_instance
  refine str_lit gf ?_
  refine if_dec (fun cB => ?_) fun cB => ?_
  · repeat infer_instance
    refine edge D6.pool fun c h7 D7 hc => ?_
    refine wb_mul2 ?_
    repeat infer_instance
    exact q _ _ (Da.trans (D5.trans (D6.trans D7))) (.inr ⟨x, hx, .inr ⟨no, a, b, _, ⟨by omega, by omega⟩, ⟨by omega, by omega⟩, ⟨by omega, by omega⟩, rfl⟩⟩)
  have fI : ∀ rest, wp (evSs D.T (evFn D.T (k + 2)) (.ret (.tup [(.var 2), (.var 4), (.var 5), (.call 11 [(.var 0), (.neg (.lit (.int 2048))), (.lit (.int 2047))])]) :: rest) [some (.loc p), some (.loc t), some (.str x.1), some (.str x.2.1), some (.int a), some (.int b)] h6) fun fl h1 => match fl with
      | .rt w => Q w h1
      | .nx _ => Q .non h1
      | _ => False := by
    intro rest
    repeat infer_instance
    refine edge D6.pool fun c h7 D7 hc => ?_
    repeat infer_instance
    exact q _ _ (Da.trans (D5.trans (D6.trans D7))) (.inr ⟨x, hx, .inr ⟨no, a, b, _, ⟨by omega, by omega⟩, ⟨by omega, by omega⟩, ⟨by omega, by omega⟩, rfl⟩⟩)
  repeat infer_instance
  refine str_lit gf ?_
  refine if_dec (fun cI => ?_) fun cI => ?_
  · repeat with_reducible refine if_t ?_
    exact fI _
  repeat infer_instance
  refine str_lit gf ?_
  refine if_dec (fun cS => ?_) fun cS => ?_
  · repeat with_reducible refine if_t ?_
    exact fI _
  repeat infer_instance
  refine dr D6.pool fun c h7 D7 c0 c1 => ?_
  repeat infer_instance
  exact q _ _ (Da.trans (D5.trans (D6.trans D7))) (.inr ⟨x, hx, .inr ⟨no, a, b, c, ⟨by omega, by omega⟩, ⟨by omega, by omega⟩, ⟨by omega, by omega⟩, rfl⟩⟩)
end K60
set_option Elab.async false
set_option linter.all false
set_option maxRecDepth 100000
set_option maxHeartbeats 800000
namespace K60
open PySem PySem.Spec PyProof.Rows L2 Pc
local macro_rules
  | `(tactic| infer_instance) => `(tactic| first
    | with_reducible refine ws_set ?_ | with_reducible refine ws_ret ?_ | with_reducible refine ws_expr ?_ | ((with_reducible refine ws_if ?_); dsimp only [List.cons_append, List.nil_append]) | with_reducible refine ws_seti ?_ | with_reducible refine ws_seta ?_
    | with_reducible refine we_lit ?_ | with_reducible refine we_bin ?_ | with_reducible refine we_cmp ?_ | with_reducible refine we_and ?_ | with_reducible refine we_and2 ?_ | with_reducible refine we_and1 ?_ | with_reducible refine we_or ?_ | with_reducible refine we_or2 ?_
    | with_reducible refine we_or1 ?_ | with_reducible refine we_val ?_ | with_reducible refine we_not ?_ | with_reducible refine we_ite ?_ | with_reducible refine we_nil ?_ | with_reducible refine we_cons ?_ | with_reducible refine we_tup ?_ 
    | with_reducible refine we_ix ?_ | with_reducible refine we_slc ?_ | with_reducible refine wo_none ?_ | with_reducible refine wo_some ?_ | with_reducible refine we_att ?_ | with_reducible refine we_call ?_ | with_reducible refine we_new ?_ | with_reducible refine we_mth ?_
    | with_reducible refine we_blt ?_ | with_reducible refine we_bmt ?_ | with_reducible refine we_isi ?_ | with_reducible refine we_dct ?_ | with_reducible refine we_neg ?_ | with_reducible refine wt_cmp ?_ | with_reducible refine wt_isi ?_ | with_reducible refine wt_val ?_
    | with_reducible refine wt_not ?_ | with_reducible refine wt_and ?_ | with_reducible refine wt_or ?_ | with_reducible refine wt_and2 ?_ | with_reducible refine wt_or2 ?_ | with_reducible refine wt_and1 ?_ | with_reducible refine wt_or1 ?_ | with_reducible refine wc_nil ?_
    | with_reducible refine wc_one ?_ | with_reducible refine wb_add ?_ | with_reducible refine wb_sub ?_ | with_reducible refine wl_int ?_ | with_reducible refine wl_abs ?_ | with_reducible refine ex_int ?_ | with_reducible refine ex_bl ?_
    | ((with_reducible refine we_var (w := ?_) ?_ ?_); rotate_left; · rfl)
    | with_reducible refine ⟨_, cmp_eq_int, ?_⟩ | with_reducible refine ⟨_, cmp_ne_int, ?_⟩ | with_reducible refine ⟨_, cmp_lt_int, ?_⟩ | with_reducible refine ⟨_, cmp_gt_int, ?_⟩ | with_reducible refine ⟨_, cmp_le_int, ?_⟩ | with_reducible refine ⟨_, cmp_ge_int, ?_⟩ | with_reducible refine ⟨_, tru_bl, ?_⟩
    | ((with_reducible refine ⟨_, ix_lst (w := ?_) (by assumption) ?_, ?_⟩); rotate_left; · rfl)
    | ((with_reducible refine And.intro (a := _ ≤ lim) ?_ ?_); · exact Nat.le_of_ble_eq_true rfl)
    | with_reducible refine if_t ?_ | with_reducible refine if_f ?_
    | with_reducible refine wl_len (len_lst (by assumption)) ?_)

/-- a chain -/
abbrev Chn := List (Str × Int)
def linkW (x : Str × Int) : W := .tup [.str x.1, .int x.2]
def goodC (c : Chn) : Prop := (∀ x ∈ c, goodS x.1 = true) ∧ c.length ≤ 8
theorem chain {k p : Nat} {h : Hs} {Q : W → Hs → Prop} (P : Pool p h) (q : ∀ c h1, Dn p h h1 → goodC c → Q (.tup (c.map linkW)) h1) : wp (evFn D.T (k + 4) 18 [.loc p] h) Q := by
  refine wf (i := ⟨1, 5, b__law_chain⟩) (env := [some (.loc p), none, none, none, none]) rfl rfl rfl ?_
  unfold b__law_chain
  repeat infer_instance
  refine we_lstP (p := p) ?_
  repeat infer_instance
  refine ⟨P, fun n h1 N1 => ?_⟩
  have hp := P.lt
  have hn := N1.fr
  refine ws_forI (fun r env g => ∃ (x y z : Option W) (c : Chn), env = [some (.loc p), some (.loc n), x, y, z] ∧ Dn p h g ∧ g[n]? = some (.lst (c.map linkW)) ∧ (∀ x ∈ c, goodS x.1 = true) ∧ c.length + r.length ≤ 8) ?_ ?_ ?_
  · repeat infer_instance
    refine we_lstP (p := p) ?_
    repeat infer_instance
    refine ⟨N1.pool, fun n' h2 N2 => ?_⟩
    repeat infer_instance
    refine pk N2.pool N2.ne N2.at_ fun w h3 D3 m => ?_
    obtain ⟨i, rfl, a, b⟩ := intB_ok (a := 1) (b := 8) (List.all_eq_true.mp (by decide) w m)
    repeat infer_instance
    refine ⟨_, src_range (by omega) (by omega), none, none, none, [], rfl, N1.dn.trans (N2.dn.trans D3), ?_, fun x hx => (by cases hx), ?_⟩
    · exact D3.kp.at_ _ _ (by omega) (N2.gr _ _ N1.at_)
    · rw [intsFrom_len]
      show 0 + _ ≤ 8
      omega
  · rintro w r env g ⟨x, y, z, c, rfl, Dg, eg, hc, hl⟩
    refine ⟨_, rfl, ?_⟩
    repeat infer_instance
    refine title Dg.pool fun s h2 D2 gs => ?_
    repeat infer_instance
    refine we_lstP (p := p) ?_
    repeat infer_instance
    refine dr D2.pool fun a h3 D3 a0 a1 => ?_
    repeat infer_instance
    refine ⟨D3.pool, fun n' h4 N4 => ?_⟩
    repeat infer_instance
    have e4 := N4.gr _ _ ((D2.trans D3).kp.at_ _ _ (by omega) eg)
    refine ⟨kind_lst e4 rfl, ?_⟩
    repeat infer_instance
    refine pk N4.pool N4.ne N4.at_ fun w h5 D5 m => ?_
    obtain ⟨i, rfl⟩ : ∃ i, w = .int i := by
      have : List.all [W.int 0, .int 9, .int 10, .int 199, .int a] intW = true := rfl
      exact intW_ok (List.all_eq_true.mp this w m)
    repeat infer_instance
    have e5 := D5.kp.at_ _ _ (by omega) e4
    have hl2 : c.length + 1 + r.length ≤ 8 := by simp at hl; omega
    refine wm_append e5 (by unfold lim; simp; omega) fun h6 e6 k6 => ?_
    refine ws_nil ⟨_, _, _, c ++ [(s, i)], rfl, (Dg.trans (D2.trans (D3.trans (N4.dn.trans D5)))).touch k6 hn (by omega), by rw [e6, List.map_append]; rfl, fun x hx => ?_, by simp; omega⟩
    rcases List.mem_append.mp hx with m | m
    · exact hc x m
    · simp at m
      rw [m]
      exact gs
  · rintro env g ⟨x, y, z, c, rfl, Dg, eg, hc, hl⟩
    repeat infer_instance
    refine wl_tuple eg ?_
    exact q c g Dg ⟨hc, by simpa using hl⟩
def strsO (l : Nat) (xs : List Str) (h : Hs) : Prop := h[l]? = some (.lst (xs.map W.str)) ∧ ∀ x ∈ xs, goodS x = true
theorem datH_strs {h : Hs} {l : Nat} {xs : List Str} (e : h[l]? = some (.lst (xs.map W.str))) : datH h (.loc l) = some (.list (xs.map PyData.str)) := by
  unfold datH
  simp only [e, datWs_str, Option.map_some]
theorem shp_lstrs {xs : List Str} (h : xs.all PyData.strOk = true) : SeqAt.shaped (.list (xs.map PyData.str)) = true := by
  unfold SeqAt.shaped
  simp [PyData.canLay0, canLay_strs h, PyData.depth, depthAll_str]
theorem ne_nil {h : Hs} {l n : Nat} {xs : List Str} (e : strsO l xs h) (en : h[n]? = some (.lst [])) : cmpW .ne (.loc l) (.loc n) h = some (!decide (xs = [])) := by
  show (eqR h (.loc l) (.loc n)).map (! ·) = _
  have h1 : xs.all PyData.strOk = true := List.all_eq_true.mpr fun x hx => (goodS_ok (e.2 x hx)).1
  have e2 : datH h (.loc n) = some (.list (([] : List Str).map PyData.str)) := datH_strs (xs := []) (by simpa using en)
  unfold eqR
  simp only [datH_strs e.1, e2, if_pos (And.intro (shp_lstrs h1) (shp_lstrs (xs := []) rfl)), Option.map_some]
  congr 2
  cases xs with
  | nil => simp [PyData.eqv, PyData.eqvAll]
  | cons x xs => simp [PyData.eqv, PyData.eqvAll]
theorem strsO.kp {p l : Nat} {xs : List Str} {h h' : Hs} (e : strsO l xs h) (k : Kp p h h') (hn : l ≠ p) : strsO l xs h' := ⟨k.at_ _ _ hn e.1, e.2⟩
theorem strsO.gr {p l n : Nat} {xs : List Str} {h h' : Hs} {o : Ob} (e : strsO l xs h) (k : Nw p n o h h') : strsO l xs h' := ⟨k.gr _ _ e.1, e.2⟩
theorem pks {k p l : Nat} {xs : List Str} {h : Hs} {Q : W → Hs → Prop} (P : Pool p h) (hn : l ≠ p) (e : strsO l xs h) (h0 : xs ≠ []) (hl : xs.length ≤ 100) (q : ∀ s h1, Dn p h h1 → goodS s = true → Q (.str s) h1) : wp (evFn D.T (k + 2) 6 [.loc p, .loc l] h) Q := by
  refine pk P hn e.1 (fun w h1 D1 m => ?_) (by simpa using h0) (by rw [List.length_map]; omega)
  obtain ⟨x, hx, rfl⟩ := List.mem_map.mp m
  exact q x h1 D1 (e.2 x hx)
theorem rowJ {a : Int} (x : Frm) (hx : x ∈ tblL) (hf : x.2.1 = "U" ∨ x.2.1 = "J") (a0 : 0 ≤ a) (a1 : a < 32) : RowW (.tup [.str x.1, .int a, .int 0]) := .inr ⟨x, hx, .inl ⟨hf, a, 0, ⟨by omega, by omega⟩, ⟨by omega, by omega⟩, rfl⟩⟩
theorem rowI {a b : Int} (x : Frm) (hx : x ∈ tblL) (hf : ¬ (x.2.1 = "U" ∨ x.2.1 = "J")) (a0 : 0 ≤ a) (a1 : a < 32) (b0 : 0 ≤ b) (b1 : b < 32) : RowW (.tup [.str x.1, .int a, .int b, .int 0]) := .inr ⟨x, hx, .inr ⟨hf, a, b, 0, ⟨by omega, by omega⟩, ⟨by omega, by omega⟩, ⟨by omega, by omega⟩, rfl⟩⟩
theorem open_row {k p l m : Nat} {xs ys : List Str} {h : Hs} {Q : W → Hs → Prop} (P : Pool p h) (hl : l ≠ p) (hm : m ≠ p) (el : strsO l xs h) (em : strsO m ys h) (lx : xs.length ≤ 100) (ly : ys.length ≤ 100)
    (q : ∀ r s t h1, Dn p h h1 → RowW r → goodS s = true → goodS t = true → Q (.tup [r, .str s, .str t]) h1) : wp (evFn D.T (k + 3) 19 [.loc p, .loc l, .loc m] h) Q := by
  refine wf (i := ⟨3, 7, b__law_open_row⟩) (env := [some (.loc p), some (.loc l), some (.loc m), none, none, none, none]) rfl rfl rfl ?_
  unfold b__law_open_row
  repeat infer_instance
  refine dr P fun c h1 D1 c0 c1 => ?_
  repeat infer_instance
  refine dr D1.pool fun a h2 D2 a0 a1 => ?_
  repeat infer_instance
  refine dr D2.pool fun b h3 D3 b0 b1 => ?_
  have Da := D1.trans (D2.trans D3)
  have el3 := el.kp Da.kp hl
  have em3 := em.kp Da.kp hm
  have last : ∀ g : Hs, Dn p h g → wp (evSs D.T (evFn D.T (k + 2)) (b__law_open_row.drop 6) [some (.loc p), some (.loc l), some (.loc m), some (.int c), some (.int a), some (.int b), none] g) fun fl h1 => match fl with
      | .rt w => Q w h1
      | .nx _ => Q .non h1
      | _ => False := by
    intro g Dg
    unfold b__law_open_row
    dsimp only [List.drop]
    repeat infer_instance
    exact q _ "" "" g Dg (rowI (fr "addi" "I" 19 0 0) (by decide +kernel) (by decide +kernel) a0 a1 b0 b1) (by decide +kernel) (by decide +kernel)
  have third : ∀ g : Hs, Dn p h g → strsO m ys g → wp (evSs D.T (evFn D.T (k + 2)) (b__law_open_row.drop 5) [some (.loc p), some (.loc l), some (.loc m), some (.int c), some (.int a), some (.int b), none] g) fun fl h1 => match fl with
      | .rt w => Q w h1
      | .nx _ => Q .non h1
      | _ => False := by
    intro g Dg eg
    unfold b__law_open_row
    dsimp only [List.drop]
    repeat infer_instance
    refine if_dec (fun hc => ?_) fun hc => ?_
    · repeat infer_instance
      refine we_lstP (p := p) ?_
      repeat infer_instance
      refine ⟨Dg.pool, fun n g1 N1 => ⟨_, ne_nil (eg.gr N1) N1.at_, ?_⟩⟩
      have Dg1 := Dg.trans N1.dn
      refine if_ndec (fun hy => ?_) fun hy => ?_
      · repeat infer_instance
        refine we_lstP (p := p) ?_
        repeat infer_instance
        refine ⟨N1.pool, fun n2 g2 N2 => ?_⟩
        repeat infer_instance
        have eg2 := (eg.gr N1).gr N2
        have fin : ∀ x ∈ tblL, ¬ (x.2.1 = "U" ∨ x.2.1 = "J") → ∀ rest, wp (evSs D.T (evFn D.T (k + 2)) (.ret (.tup [(.tup [(.var 6), (.var 4), (.var 5), (.lit (.int 0))]), (.lit (.str "low")), (.call 6 [(.var 0), (.var 2)])]) :: rest) [some (.loc p), some (.loc l), some (.loc m), some (.int c), some (.int a), some (.int b), some (.str x.1)] g2) fun fl h1 => match fl with
            | .rt w => Q w h1
            | .nx _ => Q .non h1
            | _ => False := by
          intro x hx hf rest
          repeat infer_instance
          refine pks N2.pool hm eg2 hy ly fun s g3 D3 gs => ?_
          repeat infer_instance
          exact q _ "low" s g3 (Dg1.trans (N2.dn.trans D3)) (rowI x hx hf a0 a1 b0 b1) (by decide +kernel) gs
        refine ixq (N2.at_) (r := c - 2) (m := 3) (by omega) (by omega) fun x hx => ?_
        simp only [List.mem_cons, List.not_mem_nil, or_false] at hx
        rcases hx with rfl | rfl | rfl
        · exact fin (fr "addi" "I" 19 0 0) (by decide +kernel) (by decide +kernel) _
        · exact fin (fr "lw" "I" 3 2 0) (by decide +kernel) (by decide +kernel) _
        · exact fin (fr "sw" "S" 35 2 0) (by decide +kernel) (by decide +kernel) _
      · repeat (with_reducible first | refine if_t ?_ | refine if_f ?_)
        exact last g1 Dg1
    · repeat (with_reducible first | refine if_t ?_ | refine if_f ?_)
      exact last g Dg
  have second : ∀ g : Hs, Dn p h g → strsO m ys g → wp (evSs D.T (evFn D.T (k + 2)) (b__law_open_row.drop 4) [some (.loc p), some (.loc l), some (.loc m), some (.int c), some (.int a), some (.int b), none] g) fun fl h1 => match fl with
      | .rt w => Q w h1
      | .nx _ => Q .non h1
      | _ => False := by
    intro g Dg eg
    unfold b__law_open_row
    dsimp only [List.drop]
    repeat infer_instance
    refine if_dec (fun hc => ?_) fun hc => ?_
    · repeat infer_instance
      refine we_lstP (p := p) ?_
      repeat infer_instance
      refine ⟨Dg.pool, fun n g1 N1 => ⟨_, ne_nil (eg.gr N1) N1.at_, ?_⟩⟩
      have Dg1 := Dg.trans N1.dn
      refine if_ndec (fun hy => ?_) fun hy => ?_
      · repeat infer_instance
        refine pks N1.pool hm (eg.gr N1) hy ly fun s g3 D3 gs => ?_
        repeat infer_instance
        exact q _ "high" s g3 (Dg1.trans D3) (rowJ (fr "lui" "U" 55 0 0) (by decide +kernel) (by decide +kernel) a0 a1) (by decide +kernel) gs
      · repeat (with_reducible first | refine if_t ?_ | refine if_f ?_)
        exact third g1 Dg1 (eg.gr N1)
    · repeat (with_reducible first | refine if_t ?_ | refine if_f ?_)
      exact third g Dg eg
  repeat infer_instance
  refine if_dec (fun hc => ?_) fun hc => ?_
  · repeat infer_instance
    refine we_lstP (p := p) ?_
    repeat infer_instance
    refine ⟨Da.pool, fun n g1 N1 => ⟨_, ne_nil (el3.gr N1) N1.at_, ?_⟩⟩
    have Dg1 := Da.trans N1.dn
    refine if_ndec (fun hy => ?_) fun hy => ?_
    · repeat infer_instance
      refine pks N1.pool hl (el3.gr N1) hy lx fun s g3 D3 gs => ?_
      repeat infer_instance
      exact q _ "call" s g3 (Dg1.trans D3) (rowJ (fr "jal" "J" 111 0 0) (by decide +kernel) (by decide +kernel) a0 a1) (by decide +kernel) gs
    · repeat (with_reducible first | refine if_t ?_ | refine if_f ?_)
      exact second g1 Dg1 (em3.gr N1)
  · repeat (with_reducible first | refine if_t ?_ | refine if_f ?_)
    exact second h3 Da em3
end K60
set_option Elab.async false
set_option linter.all false
set_option maxRecDepth 100000
set_option maxHeartbeats 800000
namespace K60
open PySem PySem.Spec PyProof.Rows L2 Pc
theorem wl_lent {h : Hs} {ws : List W} {Q : W → Hs → Prop} (q : Q (.int ws.length) h) : wp (bltW .len [.tup ws] h) Q := wp.of rfl q
theorem ix_tup {h : Hs} {ws : List W} {i : Int} {w : W} (a : atI ws i = some w) : ixW (.tup ws) (.int i) h = some w := a
local macro_rules
  | `(tactic| infer_instance) => `(tactic| first
    | with_reducible refine ws_set ?_ | with_reducible refine ws_ret ?_ | with_reducible refine ws_expr ?_ | ((with_reducible refine ws_if ?_); dsimp only [List.cons_append, List.nil_append]) | with_reducible refine ws_seti ?_ | with_reducible refine ws_seta ?_
    | with_reducible refine we_lit ?_ | with_reducible refine we_bin ?_ | with_reducible refine we_cmp ?_ | with_reducible refine we_and ?_ | with_reducible refine we_and2 ?_ | with_reducible refine we_and1 ?_ | with_reducible refine we_or ?_ | with_reducible refine we_or2 ?_
    | with_reducible refine we_or1 ?_ | with_reducible refine we_val ?_ | with_reducible refine we_not ?_ | with_reducible refine we_ite ?_ | with_reducible refine we_nil ?_ | with_reducible refine we_cons ?_ | with_reducible refine we_tup ?_ 
    | with_reducible refine we_ix ?_ | with_reducible refine we_slc ?_ | with_reducible refine wo_none ?_ | with_reducible refine wo_some ?_ | with_reducible refine we_att ?_ | with_reducible refine we_call ?_ | with_reducible refine we_new ?_ | with_reducible refine we_mth ?_
    | with_reducible refine we_blt ?_ | with_reducible refine we_bmt ?_ | with_reducible refine we_isi ?_ | with_reducible refine we_dct ?_ | with_reducible refine we_neg ?_ | with_reducible refine wt_cmp ?_ | with_reducible refine wt_isi ?_ | with_reducible refine wt_val ?_
    | with_reducible refine wt_not ?_ | with_reducible refine wt_and ?_ | with_reducible refine wt_or ?_ | with_reducible refine wt_and2 ?_ | with_reducible refine wt_or2 ?_ | with_reducible refine wt_and1 ?_ | with_reducible refine wt_or1 ?_ | with_reducible refine wc_nil ?_
    | with_reducible refine wc_one ?_ | with_reducible refine wb_add ?_ | with_reducible refine wb_sub ?_ | with_reducible refine wl_int ?_ | with_reducible refine wl_abs ?_ | with_reducible refine ex_int ?_ | with_reducible refine ex_bl ?_
    | ((with_reducible refine we_var (w := ?_) ?_ ?_); rotate_left; · rfl)
    | with_reducible refine ⟨_, cmp_eq_int, ?_⟩ | with_reducible refine ⟨_, cmp_ne_int, ?_⟩ | with_reducible refine ⟨_, cmp_lt_int, ?_⟩ | with_reducible refine ⟨_, cmp_gt_int, ?_⟩ | with_reducible refine ⟨_, cmp_le_int, ?_⟩ | with_reducible refine ⟨_, cmp_ge_int, ?_⟩ | with_reducible refine ⟨_, tru_bl, ?_⟩
    | ((with_reducible refine ⟨_, ix_lst (w := ?_) (by assumption) ?_, ?_⟩); rotate_left; · rfl)
    | ((with_reducible refine And.intro (a := _ ≤ lim) ?_ ?_); · exact Nat.le_of_ble_eq_true rfl)
    | with_reducible refine if_t ?_ | with_reducible refine if_f ?_
    | with_reducible refine wl_len (len_lst (by assumption)) ?_
    | ((with_reducible refine wb_mod ?_ ?_); · decide) | ((with_reducible refine wb_div ?_ ?_ ?_); (· decide); (· decide)) | ((with_reducible refine wb_mul2 ?_ ?_ ?_ ?_ ?_); rotate_left; (· omega); (· omega); (· omega); (· omega))
    | ((with_reducible refine ⟨_, ix_tup (w := ?_) ?_, ?_⟩); rotate_left; · rfl) | with_reducible refine wl_lent ?_ | with_reducible refine str_lit (by assumption) ?_)
theorem tbl_sm : ∀ x ∈ tblL, (0 ≤ x.2.2.1 ∧ x.2.2.1 ≤ 200) ∧ (0 ≤ x.2.2.2.1 ∧ x.2.2.2.1 ≤ 200) ∧ (0 ≤ x.2.2.2.2 ∧ x.2.2.2.2 ≤ 200) := by decide +kernel
theorem encoded {k t : Nat} {h : Hs} {w : W} {Q : W → Hs → Prop} (et : h[t]? = some (.dct tblK)) (hw : RowW w) (q : ∀ i, Q (.int i) h) : wp (evFn D.T (k + 1) 10 [.loc t, w] h) Q := by
  rcases hw with ⟨s, rfl, gs⟩ | ⟨x, hx, ⟨hf, a, b, ha, hb, rfl⟩ | ⟨hf, a, b, c, ha, hb, hc, rfl⟩⟩
  · refine wf (i := ⟨2, 5, b__law_encoded⟩) (env := [some (.loc t), some (.tup [.str s]), none, none, none]) rfl rfl rfl ?_
    unfold b__law_encoded
    repeat infer_instance
    refine if_dec (fun c => ?_) fun c => absurd rfl c
    repeat infer_instance
    refine if_dec (fun c => ?_) fun c => ?_
    · repeat infer_instance
      exact q _
    · repeat infer_instance
      exact q _
  all_goals
    have gf := (tbl_ok x hx).2
    obtain ⟨⟨o0, o1⟩, ⟨f0, f1⟩, g0, g1⟩ := tbl_sm x hx
    obtain ⟨a0, a1⟩ := ha
    obtain ⟨b0, b1⟩ := hb
  · refine wf (i := ⟨2, 5, b__law_encoded⟩) (env := [some (.loc t), some (.tup [.str x.1, .int a, .int b]), none, none, none]) rfl rfl rfl ?_
    unfold b__law_encoded
    repeat infer_instance
    refine if_dec (fun c => absurd c (by simp)) fun c => ?_
    repeat infer_instance
    refine ⟨_, ix_dct et (k := Sum.inr x.1) rfl (tbl_get x hx), ?_⟩
    repeat infer_instance
    refine if_dec (fun c => ?_) fun c => ?_
    · repeat infer_instance
      exact q _
    · repeat infer_instance
      refine if_dec (fun c => ?_) fun c2 => absurd hf (fun z => z.elim c c2)
      repeat infer_instance
      exact q _
  · refine wf (i := ⟨2, 5, b__law_encoded⟩) (env := [some (.loc t), some (.tup [.str x.1, .int a, .int b, .int c]), none, none, none]) rfl rfl rfl ?_
    obtain ⟨c0, c1⟩ := hc
    unfold b__law_encoded
    repeat infer_instance
    refine if_dec (fun c => absurd c (by simp)) fun c => ?_
    repeat infer_instance
    refine ⟨_, ix_dct et (k := Sum.inr x.1) rfl (tbl_get x hx), ?_⟩
    repeat infer_instance
    refine if_dec (fun c => absurd (.inl c) hf) fun _ => ?_
    repeat infer_instance
    refine if_dec (fun c => absurd (.inr c) hf) fun _ => ?_
    repeat infer_instance
    refine if_dec (fun c => ?_) fun c => ?_
    · repeat infer_instance
      exact q _
    repeat infer_instance
    refine if_dec (fun c => ?_) fun c => ?_
    · repeat infer_instance
      exact q _
    repeat infer_instance
    refine if_dec (fun c => ?_) fun c => ?_
    · repeat infer_instance
      exact q _
    repeat infer_instance
    refine if_dec (fun c => ?_) fun c => ?_
    · repeat infer_instance
      exact q _
    repeat infer_instance
    exact q _
end K60
set_option Elab.async false
set_option linter.all false
set_option maxRecDepth 100000
set_option maxHeartbeats 1600000
namespace K60
open PySem PySem.Spec PyProof.Rows L2 Pc
theorem wi_dct {Q : Unit → Hs → Prop} {h : Hs} {n : Nat} {kvs : List (Key × W)} {y w : W} {key : Key} (e : h[n]? = some (.dct kvs)) (ek : keyW y = some key) (hl : kvs.length + 1 ≤ lim) (q : ∀ h2, h2[n]? = some (.dct (putG key w kvs)) → Kp n h h2 → Q () h2) : wp (setI (.loc n) y w h) Q :=
  wp.of (a := ()) (h := h.set n (.dct (putG key w kvs))) (by unfold setI; simp only [e, ek, if_pos (show kvs.length < lim from hl)]) (q _ (set_at (List.getElem?_eq_some_iff.mp e).1) .set)
theorem we_dctP {T : Tab} {cl : Nat → List W → Hs → Res W} {env : En} {h : Hs} {Q : W → Hs → Prop} {es : List E} {p : Nat} (P : Pool p h)
    (q : ∀ n g, Nw p n (.dct []) h g → wp (evEs T cl es env g) fun ws h1 => ∃ ps, pairW ws = some ps ∧ h1[n]? = some (.dct []) ∧ ∀ h2, h2[n]? = some (.dct (ps.foldl (fun acc p => putG p.1 p.2 acc) [])) → Kp n h1 h2 → Q (.loc n) h2) : wp (evE T cl (.dct es) env h) Q :=
  we_dct ((q _ _ P.nw).mono fun ws h1 ⟨ps, e1, e2, z⟩ => ⟨ps, e1, e2, z _ (set_at (List.getElem?_eq_some_iff.mp e2).1) .set⟩)
local macro_rules
  | `(tactic| infer_instance) => `(tactic| first
    | with_reducible refine ws_set ?_ | with_reducible refine ws_ret ?_ | with_reducible refine ws_expr ?_ | ((with_reducible refine ws_if ?_); dsimp only [List.cons_append, List.nil_append]) | with_reducible refine ws_seti ?_ | with_reducible refine ws_seta ?_
    | with_reducible refine we_lit ?_ | with_reducible refine we_bin ?_ | with_reducible refine we_cmp ?_ | with_reducible refine we_and ?_ | with_reducible refine we_and2 ?_ | with_reducible refine we_and1 ?_ | with_reducible refine we_or ?_ | with_reducible refine we_or2 ?_
    | with_reducible refine we_or1 ?_ | with_reducible refine we_val ?_ | with_reducible refine we_not ?_ | with_reducible refine we_ite ?_ | with_reducible refine we_nil ?_ | with_reducible refine we_cons ?_ | with_reducible refine we_tup ?_ 
    | with_reducible refine we_ix ?_ | with_reducible refine we_slc ?_ | with_reducible refine wo_none ?_ | with_reducible refine wo_some ?_ | with_reducible refine we_att ?_ | with_reducible refine we_call ?_ | with_reducible refine we_new ?_ | with_reducible refine we_mth ?_
    | with_reducible refine we_blt ?_ | with_reducible refine we_bmt ?_ | with_reducible refine we_isi ?_ | with_reducible refine we_dct ?_ | with_reducible refine we_neg ?_ | with_reducible refine wt_cmp ?_ | with_reducible refine wt_isi ?_ | with_reducible refine wt_val ?_
    | with_reducible refine wt_not ?_ | with_reducible refine wt_and ?_ | with_reducible refine wt_or ?_ | with_reducible refine wt_and2 ?_ | with_reducible refine wt_or2 ?_ | with_reducible refine wt_and1 ?_ | with_reducible refine wt_or1 ?_ | with_reducible refine wc_nil ?_
    | with_reducible refine wc_one ?_ | with_reducible refine wb_add ?_ | with_reducible refine wb_sub ?_ | with_reducible refine wl_int ?_ | with_reducible refine wl_abs ?_ | with_reducible refine ex_int ?_ | with_reducible refine ex_bl ?_
    | ((with_reducible refine we_var (w := ?_) ?_ ?_); rotate_left; · rfl)
    | with_reducible refine ⟨_, cmp_eq_int, ?_⟩ | with_reducible refine ⟨_, cmp_ne_int, ?_⟩ | with_reducible refine ⟨_, cmp_lt_int, ?_⟩ | with_reducible refine ⟨_, cmp_gt_int, ?_⟩ | with_reducible refine ⟨_, cmp_le_int, ?_⟩ | with_reducible refine ⟨_, cmp_ge_int, ?_⟩ | with_reducible refine ⟨_, tru_bl, ?_⟩
    | ((with_reducible refine ⟨_, ix_lst (w := ?_) (by assumption) ?_, ?_⟩); rotate_left; · rfl)
    | ((with_reducible refine And.intro (a := _ ≤ lim) ?_ ?_); · exact Nat.le_of_ble_eq_true rfl)
    | with_reducible refine if_t ?_ | with_reducible refine if_f ?_
    | with_reducible refine wl_len (len_lst (by assumption)) ?_
    | ((with_reducible refine wb_mod ?_ ?_); · decide) | ((with_reducible refine wb_div ?_ ?_ ?_); (· decide); (· decide)) | ((with_reducible refine wb_mul2 ?_ ?_ ?_ ?_ ?_); rotate_left; (· omega); (· omega); (· omega); (· omega))
    | ((with_reducible refine ⟨_, ix_tup (w := ?_) ?_, ?_⟩); rotate_left; · rfl) | with_reducible refine wl_lent ?_ | with_reducible refine str_lit (by assumption) ?_)

abbrev tkv (x : Frm) : Key × W := (Sum.inr x.1, frmW x)
def tk (m : Nat) : List (Key × W) := (tblL.take m).map tkv
abbrev tg (m : Nat) : Frm := tblL.getD m (fr "" "" 0 0 0)
theorem put_new (x : Frm) : ∀ l : List Frm, (∀ y ∈ l, y.1 ≠ x.1) → putG (Sum.inr x.1 : Key) (frmW x) (l.map tkv) = (l ++ [x]).map tkv
  | [], _ => rfl
  | y :: l, h => by
    rw [List.map_cons]
    unfold putG
    rw [if_neg (fun z => h y List.mem_cons_self (Sum.inr.inj z)), put_new x l (fun z hz => h z (List.mem_cons_of_mem _ hz))]
    rfl
theorem tk_step : ∀ m < tblL.length, putG (Sum.inr (tg m).1 : Key) (frmW (tg m)) (tk m) = tk (m + 1) := by
  intro m hm
  have h1 : ∀ m < tblL.length, ∀ y ∈ tblL.take m, y.1 ≠ (tg m).1 := by decide +kernel
  have h2 : tblL.take (m + 1) = tblL.take m ++ [tg m] := by
    rw [List.take_add_one, List.getElem?_eq_getElem hm]
    simp [tg, List.getD, List.getElem?_eq_getElem hm]
  unfold tk
  rw [put_new _ _ (h1 m hm), h2]
theorem wi_tbl {Q : Unit → Hs → Prop} {h : Hs} {n : Nat} (m : Nat) (e : h[n]? = some (.dct (tk m))) (hm : m < tblL.length) (q : ∀ h2, h2[n]? = some (.dct (tk (m + 1))) → Kp n h h2 → Q () h2) : wp (setI (.loc n) (.str (tg m).1) (frmW (tg m)) h) Q :=
  wi_dct e rfl (by
    have : tblL.length = 38 + 3 ∨ tblL.length ≤ 100 := .inr (by decide +kernel)
    have h3 : (tk m).length ≤ tblL.length := by unfold tk; rw [List.length_map, List.length_take]; omega
    show (tk m).length + 1 ≤ 16777216
    have h4 : tblL.length ≤ 100 := by decide +kernel
    omega) fun h2 e2 k2 => q h2 (by rw [e2, tk_step m hm]) k2
theorem table {k p : Nat} {h : Hs} {Q : W → Hs → Prop} (P : Pool p h) (q : ∀ t h1, Dn p h h1 → t ≠ p → h1[t]? = some (.dct tblK) → Q (.loc t) h1) : wp (evFn D.T (k + 1) 9 [] h) Q := by
  refine wf (i := ⟨0, 5, b__law_table⟩) (env := [none, none, none, none, none]) rfl rfl rfl ?_
  unfold b__law_table
  refine ws_set ?_
  refine we_dctP P fun t g N => ?_
  repeat infer_instance
  refine ⟨_, rfl, N.at_, fun g1 e1 k1 => ?_⟩
  have e1 : g1[t]? = some (.dct (tk 3)) := e1
  have hp := P.lt
  have hf := N.fr
  have D1 := N.dn.touch k1 hf (by omega)
  refine ws_seti ?_
  repeat infer_instance
  refine wi_tbl 3 e1 (by decide) fun g2 e2 k2 => ?_
  have D2 := D1.touch k2 hf (by omega)
  refine ws_seti ?_
  repeat infer_instance
  refine wi_tbl 4 e2 (by decide) fun g3 e3 k3 => ?_
  have D3 := D2.touch k3 hf (by omega)
  refine ws_seti ?_
  repeat infer_instance
  refine wi_tbl 5 e3 (by decide) fun g4 e4 k4 => ?_
  have D4 := D3.touch k4 hf (by omega)
  have e5 : g4[t]? = some (.dct (tk 6)) := e4
  clear e4 e3 e2 e1
  refine ws_set ?_
  refine we_lstP (p := p) ?_
  repeat infer_instance
  refine ⟨D4.pool, fun n5 g5 N5 => ?_⟩
  refine ws_set ?_
  refine we_lstP (p := p) ?_
  repeat infer_instance
  refine ⟨N5.pool, fun n6 g6 N6 => ?_⟩
  have e6 := N6.gr _ _ (N5.gr _ _ e5)
  have a5 := N6.gr _ _ N5.at_
  have a6 := N6.at_
  have D6 := D4.trans (N5.dn.trans N6.dn)
  have l4 := D4.kp.le
  have lt4 := (List.getElem?_eq_some_iff.mp e5).1
  have f5 := N5.fr
  have f6 := N6.fr
  have l5 := N5.kp.le
  refine ws_forI (fun r env g => ∃ (j : Nat) (x : Option W), j ≤ 8 ∧ r = (intsFrom 0 8).drop j ∧ env = [some (.loc t), some (.loc n5), some (.loc n6), x, none] ∧ Dn p h g ∧ g[t]? = some (.dct (tk (6 + 2 * j))) ∧ g[n5]? = some (.lst [.str "add", .str "sll", .str "slt", .str "sltu", .str "xor", .str "srl", .str "or", .str "and"]) ∧ g[n6]? = some (.lst [.str "mul", .str "mulh", .str "mulhsu", .str "mulhu", .str "div", .str "divu", .str "rem", .str "remu"])) ?_ ?_ ?_
  · repeat infer_instance
    exact ⟨_, src_range (by decide) (by decide), 0, none, by decide, rfl, rfl, D6, e6, a5, a6⟩
  · rintro w r env g ⟨j, x, j8, hr, rfl, Dg, eg, b5, b6⟩
    have hj : j < 8 := by
      have := congrArg List.length hr
      simp [intsFrom_len] at this
      omega
    refine ⟨_, rfl, ?_⟩
    have hj2 : j = 0 ∨ j = 1 ∨ j = 2 ∨ j = 3 ∨ j = 4 ∨ j = 5 ∨ j = 6 ∨ j = 7 := by omega
    obtain ⟨j', hj'⟩ : ∃ j', j' = j + 1 := ⟨_, rfl⟩
    rcases hj2 with rfl | rfl | rfl | rfl | rfl | rfl | rfl | rfl
    all_goals
      obtain ⟨rfl, rfl⟩ := List.cons.inj hr
      refine ws_seti ?_
      repeat infer_instance
      refine wi_tbl _ eg (by decide) fun g7 e7 k7 => ?_
      have c5 := k7.at_ _ _ (show n5 ≠ t by omega) b5
      have c6 := k7.at_ _ _ (show n6 ≠ t by omega) b6
      have D7 := Dg.touch k7 hf (by omega)
      refine ws_seti ?_
      repeat infer_instance
      refine wi_tbl _ e7 (by decide) fun g8 e8 k8 => ?_
      exact ws_nil ⟨j', _, by omega, by subst hj'; rfl, rfl, D7.touch k8 hf (by omega), by subst hj'; exact e8, k8.at_ _ _ (by omega) c5, k8.at_ _ _ (by omega) c6⟩
  · rintro env g ⟨j, x, j8, hr, rfl, Dg, eg, b5, b6⟩
    have hj : ¬ j < 8 := fun hj => by
      have := congrArg List.length hr
      simp [intsFrom_len] at this
      omega
    obtain rfl : j = 8 := by omega
    have eg : g[t]? = some (.dct (tk 22)) := eg
    clear b5 b6 a5 a6 hr
    have tl := (List.getElem?_eq_some_iff.mp eg).1
    refine ws_seti ?_
    repeat infer_instance
    refine wi_tbl 22 eg (by decide) fun g1 e1 k1 => ?_
    have D1 := Dg.touch k1 hf (by omega)
    refine ws_seti ?_
    repeat infer_instance
    refine wi_tbl 23 e1 (by decide) fun g2 e2 k2 => ?_
    have D2 := D1.touch k2 hf (by omega)
    refine ws_forL (fun n ws r env g => ∃ (j : Nat) (y z : Option W), j ≤ 6 ∧ r = ws.drop j ∧ ws = [.tup [.str "addi", .int 0], .tup [.str "slti", .int 2], .tup [.str "sltiu", .int 3], .tup [.str "xori", .int 4], .tup [.str "ori", .int 6], .tup [.str "andi", .int 7]] ∧ env = [some (.loc t), some (.loc n5), some (.loc n6), y, z] ∧ Dn p h g ∧ g[t]? = some (.dct (tk (24 + j))) ∧ g[n]? = some (.lst ws) ∧ t < n) ?_ ?_ ?_ ?_
    · refine we_cons ?_
      refine we_lstP (p := p) ?_
      repeat infer_instance
      refine ⟨D2.pool, fun n0 g0 N0 => ?_⟩
      repeat infer_instance
      have tl0 := (List.getElem?_eq_some_iff.mp e2).1
      have f0 := N0.fr
      exact ⟨n0, _, rfl, 0, _, _, by decide, rfl, rfl, rfl, D2.trans N0.dn, N0.gr _ _ e2, N0.at_, by omega⟩
    · rintro n ws r env g ⟨j, y, z, _, _, _, _, _, _, e, _⟩
      exact e
    · rintro n ws w r env g ⟨j, y, z, j6, hr, rfl, rfl, Dg, eg, en, htn⟩
      have hj : j < 6 := by
        have := congrArg List.length hr
        simp at this
        omega
      refine ⟨_, rfl, ?_⟩
      have hj2 : j = 0 ∨ j = 1 ∨ j = 2 ∨ j = 3 ∨ j = 4 ∨ j = 5 := by omega
      obtain ⟨j', hj'⟩ : ∃ j', j' = j + 1 := ⟨_, rfl⟩
      rcases hj2 with rfl | rfl | rfl | rfl | rfl | rfl
      all_goals
        obtain ⟨rfl, rfl⟩ := List.cons.inj hr
        refine ws_seti ?_
        repeat infer_instance
        refine wi_tbl _ eg (by decide) fun g7 e7 k7 => ?_
        exact ws_nil ⟨j', _, _, by omega, by subst hj'; rfl, rfl, rfl, Dg.touch k7 hf (by omega), by subst hj'; exact e7, k7.at_ _ _ (by omega) en, htn⟩
    rintro n ws env g ⟨j, y, z, j6, hr, rfl, rfl, Dg, eg, en, htn⟩
    have hj : ¬ j < 6 := fun hj => by
      have := congrArg List.length hr
      simp at this
      omega
    obtain rfl : j = 6 := by omega
    clear en hr hj j6
    have e9 : g[t]? = some (.dct (tk 30)) := eg
    clear eg
    refine ws_seti ?_
    repeat infer_instance
    refine wi_tbl 30 e9 (by decide) fun g10 e10 k10 => ?_
    have D10 := Dg.touch k10 hf (by omega)
    refine ws_seti ?_
    repeat infer_instance
    refine wi_tbl 31 e10 (by decide) fun g11 e11 k11 => ?_
    have D11 := D10.touch k11 hf (by omega)
    refine ws_seti ?_
    repeat infer_instance
    refine wi_tbl 32 e11 (by decide) fun g12 e12 k12 => ?_
    have D12 := D11.touch k12 hf (by omega)
    refine ws_forL (fun n ws r env g => ∃ (j : Nat) (y z : Option W), j ≤ 6 ∧ r = ws.drop j ∧ ws = [.tup [.str "beq", .int 0], .tup [.str "bne", .int 1], .tup [.str "blt", .int 4], .tup [.str "bge", .int 5], .tup [.str "bltu", .int 6], .tup [.str "bgeu", .int 7]] ∧ env = [some (.loc t), some (.loc n5), some (.loc n6), y, z] ∧ Dn p h g ∧ g[t]? = some (.dct (tk (33 + j))) ∧ g[n]? = some (.lst ws) ∧ t < n) ?_ ?_ ?_ ?_
    · refine we_cons ?_
      refine we_lstP (p := p) ?_
      repeat infer_instance
      refine ⟨D12.pool, fun n0 g0 N0 => ?_⟩
      repeat infer_instance
      have tl0 := (List.getElem?_eq_some_iff.mp e12).1
      have f0 := N0.fr
      exact ⟨n0, _, rfl, 0, _, _, by decide, rfl, rfl, rfl, D12.trans N0.dn, N0.gr _ _ e12, N0.at_, by omega⟩
    · rintro n ws r env g ⟨j, y, z, _, _, _, _, _, _, e, _⟩
      exact e
    · rintro n ws w r env g ⟨j, y, z, j6, hr, rfl, rfl, Dg, eg, en, htn⟩
      have hj : j < 6 := by
        have := congrArg List.length hr
        simp at this
        omega
      refine ⟨_, rfl, ?_⟩
      have hj2 : j = 0 ∨ j = 1 ∨ j = 2 ∨ j = 3 ∨ j = 4 ∨ j = 5 := by omega
      obtain ⟨j', hj'⟩ : ∃ j', j' = j + 1 := ⟨_, rfl⟩
      rcases hj2 with rfl | rfl | rfl | rfl | rfl | rfl
      all_goals
        obtain ⟨rfl, rfl⟩ := List.cons.inj hr
        refine ws_seti ?_
        repeat infer_instance
        refine wi_tbl _ eg (by decide) fun g7 e7 k7 => ?_
        exact ws_nil ⟨j', _, _, by omega, by subst hj'; rfl, rfl, rfl, Dg.touch k7 hf (by omega), by subst hj'; exact e7, k7.at_ _ _ (by omega) en, htn⟩
    rintro n ws env g ⟨j, y, z, j6, hr, rfl, rfl, Dg, eg, en, htn⟩
    have hj : ¬ j < 6 := fun hj => by
      have := congrArg List.length hr
      simp at this
      omega
    obtain rfl : j = 6 := by omega
    clear en hr hj j6
    have e13 : g[t]? = some (.dct tblK) := eg
    repeat infer_instance
    exact q t g Dg (by omega) e13
end K60
set_option Elab.async false
set_option linter.all false
set_option maxRecDepth 100000
set_option maxHeartbeats 1600000
namespace K60
open PySem PySem.Spec PyProof.Rows L2 Pc
local macro_rules
  | `(tactic| infer_instance) => `(tactic| first
    | with_reducible refine ws_set ?_ | with_reducible refine ws_ret ?_ | with_reducible refine ws_expr ?_ | ((with_reducible refine ws_if ?_); dsimp only [List.cons_append, List.nil_append]) | with_reducible refine ws_seti ?_ | with_reducible refine ws_seta ?_
    | with_reducible refine we_lit ?_ | with_reducible refine we_bin ?_ | with_reducible refine we_cmp ?_ | with_reducible refine we_and ?_ | with_reducible refine we_and2 ?_ | with_reducible refine we_and1 ?_ | with_reducible refine we_or ?_ | with_reducible refine we_or2 ?_
    | with_reducible refine we_or1 ?_ | with_reducible refine we_val ?_ | with_reducible refine we_not ?_ | with_reducible refine we_ite ?_ | with_reducible refine we_nil ?_ | with_reducible refine we_cons ?_ | with_reducible refine we_tup ?_ 
    | with_reducible refine we_ix ?_ | with_reducible refine we_slc ?_ | with_reducible refine wo_none ?_ | with_reducible refine wo_some ?_ | with_reducible refine we_att ?_ | with_reducible refine we_call ?_ | with_reducible refine we_new ?_ | with_reducible refine we_mth ?_
    | with_reducible refine we_blt ?_ | with_reducible refine we_bmt ?_ | with_reducible refine we_isi ?_ | with_reducible refine we_dct ?_ | with_reducible refine we_neg ?_ | with_reducible refine wt_cmp ?_ | with_reducible refine wt_isi ?_ | with_reducible refine wt_val ?_
    | with_reducible refine wt_not ?_ | with_reducible refine wt_and ?_ | with_reducible refine wt_or ?_ | with_reducible refine wt_and2 ?_ | with_reducible refine wt_or2 ?_ | with_reducible refine wt_and1 ?_ | with_reducible refine wt_or1 ?_ | with_reducible refine wc_nil ?_
    | with_reducible refine wc_one ?_ | with_reducible refine wb_add ?_ | with_reducible refine wb_sub ?_ | with_reducible refine wl_int ?_ | with_reducible refine wl_abs ?_ | with_reducible refine ex_int ?_ | with_reducible refine ex_bl ?_
    | ((with_reducible refine we_var (w := ?_) ?_ ?_); rotate_left; · rfl)
    | with_reducible refine ⟨_, cmp_eq_int, ?_⟩ | with_reducible refine ⟨_, cmp_ne_int, ?_⟩ | with_reducible refine ⟨_, cmp_lt_int, ?_⟩ | with_reducible refine ⟨_, cmp_gt_int, ?_⟩ | with_reducible refine ⟨_, cmp_le_int, ?_⟩ | with_reducible refine ⟨_, cmp_ge_int, ?_⟩ | with_reducible refine ⟨_, tru_bl, ?_⟩
    | ((with_reducible refine ⟨_, ix_lst (w := ?_) (by assumption) ?_, ?_⟩); rotate_left; · rfl)
    | ((with_reducible refine And.intro (a := _ ≤ lim) ?_ ?_); · exact Nat.le_of_ble_eq_true rfl)
    | with_reducible refine if_t ?_ | with_reducible refine if_f ?_
    | with_reducible refine wl_len (len_lst (by assumption)) ?_
    | ((with_reducible refine wb_mod ?_ ?_); · decide) | ((with_reducible refine wb_div ?_ ?_ ?_); (· decide); (· decide)) | ((with_reducible refine wb_mul2 ?_ ?_ ?_ ?_ ?_); rotate_left; (· omega); (· omega); (· omega); (· omega))
    | ((with_reducible refine ⟨_, ix_tup (w := ?_) ?_, ?_⟩); rotate_left; · rfl) | with_reducible refine wl_lent ?_ | with_reducible refine str_lit (by assumption) ?_)
/-- all stays but p and what lies from a to b -/
structure Fr (p a b : Nat) (g g' : Hs) : Prop where
  le : g.length ≤ g'.length
  at_ : ∀ (n : Nat) (o : Ob), n ≠ p → ¬ (a ≤ n ∧ n ≤ b) → g[n]? = some o → g'[n]? = some o
section
variable {p a b : Nat} {g g1 g2 g' h0 : Hs}
theorem Fr.refl : Fr p a b g g := ⟨Nat.le_refl _, fun _ _ _ _ e => e⟩
theorem Fr.trans (x : Fr p a b g g1) (y : Fr p a b g1 g2) : Fr p a b g g2 := ⟨Nat.le_trans x.le y.le, fun n o h1 h2 e => y.at_ n o h1 h2 (x.at_ n o h1 h2 e)⟩
theorem Kp.fr (k : Kp p g g') : Fr p a b g g' := ⟨k.le, fun n o h1 _ e => k.at_ n o h1 e⟩
theorem Kp.frn {n : Nat} (k : Kp n g g') (h1 : a ≤ n) (h2 : n ≤ b) : Fr p a b g g' := ⟨k.le, fun m o _ hm e => k.at_ m o (fun z => hm (by omega)) e⟩
theorem Fr.dn (k : Fr p a b g g') (P : Pool p g') (ha : h0.length ≤ a) (d : Dn p h0 g) : Dn p h0 g' := ⟨P, ⟨Nat.le_trans d.kp.le k.le, fun n o hn e => k.at_ n o hn (by have := (List.getElem?_eq_some_iff.mp e).1; omega) (d.kp.at_ n o hn e)⟩⟩
end
def defW (x : Str × Int × Int × Int) : W := .tup [.str x.1, .int x.2.1, .int x.2.2.1, .int x.2.2.2]
def opnW (x : Int × Str × Str) : W := .tup [.int x.1, .str x.2.1, .str x.2.2]
def sgnW (x : Int × Str × Chn) : W := .tup [.int x.1, .str x.2.1, .tup (x.2.2.map linkW)]
structure Tp where
  d : Nat
  r : Nat
  f : Nat
  o : Nat
  w : Nat
  x : Nat
  s : Nat
structure Tc where
  rows : List W
  defs : List (Str × Int × Int × Int)
  outer : List (Str × Int × Int)
  wants : List (Str × Str × Int)
  opn : List (Int × Str × Str)
  sgn : List (Int × Str × Chn)
structure At (p : Nat) (t : Tp) (c : Tc) (g : Hs) : Prop where
  pd : p < t.d
  o1 : t.d < t.r
  o2 : t.r < t.f
  o3 : t.f < t.o
  o4 : t.o < t.w
  o5 : t.w < t.x
  o6 : t.x < t.s
  d : g[t.d]? = some (.dct [(.inr "rows", .loc t.r), (.inr "defs", .loc t.f), (.inr "outer", .loc t.o), (.inr "wants", .loc t.w), (.inr "open", .loc t.x), (.inr "signs", .loc t.s)])
  r : g[t.r]? = some (.lst c.rows)
  f : g[t.f]? = some (.lst (c.defs.map defW))
  o : g[t.o]? = some (.lst (c.outer.map dataW))
  w : g[t.w]? = some (.lst (c.wants.map needW))
  x : g[t.x]? = some (.lst (c.opn.map opnW))
  s : g[t.s]? = some (.lst (c.sgn.map sgnW))
structure Gd (c : Tc) (b : Nat) : Prop where
  r : (∀ w ∈ c.rows, RowW w) ∧ c.rows.length ≤ b
  f : (∀ x ∈ c.defs, goodS x.1 = true) ∧ c.defs.length ≤ b
  o : (∀ x ∈ c.outer, goodS x.1 = true) ∧ c.outer.length ≤ b
  w : (∀ x ∈ c.wants, goodN x) ∧ c.wants.length ≤ b
  x : (∀ x ∈ c.opn, goodS x.2.1 = true ∧ goodS x.2.2 = true) ∧ c.opn.length ≤ b
  s : (∀ x ∈ c.sgn, goodS x.2.1 = true ∧ goodC x.2.2) ∧ c.sgn.length ≤ b
section
variable {p : Nat} {t : Tp} {c : Tc} {g g' : Hs}
theorem At.kp (A : At p t c g) (k : Kp p g g') : At p t c g' := by
  have h1 := A.pd; have h2 := A.o1; have h3 := A.o2; have h4 := A.o3; have h5 := A.o4; have h6 := A.o5; have h7 := A.o6
  exact ⟨h1, h2, h3, h4, h5, h6, h7, k.at_ _ _ (by omega) A.d, k.at_ _ _ (by omega) A.r, k.at_ _ _ (by omega) A.f, k.at_ _ _ (by omega) A.o, k.at_ _ _ (by omega) A.w, k.at_ _ _ (by omega) A.x, k.at_ _ _ (by omega) A.s⟩
theorem At.nw {q n : Nat} {o : Ob} (A : At p t c g) (k : Nw q n o g g') : At p t c g' :=
  ⟨A.pd, A.o1, A.o2, A.o3, A.o4, A.o5, A.o6, k.gr _ _ A.d, k.gr _ _ A.r, k.gr _ _ A.f, k.gr _ _ A.o, k.gr _ _ A.w, k.gr _ _ A.x, k.gr _ _ A.s⟩
theorem At.tr {us : List W} (A : At p t c g) (k : Kp t.r g g') (e : g'[t.r]? = some (.lst us)) : At p t { c with rows := us } g' := by
  have h1 := A.pd; have h2 := A.o1; have h3 := A.o2; have h4 := A.o3; have h5 := A.o4; have h6 := A.o5; have h7 := A.o6
  exact ⟨h1, h2, h3, h4, h5, h6, h7, k.at_ _ _ (by omega) A.d, e, k.at_ _ _ (by omega) A.f, k.at_ _ _ (by omega) A.o, k.at_ _ _ (by omega) A.w, k.at_ _ _ (by omega) A.x, k.at_ _ _ (by omega) A.s⟩
theorem At.tf {us} (A : At p t c g) (k : Kp t.f g g') (e : g'[t.f]? = some (.lst (List.map defW us))) : At p t { c with defs := us } g' := by
  have h1 := A.pd; have h2 := A.o1; have h3 := A.o2; have h4 := A.o3; have h5 := A.o4; have h6 := A.o5; have h7 := A.o6
  exact ⟨h1, h2, h3, h4, h5, h6, h7, k.at_ _ _ (by omega) A.d, k.at_ _ _ (by omega) A.r, e, k.at_ _ _ (by omega) A.o, k.at_ _ _ (by omega) A.w, k.at_ _ _ (by omega) A.x, k.at_ _ _ (by omega) A.s⟩
theorem At.to {us} (A : At p t c g) (k : Kp t.o g g') (e : g'[t.o]? = some (.lst (List.map dataW us))) : At p t { c with outer := us } g' := by
  have h1 := A.pd; have h2 := A.o1; have h3 := A.o2; have h4 := A.o3; have h5 := A.o4; have h6 := A.o5; have h7 := A.o6
  exact ⟨h1, h2, h3, h4, h5, h6, h7, k.at_ _ _ (by omega) A.d, k.at_ _ _ (by omega) A.r, k.at_ _ _ (by omega) A.f, e, k.at_ _ _ (by omega) A.w, k.at_ _ _ (by omega) A.x, k.at_ _ _ (by omega) A.s⟩
theorem At.tw {us} (A : At p t c g) (k : Kp t.w g g') (e : g'[t.w]? = some (.lst (List.map needW us))) : At p t { c with wants := us } g' := by
  have h1 := A.pd; have h2 := A.o1; have h3 := A.o2; have h4 := A.o3; have h5 := A.o4; have h6 := A.o5; have h7 := A.o6
  exact ⟨h1, h2, h3, h4, h5, h6, h7, k.at_ _ _ (by omega) A.d, k.at_ _ _ (by omega) A.r, k.at_ _ _ (by omega) A.f, k.at_ _ _ (by omega) A.o, e, k.at_ _ _ (by omega) A.x, k.at_ _ _ (by omega) A.s⟩
theorem At.tx {us} (A : At p t c g) (k : Kp t.x g g') (e : g'[t.x]? = some (.lst (List.map opnW us))) : At p t { c with opn := us } g' := by
  have h1 := A.pd; have h2 := A.o1; have h3 := A.o2; have h4 := A.o3; have h5 := A.o4; have h6 := A.o5; have h7 := A.o6
  exact ⟨h1, h2, h3, h4, h5, h6, h7, k.at_ _ _ (by omega) A.d, k.at_ _ _ (by omega) A.r, k.at_ _ _ (by omega) A.f, k.at_ _ _ (by omega) A.o, k.at_ _ _ (by omega) A.w, e, k.at_ _ _ (by omega) A.s⟩
theorem At.ts {us} (A : At p t c g) (k : Kp t.s g g') (e : g'[t.s]? = some (.lst (List.map sgnW us))) : At p t { c with sgn := us } g' := by
  have h1 := A.pd; have h2 := A.o1; have h3 := A.o2; have h4 := A.o3; have h5 := A.o4; have h6 := A.o5; have h7 := A.o6
  exact ⟨h1, h2, h3, h4, h5, h6, h7, k.at_ _ _ (by omega) A.d, k.at_ _ _ (by omega) A.r, k.at_ _ _ (by omega) A.f, k.at_ _ _ (by omega) A.o, k.at_ _ _ (by omega) A.w, k.at_ _ _ (by omega) A.x, e⟩
/-- the thing's parts by name -/
theorem At.key {h : Str} {n : Nat} (A : At p t c g) (e : valG [((.inr "rows" : Key), W.loc t.r), (.inr "defs", .loc t.f), (.inr "outer", .loc t.o), (.inr "wants", .loc t.w), (.inr "open", .loc t.x), (.inr "signs", .loc t.s)] (.inr h) = some (.loc n)) : ixW (.loc t.d) (.str h) g = some (.loc n) := ix_dct A.d rfl e
theorem At.frame {a b : Nat} {p2 : Nat} (A : At p t c g) (k : Fr p2 a b g g') (hp : p2 = p) (hd : b < t.d ∨ t.s < a) : At p t c g' := by
  have h1 := A.pd; have h2 := A.o1; have h3 := A.o2; have h4 := A.o3; have h5 := A.o4; have h6 := A.o5; have h7 := A.o6
  exact ⟨h1, h2, h3, h4, h5, h6, h7, k.at_ _ _ (by omega) (by omega) A.d, k.at_ _ _ (by omega) (by omega) A.r, k.at_ _ _ (by omega) (by omega) A.f, k.at_ _ _ (by omega) (by omega) A.o, k.at_ _ _ (by omega) (by omega) A.w, k.at_ _ _ (by omega) (by omega) A.x, k.at_ _ _ (by omega) (by omega) A.s⟩
end
/-- what a run that goes on with the thing leaves -/
structure Tn (p : Nat) (t : Tp) (c' : Tc) (g g' : Hs) : Prop where
  pool : Pool p g'
  fr : Fr p t.d t.s g g'
  at_ : At p t c' g'
theorem Tn.trans {p : Nat} {t : Tp} {c c' : Tc} {g g1 g2 : Hs} (x : Tn p t c g g1) (y : Tn p t c' g1 g2) : Tn p t c' g g2 := ⟨y.pool, x.fr.trans y.fr, y.at_⟩
theorem _root_.Pc.Dn.tn {p : Nat} {t : Tp} {c : Tc} {g g1 : Hs} (d : Dn p g g1) (A : At p t c g) : Tn p t c g g1 := ⟨d.pool, Kp.fr d.kp, A.kp d.kp⟩
theorem cmp_ne_str {h : Hs} {s t : Str} (es : PyData.strOk s = true) (et : PyData.strOk t = true) : cmpW .ne (.str s) (.str t) h = some (!decide (s = t)) := by
  show (eqR h (.str s) (.str t)).map (! ·) = _
  rw [eqR_str es et]
  rfl
theorem one_word {k p tb l m B : Nat} {t : Tp} {c : Tc} {xs ys : List Str} {h : Hs} {Q : W → Hs → Prop} (P : Pool p h) (A : At p t c h) (G : Gd c B) (hB : B ≤ 1000) (ht : tb ≠ p) (htd : tb < t.d) (et : h[tb]? = some (.dct tblK))
    (hl : t.s < l) (hm : t.s < m) (el : strsO l xs h) (em : strsO m ys h) (lx : xs.length ≤ 100) (ly : ys.length ≤ 100)
    (q : ∀ c' h1, Tn p t c' h h1 → Gd c' (B + 1) → c'.defs = c.defs → Q .non h1) : wp (evFn D.T (k + 5) 20 [.loc p, .loc tb, .loc t.d, .loc l, .loc m] h) Q := by
  have z0 := A.pd; have z1 := A.o1; have z2 := A.o2; have z3 := A.o3; have z4 := A.o4; have z5 := A.o5; have z6 := A.o6
  refine wf (i := ⟨5, 8, b__law_one_word⟩) (env := [some (.loc p), some (.loc tb), some (.loc t.d), some (.loc l), some (.loc m), none, none, none]) rfl rfl rfl ?_
  -- the last part
  have last : ∀ (c1 : Tc) (g : Hs) (at_ : Int) (y : Option W), Tn p t c1 h g → Gd c1 (B + 1) → c1.defs = c.defs → c1.sgn = c.sgn → wp (evSs D.T (evFn D.T (k + 4)) (b__law_one_word.drop 2) [some (.loc p), some (.loc tb), some (.loc t.d), some (.loc l), some (.loc m), some (.int at_), y, none] g) fun fl h1 => match fl with
      | .rt w => Q w h1
      | .nx _ => Q .non h1
      | _ => False := by
    intro c1 g at_ y T1 G1 hd hsg
    unfold b__law_one_word
    dsimp only [List.drop]
    repeat infer_instance
    refine dr T1.pool fun r g1 D1 r0 r1 => ?_
    repeat infer_instance
    refine if_dec (fun hc => ?_) fun hc => ?_
    · refine ws_set ?_
      repeat infer_instance
      refine we_lstP (p := p) ?_
      repeat infer_instance
      refine ⟨D1.pool, fun n2 g2 N2 => ?_⟩
      repeat infer_instance
      refine pk N2.pool N2.ne N2.at_ fun w g3 D3 mw => ?_
      obtain ⟨s, rfl, gs⟩ := goodW_ok (List.all_eq_true.mp (by decide +kernel) w mw)
      have T3 := ((T1.trans (D1.tn T1.at_)).trans (N2.dn.tn (T1.at_.kp D1.kp))).trans (D3.tn ((T1.at_.kp D1.kp).nw N2))
      repeat infer_instance
      refine ⟨_, T3.at_.key rfl, ?_⟩
      refine ⟨kind_lst T3.at_.s rfl, ?_⟩
      repeat infer_instance
      refine chain T3.pool fun ch g4 D4 gc => ?_
      repeat infer_instance
      have T4 := T3.trans (D4.tn T3.at_)
      refine wm_append T4.at_.s (by rw [List.length_map]; have := G1.s.2; show _ < 16777216; omega) fun g5 e5 k5 => ?_
      have e6 : g5[t.s]? = some (.lst ((c1.sgn ++ [(at_, s, ch)]).map sgnW)) := by rw [e5, List.map_append]; rfl
      refine ws_nil (q { c1 with sgn := c1.sgn ++ [(at_, s, ch)] } g5 ⟨T4.pool.touch k5 (by omega), T4.fr.trans (Kp.frn k5 (by omega) (Nat.le_refl _)), T4.at_.ts k5 e6⟩ ⟨G1.r, G1.f, G1.o, G1.w, G1.x, ?_⟩ hd)
      refine ⟨fun x hx => ?_, by rw [List.length_append, hsg]; have := G.s.2; simp; omega⟩
      rcases List.mem_append.mp hx with mx | mx
      · exact G1.s.1 x mx
      · simp at mx
        rw [mx]
        exact ⟨gs, gc⟩
    · exact ws_nil (q c1 g1 (T1.trans (D1.tn T1.at_)) G1 hd)
  unfold b__law_one_word
  repeat infer_instance
  refine ⟨_, A.key rfl, ?_⟩
  repeat infer_instance
  refine wl_len (len_lst A.r) ?_
  repeat infer_instance
  refine dr P fun r g1 D1 r0 r1 => ?_
  have T1 := D1.tn A
  have up : ∀ {n : Nat}, t.s < n → n ≠ p := fun hn => by omega
  repeat infer_instance
  refine if_dec (fun hc => ?_) fun hc => ?_
  · repeat infer_instance
    refine open_row T1.pool (by omega) (by omega) (el.kp D1.kp (by omega)) (em.kp D1.kp (by omega)) lx ly fun ro s1 s2 g2 D2 hr gs1 gs2 => ?_
    have T2 := T1.trans (D2.tn T1.at_)
    repeat infer_instance
    refine ⟨_, T2.at_.key rfl, ?_⟩
    refine ⟨kind_lst T2.at_.r rfl, ?_⟩
    repeat infer_instance
    refine wm_append T2.at_.r (by have := G.r.2; show _ < 16777216; omega) fun g3 e3 k3 => ?_
    have A3 := T2.at_.tr k3 e3
    have T3 : Tn p t _ h g3 := ⟨T2.pool.touch k3 (by omega), T2.fr.trans (Kp.frn k3 (by omega) (by omega)), A3⟩
    have G3 : Gd { c with rows := c.rows ++ [ro] } (B + 1) := ⟨⟨fun w hw => by
      rcases List.mem_append.mp hw with mx | mx
      · exact G.r.1 w mx
      · simp at mx
        rw [mx]
        exact hr, by have := G.r.2; simp; omega⟩, ⟨G.f.1, Nat.le_succ_of_le G.f.2⟩, ⟨G.o.1, Nat.le_succ_of_le G.o.2⟩, ⟨G.w.1, Nat.le_succ_of_le G.w.2⟩, ⟨G.x.1, Nat.le_succ_of_le G.x.2⟩, ⟨G.s.1, Nat.le_succ_of_le G.s.2⟩⟩
    repeat infer_instance
    refine ⟨_, cmp_ne_str (goodS_ok gs1).1 (by decide +kernel), ?_⟩
    refine if_ndec (fun hs => ?_) fun hs => ?_
    · repeat infer_instance
      refine ⟨_, T3.at_.key rfl, ?_⟩
      refine ⟨kind_lst T3.at_.x rfl, ?_⟩
      repeat infer_instance
      refine wm_append T3.at_.x (by rw [List.length_map]; have := G.x.2; show c.opn.length < 16777216; omega) fun g4 e4 k4 => ?_
      have e5 : g4[t.x]? = some (.lst ((c.opn ++ [((c.rows.length : Int), s1, s2)]).map opnW)) := by rw [e4, List.map_append]; rfl
      refine last { c with rows := c.rows ++ [ro], opn := c.opn ++ [((c.rows.length : Int), s1, s2)] } g4 _ _ ⟨T3.pool.touch k4 (by omega), T3.fr.trans (Kp.frn k4 (by omega) (by omega)), T3.at_.tx k4 e5⟩ ⟨G3.r, G3.f, G3.o, G3.w, ?_, G3.s⟩ rfl rfl
      refine ⟨fun x hx => ?_, by show (c.opn ++ [_]).length ≤ B + 1; rw [List.length_append]; exact Nat.succ_le_succ G.x.2⟩
      rcases List.mem_append.mp hx with mx | mx
      · exact G.x.1 x mx
      · simp at mx
        rw [mx]
        exact ⟨gs1, gs2⟩
    · exact last _ g3 _ _ T3 G3 rfl rfl
  · repeat infer_instance
    refine ⟨_, T1.at_.key rfl, ?_⟩
    refine ⟨kind_lst T1.at_.r rfl, ?_⟩
    repeat infer_instance
    refine drawn_row T1.pool ht (T1.fr.at_ _ _ ht (by omega) et) fun ro g2 D2 hr => ?_
    have T2 := T1.trans (D2.tn T1.at_)
    repeat infer_instance
    refine wm_append T2.at_.r (by have := G.r.2; show _ < 16777216; omega) fun g3 e3 k3 => ?_
    have A3 := T2.at_.tr k3 e3
    have T3 : Tn p t _ h g3 := ⟨T2.pool.touch k3 (by omega), T2.fr.trans (Kp.frn k3 (by omega) (by omega)), A3⟩
    have G3 : Gd { c with rows := c.rows ++ [ro] } (B + 1) := ⟨⟨fun w hw => by
      rcases List.mem_append.mp hw with mx | mx
      · exact G.r.1 w mx
      · simp at mx
        rw [mx]
        exact hr, by have := G.r.2; simp; omega⟩, ⟨G.f.1, Nat.le_succ_of_le G.f.2⟩, ⟨G.o.1, Nat.le_succ_of_le G.o.2⟩, ⟨G.w.1, Nat.le_succ_of_le G.w.2⟩, ⟨G.x.1, Nat.le_succ_of_le G.x.2⟩, ⟨G.s.1, Nat.le_succ_of_le G.s.2⟩⟩
    exact last _ g3 _ _ T3 G3 rfl rfl
end K60
set_option Elab.async false
set_option linter.all false
set_option maxRecDepth 100000
set_option maxHeartbeats 1600000
namespace K60
open PySem PySem.Spec PyProof.Rows L2 Pc
local macro_rules
  | `(tactic| infer_instance) => `(tactic| first
    | with_reducible refine ws_set ?_ | with_reducible refine ws_ret ?_ | with_reducible refine ws_expr ?_ | ((with_reducible refine ws_if ?_); dsimp only [List.cons_append, List.nil_append]) | with_reducible refine ws_seti ?_ | with_reducible refine ws_seta ?_
    | with_reducible refine we_lit ?_ | with_reducible refine we_bin ?_ | with_reducible refine we_cmp ?_ | with_reducible refine we_and ?_ | with_reducible refine we_and2 ?_ | with_reducible refine we_and1 ?_ | with_reducible refine we_or ?_ | with_reducible refine we_or2 ?_
    | with_reducible refine we_or1 ?_ | with_reducible refine we_val ?_ | with_reducible refine we_not ?_ | with_reducible refine we_ite ?_ | with_reducible refine we_nil ?_ | with_reducible refine we_cons ?_ | with_reducible refine we_tup ?_ 
    | with_reducible refine we_ix ?_ | with_reducible refine we_slc ?_ | with_reducible refine wo_none ?_ | with_reducible refine wo_some ?_ | with_reducible refine we_att ?_ | with_reducible refine we_call ?_ | with_reducible refine we_new ?_ | with_reducible refine we_mth ?_
    | with_reducible refine we_blt ?_ | with_reducible refine we_bmt ?_ | with_reducible refine we_isi ?_ | with_reducible refine we_dct ?_ | with_reducible refine we_neg ?_ | with_reducible refine wt_cmp ?_ | with_reducible refine wt_isi ?_ | with_reducible refine wt_val ?_
    | with_reducible refine wt_not ?_ | with_reducible refine wt_and ?_ | with_reducible refine wt_or ?_ | with_reducible refine wt_and2 ?_ | with_reducible refine wt_or2 ?_ | with_reducible refine wt_and1 ?_ | with_reducible refine wt_or1 ?_ | with_reducible refine wc_nil ?_
    | with_reducible refine wc_one ?_ | with_reducible refine wb_add ?_ | with_reducible refine wb_sub ?_ | with_reducible refine wl_int ?_ | with_reducible refine wl_abs ?_ | with_reducible refine ex_int ?_ | with_reducible refine ex_bl ?_
    | ((with_reducible refine we_var (w := ?_) ?_ ?_); rotate_left; · rfl)
    | with_reducible refine ⟨_, cmp_eq_int, ?_⟩ | with_reducible refine ⟨_, cmp_ne_int, ?_⟩ | with_reducible refine ⟨_, cmp_lt_int, ?_⟩ | with_reducible refine ⟨_, cmp_gt_int, ?_⟩ | with_reducible refine ⟨_, cmp_le_int, ?_⟩ | with_reducible refine ⟨_, cmp_ge_int, ?_⟩ | with_reducible refine ⟨_, tru_bl, ?_⟩
    | ((with_reducible refine ⟨_, ix_lst (w := ?_) (by assumption) ?_, ?_⟩); rotate_left; · rfl)
    | ((with_reducible refine And.intro (a := _ ≤ lim) ?_ ?_); · exact Nat.le_of_ble_eq_true rfl)
    | with_reducible refine if_t ?_ | with_reducible refine if_f ?_
    | with_reducible refine wl_len (len_lst (by assumption)) ?_
    | ((with_reducible refine wb_mod ?_ ?_); · decide) | ((with_reducible refine wb_div ?_ ?_ ?_); (· decide); (· decide)) | ((with_reducible refine wb_mul2 ?_ ?_ ?_ ?_ ?_); rotate_left; (· omega); (· omega); (· omega); (· omega))
    | ((with_reducible refine ⟨_, ix_tup (w := ?_) ?_, ?_⟩); rotate_left; · rfl) | with_reducible refine wl_lent ?_ | with_reducible refine str_lit (by assumption) ?_)
/-! ### needs as data -/
def needD (x : Str × Str × Int) : PyData := .tuple [.str x.1, .str x.2.1, .int x.2.2]
theorem datW_need (x : Str × Str × Int) : datW (needW x) = some (needD x) := by
  simp only [needW, needD, datW, datWs, Option.bind_some, Option.map_some]
theorem datWs_needs : ∀ xs : List (Str × Str × Int), datWs (xs.map needW) = some (xs.map needD)
  | [] => rfl
  | x :: xs => by simp only [List.map_cons, datWs, datW_need, datWs_needs xs, Option.bind_some, Option.map_some]
theorem canLay_need {x : Str × Str × Int} (g : goodN x) : PyData.canLay0 (needD x) = true := by
  simp [needD, PyData.canLay0, PyData.canLayAll0, (goodS_ok g.1).1, (goodS_ok g.2).1]
theorem depth_need (x : Str × Str × Int) : PyData.depth (needD x) = 1 := by simp [needD, PyData.depth, PyData.depthAll]
theorem depthAll_needs : ∀ xs : List (Str × Str × Int), PyData.depthAll (xs.map needD) ≤ 1
  | [] => by simp [PyData.depthAll]
  | x :: xs => by
    have := depthAll_needs xs
    simp only [List.map_cons, PyData.depthAll, depth_need]
    omega
theorem canLay_needs : ∀ {xs : List (Str × Str × Int)}, (∀ x ∈ xs, goodN x) → PyData.canLayAll0 (xs.map needD) = true
  | [], _ => by simp [PyData.canLayAll0]
  | x :: xs, h => by simp [PyData.canLayAll0, canLay_need (h x (by simp)), canLay_needs fun y hy => h y (List.mem_cons_of_mem _ hy)]
theorem shp_need {x : Str × Str × Int} (g : goodN x) : SeqAt.shaped (needD x) = true := by
  unfold SeqAt.shaped
  rw [canLay_need g, depth_need]
  rfl
theorem shp_needsT {xs : List (Str × Str × Int)} (g : ∀ x ∈ xs, goodN x) : SeqAt.shaped (.tuple (xs.map needD)) = true := by
  have := depthAll_needs xs
  unfold SeqAt.shaped
  simp only [PyData.canLay0, canLay_needs g, PyData.depth, Bool.true_and]
  exact decide_eq_true (by omega)
theorem shp_needsL {xs : List (Str × Str × Int)} (g : ∀ x ∈ xs, goodN x) : SeqAt.shaped (.list (xs.map needD)) = true := by
  have := depthAll_needs xs
  unfold SeqAt.shaped
  simp only [PyData.canLay0, canLay_needs g, PyData.depth, Bool.true_and]
  exact decide_eq_true (by omega)
theorem eqv_need (x y : Str × Str × Int) : PyData.eqv (needD x) (needD y) = decide (x = y) := by
  obtain ⟨a, b, c⟩ := x
  obtain ⟨a', b', c'⟩ := y
  simp only [needD, PyData.eqv, PyData.eqvAll, bq, Bool.and_true, ← Bool.decide_and]
  exact decide_eq_decide.mpr (by simp)
theorem any_needs (x : Str × Str × Int) : ∀ xs : List (Str × Str × Int), (xs.map needD).any (fun z => PyData.eqv z (needD x)) = decide (x ∈ xs)
  | [] => by simp
  | y :: ys => by
    rw [List.map_cons, List.any_cons, any_needs x ys, eqv_need]
    by_cases h : y = x
    · subst h
      simp
    · have h2 : ¬ x = y := fun z => h z.symm
      simp [h, h2]
theorem notin_L {h : Hs} {n : Nat} {x : Str × Str × Int} {xs : List (Str × Str × Int)} (e : h[n]? = some (.lst (xs.map needW))) (gx : goodN x) (g : ∀ x ∈ xs, goodN x) : cmpW .notin (needW x) (.loc n) h = some (!decide (x ∈ xs)) := by
  show (Pc.inR h (needW x) (.loc n)).map (! ·) = _
  unfold Pc.inR
  simp only [e, datW_need, datWs_needs, if_pos (And.intro (shp_need gx) (shp_needsL g)), any_needs, Option.map_some]
theorem notin_T {h : Hs} {x : Str × Str × Int} {xs : List (Str × Str × Int)} (gx : goodN x) (g : ∀ x ∈ xs, goodN x) : cmpW .notin (needW x) (.tup (xs.map needW)) h = some (!decide (x ∈ xs)) := by
  show (Pc.inR h (needW x) (.tup (xs.map needW))).map (! ·) = _
  unfold Pc.inR
  simp only [datW_need, datWs_needs, if_pos (And.intro (shp_need gx) (shp_needsT g)), any_needs, Option.map_some]
end K60
set_option Elab.async false
set_option linter.all false
set_option maxRecDepth 100000
set_option maxHeartbeats 1600000
namespace K60
open PySem PySem.Spec PyProof.Rows L2 Pc
local macro_rules
  | `(tactic| infer_instance) => `(tactic| first
    | with_reducible refine ws_set ?_ | with_reducible refine ws_ret ?_ | with_reducible refine ws_expr ?_ | ((with_reducible refine ws_if ?_); dsimp only [List.cons_append, List.nil_append]) | with_reducible refine ws_seti ?_ | with_reducible refine ws_seta ?_
    | with_reducible refine we_lit ?_ | with_reducible refine we_bin ?_ | with_reducible refine we_cmp ?_ | with_reducible refine we_and ?_ | with_reducible refine we_and2 ?_ | with_reducible refine we_and1 ?_ | with_reducible refine we_or ?_ | with_reducible refine we_or2 ?_
    | with_reducible refine we_or1 ?_ | with_reducible refine we_val ?_ | with_reducible refine we_not ?_ | with_reducible refine we_ite ?_ | with_reducible refine we_nil ?_ | with_reducible refine we_cons ?_ | with_reducible refine we_tup ?_ 
    | with_reducible refine we_ix ?_ | with_reducible refine we_slc ?_ | with_reducible refine wo_none ?_ | with_reducible refine wo_some ?_ | with_reducible refine we_att ?_ | with_reducible refine we_call ?_ | with_reducible refine we_new ?_ | with_reducible refine we_mth ?_
    | with_reducible refine we_blt ?_ | with_reducible refine we_bmt ?_ | with_reducible refine we_isi ?_ | with_reducible refine we_dct ?_ | with_reducible refine we_neg ?_ | with_reducible refine wt_cmp ?_ | with_reducible refine wt_isi ?_ | with_reducible refine wt_val ?_
    | with_reducible refine wt_not ?_ | with_reducible refine wt_and ?_ | with_reducible refine wt_or ?_ | with_reducible refine wt_and2 ?_ | with_reducible refine wt_or2 ?_ | with_reducible refine wt_and1 ?_ | with_reducible refine wt_or1 ?_ | with_reducible refine wc_nil ?_
    | with_reducible refine wc_one ?_ | with_reducible refine wb_add ?_ | with_reducible refine wb_sub ?_ | with_reducible refine wl_int ?_ | with_reducible refine wl_abs ?_ | with_reducible refine ex_int ?_ | with_reducible refine ex_bl ?_
    | ((with_reducible refine we_var (w := ?_) ?_ ?_); rotate_left; · rfl)
    | with_reducible refine ⟨_, cmp_eq_int, ?_⟩ | with_reducible refine ⟨_, cmp_ne_int, ?_⟩ | with_reducible refine ⟨_, cmp_lt_int, ?_⟩ | with_reducible refine ⟨_, cmp_gt_int, ?_⟩ | with_reducible refine ⟨_, cmp_le_int, ?_⟩ | with_reducible refine ⟨_, cmp_ge_int, ?_⟩ | with_reducible refine ⟨_, tru_bl, ?_⟩
    | ((with_reducible refine ⟨_, ix_lst (w := ?_) (by assumption) ?_, ?_⟩); rotate_left; · rfl)
    | ((with_reducible refine And.intro (a := _ ≤ lim) ?_ ?_); · exact Nat.le_of_ble_eq_true rfl)
    | with_reducible refine if_t ?_ | with_reducible refine if_f ?_
    | with_reducible refine wl_len (len_lst (by assumption)) ?_
    | ((with_reducible refine wb_mod ?_ ?_); · decide) | ((with_reducible refine wb_div ?_ ?_ ?_); (· decide); (· decide)) | ((with_reducible refine wb_mul2 ?_ ?_ ?_ ?_ ?_); rotate_left; (· omega); (· omega); (· omega); (· omega))
    | ((with_reducible refine ⟨_, ix_tup (w := ?_) ?_, ?_⟩); rotate_left; · rfl) | with_reducible refine wl_lent ?_ | with_reducible refine str_lit (by assumption) ?_)
abbrev c0 : Tc := ⟨[], [], [], [], [], []⟩
/-- the new thing -/
theorem thing0 {T : Tab} {cl : Nat → List W → Hs → Res W} {env : En} {p : Nat} {h : Hs} {Q : W → Hs → Prop} (P : Pool p h) (q : ∀ t g, Dn p h g → h.length ≤ t.d → At p t c0 g → Q (.loc t.d) g) :
    wp (evE T cl (.dct [(.lit (.str "rows")), (.lst []), (.lit (.str "defs")), (.lst []), (.lit (.str "outer")), (.lst []), (.lit (.str "wants")), (.lst []), (.lit (.str "open")), (.lst []), (.lit (.str "signs")), (.lst [])]) env h) Q := by
  refine we_dctP P fun d g0 N0 => ?_
  have a0 := (List.getElem?_eq_some_iff.mp N0.at_).1
  have hp := P.lt
  have l0 := N0.fr
  repeat infer_instance
  refine we_lstP (p := p) ?_
  repeat infer_instance
  refine ⟨N0.pool, fun n1 g1 N1 => ?_⟩
  have a1 := (List.getElem?_eq_some_iff.mp N1.at_).1
  have l1 := N1.fr
  repeat infer_instance
  refine we_lstP (p := p) ?_
  repeat infer_instance
  refine ⟨N1.pool, fun n2 g2 N2 => ?_⟩
  have a2 := (List.getElem?_eq_some_iff.mp N2.at_).1
  have l2 := N2.fr
  repeat infer_instance
  refine we_lstP (p := p) ?_
  repeat infer_instance
  refine ⟨N2.pool, fun n3 g3 N3 => ?_⟩
  have a3 := (List.getElem?_eq_some_iff.mp N3.at_).1
  have l3 := N3.fr
  repeat infer_instance
  refine we_lstP (p := p) ?_
  repeat infer_instance
  refine ⟨N3.pool, fun n4 g4 N4 => ?_⟩
  have a4 := (List.getElem?_eq_some_iff.mp N4.at_).1
  have l4 := N4.fr
  repeat infer_instance
  refine we_lstP (p := p) ?_
  repeat infer_instance
  refine ⟨N4.pool, fun n5 g5 N5 => ?_⟩
  have a5 := (List.getElem?_eq_some_iff.mp N5.at_).1
  have l5 := N5.fr
  repeat infer_instance
  refine we_lstP (p := p) ?_
  repeat infer_instance
  refine ⟨N5.pool, fun n6 g6 N6 => ?_⟩
  have a6 := (List.getElem?_eq_some_iff.mp N6.at_).1
  have l6 := N6.fr
  repeat infer_instance
  refine ⟨_, rfl, N6.gr _ _ (N5.gr _ _ (N4.gr _ _ (N3.gr _ _ (N2.gr _ _ (N1.gr _ _ N0.at_))))), fun g e k => ?_⟩
  have e : g[d]? = some (.dct [(.inr "rows", .loc n1), (.inr "defs", .loc n2), (.inr "outer", .loc n3), (.inr "wants", .loc n4), (.inr "open", .loc n5), (.inr "signs", .loc n6)]) := e
  have Dd : Dn p h g6 := N0.dn.trans (N1.dn.trans (N2.dn.trans (N3.dn.trans (N4.dn.trans (N5.dn.trans N6.dn)))))
  refine q ⟨d, n1, n2, n3, n4, n5, n6⟩ g (Dd.touch k l0 (by omega)) l0 ⟨by show p < d; omega, by show d < n1; omega, by show n1 < n2; omega, by show n2 < n3; omega, by show n3 < n4; omega, by show n4 < n5; omega, by show n5 < n6; omega, e,
    k.at_ _ _ (show n1 ≠ d by omega) (N6.gr _ _ (N5.gr _ _ (N4.gr _ _ (N3.gr _ _ (N2.gr _ _ N1.at_))))), k.at_ _ _ (show n2 ≠ d by omega) (N6.gr _ _ (N5.gr _ _ (N4.gr _ _ (N3.gr _ _ N2.at_)))), k.at_ _ _ (show n3 ≠ d by omega) (N6.gr _ _ (N5.gr _ _ (N4.gr _ _ N3.at_))),
    k.at_ _ _ (show n4 ≠ d by omega) (N6.gr _ _ (N5.gr _ _ N4.at_)), k.at_ _ _ (show n5 ≠ d by omega) (N6.gr _ _ N5.at_), k.at_ _ _ (show n6 ≠ d by omega) N6.at_⟩
end K60
set_option Elab.async false
set_option linter.all false
set_option maxRecDepth 100000
set_option maxHeartbeats 1600000
namespace K60
open PySem PySem.Spec PyProof.Rows L2 Pc
local macro_rules
  | `(tactic| infer_instance) => `(tactic| first
    | with_reducible refine ws_set ?_ | with_reducible refine ws_ret ?_ | with_reducible refine ws_expr ?_ | ((with_reducible refine ws_if ?_); dsimp only [List.cons_append, List.nil_append]) | with_reducible refine ws_seti ?_ | with_reducible refine ws_seta ?_
    | with_reducible refine we_lit ?_ | with_reducible refine we_bin ?_ | with_reducible refine we_cmp ?_ | with_reducible refine we_and ?_ | with_reducible refine we_and2 ?_ | with_reducible refine we_and1 ?_ | with_reducible refine we_or ?_ | with_reducible refine we_or2 ?_
    | with_reducible refine we_or1 ?_ | with_reducible refine we_val ?_ | with_reducible refine we_not ?_ | with_reducible refine we_ite ?_ | with_reducible refine we_nil ?_ | with_reducible refine we_cons ?_ | with_reducible refine we_tup ?_ 
    | with_reducible refine we_ix ?_ | with_reducible refine we_slc ?_ | with_reducible refine wo_none ?_ | with_reducible refine wo_some ?_ | with_reducible refine we_att ?_ | with_reducible refine we_call ?_ | with_reducible refine we_new ?_ | with_reducible refine we_mth ?_
    | with_reducible refine we_blt ?_ | with_reducible refine we_bmt ?_ | with_reducible refine we_isi ?_ | with_reducible refine we_dct ?_ | with_reducible refine we_neg ?_ | with_reducible refine wt_cmp ?_ | with_reducible refine wt_isi ?_ | with_reducible refine wt_val ?_
    | with_reducible refine wt_not ?_ | with_reducible refine wt_and ?_ | with_reducible refine wt_or ?_ | with_reducible refine wt_and2 ?_ | with_reducible refine wt_or2 ?_ | with_reducible refine wt_and1 ?_ | with_reducible refine wt_or1 ?_ | with_reducible refine wc_nil ?_
    | with_reducible refine wc_one ?_ | with_reducible refine wb_add ?_ | with_reducible refine wb_sub ?_ | with_reducible refine wl_int ?_ | with_reducible refine wl_abs ?_ | with_reducible refine ex_int ?_ | with_reducible refine ex_bl ?_
    | ((with_reducible refine we_var (w := ?_) ?_ ?_); rotate_left; · rfl)
    | with_reducible refine ⟨_, cmp_eq_int, ?_⟩ | with_reducible refine ⟨_, cmp_ne_int, ?_⟩ | with_reducible refine ⟨_, cmp_lt_int, ?_⟩ | with_reducible refine ⟨_, cmp_gt_int, ?_⟩ | with_reducible refine ⟨_, cmp_le_int, ?_⟩ | with_reducible refine ⟨_, cmp_ge_int, ?_⟩ | with_reducible refine ⟨_, tru_bl, ?_⟩
    | ((with_reducible refine ⟨_, ix_lst (w := ?_) (by assumption) ?_, ?_⟩); rotate_left; · rfl)
    | ((with_reducible refine And.intro (a := _ ≤ lim) ?_ ?_); · exact Nat.le_of_ble_eq_true rfl)
    | with_reducible refine if_t ?_ | with_reducible refine if_f ?_
    | with_reducible refine wl_len (len_lst (by assumption)) ?_
    | ((with_reducible refine wb_mod ?_ ?_); · decide) | ((with_reducible refine wb_div ?_ ?_ ?_); (· decide); (· decide)) | ((with_reducible refine wb_mul2 ?_ ?_ ?_ ?_ ?_); rotate_left; (· omega); (· omega); (· omega); (· omega))
    | ((with_reducible refine ⟨_, ix_tup (w := ?_) ?_, ?_⟩); rotate_left; · rfl) | with_reducible refine wl_lent ?_ | with_reducible refine str_lit (by assumption) ?_)
theorem Tn.refl {p : Nat} {t : Tp} {c : Tc} {g : Hs} (P : Pool p g) (A : At p t c g) : Tn p t c g g := ⟨P, .refl, A⟩
/-- one word more is wanted -/
theorem Tn.addw {p : Nat} {t : Tp} {c : Tc} {g0 g g' : Hs} {x : Str × Str × Int} (T1 : Tn p t c g0 g) (k : Kp t.w g g') (e : g'[t.w]? = some (.lst (c.wants.map needW ++ [needW x]))) : Tn p t { c with wants := c.wants ++ [x] } g0 g' := by
  have z0 := T1.at_.pd; have z1 := T1.at_.o1; have z2 := T1.at_.o2; have z3 := T1.at_.o3; have z4 := T1.at_.o4; have z5 := T1.at_.o5; have z6 := T1.at_.o6
  exact ⟨T1.pool.touch k (by omega), T1.fr.trans (Kp.frn k (by omega) (by omega)), T1.at_.tw k (by rw [e, List.map_append]; rfl)⟩
theorem Tn.addo {p : Nat} {t : Tp} {c : Tc} {g0 g g' : Hs} {x : Str × Int × Int} (T1 : Tn p t c g0 g) (k : Kp t.o g g') (e : g'[t.o]? = some (.lst (c.outer.map dataW ++ [dataW x]))) : Tn p t { c with outer := c.outer ++ [x] } g0 g' := by
  have z0 := T1.at_.pd; have z1 := T1.at_.o1; have z2 := T1.at_.o2; have z3 := T1.at_.o3; have z4 := T1.at_.o4; have z5 := T1.at_.o5; have z6 := T1.at_.o6
  exact ⟨T1.pool.touch k (by omega), T1.fr.trans (Kp.frn k (by omega) (by omega)), T1.at_.to k (by rw [e, List.map_append]; rfl)⟩
theorem Tn.addf {p : Nat} {t : Tp} {c : Tc} {g0 g g' : Hs} {x : Str × Int × Int × Int} (T1 : Tn p t c g0 g) (k : Kp t.f g g') (e : g'[t.f]? = some (.lst (c.defs.map defW ++ [defW x]))) : Tn p t { c with defs := c.defs ++ [x] } g0 g' := by
  have z0 := T1.at_.pd; have z1 := T1.at_.o1; have z2 := T1.at_.o2; have z3 := T1.at_.o3; have z4 := T1.at_.o4; have z5 := T1.at_.o5; have z6 := T1.at_.o6
  exact ⟨T1.pool.touch k (by omega), T1.fr.trans (Kp.frn k (by omega) (by omega)), T1.at_.tf k (by rw [e, List.map_append]; rfl)⟩
theorem Tn.dn {p : Nat} {t : Tp} {c : Tc} {g0 g g' : Hs} (T1 : Tn p t c g0 g) (d : Dn p g g') : Tn p t c g0 g' := T1.trans (d.tn T1.at_)
abbrev QF (Q : W → Hs → Prop) : Fl → Hs → Prop := fun fl h1 => match fl with
  | .rt w => Q w h1
  | .nx _ => Q .non h1
  | _ => False
/-- what is wanted, drawn -/
theorem thing1 {k p tb : Nat} {t : Tp} {g0 : Hs} {Q : W → Hs → Prop} (P : Pool p g0) (A : At p t c0 g0)
    (q : ∀ ws os (x y : Option W) g, Tn p t ⟨[], [], os, ws, [], []⟩ g0 g → (∀ x ∈ ws, goodN x) → ws.length ≤ 6 → (∀ x ∈ os, goodS x.1 = true) → os.length ≤ 6 →
      wp (evSs D.T (evFn D.T (k + 5)) (b__law_thing.drop 3) [some (.loc p), some (.loc tb), some (.loc t.d), x, none, none, none, none, y, none, none] g) (QF Q)) :
    wp (evSs D.T (evFn D.T (k + 5)) (b__law_thing.drop 1) [some (.loc p), some (.loc tb), some (.loc t.d), none, none, none, none, none, none, none, none] g0) (QF Q) := by
  unfold b__law_thing
  dsimp only [List.drop]
  refine ws_forI (fun r env g => ∃ (x y : Option W) (ws : List (Str × Str × Int)), env = [some (.loc p), some (.loc tb), some (.loc t.d), x, none, none, none, none, y, none, none] ∧ Tn p t ⟨[], [], [], ws, [], []⟩ g0 g ∧ (∀ x ∈ ws, goodN x) ∧ ws.length + r.length ≤ 6) ?_ ?_ ?_
  · repeat infer_instance
    refine many P fun i g1 D1 i0 i1 => ?_
    repeat infer_instance
    refine ⟨_, src_range (by omega) (by omega), none, none, [], rfl, (Tn.refl P A).dn D1, fun x hx => (by cases hx), ?_⟩
    rw [intsFrom_len]
    show 0 + _ ≤ 6
    omega
  · rintro w r env g ⟨x, y, ws, rfl, T1, gw, hl⟩
    refine ⟨_, rfl, ?_⟩
    repeat infer_instance
    refine want T1.pool fun z g1 D1 gz => ?_
    have T2 := T1.dn D1
    repeat infer_instance
    refine ⟨_, T2.at_.key rfl, ?_⟩
    refine ⟨_, notin_L T2.at_.w gz gw, ?_⟩
    have hl2 : ws.length + 1 + r.length ≤ 6 := by simp at hl; omega
    refine if_ndec (fun hc => ?_) fun hc => ?_
    · repeat infer_instance
      refine ⟨_, T2.at_.key rfl, ?_⟩
      refine ⟨kind_lst T2.at_.w rfl, ?_⟩
      repeat infer_instance
      refine wm_append T2.at_.w (by rw [List.length_map]; show ws.length < 16777216; omega) fun g3 e3 k3 => ?_
      refine ws_nil ⟨_, _, ws ++ [z], rfl, T2.addw k3 e3, fun u hu => ?_, by simp; omega⟩
      rcases List.mem_append.mp hu with mx | mx
      · exact gw u mx
      · simp at mx
        rw [mx]
        exact gz
    · exact ws_nil ⟨_, _, ws, rfl, T2, gw, by omega⟩
  · rintro env g ⟨x, y, ws, rfl, T1, gw, hl⟩
    have hw : ws.length ≤ 6 := by simpa using hl
    refine ws_forI (fun r env g => ∃ (x : Option W) (os : List (Str × Int × Int)), env = [some (.loc p), some (.loc tb), some (.loc t.d), x, none, none, none, none, y, none, none] ∧ Tn p t ⟨[], [], os, ws, [], []⟩ g0 g ∧ (∀ x ∈ os, goodS x.1 = true) ∧ os.length + r.length ≤ 6) ?_ ?_ ?_
    · repeat infer_instance
      refine many T1.pool fun i g1 D1 i0 i1 => ?_
      repeat infer_instance
      refine ⟨_, src_range (by omega) (by omega), _, [], rfl, T1.dn D1, fun x hx => (by cases hx), ?_⟩
      rw [intsFrom_len]
      show 0 + _ ≤ 6
      omega
    · rintro w r env g ⟨x, os, rfl, T2, go, hl⟩
      refine ⟨_, rfl, ?_⟩
      repeat infer_instance
      refine ⟨_, T2.at_.key rfl, ?_⟩
      refine ⟨kind_lst T2.at_.o rfl, ?_⟩
      repeat infer_instance
      refine datum T2.pool fun z g1 D1 gz => ?_
      repeat infer_instance
      have T3 := T2.dn D1
      have hl2 : os.length + 1 + r.length ≤ 6 := by simp at hl; omega
      refine wm_append T3.at_.o (by rw [List.length_map]; show os.length < 16777216; omega) fun g3 e3 k3 => ?_
      refine ws_nil ⟨_, os ++ [z], rfl, T3.addo k3 e3, fun u hu => ?_, by simp; omega⟩
      rcases List.mem_append.mp hu with mx | mx
      · exact go u mx
      · simp at mx
        rw [mx]
        exact gz
    · rintro env g ⟨x, os, rfl, T2, go, hl⟩
      exact q ws os x y g T2 gw hw go (by simpa using hl)
end K60
set_option Elab.async false
set_option linter.all false
set_option maxRecDepth 100000
set_option maxHeartbeats 1600000
namespace K60
open PySem PySem.Spec PyProof.Rows L2 Pc
local macro_rules
  | `(tactic| infer_instance) => `(tactic| first
    | with_reducible refine ws_set ?_ | with_reducible refine ws_ret ?_ | with_reducible refine ws_expr ?_ | ((with_reducible refine ws_if ?_); dsimp only [List.cons_append, List.nil_append]) | with_reducible refine ws_seti ?_ | with_reducible refine ws_seta ?_
    | with_reducible refine we_lit ?_ | with_reducible refine we_bin ?_ | with_reducible refine we_cmp ?_ | with_reducible refine we_and ?_ | with_reducible refine we_and2 ?_ | with_reducible refine we_and1 ?_ | with_reducible refine we_or ?_ | with_reducible refine we_or2 ?_
    | with_reducible refine we_or1 ?_ | with_reducible refine we_val ?_ | with_reducible refine we_not ?_ | with_reducible refine we_ite ?_ | with_reducible refine we_nil ?_ | with_reducible refine we_cons ?_ | with_reducible refine we_tup ?_ 
    | with_reducible refine we_ix ?_ | with_reducible refine we_slc ?_ | with_reducible refine wo_none ?_ | with_reducible refine wo_some ?_ | with_reducible refine we_att ?_ | with_reducible refine we_call ?_ | with_reducible refine we_new ?_ | with_reducible refine we_mth ?_
    | with_reducible refine we_blt ?_ | with_reducible refine we_bmt ?_ | with_reducible refine we_isi ?_ | with_reducible refine we_dct ?_ | with_reducible refine we_neg ?_ | with_reducible refine wt_cmp ?_ | with_reducible refine wt_isi ?_ | with_reducible refine wt_val ?_
    | with_reducible refine wt_not ?_ | with_reducible refine wt_and ?_ | with_reducible refine wt_or ?_ | with_reducible refine wt_and2 ?_ | with_reducible refine wt_or2 ?_ | with_reducible refine wt_and1 ?_ | with_reducible refine wt_or1 ?_ | with_reducible refine wc_nil ?_
    | with_reducible refine wc_one ?_ | with_reducible refine wb_add ?_ | with_reducible refine wb_sub ?_ | with_reducible refine wl_int ?_ | with_reducible refine wl_abs ?_ | with_reducible refine ex_int ?_ | with_reducible refine ex_bl ?_
    | ((with_reducible refine we_var (w := ?_) ?_ ?_); rotate_left; · rfl)
    | with_reducible refine ⟨_, cmp_eq_int, ?_⟩ | with_reducible refine ⟨_, cmp_ne_int, ?_⟩ | with_reducible refine ⟨_, cmp_lt_int, ?_⟩ | with_reducible refine ⟨_, cmp_gt_int, ?_⟩ | with_reducible refine ⟨_, cmp_le_int, ?_⟩ | with_reducible refine ⟨_, cmp_ge_int, ?_⟩ | with_reducible refine ⟨_, tru_bl, ?_⟩
    | ((with_reducible refine ⟨_, ix_lst (w := ?_) (by assumption) ?_, ?_⟩); rotate_left; · rfl)
    | ((with_reducible refine And.intro (a := _ ≤ lim) ?_ ?_); · exact Nat.le_of_ble_eq_true rfl)
    | with_reducible refine if_t ?_ | with_reducible refine if_f ?_
    | with_reducible refine wl_len (len_lst (by assumption)) ?_
    | ((with_reducible refine wb_mod ?_ ?_); · decide) | ((with_reducible refine wb_div ?_ ?_ ?_); (· decide); (· decide)) | ((with_reducible refine wb_mul2 ?_ ?_ ?_ ?_ ?_); rotate_left; (· omega); (· omega); (· omega); (· omega))
    | ((with_reducible refine ⟨_, ix_tup (w := ?_) ?_, ?_⟩); rotate_left; · rfl) | with_reducible refine wl_lent ?_ | with_reducible refine str_lit (by assumption) ?_)
def headW (x : Str × Int × Int) : W := .tup [.str x.1, .int x.2.1, .int x.2.2]
/-- the heads, drawn: m is their place -/
theorem thing2 {k p tb : Nat} {t : Tp} {c : Tc} {g0 g : Hs} {Q : W → Hs → Prop} {x y : Option W} (T1 : Tn p t c g0 g)
    (q : ∀ (hs : List (Str × Int × Int)) m (x z1 z2 : Option W) g', Tn p t c g0 g' → t.s < m → g'[m]? = some (.lst (hs.map headW)) → (∀ x ∈ hs, goodS x.1 = true) → hs.length ≤ 6 →
      wp (evSs D.T (evFn D.T (k + 5)) (b__law_thing.drop 5) [some (.loc p), some (.loc tb), some (.loc t.d), x, some (.loc m), none, none, none, y, z1, z2] g') (QF Q)) :
    wp (evSs D.T (evFn D.T (k + 5)) (b__law_thing.drop 3) [some (.loc p), some (.loc tb), some (.loc t.d), x, none, none, none, none, y, none, none] g) (QF Q) := by
  have z0 := T1.at_.pd; have z1 := T1.at_.o1; have z2 := T1.at_.o2; have z3 := T1.at_.o3; have z4 := T1.at_.o4; have z5 := T1.at_.o5; have z6 := T1.at_.o6
  have ls := (List.getElem?_eq_some_iff.mp T1.at_.s).1
  unfold b__law_thing
  dsimp only [List.drop]
  refine ws_set ?_
  refine we_lstP (p := p) ?_
  repeat infer_instance
  refine ⟨T1.pool, fun m g1 N1 => ?_⟩
  have hm := N1.fr
  have hg0 := T1.fr.le
  have T2 := T1.dn N1.dn
  refine ws_forI (fun r env g' => ∃ (x z1 z2 : Option W) (hs : List (Str × Int × Int)), env = [some (.loc p), some (.loc tb), some (.loc t.d), x, some (.loc m), none, none, none, y, z1, z2] ∧ Tn p t c g0 g' ∧ g'[m]? = some (.lst (hs.map headW)) ∧ (∀ x ∈ hs, goodS x.1 = true) ∧ hs.length + r.length ≤ 6) ?_ ?_ ?_
  · repeat infer_instance
    refine we_lstP (p := p) ?_
    repeat infer_instance
    refine ⟨N1.pool, fun n2 g2 N2 => ?_⟩
    repeat infer_instance
    refine pk N2.pool N2.ne N2.at_ fun w g3 D3 mw => ?_
    obtain ⟨i, rfl, i0, i1⟩ := intB_ok (a := 0) (b := 6) (List.all_eq_true.mp (by decide) w mw)
    repeat infer_instance
    refine ⟨_, src_range (by omega) (by omega), _, _, _, [], rfl, (T2.dn N2.dn).dn D3, D3.kp.at_ _ _ (by omega) (N2.gr _ _ N1.at_), fun x hx => (by cases hx), ?_⟩
    rw [intsFrom_len]
    show 0 + _ ≤ 6
    omega
  · rintro w r env g' ⟨x, u1, u2, hs, rfl, T3, em, gh, hl⟩
    refine ⟨_, rfl, ?_⟩
    repeat infer_instance
    refine title T3.pool fun s g4 D4 gs => ?_
    repeat infer_instance
    refine dr D4.pool fun a g5 D5 a0 a1 => ?_
    repeat infer_instance
    have T5 := (T3.dn D4).dn D5
    have e5 := (D4.trans D5).kp.at_ _ _ (show m ≠ p by omega) em
    refine ⟨kind_lst e5 rfl, ?_⟩
    repeat infer_instance
    refine dr T5.pool fun b g6 D6 b0 b1 => ?_
    repeat infer_instance
    have T6 := T5.dn D6
    have e6 := D6.kp.at_ _ _ (show m ≠ p by omega) e5
    have hl2 : hs.length + 1 + r.length ≤ 6 := by simp at hl; omega
    refine wm_append e6 (by rw [List.length_map]; show hs.length < 16777216; omega) fun g7 e7 k7 => ?_
    have hsl : t.s < m := by omega
    have A7 : At p t c g7 := T6.at_.frame (a := m) (b := m) (p2 := p) (Kp.frn k7 (Nat.le_refl _) (Nat.le_refl _)) rfl (.inr hsl)
    refine ws_nil ⟨_, _, _, hs ++ [(s, a, 4 * (1 + b))], rfl, ⟨T6.pool.touch k7 (by omega), ⟨Nat.le_trans T6.fr.le k7.le, fun n o hp hn e => k7.at_ n o (by have := (List.getElem?_eq_some_iff.mp e).1; omega) (T6.fr.at_ n o hp hn e)⟩, A7⟩, by rw [e7, List.map_append]; rfl, fun u hu => ?_, by simp; omega⟩
    rcases List.mem_append.mp hu with mx | mx
    · exact gh u mx
    · simp at mx
      rw [mx]
      exact gs
  · rintro env g' ⟨x, u1, u2, hs, rfl, T3, em, gh, hl⟩
    exact q hs m x u1 u2 g' T3 (by omega) em gh (by simpa using hl)
end K60
set_option Elab.async false
set_option linter.all false
set_option maxRecDepth 100000
set_option maxHeartbeats 1600000
namespace K60
open PySem PySem.Spec PyProof.Rows L2 Pc
local macro_rules
  | `(tactic| infer_instance) => `(tactic| first
    | with_reducible refine ws_set ?_ | with_reducible refine ws_ret ?_ | with_reducible refine ws_expr ?_ | ((with_reducible refine ws_if ?_); dsimp only [List.cons_append, List.nil_append]) | with_reducible refine ws_seti ?_ | with_reducible refine ws_seta ?_
    | with_reducible refine we_lit ?_ | with_reducible refine we_bin ?_ | with_reducible refine we_cmp ?_ | with_reducible refine we_and ?_ | with_reducible refine we_and2 ?_ | with_reducible refine we_and1 ?_ | with_reducible refine we_or ?_ | with_reducible refine we_or2 ?_
    | with_reducible refine we_or1 ?_ | with_reducible refine we_val ?_ | with_reducible refine we_not ?_ | with_reducible refine we_ite ?_ | with_reducible refine we_nil ?_ | with_reducible refine we_cons ?_ | with_reducible refine we_tup ?_ 
    | with_reducible refine we_ix ?_ | with_reducible refine we_slc ?_ | with_reducible refine wo_none ?_ | with_reducible refine wo_some ?_ | with_reducible refine we_att ?_ | with_reducible refine we_call ?_ | with_reducible refine we_new ?_ | with_reducible refine we_mth ?_
    | with_reducible refine we_blt ?_ | with_reducible refine we_bmt ?_ | with_reducible refine we_isi ?_ | with_reducible refine we_dct ?_ | with_reducible refine we_neg ?_ | with_reducible refine wt_cmp ?_ | with_reducible refine wt_isi ?_ | with_reducible refine wt_val ?_
    | with_reducible refine wt_not ?_ | with_reducible refine wt_and ?_ | with_reducible refine wt_or ?_ | with_reducible refine wt_and2 ?_ | with_reducible refine wt_or2 ?_ | with_reducible refine wt_and1 ?_ | with_reducible refine wt_or1 ?_ | with_reducible refine wc_nil ?_
    | with_reducible refine wc_one ?_ | with_reducible refine wb_add ?_ | with_reducible refine wb_sub ?_ | with_reducible refine wl_int ?_ | with_reducible refine wl_abs ?_ | with_reducible refine ex_int ?_ | with_reducible refine ex_bl ?_
    | ((with_reducible refine we_var (w := ?_) ?_ ?_); rotate_left; · rfl)
    | with_reducible refine ⟨_, cmp_eq_int, ?_⟩ | with_reducible refine ⟨_, cmp_ne_int, ?_⟩ | with_reducible refine ⟨_, cmp_lt_int, ?_⟩ | with_reducible refine ⟨_, cmp_gt_int, ?_⟩ | with_reducible refine ⟨_, cmp_le_int, ?_⟩ | with_reducible refine ⟨_, cmp_ge_int, ?_⟩ | with_reducible refine ⟨_, tru_bl, ?_⟩
    | ((with_reducible refine ⟨_, ix_lst (w := ?_) (by assumption) ?_, ?_⟩); rotate_left; · rfl)
    | ((with_reducible refine And.intro (a := _ ≤ lim) ?_ ?_); · exact Nat.le_of_ble_eq_true rfl)
    | with_reducible refine if_t ?_ | with_reducible refine if_f ?_
    | with_reducible refine wl_len (len_lst (by assumption)) ?_
    | ((with_reducible refine wb_mod ?_ ?_); · decide) | ((with_reducible refine wb_div ?_ ?_ ?_); (· decide); (· decide)) | ((with_reducible refine wb_mul2 ?_ ?_ ?_ ?_ ?_); rotate_left; (· omega); (· omega); (· omega); (· omega))
    | ((with_reducible refine ⟨_, ix_tup (w := ?_) ?_, ?_⟩); rotate_left; · rfl) | with_reducible refine wl_lent ?_ | with_reducible refine str_lit (by assumption) ?_)
def fstW : W → W
  | .tup (x :: _) => x
  | _ => .non
def isFn (b : Bool) : W → Bool
  | .tup [_, .str s, _] => decide (s = ("function" : Str)) == b
  | _ => false
theorem rd_fst {cl : Nat → List W → Hs → Res W} {env : En} {h1 : Hs} {w : W} {s : Str} {r : List W} (hw : w = .tup (.str s :: r)) (hl : 8 ≤ env.length) : Rdo D.T cl (.nm 7) [7] [] (.ix (.var 7) (.lit (.int 0))) env h1 (fun _ => true) fstW w := by
  refine ⟨_, rfl, fun g _ => ?_⟩
  refine wc_nil ⟨rfl, rfl, fun _ => ?_⟩
  refine we_ix ?_
  refine we_var (w := w) ?_ ?_
  · rw [List.getElem?_set_self]
    show 7 < (List.set env 7 none).length
    rw [List.length_set]
    omega
  · refine we_lit ⟨.str s, ?_, rfl, ?_⟩
    · rw [hw]
      exact ix_tup (atI_nat (i := 0) rfl)
    · rw [hw]
      rfl
theorem rd_fn {cl : Nat → List W → Hs → Res W} {env : En} {h1 : Hs} {x : Str × Str × Int} (gx : goodN x) (b : Bool) (op : Cop) (hop : op = if b then .eq else .ne) (hl : 8 ≤ env.length) :
    Rdo D.T cl (.nm 7) [7] [(.val (.cmp op (.ix (.var 7) (.lit (.int 1))) (.lit (.str "function"))))] (.ix (.var 7) (.lit (.int 0))) env h1 (isFn b) fstW (needW x) := by
  have hv : (List.set (wipeG env [7]) 7 (some (needW x)))[7]? = some (some (needW x)) := by
    rw [List.getElem?_set_self]
    show 7 < (List.set env 7 none).length
    rw [List.length_set]
    omega
  refine ⟨_, rfl, fun g _ => ?_⟩
  refine wc_one (wt_cmp (we_ix (we_var hv (we_lit ⟨.str x.2.1, ix_tup rfl, we_lit ?_⟩))))
  have fin : wp (evE D.T cl (.ix (.var 7) (.lit (.int 0))) (List.set (wipeG env [7]) 7 (some (needW x))) g) fun y g2 => g2 = g ∧ y = fstW (needW x) := we_ix (we_var hv (we_lit ⟨.str x.1, ix_tup rfl, rfl, rfl⟩))
  cases b with
  | true =>
    subst hop
    exact ⟨_, cmp_eq_str (goodS_ok gx.2).1 (by decide +kernel), rfl, by simp [isFn, needW], fun _ => fin⟩
  | false =>
    subst hop
    exact ⟨_, cmp_ne_str (goodS_ok gx.2).1 (by decide +kernel), rfl, by simp [isFn, needW], fun _ => fin⟩
end K60
set_option Elab.async false
set_option linter.all false
set_option maxRecDepth 100000
set_option maxHeartbeats 1600000
namespace K60
open PySem PySem.Spec PyProof.Rows L2 Pc
local macro_rules
  | `(tactic| infer_instance) => `(tactic| first
    | with_reducible refine ws_set ?_ | with_reducible refine ws_ret ?_ | with_reducible refine ws_expr ?_ | ((with_reducible refine ws_if ?_); dsimp only [List.cons_append, List.nil_append]) | with_reducible refine ws_seti ?_ | with_reducible refine ws_seta ?_
    | with_reducible refine we_lit ?_ | with_reducible refine we_bin ?_ | with_reducible refine we_cmp ?_ | with_reducible refine we_and ?_ | with_reducible refine we_and2 ?_ | with_reducible refine we_and1 ?_ | with_reducible refine we_or ?_ | with_reducible refine we_or2 ?_
    | with_reducible refine we_or1 ?_ | with_reducible refine we_val ?_ | with_reducible refine we_not ?_ | with_reducible refine we_ite ?_ | with_reducible refine we_nil ?_ | with_reducible refine we_cons ?_ | with_reducible refine we_tup ?_ 
    | with_reducible refine we_ix ?_ | with_reducible refine we_slc ?_ | with_reducible refine wo_none ?_ | with_reducible refine wo_some ?_ | with_reducible refine we_att ?_ | with_reducible refine we_call ?_ | with_reducible refine we_new ?_ | with_reducible refine we_mth ?_
    | with_reducible refine we_blt ?_ | with_reducible refine we_bmt ?_ | with_reducible refine we_isi ?_ | with_reducible refine we_dct ?_ | with_reducible refine we_neg ?_ | with_reducible refine wt_cmp ?_ | with_reducible refine wt_isi ?_ | with_reducible refine wt_val ?_
    | with_reducible refine wt_not ?_ | with_reducible refine wt_and ?_ | with_reducible refine wt_or ?_ | with_reducible refine wt_and2 ?_ | with_reducible refine wt_or2 ?_ | with_reducible refine wt_and1 ?_ | with_reducible refine wt_or1 ?_ | with_reducible refine wc_nil ?_
    | with_reducible refine wc_one ?_ | with_reducible refine wb_add ?_ | with_reducible refine wb_sub ?_ | with_reducible refine wl_int ?_ | with_reducible refine wl_abs ?_ | with_reducible refine ex_int ?_ | with_reducible refine ex_bl ?_
    | ((with_reducible refine we_var (w := ?_) ?_ ?_); rotate_left; · rfl)
    | with_reducible refine ⟨_, cmp_eq_int, ?_⟩ | with_reducible refine ⟨_, cmp_ne_int, ?_⟩ | with_reducible refine ⟨_, cmp_lt_int, ?_⟩ | with_reducible refine ⟨_, cmp_gt_int, ?_⟩ | with_reducible refine ⟨_, cmp_le_int, ?_⟩ | with_reducible refine ⟨_, cmp_ge_int, ?_⟩ | with_reducible refine ⟨_, tru_bl, ?_⟩
    | ((with_reducible refine ⟨_, ix_lst (w := ?_) (by assumption) ?_, ?_⟩); rotate_left; · rfl)
    | ((with_reducible refine And.intro (a := _ ≤ lim) ?_ ?_); · exact Nat.le_of_ble_eq_true rfl)
    | with_reducible refine if_t ?_ | with_reducible refine if_f ?_
    | with_reducible refine wl_len (len_lst (by assumption)) ?_
    | ((with_reducible refine wb_mod ?_ ?_); · decide) | ((with_reducible refine wb_div ?_ ?_ ?_); (· decide); (· decide)) | ((with_reducible refine wb_mul2 ?_ ?_ ?_ ?_ ?_); rotate_left; (· omega); (· omega); (· omega); (· omega))
    | ((with_reducible refine ⟨_, ix_tup (w := ?_) ?_, ?_⟩); rotate_left; · rfl) | with_reducible refine wl_lent ?_ | with_reducible refine str_lit (by assumption) ?_)
theorem map_fst_head (hs : List (Str × Int × Int)) : ((hs.map headW).filter fun _ => true).map fstW = (hs.map (·.1)).map W.str := by
  rw [List.filter_eq_self.mpr (by simp), List.map_map, List.map_map]
  rfl
theorem map_fst_data (hs : List (Str × Int × Int)) : ((hs.map dataW).filter fun _ => true).map fstW = (hs.map (·.1)).map W.str := by
  rw [List.filter_eq_self.mpr (by simp), List.map_map, List.map_map]
  rfl
theorem map_fn (b : Bool) (ws : List (Str × Str × Int)) : ((ws.map needW).filter (isFn b)).map fstW = ((ws.filter fun x => decide (x.2.1 = ("function" : Str)) == b).map (·.1)).map W.str := by
  rw [List.filter_map, List.map_map, List.map_map]
  rfl
/-- the names that are called, the names outside -/
theorem thing3 {k p tb m : Nat} {t : Tp} {c : Tc} {g0 g : Hs} {Q : W → Hs → Prop} {x y z1 z2 : Option W} {hs : List (Str × Int × Int)} (T1 : Tn p t c g0 g) (hm : t.s < m) (em : g[m]? = some (.lst (hs.map headW))) (gh : ∀ x ∈ hs, goodS x.1 = true) (lh : hs.length ≤ 6)
    (gw : ∀ x ∈ c.wants, goodN x) (lw : c.wants.length ≤ 6) (go : ∀ x ∈ c.outer, goodS x.1 = true) (lo : c.outer.length ≤ 6)
    (q : ∀ l n xs ys g', Tn p t c g0 g' → t.s < l → t.s < n → strsO l xs g' → strsO n ys g' → xs.length ≤ 12 → ys.length ≤ 12 → g'[m]? = some (.lst (hs.map headW)) →
      wp (evSs D.T (evFn D.T (k + 5)) (b__law_thing.drop 9) [some (.loc p), some (.loc tb), some (.loc t.d), x, some (.loc m), some (.loc l), some (.loc n), none, y, z1, z2] g') (QF Q)) :
    wp (evSs D.T (evFn D.T (k + 5)) (b__law_thing.drop 5) [some (.loc p), some (.loc tb), some (.loc t.d), x, some (.loc m), none, none, none, y, z1, z2] g) (QF Q) := by
  have hs6 := (List.getElem?_eq_some_iff.mp em).1
  unfold b__law_thing
  dsimp only [List.drop]
  refine ws_set ?_
  refine we_lcL (p := p) (fun _ => true) fstW ?_
  repeat infer_instance
  refine ⟨m, _, rfl, em, by rw [List.length_map]; show hs.length < 16777216; omega, T1.pool, fun w hw => ?_, fun n1 g1 N1 => ?_⟩
  · obtain ⟨u, _, rfl⟩ := List.mem_map.mp hw
    exact rd_fst rfl (Nat.le_of_ble_eq_true rfl)
  have T2 := T1.dn N1.dn
  have f1 := N1.fr
  refine ws_set ?_
  repeat infer_instance
  refine we_lcL (p := p) (isFn true) fstW ?_
  repeat infer_instance
  refine ⟨_, T2.at_.key rfl, ?_⟩
  repeat infer_instance
  refine ⟨t.w, _, rfl, T2.at_.w, by rw [List.length_map]; show c.wants.length < 16777216; omega, T2.pool, fun w hw => ?_, fun n2 g2 N2 => ?_⟩
  · obtain ⟨u, hu, rfl⟩ := List.mem_map.mp hw
    exact rd_fn (gw u hu) true .eq rfl (Nat.le_of_ble_eq_true rfl)
  have T3 := T2.dn N2.dn
  have lw2 : (c.wants.filter fun x => decide (x.2.1 = ("function" : Str)) == true).length ≤ 6 := Nat.le_trans (List.length_filter_le _ _) lw
  have lw3 : (c.wants.filter fun x => decide (x.2.1 = ("function" : Str)) == false).length ≤ 6 := Nat.le_trans (List.length_filter_le _ _) lw
  have e1 := N2.gr _ _ N1.at_
  have e2 := N2.at_
  rw [map_fst_head] at e1
  rw [map_fn] at e2
  refine wb_addl N2.pool e1 e2 (by simp only [List.length_map]; show _ ≤ 16777216; omega) fun n3 g3 N3 => ?_
  have e3 := N3.at_
  rw [← List.map_append] at e3
  have T4 := T3.dn N3.dn
  have l1 := (List.getElem?_eq_some_iff.mp N1.at_).1
  have f2 := N2.fr
  have f3 := N3.fr
  have l2 := N2.kp.le
  refine ws_set ?_
  refine we_lcL (p := p) (fun _ => true) fstW ?_
  repeat infer_instance
  refine ⟨_, T4.at_.key rfl, ?_⟩
  repeat infer_instance
  refine ⟨t.o, _, rfl, T4.at_.o, by rw [List.length_map]; show c.outer.length < 16777216; omega, T4.pool, fun w hw => ?_, fun n4 g4 N4 => ?_⟩
  · obtain ⟨u, hu, rfl⟩ := List.mem_map.mp hw
    exact rd_fst rfl (Nat.le_of_ble_eq_true rfl)
  have T5 := T4.dn N4.dn
  refine ws_set ?_
  repeat infer_instance
  refine we_lcL (p := p) (isFn false) fstW ?_
  repeat infer_instance
  refine ⟨_, T5.at_.key rfl, ?_⟩
  repeat infer_instance
  refine ⟨t.w, _, rfl, T5.at_.w, by rw [List.length_map]; show c.wants.length < 16777216; omega, T5.pool, fun w hw => ?_, fun n5 g5 N5 => ?_⟩
  · obtain ⟨u, hu, rfl⟩ := List.mem_map.mp hw
    exact rd_fn (gw u hu) false .ne rfl (Nat.le_of_ble_eq_true rfl)
  have T6 := T5.dn N5.dn
  have e4 := N5.gr _ _ N4.at_
  have e5 := N5.at_
  rw [map_fst_data] at e4
  rw [map_fn] at e5
  refine wb_addl N5.pool e4 e5 (by simp only [List.length_map]; show _ ≤ 16777216; omega) fun n6 g6 N6 => ?_
  have e6 := N6.at_
  rw [← List.map_append] at e6
  have l3 := (List.getElem?_eq_some_iff.mp N3.at_).1
  have f4 := N4.fr
  have f5 := N5.fr
  have f6 := N6.fr
  have l4 := N4.kp.le
  have l5 := N5.kp.le
  have gr := fun (a : Nat) (o : Ob) (e : g[a]? = some o) => N6.gr _ _ (N5.gr _ _ (N4.gr _ _ (N3.gr _ _ (N2.gr _ _ (N1.gr a o e)))))
  refine q n3 n6 _ _ g6 (T6.dn N6.dn) (by omega) (by omega) ⟨N6.gr _ _ (N5.gr _ _ (N4.gr _ _ e3)), fun u hu => ?_⟩ ⟨e6, fun u hu => ?_⟩ (by simp only [List.length_append, List.length_map]; omega) (by simp only [List.length_append, List.length_map]; omega) (gr _ _ em)
  · rcases List.mem_append.mp hu with mu | mu
    · obtain ⟨v, hv, rfl⟩ := List.mem_map.mp mu
      exact gh v hv
    · obtain ⟨v, hv, rfl⟩ := List.mem_map.mp mu
      exact (gw v (List.mem_filter.mp hv).1).1
  · rcases List.mem_append.mp hu with mu | mu
    · obtain ⟨v, hv, rfl⟩ := List.mem_map.mp mu
      exact go v hv
    · obtain ⟨v, hv, rfl⟩ := List.mem_map.mp mu
      exact (gw v (List.mem_filter.mp hv).1).1
end K60
set_option Elab.async false
set_option linter.all false
set_option maxRecDepth 100000
set_option maxHeartbeats 1600000
namespace K60
open PySem PySem.Spec PyProof.Rows L2 Pc
local macro_rules
  | `(tactic| infer_instance) => `(tactic| first
    | with_reducible refine ws_set ?_ | with_reducible refine ws_ret ?_ | with_reducible refine ws_expr ?_ | ((with_reducible refine ws_if ?_); dsimp only [List.cons_append, List.nil_append]) | with_reducible refine ws_seti ?_ | with_reducible refine ws_seta ?_
    | with_reducible refine we_lit ?_ | with_reducible refine we_bin ?_ | with_reducible refine we_cmp ?_ | with_reducible refine we_and ?_ | with_reducible refine we_and2 ?_ | with_reducible refine we_and1 ?_ | with_reducible refine we_or ?_ | with_reducible refine we_or2 ?_
    | with_reducible refine we_or1 ?_ | with_reducible refine we_val ?_ | with_reducible refine we_not ?_ | with_reducible refine we_ite ?_ | with_reducible refine we_nil ?_ | with_reducible refine we_cons ?_ | with_reducible refine we_tup ?_ 
    | with_reducible refine we_ix ?_ | with_reducible refine we_slc ?_ | with_reducible refine wo_none ?_ | with_reducible refine wo_some ?_ | with_reducible refine we_att ?_ | with_reducible refine we_call ?_ | with_reducible refine we_new ?_ | with_reducible refine we_mth ?_
    | with_reducible refine we_blt ?_ | with_reducible refine we_bmt ?_ | with_reducible refine we_isi ?_ | with_reducible refine we_dct ?_ | with_reducible refine we_neg ?_ | with_reducible refine wt_cmp ?_ | with_reducible refine wt_isi ?_ | with_reducible refine wt_val ?_
    | with_reducible refine wt_not ?_ | with_reducible refine wt_and ?_ | with_reducible refine wt_or ?_ | with_reducible refine wt_and2 ?_ | with_reducible refine wt_or2 ?_ | with_reducible refine wt_and1 ?_ | with_reducible refine wt_or1 ?_ | with_reducible refine wc_nil ?_
    | with_reducible refine wc_one ?_ | with_reducible refine wb_add ?_ | with_reducible refine wb_sub ?_ | with_reducible refine wl_int ?_ | with_reducible refine wl_abs ?_ | with_reducible refine ex_int ?_ | with_reducible refine ex_bl ?_
    | ((with_reducible refine we_var (w := ?_) ?_ ?_); rotate_left; · rfl)
    | with_reducible refine ⟨_, cmp_eq_int, ?_⟩ | with_reducible refine ⟨_, cmp_ne_int, ?_⟩ | with_reducible refine ⟨_, cmp_lt_int, ?_⟩ | with_reducible refine ⟨_, cmp_gt_int, ?_⟩ | with_reducible refine ⟨_, cmp_le_int, ?_⟩ | with_reducible refine ⟨_, cmp_ge_int, ?_⟩ | with_reducible refine ⟨_, tru_bl, ?_⟩
    | ((with_reducible refine ⟨_, ix_lst (w := ?_) (by assumption) ?_, ?_⟩); rotate_left; · rfl)
    | ((with_reducible refine And.intro (a := _ ≤ lim) ?_ ?_); · exact Nat.le_of_ble_eq_true rfl)
    | with_reducible refine if_t ?_ | with_reducible refine if_f ?_
    | with_reducible refine wl_len (len_lst (by assumption)) ?_
    | ((with_reducible refine wb_mod ?_ ?_); · decide) | ((with_reducible refine wb_div ?_ ?_ ?_); (· decide); (· decide)) | ((with_reducible refine wb_mul2 ?_ ?_ ?_ ?_ ?_); rotate_left; (· omega); (· omega); (· omega); (· omega))
    | ((with_reducible refine ⟨_, ix_tup (w := ?_) ?_, ?_⟩); rotate_left; · rfl) | with_reducible refine wl_lent ?_ | with_reducible refine str_lit (by assumption) ?_)
theorem Gd.mono {c : Tc} {a b : Nat} (G : Gd c a) (h : a ≤ b) : Gd c b := ⟨⟨G.r.1, Nat.le_trans G.r.2 h⟩, ⟨G.f.1, Nat.le_trans G.f.2 h⟩, ⟨G.o.1, Nat.le_trans G.o.2 h⟩, ⟨G.w.1, Nat.le_trans G.w.2 h⟩, ⟨G.x.1, Nat.le_trans G.x.2 h⟩, ⟨G.s.1, Nat.le_trans G.s.2 h⟩⟩
/-- what stays while the words are drawn -/
structure Sty (p tb m l n : Nat) (hs : List (Str × Int × Int)) (xs ys : List Str) (t : Tp) (g : Hs) : Prop where
  tb : g[tb]? = some (.dct tblK)
  m : g[m]? = some (.lst (hs.map headW))
  l : strsO l xs g
  n : strsO n ys g
theorem Sty.fr {p tb m l n : Nat} {hs : List (Str × Int × Int)} {xs ys : List Str} {t : Tp} {g g' : Hs} (s : Sty p tb m l n hs xs ys t g) (k : Fr p t.d t.s g g') (h0 : tb ≠ p) (h1 : tb < t.d) (h2 : t.s < m) (h3 : t.s < l) (h4 : t.s < n) (h5 : p < t.d) (h6 : t.d < t.s) : Sty p tb m l n hs xs ys t g' :=
  ⟨k.at_ _ _ h0 (by omega) s.tb, k.at_ _ _ (by omega) (by omega) s.m, ⟨k.at_ _ _ (by omega) (by omega) s.l.1, s.l.2⟩, ⟨k.at_ _ _ (by omega) (by omega) s.n.1, s.n.2⟩⟩
theorem thing4 {k p tb m l n : Nat} {t : Tp} {c : Tc} {g0 g : Hs} {Q : W → Hs → Prop} {x y z1 z2 : Option W} {hs : List (Str × Int × Int)} {xs ys : List Str} (T1 : Tn p t c g0 g) (S : Sty p tb m l n hs xs ys t g) (G : Gd c 6)
    (h0 : tb ≠ p) (h1 : tb < t.d) (h2 : t.s < m) (h3 : t.s < l) (h4 : t.s < n) (gh : ∀ x ∈ hs, goodS x.1 = true) (lh : hs.length ≤ 6) (lx : xs.length ≤ 12) (ly : ys.length ≤ 12)
    (q : ∀ c' g', Tn p t c' g0 g' → Gd c' 100 → Q (.loc t.d) g') :
    wp (evSs D.T (evFn D.T (k + 5)) (b__law_thing.drop 9) [some (.loc p), some (.loc tb), some (.loc t.d), x, some (.loc m), some (.loc l), some (.loc n), none, y, z1, z2] g) (QF Q) := by
  have z0 := T1.at_.pd; have w1 := T1.at_.o1; have w2 := T1.at_.o2; have w3 := T1.at_.o3; have w4 := T1.at_.o4; have w5 := T1.at_.o5; have w6 := T1.at_.o6
  have h6 : t.d < t.s := by omega
  unfold b__law_thing
  dsimp only [List.drop]
  refine ws_forL (fun nl ws r env g' => ∃ (x o : Option W) (c' : Tc) (rs : List (Str × Int × Int)), nl = m ∧ ws = hs.map headW ∧ r = rs.map headW ∧ (∀ x ∈ rs, x ∈ hs) ∧ rs.length ≤ 6 ∧ env = [some (.loc p), some (.loc tb), some (.loc t.d), x, some (.loc m), some (.loc l), some (.loc n), o, y, z1, z2] ∧ Tn p t c' g0 g' ∧ Sty p tb m l n hs xs ys t g' ∧ Gd c' (100 - 10 * rs.length)) ?_ ?_ ?_ ?_
  · repeat infer_instance
    exact ⟨m, _, rfl, x, none, c, hs, rfl, rfl, rfl, fun _ h => h, lh, rfl, T1, S, G.mono (by omega)⟩
  · rintro nl ws r env g' ⟨x, o, c', rs, rfl, rfl, _, _, _, _, _, S', _⟩
    exact S'.m
  · rintro nl ws w r env g' ⟨x, o, c', rs, rfl, rfl, hr, hm, hl, rfl, T2, S2, G2⟩
    cases rs with
    | nil => cases hr
    | cons u rs =>
      obtain ⟨rfl, rfl⟩ := List.cons.inj hr
      have gu := gh u (hm u List.mem_cons_self)
      simp only [List.length_cons] at hl G2
      refine ⟨_, rfl, ?_⟩
      repeat infer_instance
      refine ⟨_, T2.at_.key rfl, ?_⟩
      refine ⟨kind_lst T2.at_.f rfl, ?_⟩
      repeat infer_instance
      refine ⟨.str u.1, rfl, ?_⟩
      repeat infer_instance
      refine ⟨_, T2.at_.key rfl, ?_⟩
      repeat infer_instance
      refine wl_len (len_lst T2.at_.r) ?_
      repeat infer_instance
      refine ⟨.int u.2.1, rfl, ?_⟩
      repeat infer_instance
      refine ⟨.int u.2.2, rfl, ?_⟩
      repeat infer_instance
      refine wm_append T2.at_.f (by rw [List.length_map]; have := G2.f.2; show c'.defs.length < 16777216; omega) fun g3 e3 k3 => ?_
      have T3 := T2.addf (x := (u.1, (c'.rows.length : Int), u.2.1, u.2.2)) k3 e3
      have S3 := S2.fr (Kp.frn k3 (show t.d ≤ t.f by omega) (show t.f ≤ t.s by omega)) h0 h1 h2 h3 h4 z0 h6
      have G3 : Gd { c' with defs := c'.defs ++ [(u.1, (c'.rows.length : Int), u.2.1, u.2.2)] } (100 - 10 * (rs.length + 1) + 1) := by
        have G4 := G2.mono (Nat.le_succ _)
        refine ⟨G4.r, ⟨fun v hv => ?_, by show (c'.defs ++ [_]).length ≤ _; rw [List.length_append]; exact Nat.succ_le_succ G2.f.2⟩, G4.o, G4.w, G4.x, G4.s⟩
        rcases List.mem_append.mp hv with mv | mv
        · exact G2.f.1 v mv
        · simp at mv
          rw [mv]
          exact gu
      refine ws_forI (fun r env g4 => ∃ (x : Option W) (c4 : Tc), env = [some (.loc p), some (.loc tb), some (.loc t.d), x, some (.loc nl), some (.loc l), some (.loc n), some (headW u), y, z1, z2] ∧ Tn p t c4 g0 g4 ∧ Sty p tb nl l n hs xs ys t g4 ∧ r.length ≤ 4 ∧ Gd c4 (100 - 10 * (rs.length + 1) + 1 + (4 - r.length))) ?_ ?_ ?_
      · repeat infer_instance
        refine dr T3.pool fun a g4 D4 a0 a1 => ?_
        repeat infer_instance
        refine ⟨_, src_range (by omega) (by omega), _, _, rfl, T3.dn D4, S3.fr (Kp.fr D4.kp) h0 h1 h2 h3 h4 z0 h6, ?_, G3.mono (by omega)⟩
        rw [intsFrom_len]
        omega
      · rintro w r env g4 ⟨x, c4, rfl, T4, S4, hr4, G4⟩
        simp only [List.length_cons] at hr4 G4
        refine ⟨_, rfl, ?_⟩
        repeat infer_instance
        refine one_word T4.pool T4.at_ G4 (by omega) h0 h1 S4.tb h3 h4 S4.l S4.n (by omega) (by omega) fun c5 g5 T5 G5 _ => ?_
        exact ws_nil ⟨_, c5, rfl, T4.trans T5, S4.fr T5.fr h0 h1 h2 h3 h4 z0 h6, by omega, G5.mono (by omega)⟩
      · rintro env g4 ⟨x, c4, rfl, T4, S4, hr4, G4⟩
        exact ws_nil ⟨x, _, c4, rs, rfl, rfl, rfl, fun v hv => hm v (List.mem_cons_of_mem _ hv), by omega, rfl, T4, S4, G4.mono (by simp only [List.length_nil]; omega)⟩
  · rintro nl ws env g' ⟨x, o, c', rs, rfl, rfl, hr, hm, hl, rfl, T2, S2, G2⟩
    repeat infer_instance
    exact q c' g' T2 (G2.mono (by omega))
end K60
set_option Elab.async false
set_option linter.all false
set_option maxRecDepth 100000
set_option maxHeartbeats 1600000
namespace K60
open PySem PySem.Spec PyProof.Rows L2 Pc
theorem thing {k p tb : Nat} {h : Hs} {Q : W → Hs → Prop} (P : Pool p h) (ht : tb ≠ p) (et : h[tb]? = some (.dct tblK)) (q : ∀ t c g, Dn p h g → h.length ≤ t.d → At p t c g → Gd c 100 → Q (.loc t.d) g) : wp (evFn D.T (k + 6) 21 [.loc p, .loc tb] h) Q := by
  refine wf (i := ⟨2, 11, b__law_thing⟩) (env := [some (.loc p), some (.loc tb), none, none, none, none, none, none, none, none, none]) rfl rfl rfl ?_
  refine ws_set ?_
  refine thing0 P fun t g0 D0 l0 A0 => ?_
  have htb := (List.getElem?_eq_some_iff.mp et).1
  have z0 := A0.pd; have w1 := A0.o1; have w2 := A0.o2; have w3 := A0.o3; have w4 := A0.o4; have w5 := A0.o5; have w6 := A0.o6
  refine thing1 D0.pool A0 fun ws os x y g1 T1 gw lw go lo => ?_
  refine thing2 T1 fun hs m x z1 z2 g2 T2 hm em gh lh => ?_
  refine thing3 T2 hm em gh lh gw lw go lo fun l n xs ys g3 T3 hl hn sl sn lx ly em3 => ?_
  refine thing4 T3 ⟨T3.fr.at_ _ _ ht (by omega) (D0.kp.at_ _ _ ht et), em3, sl, sn⟩ ⟨⟨fun _ h => (by cases h), Nat.zero_le _⟩, ⟨fun _ h => (by cases h), Nat.zero_le _⟩, ⟨go, lo⟩, ⟨gw, lw⟩, ⟨fun _ h => (by cases h), Nat.zero_le _⟩, ⟨fun _ h => (by cases h), Nat.zero_le _⟩⟩ ht (by omega) hm hl hn gh lh lx ly fun c g4 T4 G4 => ?_
  exact q t c g4 (T4.fr.dn T4.pool l0 D0) l0 T4.at_ G4
end K60
set_option Elab.async false
set_option linter.all false
set_option maxRecDepth 100000
set_option maxHeartbeats 1600000
namespace K60
open PySem PySem.Spec PyProof.Rows L2 Pc
local macro_rules
  | `(tactic| infer_instance) => `(tactic| first
    | with_reducible refine ws_set ?_ | with_reducible refine ws_ret ?_ | with_reducible refine ws_expr ?_ | ((with_reducible refine ws_if ?_); dsimp only [List.cons_append, List.nil_append]) | with_reducible refine ws_seti ?_ | with_reducible refine ws_seta ?_
    | with_reducible refine we_lit ?_ | with_reducible refine we_bin ?_ | with_reducible refine we_cmp ?_ | with_reducible refine we_and ?_ | with_reducible refine we_and2 ?_ | with_reducible refine we_and1 ?_ | with_reducible refine we_or ?_ | with_reducible refine we_or2 ?_
    | with_reducible refine we_or1 ?_ | with_reducible refine we_val ?_ | with_reducible refine we_not ?_ | with_reducible refine we_ite ?_ | with_reducible refine we_nil ?_ | with_reducible refine we_cons ?_ | with_reducible refine we_tup ?_ 
    | with_reducible refine we_ix ?_ | with_reducible refine we_slc ?_ | with_reducible refine wo_none ?_ | with_reducible refine wo_some ?_ | with_reducible refine we_att ?_ | with_reducible refine we_call ?_ | with_reducible refine we_new ?_ | with_reducible refine we_mth ?_
    | with_reducible refine we_blt ?_ | with_reducible refine we_bmt ?_ | with_reducible refine we_isi ?_ | with_reducible refine we_dct ?_ | with_reducible refine we_neg ?_ | with_reducible refine wt_cmp ?_ | with_reducible refine wt_isi ?_ | with_reducible refine wt_val ?_
    | with_reducible refine wt_not ?_ | with_reducible refine wt_and ?_ | with_reducible refine wt_or ?_ | with_reducible refine wt_and2 ?_ | with_reducible refine wt_or2 ?_ | with_reducible refine wt_and1 ?_ | with_reducible refine wt_or1 ?_ | with_reducible refine wc_nil ?_
    | with_reducible refine wc_one ?_ | with_reducible refine wb_add ?_ | with_reducible refine wb_sub ?_ | with_reducible refine wl_int ?_ | with_reducible refine wl_abs ?_ | with_reducible refine ex_int ?_ | with_reducible refine ex_bl ?_
    | ((with_reducible refine we_var (w := ?_) ?_ ?_); rotate_left; · rfl)
    | with_reducible refine ⟨_, cmp_eq_int, ?_⟩ | with_reducible refine ⟨_, cmp_ne_int, ?_⟩ | with_reducible refine ⟨_, cmp_lt_int, ?_⟩ | with_reducible refine ⟨_, cmp_gt_int, ?_⟩ | with_reducible refine ⟨_, cmp_le_int, ?_⟩ | with_reducible refine ⟨_, cmp_ge_int, ?_⟩ | with_reducible refine ⟨_, tru_bl, ?_⟩
    | ((with_reducible refine ⟨_, ix_lst (w := ?_) (by assumption) ?_, ?_⟩); rotate_left; · rfl)
    | ((with_reducible refine And.intro (a := _ ≤ lim) ?_ ?_); · exact Nat.le_of_ble_eq_true rfl)
    | with_reducible refine if_t ?_ | with_reducible refine if_f ?_
    | with_reducible refine wl_len (len_lst (by assumption)) ?_
    | ((with_reducible refine wb_mod ?_ ?_); · decide) | ((with_reducible refine wb_div ?_ ?_ ?_); (· decide); (· decide)) | ((with_reducible refine wb_mul2 ?_ ?_ ?_ ?_ ?_); rotate_left; (· omega); (· omega); (· omega); (· omega))
    | ((with_reducible refine ⟨_, ix_tup (w := ?_) ?_, ?_⟩); rotate_left; · rfl) | with_reducible refine wl_lent ?_ | with_reducible refine str_lit (by assumption) ?_)
/-- an object's parts -/
structure O6 where
  words : List Int
  defs : List (Str × Int × Int × Int)
  data : List (Str × Int × Int)
  needs : List (Str × Str × Int)
  opn : List (Int × Str × Str)
  sgn : List (Int × Str × Chn)
def O6.parts (o : O6) : List W := [.tup (o.words.map W.int), .tup (o.defs.map defW), .tup (o.data.map dataW), .tup (o.needs.map needW), .tup (o.opn.map opnW), .tup (o.sgn.map sgnW)]
abbrev O6.toW (o : O6) : W := .tup o.parts
structure G6 (u : O6) (b : Nat) : Prop where
  r : u.words.length ≤ b
  f : (∀ x ∈ u.defs, goodS x.1 = true) ∧ u.defs.length ≤ b
  o : (∀ x ∈ u.data, goodS x.1 = true) ∧ u.data.length ≤ b
  w : (∀ x ∈ u.needs, goodN x) ∧ u.needs.length ≤ b
  x : (∀ x ∈ u.opn, goodS x.2.1 = true ∧ goodS x.2.2 = true) ∧ u.opn.length ≤ b
  s : (∀ x ∈ u.sgn, goodS x.2.1 = true ∧ goodC x.2.2) ∧ u.sgn.length ≤ b
theorem ints_of : ∀ {us : List W}, (∀ u ∈ us, ∃ i, u = .int i) → ∃ is : List Int, us = is.map W.int
  | [], _ => ⟨[], rfl⟩
  | u :: us, h => by
    obtain ⟨i, rfl⟩ := h u (by simp)
    obtain ⟨is, rfl⟩ := ints_of fun v hv => h v (List.mem_cons_of_mem _ hv)
    exact ⟨i :: is, rfl⟩
def keyF (c : Tc) : W → W
  | .str s => if s = ("defs" : Str) then .tup (c.defs.map defW) else if s = ("outer" : Str) then .tup (c.outer.map dataW) else if s = ("wants" : Str) then .tup (c.wants.map needW) else if s = ("open" : Str) then .tup (c.opn.map opnW) else .tup (c.sgn.map sgnW)
  | _ => .non
theorem parts_of {k p tb B : Nat} {t : Tp} {c : Tc} {h : Hs} {Q : W → Hs → Prop} (P : Pool p h) (ht : tb ≠ p) (et : h[tb]? = some (.dct tblK)) (A : At p t c h) (G : Gd c B) (hB : B ≤ 1000)
    (q : ∀ o g, Dn p h g → G6 o B → Q (O6.toW o) g) : wp (evFn D.T (k + 2) 22 [.loc tb, .loc t.d] h) Q := by
  refine wf (i := ⟨2, 6, b__law_parts_of⟩) (env := [some (.loc tb), some (.loc t.d), none, none, none, none]) rfl rfl rfl ?_
  unfold b__law_parts_of
  repeat infer_instance
  refine we_lcLP (p := p) (fun u => ∃ i, u = .int i) ?_
  repeat infer_instance
  refine ⟨_, A.key rfl, ?_⟩
  repeat infer_instance
  refine ⟨t.r, _, rfl, A.r, by have := G.r.2; show c.rows.length < 16777216; omega, P, fun w hw => ⟨_, rfl, fun g hg => ?_⟩, fun us m g1 lu hu N1 => ?_⟩
  · repeat infer_instance
    exact encoded (hg _ _ et) (G.r.1 w hw) fun i => ⟨rfl, i, rfl⟩
  obtain ⟨is, rfl⟩ := ints_of hu
  repeat infer_instance
  refine wl_tuple N1.at_ ?_
  have A1 := A.nw N1
  refine ws_set ?_
  refine we_lcL (p := p) (fun _ => true) (keyF c) ?_
  repeat infer_instance
  refine we_lstP (p := p) ?_
  repeat infer_instance
  refine ⟨N1.pool, fun n2 g2 N2 => ?_⟩
  have A2 := A1.nw N2
  repeat infer_instance
  refine ⟨n2, _, rfl, N2.at_, by decide, N2.pool, fun w hw => ?_, fun n3 g3 N3 => ?_⟩
  · simp only [List.mem_cons, List.not_mem_nil, or_false] at hw
    refine ⟨_, rfl, fun g hg => wc_nil ⟨rfl, rfl, fun _ => ?_⟩⟩
    have A3 : At p t c g := ⟨A2.pd, A2.o1, A2.o2, A2.o3, A2.o4, A2.o5, A2.o6, hg _ _ A2.d, hg _ _ A2.r, hg _ _ A2.f, hg _ _ A2.o, hg _ _ A2.w, hg _ _ A2.x, hg _ _ A2.s⟩
    rcases hw with rfl | rfl | rfl | rfl | rfl
    · repeat infer_instance
      refine ⟨_, A3.key rfl, ?_⟩
      repeat infer_instance
      exact wl_tuple A3.f ⟨rfl, rfl⟩
    · repeat infer_instance
      refine ⟨_, A3.key rfl, ?_⟩
      repeat infer_instance
      exact wl_tuple A3.o ⟨rfl, rfl⟩
    · repeat infer_instance
      refine ⟨_, A3.key rfl, ?_⟩
      repeat infer_instance
      exact wl_tuple A3.w ⟨rfl, rfl⟩
    · repeat infer_instance
      refine ⟨_, A3.key rfl, ?_⟩
      repeat infer_instance
      exact wl_tuple A3.x ⟨rfl, rfl⟩
    · repeat infer_instance
      refine ⟨_, A3.key rfl, ?_⟩
      repeat infer_instance
      exact wl_tuple A3.s ⟨rfl, rfl⟩
  have e3 : g3[n3]? = some (.lst [.tup (c.defs.map defW), .tup (c.outer.map dataW), .tup (c.wants.map needW), .tup (c.opn.map opnW), .tup (c.sgn.map sgnW)]) := N3.at_
  repeat infer_instance
  refine q ⟨is, c.defs, c.outer, c.wants, c.opn, c.sgn⟩ g3 (N1.dn.trans (N2.dn.trans N3.dn)) ⟨?_, G.f, G.o, G.w, G.x, G.s⟩
  have := G.r.2
  simp at lu
  show is.length ≤ B
  omega
end K60
set_option Elab.async false
set_option linter.all false
set_option maxRecDepth 100000
set_option maxHeartbeats 1600000
namespace K60
open PySem PySem.Spec PyProof.Rows L2 Pc
local macro_rules
  | `(tactic| infer_instance) => `(tactic| first
    | with_reducible refine ws_set ?_ | with_reducible refine ws_ret ?_ | with_reducible refine ws_expr ?_ | ((with_reducible refine ws_if ?_); dsimp only [List.cons_append, List.nil_append]) | with_reducible refine ws_seti ?_ | with_reducible refine ws_seta ?_
    | with_reducible refine we_lit ?_ | with_reducible refine we_bin ?_ | with_reducible refine we_cmp ?_ | with_reducible refine we_and ?_ | with_reducible refine we_and2 ?_ | with_reducible refine we_and1 ?_ | with_reducible refine we_or ?_ | with_reducible refine we_or2 ?_
    | with_reducible refine we_or1 ?_ | with_reducible refine we_val ?_ | with_reducible refine we_not ?_ | with_reducible refine we_ite ?_ | with_reducible refine we_nil ?_ | with_reducible refine we_cons ?_ | with_reducible refine we_tup ?_ 
    | with_reducible refine we_ix ?_ | with_reducible refine we_slc ?_ | with_reducible refine wo_none ?_ | with_reducible refine wo_some ?_ | with_reducible refine we_att ?_ | with_reducible refine we_call ?_ | with_reducible refine we_new ?_ | with_reducible refine we_mth ?_
    | with_reducible refine we_blt ?_ | with_reducible refine we_bmt ?_ | with_reducible refine we_isi ?_ | with_reducible refine we_dct ?_ | with_reducible refine we_neg ?_ | with_reducible refine wt_cmp ?_ | with_reducible refine wt_isi ?_ | with_reducible refine wt_val ?_
    | with_reducible refine wt_not ?_ | with_reducible refine wt_and ?_ | with_reducible refine wt_or ?_ | with_reducible refine wt_and2 ?_ | with_reducible refine wt_or2 ?_ | with_reducible refine wt_and1 ?_ | with_reducible refine wt_or1 ?_ | with_reducible refine wc_nil ?_
    | with_reducible refine wc_one ?_ | with_reducible refine wb_add ?_ | with_reducible refine wb_sub ?_ | with_reducible refine wl_int ?_ | with_reducible refine wl_abs ?_ | with_reducible refine ex_int ?_ | with_reducible refine ex_bl ?_
    | ((with_reducible refine we_var (w := ?_) ?_ ?_); rotate_left; · rfl)
    | with_reducible refine ⟨_, cmp_eq_int, ?_⟩ | with_reducible refine ⟨_, cmp_ne_int, ?_⟩ | with_reducible refine ⟨_, cmp_lt_int, ?_⟩ | with_reducible refine ⟨_, cmp_gt_int, ?_⟩ | with_reducible refine ⟨_, cmp_le_int, ?_⟩ | with_reducible refine ⟨_, cmp_ge_int, ?_⟩ | with_reducible refine ⟨_, tru_bl, ?_⟩
    | ((with_reducible refine ⟨_, ix_lst (w := ?_) (by assumption) ?_, ?_⟩); rotate_left; · rfl)
    | ((with_reducible refine And.intro (a := _ ≤ lim) ?_ ?_); · exact Nat.le_of_ble_eq_true rfl)
    | with_reducible refine if_t ?_ | with_reducible refine if_f ?_
    | with_reducible refine wl_len (len_lst (by assumption)) ?_
    | ((with_reducible refine wb_mod ?_ ?_); · decide) | ((with_reducible refine wb_div ?_ ?_ ?_); (· decide); (· decide)) | ((with_reducible refine wb_mul2 ?_ ?_ ?_ ?_ ?_); rotate_left; (· omega); (· omega); (· omega); (· omega))
    | ((with_reducible refine ⟨_, ix_tup (w := ?_) ?_, ?_⟩); rotate_left; · rfl) | with_reducible refine wl_lent ?_ | with_reducible refine str_lit (by assumption) ?_)
theorem wm_insert {h : Hs} {n : Nat} {ws : List W} {i : Int} {x : W} {Q : W → Hs → Prop} (e : h[n]? = some (.lst ws)) (hl : ws.length < lim) (i0 : 0 ≤ i) (i1 : i < 2 ^ 63) (q : ∀ h2, h2[n]? = some (.lst (ws.take i.toNat ++ [x] ++ ws.drop i.toNat)) → Kp n h h2 → Q .non h2) : wp (bmtW .insert (.loc n) [.int i, x] h) Q :=
  wp.of (a := .non) (h := h.set n (.lst (ws.take i.toNat ++ [x] ++ ws.drop i.toNat))) (by unfold bmtW; simp only [e, if_pos (And.intro hl (And.intro i0 i1))]) (q _ (set_at (List.getElem?_eq_some_iff.mp e).1) .set)
/-- needs of others, put in between -/
theorem like_needs {k p m B : Nat} {t : Tp} {c : Tc} {os : List (Str × Str × Int)} {h : Hs} {Q : W → Hs → Prop} (P : Pool p h) (A : At p t c h) (G : Gd c B) (hm : m ≠ p) (hmt : m < t.d ∨ t.s < m) (em : h[m]? = some (.lst (os.map needW))) (go : ∀ x ∈ os, goodN x) (lo : os.length ≤ 1000) (hB : B ≤ 1000)
    (q : ∀ c' g, Tn p t c' h g → Gd c' (B + os.length) → Q .non g) : wp (evFn D.T (k + 2) 23 [.loc p, .loc t.d, .loc m] h) Q := by
  have z0 := A.pd; have w1 := A.o1; have w2 := A.o2; have w3 := A.o3; have w4 := A.o4; have w5 := A.o5; have w6 := A.o6
  refine wf (i := ⟨3, 6, b__law_like_needs⟩) (env := [some (.loc p), some (.loc t.d), some (.loc m), none, none, none]) rfl rfl rfl ?_
  unfold b__law_like_needs
  refine ws_forL (fun nl ws r env g => ∃ (x y z : Option W) (c' : Tc) (rs : List (Str × Str × Int)), nl = m ∧ ws = os.map needW ∧ r = rs.map needW ∧ (∀ x ∈ rs, goodN x) ∧ rs.length ≤ os.length ∧ env = [some (.loc p), some (.loc t.d), some (.loc m), x, y, z] ∧ Tn p t c' h g ∧ Gd c' (B + (os.length - rs.length))) ?_ ?_ ?_ ?_
  · repeat infer_instance
    exact ⟨m, _, rfl, none, none, none, c, os, rfl, rfl, rfl, go, Nat.le_refl _, rfl, Tn.refl P A, by rw [Nat.sub_self]; exact G⟩
  · rintro nl ws r env g ⟨x, y, z, c', rs, rfl, rfl, _, _, _, _, T2, _⟩
    exact T2.fr.at_ _ _ hm (by omega) em
  · rintro nl ws w r env g ⟨x, y, z, c', rs, rfl, rfl, hr, hg, hl, rfl, T2, G2⟩
    cases rs with
    | nil => cases hr
    | cons u rs =>
      obtain ⟨rfl, rfl⟩ := List.cons.inj hr
      have gu := hg u List.mem_cons_self
      have hg2 : ∀ x ∈ rs, goodN x := fun x hx => hg x (List.mem_cons_of_mem _ hx)
      simp only [List.length_cons] at hl G2
      refine ⟨_, rfl, ?_⟩
      repeat infer_instance
      refine dr T2.pool fun a g1 D1 a0 a1 => ?_
      have T3 := T2.dn D1
      repeat infer_instance
      -- the end of a turn
      have fin : ∀ (g2 : Hs) (v : Str × Str × Int) (z : Option W), Tn p t c' h g2 → goodN v → wp (evSs D.T (evFn D.T (k + 1)) [.ifs (.val (.cmp .notin (.var 4) (.ix (.var 1) (.lit (.str "wants"))))) [.set 5 (.call 5 [(.var 0), (.bin .add (.blt .len [(.ix (.var 1) (.lit (.str "wants")))]) (.lit (.int 1)))]), .expr (.bmt .insert (.ix (.var 1) (.lit (.str "wants"))) [(.var 5), (.var 4)])] []] [some (.loc p), some (.loc t.d), some (.loc nl), some (needW u), some (needW v), z] g2) fun fl h2 => match fl with
          | .nx e => ∃ (x y z : Option W) (c' : Tc) (rs_1 : List (Str × Str × Int)), nl = nl ∧ os.map needW = os.map needW ∧ rs.map needW = rs_1.map needW ∧ (∀ x ∈ rs_1, goodN x) ∧ rs_1.length ≤ os.length ∧ e = [some (.loc p), some (.loc t.d), some (.loc nl), x, y, z] ∧ Tn p t c' h h2 ∧ Gd c' (B + (os.length - rs_1.length))
          | _ => False := by
        intro g2 v z T4 gv
        repeat infer_instance
        refine ⟨_, T4.at_.key rfl, ?_⟩
        refine ⟨_, notin_L T4.at_.w gv G2.w.1, ?_⟩
        refine if_ndec (fun hc => ?_) fun hc => ?_
        · repeat infer_instance
          refine ⟨_, T4.at_.key rfl, ?_⟩
          repeat infer_instance
          refine wl_len (len_lst T4.at_.w) ?_
          repeat infer_instance
          have lw := G2.w.2
          refine dr T4.pool (fun i g3 D3 i0 i1 => ?_) (by omega) (by
            rw [List.length_map]
            have := ab_lt (i := (c'.wants.length : Int) + 1) (by omega) (by omega)
            omega)
          have T5 := T4.dn D3
          rw [List.length_map] at i1
          repeat infer_instance
          refine ⟨_, T5.at_.key rfl, ?_⟩
          refine ⟨kind_lst T5.at_.w rfl, ?_⟩
          repeat infer_instance
          refine wm_insert T5.at_.w (by rw [List.length_map]; show c'.wants.length < 16777216; omega) i0 (by omega) fun g4 e4 k4 => ?_
          have e5 : g4[t.w]? = some (.lst ((c'.wants.take i.toNat ++ [v] ++ c'.wants.drop i.toNat).map needW)) := by
            rw [e4]
            simp [List.map_take, List.map_drop]
          refine ws_nil ⟨_, _, _, { c' with wants := c'.wants.take i.toNat ++ [v] ++ c'.wants.drop i.toNat }, rs, rfl, rfl, rfl, hg2, by omega, rfl, ⟨T5.pool.touch k4 (by omega), T5.fr.trans (Kp.frn k4 (by omega) (by omega)), T5.at_.tw k4 e5⟩, ?_⟩
          have G6 := G2.mono (show _ ≤ B + (os.length - rs.length) by omega)
          refine ⟨G6.r, G6.f, G6.o, ⟨fun x hx => ?_, ?_⟩, G6.x, G6.s⟩
          · rcases List.mem_append.mp hx with hx | hx
            · rcases List.mem_append.mp hx with hx | hx
              · exact G2.w.1 x (List.mem_of_mem_take hx)
              · simp at hx
                rw [hx]
                exact gv
            · exact G2.w.1 x (List.mem_of_mem_drop hx)
          · show (c'.wants.take i.toNat ++ [v] ++ c'.wants.drop i.toNat).length ≤ _
            simp only [List.length_append, List.length_take, List.length_drop, List.length_singleton]
            omega
        · exact ws_nil ⟨_, _, _, c', rs, rfl, rfl, rfl, hg2, by omega, rfl, T4, G2.mono (by omega)⟩
      refine if_dec (fun ha => ?_) fun ha => ?_
      · repeat infer_instance
        refine ⟨.str u.2.1, rfl, ?_⟩
        repeat infer_instance
        have gu2 := gu.2
        refine ⟨_, cmp_eq_str (goodS_ok gu2).1 (by decide +kernel), ?_⟩
        refine if_dec (fun hf => ?_) fun hf => ?_
        · repeat infer_instance
          refine dr T3.pool fun b g2 D2 b0 b1 => ?_
          have T4 := T3.dn D2
          repeat infer_instance
          refine if_dec (fun hb => ?_) fun hb => ?_
          · repeat infer_instance
            refine ⟨.str u.1, rfl, ?_⟩
            repeat infer_instance
            refine ⟨.str u.2.1, rfl, ?_⟩
            repeat infer_instance
            refine ⟨.int u.2.2, rfl, ?_⟩
            iterate 8 infer_instance
            exact (fin g2 (u.1, u.2.1, (u.2.2 + 1) % 7) z T4 ⟨gu.1, gu.2⟩).mono fun fl h2 w => by cases fl <;> first | exact w | exact w.elim
          · repeat (with_reducible first | refine if_t ?_ | refine if_f ?_)
            exact (fin g2 u z T4 gu).mono fun fl h2 w => by cases fl <;> first | exact w | exact w.elim
        · repeat (with_reducible first | refine if_t ?_ | refine if_f ?_)
          exact (fin g1 u z T3 gu).mono fun fl h2 w => by cases fl <;> first | exact w | exact w.elim
      · exact ws_nil ⟨_, _, _, c', rs, rfl, rfl, rfl, hg2, by omega, rfl, T3, G2.mono (by omega)⟩
  · rintro nl ws env g ⟨x, y, z, c', rs, rfl, rfl, hr, hg, hl, rfl, T2, G2⟩
    exact ws_nil (q c' g T2 (G2.mono (by omega)))
end K60
set_option Elab.async false
set_option linter.all false
set_option maxRecDepth 100000
set_option maxHeartbeats 1600000
namespace K60
open PySem PySem.Spec PyProof.Rows L2 Pc
local macro_rules
  | `(tactic| infer_instance) => `(tactic| first
    | with_reducible refine ws_set ?_ | with_reducible refine ws_ret ?_ | with_reducible refine ws_expr ?_ | ((with_reducible refine ws_if ?_); dsimp only [List.cons_append, List.nil_append]) | with_reducible refine ws_seti ?_ | with_reducible refine ws_seta ?_
    | with_reducible refine we_lit ?_ | with_reducible refine we_bin ?_ | with_reducible refine we_cmp ?_ | with_reducible refine we_and ?_ | with_reducible refine we_and2 ?_ | with_reducible refine we_and1 ?_ | with_reducible refine we_or ?_ | with_reducible refine we_or2 ?_
    | with_reducible refine we_or1 ?_ | with_reducible refine we_val ?_ | with_reducible refine we_not ?_ | with_reducible refine we_ite ?_ | with_reducible refine we_nil ?_ | with_reducible refine we_cons ?_ | with_reducible refine we_tup ?_ 
    | with_reducible refine we_ix ?_ | with_reducible refine we_slc ?_ | with_reducible refine wo_none ?_ | with_reducible refine wo_some ?_ | with_reducible refine we_att ?_ | with_reducible refine we_call ?_ | with_reducible refine we_new ?_ | with_reducible refine we_mth ?_
    | with_reducible refine we_blt ?_ | with_reducible refine we_bmt ?_ | with_reducible refine we_isi ?_ | with_reducible refine we_dct ?_ | with_reducible refine we_neg ?_ | with_reducible refine wt_cmp ?_ | with_reducible refine wt_isi ?_ | with_reducible refine wt_val ?_
    | with_reducible refine wt_not ?_ | with_reducible refine wt_and ?_ | with_reducible refine wt_or ?_ | with_reducible refine wt_and2 ?_ | with_reducible refine wt_or2 ?_ | with_reducible refine wt_and1 ?_ | with_reducible refine wt_or1 ?_ | with_reducible refine wc_nil ?_
    | with_reducible refine wc_one ?_ | with_reducible refine wb_add ?_ | with_reducible refine wb_sub ?_ | with_reducible refine wl_int ?_ | with_reducible refine wl_abs ?_ | with_reducible refine ex_int ?_ | with_reducible refine ex_bl ?_
    | ((with_reducible refine we_var (w := ?_) ?_ ?_); rotate_left; · rfl)
    | with_reducible refine ⟨_, cmp_eq_int, ?_⟩ | with_reducible refine ⟨_, cmp_ne_int, ?_⟩ | with_reducible refine ⟨_, cmp_lt_int, ?_⟩ | with_reducible refine ⟨_, cmp_gt_int, ?_⟩ | with_reducible refine ⟨_, cmp_le_int, ?_⟩ | with_reducible refine ⟨_, cmp_ge_int, ?_⟩ | with_reducible refine ⟨_, tru_bl, ?_⟩
    | ((with_reducible refine ⟨_, ix_lst (w := ?_) (by assumption) ?_, ?_⟩); rotate_left; · rfl)
    | ((with_reducible refine And.intro (a := _ ≤ lim) ?_ ?_); · exact Nat.le_of_ble_eq_true rfl)
    | with_reducible refine if_t ?_ | with_reducible refine if_f ?_
    | with_reducible refine wl_len (len_lst (by assumption)) ?_
    | ((with_reducible refine wb_mod ?_ ?_); · decide) | ((with_reducible refine wb_div ?_ ?_ ?_); (· decide); (· decide)) | ((with_reducible refine wb_mul2 ?_ ?_ ?_ ?_ ?_); rotate_left; (· omega); (· omega); (· omega); (· omega))
    | ((with_reducible refine ⟨_, ix_tup (w := ?_) ?_, ?_⟩); rotate_left; · rfl) | with_reducible refine wl_lent ?_ | with_reducible refine str_lit (by assumption) ?_)
/-! ### the sum -/
def O6.add (a b : O6) : O6 := ⟨a.words ++ b.words, a.defs ++ b.defs.map (fun x => (x.1, x.2.1 + (a.words.length : Int), x.2.2)), a.data ++ b.data, a.needs ++ b.needs.filter (fun x => !decide (x ∈ a.needs)), a.opn ++ b.opn.map (fun x => (x.1 + (a.words.length : Int), x.2)), a.sgn ++ b.sgn.map (fun x => (x.1 + (a.words.length : Int), x.2))⟩
def shD (n : Int) : W → W
  | .tup [s, .int i, p, f] => .tup [s, .int (i + n), p, f]
  | w => w
def shO (n : Int) : W → W
  | .tup [.int i, p, f] => .tup [.int (i + n), p, f]
  | w => w
theorem map_true {ws : List W} {f : W → W} : (ws.filter fun _ => true).map f = ws.map f := by
  rw [List.filter_eq_self.mpr fun _ _ => rfl]
theorem map_shD {n : Int} {l : List (Str × Int × Int × Int)} : (l.map defW).map (shD n) = (l.map fun x => (x.1, x.2.1 + n, x.2.2)).map defW := by
  rw [List.map_map, List.map_map]
  rfl
theorem map_shO {n : Int} {l : List (Int × Str × Str)} : (l.map opnW).map (shO n) = (l.map fun x => (x.1 + n, x.2)).map opnW := by
  rw [List.map_map, List.map_map]
  rfl
theorem map_shS {n : Int} {l : List (Int × Str × Chn)} : (l.map sgnW).map (shO n) = (l.map fun x => (x.1 + n, x.2)).map sgnW := by
  rw [List.map_map, List.map_map]
  rfl
def datN : W → Option (Str × Str × Int)
  | .tup [.str a, .str b, .int c] => some (a, b, c)
  | _ => none
def notN (xs : List (Str × Str × Int)) (w : W) : Bool := match datN w with
  | some x => !decide (x ∈ xs)
  | none => false
theorem filt_needs {xs : List (Str × Str × Int)} : ∀ l : List (Str × Str × Int), ((l.map needW).filter (notN xs)).map (fun w => w) = (l.filter fun x => !decide (x ∈ xs)).map needW
  | [] => rfl
  | x :: l => by
    have ih := filt_needs (xs := xs) l
    have hx : notN xs (needW x) = !decide (x ∈ xs) := rfl
    rw [List.map_cons, List.filter_cons, List.filter_cons, hx]
    split
    · rw [List.map_cons, List.map_cons, ih]
    · exact ih
theorem G6.add {a b : O6} {m n : Nat} (ga : G6 a m) (gb : G6 b n) : G6 (a.add b) (m + n) := by
  refine ⟨?_, ⟨fun x hx => ?_, ?_⟩, ⟨fun x hx => ?_, ?_⟩, ⟨fun x hx => ?_, ?_⟩, ⟨fun x hx => ?_, ?_⟩, ⟨fun x hx => ?_, ?_⟩⟩
  · have := ga.r; have := gb.r
    show (a.words ++ b.words).length ≤ _
    rw [List.length_append]
    omega
  · rcases List.mem_append.mp hx with h | h
    · exact ga.f.1 x h
    · obtain ⟨y, hy, rfl⟩ := List.mem_map.mp h
      exact gb.f.1 y hy
  · have := ga.f.2; have := gb.f.2
    show (a.defs ++ b.defs.map _).length ≤ _
    rw [List.length_append, List.length_map]
    omega
  · rcases List.mem_append.mp hx with h | h
    · exact ga.o.1 x h
    · exact gb.o.1 x h
  · have := ga.o.2; have := gb.o.2
    show (a.data ++ b.data).length ≤ _
    rw [List.length_append]
    omega
  · rcases List.mem_append.mp hx with h | h
    · exact ga.w.1 x h
    · exact gb.w.1 x ((List.mem_filter.mp h).1)
  · have := ga.w.2; have := gb.w.2
    have := List.length_filter_le (fun x => !decide (x ∈ a.needs)) b.needs
    show (a.needs ++ b.needs.filter _).length ≤ _
    rw [List.length_append]
    omega
  · rcases List.mem_append.mp hx with h | h
    · exact ga.x.1 x h
    · obtain ⟨y, hy, rfl⟩ := List.mem_map.mp h
      exact gb.x.1 y hy
  · have := ga.x.2; have := gb.x.2
    show (a.opn ++ b.opn.map _).length ≤ _
    rw [List.length_append, List.length_map]
    omega
  · rcases List.mem_append.mp hx with h | h
    · exact ga.s.1 x h
    · obtain ⟨y, hy, rfl⟩ := List.mem_map.mp h
      exact gb.s.1 y hy
  · have := ga.s.2; have := gb.s.2
    show (a.sgn ++ b.sgn.map _).length ≤ _
    rw [List.length_append, List.length_map]
    omega
theorem sum {k p m n : Nat} {a b : O6} {h : Hs} {Q : W → Hs → Prop} (P : Pool p h) (ga : G6 a m) (gb : G6 b n) (hm : m ≤ 100000) (hn : n ≤ 100000) (q : ∀ g, Dn p h g → Q (O6.toW (a.add b)) g) : wp (evFn D.T (k + 1) 24 [a.toW, b.toW] h) Q := by
  have r1 := ga.r; have r2 := gb.r; have f1 := ga.f.2; have f2 := gb.f.2; have o1 := ga.o.2; have o2 := gb.o.2; have w1 := ga.w.2; have w2 := gb.w.2; have x1 := ga.x.2; have x2 := gb.x.2; have s1 := ga.s.2; have s2 := gb.s.2
  refine wf (i := ⟨2, 9, b__law_sum⟩) (env := [some a.toW, some b.toW, none, none, none, none, none, none, none]) rfl rfl rfl ?_
  unfold b__law_sum
  repeat infer_instance
  refine we_lcT (p := p) (fun _ => true) (shD a.words.length) ?_
  repeat infer_instance
  refine ⟨b.defs.map defW, rfl, by rw [List.length_map]; show b.defs.length < 16777216; omega, P, fun w hw => ?_, fun m1 g1 N1 => ?_⟩
  · obtain ⟨x, hx, rfl⟩ := List.mem_map.mp hw
    refine ⟨_, rfl, fun g hg => wc_nil ⟨rfl, rfl, fun _ => ?_⟩⟩
    repeat infer_instance
    refine ⟨.str x.1, rfl, ?_⟩
    repeat infer_instance
    refine ⟨.int x.2.1, rfl, ?_⟩
    repeat infer_instance
    refine ⟨.int x.2.2.1, rfl, ?_⟩
    repeat infer_instance
    refine ⟨.int x.2.2.2, rfl, ?_⟩
    repeat infer_instance
    exact ⟨rfl, by rw [List.length_map]; rfl⟩
  rw [map_true, map_shD] at N1
  repeat infer_instance
  refine we_lcT (p := p) (notN a.needs) (fun w => w) ?_
  repeat infer_instance
  refine ⟨b.needs.map needW, rfl, by rw [List.length_map]; show b.needs.length < 16777216; omega, N1.pool, fun w hw => ?_, fun m2 g2 N2 => ?_⟩
  · obtain ⟨x, hx, rfl⟩ := List.mem_map.mp hw
    refine ⟨_, rfl, fun g hg => ?_⟩
    repeat infer_instance
    refine ⟨_, notin_T (gb.w.1 x hx) ga.w.1, ?_⟩
    refine ⟨rfl, rfl, fun _ => ?_⟩
    repeat infer_instance
    exact ⟨rfl, rfl⟩
  rw [filt_needs] at N2
  repeat infer_instance
  refine we_lcT (p := p) (fun _ => true) (shO a.words.length) ?_
  repeat infer_instance
  refine ⟨b.opn.map opnW, rfl, by rw [List.length_map]; show b.opn.length < 16777216; omega, N2.pool, fun w hw => ?_, fun m3 g3 N3 => ?_⟩
  · obtain ⟨x, hx, rfl⟩ := List.mem_map.mp hw
    refine ⟨_, rfl, fun g hg => wc_nil ⟨rfl, rfl, fun _ => ?_⟩⟩
    repeat infer_instance
    refine ⟨.int x.1, rfl, ?_⟩
    repeat infer_instance
    refine ⟨.str x.2.1, rfl, ?_⟩
    repeat infer_instance
    refine ⟨.str x.2.2, rfl, ?_⟩
    repeat infer_instance
    exact ⟨rfl, by rw [List.length_map]; rfl⟩
  rw [map_true, map_shO] at N3
  repeat infer_instance
  refine we_lcT (p := p) (fun _ => true) (shO a.words.length) ?_
  repeat infer_instance
  refine ⟨b.sgn.map sgnW, rfl, by rw [List.length_map]; show b.sgn.length < 16777216; omega, N3.pool, fun w hw => ?_, fun m4 g4 N4 => ?_⟩
  · obtain ⟨x, hx, rfl⟩ := List.mem_map.mp hw
    refine ⟨_, rfl, fun g hg => wc_nil ⟨rfl, rfl, fun _ => ?_⟩⟩
    repeat infer_instance
    refine ⟨.int x.1, rfl, ?_⟩
    repeat infer_instance
    refine ⟨.str x.2.1, rfl, ?_⟩
    repeat infer_instance
    refine ⟨.tup (x.2.2.map linkW), rfl, ?_⟩
    repeat infer_instance
    exact ⟨rfl, by rw [List.length_map]; rfl⟩
  rw [map_true, map_shS] at N4
  have e1 := N4.gr _ _ (N3.gr _ _ (N2.gr _ _ N1.at_))
  have e2 := N4.gr _ _ (N3.gr _ _ N2.at_)
  have e3 := N4.gr _ _ N3.at_
  have e4 := N4.at_
  have fl := List.length_filter_le (fun x => !decide (x ∈ a.needs)) b.needs
  repeat infer_instance
  refine wb_addt (by simp only [List.length_map]; show _ ≤ 16777216; omega) ?_
  repeat infer_instance
  refine wl_tuple e1 ?_
  repeat infer_instance
  refine wb_addt (by simp only [List.length_map]; show _ ≤ 16777216; omega) ?_
  repeat infer_instance
  refine wb_addt (by simp only [List.length_map]; show _ ≤ 16777216; omega) ?_
  repeat infer_instance
  refine wl_tuple e2 ?_
  repeat infer_instance
  refine wb_addt (by simp only [List.length_map]; show _ ≤ 16777216; omega) ?_
  repeat infer_instance
  refine wb_addt (Nat.le_of_ble_eq_true rfl) ?_
  repeat infer_instance
  refine wl_tuple e3 ?_
  repeat infer_instance
  refine wb_addt (by simp only [List.length_map]; show _ ≤ 16777216; omega) ?_
  repeat infer_instance
  refine wl_tuple e4 ?_
  repeat infer_instance
  refine wb_addt (by simp only [List.length_map]; show _ ≤ 16777216; omega) ?_
  repeat infer_instance
  refine wb_addt (Nat.le_of_ble_eq_true rfl) ?_
  have z := q g4 (N1.dn.trans (N2.dn.trans (N3.dn.trans N4.dn)))
  simp only [← List.map_append]
  exact z
end K60
set_option Elab.async false
set_option linter.all false
set_option maxRecDepth 100000
set_option maxHeartbeats 1600000
namespace K60
open PySem PySem.Spec PyProof.Rows L2 Pc
local macro_rules
  | `(tactic| infer_instance) => `(tactic| first
    | with_reducible refine ws_set ?_ | with_reducible refine ws_ret ?_ | with_reducible refine ws_expr ?_ | ((with_reducible refine ws_if ?_); dsimp only [List.cons_append, List.nil_append]) | with_reducible refine ws_seti ?_ | with_reducible refine ws_seta ?_
    | with_reducible refine we_lit ?_ | with_reducible refine we_bin ?_ | with_reducible refine we_cmp ?_ | with_reducible refine we_and ?_ | with_reducible refine we_and2 ?_ | with_reducible refine we_and1 ?_ | with_reducible refine we_or ?_ | with_reducible refine we_or2 ?_
    | with_reducible refine we_or1 ?_ | with_reducible refine we_val ?_ | with_reducible refine we_not ?_ | with_reducible refine we_ite ?_ | with_reducible refine we_nil ?_ | with_reducible refine we_cons ?_ | with_reducible refine we_tup ?_ 
    | with_reducible refine we_ix ?_ | with_reducible refine we_slc ?_ | with_reducible refine wo_none ?_ | with_reducible refine wo_some ?_ | with_reducible refine we_att ?_ | with_reducible refine we_call ?_ | with_reducible refine we_new ?_ | with_reducible refine we_mth ?_
    | with_reducible refine we_blt ?_ | with_reducible refine we_bmt ?_ | with_reducible refine we_isi ?_ | with_reducible refine we_dct ?_ | with_reducible refine we_neg ?_ | with_reducible refine wt_cmp ?_ | with_reducible refine wt_isi ?_ | with_reducible refine wt_val ?_
    | with_reducible refine wt_not ?_ | with_reducible refine wt_and ?_ | with_reducible refine wt_or ?_ | with_reducible refine wt_and2 ?_ | with_reducible refine wt_or2 ?_ | with_reducible refine wt_and1 ?_ | with_reducible refine wt_or1 ?_ | with_reducible refine wc_nil ?_
    | with_reducible refine wc_one ?_ | with_reducible refine wb_add ?_ | with_reducible refine wb_sub ?_ | with_reducible refine wl_int ?_ | with_reducible refine wl_abs ?_ | with_reducible refine ex_int ?_ | with_reducible refine ex_bl ?_
    | ((with_reducible refine we_var (w := ?_) ?_ ?_); rotate_left; · rfl)
    | with_reducible refine ⟨_, cmp_eq_int, ?_⟩ | with_reducible refine ⟨_, cmp_ne_int, ?_⟩ | with_reducible refine ⟨_, cmp_lt_int, ?_⟩ | with_reducible refine ⟨_, cmp_gt_int, ?_⟩ | with_reducible refine ⟨_, cmp_le_int, ?_⟩ | with_reducible refine ⟨_, cmp_ge_int, ?_⟩ | with_reducible refine ⟨_, tru_bl, ?_⟩
    | ((with_reducible refine ⟨_, ix_lst (w := ?_) (by assumption) ?_, ?_⟩); rotate_left; · rfl)
    | ((with_reducible refine And.intro (a := _ ≤ lim) ?_ ?_); · exact Nat.le_of_ble_eq_true rfl)
    | with_reducible refine if_t ?_ | with_reducible refine if_f ?_
    | with_reducible refine wl_len (len_lst (by assumption)) ?_
    | ((with_reducible refine wb_mod ?_ ?_); · decide) | ((with_reducible refine wb_div ?_ ?_ ?_); (· decide); (· decide)) | ((with_reducible refine wb_mul2 ?_ ?_ ?_ ?_ ?_); rotate_left; (· omega); (· omega); (· omega); (· omega))
    | ((with_reducible refine ⟨_, ix_tup (w := ?_) ?_, ?_⟩); rotate_left; · rfl) | with_reducible refine wl_lent ?_ | with_reducible refine str_lit (by assumption) ?_)
theorem if_nt {A B : Prop} (b : B) : if (!true) = true then A else B := if_f b
theorem if_nf {A B : Prop} (a : A) : if (!false) = true then A else B := if_t a
/-! ### alike -/
def Lk (n : Nat) (w : W) : Prop := match w with
  | .int _ => True
  | .str s => goodS s = true
  | .tup ws => (match n with
    | 0 => False
    | n + 1 => ws.length < 2 ^ 62 ∧ ∀ w ∈ ws, Lk n w)
  | _ => False
theorem alike_int {k : Nat} {i : Int} {h : Hs} {Q : W → Hs → Prop} (q : Q (.bl true) h) : wp (evFn D.T (k + 1) 8 [.int i, .int i] h) Q := by
  refine wf (i := ⟨2, 3, b__law_alike⟩) (env := [some (.int i), some (.int i), none]) rfl rfl rfl ?_
  unfold b__law_alike
  repeat infer_instance
  refine ⟨false, rfl, ?_⟩
  repeat infer_instance
  refine ⟨false, rfl, ?_⟩
  repeat infer_instance
  refine ⟨false, rfl, ?_⟩
  repeat infer_instance
  refine ⟨false, rfl, ?_⟩
  repeat infer_instance
  refine ⟨false, rfl, ?_⟩
  repeat infer_instance
  refine ⟨true, rfl, ?_⟩
  repeat infer_instance
  refine ⟨false, rfl, ?_⟩
  repeat infer_instance
  simp only [Bool.not_false, if_true]
  repeat infer_instance
  rw [decide_eq_true rfl]
  exact q
theorem alike_str {k : Nat} {s : Str} {h : Hs} {Q : W → Hs → Prop} (g : goodS s = true) (q : Q (.bl true) h) : wp (evFn D.T (k + 1) 8 [.str s, .str s] h) Q := by
  refine wf (i := ⟨2, 3, b__law_alike⟩) (env := [some (.str s), some (.str s), none]) rfl rfl rfl ?_
  unfold b__law_alike
  repeat infer_instance
  refine ⟨false, rfl, ?_⟩
  repeat infer_instance
  refine ⟨false, rfl, ?_⟩
  repeat infer_instance
  refine ⟨false, rfl, ?_⟩
  repeat infer_instance
  refine ⟨false, rfl, ?_⟩
  repeat infer_instance
  refine ⟨true, rfl, ?_⟩
  repeat infer_instance
  refine ⟨true, rfl, ?_⟩
  repeat infer_instance
  refine ⟨_, cmp_eq_str (goodS_ok g).1 (goodS_ok g).1, ?_⟩
  rw [decide_eq_true rfl]
  exact q
theorem alike {k : Nat} : ∀ (n : Nat) {w : W} {h : Hs} {Q : W → Hs → Prop}, Lk n w → Q (.bl true) h → wp (evFn D.T (k + n + 1) 8 [w, w] h) Q
  | n, .int i, h, Q, _, q => alike_int q
  | n, .str s, h, Q, l, q => alike_str (by unfold Lk at l; exact l) q
  | 0, .tup ws, h, Q, l, q => by unfold Lk at l; exact l.elim
  | n + 1, .tup ws, h, Q, l, q => by
    unfold Lk at l
    obtain ⟨hl, l⟩ := l
    refine wf (i := ⟨2, 3, b__law_alike⟩) (env := [some (.tup ws), some (.tup ws), none]) rfl rfl rfl ?_
    unfold b__law_alike
    repeat infer_instance
    refine ⟨true, rfl, ?_⟩
    repeat infer_instance
    refine ⟨true, rfl, ?_⟩
    repeat infer_instance
    refine ⟨true, rfl, ?_⟩
    refine if_nt ?_
    repeat infer_instance
    refine ⟨false, rfl, ?_⟩
    repeat infer_instance
    rw [decide_eq_true rfl]
    refine if_nt ?_
    repeat infer_instance
    refine ws_forI (fun r env g => g = h ∧ ∃ (z : Option W) (j : Nat), env = [some (.tup ws), some (.tup ws), z] ∧ r = intsFrom j (ws.length - j) ∧ j ≤ ws.length) ?_ ?_ ?_
    · repeat infer_instance
      refine ⟨_, src_range (by omega) (by omega), rfl, none, 0, rfl, ?_, Nat.zero_le _⟩
      simp
    · rintro w r env g ⟨rfl, z, j, rfl, hr, hj⟩
      have hj2 : j < ws.length := by
        rcases Nat.lt_or_ge j ws.length with h | h
        · exact h
        · rw [Nat.sub_eq_zero_of_le h] at hr
          cases hr
      obtain ⟨m, hm⟩ : ∃ m, ws.length - j = m + 1 := ⟨ws.length - j - 1, by omega⟩
      rw [hm] at hr
      obtain ⟨rfl, rfl⟩ := List.cons.inj hr
      refine ⟨_, rfl, ?_⟩
      repeat infer_instance
      refine ⟨_, ix_tup (Pc.atI_nat (List.getElem?_eq_getElem hj2)), ?_⟩
      repeat infer_instance
      refine ⟨_, ix_tup (Pc.atI_nat (List.getElem?_eq_getElem hj2)), ?_⟩
      repeat infer_instance
      refine alike n (l _ (List.getElem_mem hj2)) ?_
      repeat infer_instance
      simp only [Bool.not_true, Bool.false_eq_true, if_false]
      refine ws_nil ⟨rfl, _, j + 1, rfl, ?_, by omega⟩
      have : ws.length - (j + 1) = m := by omega
      rw [this]
      simp
    · rintro env g ⟨rfl, z, j, rfl, _, _⟩
      repeat infer_instance
      exact q
  | n, .non, h, Q, l, q => by unfold Lk at l; exact l.elim
  | n, .bl _, h, Q, l, q => by unfold Lk at l; exact l.elim
  | n, .loc _, h, Q, l, q => by unfold Lk at l; exact l.elim
theorem Lk.of {n : Nat} {ws : List W} (hl : ws.length < 2 ^ 62) (h : ∀ w ∈ ws, Lk n w) : Lk (n + 1) (.tup ws) := by
  unfold Lk
  exact ⟨hl, h⟩
theorem Lk.int {n : Nat} {i : Int} : Lk n (.int i) := by
  unfold Lk
  trivial
theorem Lk.str {n : Nat} {s : Str} (g : goodS s = true) : Lk n (.str s) := by
  unfold Lk
  exact g
theorem lk_obj {o : O6} {b : Nat} (g : G6 o b) (hb : b ≤ 1000000) : Lk 5 o.toW := by
  have r1 := g.r; have f1 := g.f.2; have o1 := g.o.2; have w1 := g.w.2; have x1 := g.x.2; have s1 := g.s.2
  refine Lk.of (Nat.le_of_ble_eq_true rfl) fun w hw => ?_
  unfold O6.parts at hw
  simp only [List.mem_cons, List.not_mem_nil, or_false] at hw
  rcases hw with rfl | rfl | rfl | rfl | rfl | rfl
  · refine Lk.of (by rw [List.length_map]; omega) fun w hw => ?_
    obtain ⟨x, _, rfl⟩ := List.mem_map.mp hw
    exact Lk.int
  · refine Lk.of (by rw [List.length_map]; omega) fun w hw => ?_
    obtain ⟨x, hx, rfl⟩ := List.mem_map.mp hw
    refine Lk.of (Nat.le_of_ble_eq_true rfl) fun w hw => ?_
    simp only [List.mem_cons, List.not_mem_nil, or_false] at hw
    rcases hw with rfl | rfl | rfl | rfl
    · exact Lk.str (g.f.1 x hx)
    all_goals exact Lk.int
  · refine Lk.of (by rw [List.length_map]; omega) fun w hw => ?_
    obtain ⟨x, hx, rfl⟩ := List.mem_map.mp hw
    refine Lk.of (Nat.le_of_ble_eq_true rfl) fun w hw => ?_
    simp only [List.mem_cons, List.not_mem_nil, or_false] at hw
    rcases hw with rfl | rfl | rfl
    · exact Lk.str (g.o.1 x hx)
    all_goals exact Lk.int
  · refine Lk.of (by rw [List.length_map]; omega) fun w hw => ?_
    obtain ⟨x, hx, rfl⟩ := List.mem_map.mp hw
    refine Lk.of (Nat.le_of_ble_eq_true rfl) fun w hw => ?_
    simp only [List.mem_cons, List.not_mem_nil, or_false] at hw
    rcases hw with rfl | rfl | rfl
    · exact Lk.str (g.w.1 x hx).1
    · exact Lk.str (g.w.1 x hx).2
    · exact Lk.int
  · refine Lk.of (by rw [List.length_map]; omega) fun w hw => ?_
    obtain ⟨x, hx, rfl⟩ := List.mem_map.mp hw
    refine Lk.of (Nat.le_of_ble_eq_true rfl) fun w hw => ?_
    simp only [List.mem_cons, List.not_mem_nil, or_false] at hw
    rcases hw with rfl | rfl | rfl
    · exact Lk.int
    · exact Lk.str (g.x.1 x hx).1
    · exact Lk.str (g.x.1 x hx).2
  · refine Lk.of (by rw [List.length_map]; omega) fun w hw => ?_
    obtain ⟨x, hx, rfl⟩ := List.mem_map.mp hw
    refine Lk.of (Nat.le_of_ble_eq_true rfl) fun w hw => ?_
    simp only [List.mem_cons, List.not_mem_nil, or_false] at hw
    rcases hw with rfl | rfl | rfl
    · exact Lk.int
    · exact Lk.str (g.s.1 x hx).1
    · have gc := (g.s.1 x hx).2
      refine Lk.of (by rw [List.length_map]; have := gc.2; omega) fun w hw => ?_
      obtain ⟨y, hy, rfl⟩ := List.mem_map.mp hw
      refine Lk.of (Nat.le_of_ble_eq_true rfl) fun w hw => ?_
      simp only [List.mem_cons, List.not_mem_nil, or_false] at hw
      rcases hw with rfl | rfl
      · exact Lk.str (gc.1 y hy)
      · exact Lk.int
end K60
set_option Elab.async false
set_option linter.all false
set_option maxRecDepth 100000
set_option maxHeartbeats 1600000
namespace K60
open PySem PySem.Spec PyProof.Rows L2 Pc
local macro_rules
  | `(tactic| infer_instance) => `(tactic| first
    | with_reducible refine ws_set ?_ | with_reducible refine ws_ret ?_ | with_reducible refine ws_expr ?_ | ((with_reducible refine ws_if ?_); dsimp only [List.cons_append, List.nil_append]) | with_reducible refine ws_seti ?_ | with_reducible refine ws_seta ?_
    | with_reducible refine we_lit ?_ | with_reducible refine we_bin ?_ | with_reducible refine we_cmp ?_ | with_reducible refine we_and ?_ | with_reducible refine we_and2 ?_ | with_reducible refine we_and1 ?_ | with_reducible refine we_or ?_ | with_reducible refine we_or2 ?_
    | with_reducible refine we_or1 ?_ | with_reducible refine we_val ?_ | with_reducible refine we_not ?_ | with_reducible refine we_ite ?_ | with_reducible refine we_nil ?_ | with_reducible refine we_cons ?_ | with_reducible refine we_tup ?_ 
    | with_reducible refine we_ix ?_ | with_reducible refine we_slc ?_ | with_reducible refine wo_none ?_ | with_reducible refine wo_some ?_ | with_reducible refine we_att ?_ | with_reducible refine we_call ?_ | with_reducible refine we_new ?_ | with_reducible refine we_mth ?_
    | with_reducible refine we_blt ?_ | with_reducible refine we_bmt ?_ | with_reducible refine we_isi ?_ | with_reducible refine we_dct ?_ | with_reducible refine we_neg ?_ | with_reducible refine wt_cmp ?_ | with_reducible refine wt_isi ?_ | with_reducible refine wt_val ?_
    | with_reducible refine wt_not ?_ | with_reducible refine wt_and ?_ | with_reducible refine wt_or ?_ | with_reducible refine wt_and2 ?_ | with_reducible refine wt_or2 ?_ | with_reducible refine wt_and1 ?_ | with_reducible refine wt_or1 ?_ | with_reducible refine wc_nil ?_
    | with_reducible refine wc_one ?_ | with_reducible refine wb_add ?_ | with_reducible refine wb_sub ?_ | with_reducible refine wl_int ?_ | with_reducible refine wl_abs ?_ | with_reducible refine ex_int ?_ | with_reducible refine ex_bl ?_
    | ((with_reducible refine we_var (w := ?_) ?_ ?_); rotate_left; · rfl)
    | with_reducible refine ⟨_, cmp_eq_int, ?_⟩ | with_reducible refine ⟨_, cmp_ne_int, ?_⟩ | with_reducible refine ⟨_, cmp_lt_int, ?_⟩ | with_reducible refine ⟨_, cmp_gt_int, ?_⟩ | with_reducible refine ⟨_, cmp_le_int, ?_⟩ | with_reducible refine ⟨_, cmp_ge_int, ?_⟩ | with_reducible refine ⟨_, tru_bl, ?_⟩
    | ((with_reducible refine ⟨_, ix_lst (w := ?_) (by assumption) ?_, ?_⟩); rotate_left; · rfl)
    | ((with_reducible refine And.intro (a := _ ≤ lim) ?_ ?_); · exact Nat.le_of_ble_eq_true rfl)
    | with_reducible refine if_t ?_ | with_reducible refine if_f ?_
    | with_reducible refine wl_len (len_lst (by assumption)) ?_
    | ((with_reducible refine wb_mod ?_ ?_); · decide) | ((with_reducible refine wb_div ?_ ?_ ?_); (· decide); (· decide)) | ((with_reducible refine wb_mul2 ?_ ?_ ?_ ?_ ?_); rotate_left; (· omega); (· omega); (· omega); (· omega))
    | ((with_reducible refine ⟨_, ix_tup (w := ?_) ?_, ?_⟩); rotate_left; · rfl) | with_reducible refine wl_lent ?_ | with_reducible refine str_lit (by assumption) ?_)
/-! ### objects -/
def fsO (o : O6) : List (Nat × W) := [(2, .tup (o.words.map W.int)), (3, .tup (o.defs.map defW)), (4, .tup (o.data.map dataW)), (5, .tup (o.needs.map needW)), (6, .tup (o.opn.map opnW)), (7, .tup (o.sgn.map sgnW))]
theorem wset {h : Hs} {fs : List (Nat × W)} {f : Nat} {w : W} {ss : List S} {cl : Nat → List W → Hs → Res W} {Q : Unit → Hs → Prop} (h1 : (valG [((1 : Nat), (2 : Nat))] f).isNone = true) (h2 : (valG [((0 : Nat), (1 : Nat))] f).isNone = true) (hl : fs.length < 1000) (q : Q () (h ++ [.ins 0 (putA f w fs)])) : wp (setA D.T (.loc h.length) f w (h ++ [.ins 0 fs])) Q := by
  refine wp.of (a := ()) (h := h ++ [.ins 0 (putA f w fs)]) ?_ q
  unfold setA
  simp only [new_at2]
  show (if (valG [((1 : Nat), (2 : Nat))] f).isNone = true ∧ (valG [((0 : Nat), (1 : Nat))] f).isNone = true ∧ fs.length < 1000 then Res.ok () ((h ++ [Ob.ins 0 fs]).set h.length (Ob.ins 0 (putA f w fs))) else .bad) = _
  rw [if_pos ⟨h1, h2, hl⟩, List.set_append_right _ _ (Nat.le_refl _)]
  simp
theorem object_new {k p : Nat} {o : O6} {h : Hs} {Q : W → Hs → Prop} (P : Pool p h) (q : ∀ n g, Nw p n (.ins 0 (fsO o)) h g → Q (.loc n) g) : wp (newW D.T (evFn D.T (k + 1)) 0 o.parts h) Q := by
  unfold newW
  show wp ((evFn D.T (k + 1) 0 (.loc h.length :: o.parts) (h ++ [.ins 0 []])).quiet.bind fun r h1 => if isNon r = true then .ok (.loc h.length) h1 else .bad) Q
  refine wp.bind (wp.quiet ?_)
  refine wf (i := ⟨7, 7, b_Object___init__⟩) (env := some (.loc h.length) :: o.parts.map some) rfl rfl rfl ?_
  unfold b_Object___init__ O6.parts
  repeat infer_instance
  refine wset (ss := []) (cl := evFn D.T k) rfl rfl (Nat.le_of_ble_eq_true rfl) ?_
  repeat infer_instance
  refine wset (ss := []) (cl := evFn D.T k) rfl rfl (Nat.le_of_ble_eq_true rfl) ?_
  repeat infer_instance
  refine wset (ss := []) (cl := evFn D.T k) rfl rfl (Nat.le_of_ble_eq_true rfl) ?_
  repeat infer_instance
  refine wset (ss := []) (cl := evFn D.T k) rfl rfl (Nat.le_of_ble_eq_true rfl) ?_
  repeat infer_instance
  refine wset (ss := []) (cl := evFn D.T k) rfl rfl (Nat.le_of_ble_eq_true rfl) ?_
  repeat infer_instance
  refine wset (ss := []) (cl := evFn D.T k) rfl rfl (Nat.le_of_ble_eq_true rfl) ?_
  refine ws_nil ?_
  exact wp.ok (q h.length _ P.nw)
theorem att_o {cl : Nat → List W → Hs → Res W} {n f : Nat} {fs : List (Nat × W)} {w : W} {h : Hs} {Q : W → Hs → Prop} (e : h[n]? = some (.ins 0 fs)) (h1 : valG [((1 : Nat), (2 : Nat))] f = none) (h2 : valG [((0 : Nat), (1 : Nat))] f = none) (h3 : valG fs f = some w) (q : Q w h) : wp (attW D.T cl (.loc n) f h) Q := by
  refine wp.of ?_ q
  unfold attW
  simp only [e]
  show (match valG [((1 : Nat), (2 : Nat))] f with
    | some g => (cl g [.loc n] h).quiet
    | none => match valG [((0 : Nat), (1 : Nat))] f with
      | some _ => .bad
      | none => ofO (valG fs f) h) = _
  rw [h1, h2, h3]
  rfl
theorem parts {k n : Nat} {o : O6} {h : Hs} {Q : W → Hs → Prop} (e : h[n]? = some (.ins 0 (fsO o))) (q : Q o.toW h) : wp (evFn D.T (k + 1) 1 [.loc n] h) Q := by
  refine wf (i := ⟨1, 1, b_Object_parts⟩) (env := [some (.loc n)]) rfl rfl rfl ?_
  unfold b_Object_parts
  repeat infer_instance
  refine att_o e rfl rfl rfl ?_
  repeat infer_instance
  refine att_o e rfl rfl rfl ?_
  repeat infer_instance
  refine att_o e rfl rfl rfl ?_
  repeat infer_instance
  refine att_o e rfl rfl rfl ?_
  repeat infer_instance
  refine att_o e rfl rfl rfl ?_
  repeat infer_instance
  refine att_o e rfl rfl rfl ?_
  repeat infer_instance
  exact q
theorem size {k n : Nat} {o : O6} {h : Hs} {Q : W → Hs → Prop} (e : h[n]? = some (.ins 0 (fsO o))) (q : Q (.int o.words.length) h) : wp (attW D.T (evFn D.T (k + 1)) (.loc n) 1 h) Q := by
  unfold attW
  simp only [e]
  show wp (evFn D.T (k + 1) 2 [.loc n] h).quiet Q
  refine wp.quiet ?_
  refine wf (i := ⟨1, 1, b_Object_size⟩) (env := [some (.loc n)]) rfl rfl rfl ?_
  unfold b_Object_size
  repeat infer_instance
  refine att_o e rfl rfl rfl ?_
  repeat infer_instance
  rw [List.length_map]
  exact q
theorem object {k p : Nat} {o : O6} {h : Hs} {Q : W → Hs → Prop} (P : Pool p h) (q : ∀ n g, Nw p n (.ins 0 (fsO o)) h g → Q (.loc n) g) : wp (evFn D.T (k + 2) 25 [o.toW] h) Q := by
  refine wf (i := ⟨1, 1, b__law_object⟩) (env := [some o.toW]) rfl rfl rfl ?_
  unfold b__law_object
  repeat infer_instance
  exact object_new P q
theorem is_ {k n b : Nat} {o : O6} {h : Hs} {Q : W → Hs → Prop} (e : h[n]? = some (.ins 0 (fsO o))) (g : G6 o b) (hb : b ≤ 1000000) (q : Q (.bl true) h) : wp (evFn D.T (k + 7) 26 [.loc n, o.toW] h) Q := by
  refine wf (i := ⟨2, 2, b__law_is⟩) (env := [some (.loc n), some o.toW]) rfl rfl rfl ?_
  unfold b__law_is
  repeat infer_instance
  refine ⟨1, by unfold mthF; simp only [e]; rfl, ?_⟩
  repeat infer_instance
  refine parts e ?_
  repeat infer_instance
  refine alike (k := k) 5 (lk_obj g hb) ?_
  repeat infer_instance
  refine size e ?_
  repeat infer_instance
  rw [List.length_map]
  repeat infer_instance
  exact alike_int q
end K60
set_option Elab.async false
set_option linter.all false
set_option maxRecDepth 100000
set_option maxHeartbeats 1600000
namespace K60
open PySem PySem.Spec PyProof.Rows L2 Pc
local macro_rules
  | `(tactic| infer_instance) => `(tactic| first
    | with_reducible refine ws_set ?_ | with_reducible refine ws_ret ?_ | with_reducible refine ws_expr ?_ | ((with_reducible refine ws_if ?_); dsimp only [List.cons_append, List.nil_append]) | with_reducible refine ws_seti ?_ | with_reducible refine ws_seta ?_
    | with_reducible refine we_lit ?_ | with_reducible refine we_bin ?_ | with_reducible refine we_cmp ?_ | with_reducible refine we_and ?_ | with_reducible refine we_and2 ?_ | with_reducible refine we_and1 ?_ | with_reducible refine we_or ?_ | with_reducible refine we_or2 ?_
    | with_reducible refine we_or1 ?_ | with_reducible refine we_val ?_ | with_reducible refine we_not ?_ | with_reducible refine we_ite ?_ | with_reducible refine we_nil ?_ | with_reducible refine we_cons ?_ | with_reducible refine we_tup ?_ 
    | with_reducible refine we_ix ?_ | with_reducible refine we_slc ?_ | with_reducible refine wo_none ?_ | with_reducible refine wo_some ?_ | with_reducible refine we_att ?_ | with_reducible refine we_call ?_ | with_reducible refine we_new ?_ | with_reducible refine we_mth ?_
    | with_reducible refine we_blt ?_ | with_reducible refine we_bmt ?_ | with_reducible refine we_isi ?_ | with_reducible refine we_dct ?_ | with_reducible refine we_neg ?_ | with_reducible refine wt_cmp ?_ | with_reducible refine wt_isi ?_ | with_reducible refine wt_val ?_
    | with_reducible refine wt_not ?_ | with_reducible refine wt_and ?_ | with_reducible refine wt_or ?_ | with_reducible refine wt_and2 ?_ | with_reducible refine wt_or2 ?_ | with_reducible refine wt_and1 ?_ | with_reducible refine wt_or1 ?_ | with_reducible refine wc_nil ?_
    | with_reducible refine wc_one ?_ | with_reducible refine wb_add ?_ | with_reducible refine wb_sub ?_ | with_reducible refine wl_int ?_ | with_reducible refine wl_abs ?_ | with_reducible refine ex_int ?_ | with_reducible refine ex_bl ?_
    | ((with_reducible refine we_var (w := ?_) ?_ ?_); rotate_left; · rfl)
    | with_reducible refine ⟨_, cmp_eq_int, ?_⟩ | with_reducible refine ⟨_, cmp_ne_int, ?_⟩ | with_reducible refine ⟨_, cmp_lt_int, ?_⟩ | with_reducible refine ⟨_, cmp_gt_int, ?_⟩ | with_reducible refine ⟨_, cmp_le_int, ?_⟩ | with_reducible refine ⟨_, cmp_ge_int, ?_⟩ | with_reducible refine ⟨_, tru_bl, ?_⟩
    | ((with_reducible refine ⟨_, ix_lst (w := ?_) (by assumption) ?_, ?_⟩); rotate_left; · rfl)
    | ((with_reducible refine And.intro (a := _ ≤ lim) ?_ ?_); · exact Nat.le_of_ble_eq_true rfl)
    | with_reducible refine if_t ?_ | with_reducible refine if_f ?_
    | with_reducible refine wl_len (len_lst (by assumption)) ?_
    | ((with_reducible refine wb_mod ?_ ?_); · decide) | ((with_reducible refine wb_div ?_ ?_ ?_); (· decide); (· decide)) | ((with_reducible refine wb_mul2 ?_ ?_ ?_ ?_ ?_); rotate_left; (· omega); (· omega); (· omega); (· omega))
    | ((with_reducible refine ⟨_, ix_tup (w := ?_) ?_, ?_⟩); rotate_left; · rfl) | with_reducible refine wl_lent ?_ | with_reducible refine str_lit (by assumption) ?_)
/-! ### own + -/
theorem obj_add {k p m n b c : Nat} {o u : O6} {h : Hs} {Q : W → Hs → Prop} (P : Pool p h) (em : h[m]? = some (.ins 0 (fsO o))) (en : h[n]? = some (.ins 0 (fsO u))) (ga : G6 o b) (gb : G6 u c) (hb : b ≤ 100000) (hc : c ≤ 100000)
    (q : ∀ l g, Dn p h g → l ≠ p → h.length ≤ l → g[l]? = some (.ins 0 (fsO (o.add u))) → Q (.loc l) g) : wp (addW D.T (evFn D.T (k + 2)) .add (.loc m) (.loc n) h) Q := by
  have r1 := ga.r; have r2 := gb.r; have f1 := ga.f.2; have f2 := gb.f.2; have o1 := ga.o.2; have o2 := gb.o.2; have w1 := ga.w.2; have w2 := gb.w.2; have x1 := ga.x.2; have x2 := gb.x.2; have s1 := ga.s.2; have s2 := gb.s.2
  have e : addW D.T (evFn D.T (k + 2)) .add (.loc m) (.loc n) h = (evFn D.T (k + 2) 3 [.loc m, .loc n] h).quiet := by
    unfold addW
    simp only [em, en, if_pos]
    rfl
  rw [e]
  refine wp.quiet ?_
  refine wf (i := ⟨2, 14, b_Object___add__⟩) (env := [some (.loc m), some (.loc n), none, none, none, none, none, none, none, none, none, none, none, none]) rfl rfl rfl ?_
  unfold b_Object___add__
  repeat infer_instance
  refine att_o em rfl rfl rfl ?_
  repeat infer_instance
  refine we_lcT (p := p) (fun _ => true) (shD o.words.length) ?_
  repeat infer_instance
  refine att_o en rfl rfl rfl ?_
  repeat infer_instance
  refine ⟨u.defs.map defW, rfl, by rw [List.length_map]; show u.defs.length < 16777216; omega, P, fun w hw => ?_, fun m1 g1 N1 => ?_⟩
  · obtain ⟨x, hx, rfl⟩ := List.mem_map.mp hw
    refine ⟨_, rfl, fun g hg => wc_nil ⟨rfl, rfl, fun _ => ?_⟩⟩
    repeat infer_instance
    refine ⟨rfl, ?_⟩
    rw [List.length_map, Int.add_comm]
    rfl
  rw [map_true, map_shD] at N1
  repeat infer_instance
  refine we_lcT (p := p) (fun _ => true) (shO o.words.length) ?_
  repeat infer_instance
  refine att_o (N1.gr _ _ en) rfl rfl rfl ?_
  repeat infer_instance
  refine ⟨u.opn.map opnW, rfl, by rw [List.length_map]; show u.opn.length < 16777216; omega, N1.pool, fun w hw => ?_, fun m2 g2 N2 => ?_⟩
  · obtain ⟨x, hx, rfl⟩ := List.mem_map.mp hw
    refine ⟨_, rfl, fun g hg => wc_nil ⟨rfl, rfl, fun _ => ?_⟩⟩
    repeat infer_instance
    refine ⟨rfl, ?_⟩
    rw [List.length_map, Int.add_comm]
    rfl
  rw [map_true, map_shO] at N2
  repeat infer_instance
  refine we_lcT (p := p) (fun _ => true) (shO o.words.length) ?_
  repeat infer_instance
  refine att_o (N2.gr _ _ (N1.gr _ _ en)) rfl rfl rfl ?_
  repeat infer_instance
  refine ⟨u.sgn.map sgnW, rfl, by rw [List.length_map]; show u.sgn.length < 16777216; omega, N2.pool, fun w hw => ?_, fun m3 g3 N3 => ?_⟩
  · obtain ⟨x, hx, rfl⟩ := List.mem_map.mp hw
    refine ⟨_, rfl, fun g hg => wc_nil ⟨rfl, rfl, fun _ => ?_⟩⟩
    repeat infer_instance
    refine ⟨rfl, ?_⟩
    rw [List.length_map, Int.add_comm]
    rfl
  rw [map_true, map_shS] at N3
  have em3 := N3.gr _ _ (N2.gr _ _ (N1.gr _ _ em))
  have en3 := N3.gr _ _ (N2.gr _ _ (N1.gr _ _ en))
  have e1 := N3.gr _ _ (N2.gr _ _ N1.at_)
  have e2 := N3.gr _ _ N2.at_
  have e3 := N3.at_
  have fl := List.length_filter_le (fun x => !decide (x ∈ o.needs)) u.needs
  repeat infer_instance
  refine att_o em3 rfl rfl rfl ?_
  repeat infer_instance
  refine att_o en3 rfl rfl rfl ?_
  repeat infer_instance
  refine wb_addt (by simp only [List.length_map]; show _ ≤ 16777216; omega) ?_
  repeat infer_instance
  refine att_o em3 rfl rfl rfl ?_
  repeat infer_instance
  refine wl_tuple e1 ?_
  repeat infer_instance
  refine wb_addt (by simp only [List.length_map]; show _ ≤ 16777216; omega) ?_
  repeat infer_instance
  refine att_o em3 rfl rfl rfl ?_
  repeat infer_instance
  refine att_o en3 rfl rfl rfl ?_
  repeat infer_instance
  refine wb_addt (by simp only [List.length_map]; show _ ≤ 16777216; omega) ?_
  repeat infer_instance
  refine att_o em3 rfl rfl rfl ?_
  repeat infer_instance
  refine we_lcT (p := p) (notN o.needs) (fun w => w) ?_
  repeat infer_instance
  refine att_o en3 rfl rfl rfl ?_
  repeat infer_instance
  refine ⟨u.needs.map needW, rfl, by rw [List.length_map]; show u.needs.length < 16777216; omega, N3.pool, fun w hw => ?_, fun m4 g4 N4 => ?_⟩
  · obtain ⟨x, hx, rfl⟩ := List.mem_map.mp hw
    refine ⟨_, rfl, fun g hg => ?_⟩
    repeat infer_instance
    refine att_o (hg _ _ em3) rfl rfl rfl ?_
    refine ⟨_, notin_T (gb.w.1 x hx) ga.w.1, ?_⟩
    refine ⟨rfl, rfl, fun _ => ?_⟩
    repeat infer_instance
    exact ⟨rfl, rfl⟩
  rw [filt_needs] at N4
  have em4 := N4.gr _ _ em3
  have en4 := N4.gr _ _ en3
  have e4 := N4.at_
  repeat infer_instance
  refine wl_tuple e4 ?_
  repeat infer_instance
  refine wb_addt (by simp only [List.length_map]; show _ ≤ 16777216; omega) ?_
  repeat infer_instance
  refine att_o em4 rfl rfl rfl ?_
  repeat infer_instance
  refine wl_tuple (N4.gr _ _ e2) ?_
  repeat infer_instance
  refine wb_addt (by simp only [List.length_map]; show _ ≤ 16777216; omega) ?_
  repeat infer_instance
  refine att_o em4 rfl rfl rfl ?_
  repeat infer_instance
  refine wl_tuple (N4.gr _ _ e3) ?_
  repeat infer_instance
  refine wb_addt (by simp only [List.length_map]; show _ ≤ 16777216; omega) ?_
  repeat infer_instance
  simp only [← List.map_append]
  refine object_new (o := o.add u) N4.pool fun l g5 N5 => ?_
  have l1 := N1.kp.le; have l2 := N2.kp.le; have l3 := N3.kp.le; have l4 := N4.kp.le; have l5 := N5.fr
  exact q l g5 (N1.dn.trans (N2.dn.trans (N3.dn.trans (N4.dn.trans N5.dn)))) N5.ne (by omega) N5.at_
end K60
set_option Elab.async false
set_option linter.all false
set_option maxRecDepth 100000
set_option maxHeartbeats 1600000
namespace K60
open PySem PySem.Spec PyProof.Rows L2 Pc
local macro_rules
  | `(tactic| infer_instance) => `(tactic| first
    | with_reducible refine ws_set ?_ | with_reducible refine ws_ret ?_ | with_reducible refine ws_expr ?_ | ((with_reducible refine ws_if ?_); dsimp only [List.cons_append, List.nil_append]) | with_reducible refine ws_seti ?_ | with_reducible refine ws_seta ?_
    | with_reducible refine we_lit ?_ | with_reducible refine we_bin ?_ | with_reducible refine we_cmp ?_ | with_reducible refine we_and ?_ | with_reducible refine we_and2 ?_ | with_reducible refine we_and1 ?_ | with_reducible refine we_or ?_ | with_reducible refine we_or2 ?_
    | with_reducible refine we_or1 ?_ | with_reducible refine we_val ?_ | with_reducible refine we_not ?_ | with_reducible refine we_ite ?_ | with_reducible refine we_nil ?_ | with_reducible refine we_cons ?_ | with_reducible refine we_tup ?_ 
    | with_reducible refine we_ix ?_ | with_reducible refine we_slc ?_ | with_reducible refine wo_none ?_ | with_reducible refine wo_some ?_ | with_reducible refine we_att ?_ | with_reducible refine we_call ?_ | with_reducible refine we_new ?_ | with_reducible refine we_mth ?_
    | with_reducible refine we_blt ?_ | with_reducible refine we_bmt ?_ | with_reducible refine we_isi ?_ | with_reducible refine we_dct ?_ | with_reducible refine we_neg ?_ | with_reducible refine wt_cmp ?_ | with_reducible refine wt_isi ?_ | with_reducible refine wt_val ?_
    | with_reducible refine wt_not ?_ | with_reducible refine wt_and ?_ | with_reducible refine wt_or ?_ | with_reducible refine wt_and2 ?_ | with_reducible refine wt_or2 ?_ | with_reducible refine wt_and1 ?_ | with_reducible refine wt_or1 ?_ | with_reducible refine wc_nil ?_
    | with_reducible refine wc_one ?_ | with_reducible refine wb_add ?_ | with_reducible refine wb_sub ?_ | with_reducible refine wl_int ?_ | with_reducible refine wl_abs ?_ | with_reducible refine ex_int ?_ | with_reducible refine ex_bl ?_
    | ((with_reducible refine we_var (w := ?_) ?_ ?_); rotate_left; · rfl)
    | with_reducible refine ⟨_, cmp_eq_int, ?_⟩ | with_reducible refine ⟨_, cmp_ne_int, ?_⟩ | with_reducible refine ⟨_, cmp_lt_int, ?_⟩ | with_reducible refine ⟨_, cmp_gt_int, ?_⟩ | with_reducible refine ⟨_, cmp_le_int, ?_⟩ | with_reducible refine ⟨_, cmp_ge_int, ?_⟩ | with_reducible refine ⟨_, tru_bl, ?_⟩
    | ((with_reducible refine ⟨_, ix_lst (w := ?_) (by assumption) ?_, ?_⟩); rotate_left; · rfl)
    | ((with_reducible refine And.intro (a := _ ≤ lim) ?_ ?_); · exact Nat.le_of_ble_eq_true rfl)
    | with_reducible refine if_t ?_ | with_reducible refine if_f ?_
    | with_reducible refine wl_len (len_lst (by assumption)) ?_
    | ((with_reducible refine wb_mod ?_ ?_); · decide) | ((with_reducible refine wb_div ?_ ?_ ?_); (· decide); (· decide)) | ((with_reducible refine wb_mul2 ?_ ?_ ?_ ?_ ?_); rotate_left; (· omega); (· omega); (· omega); (· omega))
    | ((with_reducible refine ⟨_, ix_tup (w := ?_) ?_, ?_⟩); rotate_left; · rfl) | with_reducible refine wl_lent ?_ | with_reducible refine str_lit (by assumption) ?_)
/-! ### the law -/
theorem add_assoc6 (a b c : O6) : (a.add b).add c = a.add (b.add c) := by
  unfold O6.add
  simp only [List.length_append, List.append_assoc, List.map_append, List.filter_append, List.map_map, List.filter_filter, O6.mk.injEq]
  refine ⟨trivial, ?_, trivial, ?_, ?_, ?_⟩
  · congr 3
    funext x
    simp [Int.add_assoc, Int.add_comm, Int.add_left_comm]
  · congr 2
    apply List.filter_congr
    intro x _
    simp only [List.mem_append, List.mem_filter]
    by_cases h1 : x ∈ a.needs <;> by_cases h2 : x ∈ b.needs <;> simp [h1, h2]
  · congr 3
    funext x
    simp [Int.add_assoc, Int.add_comm, Int.add_left_comm]
  · congr 3
    funext x
    simp [Int.add_assoc, Int.add_comm, Int.add_left_comm]
theorem pool {k : Nat} {ns : List Int} {Q : W → Hs → Prop} (q : ∀ g, Pool 3 g → Q (.loc 3) g) : wp (evFn D.T (k + 1) 4 [.loc 0] [.frz (ns.map W.int)]) Q := by
  refine wf (i := ⟨1, 1, b__law_pool⟩) (env := [some (.loc 0)]) rfl rfl rfl ?_
  unfold b__law_pool
  repeat infer_instance
  have ec : cutG (ns.map W.int) none (some 63) = (cutG ns none (some 63)).map W.int := by
    unfold cutG
    rw [List.length_map, List.map_take, List.map_drop]
  have lc : (cutG ns none (some 63)).length ≤ 63 := by
    unfold cutG
    rw [List.length_take]
    have : HT.sIx ns.length ns.length (some 63) ≤ 63 := by
      unfold HT.sIx
      simp
      omega
    omega
  refine we_lst ?_
  repeat infer_instance
  refine wp.of (a := W.loc 1) (h := [.frz (ns.map W.int), .lst ((cutG ns none (some 63)).map W.int)]) (by rw [← ec]; rfl) ?_
  repeat infer_instance
  refine wp.of (a := W.loc 2) (h := [.frz (ns.map W.int), .lst ((cutG ns none (some 63)).map W.int), .lst ((cutG ns none (some 63)).map W.int)]) rfl ?_
  repeat infer_instance
  exact q _ ⟨2, 0, 0, 11, cutG ns none (some 63), rfl, rfl, by decide, lc⟩
theorem lt_at {h : Hs} {n : Nat} {o : Ob} (e : h[n]? = some o) : n < h.length := (List.getElem?_eq_some_iff.mp e).1
/-- the second half -/
theorem law2 {x y z u : Option W} {g : Hs} {d : Nat} {o1 o2 o3 : O6} (P : Pool 3 g) (hd : d ≠ 3) (e : g[d]? = some (.lst [o1.toW, o2.toW, o3.toW])) (H1 : G6 o1 400) (H2 : G6 o2 400) (H3 : G6 o3 400) :
    wp (evSs D.T (evFn D.T 23) (b_law.drop 6) [some (.loc 0), some (.loc 3), x, y, some (.loc d), none, none, none, none, none, none, z, u] g) fun fl h1 => match fl with
      | .rt w => w = .bl true
      | .nx _ => W.non = .bl true
      | _ => False := by
  unfold b_law
  dsimp only [List.drop]
  have H12 := H1.add H2
  have H23 := H2.add H3
  have H22 := H2.add H2
  have HF := H12.add H3
  repeat infer_instance
  refine object P fun n1 g1 N1 => ?_
  have e1 := N1.gr _ _ e
  have a1 := N1.at_
  have i1 := N1.ne
  repeat infer_instance
  refine object N1.pool fun n2 g2 N2 => ?_
  have e2 := N2.gr _ _ e1
  have a2 := N2.gr _ _ a1
  have b2 := N2.at_
  have i2 := N2.ne
  repeat infer_instance
  refine object N2.pool fun n3 g3 N3 => ?_
  have e3 := N3.gr _ _ e2
  have a3 := N3.gr _ _ a2
  have b3 := N3.gr _ _ b2
  have c3 := N3.at_
  have i3 := N3.ne
  repeat infer_instance
  refine sum N3.pool H1 H2 (by decide) (by decide) fun g4 D4 => ?_
  have e4 := D4.kp.at_ _ _ hd e3
  have a4 := D4.kp.at_ _ _ i1 a3
  have b4 := D4.kp.at_ _ _ i2 b3
  have c4 := D4.kp.at_ _ _ i3 c3
  repeat infer_instance
  refine sum D4.pool H12 H3 (by decide) (by decide) fun g5 D5 => ?_
  have e5 := D5.kp.at_ _ _ hd e4
  have a5 := D5.kp.at_ _ _ i1 a4
  have b5 := D5.kp.at_ _ _ i2 b4
  have c5 := D5.kp.at_ _ _ i3 c4
  repeat infer_instance
  refine obj_add D5.pool a5 b5 H1 H2 (by decide) (by decide) fun n6 g6 D6 i6 _ d6 => ?_
  have e6 := D6.kp.at_ _ _ hd e5
  have a6 := D6.kp.at_ _ _ i1 a5
  have b6 := D6.kp.at_ _ _ i2 b5
  have c6 := D6.kp.at_ _ _ i3 c5
  repeat infer_instance
  refine is_ d6 H12 (by decide) ?_
  repeat infer_instance
  refine if_nt ?_
  repeat infer_instance
  refine obj_add D6.pool d6 c6 H12 H3 (by decide) (by decide) fun n7 g7 D7 i7 _ d7 => ?_
  have e7 := D7.kp.at_ _ _ hd e6
  have a7 := D7.kp.at_ _ _ i1 a6
  have b7 := D7.kp.at_ _ _ i2 b6
  have c7 := D7.kp.at_ _ _ i3 c6
  have s7 := D7.kp.at_ _ _ i6 d6
  repeat infer_instance
  refine is_ d7 HF (by decide) ?_
  repeat infer_instance
  refine if_nt ?_
  repeat infer_instance
  refine obj_add D7.pool b7 c7 H2 H3 (by decide) (by decide) fun n8 g8 D8 i8 _ d8 => ?_
  have e8 := D8.kp.at_ _ _ hd e7
  have a8 := D8.kp.at_ _ _ i1 a7
  have b8 := D8.kp.at_ _ _ i2 b7
  have c8 := D8.kp.at_ _ _ i3 c7
  have s8 := D8.kp.at_ _ _ i6 s7
  repeat infer_instance
  refine sum D8.pool H2 H3 (by decide) (by decide) fun g9 D9 => ?_
  have e9 := D9.kp.at_ _ _ hd e8
  have a9 := D9.kp.at_ _ _ i1 a8
  have b9 := D9.kp.at_ _ _ i2 b8
  have c9 := D9.kp.at_ _ _ i3 c8
  have s9 := D9.kp.at_ _ _ i6 s8
  repeat infer_instance
  refine is_ (D9.kp.at_ _ _ i8 d8) H23 (by decide) ?_
  repeat infer_instance
  refine if_nt ?_
  repeat infer_instance
  refine obj_add D9.pool b9 c9 H2 H3 (by decide) (by decide) fun n10 g10 D10 i10 _ d10 => ?_
  have e10 := D10.kp.at_ _ _ hd e9
  have a10 := D10.kp.at_ _ _ i1 a9
  have b10 := D10.kp.at_ _ _ i2 b9
  have c10 := D10.kp.at_ _ _ i3 c9
  have s10 := D10.kp.at_ _ _ i6 s9
  repeat infer_instance
  refine obj_add D10.pool a10 d10 H1 H23 (by decide) (by decide) fun n11 g11 D11 i11 _ d11 => ?_
  have e11 := D11.kp.at_ _ _ hd e10
  have a11 := D11.kp.at_ _ _ i1 a10
  have b11 := D11.kp.at_ _ _ i2 b10
  have c11 := D11.kp.at_ _ _ i3 c10
  have s11 := D11.kp.at_ _ _ i6 s10
  rw [← add_assoc6] at d11
  repeat infer_instance
  refine is_ d11 HF (by decide) ?_
  repeat infer_instance
  refine if_nt ?_
  repeat infer_instance
  refine obj_add D11.pool b11 b11 H2 H2 (by decide) (by decide) fun n12 g12 D12 i12 _ d12 => ?_
  have e12 := D12.kp.at_ _ _ hd e11
  have a12 := D12.kp.at_ _ _ i1 a11
  have b12 := D12.kp.at_ _ _ i2 b11
  have c12 := D12.kp.at_ _ _ i3 c11
  have s12 := D12.kp.at_ _ _ i6 s11
  repeat infer_instance
  refine sum D12.pool H2 H2 (by decide) (by decide) fun g13 D13 => ?_
  have e13 := D13.kp.at_ _ _ hd e12
  have a13 := D13.kp.at_ _ _ i1 a12
  have b13 := D13.kp.at_ _ _ i2 b12
  have c13 := D13.kp.at_ _ _ i3 c12
  have s13 := D13.kp.at_ _ _ i6 s12
  repeat infer_instance
  refine is_ (D13.kp.at_ _ _ i12 d12) H22 (by decide) ?_
  repeat infer_instance
  refine if_nt ?_
  repeat infer_instance
  refine is_ s13 H12 (by decide) ?_
  repeat infer_instance
  refine if_nt ?_
  repeat infer_instance
  refine obj_add D13.pool a13 b13 H1 H2 (by decide) (by decide) fun n14 g14 D14 i14 _ d14 => ?_
  have e14 := D14.kp.at_ _ _ hd e13
  have a14 := D14.kp.at_ _ _ i1 a13
  have b14 := D14.kp.at_ _ _ i2 b13
  have c14 := D14.kp.at_ _ _ i3 c13
  repeat infer_instance
  refine is_ d14 H12 (by decide) ?_
  repeat infer_instance
  refine if_nt ?_
  repeat infer_instance
  refine is_ a14 H1 (by decide) ?_
  repeat infer_instance
  refine is_ b14 H2 (by decide) ?_
  repeat infer_instance
  refine is_ c14 H3 (by decide) ?_
  rfl
theorem law_wp (ns : List Int) : wp (evFn D.T 24 27 [.loc 0] [.frz (ns.map W.int)]) fun w _ => w = .bl true := by
  refine wf (i := ⟨1, 13, b_law⟩) (env := [some (.loc 0), none, none, none, none, none, none, none, none, none, none, none, none]) rfl rfl rfl ?_
  unfold b_law
  repeat infer_instance
  refine pool fun h0 P0 => ?_
  have l0 := P0.lt
  repeat infer_instance
  refine table P0 fun tb h1 D1 ht e1 => ?_
  repeat infer_instance
  refine we_lc0 ?_
  repeat infer_instance
  refine ⟨.items [.int 0, .int 1, .int 2], rfl, ?_⟩
  have P1 := D1.pool
  have lh1 := P1.lt
  have Na : Nw 3 h1.length (.lst []) h1 (h1 ++ [.lst []]) := P1.nw
  have ltb := lt_at e1
  have eb := Na.gr _ _ e1
  have lx : (h1 ++ [Ob.lst []]).length = h1.length + 1 := by simp
  refine loop3 ?_
  refine lc_one (acc := []) rfl ?_
  repeat infer_instance
  refine thing Na.pool ht eb fun t1 c1 g1 D2 d1 A1 G1 => ?_
  have s1 := lt_at A1.s
  have p1 := A1.pd; have p2 := A1.o1; have p3 := A1.o2; have p4 := A1.o3; have p5 := A1.o4; have p6 := A1.o5; have p7 := A1.o6
  refine ⟨D2.kp.at_ _ _ (by omega) Na.at_, Nat.le_of_ble_eq_true rfl, fun g2 eg2 k2 => ⟨rfl, ?_⟩⟩
  have P2 := D2.pool.touch k2 (by omega)
  have eb2 := k2.at_ _ _ (by omega) (D2.kp.at_ _ _ ht eb)
  have A2 := A1.frame (Kp.frn (p := 3) (a := h1.length) (b := h1.length) k2 (Nat.le_refl _) (Nat.le_refl _)) rfl (.inl (by omega))
  have s2 := lt_at A2.s
  refine lc_one (acc := [.loc t1.d]) rfl ?_
  repeat infer_instance
  refine thing P2 ht eb2 fun u1 x1 g3 D3 d2 B1 K1 => ?_
  have v1 := B1.pd; have v2 := B1.o1; have v3 := B1.o2; have v4 := B1.o3; have v5 := B1.o4; have v6 := B1.o5; have v7 := B1.o6
  refine ⟨D3.kp.at_ _ _ (by omega) eg2, Nat.le_of_ble_eq_true rfl, fun g4 eg4 k4 => ⟨rfl, ?_⟩⟩
  have P3 := D3.pool.touch k4 (by omega)
  have eb3 := k4.at_ _ _ (by omega) (D3.kp.at_ _ _ ht eb2)
  have A3 := (A2.kp D3.kp).frame (Kp.frn (p := 3) (a := h1.length) (b := h1.length) k4 (Nat.le_refl _) (Nat.le_refl _)) rfl (.inl (by omega))
  have B3 := B1.frame (Kp.frn (p := 3) (a := h1.length) (b := h1.length) k4 (Nat.le_refl _) (Nat.le_refl _)) rfl (.inl (by omega))
  have s3 := lt_at B3.s
  refine lc_one (acc := [.loc t1.d, .loc u1.d]) rfl ?_
  repeat infer_instance
  refine thing P3 ht eb3 fun r1 y1 g5 D5 d3 C1 J1 => ?_
  have w1 := C1.pd; have w2 := C1.o1; have w3 := C1.o2; have w4 := C1.o3; have w5 := C1.o4; have w6 := C1.o5; have w7 := C1.o6
  refine ⟨D5.kp.at_ _ _ (by omega) eg4, Nat.le_of_ble_eq_true rfl, fun g6 eg6 k6 => ⟨rfl, ?_⟩⟩
  have P4 := D5.pool.touch k6 (by omega)
  have eb4 := k6.at_ _ _ (by omega) (D5.kp.at_ _ _ ht eb3)
  have A4 := (A3.kp D5.kp).frame (Kp.frn (p := 3) (a := h1.length) (b := h1.length) k6 (Nat.le_refl _) (Nat.le_refl _)) rfl (.inl (by omega))
  have B4 := (B3.kp D5.kp).frame (Kp.frn (p := 3) (a := h1.length) (b := h1.length) k6 (Nat.le_refl _) (Nat.le_refl _)) rfl (.inl (by omega))
  have C4 := C1.frame (Kp.frn (p := 3) (a := h1.length) (b := h1.length) k6 (Nat.le_refl _) (Nat.le_refl _)) rfl (.inl (by omega))
  have s4 := lt_at C4.s
  have eg7 : g6[h1.length]? = some (.lst [.loc t1.d, .loc u1.d, .loc r1.d]) := eg6
  generalize hL : h1.length = L at eg7 lx d1
  -- needs of the first one in the second one
  have w1a := A4.w
  repeat infer_instance
  refine ⟨_, A4.key rfl, ?_⟩
  repeat infer_instance
  refine wl_list P4 (ws := c1.wants.map needW) (by unfold itemsW; simp only [A4.w]) fun n1 q1 N1 => ?_
  have l1 := N1.fr
  have tw := lt_at A4.w
  repeat infer_instance
  refine like_needs (t := u1) (os := c1.wants) N1.pool (B4.nw N1) K1 N1.ne (.inr (by omega)) N1.at_ G1.w.1 (by have := G1.w.2; omega) (by decide) fun x2 g7 T7 K2 => ?_
  have A7 := (A4.nw N1).frame T7.fr rfl (.inr (by omega))
  have C7 := (C4.nw N1).frame T7.fr rfl (.inl (by omega))
  have eb7 := T7.fr.at_ _ _ ht (by omega) (N1.gr _ _ eb4)
  have eg8 := T7.fr.at_ _ _ (by omega) (by omega) (N1.gr _ _ eg7)
  have K2' : Gd x2 200 := K2.mono (by have := G1.w.2; omega)
  repeat infer_instance
  refine ⟨_, A7.key rfl, ?_⟩
  repeat infer_instance
  refine ⟨_, T7.at_.key rfl, ?_⟩
  repeat infer_instance
  have lw1 := G1.w.2
  have lw2 := K2'.w.2
  refine wb_addl T7.pool A7.w T7.at_.w (by simp only [List.length_map]; show _ ≤ 16777216; omega) fun n2 q2 N2 => ?_
  rw [← List.map_append] at N2
  have l2 := N2.fr
  have s7 := lt_at C7.s
  have lle := T7.fr.le
  repeat infer_instance
  refine like_needs (t := r1) (os := c1.wants ++ x2.wants) N2.pool (C7.nw N2) J1 N2.ne (.inr (by omega)) N2.at_ (fun x hx => (List.mem_append.mp hx).elim (G1.w.1 x) (K2'.w.1 x)) (by rw [List.length_append]; omega) (by decide) fun y2 g8 T8 J2 => ?_
  have A8 := (A7.nw N2).frame T8.fr rfl (.inr (by omega))
  have B8 := (T7.at_.nw N2).frame T8.fr rfl (.inr (by omega))
  have C8 := T8.at_
  have eb8 := T8.fr.at_ _ _ ht (by omega) (N2.gr _ _ eb7)
  have eg9 := T8.fr.at_ _ _ (by omega) (by omega) (N2.gr _ _ eg8)
  have G1' : Gd c1 400 := G1.mono (by decide)
  have K3 : Gd x2 400 := K2'.mono (by decide)
  have J3 : Gd y2 400 := J2.mono (by rw [List.length_append]; omega)
  have P8 := T8.pool
  repeat infer_instance
  refine we_lc0 ?_
  repeat infer_instance
  refine ⟨.live L 3, by simp only [srcW, eg9]; rfl, ?_⟩
  have Nb : Nw 3 g8.length (.lst []) g8 (g8 ++ [.lst []]) := P8.nw
  generalize hM : g8.length = M at Nb
  have lL := lt_at eg9
  have ltb8 := lt_at eb8
  have lM := Nb.fr
  have sA := lt_at A8.s; have sB := lt_at B8.s; have sC := lt_at C8.s
  have kM := @Kp.frn 3 M M
  refine loop3L (Nb.gr _ _ eg9) ?_
  refine lc_one (acc := []) rfl ?_
  repeat infer_instance
  refine parts_of Nb.pool ht (Nb.gr _ _ eb8) (A8.nw Nb) G1' (by decide) fun o1 g9 D9 H1 => ?_
  refine ⟨D9.kp.at_ _ _ (by omega) Nb.at_, Nat.le_of_ble_eq_true rfl, fun g10 e10 k10 => ⟨rfl, ?_⟩⟩
  have P10 := D9.pool.touch k10 (by omega)
  have eb10 := k10.at_ _ _ (by omega) (D9.kp.at_ _ _ ht (Nb.gr _ _ eb8))
  have eg10 := k10.at_ _ _ (by omega) (D9.kp.at_ _ _ (by omega) (Nb.gr _ _ eg9))
  have B10 := ((B8.nw Nb).kp D9.kp).frame (kM k10 (Nat.le_refl _) (Nat.le_refl _)) rfl (.inr (by omega))
  have C10 := ((C8.nw Nb).kp D9.kp).frame (kM k10 (Nat.le_refl _) (Nat.le_refl _)) rfl (.inr (by omega))
  refine ⟨eg10, ?_⟩
  refine lc_one (acc := [o1.toW]) rfl ?_
  repeat infer_instance
  refine parts_of P10 ht eb10 B10 K3 (by decide) fun o2 g11 D11 H2 => ?_
  refine ⟨D11.kp.at_ _ _ (by omega) e10, Nat.le_of_ble_eq_true rfl, fun g12 e12 k12 => ⟨rfl, ?_⟩⟩
  have P12 := D11.pool.touch k12 (by omega)
  have eb12 := k12.at_ _ _ (by omega) (D11.kp.at_ _ _ ht eb10)
  have eg12 := k12.at_ _ _ (by omega) (D11.kp.at_ _ _ (by omega) eg10)
  have C12 := (C10.kp D11.kp).frame (kM k12 (Nat.le_refl _) (Nat.le_refl _)) rfl (.inr (by omega))
  refine ⟨eg12, ?_⟩
  refine lc_one (acc := [o1.toW, o2.toW]) rfl ?_
  repeat infer_instance
  refine parts_of P12 ht eb12 C12 J3 (by decide) fun o3 g13 D13 H3 => ?_
  refine ⟨D13.kp.at_ _ _ (by omega) e12, Nat.le_of_ble_eq_true rfl, fun g14 e14 k14 => ⟨rfl, ?_⟩⟩
  have P14 := D13.pool.touch k14 (by omega)
  have eg14 := k14.at_ _ _ (by omega) (D13.kp.at_ _ _ (by omega) eg12)
  refine ⟨eg14, ?_⟩
  exact law2 P14 (by omega) e14 H1 H2 H3
end K60
set_option Elab.async false
set_option linter.all false
set_option maxRecDepth 100000
set_option maxHeartbeats 0
namespace K60
open PySem PySem.Spec PyProof.Rows L2 Pc
abbrev Ro : PySem.W.OpenRow := PySem.W.OpenLaw.row PySem.Challenge.rw_sameruns_k60_join_brackets
abbrev hk : PySem.W.Hook := hookP 5 pg
theorem run (w : World) : HandSHeadRun.RunEq Ro (PySem.W.view Ro.prog [lawAt]) hk (obT 5 pg) 1500 looseN w := by
  intro os
  kernel_rfl
end K60
open PySem PySem.W PySem.Calls PyProof.Rows
theorem k60_of (ev : ∀ ns : List Int, ns.length ≤ 63 → ∃ h', Pc.evFn K60.D.T 24 K60.lawF [.loc 0] [.frz (ns.map Pc.W.int)] = .ok (.bl true) h') : PySem.Challenge.rw_sameruns_k60_join_brackets.Holds := by
  w_on; o_law
  refine HandSHeadRun.head_any (r := OpenLaw.row PySem.Challenge.rw_sameruns_k60_join_brackets) (q := view (OpenLaw.row PySem.Challenge.rw_sameruns_k60_join_brackets).prog [K60.lawAt]) (H := K60.hk) (ob := Pc.obT 5 K60.pg) (M := 1500) (loose := K60.looseN) (d := HandSHeadRun.topDef (OpenLaw.row PySem.Challenge.rw_sameruns_k60_join_brackets).prog K60.lawAt) (kwd := []) Pc.obT_eq
    (by kernel_rfl) (fun s => by kernel_rfl) K60.run (by kernel_rfl) (by kernel_rfl) (by kernel_rfl) (by rfl) (by first | assumption | decide +kernel) (by decide +kernel) ⟨rfl, rfl, rfl, rfl, rfl, by decide +kernel⟩ ?hw ?hc
  case hw => w_witness2
  case hc =>
    refine L2.walk_ofE (l := PySem.Challenge.rw_sameruns_k60_join_brackets) (n := 63) (k := 48) (x := "_law_script") (CX := fun _ _ _ _ _ _ => False) rfl (by decide) (by kernel_rfl) ⟨rfl, by decide, by decide⟩ ?F (fun _ _ _ _ z => z)
    case F =>
      intro w mg fa h Y G hmg0
      have hmg : mg ("law" : PySem.Str) = some (.ref fa) := by
        have e : (HandSHeadRun.topDef (OpenLaw.row PySem.Challenge.rw_sameruns_k60_join_brackets).prog K60.lawAt).name = ("law" : PySem.Str) := by kernel_rfl
        rw [← e]
        exact hmg0
      exact Pc.law_F (k := 24) (g := K60.pg) (fl := K60.lawF) K60.law_at K60.law_ps K60.an_nd K60.law_nm K60.fits ev Y G hmg
set_option maxRecDepth 100000 in
set_option maxHeartbeats 8000000 in
theorem PySem.Challenge.cw_sameruns_k60_join_brackets_holds : PySem.Challenge.rw_sameruns_k60_join_brackets.Holds := by
  refine k60_of fun ns _ => ?_
  obtain ⟨a, h, e, q⟩ := K60.law_wp ns
  exact ⟨h, by rw [← q]; exact e⟩
