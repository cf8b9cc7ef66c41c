import PyProof.Rows.All
import Wide.All
import OpenK.AllK
import Wide.FinOn
import HandS.ForMost
import HandS.HeadHook4
import HandS.TupAny
import HandS.IsInst
import HandS.Style
import HandS.Conv
import HandS.Strs
import HandS.Deep
import HandS.SortRule
import HandS.TupLe
import PyProof.P3In
import HandS.DictTup
import PySem.Challenge.RW_stagebelt_k02_whole_entries
import KE.KDictPairs
import KE.KStateDown
import HandS.Head0
import HandS.Head1
import HandS.Head2
import HandS.HeadEnd
set_option Elab.async false
set_option linter.all false
set_option maxRecDepth 100000
set_option maxHeartbeats 0
/-! data: what a value reads as -/
namespace SB
open PySem PySem.Spec PyProof.Rows L2

/-- data: a list, a tuple, a tuple of the module's top, a dict by its pairs -/
inductive Dt where
  | non | bl (b : Bool) | int (i : Int) | str (x : Str)
  | ty (n : String) | lst (ds : List Dt) | tup (ds : List Dt) | ktup (ds : List Dt) | tab (kvs : List (List Key × V))

/-! ### constants of the top -/
mutual
def kdB (K : PySem.W.Frag) : Dt → Value → Bool
  | .int i, u => (match u with | .int j _ => decide (i = j) | _ => false)
  | .str x, u => (match u with | .str y _ => decide (x = y) | _ => false)
  | .ktup ds, u => (match u with
    | .ref a => (match K.lookup a with
      | some ⟨.type c, none, .seq its _, _⟩ => decide (c = "tuple") && (decide (its.size ≤ sizeLine) && kdBs K ds its.toList)
      | _ => false)
    | _ => false)
  | .non, _ => false
  | .ty _, _ => false
  | .bl _, _ => false
  | .lst _, _ => false
  | .tup _, _ => false
  | .tab _, _ => false
def kdBs (K : PySem.W.Frag) : List Dt → List Value → Bool
  | [], us => (match us with | [] => true | _ => false)
  | d :: ds, us => (match us with | u :: us => kdB K d u && kdBs K ds us | [] => false)
end
def cs (l : List Str) : Dt := .ktup (l.map Dt.str)
def kWRITING : Dt := cs ["set", "sum", "mul", "load"]
def kEFFECTS : Dt := cs ["set", "sum", "mul", "load", "store", "out"]
def kUSERS : Dt := .ktup [cs ["sum", "a"], cs ["mul", "a"], cs ["load", "a"], cs ["store", "a"], cs ["store", "b"], cs ["zero", "a"], cs ["out", "a"]]
def kNAMES : Dt := .ktup [cs ["set", "made", "written"], cs ["sum", "used", "made", "written"], cs ["mul", "used", "made", "written"], cs ["load", "used", "fetched", "written"], cs ["store", "used a", "used b", "put"], cs ["zero", "used", "decided"], cs ["go", "decided"], cs ["out", "used", "shown"]]
def gloB (K : PySem.W.Frag) (x : Str) (d : Dt) : Bool := kdB K d (.ref (He.ga K x))
end SB
/-! data judgements over the readings: an expression's reading gives a value that reads as a datum, whatever the heap -/
namespace SB
open PySem PySem.Spec PyProof.Rows L2

/-! ### what a value reads as -/
/-- a tuple of the written part -/
def KTup (K : PySem.W.Frag) (a : Addr) (xs : List V) : Prop := ∃ (o : Obj) (its : Array Value) (n : Nat), K.lookup a = some o ∧ o.cls = .type "tuple" ∧ o.dict = none ∧ o.data = .seq its n ∧ its.size ≤ sizeLine ∧ Vals xs its.toList
theorem KTup.sq {K : PySem.W.Frag} {a : Addr} {xs : List V} (h : KTup K a xs) (H : Hp) : SqT K H a xs := by
  obtain ⟨o, its, n, h1, h2, _, h4, h5, h6⟩ := h
  exact .inr ⟨o, its, n, h1, h2, h4, h5, h6⟩
mutual
inductive Rp (K : PySem.W.Frag) (H : Hp) : V → Dt → Prop
  | non : Rp K H .non .non
  | bl (b : Bool) : Rp K H (.bl b) (.bl b)
  | int (i : Int) : Rp K H (.int i) (.int i)
  | str (x : Str) : Rp K H (.str x) (.str x)
  | ty (n : String) : Rp K H (.ty n) (.ty n)
  | lst {a : Addr} {xs : List V} {ds : List Dt} : H a = some (.lst xs) → Rps K H xs ds → Rp K H (.ref a) (.lst ds)
  | tup {a : Addr} {xs : List V} {ds : List Dt} : H a = some (.tup xs) → Rps K H xs ds → Rp K H (.ref a) (.tup ds)
  | ktup {a : Addr} {xs : List V} {ds : List Dt} : KTup K a xs → Rps K H xs ds → Rp K H (.ref a) (.ktup ds)
  | tab {a : Addr} {kvs : List (List Key × V)} : H a = some (.dT kvs) → Rp K H (.ref a) (.tab kvs)
inductive Rps (K : PySem.W.Frag) (H : Hp) : List V → List Dt → Prop
  | nil : Rps K H [] []
  | cons {v : V} {vs : List V} {d : Dt} {ds : List Dt} : Rp K H v d → Rps K H vs ds → Rps K H (v :: vs) (d :: ds)
end

section
variable {K : PySem.W.Frag} {H H' : Hp}
theorem Rps.length : ∀ {vs : List V} {ds : List Dt}, Rps K H vs ds → vs.length = ds.length
  | _, _, .nil => rfl
  | _, _, .cons _ t => congrArg Nat.succ (Rps.length t)
theorem Rps.get : ∀ {vs : List V} {ds : List Dt} {i : Nat} {d : Dt}, Rps K H vs ds → ds[i]? = some d → ∃ v, vs[i]? = some v ∧ Rp K H v d
  | _, _, _, _, .nil, e => by simp at e
  | _, _, 0, _, .cons r _, e => by simp at e; subst e; exact ⟨_, rfl, r⟩
  | _, _, i + 1, d, .cons _ t, e => by
    obtain ⟨v, h1, h2⟩ := Rps.get (i := i) (d := d) t (by simpa using e)
    exact ⟨v, by simpa using h1, h2⟩
theorem Rps.get' : ∀ {vs : List V} {ds : List Dt} {i : Nat} {v : V}, Rps K H vs ds → vs[i]? = some v → ∃ d, ds[i]? = some d ∧ Rp K H v d
  | _, _, _, _, .nil, e => by simp at e
  | _, _, 0, _, .cons r _, e => by simp at e; subst e; exact ⟨_, rfl, r⟩
  | _, _, i + 1, v, .cons _ t, e => by
    obtain ⟨d, h1, h2⟩ := Rps.get' (i := i) (v := v) t (by simpa using e)
    exact ⟨d, by simpa using h1, h2⟩
theorem Rps.append : ∀ {xs ys : List V} {ds es : List Dt}, Rps K H xs ds → Rps K H ys es → Rps K H (xs ++ ys) (ds ++ es)
  | _, _, _, _, .nil, s => s
  | _, _, _, _, .cons r t, s => .cons r (Rps.append t s)
theorem Rps.take : ∀ {xs : List V} {ds : List Dt} (n : Nat), Rps K H xs ds → Rps K H (xs.take n) (ds.take n)
  | _, _, 0, _ => .nil
  | _, _, _ + 1, .nil => .nil
  | _, _, n + 1, .cons r t => .cons r (Rps.take n t)
theorem Rps.drop : ∀ {xs : List V} {ds : List Dt} (n : Nat), Rps K H xs ds → Rps K H (xs.drop n) (ds.drop n)
  | _, _, 0, r => r
  | _, _, _ + 1, .nil => .nil
  | _, _, n + 1, .cons _ t => Rps.drop n t
theorem Rps.one {v : V} {d : Dt} (r : Rp K H v d) : Rps K H [v] [d] := .cons r .nil
theorem Rps.snoc {xs : List V} {ds : List Dt} {v : V} {d : Dt} (t : Rps K H xs ds) (r : Rp K H v d) : Rps K H (xs ++ [v]) (ds ++ [d]) := t.append (.one r)
/-- from place to place -/
theorem Rps.of : ∀ {vs : List V} {ds : List Dt}, vs.length = ds.length → (∀ (i : Nat) (v : V) (d : Dt), vs[i]? = some v → ds[i]? = some d → Rp K H v d) → Rps K H vs ds
  | [], [], _, _ => .nil
  | [], _ :: _, e, _ => by simp at e
  | _ :: _, [], e, _ => by simp at e
  | v :: vs, d :: ds, e, h => .cons (h 0 v d rfl rfl) (Rps.of (by simpa using e) fun i v d e1 e2 => h (i + 1) v d (by simpa using e1) (by simpa using e2))

/-! inversion -/
theorem Rp.int_of {v : V} {i : Int} (r : Rp K H v (.int i)) : v = .int i := by cases r; rfl
theorem Rp.str_of {v : V} {x : Str} (r : Rp K H v (.str x)) : v = .str x := by cases r; rfl
theorem Rp.bl_of {v : V} {b : Bool} (r : Rp K H v (.bl b)) : v = .bl b := by cases r; rfl
theorem Rp.ty_of {v : V} {n : String} (r : Rp K H v (.ty n)) : v = .ty n := by cases r; rfl
theorem Rp.lst_of {v : V} {ds : List Dt} (r : Rp K H v (.lst ds)) : ∃ a xs, v = .ref a ∧ H a = some (.lst xs) ∧ Rps K H xs ds := by cases r with | lst h t => exact ⟨_, _, rfl, h, t⟩
theorem Rp.tup_of {v : V} {ds : List Dt} (r : Rp K H v (.tup ds)) : ∃ a xs, v = .ref a ∧ H a = some (.tup xs) ∧ Rps K H xs ds := by cases r with | tup h t => exact ⟨_, _, rfl, h, t⟩
theorem Rp.ktup_of {v : V} {ds : List Dt} (r : Rp K H v (.ktup ds)) : ∃ a xs, v = .ref a ∧ KTup K a xs ∧ Rps K H xs ds := by cases r with | ktup h t => exact ⟨_, _, rfl, h, t⟩
theorem Rp.tab_of {v : V} {kvs : List (List Key × V)} (r : Rp K H v (.tab kvs)) : ∃ a, v = .ref a ∧ H a = some (.dT kvs) := by cases r with | tab h => exact ⟨_, rfl, h⟩

/-! what is kept -/
mutual
theorem Rp.mono (s : Same H H') : ∀ (d : Dt) (v : V), Rp K H v d → Rp K H' v d
  | .non, _, r => by cases r; exact .non
  | .bl _, _, r => by cases r; exact .bl _
  | .int _, _, r => by cases r; exact .int _
  | .str _, _, r => by cases r; exact .str _
  | .ty _, _, r => by cases r; exact .ty _
  | .lst ds, _, r => by cases r with | lst h t => exact .lst (s _ _ h) (Rps.mono s ds _ t)
  | .tup ds, _, r => by cases r with | tup h t => exact .tup (s _ _ h) (Rps.mono s ds _ t)
  | .ktup ds, _, r => by cases r with | ktup h t => exact .ktup h (Rps.mono s ds _ t)
  | .tab _, _, r => by cases r with | tab h => exact .tab (s _ _ h)
theorem Rps.mono (s : Same H H') : ∀ (ds : List Dt) (vs : List V), Rps K H vs ds → Rps K H' vs ds
  | [], _, r => by cases r; exact .nil
  | d :: ds, _, r => by cases r with | cons a t => exact .cons (Rp.mono s d _ a) (Rps.mono s ds _ t)
end
mutual
/-- no list, no dict within -/
def flatD : Dt → Bool
  | .lst _ => false
  | .tab _ => false
  | .tup ds => flatDs ds
  | .ktup ds => flatDs ds
  | .non => true
  | .bl _ => true
  | .int _ => true
  | .str _ => true
  | .ty _ => true
def flatDs : List Dt → Bool
  | [] => true
  | d :: ds => flatD d && flatDs ds
end
/-- tuples are kept -/
def Tups (H H' : Hp) : Prop := ∀ a xs, H a = some (.tup xs) → H' a = some (.tup xs)
theorem Same.tups (s : Same H H') : Tups H H' := fun a xs e => s a _ e
theorem Tups.trans {H1 H2 : Hp} (a : Tups H H1) (b : Tups H1 H2) : Tups H H2 := fun c o h => b c o (a c o h)
theorem tups_upd {a : Addr} {o : HO} (h : ∀ xs, H a ≠ some (.tup xs)) : Tups H (upd H a o) := fun b xs e => by
  have ne : b ≠ a := fun q => by
    rw [q] at e
    exact h xs e
  rw [upd_ne ne]
  exact e
mutual
theorem Rp.kept (s : Tups H H') : ∀ (d : Dt) (v : V), flatD d = true → Rp K H v d → Rp K H' v d
  | .non, _, _, r => by cases r; exact .non
  | .bl _, _, _, r => by cases r; exact .bl _
  | .int _, _, _, r => by cases r; exact .int _
  | .str _, _, _, r => by cases r; exact .str _
  | .ty _, _, _, r => by cases r; exact .ty _
  | .lst ds, _, f, _ => by simp [flatD] at f
  | .tup ds, _, f, r => by cases r with | tup h t => exact .tup (s _ _ h) (Rps.kept s ds _ (by simpa [flatD] using f) t)
  | .ktup ds, _, f, r => by cases r with | ktup h t => exact .ktup h (Rps.kept s ds _ (by simpa [flatD] using f) t)
  | .tab _, _, f, _ => by simp [flatD] at f
theorem Rps.kept (s : Tups H H') : ∀ (ds : List Dt) (vs : List V), flatDs ds = true → Rps K H vs ds → Rps K H' vs ds
  | [], _, _, r => by cases r; exact .nil
  | d :: ds, _, f, r => by
    simp only [flatDs, Bool.and_eq_true] at f
    cases r with | cons a t => exact .cons (Rp.kept s d _ f.1 a) (Rps.kept s ds _ f.2 t)
end
theorem flatDs_all : ∀ {ds : List Dt}, (∀ d ∈ ds, flatD d = true) → flatDs ds = true
  | [], _ => rfl
  | d :: ds, h => by
    simp only [flatDs, Bool.and_eq_true]
    exact ⟨h d (List.mem_cons_self ..), flatDs_all fun e he => h e (List.mem_cons_of_mem _ he)⟩
theorem same_upd {p : Addr} {o : HO} (h : H p = none) : Same H (upd H p o) := fun b x e => by
  rw [upd_ne (ne_of_none e h)]
  exact e
/-- an object that H does not know may change -/
theorem Same.mut {p : Addr} {o : HO} (e : Same H H') (h : H p = none) : Same H (upd H' p o) := fun a u ha => by
  rw [upd_ne (ne_of_none ha h)]
  exact e a u ha
end
/-! ### the constants are what the look found -/
mutual
theorem kd_ok {K : PySem.W.Frag} {H : Hp} : ∀ (d : Dt) (u : Value), kdB K d u = true → ∃ v, RelV v u ∧ Rp K H v d
  | .int i, u, h => by
    unfold kdB at h
    split at h
    · rename_i j t
      have e : i = j := of_decide_eq_true h
      exact ⟨.int i, ⟨t, by rw [e]⟩, .int i⟩
    · cases h
  | .str x, u, h => by
    unfold kdB at h
    split at h
    · rename_i j t
      have e : x = j := of_decide_eq_true h
      exact ⟨.str x, ⟨t, by rw [e]⟩, .str x⟩
    · cases h
  | .ktup ds, u, h => by
    unfold kdB at h
    split at h
    · rename_i a
      split at h
      · rename_i c its n sl q
        simp only [Bool.and_eq_true, decide_eq_true_eq] at h
        obtain ⟨h1, h2, h3⟩ := h
        obtain ⟨vs, r1, r2⟩ := kds_ok (H := H) ds its.toList h3
        exact ⟨.ref a, rfl, .ktup ⟨_, its, n, q, congrArg Value.type h1, rfl, rfl, h2, r1⟩ r2⟩
      · cases h
    · cases h
  | .non, u, h => by simp [kdB] at h
  | .bl _, u, h => by simp [kdB] at h
  | .ty _, u, h => by simp [kdB] at h
  | .lst _, u, h => by simp [kdB] at h
  | .tup _, u, h => by simp [kdB] at h
  | .tab _, u, h => by simp [kdB] at h
theorem kds_ok {K : PySem.W.Frag} {H : Hp} : ∀ (ds : List Dt) (us : List Value), kdBs K ds us = true → ∃ vs, Vals vs us ∧ Rps K H vs ds
  | [], us, h => by
    unfold kdBs at h
    cases us with
    | nil => exact ⟨[], .nil, .nil⟩
    | cons _ _ => cases h
  | d :: ds, us, h => by
    unfold kdBs at h
    cases us with
    | nil => cases h
    | cons u us =>
      simp only [Bool.and_eq_true] at h
      obtain ⟨v, a1, a2⟩ := kd_ok (H := H) d u h.1
      obtain ⟨vs, b1, b2⟩ := kds_ok (H := H) ds us h.2
      exact ⟨v :: vs, .cons a1 b1, .cons a2 b2⟩
end
theorem glo_rp {K : PySem.W.Frag} {x : Str} {d : Dt} (h : gloB K x d = true) (H : Hp) : Rp K H (.ref (He.ga K x)) d := by
  obtain ⟨v, r, p⟩ := kd_ok (H := H) d _ h
  cases v with
  | ref a =>
    have e : Value.ref (He.ga K x) = Value.ref a := r
    injection e with e
    rw [e]
    exact p
  | non => exact nomatch (show Value.ref (He.ga K x) = Value.none from r)
  | bl b => exact nomatch (show Value.ref (He.ga K x) = Value.bool b from r)
  | ty b => exact nomatch (show Value.ref (He.ga K x) = Value.type b from r)
  | int i => obtain ⟨t, e⟩ := (show ∃ t, Value.ref (He.ga K x) = Value.int i t from r); cases e
  | str i => obtain ⟨t, e⟩ := (show ∃ t, Value.ref (He.ga K x) = Value.str i t from r); cases e
  | byt i => obtain ⟨t, e⟩ := (show ∃ t, Value.ref (He.ga K x) = Value.bytes i t from r); cases e
  | flt i => obtain ⟨t, e⟩ := (show ∃ t, Value.ref (He.ga K x) = Value.float i t from r); cases e
end SB
namespace SB
open PySem L2

theorem sz_of {n : Nat} (h : n ≤ 100000) : n ≤ sizeLine := Nat.le_trans h (by decide)
theorem sz_lt {n : Nat} (h : n < 100000) : n < sizeLine := Nat.lt_of_lt_of_le h (by decide)
/-! ### the slots as data -/
abbrev En := List (Option Dt)
structure EnvD (K : PySem.W.Frag) (H : Hp) (σ : L2.St) (r : En) : Prop where
  len : σ.length = r.length
  at_ : ∀ (i : Nat) (d : Dt), r[i]? = some (some d) → ∃ v, σ[i]? = some (some v) ∧ Rp K H v d
def wipeD (r : En) : List Nat → En
  | [] => r
  | v :: vs => (wipeD r vs).set v none
section
variable {K : PySem.W.Frag} {H H' : Hp} {σ : L2.St} {r : En}
theorem EnvD.mono (s : Same H H') (e : EnvD K H σ r) : EnvD K H' σ r := ⟨e.len, fun i d h => by
  obtain ⟨v, h1, h2⟩ := e.at_ i d h
  exact ⟨v, h1, h2.mono s⟩⟩
theorem EnvD.set {i : Nat} {v : V} {d : Dt} (e : EnvD K H σ r) (h : Rp K H v d) : EnvD K H (σ.set i (some v)) (r.set i (some d)) := ⟨by rw [List.length_set, List.length_set, e.len], fun j d' hj => by
  by_cases q : i = j
  · subst q
    by_cases hi : i < r.length
    · rw [List.getElem?_set_self hi] at hj
      cases hj
      exact ⟨v, by rw [List.getElem?_set_self (by rw [e.len]; exact hi)], h⟩
    · rw [List.getElem?_eq_none (by rw [List.length_set]; omega)] at hj
      cases hj
  · rw [List.getElem?_set_ne q] at hj
    obtain ⟨w, h1, h2⟩ := e.at_ j d' hj
    exact ⟨w, by rw [List.getElem?_set_ne q]; exact h1, h2⟩⟩
theorem wipeD_length (r : En) : ∀ vs : List Nat, (wipeD r vs).length = r.length
  | [] => rfl
  | v :: vs => by unfold wipeD; rw [List.length_set, wipeD_length r vs]
theorem EnvD.wipe (e : EnvD K H σ r) : ∀ vs : List Nat, EnvD K H (L2.wipe σ vs) (wipeD r vs)
  | [] => e
  | v :: vs => by
    have ih := EnvD.wipe e vs
    refine ⟨by unfold L2.wipe wipeD; rw [List.length_set, List.length_set, ih.len], fun j d hj => ?_⟩
    unfold wipeD at hj
    unfold L2.wipe
    by_cases q : v = j
    · subst q
      by_cases hi : v < (wipeD r vs).length
      · rw [List.getElem?_set_self hi] at hj
        cases hj
      · rw [List.getElem?_eq_none (by rw [List.length_set]; omega)] at hj
        cases hj
    · rw [List.getElem?_set_ne q] at hj
      obtain ⟨w, h1, h2⟩ := ih.at_ j d hj
      exact ⟨w, by rw [List.getElem?_set_ne q]; exact h1, h2⟩
theorem wipe_set {x : V} {i : Nat} : ∀ {vs : List Nat}, i ∈ vs → L2.wipe (σ.set i (some x)) vs = L2.wipe σ vs
  | [], h => by cases h
  | v :: vs, h => by
    unfold L2.wipe
    by_cases q : i ∈ vs
    · rw [wipe_set (vs := vs) q]
    · have e : i = v := by
        rcases List.mem_cons.mp h with e | e
        · exact e
        · exact absurd e q
      subst e
      have e2 : ∀ (ws : List Nat), i ∉ ws → L2.wipe (σ.set i (some x)) ws = (L2.wipe σ ws).set i (some x) := by
        intro ws
        induction ws with
        | nil => intro _; rfl
        | cons w ws ih =>
          intro hw
          unfold L2.wipe
          have ne : i ≠ w := fun z => by
            rw [z] at hw
            exact hw (List.mem_cons_self ..)
          rw [ih fun z => hw (List.mem_cons_of_mem _ z), List.set_comm _ _ ne]
      rw [e2 vs q, List.set_set]
theorem wipe_wipe : ∀ {vs : List Nat}, L2.wipe (L2.wipe σ vs) vs = L2.wipe σ vs
  | [] => rfl
  | v :: vs => by
    have e1 : ∀ (ws : List Nat) (τ : L2.St) (i : Nat), L2.wipe (τ.set i none) ws = (L2.wipe τ ws).set i none := by
      intro ws
      induction ws with
      | nil => intro _ _; rfl
      | cons w ws ih =>
        intro τ i
        unfold L2.wipe
        rw [ih]
        by_cases q : i = w
        · subst q; rfl
        · rw [List.set_comm _ _ q]
    show (L2.wipe ((L2.wipe σ vs).set v none) vs).set v none = (L2.wipe σ vs).set v none
    rw [e1, wipe_wipe, List.set_set]
end

/-! ### the judgements -/
section
variable (K : PySem.W.Frag)
def ED (te : TE) (r : En) (d : Dt) : Prop := ∀ (σ : L2.St) (H : Hp) (Q : VK), EnvD K H σ r → (∀ v H', Same H H' → Rp K H' v d → Q v H') → te σ H Q
def TD (tt : TT) (r : En) (b : Bool) : Prop := ∀ (σ : L2.St) (H : Hp) (Q : Bool → Hp → Prop), EnvD K H σ r → (∀ H', Same H H' → Q b H') → tt σ H Q
def AD (ta : TA) (r : En) (ds : List Dt) : Prop := ∀ (σ : L2.St) (H : Hp) (Q : List V → Hp → Prop), EnvD K H σ r → (∀ vs H', Same H H' → Rps K H' vs ds → Q vs H') → ta σ H Q
def OD (to : TO) (r : En) (o : Option Int) : Prop := ∀ (σ : L2.St) (H : Hp) (Q : Option Int → Hp → Prop), EnvD K H σ r → (∀ H', Same H H' → Q o H') → to σ H Q
/-- an operation on two values, on one, a call -/
def BD (f : R2) (d e g : Dt) : Prop := ∀ (x y : V) (H : Hp) (Q : VK), Rp K H x d → Rp K H y e → (∀ v H', Same H H' → Rp K H' v g → Q v H') → f x y H Q
def UD (f : V → Hp → VK → Prop) (d g : Dt) : Prop := ∀ (x : V) (H : Hp) (Q : VK), Rp K H x d → (∀ v H', Same H H' → Rp K H' v g → Q v H') → f x H Q
def CD (f : List V → Hp → VK → Prop) (ds : List Dt) (g : Dt) : Prop := ∀ (vs : List V) (H : Hp) (Q : VK), Rps K H vs ds → (∀ v H', Same H H' → Rp K H' v g → Q v H') → f vs H Q
/-- a promise, at these data -/
def PD (sp : Sp) (ds : List Dt) (g : Dt) : Prop := ∀ (vs : List V) (H : Hp) (Q : VK) (E : XK), Rps K H vs ds → (∀ v H', Same H H' → Rp K H' v g → Q v H') → sp vs H Q E
/-- how a statement ends -/
inductive Out where
  | nx (r : En) | rt (d : Dt)
def Out.ok (D : Ends) (H : Hp) : Out → Prop
  | .nx r => ∀ σ' H', Same H H' → EnvD K H' σ' r → D.nx σ' H'
  | .rt d => ∀ v H', Same H H' → Rp K H' v d → D.rt v H'
def SD (ts : TS) (r : En) (o : Out) : Prop := ∀ (D : Ends) (σ : L2.St) (H : Hp), EnvD K H σ r → o.ok K D H → ts D σ H
/-- a promise by a relation between the arguments' data and the answer's -/
def spD (R : List Dt → Dt → Prop) : Sp := fun vs H Q _ => ∃ ds d, R ds d ∧ Rps K H vs ds ∧ ∀ v H', Same H H' → Rp K H' v d → Q v H'
end
section
variable {K : PySem.W.Frag} {r : En} {ta tb tc te : TE} {d e g : Dt}
theorem PD.of {R : List Dt → Dt → Prop} {ds : List Dt} (h : R ds d) : PD K (spD K R) ds d := fun vs H Q _ hv k => ⟨ds, d, h, hv, k⟩
theorem ed_is (h : ED K te r d) (e1 : d = e) : ED K te r e := by rw [← e1]; exact h
theorem td_is {t : TT} {a b : Bool} (h : TD K t r a) (e1 : a = b) : TD K t r b := by rw [← e1]; exact h
/-! ### names, constants -/
theorem ed_var {i : Nat} (h : r[i]? = some (some d)) : ED K (tVar i) r d := fun σ H Q e k => by
  obtain ⟨v, h1, h2⟩ := e.at_ i d h
  exact ⟨v, h1, k v H (Same.refl H) h2⟩
theorem ed_int {i : Int} : ED K (tC (.int i)) r (.int i) := fun σ H Q _ k => k _ H (Same.refl H) (.int i)
theorem ed_bl {b : Bool} : ED K (tC (.bl b)) r (.bl b) := fun σ H Q _ k => k _ H (Same.refl H) (.bl b)
theorem ed_str {x : Str} : ED K (tC (.str x)) r (.str x) := fun σ H Q _ k => k _ H (Same.refl H) (.str x)
theorem ed_non : ED K (tC .non) r .non := fun σ H Q _ k => k _ H (Same.refl H) .non
theorem ed_ty {n : String} : ED K (tC (.ty n)) r (.ty n) := fun σ H Q _ k => k _ H (Same.refl H) (.ty n)
theorem ed_kon {v : V} (h : ∀ H, Rp K H v d) : ED K (tC v) r d := fun σ H Q _ k => k _ H (Same.refl H) (h H)
/-! ### composition -/
theorem ed_op {f : R2} (ha : ED K ta r d) (hb : ED K tb r e) (hf : BD K f d e g) : ED K (tOp f ta tb) r g := fun σ H Q ev k =>
  ha σ H _ ev fun x H1 s1 r1 => hb σ H1 _ (ev.mono s1) fun y H2 s2 r2 => hf x y H2 Q (r1.mono s2) r2 fun v H3 s3 r3 => k v H3 ((s1.trans s2).trans s3) r3
theorem ed_un {f : V → Hp → VK → Prop} (ha : ED K ta r d) (hf : UD K f d g) : ED K (tUn f ta) r g := fun σ H Q ev k =>
  ha σ H _ ev fun x H1 s1 r1 => hf x H1 Q r1 fun v H3 s3 r3 => k v H3 (s1.trans s3) r3
theorem ad_nil : AD K tNil r [] := fun σ H Q _ k => k [] H (Same.refl H) .nil
theorem ad_cons {tr : TA} {ds : List Dt} (ha : ED K ta r d) (hr : AD K tr r ds) : AD K (tCons ta tr) r (d :: ds) := fun σ H Q ev k =>
  ha σ H _ ev fun x H1 s1 r1 => hr σ H1 _ (ev.mono s1) fun vs H2 s2 r2 => k (x :: vs) H2 (s1.trans s2) (.cons (r1.mono s2) r2)
theorem ed_cb {f : List V → Hp → VK → Prop} {t : TA} {ds : List Dt} (ha : AD K t r ds) (hf : CD K f ds g) : ED K (tCB f t) r g := fun σ H Q ev k =>
  ha σ H _ ev fun vs H1 s1 r1 => hf vs H1 Q r1 fun v H3 s3 r3 => k v H3 (s1.trans s3) r3
theorem ed_call {sp : Sp} {E : XK} {t : TA} {ds : List Dt} (ha : AD K t r ds) (hf : PD K sp ds g) : ED K (tCall sp [] E t) r g := fun σ H Q ev k =>
  ha σ H _ ev fun vs H1 s1 r1 => by
    show sp (vs ++ []) H1 Q E
    rw [List.append_nil]
    exact hf vs H1 Q E r1 fun v H3 s3 r3 => k v H3 (s1.trans s3) r3
theorem ed_tup {t : TA} {ds : List Dt} (ha : AD K t r ds) (hl : ds.length ≤ 100000) : ED K (tTup t) r (.tup ds) := fun σ H Q ev k =>
  ha σ H _ ev fun vs H1 s1 r1 => ⟨sz_of (by rw [r1.length]; exact hl), fun p hp => k _ _ (s1.trans (same_upd hp)) (.tup upd_same (r1.mono (same_upd hp)))⟩
theorem ed_lst {t : TA} {ds : List Dt} (ha : AD K t r ds) (hl : ds.length ≤ 100000) : ED K (tLst t) r (.lst ds) := fun σ H Q ev k =>
  ha σ H _ ev fun vs H1 s1 r1 => ⟨sz_of (by rw [r1.length]; exact hl), fun p hp => k _ _ (s1.trans (same_upd hp)) (.lst upd_same (r1.mono (same_upd hp)))⟩
theorem td_test {b : Bool} (h : ED K te r (.bl b)) : TD K (tTest te) r b := fun σ H Q ev k => h σ H _ ev fun v H1 s1 r1 => ⟨b, r1.bl_of, k H1 s1⟩
theorem td_B {b : Bool} (h : ED K te r (.bl b)) : TD K (tB te) r b := fun σ H Q ev k => h σ H _ ev fun v H1 s1 r1 => ⟨b, r1.bl_of, k H1 s1⟩
theorem td_and {t u : TT} {a b : Bool} (h1 : TD K t r a) (h2 : a = true → TD K u r b) : TD K (tAnd t u) r (a && b) := fun σ H Q ev k => h1 σ H _ ev fun H1 s1 => by
  cases a with
  | true => exact h2 rfl σ H1 Q (ev.mono s1) fun H2 s2 => k H2 (s1.trans s2)
  | false => exact k H1 s1
theorem td_or {t u : TT} {a b : Bool} (h1 : TD K t r a) (h2 : a = false → TD K u r b) : TD K (tOr t u) r (a || b) := fun σ H Q ev k => h1 σ H _ ev fun H1 s1 => by
  cases a with
  | true => exact k H1 s1
  | false => exact h2 rfl σ H1 Q (ev.mono s1) fun H2 s2 => k H2 (s1.trans s2)
theorem td_not {t : TT} {a : Bool} (h : TD K t r a) : TD K (tNot t) r (!a) := fun σ H Q ev k => h σ H _ ev fun H1 s1 => k H1 s1
theorem td_yes : TD K tYes r true := fun σ H Q _ k => k H (Same.refl H)
theorem ed_and {a b : Bool} (h1 : ED K ta r (.bl a)) (h2 : a = true → ED K tb r (.bl b)) : ED K (tAndV ta tb) r (.bl (a && b)) := fun σ H Q ev k => h1 σ H _ ev fun v H1 s1 r1 => ⟨a, r1.bl_of, by
  cases a with
  | true => exact h2 rfl σ H1 Q (ev.mono s1) fun v H2 s2 r2 => k v H2 (s1.trans s2) r2
  | false => exact k _ H1 s1 (.bl _)⟩
theorem ed_or {a b : Bool} (h1 : ED K ta r (.bl a)) (h2 : a = false → ED K tb r (.bl b)) : ED K (tOrV ta tb) r (.bl (a || b)) := fun σ H Q ev k => h1 σ H _ ev fun v H1 s1 r1 => ⟨a, r1.bl_of, by
  cases a with
  | true => exact k _ H1 s1 (.bl _)
  | false => exact h2 rfl σ H1 Q (ev.mono s1) fun v H2 s2 r2 => k v H2 (s1.trans s2) r2⟩
theorem ed_not {a : Bool} (h : ED K ta r (.bl a)) : ED K (tNotV ta) r (.bl (!a)) := fun σ H Q ev k => h σ H _ ev fun v H1 s1 r1 => ⟨a, r1.bl_of, k _ H1 s1 (.bl _)⟩
theorem ed_if {t : TT} {b : Bool} (h : TD K t r b) (h1 : b = true → ED K ta r d) (h2 : b = false → ED K tb r d) : ED K (tIf t ta tb) r d := fun σ H Q ev k => h σ H _ ev fun H1 s1 => by
  cases b with
  | true => exact h1 rfl σ H1 Q (ev.mono s1) fun v H2 s2 r2 => k v H2 (s1.trans s2) r2
  | false => exact h2 rfl σ H1 Q (ev.mono s1) fun v H2 s2 r2 => k v H2 (s1.trans s2) r2
theorem ed_chain {f f' : R2} {a b : Bool} {d1 d2 d3 : Dt} (ha : ED K ta r d1) (hb : ED K tb r d2) (hf : BD K f d1 d2 (.bl a)) (hc : ED K tc r d3) (hf' : BD K f' d2 d3 (.bl b)) : ED K (tChain f f' ta tb tc) r (.bl (a && b)) := fun σ H Q ev k =>
  ha σ H _ ev fun x H1 s1 r1 => hb σ H1 _ (ev.mono s1) fun y H2 s2 r2 => hf x y H2 _ (r1.mono s2) r2 fun v H3 s3 r3 => ⟨a, r3.bl_of, by
    have e3 := ev.mono ((s1.trans s2).trans s3)
    cases a with
    | true => exact hc σ H3 _ e3 fun z H4 s4 r4 => hf' y z H4 Q (r2.mono (s3.trans s4)) r4 fun v H5 s5 r5 => k v H5 ((((s1.trans s2).trans s3).trans s4).trans s5) r5
    | false => exact k _ H3 ((s1.trans s2).trans s3) (.bl _)⟩
/-! ### statements -/
variable {t u : TS} {o : Out} {D : Ends}
theorem sd_seq {r1 : En} (h1 : SD K t r (.nx r1)) (h2 : SD K u r1 o) : SD K (tSeq t u) r o := fun D σ H ev k =>
  h1 { D with nx := u D } σ H ev fun σ' H' s' e' => h2 D σ' H' e' (by
    cases o with
    | nx r2 => exact fun σ2 H2 s2 e2 => k σ2 H2 (s'.trans s2) e2
    | rt d => exact fun v H2 s2 e2 => k v H2 (s'.trans s2) e2)
theorem sd_seqR (h1 : SD K t r (.rt d)) : SD K (tSeq t u) r (.rt d) := fun D σ H ev k => h1 { D with nx := u D } σ H ev k
theorem sd_next : SD K tNext r (.nx r) := fun D σ H ev k => k σ H (Same.refl H) ev
theorem ok_trans {H H1 : Hp} (s1 : Same H H1) (k : o.ok K D H) : o.ok K D H1 := by
  cases o with
  | nx r2 => exact fun σ2 H2 s2 e2 => k σ2 H2 (s1.trans s2) e2
  | rt d => exact fun v H2 s2 e2 => k v H2 (s1.trans s2) e2
theorem sd_if {c : TT} {b : Bool} (h : TD K c r b) (h1 : b = true → SD K t r o) (h2 : b = false → SD K u r o) : SD K (tIfS c t u) r o := fun D σ H ev k => h σ H _ ev fun H1 s1 => by
  cases b with
  | true => exact h1 rfl D σ H1 (ev.mono s1) (ok_trans s1 k)
  | false => exact h2 rfl D σ H1 (ev.mono s1) (ok_trans s1 k)
/-- an if without else, then the rest -/
theorem sd_when {c : TT} {b : Bool} {z : TS} (h : TD K c r b) (h1 : b = true → SD K t r o) (h2 : b = false → SD K z r o) (ho : ∀ q, o ≠ .nx q) : SD K (tSeq (tIfS c t tNext) z) r o := by
  cases b with
  | true =>
    cases o with
    | nx q => exact absurd rfl (ho q)
    | rt d => exact sd_seqR (sd_if h (fun _ => h1 rfl) fun q => by cases q)
  | false => exact sd_seq (sd_if h (fun q => by cases q) fun _ => sd_next) (h2 rfl)
theorem sd_ret (h : ED K te r d) : SD K (tRet te) r (.rt d) := fun D σ H ev k => h σ H _ ev fun v H1 s1 r1 => k v H1 s1 r1
theorem sd_set {i : Nat} (h : ED K te r d) : SD K (tAsg te (gName i)) r (.nx (r.set i (some d))) := fun D σ H ev k => h σ H _ ev fun v H1 s1 r1 => k _ H1 s1 ((ev.mono s1).set r1)
theorem sd_drop (h : ED K te r d) : SD K (tDrop te) r (.nx r) := fun D σ H ev k => h σ H _ ev fun v H1 s1 r1 => k _ H1 s1 (ev.mono s1)
theorem sd_par {i j : Nat} {ta : TA} (h : AD K ta r [d, e]) : SD K (tPar i j ta) r (.nx ((r.set i (some d)).set j (some e))) := fun D σ H ev k => h σ H _ ev fun vs H1 s1 r1 => by
  cases r1 with
  | cons ra rb =>
    cases rb with
    | cons rb rc =>
      cases rc
      exact ⟨_, _, rfl, k _ H1 s1 (((ev.mono s1).set ra).set rb)⟩
/-- targets of a tuple: the slots -/
def gNames : List Nat → TGs
  | [] => gNil
  | i :: is => gCons (gName i) (gNames is)
def setAll (r : En) : List Nat → List Dt → En
  | i :: is, d :: ds => setAll (r.set i (some d)) is ds
  | _, _ => r
theorem names_go {K : PySem.W.Frag} : ∀ {is : List Nat} {ds : List Dt} {vs : List V} {σ : L2.St} {H : Hp} {r : En} {Q : L2.St → Hp → Prop}, is.length = ds.length → Rps K H vs ds → EnvD K H σ r → (∀ σ', EnvD K H σ' (setAll r is ds) → Q σ' H) → gNames is vs σ H Q
  | [], [], _, σ, H, r, Q, _, hv, ev, k => by
    cases hv
    exact ⟨rfl, k σ ev⟩
  | [], _ :: _, _, _, _, _, _, e, _, _, _ => by simp at e
  | _ :: _, [], _, _, _, _, _, e, _, _, _ => by simp at e
  | i :: is, d :: ds, _, σ, H, r, Q, e, hv, ev, k => by
    cases hv with
    | cons a t => exact ⟨_, _, rfl, names_go (by simpa using e) t (ev.set a) k⟩
/-- a, b, .. = e, e a tuple -/
theorem sd_unpack {is : List Nat} {n : Nat} {ds : List Dt} (h : ED K te r (.tup ds)) (e1 : is.length = ds.length) (e2 : ds.length = n) : SD K (tAsg te (gTup K n (gNames is))) r (.nx (setAll r is ds)) := fun D σ H ev k => h σ H _ ev fun v H1 s1 r1 => by
  obtain ⟨a, xs, rfl, ha, hv⟩ := r1.tup_of
  exact ⟨a, xs, rfl, SqT.of ha, by rw [hv.length, e2], names_go e1 hv (ev.mono s1) fun σ' e' => k σ' H1 s1 e'⟩
end
end SB
/-! rules by data -/
namespace SB
open PySem L2

/-- a tuple of ints and texts, by its items as keys -/
def kd : Key → Dt
  | .inl i => .int i
  | .inr x => .str x
abbrev tk (ks : List Key) : Dt := .tup (ks.map kd)
section
variable {K : PySem.W.Frag} {H H' : Hp}
theorem Rp.kd_of {v : V} {k : Key} (r : Rp K H v (kd k)) : v = kV k := by
  cases k with
  | inl i => exact r.int_of
  | inr x => exact r.str_of
theorem rp_kd (k : Key) : Rp K H (kV k) (kd k) := by
  cases k with
  | inl i => exact .int i
  | inr x => exact .str x
theorem rps_kd : ∀ {ks : List Key} {vs : List V}, Rps K H vs (ks.map kd) → vs = ks.map kV
  | [], _, r => by cases r; rfl
  | k :: ks, _, r => by
    cases r with
    | cons a t => rw [a.kd_of, rps_kd t]; rfl
theorem rps_kV : ∀ ks : List Key, Rps K H (ks.map kV) (ks.map kd)
  | [] => .nil
  | k :: ks => .cons (rp_kd k) (rps_kV ks)
theorem Rp.tk_of {v : V} {ks : List Key} (r : Rp K H v (tk ks)) : ∃ a, v = .ref a ∧ H a = some (.tup (ks.map kV)) := by
  obtain ⟨a, xs, rfl, ha, hv⟩ := r.tup_of
  rw [rps_kd hv] at ha
  exact ⟨a, rfl, ha⟩
theorem rp_tk {a : Addr} {ks : List Key} (h : H a = some (.tup (ks.map kV))) : Rp K H (.ref a) (tk ks) := .tup h (rps_kV ks)
theorem flat_tk (ks : List Key) : flatD (tk ks) = true := by
  show flatDs (ks.map kd) = true
  refine flatDs_all fun d hd => ?_
  obtain ⟨k, _, rfl⟩ := List.mem_map.mp hd
  cases k <;> rfl
theorem flat_tks (kss : List (List Key)) : flatDs (kss.map tk) = true := flatDs_all fun d hd => by
  obtain ⟨k, _, rfl⟩ := List.mem_map.mp hd
  exact flat_tk k
/-! ### ints, bools, texts -/
theorem bd_I0 {g : Int → Int → V} {i j : Int} {d : Dt} (h : ∀ H, Rp K H (g i j) d) : BD K (rI0 g) (.int i) (.int j) d := fun x y H Q rx ry k => ⟨i, j, rx.int_of, ry.int_of, k _ H (Same.refl H) (h H)⟩
theorem bd_I {C : Int → Int → Prop} {g : Int → Int → V} {i j : Int} {d : Dt} (hc : C i j) (h : ∀ H, Rp K H (g i j) d) : BD K (rI C g) (.int i) (.int j) d := fun x y H Q rx ry k => ⟨i, j, rx.int_of, ry.int_of, hc, k _ H (Same.refl H) (h H)⟩
theorem bd_add {i j : Int} : BD K (rI0 fun i j => .int (i + j)) (.int i) (.int j) (.int (i + j)) := bd_I0 fun _ => .int _
theorem bd_sub {i j : Int} : BD K (rI0 fun i j => .int (i - j)) (.int i) (.int j) (.int (i - j)) := bd_I0 fun _ => .int _
theorem bd_lt {i j : Int} : BD K (rI0 fun i j => .bl (decide (i < j))) (.int i) (.int j) (.bl (decide (i < j))) := bd_I0 fun _ => .bl _
theorem bd_le {i j : Int} : BD K (rI0 fun i j => .bl (decide (i ≤ j))) (.int i) (.int j) (.bl (decide (i ≤ j))) := bd_I0 fun _ => .bl _
theorem bd_gt {i j : Int} : BD K (rI0 fun i j => .bl (decide (j < i))) (.int i) (.int j) (.bl (decide (j < i))) := bd_I0 fun _ => .bl _
theorem bd_ge {i j : Int} : BD K (rI0 fun i j => .bl (decide (j ≤ i))) (.int i) (.int j) (.bl (decide (j ≤ i))) := bd_I0 fun _ => .bl _
theorem ud_neg {i : Int} : UD K (rU fun i => .int (-i)) (.int i) (.int (-i)) := fun x H Q rx k => ⟨i, rx.int_of, k _ H (Same.refl H) (.int _)⟩
theorem dec_inj {α : Type} [DecidableEq α] {f : α → V} (hf : ∀ a b, f a = f b → a = b) (a b : α) : decide (f a = f b) = decide (a = b) := by
  by_cases e : a = b
  · subst e
    rw [decide_eq_true rfl, decide_eq_true rfl]
  · rw [decide_eq_false e, decide_eq_false fun q => e (hf _ _ q)]
theorem bd_eqI {i j : Int} : BD K rEq (.int i) (.int j) (.bl (decide (i = j))) := fun x y H Q rx ry k => by
  rw [rx.int_of, ry.int_of]
  refine ⟨rfl, ?_⟩
  rw [dec_inj (f := V.int) (fun _ _ e => V.int.inj e)]
  exact k _ H (Same.refl H) (.bl _)
theorem bd_eqS {i j : Str} : BD K rEq (.str i) (.str j) (.bl (decide (i = j))) := fun x y H Q rx ry k => by
  rw [rx.str_of, ry.str_of]
  refine ⟨rfl, ?_⟩
  rw [dec_inj (f := V.str) (fun _ _ e => V.str.inj e)]
  exact k _ H (Same.refl H) (.bl _)
theorem bd_eqB {i j : Bool} : BD K rEq (.bl i) (.bl j) (.bl (decide (i = j))) := fun x y H Q rx ry k => by
  rw [rx.bl_of, ry.bl_of]
  refine ⟨rfl, ?_⟩
  rw [dec_inj (f := V.bl) (fun _ _ e => V.bl.inj e)]
  exact k _ H (Same.refl H) (.bl _)
theorem bd_neI {i j : Int} : BD K rNe (.int i) (.int j) (.bl (!decide (i = j))) := fun x y H Q rx ry k => by
  rw [rx.int_of, ry.int_of]
  refine ⟨rfl, ?_⟩
  rw [dec_inj (f := V.int) (fun _ _ e => V.int.inj e)]
  exact k _ H (Same.refl H) (.bl _)
theorem bd_neB {i j : Bool} : BD K rNe (.bl i) (.bl j) (.bl (!decide (i = j))) := fun x y H Q rx ry k => by
  rw [rx.bl_of, ry.bl_of]
  refine ⟨rfl, ?_⟩
  rw [dec_inj (f := V.bl) (fun _ _ e => V.bl.inj e)]
  exact k _ H (Same.refl H) (.bl _)
theorem bd_isB {i j : Bool} : BD K rIsB (.bl i) (.bl j) (.bl (decide (i = j))) := fun x y H Q rx ry k => ⟨i, j, rx.bl_of, ry.bl_of, k _ H (Same.refl H) (.bl _)⟩
theorem bd_notB {i j : Bool} : BD K rNotB (.bl i) (.bl j) (.bl (!decide (i = j))) := fun x y H Q rx ry k => ⟨i, j, rx.bl_of, ry.bl_of, k _ H (Same.refl H) (.bl _)⟩
def rAddS : R2 := fun x y H Q => ∃ i j, x = .str i ∧ y = .str j ∧ i.length + j.length ≤ sizeLine ∧ Q (.str (i ++ j)) H
theorem o_addS {X : Cx} : OpR X (binaryOp .Add) rAddS := op_add_str
theorem bd_addS {x y : Str} (h : x.length + y.length ≤ 100000) : BD K rAddS (.str x) (.str y) (.str (x ++ y)) := fun _ _ H Q rx ry k => ⟨x, y, rx.str_of, ry.str_of, sz_of h, k _ H (Same.refl H) (.str _)⟩
/-- x is None -/
def rIsN : R2 := fun x y H Q => y = .non ∧ Q (.bl (decide (x = .non))) H
theorem o_isN {X : Cx} : OpR X (compareOp .Is) rIsN := op_isN
theorem bd_isN {d : Dt} {b : Bool} (h : ∀ v H, Rp K H v d → decide (v = V.non) = b) : BD K rIsN d .non (.bl b) := fun x y H Q rx ry k => by
  cases ry
  refine ⟨rfl, ?_⟩
  rw [h x H rx]
  exact k _ H (Same.refl H) (.bl _)
/-! ### places -/
theorem ixN_map {α β : Type} {xs : List α} {ys : List β} (e : xs.length = ys.length) (i : Int) : ixN xs.length i = ixN ys.length i := by rw [e]
theorem Rps.atI {vs : List V} {ds : List Dt} {i : Int} {d : Dt} (r : Rps K H vs ds) (h : atI ds i = some d) : ∃ v, L2.atI vs i = some v ∧ Rp K H v d := by
  unfold L2.atI at h ⊢
  rw [r.length]
  cases e : ixN ds.length i with
  | none =>
    rw [e] at h
    cases h
  | some j =>
    rw [e] at h
    exact r.get (i := j) h
theorem bd_ixT {ds : List Dt} {i : Int} {d : Dt} (h : L2.atI ds i = some d) : BD K (rIxT K) (.tup ds) (.int i) d := fun x y H Q rx ry k => by
  obtain ⟨a, xs, rfl, ha, hv⟩ := rx.tup_of
  obtain ⟨v, h1, h2⟩ := hv.atI h
  exact ⟨a, xs, i, v, rfl, ry.int_of, SqT.of ha, h1, k v H (Same.refl H) h2⟩
theorem bd_ixK {ds : List Dt} {i : Int} {d : Dt} (h : L2.atI ds i = some d) : BD K (rIxT K) (.ktup ds) (.int i) d := fun x y H Q rx ry k => by
  obtain ⟨a, xs, rfl, ha, hv⟩ := rx.ktup_of
  obtain ⟨v, h1, h2⟩ := hv.atI h
  exact ⟨a, xs, i, v, rfl, ry.int_of, ha.sq H, h1, k v H (Same.refl H) h2⟩
theorem bd_ixL {ds : List Dt} {i : Int} {d : Dt} (h : L2.atI ds i = some d) : BD K (rIxL K) (.lst ds) (.int i) d := fun x y H Q rx ry k => by
  obtain ⟨a, xs, rfl, ha, hv⟩ := rx.lst_of
  obtain ⟨v, h1, h2⟩ := hv.atI h
  exact ⟨a, xs, i, v, rfl, ry.int_of, SqL.of ha, h1, k v H (Same.refl H) h2⟩
/-! ### slices of tuples -/
def cutD (ds : List Dt) (lo hi : Option Int) : List Dt := (ds.drop (HT.sIx ds.length 0 lo)).take (HT.sIx ds.length ds.length hi - HT.sIx ds.length 0 lo)
variable {r : En} {te ta : TE} {tl th : TO} {lo hi : Option Int}
theorem od_none : OD K tNoPart r none := fun σ H Q _ k => k H (Same.refl H)
theorem od_some {i : Int} (h : ED K te r (.int i)) : OD K (tPart te) r (some i) := fun σ H Q ev k => h σ H _ ev fun v H1 s1 r1 => ⟨i, r1.int_of, k H1 s1⟩
theorem ed_slT {ds : List Dt} (h : ED K te r (.tup ds)) (hl : OD K tl r lo) (hh : OD K th r hi) : ED K (tSl (rSlA K) te tl th) r (.tup (cutD ds lo hi)) := fun σ H Q ev k =>
  h σ H _ ev fun v H1 s1 r1 => hl σ H1 _ (ev.mono s1) fun H2 s2 => hh σ H2 _ (ev.mono (s1.trans s2)) fun H3 s3 => by
    obtain ⟨a, xs, rfl, ha, hv⟩ := r1.tup_of
    have ha3 : H3 a = some (.tup xs) := s3 _ _ (s2 _ _ ha)
    have hv3 := hv.mono (s2.trans s3)
    have hl := hv.length
    have s13 := (s1.trans s2).trans s3
    refine ⟨a, xs, rfl, SqT.of ha3, fun hw => ?_, fun hw p hp => ?_⟩
    · refine k _ H3 s13 ?_
      have e : cutD ds lo hi = ds := by
        unfold cutD
        rw [hl] at hw
        rw [hw.1, hw.2]
        simp
      rw [e]
      exact .tup ha3 hv3
    · refine k _ _ (s13.trans (same_upd hp)) (.tup upd_same ?_)
      have e : cutV xs lo hi = (xs.drop (HT.sIx ds.length 0 lo)).take (HT.sIx ds.length ds.length hi - HT.sIx ds.length 0 lo) := by
        unfold cutV
        rw [hl]
      rw [e]
      exact ((hv3.drop _).take _).mono (same_upd hp)
/-- a slice of a written tuple that is not the whole of it: a new tuple -/
theorem ed_slK {ds : List Dt} (h : ED K te r (.ktup ds)) (hl : OD K tl r lo) (hh : OD K th r hi) (hw : ¬ (HT.sIx ds.length 0 lo = 0 ∧ HT.sIx ds.length ds.length hi = ds.length)) : ED K (tSl (rSlA K) te tl th) r (.tup (cutD ds lo hi)) := fun σ H Q ev k =>
  h σ H _ ev fun v H1 s1 r1 => hl σ H1 _ (ev.mono s1) fun H2 s2 => hh σ H2 _ (ev.mono (s1.trans s2)) fun H3 s3 => by
    obtain ⟨a, xs, rfl, ha, hv⟩ := r1.ktup_of
    have hv3 := hv.mono (s2.trans s3)
    have hl := hv.length
    have s13 := (s1.trans s2).trans s3
    refine ⟨a, xs, rfl, ha.sq H3, fun hq => ?_, fun _ p hp => ?_⟩
    · rw [hl] at hq
      exact absurd hq hw
    · refine k _ _ (s13.trans (same_upd hp)) (.tup upd_same ?_)
      have e : cutV xs lo hi = (xs.drop (HT.sIx ds.length 0 lo)).take (HT.sIx ds.length ds.length hi - HT.sIx ds.length 0 lo) := by
        unfold cutV
        rw [hl]
      rw [e]
      exact ((hv3.drop _).take _).mono (same_upd hp)
/-! ### tuples, lists joined -/
theorem bd_catT {ds es : List Dt} (hz : ds.length + es.length ≤ 100000) : BD K (rCatA K) (.tup ds) (.tup es) (.tup (ds ++ es)) := fun x y H Q rx ry k => by
  obtain ⟨a, xs, rfl, ha, hv⟩ := rx.tup_of
  obtain ⟨b, ys, rfl, hb, hw⟩ := ry.tup_of
  refine ⟨a, b, xs, ys, rfl, rfl, SqT.of ha, SqT.of hb, sz_of (by rw [hv.length, hw.length]; exact hz), fun e => ?_, fun _ e => ?_, fun _ _ p hp => ?_⟩
  · subst e
    cases hv
    exact k _ H (Same.refl H) (.tup hb hw)
  · subst e
    cases hw
    rw [List.append_nil] at k
    exact k _ H (Same.refl H) (.tup ha hv)
  · exact k _ _ (same_upd hp) (.tup upd_same ((hv.append hw).mono (same_upd hp)))
theorem bd_catL {ds es : List Dt} (hz : ds.length + es.length ≤ 100000) : BD K rCat (.lst ds) (.lst es) (.lst (ds ++ es)) := fun x y H Q rx ry k => by
  obtain ⟨a, xs, rfl, ha, hv⟩ := rx.lst_of
  obtain ⟨b, ys, rfl, hb, hw⟩ := ry.lst_of
  exact ⟨a, b, xs, ys, rfl, rfl, ha, hb, sz_of (by rw [hv.length, hw.length]; exact hz), fun p hp => k _ _ (same_upd hp) (.lst upd_same ((hv.append hw).mono (same_upd hp)))⟩
/-! ### built-ins -/
def rLenQ (K : PySem.W.Frag) : List V → Hp → VK → Prop := fun xs H Q => ∃ p ys, xs = [.ref p] ∧ (SqL K H p ys ∨ SqT K H p ys) ∧ Q (.int ys.length) H
theorem c_len {X : Cx} : CallR X (.builtin "len") (rLenQ X.K) := call_len_seq
theorem rps1 {vs : List V} {d : Dt} (r : Rps K H vs [d]) : ∃ v, vs = [v] ∧ Rp K H v d := by
  cases r with
  | cons a t =>
    cases t
    exact ⟨_, rfl, a⟩
theorem rps2 {vs : List V} {d e : Dt} (r : Rps K H vs [d, e]) : ∃ v w, vs = [v, w] ∧ Rp K H v d ∧ Rp K H w e := by
  cases r with
  | cons a t =>
    obtain ⟨w, rfl, b⟩ := rps1 t
    exact ⟨_, w, rfl, a, b⟩
theorem cd_lenT {ds : List Dt} : CD K (rLenQ K) [.tup ds] (.int (ds.length : Int)) := fun vs H Q r k => by
  obtain ⟨v, rfl, rv⟩ := rps1 r
  obtain ⟨a, xs, rfl, ha, hv⟩ := rv.tup_of
  refine ⟨a, xs, rfl, .inr (SqT.of ha), ?_⟩
  rw [hv.length]
  exact k _ H (Same.refl H) (.int _)
theorem cd_lenK {ds : List Dt} : CD K (rLenQ K) [.ktup ds] (.int (ds.length : Int)) := fun vs H Q r k => by
  obtain ⟨v, rfl, rv⟩ := rps1 r
  obtain ⟨a, xs, rfl, ha, hv⟩ := rv.ktup_of
  refine ⟨a, xs, rfl, .inr (ha.sq H), ?_⟩
  rw [hv.length]
  exact k _ H (Same.refl H) (.int _)
theorem cd_lenL {ds : List Dt} : CD K (rLenQ K) [.lst ds] (.int (ds.length : Int)) := fun vs H Q r k => by
  obtain ⟨v, rfl, rv⟩ := rps1 r
  obtain ⟨a, xs, rfl, ha, hv⟩ := rv.lst_of
  refine ⟨a, xs, rfl, .inl (SqL.of ha), ?_⟩
  rw [hv.length]
  exact k _ H (Same.refl H) (.int _)
def rTupQ (K : PySem.W.Frag) : List V → Hp → VK → Prop := fun xs H Q => ∃ p ys, xs = [.ref p] ∧ ((SqL K H p ys ∧ ∀ l, H l = none → Q (.ref l) (upd H l (.tup ys))) ∨ (SqT K H p ys ∧ Q (.ref p) H))
theorem c_tuple {X : Cx} : CallR X (.type "tuple") (rTupQ X.K) := call_tuple_of
theorem cd_tuple {ds : List Dt} : CD K (rTupQ K) [.lst ds] (.tup ds) := fun vs H Q r k => by
  obtain ⟨v, rfl, rv⟩ := rps1 r
  obtain ⟨a, xs, rfl, ha, hv⟩ := rv.lst_of
  exact ⟨a, xs, rfl, .inl ⟨SqL.of ha, fun l hl => k _ _ (same_upd hl) (.tup upd_same (hv.mono (same_upd hl)))⟩⟩
theorem rps_bls : ∀ {bs : List Bool} {vs : List V}, Rps K H vs (bs.map Dt.bl) → vs = bs.map V.bl
  | [], _, r => by cases r; rfl
  | b :: bs, _, r => by
    cases r with
    | cons a t => rw [a.bl_of, rps_bls t]; rfl
theorem cd_all {bs : List Bool} : CD K (rAll K) [.lst (bs.map Dt.bl)] (.bl (bs.all id)) := fun vs H Q r k => by
  obtain ⟨v, rfl, rv⟩ := rps1 r
  obtain ⟨a, xs, rfl, ha, hv⟩ := rv.lst_of
  rw [rps_bls hv] at ha
  exact ⟨a, bs, rfl, SqL.of ha, k _ H (Same.refl H) (.bl _)⟩
def rMin2 : List V → Hp → VK → Prop := fun xs H Q => ∃ i j, xs = [.int i, .int j] ∧ Q (.int (if j < i then j else i)) H
def rMax2 : List V → Hp → VK → Prop := fun xs H Q => ∃ i j, xs = [.int i, .int j] ∧ Q (.int (if j > i then j else i)) H
theorem c_min {X : Cx} (hc : X.calm = true) : CallR X (.builtin "min") rMin2 := call_min2 hc
theorem c_max {X : Cx} (hc : X.calm = true) : CallR X (.builtin "max") rMax2 := call_max2 hc
def rInt1 : List V → Hp → VK → Prop := fun xs H Q => (∃ i, xs = [.int i] ∧ Q (.int i) H) ∨ ∃ k, xs = [.bl k] ∧ Q (.int (if k then 1 else 0)) H
theorem c_int {X : Cx} : CallR X (.type "int") rInt1 := call_int1
theorem cd_int {i : Int} : CD K rInt1 [.int i] (.int i) := fun vs H Q r k => by
  obtain ⟨v, rfl, rv⟩ := rps1 r
  rw [rv.int_of]
  exact .inl ⟨i, rfl, k _ H (Same.refl H) (.int _)⟩
theorem cd_max {i j : Int} : CD K rMax2 [.int i, .int j] (.int (if j > i then j else i)) := fun vs H Q r k => by
  obtain ⟨v, w, rfl, rv, rw'⟩ := rps2 r
  rw [rv.int_of, rw'.int_of]
  exact ⟨i, j, rfl, k _ H (Same.refl H) (.int _)⟩
theorem cd_min {i j : Int} : CD K rMin2 [.int i, .int j] (.int (if j < i then j else i)) := fun vs H Q r k => by
  obtain ⟨v, w, rfl, rv, rw'⟩ := rps2 r
  rw [rv.int_of, rw'.int_of]
  exact ⟨i, j, rfl, k _ H (Same.refl H) (.int _)⟩
/-! ### isinstance -/
def tyN : Dt → String
  | .non => "NoneType"
  | .bl _ => "bool"
  | .int _ => "int"
  | .str _ => "str"
  | .ty _ => ""
  | .lst _ => "list"
  | .tup _ => "tuple"
  | .ktup _ => "tuple"
  | .tab _ => "dict"
theorem Rp.tyx {v : V} {d : Dt} (h : Rp K H v d) (hd : tyN d ≠ "") : TyX K H v (.type (tyN d)) := by
  cases h with
  | non => exact .base .non
  | bl b => exact .base (.bl b)
  | int i => exact .base (.int i)
  | str x => exact .base (.str x)
  | ty n => exact absurd rfl hd
  | lst h t => exact .base (.lst h)
  | tup h t => exact .base (.tup h)
  | ktup h t =>
    obtain ⟨o, its, n, h1, h2, _⟩ := h
    exact .kTuple h1 h2
  | tab h => exact .base (.dT h)
theorem cd_isi {d : Dt} {t n : String} {b : Bool} (e : tyN d = t) (h : kitB t n = some b) (hd : t ≠ "") : CD K (rIsi K) [d, .ty n] (.bl b) := fun vs H Q r k => by
  subst e
  obtain ⟨v, w, rfl, rv, rw'⟩ := rps2 r
  rw [rw'.ty_of]
  exact ⟨v, .ty n, _, _, b, rfl, .ty n, rv.tyx hd, kit_ty h, k _ H (Same.refl H) (.bl _)⟩
/-- of two classes, in a tuple -/
theorem cd_isiT {d : Dt} {t n m : String} {b c : Bool} (e : tyN d = t) (h : kitB t n = some b) (h2 : kitB t m = some c) (hd : t ≠ "") : CD K (rIsiT K) [d, .tup [.ty n, .ty m]] (.bl (b || c)) := fun vs H Q r k => by
  subst e
  obtain ⟨v, w, rfl, rv, rw'⟩ := rps2 r
  obtain ⟨a, xs, rfl, ha, hv⟩ := rw'.tup_of
  obtain ⟨c1, c2, rfl, q1, q2⟩ := rps2 hv
  rw [q1.ty_of, q2.ty_of] at ha
  refine ⟨v, a, _, _, [.type n, .type m], _, rfl, ha, .cons (.ty n) (.cons (.ty m) .nil), rv.tyx hd, ?_, k _ H (Same.refl H) (.bl (b || c))⟩
  refine kitAny_cons (kit_ty h) (fun hb => kitAny_cons (kit_ty h2) (fun hc => ?_) (fun hc => ?_)) (fun hb => ?_)
  · rw [hb, hc]
    exact kitAny_nil
  · rw [hc, Bool.or_true]
  · rw [hb, Bool.true_or]
/-! ### a text in a tuple of texts -/
theorem rps_strs : ∀ {ss : List Str} {vs : List V}, Rps K H vs (ss.map Dt.str) → vs = ss.map V.str
  | [], _, r => by cases r; rfl
  | b :: bs, _, r => by
    cases r with
    | cons a t => rw [a.str_of, rps_strs t]; rfl
theorem inV_str (x : Str) : ∀ ss : List Str, inV (.str x) (ss.map V.str) = decide (x ∈ ss)
  | [] => by simp [inV]
  | s :: ss => by
    have e : inV (.str x) ((s :: ss).map V.str) = (eqV (.str s) (.str x) || inV (.str x) (ss.map V.str)) := rfl
    rw [e, inV_str x ss]
    have e2 : eqV (.str s) (.str x) = decide (x = s) := by
      show (s == x) = decide (x = s)
      by_cases q : x = s
      · subst q
        rw [decide_eq_true rfl]
        exact beq_self_eq_true x
      · rw [decide_eq_false q]
        exact beq_eq_false_iff_ne.mpr fun z => q z.symm
    rw [e2]
    simp [List.mem_cons, Bool.decide_or]
theorem flat_strs' : ∀ ss : List Str, (ss.map V.str).all flatV = true
  | [] => rfl
  | s :: ss => by
    show (flatV (.str s) && (ss.map V.str).all flatV) = true
    rw [flat_strs' ss]
    rfl
theorem bd_inS {x : Str} {ss : List Str} : BD K (rIn K false) (.str x) (.tup (ss.map Dt.str)) (.bl (decide (x ∈ ss))) := fun _ _ H Q rx ry k => by
  obtain ⟨a, xs, rfl, ha, hv⟩ := ry.tup_of
  rw [rx.str_of]
  rw [rps_strs hv] at ha
  refine ⟨a, _, rfl, .inr (SqT.of ha), rfl, flat_strs' ss, ?_⟩
  rw [if_neg Bool.false_ne_true, inV_str]
  exact k _ H (Same.refl H) (.bl _)
theorem bd_inSK {x : Str} {ss : List Str} : BD K (rIn K false) (.str x) (.ktup (ss.map Dt.str)) (.bl (decide (x ∈ ss))) := fun _ _ H Q rx ry k => by
  obtain ⟨a, xs, rfl, ha, hv⟩ := ry.ktup_of
  rw [rx.str_of]
  rw [rps_strs hv] at ha
  refine ⟨a, _, rfl, .inr (ha.sq H), rfl, flat_strs' ss, ?_⟩
  rw [if_neg Bool.false_ne_true, inV_str]
  exact k _ H (Same.refl H) (.bl _)
/-! ### t.index(x), t a written tuple of texts -/
def rTIdx (K : PySem.W.Frag) : V → List V → Hp → VK → Prop := fun x xs H Q => ∃ p, ∃ ys : List Str, ∃ z j, x = .ref p ∧ xs = [.str z] ∧ SqT K H p (ys.map V.str) ∧ ys[j]? = some z ∧ (∀ m, m < j → ys[m]? ≠ some z) ∧ Q (.int (j : Nat)) H
theorem m_tindex {X : Cx} : MtR X "tuple.index" (rTIdx X.K) := mt_tup_index
theorem ed_tindex {ss : List Str} {z : Str} {j : Nat} {ta : TE} (h : ED K te r (.ktup (ss.map Dt.str))) (hz : ED K ta r (.str z)) (e1 : ss[j]? = some z) (e2 : ∀ m, m < j → ss[m]? ≠ some z) : ED K (tBM K "tuple" (rTIdx K) te (tCons ta tNil)) r (.int (j : Int)) := fun σ H Q ev k =>
  h σ H _ ev fun v H1 s1 r1 => by
    obtain ⟨a, xs, rfl, ha, hv⟩ := r1.ktup_of
    have ex := rps_strs hv
    subst ex
    refine ⟨?_, ?_⟩
    · obtain ⟨o, its, n, h1, h2, h3, _⟩ := ha
      exact .inr (.inl ⟨rfl, o, h1, h2, h3⟩)
    · refine hz σ H1 _ (ev.mono s1) fun w H2 s2 r2 => ?_
      rw [r2.str_of]
      exact ⟨a, ss, z, j, rfl, rfl, ha.sq H2, e1, e2, k _ H2 (s1.trans s2) (.int _)⟩
/-! ### a dict's item -/
theorem ed_dget {ty : TE} {kvs : List (List Key × V)} {ks : List Key} {v : V} {d : Dt} (h : ED K te r (.tab kvs)) (hk : ED K ty r (tk ks)) (hv : valV kvs ks = some v) (hd : ∀ H, Rp K H v d) : ED K (tDGet te ty) r d := fun σ H Q ev k =>
  h σ H _ ev fun x H1 s1 r1 => hk σ H1 _ (ev.mono s1) fun y H2 s2 r2 => by
    obtain ⟨a, rfl, ha⟩ := r1.tab_of
    obtain ⟨b, rfl, hb⟩ := r2.tk_of
    refine ⟨a, v, rfl, ?_, k v H2 (s1.trans s2) (hd H2)⟩
    rw [← hv]
    exact DGet.t (s2 _ _ ha) hb
end
end SB
/-! loops and comprehensions by data -/
namespace SB
open PySem L2

section
variable {K : PySem.W.Frag}
/-! ### what is walked -/
structure JD (K : PySem.W.Frag) (J : It) (H1 : Hp) (ds : List Dt) : Prop where
  stop : ∀ H', Same H1 H' → J.stop ds.length H'
  go : ∀ i H', i < ds.length → Same H1 H' → J.go i H'
  yld : ∀ i H x H', i < ds.length → Same H1 H → J.yld i H x H' → H' = H ∧ ∃ d, ds[i]? = some d ∧ Rp K H x d
theorem JD.mono {J : It} {H1 H2 : Hp} {ds : List Dt} (j : JD K J H1 ds) (s : Same H1 H2) : JD K J H2 ds :=
  ⟨fun H' s' => j.stop H' (s.trans s'), fun i H' hi s' => j.go i H' hi (s.trans s'), fun i H x H' hi s' => j.yld i H x H' hi (s.trans s')⟩
def ID (K : PySem.W.Frag) (wi : TI) (r : En) (ds : List Dt) : Prop := ∀ (σ : L2.St) (H : Hp) (R : It → Hp → Prop), EnvD K H σ r → (∀ J H1, Same H H1 → JD K J H1 ds → R J H1) → wi σ H R
variable {r : En} {tl te : TE} {ta : TA} {ds : List Dt}
theorem id_list (h : ED K tl r (.lst ds)) : ID K (iList K tl) r ds := fun σ H R ev k => h σ H _ ev fun v H1 s1 r1 => by
  obtain ⟨a, xs, rfl, ha, hv⟩ := r1.lst_of
  refine ⟨a, rfl, ⟨xs, SqL.of ha⟩, k _ H1 s1 ⟨fun H' s => ⟨xs, SqL.of (s _ _ ha), by rw [hv.length]; exact Nat.le_refl _⟩, fun i H' hi s => ?_, fun i H x H' hi s y => ?_⟩⟩
  · exact ⟨xs, xs[i]'(by rw [hv.length]; exact hi), SqL.of (s _ _ ha), List.getElem?_eq_getElem _⟩
  · obtain ⟨e, y⟩ := y
    subst e
    have hx := y xs (SqL.of (s _ _ ha))
    obtain ⟨d, h1, h2⟩ := (hv.mono s).get' hx
    exact ⟨rfl, d, h1, h2⟩
theorem id_tup (h : ED K tl r (.tup ds)) : ID K (iTup K tl) r ds := fun σ H R ev k => h σ H _ ev fun v H1 s1 r1 => by
  obtain ⟨a, xs, rfl, ha, hv⟩ := r1.tup_of
  refine ⟨a, rfl, ⟨xs, SqT.of ha⟩, k _ H1 s1 ⟨fun H' s => ⟨xs, SqT.of (s _ _ ha), by rw [hv.length]; exact Nat.le_refl _⟩, fun i H' hi s => ?_, fun i H x H' hi s y => ?_⟩⟩
  · exact ⟨xs, xs[i]'(by rw [hv.length]; exact hi), SqT.of (s _ _ ha), List.getElem?_eq_getElem _⟩
  · obtain ⟨e, y⟩ := y
    subst e
    have hx := y xs (SqT.of (s _ _ ha))
    obtain ⟨d, h1, h2⟩ := (hv.mono s).get' hx
    exact ⟨rfl, d, h1, h2⟩
theorem id_ktup (h : ED K tl r (.ktup ds)) : ID K (iTup K tl) r ds := fun σ H R ev k => h σ H _ ev fun v H1 s1 r1 => by
  obtain ⟨a, xs, rfl, ha, hv⟩ := r1.ktup_of
  refine ⟨a, rfl, ⟨xs, ha.sq H1⟩, k _ H1 s1 ⟨fun H' s => ⟨xs, ha.sq H', by rw [hv.length]; exact Nat.le_refl _⟩, fun i H' hi s => ?_, fun i H x H' hi s y => ?_⟩⟩
  · exact ⟨xs, xs[i]'(by rw [hv.length]; exact hi), ha.sq H', List.getElem?_eq_getElem _⟩
  · obtain ⟨e, y⟩ := y
    subst e
    have hx := y xs (ha.sq H')
    obtain ⟨d, h1, h2⟩ := (hv.mono s).get' hx
    exact ⟨rfl, d, h1, h2⟩
/-- the intsF from lo on -/
def intsF (lo : Int) (n : Nat) : List Dt := (List.range n).map fun i => Dt.int (lo + (i : Nat))
theorem ints_len (lo : Int) (n : Nat) : (intsF lo n).length = n := by unfold intsF; rw [List.length_map, List.length_range]
theorem ints_at {lo : Int} {n i : Nat} (h : i < n) : (intsF lo n)[i]? = some (.int (lo + (i : Nat))) := by
  unfold intsF
  rw [List.getElem?_map, List.getElem?_range h]
  rfl
theorem jd_range (lo : Int) (n : Nat) (H1 : Hp) : JD K (Itr lo n) H1 (intsF lo n) := by
  refine ⟨fun H' _ => ?_, fun i H' hi _ => ?_, fun i H x H' hi _ y => ?_⟩
  · show n ≤ (intsF lo n).length
    rw [ints_len]
    exact Nat.le_refl _
  · rw [ints_len] at hi
    exact hi
  · rw [ints_len] at hi
    obtain ⟨e, y⟩ := y
    subst e
    subst y
    exact ⟨rfl, _, ints_at hi, .int _⟩
theorem id_rng1 {n : Int} (h : AD K ta r [.int n]) (hn : 0 ≤ n ∧ n ≤ 100000) : ID K (iRng1 ta) r (intsF 0 n.toNat) := fun σ H R ev k => h σ H _ ev fun vs H1 s1 r1 => by
  obtain ⟨v, rfl, rv⟩ := rps1 r1
  rw [rv.int_of]
  exact ⟨n, rfl, by omega, by omega, k _ H1 s1 (jd_range 0 _ H1)⟩
theorem id_rng2 {lo n : Int} (h : AD K ta r [.int lo, .int n]) (hn : -100000 ≤ lo ∧ lo ≤ 100000 ∧ -100000 ≤ n ∧ n ≤ 100000) : ID K (iRng2 ta) r (intsF lo (n - lo).toNat) := fun σ H R ev k => h σ H _ ev fun vs H1 s1 r1 => by
  obtain ⟨v, w, rfl, rv, rw'⟩ := rps2 r1
  rw [rv.int_of, rw'.int_of]
  exact ⟨lo, n, rfl, ⟨by omega, by omega, by omega, by omega⟩, k _ H1 s1 (jd_range lo _ H1)⟩

/-! ### targets -/
def GD (K : PySem.W.Frag) (g : TG) (vs : List Nat) (r : En) (d : Dt) (r' : En) : Prop := ∀ (v : V) (σ : L2.St) (B H : Hp) (Q : L2.St → Hp → Prop), Same B H → Rp K B v d → EnvD K B σ r → (∀ σ', EnvD K B σ' r' → wipe σ' vs = wipe σ vs → Q σ' H) → g v σ H Q
theorem gd_name {j : Nat} {vs : List Nat} {d : Dt} (h : j ∈ vs) : GD K (gName j) vs r d (r.set j (some d)) := fun v σ B H Q _ rv ev k => k _ (ev.set rv) (wipe_set h)
theorem names_go2 : ∀ {is : List Nat} {ds : List Dt} {vs : List V} {σ : L2.St} {B H : Hp} {r : En} {ws : List Nat} {Q : L2.St → Hp → Prop}, is.length = ds.length → (∀ i ∈ is, i ∈ ws) → Rps K B vs ds → EnvD K B σ r → (∀ σ', EnvD K B σ' (setAll r is ds) → wipe σ' ws = wipe σ ws → Q σ' H) → gNames is vs σ H Q
  | [], [], _, σ, B, H, r, ws, Q, _, _, hv, ev, k => by
    cases hv
    exact ⟨rfl, k σ ev rfl⟩
  | [], _ :: _, _, _, _, _, _, _, _, e, _, _, _, _ => by simp at e
  | _ :: _, [], _, _, _, _, _, _, _, e, _, _, _, _ => by simp at e
  | i :: is, d :: ds, _, σ, B, H, r, ws, Q, e, hi, hv, ev, k => by
    cases hv with
    | cons a t => exact ⟨_, _, rfl, names_go2 (by simpa using e) (fun j hj => hi j (List.mem_cons_of_mem _ hj)) t (ev.set a) fun σ' e' w => k σ' e' (w.trans (wipe_set (hi i (List.mem_cons_self ..))))⟩
theorem gd_tup {is vs : List Nat} {n : Nat} (hi : ∀ i ∈ is, i ∈ vs) (e1 : is.length = ds.length) (e2 : ds.length = n) : GD K (gTup K n (gNames is)) vs r (.tup ds) (setAll r is ds) := fun v σ B H Q sb rv ev k => by
  obtain ⟨a, xs, rfl, ha, hv⟩ := rv.tup_of
  exact ⟨a, xs, rfl, SqT.of (sb _ _ ha), by rw [hv.length, e2], names_go2 e1 hi hv ev k⟩
theorem gd_ktup {is vs : List Nat} {n : Nat} (hi : ∀ i ∈ is, i ∈ vs) (e1 : is.length = ds.length) (e2 : ds.length = n) : GD K (gTup K n (gNames is)) vs r (.ktup ds) (setAll r is ds) := fun v σ B H Q sb rv ev k => by
  obtain ⟨a, xs, rfl, ha, hv⟩ := rv.ktup_of
  exact ⟨a, xs, rfl, ha.sq H, by rw [hv.length, e2], names_go2 e1 hi hv ev k⟩

/-! ### for -/
variable {wi : TI} {g : TG} {tb : TS}
/-- each turn goes on: rs i the slots ahead of turn i -/
theorem sd_for {vs : List Nat} (hi : ID K wi r ds) (rs : Nat → En) (h0 : rs 0 = r) (rt : Nat → En) (hg : ∀ i d, ds[i]? = some d → GD K g vs (rs i) d (rt i)) (hs : ∀ i d, ds[i]? = some d → SD K tb (rt i) (.nx (rs (i + 1)))) : SD K (tFor wi g tb) r (.nx (rs ds.length)) := fun D σ H ev k => hi σ H _ ev fun J H1 s1 j => by
  refine ⟨fun i m σ' H' => m = ds.length - i ∧ i ≤ ds.length ∧ Same H1 H' ∧ EnvD K H' σ' (rs i), ⟨ds.length, by simp, Nat.zero_le _, Same.refl _, by rw [h0]; exact ev.mono s1⟩, ?_⟩
  rintro i m σ' H' ⟨rfl, hi, s', e'⟩
  by_cases hlt : i < ds.length
  · refine .inr ⟨j.go i H' hlt s', fun σ2 H2 => Same H1 H2 ∧ EnvD K H2 σ2 (rs (i + 1)), fun σ2 H2 q => ⟨ds.length - (i + 1), by omega, rfl, hlt, q.1, q.2⟩, fun x H2 y => ?_⟩
    obtain ⟨e, d, hd, rx⟩ := j.yld i H' x H2 hlt s' y
    subst e
    exact hg i d hd x σ' H2 H2 _ (Same.refl _) rx e' fun σ2 e2 _ => hs i d hd _ σ2 H2 e2 fun σ3 H3 s3 e3 => ⟨s'.trans s3, e3⟩
  · have e : i = ds.length := by omega
    subst e
    exact .inl ⟨j.stop H' s', k σ' H' (s1.trans s') e'⟩
/-- the turn m returns -/
theorem sd_forR {vs : List Nat} {o : Dt} {m : Nat} (hi : ID K wi r ds) (hm : m < ds.length) (rs : Nat → En) (h0 : rs 0 = r) (rt : Nat → En) (hg : ∀ i d, i ≤ m → ds[i]? = some d → GD K g vs (rs i) d (rt i)) (hs : ∀ i d, i < m → ds[i]? = some d → SD K tb (rt i) (.nx (rs (i + 1))))
    (he : ∀ d, ds[m]? = some d → SD K tb (rt m) (.rt o)) : SD K (tFor wi g tb) r (.rt o) := fun D σ H ev k => hi σ H _ ev fun J H1 s1 j => by
  refine ⟨fun i n σ' H' => n = ds.length - i ∧ i ≤ m ∧ Same H1 H' ∧ EnvD K H' σ' (rs i), ⟨ds.length, by simp, Nat.zero_le _, Same.refl _, by rw [h0]; exact ev.mono s1⟩, ?_⟩
  rintro i n σ' H' ⟨rfl, hi, s', e'⟩
  have hlt : i < ds.length := by omega
  refine .inr ⟨j.go i H' hlt s', fun σ2 H2 => i < m ∧ Same H1 H2 ∧ EnvD K H2 σ2 (rs (i + 1)), fun σ2 H2 q => ⟨ds.length - (i + 1), by omega, rfl, q.1, q.2.1, q.2.2⟩, fun x H2 y => ?_⟩
  obtain ⟨e, d, hd, rx⟩ := j.yld i H' x H2 hlt s' y
  subst e
  refine hg i d hi hd x σ' H2 H2 _ (Same.refl _) rx e' fun σ2 e2 _ => ?_
  by_cases q : i < m
  · exact hs i d q hd _ σ2 H2 e2 fun σ3 H3 s3 e3 => ⟨q, s'.trans s3, e3⟩
  · have em : i = m := by omega
    subst em
    exact he d hd _ σ2 H2 e2 fun v H3 s3 r3 => k v H3 ((s1.trans s').trans s3) r3

/-! ### comprehensions -/
variable {tt : TT}
theorem take_snoc {α : Type} {ds : List α} {i : Nat} {d : α} (h : ds[i]? = some d) : ds.take (i + 1) = ds.take i ++ [d] := by
  rw [List.take_add_one, h]
  rfl
/-- [e for .. in .. if ..]: b tells which are kept, f what is made of each -/
theorem ed_lc {vs : List Nat} (hi : ID K wi r ds) (hz : ds.length ≤ 90000) (r' : Dt → En) (b : Dt → Bool) (f : Dt → Dt) (hg : ∀ d, d ∈ ds → GD K g vs (wipeD r vs) d (r' d)) (ht : ∀ d, d ∈ ds → TD K tt (r' d) (b d))
    (he : ∀ d, d ∈ ds → b d = true → ED K te (r' d) (f d)) (hf : ∀ d, d ∈ ds → flatD (f d) = true) : ED K (tLc wi g tt te vs) r (.lst ((ds.filter b).map f)) := fun σ H Q ev k => hi σ H _ ev fun J H1 s1 j D hD => by
  have hfl : ∀ i, flatDs (((ds.take i).filter b).map f) = true := fun i => flatDs_all fun d hd => by
    obtain ⟨e, he', rfl⟩ := List.mem_map.mp hd
    exact hf e (List.mem_of_mem_take (List.mem_filter.mp he').1)
  refine ⟨fun i m H' => m = ds.length - i ∧ i ≤ ds.length ∧ Same H1 H' ∧ ∃ acc, H' D = some (.lst acc) ∧ Rps K H' acc (((ds.take i).filter b).map f), ⟨ds.length, by simp, Nat.zero_le _, same_upd hD, [], upd_same, .nil⟩, ?_⟩
  rintro i m H' ⟨rfl, hi', s', acc, hacc, ra⟩
  by_cases hlt : i < ds.length
  · refine .inr ⟨j.go i H' hlt s', fun H2 => Same H1 H2 ∧ ∃ acc, H2 D = some (.lst acc) ∧ Rps K H2 acc (((ds.take (i + 1)).filter b).map f), fun H2 q => ⟨ds.length - (i + 1), by omega, rfl, hlt, q.1, q.2⟩, fun x H2 y => ?_⟩
    obtain ⟨e, d, hd, rx⟩ := j.yld i H' x H2 hlt s' y
    subst e
    have hm : d ∈ ds := List.mem_of_getElem? hd
    refine hg d hm x _ H2 H2 _ (Same.refl _) rx ((ev.mono (s1.trans s')).wipe vs) fun σ2 e2 w2 => ⟨w2.trans wipe_wipe, ?_⟩
    refine ht d hm σ2 H2 _ e2 fun H3 s3 => ?_
    have al : acc.length ≤ i := by
      rw [ra.length, List.length_map]
      refine Nat.le_trans (List.length_filter_le _ _) ?_
      rw [List.length_take]
      exact Nat.min_le_left _ _
    cases hb : b d with
    | true =>
      rw [if_pos rfl]
      refine he d hm hb σ2 H3 _ (e2.mono s3) fun v H4 s4 r4 => ⟨acc, s4 _ _ (s3 _ _ hacc), sz_lt (by omega), ?_, acc ++ [v], upd_same, ?_⟩
      · exact Same.mut ((s'.trans s3).trans s4) hD
      · have e5 : ((ds.take (i + 1)).filter b).map f = ((ds.take i).filter b).map f ++ [f d] := by
          rw [take_snoc hd, List.filter_append, List.map_append, List.filter_cons, if_pos hb]
          rfl
        rw [e5]
        have tu : Tups H4 (upd H4 D (.lst (acc ++ [v]))) := tups_upd fun xs q => by
          rw [s4 _ _ (s3 _ _ hacc)] at q
          cases q
        exact (((ra.mono (s3.trans s4)).kept tu _ _ (hfl i))).snoc (r4.kept tu _ _ (hf d hm))
    | false =>
      rw [if_neg Bool.false_ne_true]
      refine ⟨s'.trans s3, acc, s3 _ _ hacc, ?_⟩
      have e5 : ((ds.take (i + 1)).filter b).map f = ((ds.take i).filter b).map f := by
        rw [take_snoc hd, List.filter_append, List.map_append, List.filter_cons, if_neg (by rw [hb]; decide)]
        simp
      rw [e5]
      exact ra.mono s3
  · have e : i = ds.length := by omega
    subst e
    rw [List.take_length] at ra
    exact .inl ⟨j.stop H' s', k _ H' (s1.trans s') (.lst hacc ra)⟩
/-- without a test -/
theorem ed_lc1 {vs : List Nat} (hi : ID K wi r ds) (hz : ds.length ≤ 90000) (r' : Dt → En) (f : Dt → Dt) (hg : ∀ d, d ∈ ds → GD K g vs (wipeD r vs) d (r' d))
    (he : ∀ d, d ∈ ds → ED K te (r' d) (f d)) (hf : ∀ d, d ∈ ds → flatD (f d) = true) : ED K (tLc wi g tYes te vs) r (.lst (ds.map f)) := by
  have h := ed_lc (te := te) (tt := tYes) (g := g) hi hz r' (fun _ => true) f hg (fun _ _ => td_yes) (fun d hd _ => he d hd) hf
  rw [List.filter_eq_self.mpr fun _ _ => rfl] at h
  exact h
/-! two for -/
/-- all but D is kept -/
def SameB (D : Addr) (H H' : Hp) : Prop := ∀ a o, a ≠ D → H a = some o → H' a = some o
def delH (D : Addr) (H : Hp) : Hp := fun a => if a = D then none else H a
theorem del_same {D : Addr} {H : Hp} : Same (delH D H) H := fun a o e => by
  unfold delH at e
  by_cases q : a = D
  · rw [if_pos q] at e
    cases e
  · rw [if_neg q] at e
    exact e
theorem SameB.del {D : Addr} {H H' : Hp} (s : SameB D H H') : Same (delH D H) H' := fun a o e => by
  unfold delH at e
  by_cases q : a = D
  · rw [if_pos q] at e
    cases e
  · rw [if_neg q] at e
    exact s a o q e
theorem same_del {D : Addr} {H H' : Hp} (h : H D = none) (s : Same H H') : Same H (delH D H') := fun a o e => by
  unfold delH
  rw [if_neg (ne_of_none e h)]
  exact s a o e
theorem Same.but {D : Addr} {H H' : Hp} (s : Same H H') : SameB D H H' := fun a o _ e => s a o e
theorem SameB.trans {D : Addr} {H H1 H2 : Hp} (a : SameB D H H1) (b : SameB D H1 H2) : SameB D H H2 := fun c o q h => b c o q (a c o q h)
theorem SameB.upd {D : Addr} {H H' : Hp} {o : HO} (s : SameB D H H') : SameB D H (L2.upd H' D o) := fun a u q e => by
  rw [upd_ne q]
  exact s a u q e
structure JX (K : PySem.W.Frag) (J : It) (D : Addr) (H1 : Hp) (ds : List Dt) : Prop where
  stop : ∀ H', SameB D H1 H' → J.stop ds.length H'
  go : ∀ i H', i < ds.length → SameB D H1 H' → J.go i H'
  yld : ∀ i H x H', i < ds.length → SameB D H1 H → J.yld i H x H' → H' = H ∧ ∃ d, ds[i]? = some d ∧ Rp K H x d
def ID2 (K : PySem.W.Frag) (wi : TI) (r : En) (ds : List Dt) : Prop := ∀ (σ : L2.St) (H : Hp) (R : It → Hp → Prop) (D : Addr) (acc : List V), EnvD K H σ r → H D = some (.lst acc) → (∀ J H1, Same H H1 → JX K J D H1 ds → R J H1) → wi σ H R
theorem id2_ktup (h : ED K tl r (.ktup ds)) (hf : flatDs ds = true) : ID2 K (iTup K tl) r ds := fun σ H R D acc ev hD k => h σ H _ ev fun v H1 s1 r1 => by
  obtain ⟨a, xs, rfl, ha, hv⟩ := r1.ktup_of
  refine ⟨a, rfl, ⟨xs, ha.sq H1⟩, k _ H1 s1 ⟨fun H' s => ⟨xs, ha.sq H', by rw [hv.length]; exact Nat.le_refl _⟩, fun i H' hi s => ?_, fun i H x H' hi s y => ?_⟩⟩
  · exact ⟨xs, xs[i]'(by rw [hv.length]; exact hi), ha.sq H', List.getElem?_eq_getElem _⟩
  · obtain ⟨e, y⟩ := y
    subst e
    have hx := y xs (ha.sq H')
    have tu : Tups H1 H' := fun b ys e => s b _ (fun q => by
      rw [q, s1 _ _ hD] at e
      cases e) e
    obtain ⟨d, h1, h2⟩ := (hv.kept tu _ _ hf).get' hx
    exact ⟨rfl, d, h1, h2⟩
/-- a new list -/
def FD (K : PySem.W.Frag) (te : TE) (r : En) (ds : List Dt) : Prop := ∀ (σ : L2.St) (H : Hp) (Q : VK), EnvD K H σ r → (∀ a H' xs, Same H H' → H a = none → H' a = some (.lst xs) → Rps K H' xs ds → Q (.ref a) H') → te σ H Q
theorem FD.ed {r : En} {te : TE} {ds : List Dt} (h : FD K te r ds) : ED K te r (.lst ds) := fun σ H Q ev k => h σ H Q ev fun a H' xs s _ hH hr => k _ H' s (.lst hH hr)
theorem none_of_same {H H' : Hp} {a : Addr} (s : Same H H') (h : H' a = none) : H a = none := by
  cases q : H a with
  | none => rfl
  | some o => rw [s a o q] at h; cases h
/-- two for, no test -/
theorem fd_lc2 {vs vs1 : List Nat} {wi1 : TI} {g1 : TG} (hi : ID K wi r ds) (r' : Dt → En) (ds1 : Dt → List Dt) (r1 : Dt → Dt → En) (f : Dt → Dt → Dt) (hfd : flatDs ds = true) (hg : ∀ d, d ∈ ds → GD K g vs (wipeD r vs) d (r' d))
    (hi1 : ∀ d, d ∈ ds → ID2 K wi1 (r' d) (ds1 d)) (hg1 : ∀ d, d ∈ ds → ∀ e, e ∈ ds1 d → GD K g1 vs1 (wipeD (r' d) vs1) e (r1 d e)) (he : ∀ d, d ∈ ds → ∀ e, e ∈ ds1 d → ED K te (r1 d e) (f d e)) (hf : ∀ d, d ∈ ds → ∀ e, e ∈ ds1 d → flatD (f d e) = true)
    (hz : (ds.flatMap fun d => (ds1 d).map (f d)).length ≤ 90000) : FD K (tLc2 wi g tYes wi1 g1 tYes te vs vs1) r (ds.flatMap fun d => (ds1 d).map (f d)) := fun σ H Q ev k => hi σ H _ ev fun J H1 s1 j D hD => by
  have sub : ∀ i d, ds[i]? = some d → ∀ m, (((ds.take i).flatMap fun d => (ds1 d).map (f d)) ++ ((ds1 d).take m).map (f d)).length ≤ 90000 := fun i d hd m => by
    refine Nat.le_trans ?_ hz
    have e1 : ds = ds.take i ++ (d :: ds.drop (i + 1)) := by
      have hlt : i < ds.length := (List.getElem?_eq_some_iff.mp hd).1
      have e2 : d = ds[i] := ((List.getElem?_eq_some_iff.mp hd).2).symm
      rw [e2, ← List.drop_eq_getElem_cons hlt, List.take_append_drop]
    have e3 : (ds.flatMap fun d => (ds1 d).map (f d)) = ((ds.take i).flatMap fun d => (ds1 d).map (f d)) ++ ((ds1 d).map (f d) ++ ((ds.drop (i + 1)).flatMap fun d => (ds1 d).map (f d))) := by
      conv => lhs; rw [e1]
      rw [List.flatMap_append, List.flatMap_cons]
    rw [e3, List.length_append, List.length_append, List.length_append, List.length_map, List.length_map, List.length_take]
    have := Nat.min_le_right m (ds1 d).length
    omega
  have hfl : ∀ i, flatDs ((ds.take i).flatMap fun d => (ds1 d).map (f d)) = true := fun i => flatDs_all fun x hx => by
    obtain ⟨d, hd, hx⟩ := List.mem_flatMap.mp hx
    obtain ⟨e, he', rfl⟩ := List.mem_map.mp hx
    exact hf d (List.mem_of_mem_take hd) e he'
  refine ⟨fun i m H' => m = ds.length - i ∧ i ≤ ds.length ∧ Same H1 H' ∧ ∃ acc, H' D = some (.lst acc) ∧ Rps K H' acc ((ds.take i).flatMap fun d => (ds1 d).map (f d)), ⟨ds.length, by simp, Nat.zero_le _, same_upd hD, [], upd_same, .nil⟩, ?_⟩
  rintro i m H' ⟨rfl, hi', s', acc, hacc, ra⟩
  by_cases hlt : i < ds.length
  · refine .inr ⟨j.go i H' hlt s', fun H2 => Same H1 H2 ∧ ∃ acc, H2 D = some (.lst acc) ∧ Rps K H2 acc ((ds.take (i + 1)).flatMap fun d => (ds1 d).map (f d)), fun H2 q => ⟨ds.length - (i + 1), by omega, rfl, hlt, q.1, q.2⟩, fun x H2 y => ?_⟩
    obtain ⟨e, d, hd, rx⟩ := j.yld i H' x H2 hlt s' y
    subst e
    have hm : d ∈ ds := List.mem_of_getElem? hd
    have fd : flatD d = true := by
      have q : ∀ (l : List Dt), flatDs l = true → ∀ d ∈ l, flatD d = true := by
        intro l
        induction l with
        | nil => intro _ d h; cases h
        | cons a l ih =>
          intro h d hd
          simp only [flatDs, Bool.and_eq_true] at h
          rcases List.mem_cons.mp hd with e | e
          · rw [e]; exact h.1
          · exact ih h.2 d e
      exact q ds hfd d hm
    have tdel : Tups H2 (delH D H2) := fun b ys e => by
      unfold delH
      rw [if_neg (fun q => by rw [q, hacc] at e; cases e)]
      exact e
    refine hg d hm x _ (delH D H2) H2 _ del_same (rx.kept tdel _ _ fd) ((ev.mono (s1.trans (same_del hD s'))).wipe vs) fun σ2 e2 w2 => ⟨w2.trans wipe_wipe, ?_⟩
    refine hi1 d hm σ2 H2 _ D acc (e2.mono del_same) hacc fun J1 H4 s4 j1 => ?_
    refine ⟨fun q n H5 => n = (ds1 d).length - q ∧ q ≤ (ds1 d).length ∧ SameB D H4 H5 ∧ ∃ acc, H5 D = some (.lst acc) ∧ Rps K H5 acc (((ds.take i).flatMap fun d => (ds1 d).map (f d)) ++ ((ds1 d).take q).map (f d)), ⟨(ds1 d).length, by simp, Nat.zero_le _, Same.but (Same.refl _), acc, s4 _ _ hacc, by simpa using ra.mono s4⟩, ?_⟩
    rintro q n H5 ⟨rfl, hq, s5, acc5, hacc5, ra5⟩
    have s15 : Same H1 H5 := fun a o ha => s5 a o (ne_of_none ha hD) (s4 _ _ (s' _ _ ha))
    by_cases hql : q < (ds1 d).length
    · refine .inr ⟨j1.go q H5 hql s5, fun H6 => SameB D H4 H6 ∧ ∃ acc, H6 D = some (.lst acc) ∧ Rps K H6 acc (((ds.take i).flatMap fun d => (ds1 d).map (f d)) ++ ((ds1 d).take (q + 1)).map (f d)), fun H6 z => ⟨(ds1 d).length - (q + 1), by omega, rfl, hql, z.1, z.2⟩, fun x H6 y => ?_⟩
      obtain ⟨e, d', hd', rx'⟩ := j1.yld q H5 x H6 hql s5 y
      subst e
      have hm' : d' ∈ ds1 d := List.mem_of_getElem? hd'
      have e5 : EnvD K H6 σ2 (r' d) := e2.mono fun a o ha => s5 a o (fun z => by
        rw [z] at ha
        unfold delH at ha
        rw [if_pos rfl] at ha
        cases ha) (s4 _ _ (del_same _ _ ha))
      refine hg1 d hm d' hm' x _ H6 H6 _ (Same.refl _) rx' (e5.wipe vs1) fun σ3 e3 w3 => ⟨w3.trans wipe_wipe, ?_⟩
      refine he d hm d' hm' σ3 H6 _ e3 fun v H7 s7 r7 => ⟨acc5, s7 _ _ hacc5, ?_, (s5.trans (Same.but s7)).upd, acc5 ++ [v], upd_same, ?_⟩
      · have z := sub i d hd q
        rw [← ra5.length] at z
        exact sz_lt (by omega)
      · have e7 : ((ds1 d).take (q + 1)).map (f d) = ((ds1 d).take q).map (f d) ++ [f d d'] := by
          rw [take_snoc hd', List.map_append]
          rfl
        rw [e7, ← List.append_assoc]
        have tu : Tups H7 (L2.upd H7 D (.lst (acc5 ++ [v]))) := tups_upd fun xs z => by
          rw [s7 _ _ hacc5] at z
          cases z
        have fl5 : flatDs (((ds.take i).flatMap fun d => (ds1 d).map (f d)) ++ ((ds1 d).take q).map (f d)) = true := flatDs_all fun z hz => by
          rcases List.mem_append.mp hz with hz | hz
          · obtain ⟨u, hu, hz⟩ := List.mem_flatMap.mp hz
            obtain ⟨e, he', rfl⟩ := List.mem_map.mp hz
            exact hf u (List.mem_of_mem_take hu) e he'
          · obtain ⟨e, he', rfl⟩ := List.mem_map.mp hz
            exact hf d hm e (List.mem_of_mem_take he')
        exact (((ra5.mono s7).kept tu _ _ fl5)).snoc (r7.kept tu _ _ (hf d hm d' hm'))
    · have e : q = (ds1 d).length := by omega
      subst e
      rw [List.take_length] at ra5
      refine .inl ⟨j1.stop H5 s5, s15, acc5, hacc5, ?_⟩
      rw [take_snoc hd, List.flatMap_append]
      simpa using ra5
  · have e : i = ds.length := by omega
    subst e
    rw [List.take_length] at ra
    exact .inl ⟨j.stop H' s', k D H' acc (s1.trans s') (none_of_same s1 hD) hacc ra⟩
theorem ed_lc2 {vs vs1 : List Nat} {wi1 : TI} {g1 : TG} (hi : ID K wi r ds) (r' : Dt → En) (ds1 : Dt → List Dt) (r1 : Dt → Dt → En) (f : Dt → Dt → Dt) (hfd : flatDs ds = true) (hg : ∀ d, d ∈ ds → GD K g vs (wipeD r vs) d (r' d))
    (hi1 : ∀ d, d ∈ ds → ID2 K wi1 (r' d) (ds1 d)) (hg1 : ∀ d, d ∈ ds → ∀ e, e ∈ ds1 d → GD K g1 vs1 (wipeD (r' d) vs1) e (r1 d e)) (he : ∀ d, d ∈ ds → ∀ e, e ∈ ds1 d → ED K te (r1 d e) (f d e)) (hf : ∀ d, d ∈ ds → ∀ e, e ∈ ds1 d → flatD (f d e) = true)
    (hz : (ds.flatMap fun d => (ds1 d).map (f d)).length ≤ 90000) : ED K (tLc2 wi g tYes wi1 g1 tYes te vs vs1) r (.lst (ds.flatMap fun d => (ds1 d).map (f d))) :=
  (fd_lc2 hi r' ds1 r1 f hfd hg hi1 hg1 he hf hz).ed
end
end SB
/-! further rules: in, ==, < of tuples; three comparisons in a chain -/
namespace SB
open PySem L2

/-! ### data of the library -/
mutual
def toPy : Dt → PyData
  | .non => .none
  | .bl b => .bool b
  | .int i => .int i
  | .str x => .str x
  | .ty _ => .none
  | .lst ds => .list (toPys ds)
  | .tup ds => .tuple (toPys ds)
  | .ktup ds => .tuple (toPys ds)
  | .tab _ => .none
def toPys : List Dt → List PyData
  | [] => []
  | d :: ds => toPy d :: toPys ds
end
mutual
def layD : Dt → Bool
  | .non => true
  | .bl _ => true
  | .int _ => true
  | .str x => PyData.strOk x
  | .ty _ => false
  | .lst ds => layDs ds
  | .tup ds => layDs ds
  | .ktup ds => layDs ds
  | .tab _ => false
def layDs : List Dt → Bool
  | [] => true
  | d :: ds => layD d && layDs ds
end
theorem toPys_map : ∀ ds : List Dt, toPys ds = ds.map toPy
  | [] => rfl
  | d :: ds => by rw [toPys, toPys_map ds]; rfl
section
variable {K : PySem.W.Frag} {H H' : Hp}
mutual
theorem Rp.dp : ∀ (d : Dt) (v : V), layD d = true → Rp K H v d → Dp K H v (toPy d)
  | .non, _, _, r => by cases r; exact .non
  | .bl b, _, _, r => by cases r; exact .bl b
  | .int i, _, _, r => by cases r; exact .int i
  | .str x, _, _, r => by cases r; exact .str x
  | .ty _, _, l, _ => by simp [layD] at l
  | .lst ds, _, l, r => by cases r with | lst h t => exact .lst (SqL.of h) (Rps.dp ds _ (by simpa [layD] using l) t)
  | .tup ds, _, l, r => by cases r with | tup h t => exact .tup (SqT.of h) (Rps.dp ds _ (by simpa [layD] using l) t)
  | .ktup ds, _, l, r => by cases r with | ktup h t => exact .tup (h.sq H) (Rps.dp ds _ (by simpa [layD] using l) t)
  | .tab _, _, l, _ => by simp [layD] at l
theorem Rps.dp : ∀ (ds : List Dt) (vs : List V), layDs ds = true → Rps K H vs ds → DpAll K H vs (toPys ds)
  | [], _, _, r => by cases r; exact .nil
  | d :: ds, _, l, r => by
    simp only [layDs, Bool.and_eq_true] at l
    cases r with | cons a t => exact .cons (Rp.dp d _ l.1 a) (Rps.dp ds _ l.2 t)
end
mutual
theorem lay_can : ∀ d : Dt, layD d = true → (toPy d).canLay0 = true
  | .non, _ => by simp [toPy, PyData.canLay0]
  | .bl _, _ => by simp [toPy, PyData.canLay0]
  | .int _, _ => by simp [toPy, PyData.canLay0]
  | .str x, l => by simpa [toPy, PyData.canLay0, layD] using l
  | .ty _, l => by simp [layD] at l
  | .lst ds, l => by
    simp only [toPy, PyData.canLay0]
    exact lays_can ds (by simpa [layD] using l)
  | .tup ds, l => by
    simp only [toPy, PyData.canLay0]
    exact lays_can ds (by simpa [layD] using l)
  | .ktup ds, l => by
    simp only [toPy, PyData.canLay0]
    exact lays_can ds (by simpa [layD] using l)
  | .tab _, l => by simp [layD] at l
theorem lays_can : ∀ ds : List Dt, layDs ds = true → PyData.canLayAll0 (toPys ds) = true
  | [], _ => by simp [toPys, PyData.canLayAll0]
  | d :: ds, l => by
    simp only [layDs, Bool.and_eq_true] at l
    simp only [toPys, PyData.canLayAll0, Bool.and_eq_true]
    exact ⟨lay_can d l.1, lays_can ds l.2⟩
end
/-! ### key tuples -/
def keyOk : Key → Bool
  | .inl _ => true
  | .inr x => PyData.strOk x
theorem lay_kds : ∀ {ks : List Key}, ks.all keyOk = true → layDs (ks.map kd) = true
  | [], _ => rfl
  | k :: ks, h => by
    simp only [List.all_cons, Bool.and_eq_true] at h
    show (layD (kd k) && layDs (ks.map kd)) = true
    rw [lay_kds h.2]
    cases k with
    | inl i => rfl
    | inr x =>
      show (PyData.strOk x && true) = true
      rw [show PyData.strOk x = true from h.1]
      rfl
theorem lay_tk {ks : List Key} (h : ks.all keyOk = true) : layD (tk ks) = true := lay_kds h
theorem depth_kds : ∀ ks : List Key, PyData.depthAll (toPys (ks.map kd)) = 0
  | [] => by simp [toPys, PyData.depthAll]
  | k :: ks => by
    show PyData.depthAll (toPy (kd k) :: toPys (ks.map kd)) = 0
    rw [PyData.depthAll, depth_kds ks]
    cases k <;> simp [kd, toPy, PyData.depth]
theorem depth_tk (ks : List Key) : (toPy (tk ks)).depth = 1 := by
  show (PyData.tuple (toPys (ks.map kd))).depth = 1
  rw [PyData.depth, depth_kds]
theorem shaped_of {d : Dt} (l : layD d = true) (h : (toPy d).depth ≤ 64) : SeqAt.shaped (toPy d) = true := by
  show ((toPy d).canLay0 && decide ((toPy d).depth ≤ 64)) = true
  rw [lay_can d l, decide_eq_true h]
  rfl
theorem eqv_kds : ∀ ks ls : List Key, PyData.eqvAll (toPys (ks.map kd)) (toPys (ls.map kd)) = decide (ks = ls)
  | [], [] => by simp [toPys, PyData.eqvAll]
  | [], l :: ls => by simp [toPys, PyData.eqvAll]
  | k :: ks, [] => by simp [toPys, PyData.eqvAll]
  | k :: ks, l :: ls => by
    show PyData.eqvAll (toPy (kd k) :: toPys (ks.map kd)) (toPy (kd l) :: toPys (ls.map kd)) = _
    rw [PyData.eqvAll, eqv_kds ks ls]
    have e : PyData.eqv (toPy (kd k)) (toPy (kd l)) = decide (k = l) := by
      cases k with
      | inl i =>
        cases l with
        | inl j =>
          have e1 : PyData.eqv (toPy (kd (.inl i))) (toPy (kd (.inl j))) = (i == j) := by simp [kd, toPy, PyData.eqv]
          rw [e1]
          by_cases q : i = j
          · subst q
            simp
          · rw [beq_eq_false_iff_ne.mpr q, decide_eq_false fun z => q (Sum.inl.inj z)]
        | inr y =>
          rw [decide_eq_false (fun z => nomatch z)]
          simp [kd, toPy, PyData.eqv]
      | inr x =>
        cases l with
        | inl j =>
          rw [decide_eq_false (fun z => nomatch z)]
          simp [kd, toPy, PyData.eqv]
        | inr y =>
          have e1 : PyData.eqv (toPy (kd (.inr x))) (toPy (kd (.inr y))) = (x == y) := by simp [kd, toPy, PyData.eqv]
          rw [e1]
          by_cases q : x = y
          · subst q
            simp
          · rw [beq_eq_false_iff_ne.mpr q, decide_eq_false fun z => q (Sum.inr.inj z)]
    rw [e]
    by_cases q1 : k = l
    · by_cases q2 : ks = ls
      · subst q1 q2
        simp
      · rw [decide_eq_false q2, decide_eq_false fun z => q2 (List.cons.inj z).2, Bool.and_false]
    · rw [decide_eq_false q1, decide_eq_false fun z => q1 (List.cons.inj z).1, Bool.false_and]
theorem eqv_tk (ks ls : List Key) : PyData.eqv (toPy (tk ks)) (toPy (tk ls)) = decide (ks = ls) := by
  show PyData.eqv (.tuple (toPys (ks.map kd))) (.tuple (toPys (ls.map kd))) = _
  rw [PyData.eqv]
  exact eqv_kds ks ls
theorem lay_tks : ∀ {kss : List (List Key)}, (∀ ks ∈ kss, ks.all keyOk = true) → layDs (kss.map tk) = true
  | [], _ => rfl
  | ks :: kss, h => by
    show (layD (tk ks) && layDs (kss.map tk)) = true
    rw [lay_tk (h ks (List.mem_cons_self ..)), lay_tks fun k hk => h k (List.mem_cons_of_mem _ hk)]
    rfl
theorem depth_tks : ∀ kss : List (List Key), PyData.depthAll (toPys (kss.map tk)) ≤ 1
  | [] => by simp [toPys, PyData.depthAll]
  | ks :: kss => by
    show PyData.depthAll (toPy (tk ks) :: toPys (kss.map tk)) ≤ 1
    rw [PyData.depthAll, depth_tk]
    have := depth_tks kss
    omega
/-- ks is one of kss -/
def kin (ks : List Key) (kss : List (List Key)) : Bool := kss.any fun ls => decide (ls = ks)
theorem kin_iff {ks : List Key} {kss : List (List Key)} : kin ks kss = true ↔ ks ∈ kss := by
  unfold kin
  rw [List.any_eq_true]
  constructor
  · rintro ⟨l, h1, h2⟩
    rw [← of_decide_eq_true h2]
    exact h1
  · intro h
    exact ⟨ks, h, decide_eq_true rfl⟩
theorem any_tk (ks : List Key) : ∀ kss : List (List Key), ((toPys (kss.map tk)).any fun z => PyData.eqv z (toPy (tk ks))) = kin ks kss
  | [] => by simp [toPys, kin]
  | ls :: kss => by
    show (PyData.eqv (toPy (tk ls)) (toPy (tk ks)) || (toPys (kss.map tk)).any fun z => PyData.eqv z (toPy (tk ks))) = (decide (ls = ks) || kin ks kss)
    rw [any_tk ks kss, eqv_tk]
/-- a written tuple of such -/
abbrev kk (ks : List Key) : Dt := .ktup (ks.map kd)
theorem toPy_kk (ks : List Key) : toPy (kk ks) = toPy (tk ks) := rfl
theorem toPys_kks : ∀ kss : List (List Key), toPys (kss.map kk) = toPys (kss.map tk)
  | [] => rfl
  | ks :: kss => by
    show toPy (kk ks) :: toPys (kss.map kk) = toPy (tk ks) :: toPys (kss.map tk)
    rw [toPys_kks kss] <;> rfl
/-! ### == -/
theorem bd_eqT {ks ls : List Key} (h1 : ks.all keyOk = true) (h2 : ls.all keyOk = true) : BD K (rEqD K) (tk ks) (tk ls) (.bl (decide (ks = ls))) := fun x y H Q rx ry k => by
  refine ⟨_, _, Rp.dp _ _ (lay_tk h1) rx, Rp.dp _ _ (lay_tk h2) ry, shaped_of (lay_tk h1) (by rw [depth_tk]; decide), shaped_of (lay_tk h2) (by rw [depth_tk]; decide), ?_⟩
  rw [eqv_tk]
  exact k _ H (Same.refl H) (.bl _)
theorem bd_neT {ks ls : List Key} (h1 : ks.all keyOk = true) (h2 : ls.all keyOk = true) : BD K (rNeD K) (tk ks) (tk ls) (.bl (!decide (ks = ls))) := fun x y H Q rx ry k => by
  refine ⟨_, _, Rp.dp _ _ (lay_tk h1) rx, Rp.dp _ _ (lay_tk h2) ry, shaped_of (lay_tk h1) (by rw [depth_tk]; decide), shaped_of (lay_tk h2) (by rw [depth_tk]; decide), ?_⟩
  rw [eqv_tk]
  exact k _ H (Same.refl H) (.bl _)
theorem eqv_nilL (ds : List PyData) : PyData.eqv (.list ds) (.list []) = ds.isEmpty := by
  cases ds <;> simp [PyData.eqv, PyData.eqvAll]
theorem eqv_nilT (ds : List PyData) : PyData.eqv (.tuple ds) (.tuple []) = ds.isEmpty := by
  cases ds <;> simp [PyData.eqv, PyData.eqvAll]
theorem toPys_empty : ∀ ds : List Dt, (toPys ds).isEmpty = ds.isEmpty
  | [] => rfl
  | _ :: _ => rfl
/-- xs == [] -/
theorem bd_eqNil {ds : List Dt} (h : layDs ds = true) (hd : PyData.depthAll (toPys ds) ≤ 1) : BD K (rEqD K) (.lst ds) (.lst []) (.bl ds.isEmpty) := fun x y H Q rx ry k => by
  have l1 : layD (.lst ds) = true := h
  refine ⟨_, _, Rp.dp _ _ l1 rx, Rp.dp (.lst []) _ rfl ry, shaped_of l1 ?_, shaped_of (d := .lst []) rfl (by simp [toPy, toPys, PyData.depth, PyData.depthAll]), ?_⟩
  · show (PyData.list (toPys ds)).depth ≤ 64
    rw [PyData.depth]
    omega
  · show Q (.bl (PyData.eqv (.list (toPys ds)) (.list []))) H
    rw [eqv_nilL, toPys_empty]
    exact k _ H (Same.refl H) (.bl _)
/-- xs != () -/
theorem bd_neNil {ds : List Dt} (h : layDs ds = true) (hd : PyData.depthAll (toPys ds) ≤ 1) : BD K (rNeD K) (.tup ds) (.tup []) (.bl (!ds.isEmpty)) := fun x y H Q rx ry k => by
  have l1 : layD (.tup ds) = true := h
  refine ⟨_, _, Rp.dp _ _ l1 rx, Rp.dp (.tup []) _ rfl ry, shaped_of l1 ?_, shaped_of (d := .tup []) rfl (by simp [toPy, toPys, PyData.depth, PyData.depthAll]), ?_⟩
  · show (PyData.tuple (toPys ds)).depth ≤ 64
    rw [PyData.depth]
    omega
  · show Q (.bl (!PyData.eqv (.tuple (toPys ds)) (.tuple []))) H
    rw [eqv_nilT, toPys_empty]
    exact k _ H (Same.refl H) (.bl _)
/-! ### in -/
def rInA (K : PySem.W.Frag) (neg : Bool) : R2 := fun x y H Q => ∃ (d : PyData) (ds : List PyData), Dp K H x d ∧ (Dp K H y (.tuple ds) ∨ Dp K H y (.list ds)) ∧ SeqAt.shaped d = true ∧ PyData.canLayAll0 ds = true ∧
  Q (.bl (if neg = true then !(ds.any fun z => PyData.eqv z d) else ds.any fun z => PyData.eqv z d)) H
theorem o_inA {X : Cx} (hu : X.A.units + 65 < cLine) : OpR X (compareOp .In) (rInA X.K false) := by
  intro pins s σ H x y v u Q I rx ry h
  obtain ⟨d, ds, hd, he, sd, se, q⟩ := h
  obtain ⟨as, r1⟩ := Dp.reads I d x v hd rx
  rw [if_neg Bool.false_ne_true] at q
  rcases he with he | he
  · obtain ⟨bs, r2⟩ := Dp.reads I (.tuple ds) y u he ry
    exact SeqAt.in_tuple_reads r2 r1 se (SeqAt.canLay_of_shaped sd) (PyProof.Rows.room_in_shaped sd hu) ⟨.bl _, H, I, rfl, q⟩
  · obtain ⟨bs, r2⟩ := Dp.reads I (.list ds) y u he ry
    exact SeqAt.in_list_reads r2 r1 se (SeqAt.canLay_of_shaped sd) (PyProof.Rows.room_in_shaped sd hu) ⟨.bl _, H, I, rfl, q⟩
theorem o_notInA {X : Cx} (hu : X.A.units + 65 < cLine) : OpR X (compareOp .NotIn) (rInA X.K true) := by
  intro pins s σ H x y v u Q I rx ry h
  obtain ⟨d, ds, hd, he, sd, se, q⟩ := h
  obtain ⟨as, r1⟩ := Dp.reads I d x v hd rx
  rw [if_pos rfl] at q
  rcases he with he | he
  · obtain ⟨bs, r2⟩ := Dp.reads I (.tuple ds) y u he ry
    exact SeqAt.notIn_tuple_reads r2 r1 se (SeqAt.canLay_of_shaped sd) (PyProof.Rows.room_in_shaped sd hu) ⟨.bl _, H, I, rfl, q⟩
  · obtain ⟨bs, r2⟩ := Dp.reads I (.list ds) y u he ry
    exact SeqAt.notIn_list_reads r2 r1 se (SeqAt.canLay_of_shaped sd) (PyProof.Rows.room_in_shaped sd hu) ⟨.bl _, H, I, rfl, q⟩
def negB (neg b : Bool) : Bool := if neg = true then !b else b
theorem bd_inT {neg : Bool} {ks : List Key} {kss : List (List Key)} (h1 : ks.all keyOk = true) (h2 : ∀ ks ∈ kss, ks.all keyOk = true) : BD K (rInA K neg) (tk ks) (.tup (kss.map tk)) (.bl (negB neg (kin ks kss))) := fun x y H Q rx ry k => by
  have l : layD (.tup (kss.map tk)) = true := lay_tks h2
  refine ⟨_, toPys (kss.map tk), Rp.dp _ _ (lay_tk h1) rx, .inl (Rp.dp _ _ l ry), shaped_of (lay_tk h1) (by rw [depth_tk]; decide), lays_can _ (lay_tks h2), ?_⟩
  rw [any_tk]
  exact k _ H (Same.refl H) (.bl _)
theorem bd_inL {neg : Bool} {ks : List Key} {kss : List (List Key)} (h1 : ks.all keyOk = true) (h2 : ∀ ks ∈ kss, ks.all keyOk = true) : BD K (rInA K neg) (tk ks) (.lst (kss.map tk)) (.bl (negB neg (kin ks kss))) := fun x y H Q rx ry k => by
  have l : layD (.lst (kss.map tk)) = true := lay_tks h2
  refine ⟨_, toPys (kss.map tk), Rp.dp _ _ (lay_tk h1) rx, .inr (Rp.dp _ _ l ry), shaped_of (lay_tk h1) (by rw [depth_tk]; decide), lays_can _ (lay_tks h2), ?_⟩
  rw [any_tk]
  exact k _ H (Same.refl H) (.bl _)
theorem lay_kks : ∀ {kss : List (List Key)}, (∀ ks ∈ kss, ks.all keyOk = true) → layDs (kss.map kk) = true
  | [], _ => rfl
  | ks :: kss, h => by
    show (layD (kk ks) && layDs (kss.map kk)) = true
    rw [lay_kks fun k hk => h k (List.mem_cons_of_mem _ hk), Bool.and_true]
    exact lay_kds (h ks (List.mem_cons_self ..))
theorem bd_inK {neg : Bool} {ks : List Key} {kss : List (List Key)} (h1 : ks.all keyOk = true) (h2 : ∀ ks ∈ kss, ks.all keyOk = true) : BD K (rInA K neg) (tk ks) (.ktup (kss.map kk)) (.bl (negB neg (kin ks kss))) := fun x y H Q rx ry k => by
  have l : layD (.ktup (kss.map kk)) = true := lay_kks h2
  have q : Dp K H y (.tuple (toPys (kss.map kk))) := Rp.dp _ _ l ry
  rw [toPys_kks] at q
  refine ⟨_, toPys (kss.map tk), Rp.dp _ _ (lay_tk h1) rx, .inl q, shaped_of (lay_tk h1) (by rw [depth_tk]; decide), lays_can _ (lay_tks h2), ?_⟩
  rw [any_tk]
  exact k _ H (Same.refl H) (.bl _)
end

/-! ### a op b op c op d -/
section
variable {X : Cx} {a b c d : Expr} {ta tb tc td : TE} {pos : Pos}
def tChain3 (r r' r'' : R2) (ta tb tc td : TE) : TE := fun σ H Q => ta σ H fun x H1 => tb σ H1 fun y H2 => r x y H2 fun z H3 => ∃ k, z = .bl k ∧
  (if k = true then tc σ H3 fun w' H4 => r' y w' H4 fun z2 H5 => ∃ k2, z2 = .bl k2 ∧ (if k2 = true then td σ H5 fun w2 H6 => r'' w' w2 H6 Q else Q (.bl false) H5) else Q (.bl false) H3)
theorem ite_t {A B : Prop} (h : A) : (if true = true then A else B) := by
  rw [if_pos rfl]
  exact h
theorem ite_f {A B : Prop} (h : B) : (if false = true then A else B) := by
  rw [if_neg Bool.false_ne_true]
  exact h
theorem pe_chain3 {op op' op'' : CmpOp} {r r' r'' : R2} (ho : OpR X (compareOp op) r) (ho' : OpR X (compareOp op') r') (ho'' : OpR X (compareOp op'') r'') (ha : PE X a ta) (hb : PE X b tb) (hc : PE X c tc) (hd : PE X d td)
    (hm : lastMarks [op, op', op''] [b, c, d] = false := by with_unfolding_all rfl) : PE X (.Compare a [op, op', op''] [b, c, d] pos) (tChain3 r r' r'' ta tb tc td) := by
  refine ⟨fun pins s σ H Q I h => ?_⟩
  refine PyProof.Rows.Compare_chain (thn (ha.run pins s σ H _ I h) fun v s1 ⟨x, H1, I1, r1, q1⟩ => PyProof.Rows.chain_link (thn (hb.run pins s1 σ H1 _ I1 q1) fun u s2 ⟨y, H2, I2, r2, q2⟩ =>
    thn (ho pins s2 σ H2 x y v u _ I2 r1 r2 q2) fun d1 s3 ⟨z, H3, I3, r3, k, e, q3⟩ => ?_)) hm
  subst e
  cases r3
  refine wpAny_truthy_bool ?_
  cases k with
  | false => exact ite_f ⟨.bl false, H3, I3, rfl, q3⟩
  | true =>
    refine ite_t (PyProof.Rows.chain_link (thn (hc.run pins s3 σ H3 _ I3 q3) fun w' s4 ⟨z', H4, I4, r4, q4⟩ => thn (ho' pins s4 σ H4 y z' u w' _ I4 r2 r4 q4) fun d2 s5 ⟨z2, H5, I5, r5, k2, e2, q5⟩ => ?_))
    subst e2
    cases r5
    refine wpAny_truthy_bool ?_
    cases k2 with
    | false => exact ite_f ⟨.bl false, H5, I5, rfl, q5⟩
    | true => exact ite_t (PyProof.Rows.chain_last (thn (hd.run pins s5 σ H5 _ I5 q5) fun w2 s6 ⟨z6, H6, I6, r6, q6⟩ => ho'' pins s6 σ H6 z' z6 w' w2 Q I6 r4 r6 q6))
end
theorem ed_chain3 {K : PySem.W.Frag} {r : En} {ta tb tc td : TE} {f f' f'' : R2} {a b c : Bool} {d1 d2 d3 d4 : Dt} (ha : ED K ta r d1) (hb : ED K tb r d2) (hf : BD K f d1 d2 (.bl a)) (hc : ED K tc r d3) (hf' : BD K f' d2 d3 (.bl b)) (hd : ED K td r d4) (hf'' : BD K f'' d3 d4 (.bl c)) :
    ED K (tChain3 f f' f'' ta tb tc td) r (.bl (a && (b && c))) := fun σ H Q ev k =>
  ha σ H _ ev fun x H1 s1 r1 => hb σ H1 _ (ev.mono s1) fun y H2 s2 r2 => hf x y H2 _ (r1.mono s2) r2 fun v H3 s3 r3 => ⟨a, r3.bl_of, by
    have t3 := (s1.trans s2).trans s3
    cases a with
    | true =>
      refine hc σ H3 _ (ev.mono t3) fun z H4 s4 r4 => hf' y z H4 _ (r2.mono (s3.trans s4)) r4 fun v H5 s5 r5 => ⟨b, r5.bl_of, ?_⟩
      have t5 := (t3.trans s4).trans s5
      cases b with
      | true => exact hd σ H5 _ (ev.mono t5) fun w H6 s6 r6 => hf'' z w H6 Q (r4.mono (s5.trans s6)) r6 fun v H7 s7 r7 => k v H7 ((t5.trans s6).trans s7) r7
      | false => exact k _ H5 t5 (.bl _)
    | false => exact k _ H3 t3 (.bl _)⟩
end SB
/-! < of tuples whose items are ints and texts, the first difference alone looked at -/
namespace SB
open PySem PySem.SeqAt
open PySem.AutoSeq1 (wpAny_loadPart')
open PySem.MeetsSeq PySem.MeetsSeq2 PySem.MeetsSeq3
open L2 (Key kV RelV Vals)

/-- two rows of values, item by item: the first that differ give k, none: fin -/
def LexRun (A : Around) (s : Shared) (fin k : Bool) : List (Value × Value) → Prop
  | [] => k = fin
  | p :: r => ∃ e, EqAt A s p.1 p.2 e ∧ (e = true → LexRun A s fin k r) ∧ (e = false → Ob.RcOp .Lt A s p.1 p.2 k)

theorem tup_lt (l b : Addr) (us ws : Array Value) (n1 n2 : Nat) (d1 d2 : Option Addr) (sl1 sl2 : Array (Option Value)) (k : Bool) :
    Meets (Builtin.«tuple.__lt__» ⟨[.ref l, .ref b], []⟩) (fun A R s => s.heap.get? l = some { cls := .type "tuple", dict := d1, data := .seq us n1, slots := sl1 } ∧
      s.heap.get? b = some { cls := .type "tuple", dict := d2, data := .seq ws n2, slots := sl2 } ∧ LexRun A.in1 s (decide (us.size < ws.size)) k (us.toList.zip ws.toList) ∧ R (.ok (.ret (.bool k))) s) :=
  .of_wp fun prog w A R s h => by
    obtain ⟨hp, g, d, tk, os⟩ := s
    obtain ⟨hl, hb, hx, hR⟩ := h
    have sub := AutoSeq1.sub_tuple_tuple
    wp_walk using wpAny_loadPart' hl, wpAny_loadPart' hb, wpAny_forIn_list _ (fun rest c s' => c.1 = none ∧ s' = ⟨hp, g, d, tk, os⟩ ∧ LexRun A.in1 ⟨hp, g, d, tk, os⟩ (decide (us.size < ws.size)) k rest) _
    case turn =>
      rintro ⟨y, x⟩ rest c s' ⟨hc, rfl, e, h1, h2, h3⟩
      refine wpAny_bind (h1 prog w _ _ ?_)
      cases e with
      | true =>
        wp_walk
        exact ⟨rfl, rfl, h2 rfl⟩
      | false =>
        have hr := h3 rfl prog w
        wp_walk using hr
        exact ⟨_, rfl, by simpa using hR⟩
    case fin =>
      rintro ⟨c1, c2⟩ s' ⟨hc, rfl, hk⟩
      simp only at hc
      subst hc
      have hk' : k = decide (us.size < ws.size) := hk
      rw [hk'] at hR
      wp_walk
      exact ⟨_, rfl, by simpa [Builtin.Tuple.tupleCompareSizes] using hR⟩
    case h =>
      exact ⟨rfl, rfl, hx⟩

theorem run_lt {A : Around} {s : Shared} {l b : Addr} {us ws : Array Value} {k : Bool} (hl : s.heap.IsTuple l us) (hb : s.heap.IsTuple b ws) (hu : A.units < cLine) (hx : LexRun A.in1 s (decide (us.size < ws.size)) k (us.toList.zip ws.toList)) :
    Ob.RcOp .Lt A s (.ref l) (.ref b) k := fun prog w E Q h => by
  obtain ⟨⟨c1, d1, t1, sl1⟩, o1, e1, n1, f1⟩ := id hl
  obtain ⟨⟨c2, d2, t2, sl2⟩, o2, e2, n2, f2⟩ := id hb
  simp only at e1 f1 e2 f2
  subst e1 f1 e2 f2
  exact richCompare_meets_room (op := .Lt) ⟨_, o1, rfl⟩ ⟨_, o2, rfl⟩ F.slot_tuple_lt F.entry_tuple_lt (F.args_tuple_lt_2 _ _) (tup_lt l b us ws n1 n2 d1 d2 sl1 sl2 k) ⟨o1, o2, hx, ⟨(fun x => nomatch x), h⟩⟩ hu

/-! ### by keys -/
def ltK : Key → Key → Option Bool
  | .inl i, .inl j => some (decide (i < j))
  | .inr x, .inr y => some (decide (x.cps.toList < y.cps.toList))
  | .inl _, .inr _ => none
  | .inr _, .inl _ => none
def ltO : List Key → List Key → Option Bool
  | [], [] => some false
  | [], _ :: _ => some true
  | _ :: _, [] => some false
  | k :: ks, l :: ls => if k = l then ltO ks ls else ltK k l
theorem eqAt_key {A : Around} {s : Shared} {k l : Key} {u v : Value} (r1 : RelV (kV k) u) (r2 : RelV (kV l) v) : EqAt A s u v (decide (k = l)) := by
  have e := L2.eqAt_V (A := A) (s := s) r1 r2 (by cases k <;> rfl) (by cases l <;> rfl)
  have e2 : L2.eqV (kV k) (kV l) = decide (k = l) := by
    cases k with
    | inl i =>
      cases l with
      | inl j =>
        show (i == j) = _
        by_cases q : i = j
        · subst q
          simp
        · rw [beq_eq_false_iff_ne.mpr q, decide_eq_false fun z => q (Sum.inl.inj z)]
      | inr y =>
        rw [decide_eq_false fun z => nomatch z]
        rfl
    | inr x =>
      cases l with
      | inl j =>
        rw [decide_eq_false fun z => nomatch z]
        rfl
      | inr y =>
        show (x == y) = _
        by_cases q : x = y
        · subst q
          simp
        · rw [beq_eq_false_iff_ne.mpr q, decide_eq_false fun z => q (Sum.inr.inj z)]
  rw [e2] at e
  exact e
theorem rc_str {A : Around} {s : Shared} (x y : Str) (t u : Tok) : Ob.RcOp .Lt A s (.str x t) (.str y u) (decide (x.cps.toList < y.cps.toList)) := fun prog w E Q h => DT.rcLt_str A s x t y u prog w E Q h
theorem lex_keys {A : Around} {s : Shared} {fin k : Bool} : ∀ {ks ls : List Key} {us ws : List Value}, Vals (ks.map kV) us → Vals (ls.map kV) ws → ltO ks ls = some k → fin = decide (ks.length < ls.length) → LexRun A s fin k (us.zip ws)
  | [], [], _, _, r1, r2, h, hf => by
    cases r1
    cases r2
    have e : false = k := Option.some.inj h
    show k = fin
    rw [← e, hf]
    rfl
  | [], l :: ls, _, _, r1, r2, h, hf => by
    cases r1
    have e : true = k := Option.some.inj h
    rw [List.zip_nil_left]
    show k = fin
    rw [← e, hf]
    exact (decide_eq_true (Nat.succ_pos _)).symm
  | c :: ks, [], _, _, r1, r2, h, hf => by
    cases r2
    have e : false = k := Option.some.inj h
    rw [List.zip_nil_right]
    show k = fin
    rw [← e, hf]
    exact (decide_eq_false (Nat.not_lt_zero _)).symm
  | c :: ks, l :: ls, _, _, r1, r2, h, hf => by
    rw [List.map_cons] at r1 r2
    cases r1 with
    | cons a1 t1 =>
      cases r2 with
      | cons a2 t2 =>
        rw [List.zip_cons_cons]
        have h' : (if c = l then ltO ks ls else ltK c l) = some k := h
        refine ⟨_, eqAt_key a1 a2, fun q => ?_, fun q => ?_⟩
        · rw [if_pos (of_decide_eq_true q)] at h'
          refine lex_keys t1 t2 h' ?_
          rw [hf]
          simp only [List.length_cons, Nat.add_lt_add_iff_right]
        · rw [if_neg (of_decide_eq_false q)] at h'
          cases c with
          | inl i =>
            cases l with
            | inl j =>
              have e : decide (i < j) = k := Option.some.inj h'
              obtain ⟨t, rfl⟩ := a1
              obtain ⟨u, rfl⟩ := a2
              rw [← e]
              exact Ob.RcOp.lt_int _ _ _ _
            | inr y => cases h'
          | inr x =>
            cases l with
            | inl j => cases h'
            | inr y =>
              have e : decide (x.cps.toList < y.cps.toList) = k := Option.some.inj h'
              obtain ⟨t, rfl⟩ := a1
              obtain ⟨u, rfl⟩ := a2
              rw [← e]
              exact rc_str x y t u
end SB
namespace SB
open PySem L2
def rLtQ : R2 := fun x y H Q => ∃ (a b : Addr) (ks ls : List Key) (k : Bool), x = .ref a ∧ y = .ref b ∧ H a = some (.tup (ks.map kV)) ∧ H b = some (.tup (ls.map kV)) ∧ ltO ks ls = some k ∧ Q (.bl k) H
theorem o_ltQ {X : Cx} (hu : X.A.units < cLine) : OpR X (compareOp .Lt) rLtQ := by
  intro pins s σ H x y v u Q I rx ry h
  obtain ⟨a, b, ks, ls, k, rfl, rfl, ha, hb, hk, q⟩ := h
  cases rx
  cases ry
  obtain ⟨us, r1, p1, _⟩ := I.tuple (SqT.of ha)
  obtain ⟨ws, r2, p2, _⟩ := I.tuple (SqT.of hb)
  have e1 : us.toArray.size = ks.length := by rw [List.size_toArray, ← r1.length, List.length_map]
  have e2 : ws.toArray.size = ls.length := by rw [List.size_toArray, ← r2.length, List.length_map]
  refine run_lt p1 p2 hu (lex_keys (ks := ks) (ls := ls) r1 r2 hk ?_) X.prog X.w _ _ ⟨.bl k, H, I, rfl, q⟩
  rw [e1, e2]
theorem bd_ltT {K : PySem.W.Frag} {ks ls : List Key} {k : Bool} (h : ltO ks ls = some k) : BD K rLtQ (tk ks) (tk ls) (.bl k) := fun x y H Q rx ry c => by
  obtain ⟨a, rfl, ha⟩ := rx.tk_of
  obtain ⟨b, rfl, hb⟩ := ry.tk_of
  exact ⟨a, b, ks, ls, k, rfl, rfl, ha, hb, h, c _ H (Same.refl H) (.bl _)⟩
end SB
/-! sorted of tuples whose items are ints and texts, by the rank that one gives -/
namespace SB
open PySem
open L2 (Key kV RelV Vals V)

/-- a tuple of these keys stands at the address v -/
def IsK (h : Heap) (v : Value) (ks : List Key) : Prop := ∃ b o us n, v = .ref b ∧ h.get? b = some o ∧ o.cls = .type "tuple" ∧ o.data = .seq us n ∧ Vals (ks.map kV) us.toList
theorem IsK.keeps {h h' : Heap} {v : Value} {ks : List Key} (p : IsK h v ks) (k : ∀ b o, h.get? b = some o → o.cls = .type "tuple" → h'.get? b = some o) : IsK h' v ks := by
  obtain ⟨b, o, us, n, e, ho, hc, hd, r⟩ := p
  exact ⟨b, o, us, n, e, k b o ho hc, hc, hd, r⟩
def keyInt : Key → Bool
  | .inl _ => true
  | .inr _ => false
def firstIs (f : Bool) (ks : List Key) : Prop := ∃ k r, ks = k :: r ∧ keyInt k = f

section
variable {prog : Program} {w : World} {A : Around} {E : Value → Shared → Prop} {s : Shared}
theorem kat_keys {fin k : Bool} {Q : Bool → Shared → Prop} : ∀ {ks ls : List Key} {us ws : List Value} {i : Nat}, Vals (ks.map kV) us → Vals (ls.map kV) ws → ltO ks ls = some k → fin = decide (ks.length < ls.length) → Q k s →
    PySem.W.KatLex prog w A true fin Q (us.zip ws) i s
  | [], [], _, _, i, r1, r2, h, hf, q => by
    cases r1
    cases r2
    have e : false = k := Option.some.inj h
    refine PySem.W.kat_nil ?_
    rw [hf]
    rw [← e] at q
    exact q
  | [], l :: ls, _, _, i, r1, r2, h, hf, q => by
    cases r1
    have e : true = k := Option.some.inj h
    rw [List.zip_nil_left]
    refine PySem.W.kat_nil ?_
    rw [hf, show decide (([] : List Key).length < (l :: ls).length) = true from decide_eq_true (Nat.succ_pos _)]
    rw [← e] at q
    exact q
  | c :: ks, [], _, _, i, r1, r2, h, hf, q => by
    cases r2
    have e : false = k := Option.some.inj h
    rw [List.zip_nil_right]
    refine PySem.W.kat_nil ?_
    rw [hf, show decide ((c :: ks).length < ([] : List Key).length) = false from decide_eq_false (Nat.not_lt_zero _)]
    rw [← e] at q
    exact q
  | c :: ks, l :: ls, _, _, i, r1, r2, h, hf, q => by
    rw [List.map_cons] at r1 r2
    cases r1 with
    | cons a1 t1 =>
      cases r2 with
      | cons a2 t2 =>
        rw [List.zip_cons_cons]
        have h' : (if c = l then ltO ks ls else ltK c l) = some k := h
        refine PySem.W.kat_cons (eqAt_key a1 a2 prog w _ _ (PySem.W.kat_go (fun z => ?_) fun z => ?_))
        · rw [if_pos (of_decide_eq_true z)] at h'
          refine PySem.W.kat_yes (kat_keys t1 t2 h' ?_ q)
          rw [hf]
          simp only [List.length_cons, Nat.add_lt_add_iff_right]
        · rw [if_neg (of_decide_eq_false z)] at h'
          refine PySem.W.kat_no ?_
          cases c with
          | inl x =>
            cases l with
            | inl y =>
              have e : decide (x < y) = k := Option.some.inj h'
              obtain ⟨t, rfl⟩ := a1
              obtain ⟨u, rfl⟩ := a2
              rw [← e] at q
              cases i with
              | zero => exact PyProof.Rows.oneLt_int q
              | succ i => exact PySem.W.kat_one _ _ (PyProof.Rows.lt_int q)
            | inr y => cases h'
          | inr x =>
            cases l with
            | inl y => cases h'
            | inr y =>
              have e : decide (x.cps.toList < y.cps.toList) = k := Option.some.inj h'
              obtain ⟨t, rfl⟩ := a1
              obtain ⟨u, rfl⟩ := a2
              rw [← e] at q
              cases i with
              | zero => exact PyProof.Rows.oneLt_str q
              | succ i => exact PySem.W.kat_one _ _ (DT.rcLt_str _ _ x t y u prog w _ _ q)
theorem keys_firsts {h : Heap} {kf : Value → List Key} {f : Bool} : ∀ {vs : List Value}, (∀ v ∈ vs, IsK h v (kf v) ∧ firstIs f (kf v)) → ∃ fs : List Value, PySem.W.KatTups h vs fs ∧ fs.length = vs.length ∧ ∀ u ∈ fs, ∃ k, keyInt k = f ∧ RelV (kV k) u
  | [], _ => ⟨[], PySem.W.KatTups.nil, rfl, fun _ hm => by cases hm⟩
  | v :: vs, hp => by
    obtain ⟨fs, h1, h2, h3⟩ := keys_firsts (vs := vs) fun v' hm => hp v' (List.mem_cons_of_mem _ hm)
    obtain ⟨⟨b, o, us, n, e, ho, hc, hd, r⟩, k, rest, ek, hk⟩ := hp v (List.mem_cons_self ..)
    rw [ek, List.map_cons] at r
    obtain ⟨ul⟩ := us
    change Vals (kV k :: rest.map kV) ul at r
    cases r with
    | @cons _ u _ us' a t =>
      rw [e]
      refine ⟨u :: fs, PySem.W.KatTups.cons ho hc hd rfl h1, by rw [List.length_cons, List.length_cons, h2], fun z hz => ?_⟩
      rcases List.mem_cons.mp hz with q | q
      · rw [q]
        exact ⟨k, hk, a⟩
      · exact h3 z q
theorem keys_sortable {a : Addr} {vs : List Value} {kf : Value → List Key} {rk : List Key → Int} {f : Bool} (h0 : 0 < vs.length) (hp : ∀ v ∈ vs, IsK s.heap v (kf v) ∧ firstIs f (kf v)) (hl : ∀ v ∈ vs, ∀ u ∈ vs, ltO (kf v) (kf u) = some (decide (rk (kf v) < rk (kf u))))
    (ha : ∀ o, s.heap.get? a = some o → o.cls ≠ .type "tuple") : SrtO.SortableO prog w A s a vs fun v u => decide (rk (kf v) < rk (kf u)) := by
  intro h' keep
  have hp' : ∀ v ∈ vs, IsK h' v (kf v) ∧ firstIs f (kf v) := fun v hm => ⟨(hp v hm).1.keeps fun b o e c => keep b o (fun z => ha o (z ▸ e) c) e, (hp v hm).2⟩
  obtain ⟨fs, h1, h2, h3⟩ := keys_firsts hp'
  refine ⟨PyProof.Rows.tuples' true, fun Q E hq => ?_, ?_⟩
  · cases f with
    | true =>
      refine PySem.W.kat_kind (T := .type "int") h1 (by omega) (fun u hm => ?_) (by rfl) ?_
      · obtain ⟨k, hk, r⟩ := h3 u hm
        cases k with
        | inl i =>
          obtain ⟨t, rfl⟩ := r
          exact PySem.W.Looks.now
        | inr x => cases hk
      · have e : (Value.type "int" != Value.type "tuple") = true := by decide +kernel
        rw [e]
        exact hq
    | false =>
      refine PySem.W.kat_kind (T := .type "str") h1 (by omega) (fun u hm => ?_) (by rfl) ?_
      · obtain ⟨k, hk, r⟩ := h3 u hm
        cases k with
        | inr i =>
          obtain ⟨t, rfl⟩ := r
          exact PySem.W.Looks.now
        | inl x => cases hk
      · have e : (Value.type "str" != Value.type "tuple") = true := by decide +kernel
        rw [e]
        exact hq
  · intro p q m1 m2
    obtain ⟨b1, o1, us1, n1, e1, ho1, hc1, hd1, r1⟩ := (hp' _ m1).1
    obtain ⟨b2, o2, us2, n2, e2, ho2, hc2, hd2, r2⟩ := (hp' _ m2).1
    have hk := hl _ m1 _ m2
    show wpAny (model prog w) A (PyProof.Rows.keyLt' (PyProof.Rows.tuples' true) p.1 q.1) (fun r s' => s' = { s with heap := h' } ∧ r = decide (rk (kf p.1) < rk (kf q.1))) (fun _ _ => False) { s with heap := h' }
    generalize kf p.1 = k1 at r1 hk ⊢
    generalize kf q.1 = k2 at r2 hk ⊢
    rw [e1, e2]
    refine PySem.W.kat_lt ho1 hd1 ho2 hd2 (kat_keys r1 r2 hk ?_ ⟨rfl, rfl⟩)
    have z1 : us1.size = k1.length := by rw [← Array.length_toList, ← r1.length, List.length_map]
    have z2 : us2.size = k2.length := by rw [← Array.length_toList, ← r2.length, List.length_map]
    rw [z1, z2]
theorem rank_swo {α : Type} (g : α → Int) : SrtO.Swo fun v u => decide (g v < g u) := by
  refine ⟨fun x y h => ?_, fun x y z h1 h2 => ?_⟩
  · have a := of_decide_eq_true h
    exact decide_eq_false (by omega)
  · have a := of_decide_eq_false h1
    have b := of_decide_eq_false h2
    exact decide_eq_false (by omega)
end
end SB
namespace SB
open PySem L2
def unkV : V → Key
  | .int i => .inl i
  | .str x => .inr x
  | .non => .inl 0
  | .bl _ => .inl 0
  | .byt _ => .inl 0
  | .flt _ => .inl 0
  | .ref _ => .inl 0
  | .ty _ => .inl 0
theorem unkV_kV (k : Key) : unkV (kV k) = k := by cases k <;> rfl
def keysAt (H : Hp) (v : V) : List Key := match v with
  | .ref a => (match H a with
    | some (.tup xs) => xs.map unkV
    | _ => [])
  | _ => []
theorem keysAt_of {H : Hp} {a : Addr} {ks : List Key} (h : H a = some (.tup (ks.map kV))) : keysAt H (.ref a) = ks := by
  unfold keysAt
  simp only [h, List.map_map]
  have e : (unkV ∘ kV) = id := funext unkV_kV
  rw [e, List.map_id]
/-- sorted(xs), xs a list of tuples of keys, rk their rank: a new list, by rank, the same items -/
def rSortQ : List V → Hp → VK → Prop := fun vs H Q => ∃ (a : Addr) (xs : List V) (f : Bool) (rk : List Key → Int), vs = [V.ref a] ∧ H a = some (.lst xs) ∧ (∀ x ∈ xs, ∃ b ks, x = V.ref b ∧ H b = some (.tup (ks.map kV)) ∧ firstIs f ks) ∧
  (∀ x ∈ xs, ∀ y ∈ xs, ltO (keysAt H x) (keysAt H y) = some (decide (rk (keysAt H x) < rk (keysAt H y)))) ∧
  ∀ ys p, ys.Pairwise (fun x y => ¬ rk (keysAt H y) < rk (keysAt H x)) → ys.Perm xs → H p = none → Q (.ref p) (upd H p (.lst ys))
theorem c_sortQ {X : Cx} : CallR X (.builtin "sorted") rSortQ := by
  intro pins s σ H vs us Q I r h
  obtain ⟨a, xs, f, rk, rfl, hs, hx, hl, q⟩ := h
  obtain ⟨its, rv, pl, hz⟩ := I.list (SqL.of hs)
  obtain ⟨u, rfl, ru⟩ := vals1 r
  obtain rfl : u = Value.ref a := ru
  obtain ⟨e1, e2⟩ := refs_back rv fun x m => by
    obtain ⟨b, _, e, _⟩ := hx x m
    exact ⟨b, e⟩
  have mem : ∀ v ∈ its, backV v ∈ xs := fun v hv => by
    rw [e1]
    exact List.mem_map.mpr ⟨v, hv, rfl⟩
  have at_ : ∀ v ∈ its, IsK s.heap v (keysAt H (backV v)) ∧ firstIs f (keysAt H (backV v)) := fun v hv => by
    obtain ⟨c, rfl⟩ := e2 v hv
    obtain ⟨b, ks, e, hb, hf⟩ := hx _ (mem _ hv)
    have eb : c = b := V.ref.inj e
    subst eb
    have ek : keysAt H (backV (Value.ref c)) = ks := keysAt_of hb
    rw [ek]
    obtain ⟨_, its2, r2, o, ho, hc, n, hd⟩ := I.hok _ _ hb
    exact ⟨⟨c, o, its2.toArray, n, rfl, ho, hc, hd, r2⟩, hf⟩
  refine SrtO.sorted_ord (ltv := fun v u => decide (rk (keysAt H (backV v)) < rk (keysAt H (backV u)))) (rank_swo fun v => rk (keysAt H (backV v))) pl.isList (by rw [← rv.length]; exact hz) (fun h2 h1 b hb kk => ?_) fun out ho hb => ?_
  · refine keys_sortable (kf := fun v => keysAt H (backV v)) (rk := rk) (f := f) (by omega) (fun v hv => ⟨(at_ v hv).1.keeps fun b o e _ => (kk b o e).2, (at_ v hv).2⟩) (fun v hv u hu => hl _ (mem v hv) _ (mem u hu)) fun o e => ?_
    have e' : some o = some _ := e.symm.trans hb
    cases e'
    intro c
    exact absurd (Value.type.inj c) (by decide)
  · have h3 : ∀ u ∈ out, ∃ a, u = Value.ref a := fun u hu => e2 u (hb.perm.mem_iff.mp hu)
    have hd := PyProof.Rows.sortedAll_at s.heap its out.toArray
    obtain ⟨n, hn⟩ := hd
    have fresh := I.hok.fresh (Nat.le_succ s.heap.objs.size)
    have pm : (out.map backV).Perm xs := by
      rw [e1]
      exact hb.perm.map _
    refine ⟨.ref (s.heap.objs.size + 1), upd H (s.heap.objs.size + 1) (.lst (out.map backV)), I.laid (t' := s.toks) (fun b o e => PyProof.Rows.sortedAll_old e) (Nat.le_succ _) ⟨?_, out, n, vals_back h3, hn⟩, rfl, q _ _ ?_ pm fresh⟩
    · rw [pm.length_eq]
      exact hz
    · refine List.pairwise_map.mpr (ho.imp fun {x y} z => ?_)
      exact of_decide_eq_false z
section
variable {K : PySem.W.Frag}
/-- two lists of the same items, one by rank, the other rising in it: one -/
theorem perm_rank {α : Type} {g : α → Int} : ∀ {l m : List α}, l.Perm m → l.Pairwise (fun x y => ¬ g y < g x) → m.Pairwise (fun x y => g x < g y) → l = m
  | [], m, p, _, _ => (List.Perm.eq_nil p.symm).symm
  | x :: l, [], p, _, _ => absurd p.length_eq (by simp)
  | x :: l, y :: m, p, hl, hm => by
    obtain ⟨l1, l2⟩ := List.pairwise_cons.mp hl
    obtain ⟨m1, m2⟩ := List.pairwise_cons.mp hm
    have e : x = y := by
      rcases List.mem_cons.mp (p.mem_iff.mp (List.mem_cons_self (a := x) (l := l))) with e | hx
      · exact e
      · rcases List.mem_cons.mp (p.mem_iff.mpr (List.mem_cons_self (a := y) (l := m))) with e | hy
        · exact e.symm
        · have := m1 x hx
          have := l1 y hy
          omega
    subst e
    rw [perm_rank p.cons_inv l2 m2]
theorem cd_sort {kss out : List (List Key)} {f : Bool} (rk : List Key → Int) (hf : ∀ ks ∈ kss, firstIs f ks) (hl : ∀ k ∈ kss, ∀ l ∈ kss, ltO k l = some (decide (rk k < rk l))) (hp : out.Perm kss) (ho : out.Pairwise fun k l => rk k < rk l) :
    CD K rSortQ [.lst (kss.map tk)] (.lst (out.map tk)) := fun vs H Q r k => by
  obtain ⟨v, rfl, rv⟩ := rps1 r
  obtain ⟨a, xs, rfl, ha, hv⟩ := rv.lst_of
  have at_ : ∀ x ∈ xs, ∃ b ks, x = V.ref b ∧ H b = some (.tup (ks.map kV)) ∧ ks ∈ kss := fun x hx => by
    obtain ⟨i, hi, e⟩ := List.getElem_of_mem hx
    obtain ⟨d, h1, h2⟩ := hv.get' (List.getElem?_eq_some_iff.mpr ⟨hi, e⟩)
    rw [List.getElem?_map] at h1
    cases q : kss[i]? with
    | none =>
      rw [q] at h1
      cases h1
    | some ks =>
      rw [q] at h1
      have e2 : tk ks = d := Option.some.inj h1
      rw [← e2] at h2
      obtain ⟨b, e3, hb⟩ := h2.tk_of
      exact ⟨b, ks, e3, hb, List.mem_of_getElem? q⟩
  have key : ∀ x ∈ xs, keysAt H x ∈ kss := fun x hx => by
    obtain ⟨b, ks, rfl, hb, hm⟩ := at_ x hx
    rw [keysAt_of hb]
    exact hm
  have all : ∀ {vs : List V} {ks : List (List Key)}, Rps K H vs (ks.map tk) → vs.map (keysAt H) = ks := by
    intro vs ks
    induction ks generalizing vs with
    | nil =>
      intro h
      cases h
      rfl
    | cons c ks ih =>
      intro h
      rw [List.map_cons] at h
      cases h with
      | cons a t =>
        obtain ⟨b, rfl, hb⟩ := Rp.tk_of a
        rw [List.map_cons, ih t, keysAt_of hb]
  refine ⟨a, xs, f, rk, rfl, ha, fun x hx => ?_, fun x hx y hy => hl _ (key x hx) _ (key y hy), fun ys p h1 h2 hp' => ?_⟩
  · obtain ⟨b, ks, e, hb, hm⟩ := at_ x hx
    exact ⟨b, ks, e, hb, hf ks hm⟩
  · have e : ys.map (keysAt H) = out := by
      refine perm_rank (g := rk) ?_ (List.pairwise_map.mpr h1) ho
      have q := h2.map (keysAt H)
      rw [all hv] at q
      exact q.trans hp.symm
    refine k _ _ (same_upd hp') (.lst upd_same ?_)
    rw [← e]
    have done : ∀ {zs : List V}, (∀ z ∈ zs, z ∈ xs) → Rps K H zs ((zs.map (keysAt H)).map tk) := by
      intro zs
      induction zs with
      | nil => intro _; exact .nil
      | cons z zs ih =>
        intro h
        obtain ⟨b, ks, e3, hb, _⟩ := at_ z (h z (List.mem_cons_self ..))
        rw [List.map_cons, List.map_cons]
        refine .cons ?_ (ih fun y hy => h y (List.mem_cons_of_mem _ hy))
        rw [e3, keysAt_of hb]
        exact rp_tk hb
    exact (done fun z hz => h2.mem_iff.mp hz).mono (same_upd hp')
end
end SB
/-! the entries -/
namespace SB
open PySem
open L2 (Key kV)

inductive WK where | set | sum | mul | load
  deriving DecidableEq
inductive US where | sum | mul | load | stA | stB | zero | out
  deriving DecidableEq
inductive EF where | set | sum | mul | load | store | out
  deriving DecidableEq
inductive Ru where | mem (sl : Bool) | ord (k l : WK) | val (k : WK) (u : US) | wr (z : Bool) (e : EF)
  deriving DecidableEq
structure Ent where
  r : Ru
  d : Nat
  deriving DecidableEq
def WK.nm : WK → Str
  | .set => "set" | .sum => "sum" | .mul => "mul" | .load => "load"
def US.nm : US → Str
  | .sum => "sum" | .mul => "mul" | .load => "load" | .stA => "store" | .stB => "store" | .zero => "zero" | .out => "out"
def US.ro : US → Str
  | .stB => "b" | .sum => "a" | .mul => "a" | .load => "a" | .stA => "a" | .zero => "a" | .out => "a"
def EF.nm : EF → Str
  | .set => "set" | .sum => "sum" | .mul => "mul" | .load => "load" | .store => "store" | .out => "out"
def jn : Bool → Str
  | true => "zero" | false => "go"
def Ru.nms : Ru → List Str
  | .mem true => ["memory", "store", "load"]
  | .mem false => ["memory", "load", "store"]
  | .ord k l => ["order", k.nm, l.nm]
  | .val k u => ["value", k.nm, u.nm, u.ro]
  | .wr z e => ["wrong", jn z, e.nm]
def Ent.ks (e : Ent) : List Key := e.r.nms.map Sum.inr ++ [Sum.inl (e.d : Int)]
/-- all kinds of entries, in the order of their names -/
def wks : List WK := [.load, .mul, .set, .sum]
def uss : List US := [.load, .mul, .out, .stA, .stB, .sum, .zero]
def efs : List EF := [.load, .mul, .out, .set, .store, .sum]
def allRu : List Ru := [.mem false, .mem true] ++ (wks.flatMap fun k => wks.map fun l => Ru.ord k l) ++ (wks.flatMap fun k => uss.map fun u => Ru.val k u) ++ ([false, true].flatMap fun z => efs.map fun e => Ru.wr z e)
def days : List Nat := [1, 2, 3, 4, 5, 6, 7]
def ENTS : List Ent := allRu.flatMap fun r => days.map fun d => ⟨r, d⟩
def Ru.ix (r : Ru) : Nat := allRu.idxOf r
def rkE (e : Ent) : Int := ((e.r.ix * 8 + e.d : Nat) : Int)
/-- the first difference of two rows of names -/
def diffN : List Str → List Str → Option Bool
  | x :: xs, y :: ys => if x = y then diffN xs ys else some (decide (x.cps.toList < y.cps.toList))
  | [], _ => none
  | _ :: _, [] => none
theorem diffN_lt : ∀ {xs ys : List Str} {b : Bool} {k l : List Key}, diffN xs ys = some b → ltO (xs.map Sum.inr ++ k) (ys.map Sum.inr ++ l) = some b
  | [], _, _, _, _, h => by simp [diffN] at h
  | _ :: _, [], _, _, _, h => by simp [diffN] at h
  | x :: xs, y :: ys, b, k, l, h => by
    unfold diffN at h
    show (if (Sum.inr x : Key) = Sum.inr y then ltO (xs.map Sum.inr ++ k) (ys.map Sum.inr ++ l) else ltK (Sum.inr x) (Sum.inr y)) = some b
    by_cases e : x = y
    · rw [if_pos e] at h
      rw [if_pos (by rw [e])]
      exact diffN_lt h
    · rw [if_neg e] at h
      rw [if_neg fun q => e (Sum.inr.inj q)]
      exact h
theorem same_lt : ∀ (xs : List Str) (i j : Int), ltO (xs.map Sum.inr ++ [Sum.inl i]) (xs.map Sum.inr ++ [Sum.inl j]) = some (decide (i < j))
  | [], i, j => by
    show (if (Sum.inl i : Key) = Sum.inl j then ltO [] [] else ltK (Sum.inl i) (Sum.inl j)) = _
    by_cases e : i = j
    · rw [if_pos (by rw [e]), e]
      show some false = _
      rw [decide_eq_false (Int.lt_irrefl j)]
    · rw [if_neg fun q => e (Sum.inl.inj q)] <;> rfl
  | x :: xs, i, j => by
    show (if (Sum.inr x : Key) = Sum.inr x then ltO (xs.map Sum.inr ++ [Sum.inl i]) (xs.map Sum.inr ++ [Sum.inl j]) else _) = _
    rw [if_pos rfl]
    exact same_lt xs i j
def diffTab : Bool := allRu.all fun r => allRu.all fun q => decide (r = q) || decide (diffN r.nms q.nms = some (decide (r.ix < q.ix)))
theorem diff_ok : diffTab = true := by decide +kernel
end SB
namespace SB
open PySem
open L2 (Key kV)

theorem mem_allRu (r : Ru) : r ∈ allRu := by
  cases r with
  | mem sl => cases sl <;> decide
  | ord k l => cases k <;> cases l <;> decide
  | val k u => cases k <;> cases u <;> decide
  | wr z e => cases z <;> cases e <;> decide
theorem diff_at {r q : Ru} (h : r ≠ q) : diffN r.nms q.nms = some (decide (r.ix < q.ix)) := by
  have h1 := List.all_eq_true.mp (List.all_eq_true.mp diff_ok r (mem_allRu r)) q (mem_allRu q)
  rcases Bool.or_eq_true_iff.mp h1 with e | e
  · exact absurd (of_decide_eq_true e) h
  · exact of_decide_eq_true e
def ixTab : Bool := allRu.all fun r => allRu.all fun q => decide (r = q) || !decide (r.ix = q.ix)
theorem ix_ok : ixTab = true := by decide +kernel
theorem ix_inj {r q : Ru} (h : r.ix = q.ix) : r = q := by
  have h1 := List.all_eq_true.mp (List.all_eq_true.mp ix_ok r (mem_allRu r)) q (mem_allRu q)
  rcases Bool.or_eq_true_iff.mp h1 with e | e
  · exact of_decide_eq_true e
  · rw [decide_eq_true h] at e
    cases e
/-- the days of an entry -/
def dOk (e : Ent) : Prop := 1 ≤ e.d ∧ e.d ≤ 7
theorem ltO_ent {e f : Ent} (he : dOk e) (hf : dOk f) : ltO e.ks f.ks = some (decide (rkE e < rkE f)) := by
  obtain ⟨r, d⟩ := e
  obtain ⟨q, c⟩ := f
  obtain ⟨h1, h2⟩ := he
  obtain ⟨h3, h4⟩ := hf
  by_cases z : r = q
  · subst z
    refine (same_lt _ _ _).trans (congrArg some ?_)
    have e : ((d : Int) < (c : Int)) ↔ rkE ⟨r, d⟩ < rkE ⟨r, c⟩ := by
      show _ ↔ ((r.ix * 8 + d : Nat) : Int) < ((r.ix * 8 + c : Nat) : Int)
      omega
    by_cases y : (d : Int) < (c : Int)
    · rw [decide_eq_true y, decide_eq_true (e.mp y)]
    · rw [decide_eq_false y, decide_eq_false fun x => y (e.mpr x)]
  · refine (diffN_lt (diff_at z)).trans (congrArg some ?_)
    have ni : r.ix ≠ q.ix := fun h => z (ix_inj h)
    have e : (r.ix < q.ix) ↔ rkE ⟨r, d⟩ < rkE ⟨q, c⟩ := by
      show _ ↔ ((r.ix * 8 + d : Nat) : Int) < ((q.ix * 8 + c : Nat) : Int)
      simp only at h1 h2 h3 h4
      omega
    by_cases y : r.ix < q.ix
    · rw [decide_eq_true y, decide_eq_true (e.mp y)]
    · rw [decide_eq_false y, decide_eq_false fun x => y (e.mpr x)]
theorem nms_inj {r q : Ru} (h : r.nms = q.nms) : r = q := by
  by_cases z : r = q
  · exact z
  · have d := diff_at z
    rw [h] at d
    have no : ∀ xs : List Str, diffN xs xs = none := by
      intro xs
      induction xs with
      | nil => rfl
      | cons x xs ih =>
        show (if x = x then diffN xs xs else _) = none
        rw [if_pos rfl, ih]
    rw [no] at d
    cases d
theorem ks_inj {e f : Ent} (h : e.ks = f.ks) : e = f := by
  obtain ⟨r, d⟩ := e
  obtain ⟨q, c⟩ := f
  have h' : r.nms.map Sum.inr ++ [Sum.inl (d : Int)] = q.nms.map Sum.inr ++ [(Sum.inl (c : Int) : Key)] := h
  obtain ⟨h1, h2⟩ := List.append_inj' h' rfl
  have h3 : r.nms = q.nms := by
    have inj : ∀ (xs ys : List Str), xs.map (Sum.inr : Str → Key) = ys.map Sum.inr → xs = ys := by
      intro xs
      induction xs with
      | nil =>
        intro ys e
        cases ys with
        | nil => rfl
        | cons y ys => cases e
      | cons x xs ih =>
        intro ys e
        cases ys with
        | nil => cases e
        | cons y ys =>
          rw [List.map_cons, List.map_cons] at e
          obtain ⟨e1, e2⟩ := List.cons.inj e
          rw [Sum.inr.inj e1, ih ys e2]
    exact inj _ _ h1
  have h4 : (d : Int) = (c : Int) := Sum.inl.inj (List.cons.inj h2).1
  rw [nms_inj h3, show d = c by omega]
theorem rk_inj {e f : Ent} (he : dOk e) (hf : dOk f) (h : rkE e = rkE f) : e = f := by
  obtain ⟨r, d⟩ := e
  obtain ⟨q, c⟩ := f
  have h' : ((r.ix * 8 + d : Nat) : Int) = ((q.ix * 8 + c : Nat) : Int) := h
  obtain ⟨h1, h2⟩ := he
  obtain ⟨h3, h4⟩ := hf
  simp only at h1 h2 h3 h4
  have e1 : r.ix = q.ix := by omega
  have e2 : d = c := by omega
  rw [ix_inj e1, e2]
def okTab : Bool := allRu.all fun r => r.nms.all fun x => keyOk (Sum.inr x)
theorem okTab_ok : okTab = true := by decide +kernel
theorem ks_ok (e : Ent) : e.ks.all keyOk = true := by
  have h := List.all_eq_true.mp okTab_ok e.r (mem_allRu e.r)
  show (e.r.nms.map Sum.inr ++ [Sum.inl (e.d : Int)]).all keyOk = true
  rw [List.all_append, List.all_map]
  rw [show e.r.nms.all (keyOk ∘ Sum.inr) = true from h]
  rfl
theorem ks_first (e : Ent) : firstIs false e.ks := by
  obtain ⟨r, d⟩ := e
  cases r with
  | mem sl => cases sl <;> exact ⟨_, _, rfl, rfl⟩
  | ord k l => exact ⟨_, _, rfl, rfl⟩
  | val k u => exact ⟨_, _, rfl, rfl⟩
  | wr z e => exact ⟨_, _, rfl, rfl⟩
/-! the list of all -/
theorem ents_ok : ∀ e ∈ ENTS, dOk e := by
  intro e h
  obtain ⟨r, _, h⟩ := List.mem_flatMap.mp h
  obtain ⟨d, hd, rfl⟩ := List.mem_map.mp h
  have : ∀ d ∈ days, 1 ≤ d ∧ d ≤ 7 := by decide
  exact this d hd
theorem mem_ents {e : Ent} (h : dOk e) : e ∈ ENTS := by
  obtain ⟨r, d⟩ := e
  refine List.mem_flatMap.mpr ⟨r, mem_allRu r, List.mem_map.mpr ⟨d, ?_, rfl⟩⟩
  obtain ⟨h1, h2⟩ := h
  simp only at h1 h2
  have : d = 1 ∨ d = 2 ∨ d = 3 ∨ d = 4 ∨ d = 5 ∨ d = 6 ∨ d = 7 := by omega
  rcases this with h | h | h | h | h | h | h <;> (subst h; decide)
def ascB : List Int → Bool
  | x :: y :: r => decide (x < y) && ascB (y :: r)
  | _ => true
theorem asc_pw : ∀ {l : List Int}, ascB l = true → l.Pairwise (· < ·)
  | [], _ => .nil
  | [x], _ => List.pairwise_singleton _ _
  | x :: y :: r, h => by
    have h' : (decide (x < y) && ascB (y :: r)) = true := h
    rw [Bool.and_eq_true] at h'
    have hxy := of_decide_eq_true h'.1
    have ih := asc_pw h'.2
    refine List.pairwise_cons.mpr ⟨fun z hz => ?_, ih⟩
    rcases List.mem_cons.mp hz with e | hz
    · rw [e]
      exact hxy
    · exact Int.lt_trans hxy ((List.pairwise_cons.mp ih).1 z hz)
theorem ents_asc : ascB (ENTS.map rkE) = true := by decide +kernel
theorem ents_pw : ENTS.Pairwise fun e f => rkE e < rkE f := List.pairwise_map.mp (asc_pw ents_asc)
theorem ents_len : ENTS.length = 406 := by decide +kernel
/-- the rank of a row of keys -/
def rkK (ks : List Key) : Int := match ENTS.find? fun e => decide (e.ks = ks) with
  | some e => rkE e
  | none => 0
theorem rkK_of {e : Ent} (h : dOk e) : rkK e.ks = rkE e := by
  unfold rkK
  cases q : ENTS.find? fun f => decide (f.ks = e.ks) with
  | none =>
    have := List.find?_eq_none.mp q e (mem_ents h)
    exact absurd (decide_eq_true rfl) this
  | some f =>
    have h2 := List.find?_some q
    rw [ks_inj (of_decide_eq_true h2)]
/-- any rows of entries are compared by their rank -/
theorem ltO_rk {e f : Ent} (he : dOk e) (hf : dOk f) : ltO e.ks f.ks = some (decide (rkK e.ks < rkK f.ks)) := by
  rw [rkK_of he, rkK_of hf, ltO_ent he hf]
/-- the data -/
abbrev entD (e : Ent) : Dt := tk e.ks
/-- as the program lists them, as the law does -/
def wkP : List WK := [.set, .sum, .mul, .load]
def usP : List US := [.sum, .mul, .load, .stA, .stB, .zero, .out]
def efP : List EF := [.set, .sum, .mul, .load, .store, .out]
def apartP (d : Nat) : List Ent := (wkP.flatMap fun k => usP.map fun u => ⟨.val k u, d⟩) ++ ((wkP.flatMap fun k => wkP.map fun l => ⟨.ord k l, d⟩) ++ ([⟨.mem true, d⟩, ⟨.mem false, d⟩] ++ ([true, false].flatMap fun z => efP.map fun e => ⟨.wr z e, d⟩)))
def lawL (d : Nat) : List Ent := (wkP.flatMap fun k => (usP.map fun u => ⟨.val k u, d⟩) ++ (wkP.map fun l => ⟨.ord k l, d⟩)) ++ ([⟨.mem true, d⟩, ⟨.mem false, d⟩] ++ ([true, false].flatMap fun z => efP.map fun e => ⟨.wr z e, d⟩))
theorem progP_perm : ENTS.Perm (days.flatMap apartP) := by decide +kernel
theorem lawL_perm : ENTS.Perm (days.flatMap lawL) := by decide +kernel
end SB
/-! designs -/
namespace SB
open PySem
open L2 (Key kV)

structure Pl where
  (setM setW sumU sumM sumW mulU mulM mulW loadU loadM loadW stA stB stP zeU zeD goD outU outS : Int)
def Pl.rows (p : Pl) : List (List Int) := [[p.setM, p.setW], [p.sumU, p.sumM, p.sumW], [p.mulU, p.mulM, p.mulW], [p.loadU, p.loadM, p.loadW], [p.stA, p.stB, p.stP], [p.zeU, p.zeD], [p.goD], [p.outU, p.outS]]
structure Des where
  rd : Int
  same : Bool
  pl : Pl
  paths : List (Int × Int)
  waits : List Ent
def iD (l : List Int) : Dt := .tup (l.map .int)
def plD (p : Pl) : Dt := .tup (p.rows.map iD)
def pthK (p : Int × Int) : List Key := [.inl p.1, .inl p.2]
abbrev psD (l : List (Int × Int)) : List Dt := (l.map pthK).map tk
abbrev esD (l : List Ent) : List Dt := (l.map Ent.ks).map tk
def desD (D : Des) : Dt := .tup [.int D.rd, .bl D.same, plD D.pl, .tup (psD D.paths), .tup (esD D.waits)]
def pthR (p : Int × Int) : Int := p.1 * 8 + p.2
def PthOk (p : Int × Int) : Prop := 0 ≤ p.2 ∧ p.2 < p.1 ∧ p.1 ≤ 7
structure PlOk (r : Int) (p : Pl) : Prop where
  all : ∀ row ∈ p.rows, ∀ x ∈ row, 0 ≤ x ∧ x ≤ 7
  set : r < p.setW ∧ p.setM < p.setW
  ze : r ≤ p.zeU ∧ p.zeU ≤ p.zeD
  out : r ≤ p.outU ∧ p.outU ≤ p.outS
  sum : r ≤ p.sumU ∧ p.sumU ≤ p.sumM ∧ p.sumM < p.sumW
  mul : r ≤ p.mulU ∧ p.mulU ≤ p.mulM ∧ p.mulM < p.mulW
  load : r ≤ p.loadU ∧ p.loadU ≤ p.loadM ∧ p.loadM < p.loadW
  stA : r ≤ p.stA ∧ p.stA < p.stP
  stB : r ≤ p.stB ∧ p.stB < p.stP
structure WtOk (l : List Ent) : Prop where
  d : ∀ e ∈ l, dOk e
  asc : l.Pairwise fun e f => rkE e < rkE f
structure DesOk (D : Des) : Prop where
  rd : 0 ≤ D.rd ∧ D.rd ≤ 7
  pl : PlOk D.rd D.pl
  pth : ∀ p ∈ D.paths, PthOk p
  pasc : D.paths.Pairwise fun p q => pthR p < pthR q
  wt : WtOk D.waits
theorem ltO_pth {p q : Int × Int} (hp : PthOk p) (hq : PthOk q) : ltO (pthK p) (pthK q) = some (decide (pthR p < pthR q)) := by
  obtain ⟨a, b⟩ := p
  obtain ⟨c, d⟩ := q
  obtain ⟨h1, h2, h3⟩ := hp
  obtain ⟨h4, h5, h6⟩ := hq
  simp only at h1 h2 h3 h4 h5 h6
  show (if (Sum.inl a : Key) = Sum.inl c then (if (Sum.inl b : Key) = Sum.inl d then some false else some (decide (b < d))) else some (decide (a < c))) = some (decide (a * 8 + b < c * 8 + d))
  by_cases e1 : a = c
  · rw [if_pos (by rw [e1])]
    by_cases e2 : b = d
    · rw [if_pos (by rw [e2]), decide_eq_false (by omega)]
    · rw [if_neg fun z => e2 (Sum.inl.inj z)]
      by_cases y : b < d
      · rw [decide_eq_true y, decide_eq_true (by omega)]
      · rw [decide_eq_false y, decide_eq_false (by omega)]
  · rw [if_neg fun z => e1 (Sum.inl.inj z)]
    by_cases y : a < c
    · rw [decide_eq_true y, decide_eq_true (by omega)]
    · rw [decide_eq_false y, decide_eq_false (by omega)]
theorem pth_ok (p : Int × Int) : (pthK p).all keyOk = true := rfl
theorem pth_first (p : Int × Int) : firstIs true (pthK p) := ⟨_, _, rfl, rfl⟩
theorem pth_inj {p q : Int × Int} (h : pthK p = pthK q) : p = q := by
  obtain ⟨a, b⟩ := p
  obtain ⟨c, d⟩ := q
  obtain ⟨h1, h2⟩ := List.cons.inj h
  obtain ⟨h3, _⟩ := List.cons.inj h2
  rw [show a = c from Sum.inl.inj h1, show b = d from Sum.inl.inj h3]
/-! what the program asks of a design -/
def Pl.written (p : Pl) : WK → Int
  | .set => p.setW | .sum => p.sumW | .mul => p.mulW | .load => p.loadW
def Pl.made (p : Pl) : WK → Int
  | .set => p.setM | .sum => p.sumM | .mul => p.mulM | .load => p.loadM
def Pl.used (p : Pl) : US → Int
  | .sum => p.sumU | .mul => p.mulU | .load => p.loadU | .stA => p.stA | .stB => p.stB | .zero => p.zeU | .out => p.outU
def Pl.eff (p : Pl) : EF → Int
  | .set => p.setW | .sum => p.sumW | .mul => p.mulW | .load => p.loadW | .store => p.stP | .out => p.outS
def Pl.dec (p : Pl) : Bool → Int
  | true => p.zeD | false => p.goD
def kinP (p : Int × Int) (l : List (Int × Int)) : Bool := kin (pthK p) (l.map pthK)
/-- open, as the program reckons it -/
def valOpen (D : Des) (k : WK) (u : US) (d : Int) : Bool :=
  if (decide (D.pl.written k < D.rd + d) || (D.same && decide (D.rd + d = D.pl.written k))) = true then false
  else (!kinP (D.pl.used u + d, D.pl.used u) D.paths || decide (D.pl.used u + d ≤ D.pl.made k))
def opn (D : Des) (e : Ent) : Bool := match e.r with
  | .val k u => valOpen D k u e.d
  | .ord k l => decide ((e.d : Int) + D.pl.written l < D.pl.written k)
  | .mem true => !(decide (D.pl.stP < D.pl.loadM + e.d) || (D.same && decide (D.pl.loadM + e.d = D.pl.stP)))
  | .mem false => decide ((e.d : Int) + D.pl.stP < D.pl.loadM) || (D.same && decide ((e.d : Int) + D.pl.stP = D.pl.loadM))
  | .wr z f => decide ((e.d : Int) + D.pl.eff f ≤ D.pl.dec z)
def opens (D : Des) : List Ent := ENTS.filter (opn D)
/-- held by a memory entry among some -/
def bym (e : Ent) (l : List Ent) : Bool := match e.r with
  | .val .load .stA => kin (Ent.ks ⟨.mem false, e.d⟩) (l.map Ent.ks)
  | .val .load .stB => kin (Ent.ks ⟨.mem false, e.d⟩) (l.map Ent.ks)
  | _ => false
def missL (D : Des) : List Ent := (opens D).filter fun e => negB true (kin e.ks (D.waits.map Ent.ks)) && !bym e D.waits
def leastL (D : Des) : List Ent := (opens D).filter fun e => !bym e (opens D)
theorem kin_ks {e : Ent} {l : List Ent} : kin e.ks (l.map Ent.ks) = true ↔ e ∈ l := by
  rw [kin_iff, List.mem_map]
  constructor
  · rintro ⟨f, h1, h2⟩
    rw [← ks_inj h2]
    exact h1
  · intro h
    exact ⟨e, h, rfl⟩
theorem kin_pth {p : Int × Int} {l : List (Int × Int)} : kinP p l = true ↔ p ∈ l := by
  unfold kinP
  rw [kin_iff, List.mem_map]
  constructor
  · rintro ⟨f, h1, h2⟩
    rw [← pth_inj h2]
    exact h1
  · intro h
    exact ⟨p, h, rfl⟩
end SB
namespace SB
open PySem
/-! ### the text by places -/
def top (i : Nat) : Stmt := PySem.Challenge.pw_stagebelt_k02_whole_entries.main.body.getD i (.Pass ⟨0, 0, 0, 0⟩)
abbrev s_is_integer : Stmt := top 1
abbrev s_is_in : Stmt := top 2
abbrev s_is_list : Stmt := top 3
abbrev s_is_place : Stmt := top 15
abbrev s_are_places : Stmt := top 16
abbrev s_is_path : Stmt := top 17
abbrev s_rises : Stmt := top 18
abbrev s_are_paths : Stmt := top 19
abbrev s_is_entry_in : Stmt := top 20
abbrev s_are_waits : Stmt := top 21
abbrev s_is_design : Stmt := top 22
abbrev s_need_design : Stmt := top 23
abbrev s_is_entry : Stmt := top 24
abbrev s_need_entry : Stmt := top 25
abbrev s_place_in : Stmt := top 26
abbrev s_effect_in : Stmt := top 27
abbrev s_used_in : Stmt := top 28
abbrev s_entries_apart : Stmt := top 29
abbrev s_every_entry : Stmt := top 30
abbrev s_all_entries : Stmt := top 31
abbrev s_value_open : Stmt := top 33
abbrev s_open_in : Stmt := top 34
abbrev s_opens_in : Stmt := top 35
abbrev s_by_memory : Stmt := top 36
abbrev s_missing_in : Stmt := top 37
abbrev s_is_open : Stmt := top 38
abbrev s_open_entries : Stmt := top 39
abbrev s_is_right : Stmt := top 40
abbrev s_least_waits : Stmt := top 41
abbrev s_law_taken : Stmt := top 43
abbrev s_law_pick : Stmt := top 44
abbrev s_law_alike : Stmt := top 45
abbrev s_law_up : Stmt := top 46
abbrev s_law_design : Stmt := top 47
abbrev s_law_places : Stmt := top 48
abbrev s_law_entries : Stmt := top 49
abbrev s_law_is_open : Stmt := top 50
abbrev s_law_opens : Stmt := top 51
abbrev s_law_held : Stmt := top 52
abbrev s_law_least : Stmt := top 53
abbrev s_law_more : Stmt := top 54
abbrev s_law : Stmt := top 55
end SB
/-! a def of the program: its promise by data -/
namespace SB
open PySem L2

/-- what the module's names hold besides the defs -/
structure Tx (K : PySem.W.Frag) (mg : Str → Option Value) : Prop where
  isinstance : mg "isinstance" = none
  int : mg "int" = none
  bool : mg "bool" = none
  tuple : mg "tuple" = none
  list : mg "list" = none
  str : mg "str" = none
  len : mg "len" = none
  all : mg "all" = none
  range : mg "range" = none
  sorted : mg "sorted" = none
  min : mg "min" = none
  max : mg "max" = none
  dict : mg "dict" = none
  place : ∃ t, mg "MOST_PLACE" = some (.int 7 t)
  apart : ∃ t, mg "MOST_APART" = some (.int 7 t)
  gW : mg "WRITING" = some (.ref (He.ga K "WRITING"))
  gE : mg "EFFECTS" = some (.ref (He.ga K "EFFECTS"))
  gU : mg "USERS" = some (.ref (He.ga K "USERS"))
  gN : mg "NAMES" = some (.ref (He.ga K "NAMES"))
  kW : ∀ H, Rp K H (.ref (He.ga K "WRITING")) kWRITING
  kE : ∀ H, Rp K H (.ref (He.ga K "EFFECTS")) kEFFECTS
  kU : ∀ H, Rp K H (.ref (He.ga K "USERS")) kUSERS
  kN : ∀ H, Rp K H (.ref (He.ga K "NAMES")) kNAMES

/-- the def stands as the text has it -/
def Df (K : PySem.W.Frag) (mg : Str → Option Value) (x : Str) (st : Stmt) : Prop := ∃ (f : Addr) (fd : FuncData), FunD K x x (defArgs st) (defBody st) (defScope st) [] [] f fd ∧ mg x = some (.ref f)
/-- it may be called by its name, and keeps the promise -/
def OkD (P : Program) (w : World) (K : PySem.W.Frag) (mg : Str → Option Value) (base : Heap) (k : Nat) (x : Str) (ps : List Str) (sp : Sp) : Prop :=
  ∃ (f : Addr) (fd : FuncData), mg x = some (.ref f) ∧ PySem.W.keepIn K (.ref f) = true ∧ Binds K fd ps [] ∧ FnOk P w K mg base CX0 k f fd ps sp
section
variable {X : Cx} {x : Str} {u : Value} {pos p : Pos} {k : Nat} {ps : List Str} {sp : Sp} {e : Expr} {es : List Expr} {t : TA}
theorem pe_callD (F : OkD X.prog X.w X.K X.mg X.base k x ps sp) (hr : Room k X.A) (hg : Gl X x) (ha : PA X (e :: es) t) (hs : starEach (e :: es) X.env = (false, eval e X.env) :: starEach es X.env := by rfl) (hpl : (backTo pos (starEach es X.env)).any (·.1) = false := by rfl)
    (hd : (x == ("__debug__" : Str)) = false := by decide) : PE X (.Call (.Name x p) (e :: es) [] pos) (tCall sp [] E0 t) := by
  obtain ⟨f, fd, hm, hk, hb, G⟩ := F
  exact pe_call (hdb := hd) (he := hs) (hpl := hpl) G hr hg hm hk hb .nil pass0 ha
theorem pe_callD0 (F : OkD X.prog X.w X.K X.mg X.base k x ps sp) (hr : Room k X.A) (hg : Gl X x) (hd : (x == ("__debug__" : Str)) = false := by decide) : PE X (.Call (.Name x p) [] [] pos) (tCall sp [] E0 tNil) := by
  obtain ⟨f, fd, hm, hk, hb, G⟩ := F
  exact pe_call0 (hdb := hd) G hr hg hm hk hb .nil pass0
theorem pe_gI {i : Int} (hg : Gl X x) (hm : ∃ t, X.mg x = some (.int i t)) (hd : (x == ("__debug__" : Str)) = false := by decide) : PE X (.Name x pos) (tC (.int i)) := by
  obtain ⟨t, h⟩ := hm
  exact pe_glob hg h ⟨t, rfl⟩ hd
theorem pe_gK {a : Addr} (hg : Gl X x) (hm : X.mg x = some (.ref a)) (hd : (x == ("__debug__" : Str)) = false := by decide) : PE X (.Name x pos) (tC (.ref a)) := pe_glob hg hm rfl hd
theorem hu1 {A : Around} (hr : Room k A) : A.units + 1 < cLine := by
  have := hr.un
  omega
theorem hu65 {A : Around} (hr : Room k A) : A.units + 65 < cLine := by
  have := hr.un
  omega
end
section
variable {P : Program} {w : World} {K : PySem.W.Frag} {mg : Str → Option Value} {base : Heap}
/-- the slots at a def's start -/
def startD (N : List Str) (ds : List Dt) : En := ds.map some ++ List.replicate (N.length - ds.length) none
theorem env_start {N : List Str} {H : Hp} {vs : List V} {ds : List Dt} (h : Rps K H vs ds) : EnvD K H (L2.start N vs) (startD N ds) := by
  refine ⟨by simp [L2.start, startD, h.length], fun i d e => ?_⟩
  unfold startD at e
  unfold L2.start
  by_cases hi : i < ds.length
  · rw [List.getElem?_append_left (by simpa using hi), List.getElem?_map] at e
    cases q : ds[i]? with
    | none =>
      rw [q] at e
      cases e
    | some d' =>
      rw [q] at e
      have e2 : d' = d := Option.some.inj (Option.some.inj e)
      subst e2
      obtain ⟨v, h1, h2⟩ := h.get q
      refine ⟨v, ?_, h2⟩
      rw [List.getElem?_append_left (by rw [List.length_map, h.length]; exact hi), List.getElem?_map, h1]
      rfl
  · rw [List.getElem?_append_right (by simpa using hi)] at e
    rw [List.getElem?_replicate] at e
    split at e
    · cases e
    · cases e
/-- the end of a def's body: it returns, or it falls through and gives None -/
def RetD (K : PySem.W.Frag) (t : TS) (r : En) (d : Dt) : Prop := SD K t r (.rt d) ∨ (d = .non ∧ ∃ r', SD K t r (.nx r'))
/-- THE RULE for a def -/
theorem mk_okG {x : Str} {st : Stmt} {N ps : List Str} {k : Nat} {sp : Sp} (D : Df K mg x st) (S : FnScope N ps (defScope st)) (len : ∀ vs H Q E, sp vs H Q E → vs.length = ps.length)
    (bnd : ∀ (kV doc pm : Value) (an : Option Addr) (cdv ct : Value) (us : List Value), us.length = ps.length → bindArgs (PySem.W.fnOf x x (defArgs st) (defBody st) (defScope st) .none kV doc pm an cdv ct) ⟨us, []⟩ = pure (ps.zip us))
    (body : ∀ (f : Addr) (cdv : Value) (A : Around) (outer : List Env) (s : Shared) (H : Hp) (E : XK), Room k (A.deeper (PyProof.Rows.envOfC x (defScope st) s.heap.objs.size f cdv)) →
      ∃ t, PSs (cxOf CX0 P w K mg base N x (defScope st) f cdv A outer s H E).nox (defBody st) t ∧ ∀ (vs : List V) (H : Hp) (Q : VK) (E : XK), sp vs H Q E → t { nx := fun _ H' => Q .non H', rt := Q } (L2.start N vs) H) : OkD P w K mg base (k + 1) x ps sp := by
  obtain ⟨f, fd, F, hm⟩ := D
  refine ⟨f, fd, hm, F.kp, F.bindsN bnd, F.ok S len fun cdv A outer s H vs Q E hr hsp => ?_⟩
  obtain ⟨t, h1, h2⟩ := body f cdv A outer s H E hr
  exact ⟨t, h1.nox, h2 vs H Q E hsp⟩
theorem mk_ok {x : Str} {st : Stmt} {N ps : List Str} {k : Nat} {R : List Dt → Dt → Prop} (D : Df K mg x st) (S : FnScope N ps (defScope st)) (len : ∀ ds d, R ds d → ds.length = ps.length)
    (bnd : ∀ (kV doc pm : Value) (an : Option Addr) (cdv ct : Value) (us : List Value), us.length = ps.length → bindArgs (PySem.W.fnOf x x (defArgs st) (defBody st) (defScope st) .none kV doc pm an cdv ct) ⟨us, []⟩ = pure (ps.zip us))
    (body : ∀ (f : Addr) (cdv : Value) (A : Around) (outer : List Env) (s : Shared) (H : Hp) (E : XK), Room k (A.deeper (PyProof.Rows.envOfC x (defScope st) s.heap.objs.size f cdv)) →
      ∃ t, PSs (cxOf CX0 P w K mg base N x (defScope st) f cdv A outer s H E).nox (defBody st) t ∧ ∀ ds d, R ds d → RetD K t (startD N ds) d) : OkD P w K mg base (k + 1) x ps (spD K R) := by
  refine mk_okG D S (fun vs H Q E h => ?_) bnd fun f cdv A outer s H E hr => ?_
  · obtain ⟨ds, d, hR, hv, _⟩ := h
    rw [hv.length]
    exact len ds d hR
  · obtain ⟨t, h1, h2⟩ := body f cdv A outer s H E hr
    refine ⟨t, h1, fun vs H Q E hsp => ?_⟩
    obtain ⟨ds, d, hR, hv, q⟩ := hsp
    rcases h2 ds d hR with h | ⟨rfl, r', h⟩
    · exact h _ _ H (env_start hv) fun v H' s' r' => q v H' s' r'
    · exact h _ _ H (env_start hv) fun σ' H' s' _ => q .non H' s' .non
theorem OkD.imp {k : Nat} {x : Str} {ps : List Str} {sp sp' : Sp} (h : OkD P w K mg base k x ps sp) (i : ∀ vs H Q E, sp' vs H Q E → sp vs H Q E) : OkD P w K mg base k x ps sp' := by
  obtain ⟨f, fd, hm, hk, hb, G⟩ := h
  exact ⟨f, fd, hm, hk, hb, G.imp i⟩
theorem OkD.mono {j k : Nat} {x : Str} {ps : List Str} {sp : Sp} (h : OkD P w K mg base j x ps sp) (l : j ≤ k) : OkD P w K mg base k x ps sp := by
  obtain ⟨f, fd, hm, hk, hb, G⟩ := h
  exact ⟨f, fd, hm, hk, hb, G.mono l⟩
end
end SB
/-! the rules with the written part told (within a comprehension's block the context must not stand in a reading) -/
namespace SB
open PySem L2
section
variable {X : Cx} {K : PySem.W.Frag}
theorem k_ixT (h : X.K = K) : IxR X (rIxT K) := by subst h; exact ix_tup
theorem k_ixL (h : X.K = K) : IxR X (rIxL K) := by subst h; exact ix_list
theorem k_sl (h : X.K = K) : SlR X (rSlA K) := by subst h; exact sl_tupA
theorem k_in (h : X.K = K) : OpR X (compareOp .In) (rIn K false) := by subst h; exact op_in_seq
theorem k_inA (h : X.K = K) (hu : X.A.units + 65 < cLine) : OpR X (compareOp .In) (rInA K false) := by subst h; exact o_inA hu
theorem k_notInA (h : X.K = K) (hu : X.A.units + 65 < cLine) : OpR X (compareOp .NotIn) (rInA K true) := by subst h; exact o_notInA hu
theorem k_eqD (h : X.K = K) (hu : X.A.units + 64 < cLine) : OpR X (compareOp .Eq) (rEqD K) := by subst h; exact op_eqD hu
theorem k_neD (h : X.K = K) (hu : X.A.units + 64 < cLine) : OpR X (compareOp .NotEq) (rNeD K) := by subst h; exact op_neD hu
theorem k_catA (h : X.K = K) : OpR X (binaryOp .Add) (rCatA K) := by subst h; exact op_catA
theorem k_len (h : X.K = K) : CallR X (.builtin "len") (rLenQ K) := by subst h; exact c_len
theorem k_tuple (h : X.K = K) : CallR X (.type "tuple") (rTupQ K) := by subst h; exact c_tuple
theorem k_all (h : X.K = K) (hc : X.calm = true) : CallR X (.builtin "all") (rAll K) := by subst h; exact cr_all hc
theorem k_isi (h : X.K = K) : CallR X (.builtin "isinstance") (rIsi K) := by subst h; exact call_isi
theorem k_isiT (h : X.K = K) : CallR X (.builtin "isinstance") (rIsiT K) := by subst h; exact call_isiT
theorem k_tindex (h : X.K = K) : MtR X "tuple.index" (rTIdx K) := by subst h; exact m_tindex
theorem k_piT {tg l : Expr} {tl : TE} (h : X.K = K) (hl : PE X l tl) : PI X tg l (iTup K tl) := by subst h; exact pi_tup hl
theorem k_piL {tg l : Expr} {tl : TE} (h : X.K = K) (hl : PE X l tl) : PI X tg l (iList K tl) := by subst h; exact pi_list hl
theorem k_pgT {es : List Expr} {c : Nat} {pos : Pos} {t : TGs} {n : Nat} (h : X.K = K) (hc : X.calm = true) (hg : PGs X es t) (hn : (assignEach es X.env).length = n := by rfl) (hst : (assignEach es X.env).findIdx? (·.1) = none := by rfl) : PG X (.Tuple es c pos) (gTup K n t) := by
  subst h
  exact pg_tup hc hg hn hst
theorem k_bm {o : Expr} {name : Str} {es : List Expr} {e : Expr} {apos cpos : Pos} {T : String} {id : String} {r : V → List V → Hp → VK → Prop} {to : TE} {t : TA} (h : X.K = K) (pa : PlainAttrs T) (slot : Slot T name id) (hty : typeOf (.builtin id) = pure (.type "method_descriptor")) (hm : MtR X id r) (ho : PE X o to) (ha : PA X (e :: es) t)
    (hbase : attributeBase o name X.env (eval o X.env) = eval o X.env := by rfl)
    (hfew : ((backTo cpos (starEach (e :: es) X.env)).all (fun x => !x.1) && (backToKw cpos (keywordEach [] X.env)).all (fun x => x.1.isSome) && decide ((e :: es).length + ([] : List Keyword).length + (if ([] : List Keyword).isEmpty then 0 else 1) < 30)) = true := by rfl)
    (hline : (apos.endLine == cpos.line) = true := by rfl) (hs : starEach (e :: es) X.env = (false, eval e X.env) :: starEach es X.env := by rfl) (hplain : (backTo cpos (starEach es X.env)).any (·.1) = false := by rfl) :
    PE X (.Call (.Attribute o name apos) (e :: es) [] cpos) (tBM K T r to t) := by
  subst h
  exact pe_bm pa slot hty hm ho ha hbase hfew hline hs hplain
/-- list(d), d a dict whose keys are tuples -/
def rListT : List V → Hp → VK → Prop := fun xs H Q => ∃ d kvs, xs = [V.ref d] ∧ Rd H d (.dT kvs) ∧ ∀ p bs, H p = none → IsKeys H kvs bs → Q (.ref p) (upd H p (.lst (bs.map V.ref)))
theorem c_listT (hc : X.calm = true) : CallR X (.type "list") rListT := call_list_dT hc
end
end SB
namespace SB
open PySem L2
local macro_rules | `(tactic| walk_at "ed") => `(tactic| with_reducible first
  | refine ed_var ?_ | exact ed_int | exact ed_str | exact ed_bl | exact ed_non | exact ed_ty
  | refine ed_op ?_ ?_ ?_ | refine ed_un ?_ ?_ | refine ed_cb ?_ ?_ | refine ed_call ?_ (PD.of ?_) | refine ed_tup ?_ ?_ | refine ed_lst ?_ ?_
  | refine ed_chain ?_ ?_ ?_ ?_ ?_ | refine ed_chain3 ?_ ?_ ?_ ?_ ?_ ?_ ?_ | refine ed_not ?_
  | exact ad_nil | refine ad_cons ?_ ?_ | refine td_test ?_ | refine td_B ?_ | refine td_not ?_ | exact td_yes
  | exact od_none | refine od_some ?_ | refine ed_slT ?_ ?_ ?_
  | exact bd_add | exact bd_sub | exact bd_lt | exact bd_le | exact bd_gt | exact bd_ge | exact ud_neg | exact bd_eqI | exact bd_eqS | exact bd_eqB | exact bd_neI | exact bd_neB | exact bd_isB | exact bd_notB
  | refine bd_ixT ?_ | refine bd_ixK ?_ | refine bd_ixL ?_
  | exact cd_lenT | exact cd_lenK | exact cd_lenL | exact cd_tuple | exact cd_int | exact cd_max | exact cd_min)
section
variable {P : Program} {w : World} {K : PySem.W.Frag} {mg : Str → Option Value} {base : Heap}
def R_is_integer : List Dt → Dt → Prop := fun ds d => ∃ i, ds = [.int i] ∧ d = .bl true
def R_is_in : List Dt → Dt → Prop := fun ds d => ∃ i a b, ds = [.int i, .int a, .int b] ∧ d = .bl (decide (a ≤ i) && decide (i ≤ b))
def R_is_list : List Dt → Dt → Prop := fun ds d => ∃ xs a b, ds = [.tup xs, .int a, .int b] ∧ d = .bl (decide (a ≤ (xs.length : Int)) && decide ((xs.length : Int) ≤ b))
def R_is_place : List Dt → Dt → Prop := fun ds d => ∃ i, ds = [.int i] ∧ d = .bl (decide (0 ≤ i) && decide (i ≤ 7))
def R_is_path : List Dt → Dt → Prop := fun ds d => ∃ p, PthOk p ∧ ds = [tk (pthK p)] ∧ d = .bl true
theorem isi_tt {d : Dt} {t n : String} {r : En} {i : Nat} (h : r[i]? = some (some d)) (e : tyN d = t) (k : kitB t n = some true) (hd : t ≠ "") : ED K (tCB (rIsi K) (tCons (tVar i) (tCons (tC (.ty n)) tNil))) r (.bl true) := ed_cb (ad_cons (ed_var h) (ad_cons ed_ty ad_nil)) (cd_isi e k hd)
theorem isi_ff {d : Dt} {t n : String} {r : En} {i : Nat} (h : r[i]? = some (some d)) (e : tyN d = t) (k : kitB t n = some false) (hd : t ≠ "") : ED K (tCB (rIsi K) (tCons (tVar i) (tCons (tC (.ty n)) tNil))) r (.bl false) := ed_cb (ad_cons (ed_var h) (ad_cons ed_ty ad_nil)) (cd_isi e k hd)
theorem sc_is_integer : FnScope ["value"] ["value"] (defScope s_is_integer) := ⟨rfl, rfl, rfl, by decide +kernel, rfl, by decide +kernel, by decide +kernel⟩
theorem ok_is_integer (D : Df K mg "is_integer" s_is_integer) (T : Tx K mg)  : OkD P w K mg base 1 "is_integer" ["value"] (spD K R_is_integer) := by
  refine mk_ok D sc_is_integer ?_ (fun _ _ _ _ _ _ us hl => match us, hl with | [_], _ => rfl) fun f cdv A outer s H E hr => ⟨_, (pss_one (ps_ret (pe_and (pe_callB (k_isi (K := K) rfl) (by rfl) T.isinstance (by decide +kernel) (pa_cons (pv 0) (pa_cons (pe_bltn (v := .ty "int") (by rfl) T.int (by decide +kernel) rfl) pa_nil))) (pe_one (pe_not (pe_callB (k_isi (K := K) rfl) (by rfl) T.isinstance (by decide +kernel) (pa_cons (pv 0) (pa_cons (pe_bltn (v := .ty "bool") (by rfl) T.bool (by decide +kernel) rfl) pa_nil)))))))), ?_⟩
  · rintro ds d ⟨i, rfl, rfl⟩
    rfl
  · rintro ds d ⟨i, rfl, rfl⟩
    exact .inl (sd_ret (ed_and (a := true) (b := true) (isi_tt (t := "int") rfl rfl (by decide +kernel) (by decide)) fun _ => ed_not (a := false) (isi_ff (t := "int") rfl rfl (by decide +kernel) (by decide))))
theorem sc_is_in : FnScope ["value", "least", "most"] ["value", "least", "most"] (defScope s_is_in) := ⟨rfl, rfl, rfl, by decide +kernel, rfl, by decide +kernel, by decide +kernel⟩
theorem ok_is_in (D : Df K mg "is_in" s_is_in) (T : Tx K mg) (C_is_integer : OkD P w K mg base 1 "is_integer" ["value"] (spD K R_is_integer)) : OkD P w K mg base 2 "is_in" ["value", "least", "most"] (spD K R_is_in) := by
  refine mk_ok D sc_is_in ?_ (fun _ _ _ _ _ _ us hl => match us, hl with | [_, _, _], _ => rfl) fun f cdv A outer s H E hr => ⟨_, (pss_one (ps_ret (pe_and (pe_callD C_is_integer (hr.mono (by decide)) (by rfl) (pa_cons (pv 0) pa_nil)) (pe_one (pe_chain op_le op_le (pv 1) (pv 0) (pv 2)))))), ?_⟩
  · rintro ds d ⟨i, a, b, rfl, rfl⟩
    rfl
  · rintro ds d ⟨i, a, b, rfl, rfl⟩
    exact .inl (sd_ret (ed_is (ed_and (a := true) (ed_call (ad_cons (ed_var rfl) ad_nil) (PD.of ⟨_, rfl, rfl⟩)) fun _ => ed_chain (ed_var rfl) (ed_var rfl) bd_le (ed_var rfl) bd_le) rfl))
theorem sc_is_list : FnScope ["value", "least", "most"] ["value", "least", "most"] (defScope s_is_list) := ⟨rfl, rfl, rfl, by decide +kernel, rfl, by decide +kernel, by decide +kernel⟩
theorem ok_is_list (D : Df K mg "is_list" s_is_list) (T : Tx K mg)  : OkD P w K mg base 1 "is_list" ["value", "least", "most"] (spD K R_is_list) := by
  refine mk_ok D sc_is_list ?_ (fun _ _ _ _ _ _ us hl => match us, hl with | [_, _, _], _ => rfl) fun f cdv A outer s H E hr => ⟨_, (pss_one (ps_ret (pe_and (pe_callB (k_isi (K := K) rfl) (by rfl) T.isinstance (by decide +kernel) (pa_cons (pv 0) (pa_cons (pe_bltn (v := .ty "tuple") (by rfl) T.tuple (by decide +kernel) rfl) pa_nil))) (pe_one (pe_chain op_le op_le (pv 1) (pe_callB (k_len (K := K) rfl) (by rfl) T.len (by decide +kernel) (pa_cons (pv 0) pa_nil)) (pv 2)))))), ?_⟩
  · rintro ds d ⟨xs, a, b, rfl, rfl⟩
    rfl
  · rintro ds d ⟨xs, a, b, rfl, rfl⟩
    exact .inl (sd_ret (ed_is (ed_and (a := true) (isi_tt (t := "tuple") rfl rfl (by decide +kernel) (by decide)) fun _ => ed_chain (ed_var rfl) (ed_cb (ad_cons (ed_var rfl) ad_nil) cd_lenT) bd_le (ed_var rfl) bd_le) rfl))
theorem sc_is_place : FnScope ["value"] ["value"] (defScope s_is_place) := ⟨rfl, rfl, rfl, by decide +kernel, rfl, by decide +kernel, by decide +kernel⟩
theorem ok_is_place (D : Df K mg "is_place" s_is_place) (T : Tx K mg) (C_is_in : OkD P w K mg base 2 "is_in" ["value", "least", "most"] (spD K R_is_in)) : OkD P w K mg base 3 "is_place" ["value"] (spD K R_is_place) := by
  refine mk_ok D sc_is_place ?_ (fun _ _ _ _ _ _ us hl => match us, hl with | [_], _ => rfl) fun f cdv A outer s H E hr => ⟨_, (pss_one (ps_ret (pe_callD C_is_in (hr.mono (by decide)) (by rfl) (pa_cons (pv 0) (pa_cons pe_int (pa_cons (pe_gI (by rfl) T.place) pa_nil)))))), ?_⟩
  · rintro ds d ⟨i, rfl, rfl⟩
    rfl
  · rintro ds d ⟨i, rfl, rfl⟩
    exact .inl (sd_ret (ed_call (ad_cons (ed_var rfl) (ad_cons ed_int (ad_cons ed_int ad_nil))) (PD.of ⟨_, _, _, rfl, rfl⟩)))
theorem sc_is_path : FnScope ["value"] ["value"] (defScope s_is_path) := ⟨rfl, rfl, rfl, by decide +kernel, rfl, by decide +kernel, by decide +kernel⟩
theorem ok_is_path (D : Df K mg "is_path" s_is_path) (T : Tx K mg) (C_is_list : OkD P w K mg base 1 "is_list" ["value", "least", "most"] (spD K R_is_list)) (C_is_place : OkD P w K mg base 3 "is_place" ["value"] (spD K R_is_place)) : OkD P w K mg base 4 "is_path" ["value"] (spD K R_is_path) := by
  refine mk_ok D sc_is_path ?_ (fun _ _ _ _ _ _ us hl => match us, hl with | [_], _ => rfl) fun f cdv A outer s H E hr => ⟨_, (pss_one (ps_ret (pe_and (pe_callD C_is_list (hr.mono (by decide)) (by rfl) (pa_cons (pv 0) (pa_cons pe_int (pa_cons pe_int pa_nil)))) (pe_and (pe_callD C_is_place (hr.mono (by decide)) (by rfl) (pa_cons (pe_ix (k_ixT (K := K) rfl) (pv 0) pe_int (fun _ _ => rfl)) pa_nil)) (pe_and (pe_callD C_is_place (hr.mono (by decide)) (by rfl) (pa_cons (pe_ix (k_ixT (K := K) rfl) (pv 0) pe_int (fun _ _ => rfl)) pa_nil)) (pe_one (pe_cmpR op_lt (pe_ix (k_ixT (K := K) rfl) (pv 0) pe_int (fun _ _ => rfl)) (pe_ix (k_ixT (K := K) rfl) (pv 0) pe_int (fun _ _ => rfl)) (nomark _)))))))), ?_⟩
  · rintro ds d ⟨p, hp, rfl, rfl⟩
    rfl
  · rintro ds d ⟨⟨a, b⟩, ⟨h1, h2, h3⟩, rfl, rfl⟩
    simp only at h1 h2 h3
    refine .inl (sd_ret (ed_is (ed_and (ed_call (ad_cons (ed_var rfl) (ad_cons ed_int (ad_cons ed_int ad_nil))) (PD.of ⟨_, _, _, rfl, rfl⟩)) fun _ => ed_and (ed_call (ad_cons (ed_op (ed_var rfl) ed_int (bd_ixT rfl)) ad_nil) (PD.of ⟨_, rfl, rfl⟩)) fun _ =>
      ed_and (ed_call (ad_cons (ed_op (ed_var rfl) ed_int (bd_ixT rfl)) ad_nil) (PD.of ⟨_, rfl, rfl⟩)) fun _ => ed_op (ed_op (ed_var rfl) ed_int (bd_ixT rfl)) (ed_op (ed_var rfl) ed_int (bd_ixT rfl)) bd_lt) ?_))
    rw [decide_eq_true (show 0 ≤ a by omega), decide_eq_true h3, decide_eq_true h1, decide_eq_true (show b ≤ 7 by omega), decide_eq_true h2]
    rfl
end
end SB
namespace SB
open PySem L2
section
variable {P : Program} {w : World} {K : PySem.W.Frag} {mg : Str → Option Value} {base : Heap}
theorem mem_intsF {lo : Int} {n : Nat} {d : Dt} (h : d ∈ intsF lo n) : ∃ i : Nat, i < n ∧ d = .int (lo + (i : Nat)) := by
  obtain ⟨i, hi, rfl⟩ := List.mem_map.mp h
  exact ⟨i, List.mem_range.mp hi, rfl⟩
theorem map_true (ds : List Dt) : ds.map (fun _ => Dt.bl true) = (List.replicate ds.length true).map Dt.bl := by
  induction ds with
  | nil => rfl
  | cons d ds ih => rw [List.map_cons, List.length_cons, List.replicate_succ, List.map_cons, ih]
theorem all_true (n : Nat) : (List.replicate n true).all id = true := by
  induction n with
  | zero => rfl
  | succ n ih => rw [List.replicate_succ, List.all_cons, ih]; rfl
/-- all([..]) where each is True -/
theorem ed_all {wi : TI} {g : TG} {te : TE} {vs : List Nat} {r : En} {ds : List Dt} (hi : ID K wi r ds) (hz : ds.length ≤ 90000) (r' : Dt → En) (hg : ∀ d, d ∈ ds → GD K g vs (wipeD r vs) d (r' d)) (he : ∀ d, d ∈ ds → ED K te (r' d) (.bl true)) :
    ED K (tCB (rAll K) (tCons (tLc wi g tYes te vs) tNil)) r (.bl true) := by
  have h := ed_lc1 (te := te) hi hz r' (fun _ => .bl true) hg he fun _ _ => rfl
  rw [map_true] at h
  have h2 := ed_cb (ad_cons h ad_nil) (cd_all (K := K))
  rw [all_true] at h2
  exact h2
theorem sd_skip {c : TT} {t z : TS} {r : En} {o : Out} (h : TD K c r false) (k : SD K z r o) : SD K (tSeq (tIfS c t tNext) z) r o := sd_seq (sd_if h (fun q => by cases q) fun _ => sd_next) k
theorem sd_take {c : TT} {t z u : TS} {r : En} {d : Dt} (h : TD K c r true) (k : SD K t r (.rt d)) : SD K (tSeq (tIfS c t u) z) r (.rt d) := sd_seqR (sd_if h (fun _ => k) fun q => by cases q)
theorem td_no {t : TT} {r : En} {b : Bool} (h : TD K t r b) (e : b = true) : TD K (tNot t) r false := td_is (td_not h) (by rw [e]; rfl)
def R_rises : List Dt → Dt → Prop := fun ds d => ∃ kss : List (List Key), ds = [.tup (kss.map tk)] ∧ kss.length ≤ 1000 ∧ (∀ i a b, kss[i]? = some a → kss[i + 1]? = some b → ltO a b = some true) ∧ d = .bl true
theorem sc_rises : FnScope ["some", "index"] ["some"] (defScope s_rises) := ⟨rfl, rfl, rfl, by decide +kernel, rfl, by decide +kernel, by decide +kernel⟩
theorem ok_rises (D : Df K mg "rises" s_rises) (T : Tx K mg)  : OkD P w K mg base 1 "rises" ["some"] (spD K R_rises) := by
  refine mk_ok D sc_rises ?_ (fun _ _ _ _ _ _ us hl => match us, hl with | [_], _ => rfl) fun f cdv A outer s H E hr => ⟨_, (pss_one (ps_ret (pe_callB (k_all (K := K) rfl rfl) (by rfl) T.all (by decide +kernel) (pa_cons (by exact pe_lc (own := [("index", 1)]) (g := (gName 1)) (by rfl) sc_rises.nd (pi_range2 (by rfl) T.range (pa_cons pe_int (pa_cons (pe_callB (k_len (K := K) rfl) (by rfl) T.len (by decide +kernel) (pa_cons (pv 0) pa_nil)) pa_nil))) (blkOk_by (own := [("index", 1)]) (N := ["some", "index"]) (sc := defScope s_rises) (by decide +kernel)) (fun _ _ _ _ _ => (pg_name (i := 1) sc_rises.nd rfl (.inl rfl))) (fun _ _ _ _ _ => pts_nil) (fun _ _ _ _ _ => (pe_cmpR (o_ltQ hr.units0) (pe_ix (k_ixT (K := K) rfl) (pv 0) (pe_op op_sub (pv 1) pe_int) (fun _ _ => rfl)) (pe_ix (k_ixT (K := K) rfl) (pv 0) (pv 1) (fun _ _ => rfl)) (nomark _)))) pa_nil)))), ?_⟩
  · rintro ds d ⟨kss, rfl, _⟩
    rfl
  · rintro ds d ⟨kss, rfl, hl, h, rfl⟩
    refine .inl (sd_ret (ed_all (id_rng2 (lo := 1) (n := ((kss.map tk).length : Int)) (ad_cons ed_int (ad_cons (ed_cb (ad_cons (ed_var rfl) ad_nil) cd_lenT) ad_nil)) (by rw [List.length_map]; omega)) (by rw [ints_len, List.length_map]; omega) (fun d => [some (.tup (kss.map tk)), some d]) (fun d _ => gd_name (by decide)) fun d hd => ?_))
    obtain ⟨i, hi, rfl⟩ := mem_intsF hd
    rw [List.length_map] at hi
    have h1 : i < kss.length := by omega
    have h2 : i + 1 < kss.length := by omega
    have a1 : atI (kss.map tk) (1 + (i : Int) - 1) = some (tk kss[i]) := by
      rw [show 1 + (i : Int) - 1 = (i : Int) by omega]
      refine atI_nat ?_
      rw [List.getElem?_map, List.getElem?_eq_getElem h1]
      rfl
    have a2 : atI (kss.map tk) (1 + (i : Int)) = some (tk kss[i + 1]) := by
      rw [show 1 + (i : Int) = ((i + 1 : Nat) : Int) by omega]
      refine atI_nat ?_
      rw [List.getElem?_map, List.getElem?_eq_getElem h2]
      rfl
    exact ed_op (ed_op (ed_var rfl) (ed_op (ed_var rfl) ed_int bd_sub) (bd_ixT a1)) (ed_op (ed_var rfl) (ed_var rfl) (bd_ixT a2)) (bd_ltT (h i _ _ (List.getElem?_eq_getElem h1) (List.getElem?_eq_getElem h2)))
/-- pairwise rising: each next -/
theorem next_lt {α : Type} {g : α → Int} {l : List α} (h : l.Pairwise fun x y => g x < g y) {i : Nat} {a b : α} (ha : l[i]? = some a) (hb : l[i + 1]? = some b) : g a < g b := by
  obtain ⟨h1, e1⟩ := List.getElem?_eq_some_iff.mp ha
  obtain ⟨h2, e2⟩ := List.getElem?_eq_some_iff.mp hb
  have := List.pairwise_iff_getElem.mp h i (i + 1) h1 h2 (Nat.lt_succ_self i)
  rw [e1, e2] at this
  exact this
theorem rises_pth {l : List (Int × Int)} (hl : l.length ≤ 1000) (h : ∀ p ∈ l, PthOk p) (a : l.Pairwise fun p q => pthR p < pthR q) : R_rises [.tup (psD l)] (.bl true) := by
  refine ⟨l.map pthK, rfl, by rw [List.length_map]; exact hl, fun i x y hx hy => ?_, rfl⟩
  rw [List.getElem?_map] at hx hy
  cases e1 : l[i]? with
  | none => rw [e1] at hx; cases hx
  | some p =>
    cases e2 : l[i + 1]? with
    | none => rw [e2] at hy; cases hy
    | some q =>
      rw [e1] at hx
      rw [e2] at hy
      have h1 : pthK p = x := Option.some.inj hx
      have h2 : pthK q = y := Option.some.inj hy
      rw [← h1, ← h2, ltO_pth (h p (List.mem_of_getElem? e1)) (h q (List.mem_of_getElem? e2)), decide_eq_true (next_lt a e1 e2)]
theorem rises_ent {l : List Ent} (hl : l.length ≤ 1000) (h : WtOk l) : R_rises [.tup (esD l)] (.bl true) := by
  refine ⟨l.map Ent.ks, rfl, by rw [List.length_map]; exact hl, fun i x y hx hy => ?_, rfl⟩
  rw [List.getElem?_map] at hx hy
  cases e1 : l[i]? with
  | none => rw [e1] at hx; cases hx
  | some p =>
    cases e2 : l[i + 1]? with
    | none => rw [e2] at hy; cases hy
    | some q =>
      rw [e1] at hx
      rw [e2] at hy
      have h1 : p.ks = x := Option.some.inj hx
      have h2 : q.ks = y := Option.some.inj hy
      rw [← h1, ← h2, ltO_ent (h.d p (List.mem_of_getElem? e1)) (h.d q (List.mem_of_getElem? e2)), decide_eq_true (next_lt h.asc e1 e2)]
def R_are_paths : List Dt → Dt → Prop := fun ds d => ∃ l : List (Int × Int), l.length ≤ 1000 ∧ (∀ p ∈ l, PthOk p) ∧ l.Pairwise (fun p q => pthR p < pthR q) ∧ ds = [.tup (psD l)] ∧ d = .bl true
theorem sc_are_paths : FnScope ["value", "one"] ["value"] (defScope s_are_paths) := ⟨rfl, rfl, rfl, by decide +kernel, rfl, by decide +kernel, by decide +kernel⟩
theorem ok_are_paths (D : Df K mg "are_paths" s_are_paths) (T : Tx K mg) (C_is_path : OkD P w K mg base 4 "is_path" ["value"] (spD K R_is_path)) (C_rises : OkD P w K mg base 1 "rises" ["some"] (spD K R_rises)) : OkD P w K mg base 5 "are_paths" ["value"] (spD K R_are_paths) := by
  refine mk_ok D sc_are_paths ?_ (fun _ _ _ _ _ _ us hl => match us, hl with | [_], _ => rfl) fun f cdv A outer s H E hr => ⟨_, (pss_one (ps_ret (pe_and (pe_callB (k_isi (K := K) rfl) (by rfl) T.isinstance (by decide +kernel) (pa_cons (pv 0) (pa_cons (pe_bltn (v := .ty "tuple") (by rfl) T.tuple (by decide +kernel) rfl) pa_nil))) (pe_and (pe_callB (k_all (K := K) rfl rfl) (by rfl) T.all (by decide +kernel) (pa_cons (by exact pe_lc (own := [("one", 1)]) (g := (gName 1)) (by rfl) sc_are_paths.nd (k_piT (K := K) rfl (pv 0)) (blkOk_by (own := [("one", 1)]) (N := ["value", "one"]) (sc := defScope s_are_paths) (by decide +kernel)) (fun _ _ _ _ _ => (pg_name (i := 1) sc_are_paths.nd rfl (.inl rfl))) (fun _ _ _ _ _ => pts_nil) (fun _ _ _ _ _ => (pe_callD C_is_path (hr.mono (by decide)) (by rfl) (pa_cons (pv 1) pa_nil)))) pa_nil)) (pe_one (pe_callD C_rises (hr.mono (by decide)) (by rfl) (pa_cons (pv 0) pa_nil))))))), ?_⟩
  · rintro ds d ⟨l, _, _, _, rfl, _⟩
    rfl
  · rintro ds d ⟨l, hl, h1, h2, rfl, rfl⟩
    refine .inl (sd_ret (ed_and (a := true) (b := true) (isi_tt (t := "tuple") rfl rfl (by decide +kernel) (by decide)) fun _ => ed_and (a := true) (b := true) (ed_all (id_tup (ed_var rfl)) (by rw [List.length_map, List.length_map]; omega) (fun d => [some (.tup (psD l)), some d]) (fun d _ => gd_name (by decide)) fun d hd => ?_) fun _ => ed_call (ad_cons (ed_var rfl) ad_nil) (PD.of (rises_pth hl h1 h2))))
    obtain ⟨k, hk, rfl⟩ := List.mem_map.mp hd
    obtain ⟨p, hp, rfl⟩ := List.mem_map.mp hk
    exact ed_call (ad_cons (ed_var rfl) ad_nil) (PD.of ⟨p, h1 p hp, rfl, rfl⟩)
end
end SB
namespace SB
open PySem L2
section
variable {P : Program} {w : World} {K : PySem.W.Frag} {mg : Str → Option Value} {base : Heap}
def R_is_entry_in : List Dt → Dt → Prop := fun ds d => ∃ e, dOk e ∧ ds = [entD e] ∧ d = .bl true
def sW : List Str := ["set", "sum", "mul", "load"]
def sE : List Str := ["set", "sum", "mul", "load", "store", "out"]
def kU : List (List Key) := [[.inr "sum", .inr "a"], [.inr "mul", .inr "a"], [.inr "load", .inr "a"], [.inr "store", .inr "a"], [.inr "store", .inr "b"], [.inr "zero", .inr "a"], [.inr "out", .inr "a"]]
theorem wk_in (k : WK) : k.nm ∈ sW := by cases k <;> decide +kernel
theorem ef_in (e : EF) : e.nm ∈ sE := by cases e <;> decide +kernel
theorem us_in (u : US) : [Sum.inr u.nm, Sum.inr u.ro] ∈ kU := kin_iff.mp (by cases u <;> decide +kernel)
theorem jn_in (z : Bool) : jn z ∈ (["zero", "go"] : List Str) := by cases z <;> decide +kernel
theorem kU_ok : ∀ ks ∈ kU, ks.all keyOk = true := by decide +kernel
theorem us_ok (u : US) : ([Sum.inr u.nm, Sum.inr u.ro] : List Key).all keyOk = true := kU_ok _ (us_in u)
theorem cut_butlast (e : Ent) : cutD (e.ks.map kd) none (some (-1)) = e.r.nms.map Dt.str := by
  have hl : (e.ks.map kd) = e.r.nms.map Dt.str ++ [Dt.int (e.d : Int)] := by
    show (e.r.nms.map Sum.inr ++ [Sum.inl (e.d : Int)]).map kd = _
    rw [List.map_append, List.map_map]
    rfl
  have hn : (e.ks.map kd).length = e.r.nms.length + 1 := by rw [hl, List.length_append, List.length_map]; rfl
  unfold cutD
  rw [hn, HT.sIx_none]
  have h2 : HT.sIx (e.r.nms.length + 1) (e.r.nms.length + 1) (some (-1)) = e.r.nms.length := by
    unfold HT.sIx
    simp only
    rw [if_pos (by decide)]
    omega
  rw [h2, hl, List.drop_zero, Nat.sub_zero]
  have h3 : e.r.nms.length = (e.r.nms.map Dt.str).length := (List.length_map ..).symm
  rw [h3, List.take_left]
theorem nms_len (r : Ru) : r.nms.length = 3 ∨ r.nms.length = 4 := by
  cases r with
  | mem sl => cases sl <;> exact .inl rfl
  | ord k l => exact .inl rfl
  | val k u => exact .inr rfl
  | wr z e => exact .inl rfl
theorem ks_len (e : Ent) : (e.ks.map kd).length = e.r.nms.length + 1 := by
  show ((e.r.nms.map Sum.inr ++ [Sum.inl (e.d : Int)]).map kd).length = _
  rw [List.length_map, List.length_append, List.length_map]
  rfl
theorem ks_last (e : Ent) : atI (e.ks.map kd) (-1) = some (.int (e.d : Int)) := by
  have hl : (e.ks.map kd) = e.r.nms.map Dt.str ++ [Dt.int (e.d : Int)] := by
    show (e.r.nms.map Sum.inr ++ [Sum.inl (e.d : Int)]).map kd = _
    rw [List.map_append, List.map_map]
    rfl
  rw [hl]
  exact atI_last _ _
theorem sc_is_entry_in : FnScope ["value", "rule", "first", "second", "one"] ["value"] (defScope s_is_entry_in) := ⟨rfl, rfl, rfl, by decide +kernel, rfl, by decide +kernel, by decide +kernel⟩
theorem ok_is_entry_in (D : Df K mg "is_entry_in" s_is_entry_in) (T : Tx K mg) (C_is_in : OkD P w K mg base 2 "is_in" ["value", "least", "most"] (spD K R_is_in)) (C_is_list : OkD P w K mg base 1 "is_list" ["value", "least", "most"] (spD K R_is_list)) : OkD P w K mg base 3 "is_entry_in" ["value"] (spD K R_is_entry_in) := by
  refine mk_ok D sc_is_entry_in ?_ (fun _ _ _ _ _ _ us hl => match us, hl with | [_], _ => rfl) fun f cdv A outer s H E hr => ⟨_, (pss_cons (ps_if (PW.pt (pw_or (pt_not (pt_val (pe_callD C_is_list (hr.mono (by decide)) (by rfl) (pa_cons (pv 0) (pa_cons pe_int (pa_cons pe_int pa_nil)))))) (pw_or1 (pt_not (pt_val (pe_callB (k_all (K := K) rfl rfl) (by rfl) T.all (by decide +kernel) (pa_cons (by exact pe_lc (own := [("one", 4)]) (g := (gName 4)) (by rfl) sc_is_entry_in.nd (k_piT (K := K) rfl (pe_slice (k_sl (K := K) rfl) (pv 0) po_none (po_some (pe_un un_neg pe_int)))) (blkOk_by (own := [("one", 4)]) (N := ["value", "rule", "first", "second", "one"]) (sc := defScope s_is_entry_in) (by decide +kernel)) (fun _ _ _ _ _ => (pg_name (i := 4) sc_is_entry_in.nd rfl (.inl rfl))) (fun _ _ _ _ _ => pts_nil) (fun _ _ _ _ _ => (pe_callB (k_isi (K := K) rfl) (by rfl) T.isinstance (by decide +kernel) (pa_cons (pv 4) (pa_cons (pe_bltn (v := .ty "str") (by rfl) T.str (by decide +kernel) rfl) pa_nil))))) pa_nil))))))) (pss_one (ps_ret pe_bl)) pss_nil)
      (pss_cons (ps_if (pt_not (pt_val (pe_callD C_is_in (hr.mono (by decide)) (by rfl) (pa_cons (pe_ix (k_ixT (K := K) rfl) (pv 0) (pe_un un_neg pe_int) (fun _ _ => rfl)) (pa_cons pe_int (pa_cons (pe_gI (by rfl) T.apart) pa_nil)))))) (pss_one (ps_ret pe_bl)) pss_nil)
      (pss_cons (ps_asg (pe_slice (k_sl (K := K) rfl) (pv 0) po_none (po_some pe_int)) (k_pgT (K := K) rfl rfl (pgs_cons (pg_name (i := 1) sc_is_entry_in.nd rfl (.inl rfl)) (pgs_cons (pg_name (i := 2) sc_is_entry_in.nd rfl (.inl rfl)) (pgs_cons (pg_name (i := 3) sc_is_entry_in.nd rfl (.inl rfl)) pgs_nil)))))
      (pss_cons (ps_if (pt_cmpR op_eq (pe_callB (k_len (K := K) rfl) (by rfl) T.len (by decide +kernel) (pa_cons (pv 0) pa_nil)) pe_int (nomark _)) (pss_one (ps_ret (pe_and (pe_cmpR op_eq (pv 1) pe_str (nomark _)) (pe_and (pe_cmpR (k_in (K := K) rfl) (pv 2) (pe_gK (by rfl) T.gW) (by rfl)) (pe_one (pe_cmpR (k_inA (K := K) rfl (hu65 hr)) (pe_tup (pa_cons (pv 3) (pa_cons (pe_ix (k_ixT (K := K) rfl) (pv 0) pe_int (fun _ _ => rfl)) pa_nil))) (pe_gK (by rfl) T.gU) (by rfl))))))) pss_nil)
      (pss_cons (ps_if (pt_cmpR op_eq (pv 1) pe_str (nomark _)) (pss_one (ps_ret (pe_and (pe_cmpR (k_in (K := K) rfl) (pv 2) (pe_gK (by rfl) T.gW) (by rfl)) (pe_one (pe_cmpR (k_in (K := K) rfl) (pv 3) (pe_gK (by rfl) T.gW) (by rfl)))))) pss_nil)
      (pss_cons (ps_if (pt_cmpR op_eq (pv 1) pe_str (nomark _)) (pss_one (ps_ret (pe_cmpR (k_inA (K := K) rfl (hu65 hr)) (pe_tup (pa_cons (pv 2) (pa_cons (pv 3) pa_nil))) (pe_tup (pa_cons (pe_tup (pa_cons pe_str (pa_cons pe_str pa_nil))) (pa_cons (pe_tup (pa_cons pe_str (pa_cons pe_str pa_nil))) pa_nil))) (by rfl)))) pss_nil)
      (pss_one (ps_ret (pe_and (pe_cmpR op_eq (pv 1) pe_str (nomark _)) (pe_and (pe_cmpR (k_in (K := K) rfl) (pv 2) (pe_tup (pa_cons pe_str (pa_cons pe_str pa_nil))) (by rfl)) (pe_one (pe_cmpR (k_in (K := K) rfl) (pv 3) (pe_gK (by rfl) T.gE) (by rfl))))))))))))), ?_⟩
  · rintro ds d ⟨e, _, rfl, _⟩
    rfl
  · rintro ds d ⟨e, ⟨d1, d2⟩, rfl, rfl⟩
    refine .inl (sd_skip (td_is (td_or (a := false) (b := false) ?_ fun _ => ?_) rfl) (sd_skip ?_ ?_))
    · refine td_no (b := decide ((4 : Int) ≤ ((e.ks.map kd).length : Int)) && decide (((e.ks.map kd).length : Int) ≤ 5)) (td_B (ed_call (ad_cons (ed_var rfl) (ad_cons ed_int (ad_cons ed_int ad_nil))) (PD.of ⟨_, _, _, rfl, rfl⟩))) ?_
      have := ks_len e
      have := nms_len e.r
      rw [decide_eq_true (by omega), decide_eq_true (by omega)]
      rfl
    · refine td_no (b := true) (td_B (ed_all (ds := e.r.nms.map Dt.str) (id_tup (ed_is (ed_slT (ed_var rfl) od_none (od_some (ed_un ed_int ud_neg))) ?_)) ?_ (fun d => [some (entD e), none, none, none, some d]) (fun d _ => gd_name (by decide)) fun d hd => ?_)) rfl
      · rw [cut_butlast]
      · rw [List.length_map]
        have := nms_len e.r
        omega
      · obtain ⟨x, _, rfl⟩ := List.mem_map.mp hd
        exact isi_tt (t := "str") rfl rfl (by decide +kernel) (by decide)
    · refine td_no (b := decide ((1 : Int) ≤ (e.d : Int)) && decide ((e.d : Int) ≤ 7)) (td_B (ed_call (ad_cons (ed_op (ed_var rfl) (ed_un ed_int ud_neg) (bd_ixT (ks_last e))) (ad_cons ed_int (ad_cons ed_int ad_nil))) (PD.of ⟨_, _, _, rfl, rfl⟩))) ?_
      rw [decide_eq_true (by omega), decide_eq_true (by omega)]
      rfl
    · obtain ⟨rr, dd⟩ := e
      have kon : ∀ {r : En}, ED K (tC (.ref (He.ga K "WRITING"))) r (.ktup (sW.map Dt.str)) := ed_kon T.kW
      have koE : ∀ {r : En}, ED K (tC (.ref (He.ga K "EFFECTS"))) r (.ktup (sE.map Dt.str)) := ed_kon T.kE
      have koU : ∀ {r : En}, ED K (tC (.ref (He.ga K "USERS"))) r (.ktup (kU.map kk)) := ed_kon T.kU
      cases rr with
      | val k u =>
        refine sd_seq (sd_unpack (is := [1, 2, 3]) (ds := [.str "value", .str k.nm, .str u.nm]) (ed_is (ed_slT (ed_var rfl) od_none (od_some ed_int)) rfl) rfl rfl) (sd_take ?_ (sd_ret (ed_is (ed_and (a := true) ?_ fun _ => ed_and (a := true) ?_ fun _ => ed_op (ed_tup (ad_cons (ed_var rfl) (ad_cons (ed_op (ed_var rfl) ed_int (bd_ixT rfl)) ad_nil)) (Nat.le_of_ble_eq_true rfl)) koU (bd_inK (ks := [Sum.inr u.nm, Sum.inr u.ro]) (us_ok u) kU_ok)) ?_)))
        · exact td_is (td_test (ed_op (ed_cb (ad_cons (ed_var rfl) ad_nil) cd_lenT) ed_int bd_eqI)) (decide_eq_true rfl)
        · exact ed_is (ed_op (ed_var rfl) ed_str bd_eqS) (by rw [decide_eq_true rfl])
        · exact ed_is (ed_op (ed_var rfl) kon bd_inSK) (by rw [decide_eq_true (wk_in k)])
        · show Dt.bl (true && (true && kin [Sum.inr u.nm, Sum.inr u.ro] kU)) = _
          rw [kin_iff.mpr (us_in u)]
          rfl
      | ord k l =>
        refine sd_seq (sd_unpack (is := [1, 2, 3]) (ds := [.str "order", .str k.nm, .str l.nm]) (ed_is (ed_slT (ed_var rfl) od_none (od_some ed_int)) rfl) rfl rfl) (sd_skip ?_ (sd_take ?_ (sd_ret (ed_is (ed_and (a := true) ?_ fun _ => ed_op (ed_var rfl) kon bd_inSK) ?_))))
        · exact td_is (td_test (ed_op (ed_cb (ad_cons (ed_var rfl) ad_nil) cd_lenT) ed_int bd_eqI)) (decide_eq_false (by rw [ks_len]; exact (show ¬ ((4 : Nat) : Int) = 5 by decide)))
        · exact td_is (td_test (ed_op (ed_var rfl) ed_str bd_eqS)) (by decide +kernel)
        · exact ed_is (ed_op (ed_var rfl) kon bd_inSK) (by rw [decide_eq_true (wk_in k)])
        · rw [decide_eq_true (wk_in l)]
          rfl
      | mem sl =>
        refine sd_seq (sd_unpack (is := [1, 2, 3]) (ds := [.str "memory", .str (if sl = true then "store" else "load"), .str (if sl = true then "load" else "store")]) (ed_is (ed_slT (ed_var rfl) od_none (od_some ed_int)) ?_) rfl rfl) (sd_skip ?_ (sd_skip ?_ (sd_take ?_ (sd_ret (ed_is (ed_op (ed_tup (ad_cons (ed_var rfl) (ad_cons (ed_var rfl) ad_nil)) (Nat.le_of_ble_eq_true rfl)) (ed_tup (ad_cons (ed_tup (ad_cons ed_str (ad_cons ed_str ad_nil)) (by decide)) (ad_cons (ed_tup (ad_cons ed_str (ad_cons ed_str ad_nil)) (by decide)) ad_nil)) (by decide))
            (bd_inT (ks := [Sum.inr (if sl = true then "store" else "load"), Sum.inr (if sl = true then "load" else "store")]) (kss := [[Sum.inr "store", Sum.inr "load"], [Sum.inr "load", Sum.inr "store"]]) ?_ ?_)) ?_)))))
        · cases sl <;> rfl
        · cases sl <;> exact td_is (td_test (ed_op (ed_cb (ad_cons (ed_var rfl) ad_nil) cd_lenT) ed_int bd_eqI)) (decide_eq_false (by rw [ks_len]; exact (show ¬ ((4 : Nat) : Int) = 5 by decide)))
        · exact td_is (td_test (ed_op (ed_var rfl) ed_str bd_eqS)) (by decide +kernel)
        · exact td_is (td_test (ed_op (ed_var rfl) ed_str bd_eqS)) (by decide +kernel)
        · cases sl <;> decide +kernel
        · decide +kernel
        · cases sl
          · show Dt.bl (kin [Sum.inr "load", Sum.inr "store"] [[Sum.inr "store", Sum.inr "load"], [Sum.inr "load", Sum.inr "store"]]) = _
            rw [kin_iff.mpr (List.mem_cons_of_mem _ (List.mem_cons_self ..))]
          · show Dt.bl (kin [Sum.inr "store", Sum.inr "load"] [[Sum.inr "store", Sum.inr "load"], [Sum.inr "load", Sum.inr "store"]]) = _
            rw [kin_iff.mpr (List.mem_cons_self ..)]
      | wr z f =>
        refine sd_seq (sd_unpack (is := [1, 2, 3]) (ds := [.str "wrong", .str (jn z), .str f.nm]) (ed_is (ed_slT (ed_var rfl) od_none (od_some ed_int)) rfl) rfl rfl) (sd_skip ?_ (sd_skip ?_ (sd_skip ?_ (sd_ret (ed_is (ed_and (a := true) ?_ fun _ => ed_and (a := true) ?_ fun _ => ed_op (ed_var rfl) koE bd_inSK) ?_)))))
        · exact td_is (td_test (ed_op (ed_cb (ad_cons (ed_var rfl) ad_nil) cd_lenT) ed_int bd_eqI)) (decide_eq_false (by rw [ks_len]; exact (show ¬ ((4 : Nat) : Int) = 5 by decide)))
        · exact td_is (td_test (ed_op (ed_var rfl) ed_str bd_eqS)) (by decide +kernel)
        · exact td_is (td_test (ed_op (ed_var rfl) ed_str bd_eqS)) (by decide +kernel)
        · exact ed_is (ed_op (ed_var rfl) ed_str bd_eqS) (by rw [decide_eq_true rfl])
        · exact ed_is (ed_op (ed_var rfl) (ed_tup (ad_cons ed_str (ad_cons ed_str ad_nil)) (by decide)) (bd_inS (ss := ["zero", "go"]))) (by rw [decide_eq_true (jn_in z)])
        · rw [decide_eq_true (ef_in f)]
          rfl
def R_are_waits : List Dt → Dt → Prop := fun ds d => ∃ l : List Ent, l.length ≤ 1000 ∧ WtOk l ∧ ds = [.tup (esD l)] ∧ d = .bl true
theorem sc_are_waits : FnScope ["value", "one"] ["value"] (defScope s_are_waits) := ⟨rfl, rfl, rfl, by decide +kernel, rfl, by decide +kernel, by decide +kernel⟩
theorem ok_are_waits (D : Df K mg "are_waits" s_are_waits) (T : Tx K mg) (C_is_entry_in : OkD P w K mg base 3 "is_entry_in" ["value"] (spD K R_is_entry_in)) (C_rises : OkD P w K mg base 1 "rises" ["some"] (spD K R_rises)) : OkD P w K mg base 4 "are_waits" ["value"] (spD K R_are_waits) := by
  refine mk_ok D sc_are_waits ?_ (fun _ _ _ _ _ _ us hl => match us, hl with | [_], _ => rfl) fun f cdv A outer s H E hr => ⟨_, (pss_one (ps_ret (pe_and (pe_callB (k_isi (K := K) rfl) (by rfl) T.isinstance (by decide +kernel) (pa_cons (pv 0) (pa_cons (pe_bltn (v := .ty "tuple") (by rfl) T.tuple (by decide +kernel) rfl) pa_nil))) (pe_and (pe_callB (k_all (K := K) rfl rfl) (by rfl) T.all (by decide +kernel) (pa_cons (by exact pe_lc (own := [("one", 1)]) (g := (gName 1)) (by rfl) sc_are_waits.nd (k_piT (K := K) rfl (pv 0)) (blkOk_by (own := [("one", 1)]) (N := ["value", "one"]) (sc := defScope s_are_waits) (by decide +kernel)) (fun _ _ _ _ _ => (pg_name (i := 1) sc_are_waits.nd rfl (.inl rfl))) (fun _ _ _ _ _ => pts_nil) (fun _ _ _ _ _ => (pe_callD C_is_entry_in (hr.mono (by decide)) (by rfl) (pa_cons (pv 1) pa_nil)))) pa_nil)) (pe_one (pe_callD C_rises (hr.mono (by decide)) (by rfl) (pa_cons (pv 0) pa_nil))))))), ?_⟩
  · rintro ds d ⟨l, _, _, rfl, _⟩
    rfl
  · rintro ds d ⟨l, hl, h, rfl, rfl⟩
    refine .inl (sd_ret (ed_and (a := true) (b := true) (isi_tt (t := "tuple") rfl rfl (by decide +kernel) (by decide)) fun _ => ed_and (a := true) (b := true) (ed_all (id_tup (ed_var rfl)) (by rw [List.length_map, List.length_map]; omega) (fun d => [some (.tup (esD l)), some d]) (fun d _ => gd_name (by decide)) fun d hd => ?_) fun _ => ed_call (ad_cons (ed_var rfl) ad_nil) (PD.of (rises_ent hl h))))
    obtain ⟨k, hk, rfl⟩ := List.mem_map.mp hd
    obtain ⟨e, he, rfl⟩ := List.mem_map.mp hk
    exact ed_call (ad_cons (ed_var rfl) ad_nil) (PD.of ⟨e, h.d e he, rfl, rfl⟩)
def R_is_entry : List Dt → Dt → Prop := R_is_entry_in
theorem sc_is_entry : FnScope ["value"] ["value"] (defScope s_is_entry) := ⟨rfl, rfl, rfl, by decide +kernel, rfl, by decide +kernel, by decide +kernel⟩
theorem ok_is_entry (D : Df K mg "is_entry" s_is_entry) (T : Tx K mg) (C_is_entry_in : OkD P w K mg base 3 "is_entry_in" ["value"] (spD K R_is_entry_in)) : OkD P w K mg base 4 "is_entry" ["value"] (spD K R_is_entry) := by
  refine mk_ok D sc_is_entry ?_ (fun _ _ _ _ _ _ us hl => match us, hl with | [_], _ => rfl) fun f cdv A outer s H E hr => ⟨_, (pss_one (ps_ret (pe_callD C_is_entry_in (hr.mono (by decide)) (by rfl) (pa_cons (pv 0) pa_nil)))), ?_⟩
  · rintro ds d ⟨e, _, rfl, _⟩
    rfl
  · rintro ds d ⟨e, he, rfl, rfl⟩
    exact .inl (sd_ret (ed_call (ad_cons (ed_var rfl) ad_nil) (PD.of ⟨e, he, rfl, rfl⟩)))
def R_need_entry : List Dt → Dt → Prop := fun ds d => ∃ e, dOk e ∧ ds = [entD e] ∧ d = .non
theorem sc_need_entry : FnScope ["entry"] ["entry"] (defScope s_need_entry) := ⟨rfl, rfl, rfl, by decide +kernel, rfl, by decide +kernel, by decide +kernel⟩
theorem ok_need_entry (D : Df K mg "need_entry" s_need_entry) (T : Tx K mg) (C_is_entry_in : OkD P w K mg base 3 "is_entry_in" ["value"] (spD K R_is_entry_in)) : OkD P w K mg base 4 "need_entry" ["entry"] (spD K R_need_entry) := by
  refine mk_ok D sc_need_entry ?_ (fun _ _ _ _ _ _ us hl => match us, hl with | [_], _ => rfl) fun f cdv A outer s H E hr => ⟨_, (pss_one (ps_if (pt_not (pt_val (pe_callD C_is_entry_in (hr.mono (by decide)) (by rfl) (pa_cons (pv 0) pa_nil)))) (pss_one ps_never) pss_nil)), ?_⟩
  · rintro ds d ⟨e, _, rfl, _⟩
    rfl
  · rintro ds d ⟨e, he, rfl, rfl⟩
    exact .inr ⟨rfl, _, sd_if (td_no (td_B (ed_call (ad_cons (ed_var rfl) ad_nil) (PD.of ⟨e, he, rfl, rfl⟩))) rfl) (fun q => by cases q) fun _ => sd_next⟩
end
end SB
namespace SB
open PySem L2
section
variable {P : Program} {w : World} {K : PySem.W.Frag} {mg : Str → Option Value} {base : Heap}
def nmT : List (List Str) := [["set", "made", "written"], ["sum", "used", "made", "written"], ["mul", "used", "made", "written"], ["load", "used", "fetched", "written"], ["store", "used a", "used b", "put"], ["zero", "used", "decided"], ["go", "decided"], ["out", "used", "shown"]]
theorem kNAMES_eq : kNAMES = .ktup (nmT.map cs) := rfl
theorem ints8 {i : Nat} {d : Dt} (h : (intsF 0 8)[i]? = some d) : i < 8 ∧ d = .int (0 + (i : Nat)) := by
  have hi : i < 8 := by
    have := (List.getElem?_eq_some_iff.mp h).1
    rwa [ints_len] at this
  refine ⟨hi, ?_⟩
  rw [ints_at hi] at h
  exact (Option.some.inj h).symm
theorem at0 {α : Type} {xs : List α} {i : Nat} {x : α} (h : xs[i]? = some x) : atI xs (0 + (i : Int)) = some x := by
  rw [Int.zero_add]
  exact atI_nat h
theorem at_map {α β : Type} {f : α → β} {xs : List α} {i : Nat} {x : α} (h : xs[i]? = some x) : (xs.map f)[i]? = some (f x) := by
  rw [List.getElem?_map, h]
  rfl
def R_are_places : List Dt → Dt → Prop := fun ds d => ∃ D : Des, PlOk D.rd D.pl ∧ ds = [.int D.rd, plD D.pl] ∧ d = .bl true
def yA : Nat → Option Dt
  | 0 => none
  | i + 1 => some (.int (0 + (i : Nat)))
def mnA (i : Nat) : Int := ((((nmT[i]?.getD []).map Dt.str).length : Nat) : Int) - 1
def zA : Nat → Option Dt
  | 0 => none
  | i + 1 => some (.int (mnA i))
theorem rows_nm {p : Pl} {i : Nat} (hi : i < 8) : ∃ row ss, p.rows[i]? = some row ∧ nmT[i]? = some ss ∧ row.length + 1 = ss.length ∧ row.length < 5 := by
  match i, hi with
  | 0, _ => exact ⟨_, _, rfl, rfl, rfl, by show 2 < 5; omega⟩
  | 1, _ => exact ⟨_, _, rfl, rfl, rfl, by show 3 < 5; omega⟩
  | 2, _ => exact ⟨_, _, rfl, rfl, rfl, by show 3 < 5; omega⟩
  | 3, _ => exact ⟨_, _, rfl, rfl, rfl, by show 3 < 5; omega⟩
  | 4, _ => exact ⟨_, _, rfl, rfl, rfl, by show 3 < 5; omega⟩
  | 5, _ => exact ⟨_, _, rfl, rfl, rfl, by show 2 < 5; omega⟩
  | 6, _ => exact ⟨_, _, rfl, rfl, rfl, by show 1 < 5; omega⟩
  | 7, _ => exact ⟨_, _, rfl, rfl, rfl, by show 2 < 5; omega⟩
theorem ed_N (T : Tx K mg) {r : En} : ED K (tC (.ref (He.ga K "NAMES"))) r (.ktup (nmT.map cs)) := ed_kon T.kN
theorem rng8 (T : Tx K mg) {r : En} : ID K (iRng1 (tCons (tCB (rLenQ K) (tCons (tC (.ref (He.ga K "NAMES"))) tNil)) tNil)) r (intsF 0 8) := id_rng1 (n := 8) (ad_cons (ed_cb (ad_cons (ed_N T) ad_nil) cd_lenK) ad_nil) (by decide)
theorem sc_are_places : FnScope ["read", "places", "index", "many", "own", "sums", "mul", "load", "store", "zero", "go", "out", "one"] ["read", "places"] (defScope s_are_places) := ⟨rfl, rfl, rfl, by decide +kernel, rfl, by decide +kernel, by decide +kernel⟩
theorem ok_are_places (D : Df K mg "are_places" s_are_places) (T : Tx K mg) (C_is_list : OkD P w K mg base 1 "is_list" ["value", "least", "most"] (spD K R_is_list)) (C_is_place : OkD P w K mg base 3 "is_place" ["value"] (spD K R_is_place)) : OkD P w K mg base 4 "are_places" ["read", "places"] (spD K R_are_places) := by
  refine mk_ok D sc_are_places ?_ (fun _ _ _ _ _ _ us hl => match us, hl with | [_, _], _ => rfl) fun f cdv A outer s H E hr => ⟨_, (pss_cons (ps_if (pt_not (pt_val (pe_callD C_is_list (hr.mono (by decide)) (by rfl) (pa_cons (pv 1) (pa_cons (pe_callB (k_len (K := K) rfl) (by rfl) T.len (by decide +kernel) (pa_cons (pe_gK (by rfl) T.gN) pa_nil)) (pa_cons (pe_callB (k_len (K := K) rfl) (by rfl) T.len (by decide +kernel) (pa_cons (pe_gK (by rfl) T.gN) pa_nil)) pa_nil)))))) (pss_one (ps_ret pe_bl)) pss_nil)
      (pss_cons (ps_for PassesOwn.never rfl (pi_range1 (by rfl) T.range (pa_cons (pe_callB (k_len (K := K) rfl) (by rfl) T.len (by decide +kernel) (pa_cons (pe_gK (by rfl) T.gN) pa_nil)) pa_nil)) (pg_name (i := 2) sc_are_places.nd rfl (.inl rfl)) (pss_cons (ps_set (i := 3) sc_are_places.nd rfl (.inl rfl) (pe_op op_sub (pe_callB (k_len (K := K) rfl) (by rfl) T.len (by decide +kernel) (pa_cons (pe_ix (k_ixT (K := K) rfl) (pe_gK (by rfl) T.gN) (pv 2) (fun _ _ => rfl)) pa_nil)) pe_int))
      (pss_one (ps_if (PW.pt (pw_or (pt_not (pt_val (pe_callD C_is_list (hr.mono (by decide)) (by rfl) (pa_cons (pe_ix (k_ixT (K := K) rfl) (pv 1) (pv 2) (fun _ _ => rfl)) (pa_cons (pv 3) (pa_cons (pv 3) pa_nil)))))) (pw_or1 (pt_not (pt_val (pe_callB (k_all (K := K) rfl rfl) (by rfl) T.all (by decide +kernel) (pa_cons (by exact pe_lc (own := [("one", 12)]) (g := (gName 12)) (by rfl) sc_are_places.nd (k_piT (K := K) rfl (pe_ix (k_ixT (K := K) rfl) (pv 1) (pv 2) (fun _ _ => rfl))) (blkOk_by (own := [("one", 12)]) (N := ["read", "places", "index", "many", "own", "sums", "mul", "load", "store", "zero", "go", "out", "one"]) (sc := defScope s_are_places) (by decide +kernel)) (fun _ _ _ _ _ => (pg_name (i := 12) sc_are_places.nd rfl (.inl rfl))) (fun _ _ _ _ _ => pts_nil) (fun _ _ _ _ _ => (pe_callD C_is_place (hr.mono (by decide)) (by rfl) (pa_cons (pv 12) pa_nil)))) pa_nil))))))) (pss_one (ps_ret pe_bl)) pss_nil))))
      (pss_cons (ps_asg (pv 1) (k_pgT (K := K) rfl rfl (pgs_cons (pg_name (i := 4) sc_are_places.nd rfl (.inl rfl)) (pgs_cons (pg_name (i := 5) sc_are_places.nd rfl (.inl rfl)) (pgs_cons (pg_name (i := 6) sc_are_places.nd rfl (.inl rfl)) (pgs_cons (pg_name (i := 7) sc_are_places.nd rfl (.inl rfl)) (pgs_cons (pg_name (i := 8) sc_are_places.nd rfl (.inr rfl)) (pgs_cons (pg_name (i := 9) sc_are_places.nd rfl (.inl rfl)) (pgs_cons (pg_name (i := 10) sc_are_places.nd rfl (.inl rfl)) (pgs_cons (pg_name (i := 11) sc_are_places.nd rfl (.inl rfl)) pgs_nil))))))))))
      (pss_cons (ps_if (pt_not (PW.pt (pw_and (pt_cmpR op_lt (pv 0) (pe_ix (k_ixT (K := K) rfl) (pv 4) pe_int (fun _ _ => rfl)) (nomark _)) (pw_and (pt_cmpR op_lt (pe_ix (k_ixT (K := K) rfl) (pv 4) pe_int (fun _ _ => rfl)) (pe_ix (k_ixT (K := K) rfl) (pv 4) pe_int (fun _ _ => rfl)) (nomark _)) (pw_and (pt_chain op_le op_le (pv 0) (pe_ix (k_ixT (K := K) rfl) (pv 9) pe_int (fun _ _ => rfl)) (pe_ix (k_ixT (K := K) rfl) (pv 9) pe_int (fun _ _ => rfl))) (pw_and1 (pt_chain op_le op_le (pv 0) (pe_ix (k_ixT (K := K) rfl) (pv 11) pe_int (fun _ _ => rfl)) (pe_ix (k_ixT (K := K) rfl) (pv 11) pe_int (fun _ _ => rfl))))))))) (pss_one (ps_ret pe_bl)) pss_nil)
      (pss_cons (ps_if (pt_not (pt_val (pe_callB (k_all (K := K) rfl rfl) (by rfl) T.all (by decide +kernel) (pa_cons (by exact pe_lc (own := [("one", 12)]) (g := (gName 12)) (by rfl) sc_are_places.nd (k_piT (K := K) rfl (pe_tup (pa_cons (pv 5) (pa_cons (pv 6) (pa_cons (pv 7) pa_nil))))) (blkOk_by (own := [("one", 12)]) (N := ["read", "places", "index", "many", "own", "sums", "mul", "load", "store", "zero", "go", "out", "one"]) (sc := defScope s_are_places) (by decide +kernel)) (fun _ _ _ _ _ => (pg_name (i := 12) sc_are_places.nd rfl (.inl rfl))) (fun _ _ _ _ _ => pts_nil) (fun _ _ _ _ _ => (pe_chain3 op_le op_le op_lt (pv 0) (pe_ix (k_ixT (K := K) rfl) (pv 12) pe_int (fun _ _ => rfl)) (pe_ix (k_ixT (K := K) rfl) (pv 12) pe_int (fun _ _ => rfl)) (pe_ix (k_ixT (K := K) rfl) (pv 12) pe_int (fun _ _ => rfl))))) pa_nil)))) (pss_one (ps_ret pe_bl)) pss_nil)
      (pss_one (ps_ret (pe_callB (k_all (K := K) rfl rfl) (by rfl) T.all (by decide +kernel) (pa_cons (by exact pe_lc (own := [("one", 12)]) (g := (gName 12)) (by rfl) sc_are_places.nd (k_piT (K := K) rfl (pe_slice (k_sl (K := K) rfl) (pv 8) po_none (po_some pe_int))) (blkOk_by (own := [("one", 12)]) (N := ["read", "places", "index", "many", "own", "sums", "mul", "load", "store", "zero", "go", "out", "one"]) (sc := defScope s_are_places) (by decide +kernel)) (fun _ _ _ _ _ => (pg_name (i := 12) sc_are_places.nd rfl (.inl rfl))) (fun _ _ _ _ _ => pts_nil) (fun _ _ _ _ _ => (pe_chain op_le op_lt (pv 0) (pv 12) (pe_ix (k_ixT (K := K) rfl) (pv 8) pe_int (fun _ _ => rfl))))) pa_nil))))))))), ?_⟩
  · rintro ds d ⟨D, _, rfl, _⟩
    rfl
  · rintro ds d ⟨D, hp, rfl, rfl⟩
    obtain ⟨rd, same, p, pths, wts⟩ := D
    refine .inl (sd_skip (td_no (b := true) (td_B (ed_is (ed_call (ad_cons (ed_var rfl) (ad_cons (ed_cb (ad_cons (ed_N T) ad_nil) cd_lenK) (ad_cons (ed_cb (ad_cons (ed_N T) ad_nil) cd_lenK) ad_nil))) (PD.of ⟨_, _, _, rfl, rfl⟩)) rfl)) rfl) ?_)
    refine sd_seq (r1 := [some (.int rd), some (plD p), yA 8, zA 8, none, none, none, none, none, none, none, none, none]) ?_ ?_
    · refine sd_for (vs := [2]) (rng8 T) (fun i => [some (.int rd), some (plD p), yA i, zA i, none, none, none, none, none, none, none, none, none]) rfl (fun i => [some (.int rd), some (plD p), some (.int (0 + (i : Nat))), zA i, none, none, none, none, none, none, none, none, none]) (fun i d h => ?_) fun i d h => ?_
      · obtain ⟨_, rfl⟩ := ints8 h
        exact gd_name (by decide)
      · obtain ⟨hi, rfl⟩ := ints8 h
        obtain ⟨row, ss, h1, h2, h3, h4⟩ := rows_nm (p := p) hi
        have e1 : mnA i = (row.length : Int) := by
          unfold mnA
          rw [h2]
          show (((ss.map Dt.str).length : Nat) : Int) - 1 = _
          rw [List.length_map]
          omega
        refine sd_seq (sd_set (d := .int (mnA i)) (ed_is (ed_op (ed_cb (ad_cons (ed_op (ed_N T) (ed_var rfl) (bd_ixK (at0 (at_map h2)))) ad_nil) cd_lenK) ed_int bd_sub) ?_)) (sd_if (b := false) (td_is (td_or (a := false) (b := false) ?_ fun _ => ?_) rfl) (fun q => by cases q) fun _ => sd_next)
        · unfold mnA
          rw [h2]
          rfl
        · refine td_no (td_B (ed_call (ad_cons (ed_op (ed_var rfl) (ed_var rfl) (bd_ixT (at0 (at_map h1)))) (ad_cons (ed_var rfl) (ad_cons (ed_var rfl) ad_nil))) (PD.of ⟨_, _, _, rfl, rfl⟩))) ?_
          rw [List.length_map, e1, decide_eq_true (Int.le_refl _)]
          rfl
        · refine td_no (b := true) (td_B (ed_all (ds := row.map Dt.int) (id_tup (ed_op (ed_var rfl) (ed_var rfl) (bd_ixT (at0 (at_map h1))))) ?_ (fun d => [some (.int rd), some (plD p), some (.int (0 + (i : Nat))), some (.int (mnA i)), none, none, none, none, none, none, none, none, some d]) (fun d _ => gd_name (by decide)) fun d hd => ?_)) rfl
          · rw [List.length_map]
            omega
          · obtain ⟨x, hx, rfl⟩ := List.mem_map.mp hd
            obtain ⟨q1, q2⟩ := hp.all row (List.mem_of_getElem? h1) x hx
            refine ed_is (ed_call (ad_cons (ed_var rfl) ad_nil) (PD.of ⟨_, rfl, rfl⟩)) ?_
            rw [decide_eq_true q1, decide_eq_true q2]
            rfl
    · refine sd_seq (sd_unpack (is := [4, 5, 6, 7, 8, 9, 10, 11]) (ds := p.rows.map iD) (ed_var rfl) rfl rfl) (sd_skip (td_no (b := true) (td_is (td_and (td_test (ed_op (ed_var rfl) (ed_op (ed_var rfl) ed_int (bd_ixT rfl)) bd_lt)) fun _ => td_and (td_test (ed_op (ed_op (ed_var rfl) ed_int (bd_ixT rfl)) (ed_op (ed_var rfl) ed_int (bd_ixT rfl)) bd_lt)) fun _ =>
        td_and (td_test (ed_chain (ed_var rfl) (ed_op (ed_var rfl) ed_int (bd_ixT rfl)) bd_le (ed_op (ed_var rfl) ed_int (bd_ixT rfl)) bd_le)) fun _ => td_test (ed_chain (ed_var rfl) (ed_op (ed_var rfl) ed_int (bd_ixT rfl)) bd_le (ed_op (ed_var rfl) ed_int (bd_ixT rfl)) bd_le)) ?_) rfl) ?_)
      · rw [decide_eq_true hp.set.1, decide_eq_true hp.set.2, decide_eq_true hp.ze.1, decide_eq_true hp.ze.2, decide_eq_true hp.out.1, decide_eq_true hp.out.2]
        rfl
      · refine sd_skip (td_no (b := true) (td_B (ed_all (ds := [iD [p.sumU, p.sumM, p.sumW], iD [p.mulU, p.mulM, p.mulW], iD [p.loadU, p.loadM, p.loadW]]) (id_tup (ed_tup (ad_cons (ed_var rfl) (ad_cons (ed_var rfl) (ad_cons (ed_var rfl) ad_nil))) (Nat.le_of_ble_eq_true rfl))) (Nat.le_of_ble_eq_true rfl) (fun d => [some (.int rd), some (plD p), yA 8, zA 8, some (iD [p.setM, p.setW]), some (iD [p.sumU, p.sumM, p.sumW]), some (iD [p.mulU, p.mulM, p.mulW]), some (iD [p.loadU, p.loadM, p.loadW]), some (iD [p.stA, p.stB, p.stP]), some (iD [p.zeU, p.zeD]), some (iD [p.goD]), some (iD [p.outU, p.outS]), some d]) (fun d _ => gd_name (by decide)) fun d hd => ?_)) rfl) (sd_ret ?_)
        · have key : ∀ {a b c : Int}, rd ≤ a ∧ a ≤ b ∧ b < c → ED K (tChain3 (rI0 fun i j => .bl (decide (i ≤ j))) (rI0 fun i j => .bl (decide (i ≤ j))) (rI0 fun i j => .bl (decide (i < j))) (tVar 0) (tOp (rIxT K) (tVar 12) (tC (.int 0))) (tOp (rIxT K) (tVar 12) (tC (.int 1))) (tOp (rIxT K) (tVar 12) (tC (.int 2)))) [some (.int rd), some (plD p), yA 8, zA 8, some (iD [p.setM, p.setW]), some (iD [p.sumU, p.sumM, p.sumW]), some (iD [p.mulU, p.mulM, p.mulW]), some (iD [p.loadU, p.loadM, p.loadW]), some (iD [p.stA, p.stB, p.stP]), some (iD [p.zeU, p.zeD]), some (iD [p.goD]), some (iD [p.outU, p.outS]), some (iD [a, b, c])] (.bl true) := by
            intro a b c h
            refine ed_is (ed_chain3 (ed_var rfl) (ed_op (ed_var rfl) ed_int (bd_ixT rfl)) bd_le (ed_op (ed_var rfl) ed_int (bd_ixT rfl)) bd_le (ed_op (ed_var rfl) ed_int (bd_ixT rfl)) bd_lt) ?_
            rw [decide_eq_true h.1, decide_eq_true h.2.1, decide_eq_true h.2.2]
            rfl
          rcases List.mem_cons.mp hd with rfl | hd
          · exact key hp.sum
          · rcases List.mem_cons.mp hd with rfl | hd
            · exact key hp.mul
            · rcases List.mem_cons.mp hd with rfl | hd
              · exact key hp.load
              · cases hd
        · refine ed_all (ds := [.int p.stA, .int p.stB]) (id_tup (ed_is (ed_slT (ed_var rfl) od_none (od_some ed_int)) rfl)) (Nat.le_of_ble_eq_true rfl) (fun d => [some (.int rd), some (plD p), yA 8, zA 8, some (iD [p.setM, p.setW]), some (iD [p.sumU, p.sumM, p.sumW]), some (iD [p.mulU, p.mulM, p.mulW]), some (iD [p.loadU, p.loadM, p.loadW]), some (iD [p.stA, p.stB, p.stP]), some (iD [p.zeU, p.zeD]), some (iD [p.goD]), some (iD [p.outU, p.outS]), some d]) (fun d _ => gd_name (by decide)) fun d hd => ?_
          have key : ∀ {a : Int}, rd ≤ a ∧ a < p.stP → ED K (tChain (rI0 fun i j => .bl (decide (i ≤ j))) (rI0 fun i j => .bl (decide (i < j))) (tVar 0) (tVar 12) (tOp (rIxT K) (tVar 8) (tC (.int 2)))) [some (.int rd), some (plD p), yA 8, zA 8, some (iD [p.setM, p.setW]), some (iD [p.sumU, p.sumM, p.sumW]), some (iD [p.mulU, p.mulM, p.mulW]), some (iD [p.loadU, p.loadM, p.loadW]), some (iD [p.stA, p.stB, p.stP]), some (iD [p.zeU, p.zeD]), some (iD [p.goD]), some (iD [p.outU, p.outS]), some (.int a)] (.bl true) := by
            intro a h
            refine ed_is (ed_chain (ed_var rfl) (ed_var rfl) bd_le (ed_op (ed_var rfl) ed_int (bd_ixT rfl)) bd_lt) ?_
            rw [decide_eq_true h.1, decide_eq_true h.2]
            rfl
          rcases List.mem_cons.mp hd with rfl | hd
          · exact key hp.stA
          · rcases List.mem_cons.mp hd with rfl | hd
            · exact key hp.stB
            · cases hd
def R_is_design : List Dt → Dt → Prop := fun ds d => ∃ D : Des, DesOk D ∧ D.paths.length ≤ 1000 ∧ D.waits.length ≤ 1000 ∧ ds = [desD D] ∧ d = .bl true
theorem sc_is_design : FnScope ["value"] ["value"] (defScope s_is_design) := ⟨rfl, rfl, rfl, by decide +kernel, rfl, by decide +kernel, by decide +kernel⟩
theorem ok_is_design (D : Df K mg "is_design" s_is_design) (T : Tx K mg) (C_are_paths : OkD P w K mg base 5 "are_paths" ["value"] (spD K R_are_paths)) (C_are_places : OkD P w K mg base 4 "are_places" ["read", "places"] (spD K R_are_places)) (C_are_waits : OkD P w K mg base 4 "are_waits" ["value"] (spD K R_are_waits)) (C_is_list : OkD P w K mg base 1 "is_list" ["value", "least", "most"] (spD K R_is_list)) (C_is_place : OkD P w K mg base 3 "is_place" ["value"] (spD K R_is_place)) : OkD P w K mg base 6 "is_design" ["value"] (spD K R_is_design) := by
  refine mk_ok D sc_is_design ?_ (fun _ _ _ _ _ _ us hl => match us, hl with | [_], _ => rfl) fun f cdv A outer s H E hr => ⟨_, (pss_cons (ps_if (PW.pt (pw_or (pt_not (pt_val (pe_callD C_is_list (hr.mono (by decide)) (by rfl) (pa_cons (pv 0) (pa_cons pe_int (pa_cons pe_int pa_nil)))))) (pw_or (pt_not (pt_val (pe_callD C_is_place (hr.mono (by decide)) (by rfl) (pa_cons (pe_ix (k_ixT (K := K) rfl) (pv 0) pe_int (fun _ _ => rfl)) pa_nil)))) (pw_or1 (pt_not (pt_val (pe_callB (k_isi (K := K) rfl) (by rfl) T.isinstance (by decide +kernel) (pa_cons (pe_ix (k_ixT (K := K) rfl) (pv 0) pe_int (fun _ _ => rfl)) (pa_cons (pe_bltn (v := .ty "bool") (by rfl) T.bool (by decide +kernel) rfl) pa_nil))))))))) (pss_one (ps_ret pe_bl)) pss_nil)
      (pss_one (ps_ret (pe_and (pe_callD C_are_places (hr.mono (by decide)) (by rfl) (pa_cons (pe_ix (k_ixT (K := K) rfl) (pv 0) pe_int (fun _ _ => rfl)) (pa_cons (pe_ix (k_ixT (K := K) rfl) (pv 0) pe_int (fun _ _ => rfl)) pa_nil))) (pe_and (pe_callD C_are_paths (hr.mono (by decide)) (by rfl) (pa_cons (pe_ix (k_ixT (K := K) rfl) (pv 0) pe_int (fun _ _ => rfl)) pa_nil)) (pe_one (pe_callD C_are_waits (hr.mono (by decide)) (by rfl) (pa_cons (pe_ix (k_ixT (K := K) rfl) (pv 0) pe_int (fun _ _ => rfl)) pa_nil)))))))), ?_⟩
  · rintro ds d ⟨D, _, _, _, rfl, _⟩
    rfl
  · rintro ds d ⟨D, h, hl1, hl2, rfl, rfl⟩
    refine .inl (sd_skip (td_is (td_or (a := false) (b := false) ?_ fun _ => td_or (a := false) (b := false) ?_ fun _ => ?_) rfl) (sd_ret (ed_and (a := true) (b := true) ?_ fun _ => ed_and (a := true) (b := true) ?_ fun _ => ?_)))
    · exact td_no (b := true) (td_B (ed_is (ed_call (ad_cons (ed_var rfl) (ad_cons ed_int (ad_cons ed_int ad_nil))) (PD.of ⟨_, _, _, rfl, rfl⟩)) rfl)) rfl
    · refine td_no (td_B (ed_call (ad_cons (ed_op (ed_var rfl) ed_int (bd_ixT rfl)) ad_nil) (PD.of ⟨_, rfl, rfl⟩))) ?_
      rw [decide_eq_true h.rd.1, decide_eq_true h.rd.2]
      rfl
    · exact td_no (b := true) (td_B (ed_cb (ad_cons (ed_op (ed_var rfl) ed_int (bd_ixT (d := .bl D.same) rfl)) (ad_cons ed_ty ad_nil)) (cd_isi (t := "bool") rfl (by decide +kernel) (by decide)))) rfl
    · exact ed_call (ad_cons (ed_op (ed_var rfl) ed_int (bd_ixT rfl)) (ad_cons (ed_op (ed_var rfl) ed_int (bd_ixT rfl)) ad_nil)) (PD.of ⟨D, h.pl, rfl, rfl⟩)
    · exact ed_call (ad_cons (ed_op (ed_var rfl) ed_int (bd_ixT rfl)) ad_nil) (PD.of ⟨D.paths, hl1, h.pth, h.pasc, rfl, rfl⟩)
    · exact ed_call (ad_cons (ed_op (ed_var rfl) ed_int (bd_ixT rfl)) ad_nil) (PD.of ⟨D.waits, hl2, h.wt, rfl, rfl⟩)
def R_need_design : List Dt → Dt → Prop := fun ds d => ∃ D : Des, DesOk D ∧ D.paths.length ≤ 1000 ∧ D.waits.length ≤ 1000 ∧ ds = [desD D] ∧ d = .non
theorem sc_need_design : FnScope ["design"] ["design"] (defScope s_need_design) := ⟨rfl, rfl, rfl, by decide +kernel, rfl, by decide +kernel, by decide +kernel⟩
theorem ok_need_design (D : Df K mg "need_design" s_need_design) (T : Tx K mg) (C_is_design : OkD P w K mg base 6 "is_design" ["value"] (spD K R_is_design)) : OkD P w K mg base 7 "need_design" ["design"] (spD K R_need_design) := by
  refine mk_ok D sc_need_design ?_ (fun _ _ _ _ _ _ us hl => match us, hl with | [_], _ => rfl) fun f cdv A outer s H E hr => ⟨_, (pss_one (ps_if (pt_not (pt_val (pe_callD C_is_design (hr.mono (by decide)) (by rfl) (pa_cons (pv 0) pa_nil)))) (pss_one ps_never) pss_nil)), ?_⟩
  · rintro ds d ⟨D, _, _, _, rfl, _⟩
    rfl
  · rintro ds d ⟨D, h, hl1, hl2, rfl, rfl⟩
    exact .inr ⟨rfl, _, sd_if (td_no (td_B (ed_call (ad_cons (ed_var rfl) ad_nil) (PD.of ⟨D, h, hl1, hl2, rfl, rfl⟩))) rfl) (fun q => by cases q) fun _ => sd_next⟩
end
end SB
namespace SB
open PySem L2
section
variable {P : Program} {w : World} {K : PySem.W.Frag} {mg : Str → Option Value} {base : Heap}
def fixW (kind what : Str) : Str := if kind = "load" ∧ what = "made" then "fetched" else what
def sltB (i j : Nat) (kind what : Str) : Bool :=
  match nmT[i]? with
  | some (k :: l) => decide (k = kind) && (decide (l[j]? = some what) && (decide (what ∈ l) && (((List.range i).all fun a => match nmT[a]? with | some (q :: _) => !decide (q = kind) | _ => false) && ((List.range (j + 1)).all fun m => !decide ((k :: l)[m]? = some what)))))
  | _ => false
def R_place_in : List Dt → Dt → Prop := fun ds d => ∃ (D : Des) (kind what : Str) (i j : Nat) (z : Int) (row : List Int), sltB i j kind (fixW kind what) = true ∧ D.pl.rows[i]? = some row ∧ row[j]? = some z ∧ ds = [desD D, .str kind, .str what] ∧ d = .int z
theorem at_hd {q : Str} {t : List Str} : atI ((q :: t).map Dt.str) 0 = some (.str q) := atI_nat (j := 0) rfl
theorem cut_tail (x : Dt) (ds : List Dt) : cutD (x :: ds) (some 1) none = ds := by
  unfold cutD
  have h1 : HT.sIx (x :: ds).length (x :: ds).length none = (x :: ds).length := HT.sIx_none ..
  have h0 : HT.sIx (x :: ds).length 0 (some 1) = 1 := by
    unfold HT.sIx
    simp only
    rw [if_neg (by decide), List.length_cons]
    show min 1 (ds.length + 1) = 1
    omega
  rw [h0, h1]
  show (ds.take _) = ds
  rw [List.take_of_length_le (by rw [List.length_cons]; omega)]
theorem cut_tail_w (x : Dt) (ds : List Dt) : ¬ (HT.sIx (x :: ds).length 0 (some 1) = 0 ∧ HT.sIx (x :: ds).length (x :: ds).length none = (x :: ds).length) := by
  have h0 : HT.sIx (x :: ds).length 0 (some 1) = 1 := by
    unfold HT.sIx
    simp only
    rw [if_neg (by decide), List.length_cons]
    show min 1 (ds.length + 1) = 1
    omega
  rw [h0]
  omega
theorem sc_place_in : FnScope ["design", "kind", "what", "index"] ["design", "kind", "what"] (defScope s_place_in) := ⟨rfl, rfl, rfl, by decide +kernel, rfl, by decide +kernel, by decide +kernel⟩
theorem ok_place_in (D : Df K mg "place_in" s_place_in) (T : Tx K mg)  : OkD P w K mg base 1 "place_in" ["design", "kind", "what"] (spD K R_place_in) := by
  refine mk_ok D sc_place_in ?_ (fun _ _ _ _ _ _ us hl => match us, hl with | [_, _, _], _ => rfl) fun f cdv A outer s H E hr => ⟨_, (pss_cons (ps_if (PW.pt (pw_and (pt_cmpR op_eq (pv 1) pe_str (nomark _)) (pw_and1 (pt_cmpR op_eq (pv 2) pe_str (nomark _))))) (pss_one (ps_set (i := 2) sc_place_in.nd rfl (.inl rfl) pe_str)) pss_nil)
      (pss_cons (ps_for PassesOwn.never rfl (pi_range1 (by rfl) T.range (pa_cons (pe_callB (k_len (K := K) rfl) (by rfl) T.len (by decide +kernel) (pa_cons (pe_gK (by rfl) T.gN) pa_nil)) pa_nil)) (pg_name (i := 3) sc_place_in.nd rfl (.inl rfl)) (pss_one (ps_if (PW.pt (pw_and (pt_cmpR op_eq (pe_ix (k_ixT (K := K) rfl) (pe_ix (k_ixT (K := K) rfl) (pe_gK (by rfl) T.gN) (pv 3) (fun _ _ => rfl)) pe_int (fun _ _ => rfl)) (pv 1) (nomark _)) (pw_and1 (pt_cmpR (k_in (K := K) rfl) (pv 2) (pe_slice (k_sl (K := K) rfl) (pe_ix (k_ixT (K := K) rfl) (pe_gK (by rfl) T.gN) (pv 3) (fun _ _ => rfl)) (po_some pe_int) po_none) (by rfl))))) (pss_one (ps_ret (pe_ix (k_ixT (K := K) rfl) (pe_ix (k_ixT (K := K) rfl) (pe_ix (k_ixT (K := K) rfl) (pv 0) pe_int (fun _ _ => rfl)) (pv 3) (fun _ _ => rfl)) (pe_op op_sub (k_bm (K := K) rfl PySem.F.plainAttrs_tuple PySem.F.slot_tuple_index PySem.F.type_tuple_index (k_tindex (K := K) rfl) (pe_ix (k_ixT (K := K) rfl) (pe_gK (by rfl) T.gN) (pv 3) (fun _ _ => rfl)) (pa_cons (pv 2) pa_nil)) pe_int) (fun _ _ => rfl)))) pss_nil)))
      (pss_one (ps_ret pe_non)))), ?_⟩
  · rintro ds d ⟨D, kind, what, i, j, z, row, _, _, _, rfl, _⟩
    rfl
  · rintro ds d ⟨D, kind, what, i, j, z, row, hs, h1, h2, rfl, rfl⟩
    have hi8 : i < 8 := (List.getElem?_eq_some_iff.mp h1).1
    unfold sltB at hs
    obtain ⟨_, ss, g1, g2, _, _⟩ := rows_nm (p := D.pl) hi8
    rw [g2] at hs
    cases ss with
    | nil => cases hs
    | cons k l =>
      simp only [Bool.and_eq_true, decide_eq_true_eq, List.all_eq_true, List.mem_range, Bool.not_eq_true', decide_eq_false_iff_not] at hs
      obtain ⟨rfl, w1, w2, w3, w4⟩ := hs
      refine .inl (sd_seq (r1 := [some (desD D), some (.str k), some (.str (fixW k what)), none]) ?_ (sd_seqR (sd_forR (vs := [3]) (m := i) (rng8 T) (by rw [ints_len]; exact hi8) (fun i => [some (desD D), some (.str k), some (.str (fixW k what)), yA i]) rfl (fun i => [some (desD D), some (.str k), some (.str (fixW k what)), some (.int (0 + (i : Nat)))]) (fun i d _ h => ?_) (fun a d ha h => ?_) fun d h => ?_)))
      · by_cases c1 : k = "load"
        · by_cases c2 : what = "made"
          · have e : fixW k what = "fetched" := if_pos ⟨c1, c2⟩
            rw [e]
            exact sd_if (b := true) (td_is (td_and (td_test (ed_op (ed_var rfl) ed_str bd_eqS)) fun _ => td_test (ed_op (ed_var rfl) ed_str bd_eqS)) (by rw [decide_eq_true c1, decide_eq_true c2]; rfl)) (fun _ => sd_set ed_str) (fun q => by cases q)
          · have e : fixW k what = what := if_neg fun q => c2 q.2
            rw [e]
            exact sd_if (b := false) (td_is (td_and (td_test (ed_op (ed_var rfl) ed_str bd_eqS)) fun _ => td_test (ed_op (ed_var rfl) ed_str bd_eqS)) (by rw [decide_eq_true c1, decide_eq_false c2]; rfl)) (fun q => by cases q) (fun _ => sd_next)
        · have e : fixW k what = what := if_neg fun q => c1 q.1
          rw [e]
          exact sd_if (b := false) (td_is (td_and (b := false) (td_test (ed_op (ed_var rfl) ed_str bd_eqS)) fun q => absurd (of_decide_eq_true q) c1) (by rw [decide_eq_false c1]; rfl)) (fun q => by cases q) (fun _ => sd_next)
      · obtain ⟨_, rfl⟩ := ints8 h
        exact gd_name (by decide)
      · obtain ⟨ha8, rfl⟩ := ints8 h
        obtain ⟨_, ss, _, g4, _, _⟩ := rows_nm (p := D.pl) ha8
        have w5 := w3 a ha
        rw [g4] at w5
        cases ss with
        | nil => cases w5
        | cons q t =>
          have nq : ¬ q = k := of_decide_eq_false (by simpa using w5)
          exact sd_if (b := false) (td_is (td_and (b := false) (td_test (ed_op (ed_op (ed_op (ed_N T) (ed_var rfl) (bd_ixK (at0 (at_map g4)))) ed_int (bd_ixK at_hd)) (ed_var rfl) bd_eqS)) fun z => absurd (of_decide_eq_true z) nq) (by rw [decide_eq_false nq]; rfl)) (fun z => by cases z) (fun _ => sd_next)
      · obtain ⟨_, rfl⟩ := ints8 h
        refine sd_if (b := true) (td_is (td_and (td_test (ed_op (ed_op (ed_op (ed_N T) (ed_var rfl) (bd_ixK (at0 (at_map g2)))) ed_int (bd_ixK at_hd)) (ed_var rfl) bd_eqS)) fun _ => td_test (ed_op (ed_var rfl) (ed_is (ed_slK (ds := (k :: l).map Dt.str) (ed_op (ed_N T) (ed_var rfl) (bd_ixK (at0 (at_map g2)))) (od_some ed_int) od_none (cut_tail_w _ _)) (by rw [List.map_cons, cut_tail])) (bd_inS (ss := l)))) ?_) (fun _ => sd_ret ?_) (fun z => by cases z)
        · rw [decide_eq_true rfl, decide_eq_true w2]
          rfl
        · refine ed_op (ed_op (ed_op (ed_var rfl) ed_int (bd_ixT (d := plD D.pl) rfl)) (ed_var rfl) (bd_ixT (at0 (at_map h1)))) (ed_op (ed_tindex (ss := k :: l) (j := j + 1) (ed_op (ed_N T) (ed_var rfl) (bd_ixK (at0 (at_map g2)))) (ed_var rfl) w1 fun m hm => w4 m hm) ed_int bd_sub) (bd_ixT ?_)
          rw [show ((j + 1 : Nat) : Int) - 1 = (j : Int) by omega]
          exact atI_nat (at_map h2)
/-- the places of a kind -/
theorem pl_written (D : Des) (k : WK) : R_place_in [desD D, .str k.nm, .str "written"] (.int (D.pl.written k)) := by
  cases k
  · exact ⟨D, _, _, 0, 1, _, _, by decide +kernel, rfl, rfl, rfl, rfl⟩
  · exact ⟨D, _, _, 1, 2, _, _, by decide +kernel, rfl, rfl, rfl, rfl⟩
  · exact ⟨D, _, _, 2, 2, _, _, by decide +kernel, rfl, rfl, rfl, rfl⟩
  · exact ⟨D, _, _, 3, 2, _, _, by decide +kernel, rfl, rfl, rfl, rfl⟩
theorem pl_made (D : Des) (k : WK) : R_place_in [desD D, .str k.nm, .str "made"] (.int (D.pl.made k)) := by
  cases k
  · exact ⟨D, _, _, 0, 0, _, _, by decide +kernel, rfl, rfl, rfl, rfl⟩
  · exact ⟨D, _, _, 1, 1, _, _, by decide +kernel, rfl, rfl, rfl, rfl⟩
  · exact ⟨D, _, _, 2, 1, _, _, by decide +kernel, rfl, rfl, rfl, rfl⟩
  · exact ⟨D, _, _, 3, 1, _, _, by decide +kernel, rfl, rfl, rfl, rfl⟩
theorem pl_fetched (D : Des) : R_place_in [desD D, .str "load", .str "fetched"] (.int D.pl.loadM) := ⟨D, _, _, 3, 1, _, _, by decide +kernel, rfl, rfl, rfl, rfl⟩
theorem pl_put (D : Des) : R_place_in [desD D, .str "store", .str "put"] (.int D.pl.stP) := ⟨D, _, _, 4, 2, _, _, by decide +kernel, rfl, rfl, rfl, rfl⟩
theorem pl_shown (D : Des) : R_place_in [desD D, .str "out", .str "shown"] (.int D.pl.outS) := ⟨D, _, _, 7, 1, _, _, by decide +kernel, rfl, rfl, rfl, rfl⟩
theorem pl_dec (D : Des) (z : Bool) : R_place_in [desD D, .str (jn z), .str "decided"] (.int (D.pl.dec z)) := by
  cases z
  · exact ⟨D, _, _, 6, 0, _, _, by decide +kernel, rfl, rfl, rfl, rfl⟩
  · exact ⟨D, _, _, 5, 1, _, _, by decide +kernel, rfl, rfl, rfl, rfl⟩
def usW : US → Str
  | .stA => "used a" | .stB => "used b" | _ => "used"
theorem pl_used (D : Des) (u : US) : R_place_in [desD D, .str u.nm, .str (usW u)] (.int (D.pl.used u)) := by
  cases u
  · exact ⟨D, _, _, 1, 0, _, _, by decide +kernel, rfl, rfl, rfl, rfl⟩
  · exact ⟨D, _, _, 2, 0, _, _, by decide +kernel, rfl, rfl, rfl, rfl⟩
  · exact ⟨D, _, _, 3, 0, _, _, by decide +kernel, rfl, rfl, rfl, rfl⟩
  · exact ⟨D, _, _, 4, 0, _, _, by decide +kernel, rfl, rfl, rfl, rfl⟩
  · exact ⟨D, _, _, 4, 1, _, _, by decide +kernel, rfl, rfl, rfl, rfl⟩
  · exact ⟨D, _, _, 5, 0, _, _, by decide +kernel, rfl, rfl, rfl, rfl⟩
  · exact ⟨D, _, _, 7, 0, _, _, by decide +kernel, rfl, rfl, rfl, rfl⟩
def R_effect_in : List Dt → Dt → Prop := fun ds d => ∃ (D : Des) (e : EF), ds = [desD D, .str e.nm] ∧ d = .int (D.pl.eff e)
theorem sc_effect_in : FnScope ["design", "kind"] ["design", "kind"] (defScope s_effect_in) := ⟨rfl, rfl, rfl, by decide +kernel, rfl, by decide +kernel, by decide +kernel⟩
theorem ok_effect_in (D : Df K mg "effect_in" s_effect_in) (T : Tx K mg) (C_place_in : OkD P w K mg base 1 "place_in" ["design", "kind", "what"] (spD K R_place_in)) : OkD P w K mg base 2 "effect_in" ["design", "kind"] (spD K R_effect_in) := by
  refine mk_ok D sc_effect_in ?_ (fun _ _ _ _ _ _ us hl => match us, hl with | [_, _], _ => rfl) fun f cdv A outer s H E hr => ⟨_, (pss_cons (ps_if (pt_cmpR (k_in (K := K) rfl) (pv 1) (pe_gK (by rfl) T.gW) (by rfl)) (pss_one (ps_ret (pe_callD C_place_in (hr.mono (by decide)) (by rfl) (pa_cons (pv 0) (pa_cons (pv 1) (pa_cons pe_str pa_nil)))))) pss_nil)
      (pss_cons (ps_if (pt_cmpR op_eq (pv 1) pe_str (nomark _)) (pss_one (ps_ret (pe_callD C_place_in (hr.mono (by decide)) (by rfl) (pa_cons (pv 0) (pa_cons (pv 1) (pa_cons pe_str pa_nil)))))) pss_nil)
      (pss_one (ps_ret (pe_ifExp (pt_cmpR op_eq (pv 1) pe_str (nomark _)) (pe_callD C_place_in (hr.mono (by decide)) (by rfl) (pa_cons (pv 0) (pa_cons (pv 1) (pa_cons pe_str pa_nil)))) pe_non))))), ?_⟩
  · rintro ds d ⟨D, e, rfl, _⟩
    rfl
  · rintro ds d ⟨D, e, rfl, rfl⟩
    have kon : ∀ {r : En}, ED K (tC (.ref (He.ga K "WRITING"))) r (.ktup (sW.map Dt.str)) := ed_kon T.kW
    have wr : ∀ k : WK, SD K (tSeq (tIfS (tTest (tOp (rIn K false) (tVar 1) (tC (.ref (He.ga K "WRITING"))))) (tRet (tCall (spD K R_place_in) [] E0 (tCons (tVar 0) (tCons (tVar 1) (tCons (tC (.str "written")) tNil))))) tNext)
        (tSeq (tIfS (tTest (tOp rEq (tVar 1) (tC (.str "store")))) (tRet (tCall (spD K R_place_in) [] E0 (tCons (tVar 0) (tCons (tVar 1) (tCons (tC (.str "put")) tNil))))) tNext)
          (tRet (tIf (tTest (tOp rEq (tVar 1) (tC (.str "out")))) (tCall (spD K R_place_in) [] E0 (tCons (tVar 0) (tCons (tVar 1) (tCons (tC (.str "shown")) tNil)))) (tC .non))))) [some (desD D), some (.str k.nm)] (.rt (.int (D.pl.written k))) := fun k =>
      sd_take (td_is (td_test (ed_op (ed_var rfl) kon bd_inSK)) (decide_eq_true (wk_in k))) (sd_ret (ed_call (ad_cons (ed_var rfl) (ad_cons (ed_var rfl) (ad_cons ed_str ad_nil))) (PD.of (pl_written D k))))
    cases e
    · exact .inl (wr .set)
    · exact .inl (wr .sum)
    · exact .inl (wr .mul)
    · exact .inl (wr .load)
    · exact .inl (sd_skip (td_is (td_test (ed_op (ed_var rfl) kon bd_inSK)) (by decide +kernel)) (sd_take (td_is (td_test (ed_op (ed_var rfl) ed_str bd_eqS)) (by decide +kernel)) (sd_ret (ed_call (ad_cons (ed_var rfl) (ad_cons (ed_var rfl) (ad_cons ed_str ad_nil))) (PD.of (pl_put D))))))
    · exact .inl (sd_skip (td_is (td_test (ed_op (ed_var rfl) kon bd_inSK)) (by decide +kernel)) (sd_skip (td_is (td_test (ed_op (ed_var rfl) ed_str bd_eqS)) (by decide +kernel)) (sd_ret (ed_if (b := true) (td_is (td_test (ed_op (ed_var rfl) ed_str bd_eqS)) (by decide +kernel)) (fun _ => ed_call (ad_cons (ed_var rfl) (ad_cons (ed_var rfl) (ad_cons ed_str ad_nil))) (PD.of (pl_shown D))) (fun q => by cases q)))))
def R_used_in : List Dt → Dt → Prop := fun ds d => ∃ (D : Des) (u : US), ds = [desD D, .str u.nm, .str u.ro] ∧ d = .int (D.pl.used u)
theorem sc_used_in : FnScope ["design", "kind", "role"] ["design", "kind", "role"] (defScope s_used_in) := ⟨rfl, rfl, rfl, by decide +kernel, rfl, by decide +kernel, by decide +kernel⟩
theorem ok_used_in (D : Df K mg "used_in" s_used_in) (T : Tx K mg) (C_place_in : OkD P w K mg base 1 "place_in" ["design", "kind", "what"] (spD K R_place_in)) : OkD P w K mg base 2 "used_in" ["design", "kind", "role"] (spD K R_used_in) := by
  refine mk_ok D sc_used_in ?_ (fun _ _ _ _ _ _ us hl => match us, hl with | [_, _, _], _ => rfl) fun f cdv A outer s H E hr => ⟨_, (pss_one (ps_ret (pe_callD C_place_in (hr.mono (by decide)) (by rfl) (pa_cons (pv 0) (pa_cons (pv 1) (pa_cons (pe_ifExp (pt_cmpR op_eq (pv 1) pe_str (nomark _)) (pe_op o_addS pe_str (pv 2)) pe_str) pa_nil)))))), ?_⟩
  · rintro ds d ⟨D, u, rfl, _⟩
    rfl
  · rintro ds d ⟨D, u, rfl, rfl⟩
    refine .inl (sd_ret (ed_call (ad_cons (ed_var rfl) (ad_cons (ed_var rfl) (ad_cons (d := .str (usW u)) ?_ ad_nil))) (PD.of (pl_used D u))))
    cases u
    case stA => exact ed_if (b := true) (td_is (td_test (ed_op (ed_var rfl) ed_str bd_eqS)) (by decide +kernel)) (fun _ => ed_is (ed_op ed_str (ed_var rfl) (bd_addS (Nat.le_of_ble_eq_true rfl))) rfl) (fun q => by cases q)
    case stB => exact ed_if (b := true) (td_is (td_test (ed_op (ed_var rfl) ed_str bd_eqS)) (by decide +kernel)) (fun _ => ed_is (ed_op ed_str (ed_var rfl) (bd_addS (Nat.le_of_ble_eq_true rfl))) rfl) (fun q => by cases q)
    all_goals exact ed_if (b := false) (td_is (td_test (ed_op (ed_var rfl) ed_str bd_eqS)) (by decide +kernel)) (fun q => by cases q) (fun _ => ed_str)
end
end SB
namespace SB
open PySem L2
section
variable {P : Program} {w : World} {K : PySem.W.Frag} {mg : Str → Option Value} {base : Heap}
def R_value_open : List Dt → Dt → Prop := fun ds d => ∃ (D : Des) (k : WK) (u : US) (n : Nat), ds = [desD D, entD ⟨.val k u, n⟩] ∧ d = .bl (valOpen D k u n)
theorem sc_value_open : FnScope ["design", "entry", "used", "rule", "first", "second", "role", "apart", "written", "made"] ["design", "entry"] (defScope s_value_open) := ⟨rfl, rfl, rfl, by decide +kernel, rfl, by decide +kernel, by decide +kernel⟩
theorem ok_value_open (D : Df K mg "value_open" s_value_open) (T : Tx K mg) (C_place_in : OkD P w K mg base 1 "place_in" ["design", "kind", "what"] (spD K R_place_in)) (C_used_in : OkD P w K mg base 2 "used_in" ["design", "kind", "role"] (spD K R_used_in)) : OkD P w K mg base 3 "value_open" ["design", "entry"] (spD K R_value_open) := by
  refine mk_ok D sc_value_open ?_ (fun _ _ _ _ _ _ us hl => match us, hl with | [_, _], _ => rfl) fun f cdv A outer s H E hr => ⟨_, (pss_cons (ps_asg (pv 1) (k_pgT (K := K) rfl rfl (pgs_cons (pg_name (i := 3) sc_value_open.nd rfl (.inl rfl)) (pgs_cons (pg_name (i := 4) sc_value_open.nd rfl (.inl rfl)) (pgs_cons (pg_name (i := 5) sc_value_open.nd rfl (.inl rfl)) (pgs_cons (pg_name (i := 6) sc_value_open.nd rfl (.inl rfl)) (pgs_cons (pg_name (i := 7) sc_value_open.nd rfl (.inl rfl)) pgs_nil)))))))
      (pss_cons (ps_par (i := 8) (j := 9) rfl sc_value_open.nd rfl rfl (by decide) rfl rfl (pa_cons (pe_callD C_place_in (hr.mono (by decide)) (by rfl) (pa_cons (pv 0) (pa_cons (pv 4) (pa_cons pe_str pa_nil)))) (pa_cons (pe_callD C_place_in (hr.mono (by decide)) (by rfl) (pa_cons (pv 0) (pa_cons (pv 4) (pa_cons pe_str pa_nil)))) pa_nil)) (by rfl))
      (pss_cons (ps_set (i := 2) sc_value_open.nd rfl (.inl rfl) (pe_callD C_used_in (hr.mono (by decide)) (by rfl) (pa_cons (pv 0) (pa_cons (pv 5) (pa_cons (pv 6) pa_nil)))))
      (pss_cons (ps_if (PW.pt (pw_or (pt_cmpR op_gt (pe_op op_add (pe_ix (k_ixT (K := K) rfl) (pv 0) pe_int (fun _ _ => rfl)) (pv 7)) (pv 8) (nomark _)) (pw_or1 (PW.pt (pw_and (pt_val (pe_ix (k_ixT (K := K) rfl) (pv 0) pe_int (fun _ _ => rfl))) (pw_and1 (pt_cmpR op_eq (pe_op op_add (pe_ix (k_ixT (K := K) rfl) (pv 0) pe_int (fun _ _ => rfl)) (pv 7)) (pv 8) (nomark _)))))))) (pss_one (ps_ret pe_bl)) pss_nil)
      (pss_one (ps_ret (pe_or (pe_cmpR (k_notInA (K := K) rfl (hu65 hr)) (pe_tup (pa_cons (pe_op op_add (pv 2) (pv 7)) (pa_cons (pv 2) pa_nil))) (pe_ix (k_ixT (K := K) rfl) (pv 0) pe_int (fun _ _ => rfl)) (by rfl)) (pe_one (pe_cmpR op_le (pe_op op_add (pv 2) (pv 7)) (pv 9) (nomark _)))))))))), ?_⟩
  · rintro ds d ⟨D, k, u, n, rfl, _⟩
    rfl
  · rintro ds d ⟨D, k, u, n, rfl, rfl⟩
    obtain ⟨rd, same, p, pths, wts⟩ := D
    refine .inl (sd_seq (sd_unpack (is := [3, 4, 5, 6, 7]) (ds := [.str "value", .str k.nm, .str u.nm, .str u.ro, .int (n : Int)]) (ed_var rfl) rfl rfl) (sd_seq (sd_par (ad_cons (ed_call (ad_cons (ed_var rfl) (ad_cons (ed_var rfl) (ad_cons ed_str ad_nil))) (PD.of (pl_written _ k))) (ad_cons (ed_call (ad_cons (ed_var rfl) (ad_cons (ed_var rfl) (ad_cons ed_str ad_nil))) (PD.of (pl_made _ k))) ad_nil)))
      (sd_seq (sd_set (ed_call (ad_cons (ed_var rfl) (ad_cons (ed_var rfl) (ad_cons (ed_var rfl) ad_nil))) (PD.of ⟨_, u, rfl, rfl⟩))) ?_)))
    by_cases c : (decide (p.written k < rd + n) || (same && decide (rd + n = p.written k))) = true
    · have e : valOpen ⟨rd, same, p, pths, wts⟩ k u n = false := if_pos c
      rw [e]
      refine sd_take (td_is (td_or (td_test (ed_op (ed_op (ed_op (ed_var rfl) ed_int (bd_ixT (d := .int rd) rfl)) (ed_var rfl) bd_add) (ed_var rfl) bd_gt)) fun _ => td_and (td_B (ed_op (ed_var rfl) ed_int (bd_ixT (d := .bl same) rfl))) fun _ => td_test (ed_op (ed_op (ed_op (ed_var rfl) ed_int (bd_ixT (d := .int rd) rfl)) (ed_var rfl) bd_add) (ed_var rfl) bd_eqI)) ?_) (sd_ret ed_bl)
      exact c
    · have e : valOpen ⟨rd, same, p, pths, wts⟩ k u n = (!kinP (p.used u + n, p.used u) pths || decide (p.used u + n ≤ p.made k)) := if_neg c
      rw [e]
      refine sd_skip (td_is (td_or (td_test (ed_op (ed_op (ed_op (ed_var rfl) ed_int (bd_ixT (d := .int rd) rfl)) (ed_var rfl) bd_add) (ed_var rfl) bd_gt)) fun _ => td_and (td_B (ed_op (ed_var rfl) ed_int (bd_ixT (d := .bl same) rfl))) fun _ => td_test (ed_op (ed_op (ed_op (ed_var rfl) ed_int (bd_ixT (d := .int rd) rfl)) (ed_var rfl) bd_add) (ed_var rfl) bd_eqI)) ?_) (sd_ret (ed_or ?_ fun _ => ?_))
      · exact Bool.eq_false_iff.mpr c
      · exact ed_op (ed_tup (ad_cons (ed_op (ed_var rfl) (ed_var rfl) bd_add) (ad_cons (ed_var rfl) ad_nil)) (Nat.le_of_ble_eq_true rfl)) (ed_op (ed_var rfl) ed_int (bd_ixT (d := .tup (psD pths)) rfl)) (bd_inT (neg := true) (ks := pthK (p.used u + n, p.used u)) (kss := pths.map pthK) (pth_ok _) fun ks h => by
          obtain ⟨q, _, rfl⟩ := List.mem_map.mp h
          exact pth_ok q)
      · exact ed_op (ed_op (ed_var rfl) (ed_var rfl) bd_add) (ed_var rfl) bd_le
def R_open_in : List Dt → Dt → Prop := fun ds d => ∃ (D : Des) (e : Ent), ds = [desD D, entD e] ∧ d = .bl (opn D e)
theorem sc_open_in : FnScope ["design", "entry", "rule", "first", "second", "apart", "fetched", "put"] ["design", "entry"] (defScope s_open_in) := ⟨rfl, rfl, rfl, by decide +kernel, rfl, by decide +kernel, by decide +kernel⟩
theorem ok_open_in (D : Df K mg "open_in" s_open_in) (T : Tx K mg) (C_effect_in : OkD P w K mg base 2 "effect_in" ["design", "kind"] (spD K R_effect_in)) (C_place_in : OkD P w K mg base 1 "place_in" ["design", "kind", "what"] (spD K R_place_in)) (C_value_open : OkD P w K mg base 3 "value_open" ["design", "entry"] (spD K R_value_open)) : OkD P w K mg base 4 "open_in" ["design", "entry"] (spD K R_open_in) := by
  refine mk_ok D sc_open_in ?_ (fun _ _ _ _ _ _ us hl => match us, hl with | [_, _], _ => rfl) fun f cdv A outer s H E hr => ⟨_, (pss_cons (ps_asg (pe_tup (pa_cons (pe_ix (k_ixT (K := K) rfl) (pv 1) pe_int (fun _ _ => rfl)) (pa_cons (pe_ix (k_ixT (K := K) rfl) (pv 1) pe_int (fun _ _ => rfl)) (pa_cons (pe_ix (k_ixT (K := K) rfl) (pv 1) pe_int (fun _ _ => rfl)) (pa_cons (pe_ix (k_ixT (K := K) rfl) (pv 1) (pe_un un_neg pe_int) (fun _ _ => rfl)) pa_nil))))) (k_pgT (K := K) rfl rfl (pgs_cons (pg_name (i := 2) sc_open_in.nd rfl (.inl rfl)) (pgs_cons (pg_name (i := 3) sc_open_in.nd rfl (.inl rfl)) (pgs_cons (pg_name (i := 4) sc_open_in.nd rfl (.inl rfl)) (pgs_cons (pg_name (i := 5) sc_open_in.nd rfl (.inl rfl)) pgs_nil))))))
      (pss_cons (ps_if (pt_cmpR op_eq (pv 2) pe_str (nomark _)) (pss_one (ps_ret (pe_callD C_value_open (hr.mono (by decide)) (by rfl) (pa_cons (pv 0) (pa_cons (pv 1) pa_nil))))) pss_nil)
      (pss_cons (ps_if (pt_cmpR op_eq (pv 2) pe_str (nomark _)) (pss_one (ps_ret (pe_cmpR op_lt (pe_op op_add (pv 5) (pe_callD C_place_in (hr.mono (by decide)) (by rfl) (pa_cons (pv 0) (pa_cons (pv 4) (pa_cons pe_str pa_nil))))) (pe_callD C_place_in (hr.mono (by decide)) (by rfl) (pa_cons (pv 0) (pa_cons (pv 3) (pa_cons pe_str pa_nil)))) (nomark _)))) pss_nil)
      (pss_cons (ps_par (i := 6) (j := 7) rfl sc_open_in.nd rfl rfl (by decide) rfl rfl (pa_cons (pe_callD C_place_in (hr.mono (by decide)) (by rfl) (pa_cons (pv 0) (pa_cons pe_str (pa_cons pe_str pa_nil)))) (pa_cons (pe_callD C_place_in (hr.mono (by decide)) (by rfl) (pa_cons (pv 0) (pa_cons pe_str (pa_cons pe_str pa_nil)))) pa_nil)) (by rfl))
      (pss_cons (ps_if (PW.pt (pw_and (pt_cmpR op_eq (pv 2) pe_str (nomark _)) (pw_and1 (pt_cmpR op_eq (pv 3) pe_str (nomark _))))) (pss_one (ps_ret (pe_not (pe_or (pe_cmpR op_gt (pe_op op_add (pv 6) (pv 5)) (pv 7) (nomark _)) (pe_one (pe_and (pe_ix (k_ixT (K := K) rfl) (pv 0) pe_int (fun _ _ => rfl)) (pe_one (pe_cmpR op_eq (pe_op op_add (pv 6) (pv 5)) (pv 7) (nomark _))))))))) pss_nil)
      (pss_cons (ps_if (pt_cmpR op_eq (pv 2) pe_str (nomark _)) (pss_one (ps_ret (pe_or (pe_cmpR op_lt (pe_op op_add (pv 5) (pv 7)) (pv 6) (nomark _)) (pe_one (pe_and (pe_ix (k_ixT (K := K) rfl) (pv 0) pe_int (fun _ _ => rfl)) (pe_one (pe_cmpR op_eq (pe_op op_add (pv 5) (pv 7)) (pv 6) (nomark _)))))))) pss_nil)
      (pss_one (ps_ret (pe_cmpR op_le (pe_op op_add (pv 5) (pe_callD C_effect_in (hr.mono (by decide)) (by rfl) (pa_cons (pv 0) (pa_cons (pv 4) pa_nil)))) (pe_callD C_place_in (hr.mono (by decide)) (by rfl) (pa_cons (pv 0) (pa_cons (pv 3) (pa_cons pe_str pa_nil)))) (nomark _)))))))))), ?_⟩
  · rintro ds d ⟨D, e, rfl, _⟩
    rfl
  · rintro ds d ⟨D, ⟨ru, n⟩, rfl, rfl⟩
    have hd : ∀ {r : En}, r[1]? = some (some (entD ⟨ru, n⟩)) → ∀ {x y z : Dt}, atI (Ent.ks ⟨ru, n⟩ |>.map kd) 0 = some x → atI (Ent.ks ⟨ru, n⟩ |>.map kd) 1 = some y → atI (Ent.ks ⟨ru, n⟩ |>.map kd) 2 = some z →
        SD K (tAsg (tTup (tCons (tOp (rIxT K) (tVar 1) (tC (.int 0))) (tCons (tOp (rIxT K) (tVar 1) (tC (.int 1))) (tCons (tOp (rIxT K) (tVar 1) (tC (.int 2))) (tCons (tOp (rIxT K) (tVar 1) (tUn (rU fun i => .int (-i)) (tC (.int 1)))) tNil))))) (gTup K 4 (gNames [2, 3, 4, 5]))) r (.nx (setAll r [2, 3, 4, 5] [x, y, z, .int (n : Int)])) := fun h x y z h0 h1 h2 =>
      sd_unpack (is := [2, 3, 4, 5]) (ed_tup (ad_cons (ed_op (ed_var h) ed_int (bd_ixT h0)) (ad_cons (ed_op (ed_var h) ed_int (bd_ixT h1)) (ad_cons (ed_op (ed_var h) ed_int (bd_ixT h2)) (ad_cons (ed_op (ed_var h) (ed_un ed_int ud_neg) (bd_ixT (ks_last _))) ad_nil)))) (Nat.le_of_ble_eq_true rfl)) rfl rfl
    cases ru with
    | val k u =>
      exact .inl (sd_seq (hd (x := .str "value") (y := .str k.nm) (z := .str u.nm) rfl rfl rfl rfl) (sd_take (td_is (td_test (ed_op (ed_var rfl) ed_str bd_eqS)) (by decide +kernel)) (sd_ret (ed_call (ad_cons (ed_var rfl) (ad_cons (ed_var rfl) ad_nil)) (PD.of ⟨D, k, u, n, rfl, rfl⟩)))))
    | ord k l =>
      exact .inl (sd_seq (hd (x := .str "order") (y := .str k.nm) (z := .str l.nm) rfl rfl rfl rfl) (sd_skip (td_is (td_test (ed_op (ed_var rfl) ed_str bd_eqS)) (by decide +kernel)) (sd_take (td_is (td_test (ed_op (ed_var rfl) ed_str bd_eqS)) (by decide +kernel)) (sd_ret (ed_op (ed_op (ed_var rfl) (ed_call (ad_cons (ed_var rfl) (ad_cons (ed_var rfl) (ad_cons ed_str ad_nil))) (PD.of (pl_written D l))) bd_add) (ed_call (ad_cons (ed_var rfl) (ad_cons (ed_var rfl) (ad_cons ed_str ad_nil))) (PD.of (pl_written D k))) bd_lt)))))
    | mem sl =>
      have par : ∀ {r : En} {x : Dt}, r[0]? = some (some (desD D)) → SD K (tPar 6 7 (tCons (tCall (spD K R_place_in) [] E0 (tCons (tVar 0) (tCons (tC (.str "load")) (tCons (tC (.str "fetched")) tNil)))) (tCons (tCall (spD K R_place_in) [] E0 (tCons (tVar 0) (tCons (tC (.str "store")) (tCons (tC (.str "put")) tNil)))) tNil))) r (.nx ((r.set 6 (some (.int D.pl.loadM))).set 7 (some (.int D.pl.stP)))) := fun h =>
        sd_par (ad_cons (ed_call (ad_cons (ed_var h) (ad_cons ed_str (ad_cons ed_str ad_nil))) (PD.of (pl_fetched D))) (ad_cons (ed_call (ad_cons (ed_var h) (ad_cons ed_str (ad_cons ed_str ad_nil))) (PD.of (pl_put D))) ad_nil))
      cases sl with
      | true =>
        exact .inl (sd_seq (hd (x := .str "memory") (y := .str "store") (z := .str "load") rfl rfl rfl rfl) (sd_skip (td_is (td_test (ed_op (ed_var rfl) ed_str bd_eqS)) (by decide +kernel)) (sd_skip (td_is (td_test (ed_op (ed_var rfl) ed_str bd_eqS)) (by decide +kernel)) (sd_seq (par (x := .non) rfl)
          (sd_take (td_is (td_and (a := true) (b := true) (td_is (td_test (ed_op (ed_var rfl) ed_str bd_eqS)) (by decide +kernel)) fun _ => td_is (td_test (ed_op (ed_var rfl) ed_str bd_eqS)) (by decide +kernel)) rfl) (sd_ret (ed_not (ed_or (ed_op (ed_op (ed_var rfl) (ed_var rfl) bd_add) (ed_var rfl) bd_gt) fun _ => ed_and (ed_op (ed_var rfl) ed_int (bd_ixT (d := .bl D.same) rfl)) fun _ => ed_op (ed_op (ed_var rfl) (ed_var rfl) bd_add) (ed_var rfl) bd_eqI))))))))
      | false =>
        exact .inl (sd_seq (hd (x := .str "memory") (y := .str "load") (z := .str "store") rfl rfl rfl rfl) (sd_skip (td_is (td_test (ed_op (ed_var rfl) ed_str bd_eqS)) (by decide +kernel)) (sd_skip (td_is (td_test (ed_op (ed_var rfl) ed_str bd_eqS)) (by decide +kernel)) (sd_seq (par (x := .non) rfl)
          (sd_skip (td_is (td_and (a := true) (b := false) (td_is (td_test (ed_op (ed_var rfl) ed_str bd_eqS)) (by decide +kernel)) fun _ => td_is (td_test (ed_op (ed_var rfl) ed_str bd_eqS)) (by decide +kernel)) rfl) (sd_take (td_is (td_test (ed_op (ed_var rfl) ed_str bd_eqS)) (by decide +kernel)) (sd_ret (ed_or (ed_op (ed_op (ed_var rfl) (ed_var rfl) bd_add) (ed_var rfl) bd_lt) fun _ => ed_and (ed_op (ed_var rfl) ed_int (bd_ixT (d := .bl D.same) rfl)) fun _ => ed_op (ed_op (ed_var rfl) (ed_var rfl) bd_add) (ed_var rfl) bd_eqI))))))))
    | wr z f =>
      exact .inl (sd_seq (hd (x := .str "wrong") (y := .str (jn z)) (z := .str f.nm) rfl rfl rfl rfl) (sd_skip (td_is (td_test (ed_op (ed_var rfl) ed_str bd_eqS)) (by decide +kernel)) (sd_skip (td_is (td_test (ed_op (ed_var rfl) ed_str bd_eqS)) (by decide +kernel)) (sd_seq (sd_par (ad_cons (ed_call (ad_cons (ed_var rfl) (ad_cons ed_str (ad_cons ed_str ad_nil))) (PD.of (pl_fetched D))) (ad_cons (ed_call (ad_cons (ed_var rfl) (ad_cons ed_str (ad_cons ed_str ad_nil))) (PD.of (pl_put D))) ad_nil)))
        (sd_skip (td_is (td_and (a := false) (b := false) (td_is (td_test (ed_op (ed_var rfl) ed_str bd_eqS)) (by decide +kernel)) fun q => by cases q) rfl) (sd_skip (td_is (td_test (ed_op (ed_var rfl) ed_str bd_eqS)) (by decide +kernel)) (sd_ret (ed_op (ed_op (ed_var rfl) (ed_call (ad_cons (ed_var rfl) (ad_cons (ed_var rfl) ad_nil)) (PD.of ⟨D, f, rfl, rfl⟩)) bd_add) (ed_call (ad_cons (ed_var rfl) (ad_cons (ed_var rfl) (ad_cons ed_str ad_nil))) (PD.of (pl_dec D z))) bd_le))))))))
def lsK : List Key := [.inr "value", .inr "load", .inr "store"]
def lsN : List Str := ["value", "load", "store"]
def isLS (r : Ru) : Bool := decide (r.nms.take 3 = lsN)
theorem isLS_of (r : Ru) : isLS r = match r with | .val .load .stA => true | .val .load .stB => true | _ => false := by
  cases r with
  | mem sl => cases sl <;> decide +kernel
  | ord k l => cases k <;> cases l <;> decide +kernel
  | val k u => cases k <;> cases u <;> decide +kernel
  | wr z e => cases z <;> cases e <;> decide +kernel
theorem bym_eq (e : Ent) (l : List Ent) : bym e l = (isLS e.r && kin (Ent.ks ⟨.mem false, e.d⟩) (l.map Ent.ks)) := by
  obtain ⟨r, n⟩ := e
  rw [isLS_of]
  cases r with
  | mem sl => rfl
  | ord k l => rfl
  | val k u => cases k <;> cases u <;> rfl
  | wr z e => rfl
theorem take3 (e : Ent) : e.ks.take 3 = (e.r.nms.take 3).map Sum.inr := by
  show (e.r.nms.map Sum.inr ++ [Sum.inl (e.d : Int)]).take 3 = _
  rw [List.take_append_of_le_length, List.map_take]
  rw [List.length_map]
  have := nms_len e.r
  omega
theorem take3_ls (e : Ent) : decide (e.ks.take 3 = lsK) = isLS e.r := by
  rw [take3]
  unfold isLS lsK
  by_cases h : e.r.nms.take 3 = lsN
  · rw [h, decide_eq_true rfl]
    exact decide_eq_true rfl
  · rw [decide_eq_false h, decide_eq_false]
    intro q
    apply h
    have inj : ∀ {a b : List Str}, a.map (Sum.inr : Str → Key) = b.map Sum.inr → a = b := by
      intro a
      induction a with
      | nil => intro b h; cases b with
        | nil => rfl
        | cons => cases h
      | cons x a ih => intro b h; cases b with
        | nil => cases h
        | cons y b =>
          obtain ⟨h1, h2⟩ := List.cons.inj h
          rw [Sum.inr.inj h1, ih h2]
    exact inj (b := lsN) q
theorem take3_ok (e : Ent) : (e.ks.take 3).all keyOk = true := by
  have h := ks_ok e
  rw [List.all_eq_true] at h ⊢
  exact fun x hx => h x (List.mem_of_mem_take hx)
theorem cut3 (e : Ent) : cutD (e.ks.map kd) none (some 3) = (e.ks.take 3).map kd := by
  unfold cutD
  rw [HT.sIx_none]
  have h2 : HT.sIx (e.ks.map kd).length (e.ks.map kd).length (some 3) = 3 := by
    unfold HT.sIx
    simp only
    rw [if_neg (by decide), ks_len]
    have := nms_len e.r
    show min 3 _ = 3
    omega
  rw [h2, List.drop_zero, Nat.sub_zero, List.map_take]
/-- entries in a tuple or in a list -/
inductive EsD (l : List Ent) : Dt → Prop
  | tup : EsD l (.tup (esD l))
  | lst : EsD l (.lst (esD l))
theorem bd_inE {neg : Bool} {e : Ent} {l : List Ent} {d : Dt} (h : EsD l d) : BD K (rInA K neg) (entD e) d (.bl (negB neg (kin e.ks (l.map Ent.ks)))) := by
  have ok : ∀ ks ∈ l.map Ent.ks, ks.all keyOk = true := fun ks h => by
    obtain ⟨q, _, rfl⟩ := List.mem_map.mp h
    exact ks_ok q
  cases h
  · exact bd_inT (ks_ok e) ok
  · exact bd_inL (ks_ok e) ok
def R_by_memory : List Dt → Dt → Prop := fun ds d => ∃ (e : Ent) (l : List Ent) (x : Dt), EsD l x ∧ ds = [entD e, x] ∧ d = .bl (bym e l)
theorem sc_by_memory : FnScope ["entry", "entries"] ["entry", "entries"] (defScope s_by_memory) := ⟨rfl, rfl, rfl, by decide +kernel, rfl, by decide +kernel, by decide +kernel⟩
theorem ok_by_memory (D : Df K mg "by_memory" s_by_memory) (T : Tx K mg)  : OkD P w K mg base 1 "by_memory" ["entry", "entries"] (spD K R_by_memory) := by
  refine mk_ok D sc_by_memory ?_ (fun _ _ _ _ _ _ us hl => match us, hl with | [_, _], _ => rfl) fun f cdv A outer s H E hr => ⟨_, (pss_cons (ps_if (pt_cmpR (k_neD (K := K) rfl hr.units) (pe_slice (k_sl (K := K) rfl) (pv 0) po_none (po_some pe_int)) (pe_tup (pa_cons pe_str (pa_cons pe_str (pa_cons pe_str pa_nil)))) (nomark _)) (pss_one (ps_ret pe_bl)) pss_nil)
      (pss_one (ps_ret (pe_cmpR (k_inA (K := K) rfl (hu65 hr)) (pe_tup (pa_cons pe_str (pa_cons pe_str (pa_cons pe_str (pa_cons (pe_ix (k_ixT (K := K) rfl) (pv 0) (pe_un un_neg pe_int) (fun _ _ => rfl)) pa_nil))))) (pv 1) (by rfl))))), ?_⟩
  · rintro ds d ⟨e, l, x, _, rfl, _⟩
    rfl
  · rintro ds d ⟨e, l, x, hx, rfl, rfl⟩
    rw [bym_eq]
    have tst : TD K (tTest (tOp (rNeD K) (tSl (rSlA K) (tVar 0) tNoPart (tPart (tC (.int 3)))) (tTup (tCons (tC (.str "value")) (tCons (tC (.str "load")) (tCons (tC (.str "store")) tNil)))))) [some (entD e), some x] (!isLS e.r) :=
      td_is (td_test (ed_op (ed_is (ed_slT (ed_var rfl) od_none (od_some ed_int)) (congrArg Dt.tup (cut3 e))) (ed_tup (ad_cons ed_str (ad_cons ed_str (ad_cons ed_str ad_nil))) (by decide)) (bd_neT (ks := e.ks.take 3) (ls := lsK) (take3_ok e) (by decide +kernel)))) (by rw [take3_ls])
    cases c : isLS e.r with
    | false =>
      rw [c] at tst
      exact .inl (sd_take tst (sd_ret ed_bl))
    | true =>
      rw [c] at tst
      exact .inl (sd_skip tst (sd_ret (ed_op (ed_tup (ad_cons ed_str (ad_cons ed_str (ad_cons ed_str (ad_cons (ed_op (ed_var rfl) (ed_un ed_int ud_neg) (bd_ixT (ks_last e))) ad_nil)))) (Nat.le_of_ble_eq_true rfl)) (ed_var rfl) (bd_inE (neg := false) (e := ⟨.mem false, e.d⟩) hx))))
end
end SB
namespace SB
open PySem L2
theorem seq_step {t u : TS} {D : Ends} {σ : L2.St} {H : Hp} (h : t { D with nx := u D } σ H) : tSeq t u D σ H := h
theorem asg_step {K : PySem.W.Frag} {te : TE} {r : En} {ds : List Dt} {i : Nat} {D : Ends} {σ : L2.St} {H : Hp} (h : FD K te r ds) (ev : EnvD K H σ r) (k : ∀ a H' xs, Same H H' → H a = none → H' a = some (.lst xs) → Rps K H' xs ds → D.nx (σ.set i (some (.ref a))) H') : tAsg te (gName i) D σ H := h σ H _ ev k
theorem ret_step {te : TE} {D : Ends} {σ : L2.St} {H : Hp} (h : te σ H D.rt) : tRet te D σ H := h
/-- found.extend(..), of a list of our own at slot 1 -/
theorem ext_step {K : PySem.W.Frag} {te : TE} {r : En} {ds es : List Dt} (he : ED K te r (.lst es)) (hz : ds.length + es.length ≤ 100000) (f1 : flatDs ds = true) (f2 : flatDs es = true) {D : Ends} {σ : L2.St} {B H : Hp} {a : Addr} {xs : List V} (ev : EnvD K H σ r)
    (hs : σ[1]? = some (some (.ref a))) (sb : Same B H) (hB : B a = none) (ha : H a = some (.lst xs)) (hr : Rps K H xs ds) (k : ∀ H' xs', Same B H' → H' a = some (.lst xs') → Rps K H' xs' (ds ++ es) → D.nx σ H') : tDrop (tBM K "list" rExtend (tVar 1) (tCons te tNil)) D σ H := by
  refine ⟨.ref a, hs, .inl ⟨rfl, xs, SqL.of ha⟩, he σ H _ ev fun v H1 s1 r1 => ?_⟩
  obtain ⟨b, zs, rfl, hb, hzs⟩ := r1.lst_of
  have ha1 := s1 _ _ ha
  have tu : Tups H1 (L2.upd H1 a (.lst (xs ++ zs))) := tups_upd fun ys q => by
    rw [ha1] at q
    cases q
  refine ⟨a, b, xs, zs, rfl, rfl, ha1, hb, ?_, k _ (xs ++ zs) (Same.mut (sb.trans s1) hB) upd_same ?_⟩
  · rw [hr.length, hzs.length]
    exact sz_of hz
  · exact ((hr.mono s1).kept tu _ _ f1).append (hzs.kept tu _ _ f2)
/-- a new list of entries -/
def spApart (K : PySem.W.Frag) : Sp := fun vs H Q _ => ∃ n : Nat, Rps K H vs [.int (n : Int)] ∧ ∀ a H' xs, Same H H' → H a = none → H' a = some (.lst xs) → Rps K H' xs (esD (apartP n)) → Q (.ref a) H'
def mkV (n : Nat) (d : Dt) : Dt → Dt
  | .ktup [a, b] => .tup [.str "value", d, a, b, .int n]
  | _ => .non
def mk3 (x : Str) (n : Nat) (d e : Dt) : Dt := .tup [.str x, d, e, .int n]
section
variable {P : Program} {w : World} {K : PySem.W.Frag} {mg : Str → Option Value} {base : Heap}
theorem sc_entries_apart : FnScope ["apart", "found", "first", "second", "role"] ["apart"] (defScope s_entries_apart) := ⟨rfl, rfl, rfl, by decide +kernel, rfl, by decide +kernel, by decide +kernel⟩
theorem ok_entries_apart (D : Df K mg "entries_apart" s_entries_apart) (T : Tx K mg)  : OkD P w K mg base 1 "entries_apart" ["apart"] (spApart K) := by
  refine mk_okG D sc_entries_apart ?_ (fun _ _ _ _ _ _ us hl => match us, hl with | [_], _ => rfl) fun f cdv A outer s H E hr => ⟨_, (pss_cons (ps_setLc2 (i := 1) (own := [("first", 2), ("second", 3), ("role", 4)]) (vs1 := [3, 4]) (g := (gName 2)) (g1 := (gTup K 2 (gNames [3, 4]))) (by rfl) sc_entries_apart.nd rfl rfl (sw_true rfl rfl rfl (by decide +kernel)) (k_piT (K := K) rfl (pe_gK (by rfl) T.gW)) (blkOk_by (own := [("first", 2), ("second", 3), ("role", 4)]) (N := ["apart", "found", "first", "second", "role"]) (sc := defScope s_entries_apart) (by decide +kernel)) (by decide) (fun _ _ _ _ _ => (pg_name (i := 2) sc_entries_apart.nd rfl (.inl rfl))) (fun _ _ _ _ _ => pts_nil) (fun _ _ _ _ _ => (k_piT (K := K) rfl (pe_gK (by rfl) T.gU))) (fun _ _ _ _ _ => (k_pgT (K := K) rfl rfl (pgs_cons (pg_name (i := 3) sc_entries_apart.nd rfl (.inl rfl)) (pgs_cons (pg_name (i := 4) sc_entries_apart.nd rfl (.inl rfl)) pgs_nil)))) (fun _ _ _ _ _ => pts_nil) (fun _ _ _ _ _ => (pe_tup (pa_cons pe_str (pa_cons (pv 2) (pa_cons (pv 3) (pa_cons (pv 4) (pa_cons (pv 0) pa_nil))))))))
      (pss_cons (ps_expr (k_bm (K := K) rfl PySem.F.plainAttrs_list PySem.F.slot_list_extend PySem.F.type_list_extend mt_extend (pv 1) (pa_cons (by exact pe_lc2 (own := [("first", 2), ("second", 3)]) (vs1 := [3]) (g := (gName 2)) (g1 := (gName 3)) (by rfl) sc_entries_apart.nd (k_piT (K := K) rfl (pe_gK (by rfl) T.gW)) (blkOk_by (own := [("first", 2), ("second", 3)]) (N := ["apart", "found", "first", "second", "role"]) (sc := defScope s_entries_apart) (by decide +kernel)) (by decide) (fun _ _ _ _ _ => (pg_name (i := 2) sc_entries_apart.nd rfl (.inl rfl))) (fun _ _ _ _ _ => pts_nil) (fun _ _ _ _ _ => (k_piT (K := K) rfl (pe_gK (by rfl) T.gW))) (fun _ _ _ _ _ => (pg_name (i := 3) sc_entries_apart.nd rfl (.inl rfl))) (fun _ _ _ _ _ => pts_nil) (fun _ _ _ _ _ => (pe_tup (pa_cons pe_str (pa_cons (pv 2) (pa_cons (pv 3) (pa_cons (pv 0) pa_nil))))))) pa_nil)))
      (pss_cons (ps_expr (k_bm (K := K) rfl PySem.F.plainAttrs_list PySem.F.slot_list_extend PySem.F.type_list_extend mt_extend (pv 1) (pa_cons (pe_lst (pa_cons (pe_tup (pa_cons pe_str (pa_cons pe_str (pa_cons pe_str (pa_cons (pv 0) pa_nil))))) (pa_cons (pe_tup (pa_cons pe_str (pa_cons pe_str (pa_cons pe_str (pa_cons (pv 0) pa_nil))))) pa_nil))) pa_nil)))
      (pss_cons (ps_expr (k_bm (K := K) rfl PySem.F.plainAttrs_list PySem.F.slot_list_extend PySem.F.type_list_extend mt_extend (pv 1) (pa_cons (by exact pe_lc2 (own := [("first", 2), ("second", 3)]) (vs1 := [3]) (g := (gName 2)) (g1 := (gName 3)) (by rfl) sc_entries_apart.nd (k_piT (K := K) rfl (pe_tup (pa_cons pe_str (pa_cons pe_str pa_nil)))) (blkOk_by (own := [("first", 2), ("second", 3)]) (N := ["apart", "found", "first", "second", "role"]) (sc := defScope s_entries_apart) (by decide +kernel)) (by decide) (fun _ _ _ _ _ => (pg_name (i := 2) sc_entries_apart.nd rfl (.inl rfl))) (fun _ _ _ _ _ => pts_nil) (fun _ _ _ _ _ => (k_piT (K := K) rfl (pe_gK (by rfl) T.gE))) (fun _ _ _ _ _ => (pg_name (i := 3) sc_entries_apart.nd rfl (.inl rfl))) (fun _ _ _ _ _ => pts_nil) (fun _ _ _ _ _ => (pe_tup (pa_cons pe_str (pa_cons (pv 2) (pa_cons (pv 3) (pa_cons (pv 0) pa_nil))))))) pa_nil)))
      (pss_one (ps_ret (pv 1))))))), ?_⟩
  · intro vs H Q E h
    obtain ⟨n, h, _⟩ := h
    rw [h.length]
    rfl
  · intro vs H Q E hsp
    obtain ⟨n, hv, q⟩ := hsp
    obtain ⟨v0, rfl, rv0⟩ := rps1 hv
    obtain rfl := rv0.int_of
    have koW : ∀ {r : En}, ED K (tC (.ref (He.ga K "WRITING"))) r (.ktup (sW.map Dt.str)) := ed_kon T.kW
    have koE : ∀ {r : En}, ED K (tC (.ref (He.ga K "EFFECTS"))) r (.ktup (sE.map Dt.str)) := ed_kon T.kE
    have koU : ∀ {r : En}, ED K (tC (.ref (He.ga K "USERS"))) r (.ktup (kU.map kk)) := ed_kon T.kU
    have kU2 : ∀ e ∈ kU.map kk, ∃ a b : Str, e = .ktup [.str a, .str b] := by
      intro e he
      obtain ⟨ks, hks, rfl⟩ := List.mem_map.mp he
      simp only [kU, List.mem_cons, List.not_mem_nil, or_false] at hks
      rcases hks with rfl | rfl | rfl | rfl | rfl | rfl | rfl <;> exact ⟨_, _, rfl⟩
    have st : ∀ {l : List Str}, ∀ d ∈ l.map Dt.str, ∃ x, d = .str x := fun d hd => by
      obtain ⟨x, _, rfl⟩ := List.mem_map.mp hd
      exact ⟨x, rfl⟩
    have ev0 : ∀ {H : Hp} {o : Option V}, EnvD K H [some (.int (n : Int)), o, none, none, none] [some (.int (n : Int)), none, none, none, none] := fun {H o} => ⟨rfl, fun i d h => by
      match i with
      | 0 =>
        cases h
        exact ⟨_, rfl, .int _⟩
      | 1 => cases h
      | 2 => cases h
      | 3 => cases h
      | 4 => cases h
      | i + 5 => cases h⟩
    refine seq_step (asg_step (fd_lc2 (g := gName 2) (g1 := gTup K 2 (gNames [3, 4])) (r := [some (.int (n : Int)), none, none, none, none]) (vs := [2, 3, 4]) (vs1 := [3, 4]) (ds := sW.map Dt.str) (id_ktup koW) (fun d => [some (.int (n : Int)), none, some d, none, none]) (fun _ => kU.map kk) (fun d e => setAll [some (.int (n : Int)), none, some d, none, none] [3, 4] (match e with | .ktup l => l | _ => [])) (mkV n) rfl (fun d _ => gd_name (by decide)) (fun d hd => id2_ktup koU rfl) (fun d hd e he => ?_) (fun d hd e he => ?_) (fun d hd e he => ?_) (Nat.le_of_ble_eq_true rfl)) ev0 fun a H1 xs s1 hn ha hr => ?_)
    · obtain ⟨a, b, rfl⟩ := kU2 e he
      exact gd_ktup (by decide) rfl rfl
    · obtain ⟨a, b, rfl⟩ := kU2 e he
      exact ed_tup (ad_cons ed_str (ad_cons (ed_var rfl) (ad_cons (ed_var rfl) (ad_cons (ed_var rfl) (ad_cons (ed_var rfl) ad_nil))))) (Nat.le_of_ble_eq_true rfl)
    · obtain ⟨a, b, rfl⟩ := kU2 e he
      obtain ⟨x, rfl⟩ := st d hd
      rfl
    · refine seq_step (ext_step (r := [some (.int (n : Int)), none, none, none, none]) (es := (sW.map Dt.str).flatMap fun d => (sW.map Dt.str).map (mk3 "order" n d)) (fd_lc2 (vs := [2, 3]) (vs1 := [3]) (ds := sW.map Dt.str) (id_ktup koW) (fun d => [some (.int (n : Int)), none, some d, none, none]) (fun _ => sW.map Dt.str) (fun d e => [some (.int (n : Int)), none, some d, some e, none]) (mk3 "order" n) rfl (fun d _ => gd_name (by decide)) (fun d hd => id2_ktup koW rfl) (fun d hd e he => gd_name (by decide))
        (fun d hd e he => ed_tup (ad_cons ed_str (ad_cons (ed_var rfl) (ad_cons (ed_var rfl) (ad_cons (ed_var rfl) ad_nil)))) (Nat.le_of_ble_eq_true rfl)) (fun d hd e he => ?_) (Nat.le_of_ble_eq_true rfl)).ed (Nat.le_of_ble_eq_true rfl) rfl rfl ev0 rfl s1 hn ha hr fun H2 xs2 s2 ha2 hr2 => ?_)
      · obtain ⟨x, rfl⟩ := st d hd
        obtain ⟨y, rfl⟩ := st e he
        rfl
      · refine seq_step (ext_step (r := [some (.int (n : Int)), none, none, none, none]) (es := [mk3 "memory" n (.str "store") (.str "load"), mk3 "memory" n (.str "load") (.str "store")]) (ed_lst (ad_cons (ed_tup (ad_cons ed_str (ad_cons ed_str (ad_cons ed_str (ad_cons (ed_var rfl) ad_nil)))) (Nat.le_of_ble_eq_true rfl)) (ad_cons (ed_tup (ad_cons ed_str (ad_cons ed_str (ad_cons ed_str (ad_cons (ed_var rfl) ad_nil)))) (Nat.le_of_ble_eq_true rfl)) ad_nil)) (Nat.le_of_ble_eq_true rfl)) (Nat.le_of_ble_eq_true rfl) rfl rfl ev0 rfl s2 hn ha2 hr2 fun H3 xs3 s3 ha3 hr3 => ?_)
        refine seq_step (ext_step (r := [some (.int (n : Int)), none, none, none, none]) (es := ([.str "zero", .str "go"] : List Dt).flatMap fun d => (sE.map Dt.str).map (mk3 "wrong" n d)) (fd_lc2 (vs := [2, 3]) (vs1 := [3]) (ds := [.str "zero", .str "go"]) (id_tup (ed_tup (ad_cons ed_str (ad_cons ed_str ad_nil)) (by decide))) (fun d => [some (.int (n : Int)), none, some d, none, none]) (fun _ => sE.map Dt.str) (fun d e => [some (.int (n : Int)), none, some d, some e, none]) (mk3 "wrong" n) rfl (fun d _ => gd_name (by decide)) (fun d hd => id2_ktup koE rfl) (fun d hd e he => gd_name (by decide))
          (fun d hd e he => ed_tup (ad_cons ed_str (ad_cons (ed_var rfl) (ad_cons (ed_var rfl) (ad_cons (ed_var rfl) ad_nil)))) (Nat.le_of_ble_eq_true rfl)) (fun d hd e he => ?_) (Nat.le_of_ble_eq_true rfl)).ed (Nat.le_of_ble_eq_true rfl) rfl rfl ev0 rfl s3 hn ha3 hr3 fun H4 xs4 s4 ha4 hr4 => ret_step (te := tVar 1) ⟨_, rfl, q _ _ _ s4 hn ha4 hr4⟩)
        obtain ⟨y, rfl⟩ := st e he
        have hd2 : ∃ x, d = .str x := by
          rcases List.mem_cons.mp hd with rfl | hd
          · exact ⟨_, rfl⟩
          · rcases List.mem_cons.mp hd with rfl | hd
            · exact ⟨_, rfl⟩
            · cases hd
        obtain ⟨x, rfl⟩ := hd2
        rfl
def R_every_entry : List Dt → Dt → Prop := fun ds d => ds = [] ∧ d = .lst (esD ENTS)
def apD : Dt → List Dt
  | .int i => esD (apartP i.toNat)
  | _ => []
theorem fl_es (l : List Ent) : flatDs (esD l) = true := flat_tks _
theorem all_ap : ((intsF 1 7).flatMap fun d => (apD d).map id) = esD (days.flatMap apartP) := rfl
theorem sc_every_entry : FnScope ["apart", "entry"] [] (defScope s_every_entry) := ⟨rfl, rfl, rfl, by decide +kernel, rfl, by decide +kernel, by decide +kernel⟩
theorem ok_every_entry (D : Df K mg "every_entry" s_every_entry) (T : Tx K mg) (C_entries_apart : OkD P w K mg base 1 "entries_apart" ["apart"] (spApart K)) : OkD P w K mg base 2 "every_entry" [] (spD K R_every_entry) := by
  refine mk_ok D sc_every_entry ?_ (fun _ _ _ _ _ _ us hl => match us, hl with | [], _ => rfl) fun f cdv A outer s H E hr => ⟨_, (pss_one (ps_ret (pe_callB c_sortQ (by rfl) T.sorted (by decide +kernel) (pa_cons (by exact pe_lc2 (own := [("apart", 0), ("entry", 1)]) (vs1 := [1]) (g := (gName 0)) (g1 := (gName 1)) (by rfl) sc_every_entry.nd (pi_range2 (by rfl) T.range (pa_cons pe_int (pa_cons (pe_op op_add (pe_gI (by rfl) T.apart) pe_int) pa_nil))) (blkOk_by (own := [("apart", 0), ("entry", 1)]) (N := ["apart", "entry"]) (sc := defScope s_every_entry) (by decide +kernel)) (by decide) (fun _ _ _ _ _ => (pg_name (i := 0) sc_every_entry.nd rfl (.inl rfl))) (fun _ _ _ _ _ => pts_nil) (fun _ _ _ _ _ => (k_piL (K := K) rfl (pe_callD C_entries_apart (hr.mono (by decide)) (by rfl) (pa_cons (pv 0) pa_nil)))) (fun _ _ _ _ _ => (pg_name (i := 1) sc_every_entry.nd rfl (.inl rfl))) (fun _ _ _ _ _ => pts_nil) (fun _ _ _ _ _ => (pv 1))) pa_nil)))), ?_⟩
  · rintro ds d ⟨rfl, _⟩
    rfl
  · rintro ds d ⟨rfl, rfl⟩
    refine .inl (sd_ret (ed_cb (ad_cons (ed_is (ed_lc2 (ds := intsF 1 7) (id_rng2 (lo := 1) (n := 8) (ad_cons ed_int (ad_cons (ed_op ed_int ed_int bd_add) ad_nil)) (by decide)) (fun d => [some d, none]) apD (fun d e => [some d, some e]) (fun _ e => e) (by decide) (fun d _ => gd_name (by decide)) (fun d hd => ?_) (fun d hd e he => gd_name (by decide)) (fun d hd e he => ed_var rfl) (fun d hd e he => ?_) (by decide +kernel)) (congrArg Dt.lst all_ap)) ad_nil)
      (cd_sort (kss := (days.flatMap apartP).map Ent.ks) (out := ENTS.map Ent.ks) (f := false) rkK ?_ ?_ (progP_perm.map _) ?_)))
    · intro σ H R D acc ev hD k
      obtain ⟨i, hi, rfl⟩ := mem_intsF hd
      obtain ⟨v, h1, h2⟩ := ev.at_ 0 _ rfl
      refine ⟨v, h1, (i + 1), .cons (by rw [h2.int_of]; exact (show Rp K H (.int (1 + (i : Int))) (.int ((i + 1 : Nat) : Int)) by rw [show 1 + (i : Int) = ((i + 1 : Nat) : Int) by omega]; exact .int _)) .nil, fun a H1 xs s1 hn ha hr => ?_⟩
      have eL : apD (.int (1 + (i : Int))) = esD (apartP (i + 1)) := by
        show esD (apartP (1 + (i : Int)).toNat) = _
        rw [show (1 + (i : Int)).toNat = i + 1 by omega]
      have ne : a ≠ D := fun z => by
        rw [z, hD] at hn
        cases hn
      refine ⟨a, rfl, ⟨xs, SqL.of ha⟩, k _ H1 s1 ?_⟩
      rw [eL]
      refine ⟨fun H' s => ⟨xs, SqL.of (s _ _ ne ha), ?_⟩, fun j H' hj s => ?_, fun j H2 x H' hj s y => ?_⟩
      · rw [hr.length]
        exact Nat.le_refl _
      · exact ⟨xs, xs[j]'(by rw [hr.length]; exact hj), SqL.of (s _ _ ne ha), List.getElem?_eq_getElem _⟩
      · obtain ⟨e, y⟩ := y
        subst e
        have hx := y xs (SqL.of (s _ _ ne ha))
        have tu : Tups H1 H' := fun b ys e => s b _ (fun q => by
          rw [q, s1 _ _ hD] at e
          cases e) e
        obtain ⟨d, h1, h2⟩ := (hr.kept tu _ _ (fl_es _)).get' hx
        exact ⟨rfl, d, h1, h2⟩
    · obtain ⟨i, hi, rfl⟩ := mem_intsF hd
      obtain ⟨k, hk, rfl⟩ := List.mem_map.mp he
      exact flat_tk k
    · intro ks hk
      obtain ⟨e, he, rfl⟩ := List.mem_map.mp hk
      exact ks_first e
    · intro k hk l hl
      obtain ⟨e, he, rfl⟩ := List.mem_map.mp hk
      obtain ⟨f, hf, rfl⟩ := List.mem_map.mp hl
      exact ltO_rk (ents_ok e (progP_perm.mem_iff.mpr he)) (ents_ok f (progP_perm.mem_iff.mpr hf))
    · rw [List.pairwise_map]
      exact ents_pw.imp_of_mem fun ha hb h => by rw [rkK_of (ents_ok _ ha), rkK_of (ents_ok _ hb)]; exact h
def R_all_entries : List Dt → Dt → Prop := fun ds d => ds = [] ∧ d = .tup (esD ENTS)
theorem sc_all_entries : FnScope [] [] (defScope s_all_entries) := ⟨rfl, rfl, rfl, by decide +kernel, rfl, by decide +kernel, by decide +kernel⟩
theorem ok_all_entries (D : Df K mg "all_entries" s_all_entries) (T : Tx K mg) (C_every_entry : OkD P w K mg base 2 "every_entry" [] (spD K R_every_entry)) : OkD P w K mg base 3 "all_entries" [] (spD K R_all_entries) := by
  refine mk_ok D sc_all_entries ?_ (fun _ _ _ _ _ _ us hl => match us, hl with | [], _ => rfl) fun f cdv A outer s H E hr => ⟨_, (pss_one (ps_ret (pe_callTy (k_tuple (K := K) rfl) (by rfl) T.tuple (by decide +kernel) (pa_cons (pe_callD0 C_every_entry (hr.mono (by decide)) (by rfl)) pa_nil)))), ?_⟩
  · rintro ds d ⟨rfl, _⟩
    rfl
  · rintro ds d ⟨rfl, rfl⟩
    exact .inl (sd_ret (ed_cb (ad_cons (ed_call ad_nil (PD.of ⟨rfl, rfl⟩)) ad_nil) cd_tuple))
end
end SB
namespace SB
open PySem L2
theorem entD_inj {e f : Ent} (h : entD e = entD f) : e = f := by
  have h1 : e.ks.map kd = f.ks.map kd := Dt.tup.inj h
  refine ks_inj ?_
  have inj : ∀ {a b : List Key}, a.map kd = b.map kd → a = b := by
    intro a
    induction a with
    | nil => intro b h; cases b with
      | nil => rfl
      | cons => cases h
    | cons x a ih => intro b h; cases b with
      | nil => cases h
      | cons y b =>
        obtain ⟨h1, h2⟩ := List.cons.inj h
        rw [ih h2]
        cases x <;> cases y
        · rw [Dt.int.inj h1]
        · cases h1
        · cases h1
        · rw [Dt.str.inj h1]
  exact inj h1
theorem esD_map (l : List Ent) : esD l = l.map entD := List.map_map
/-- [e for e in entries if ..] -/
theorem ed_lcE {K : PySem.W.Frag} {wi : TI} {g : TG} {tt : TT} {te : TE} {vs : List Nat} {r : En} {l : List Ent} (hi : ID K wi r (esD l)) (hz : l.length ≤ 90000) (r' : Dt → En) (p : Ent → Bool) (hg : ∀ e ∈ l, GD K g vs (wipeD r vs) (entD e) (r' (entD e)))
    (ht : ∀ e ∈ l, TD K tt (r' (entD e)) (p e)) (he : ∀ e ∈ l, ED K te (r' (entD e)) (entD e)) : ED K (tLc wi g tt te vs) r (.lst (esD (l.filter p))) := by
  classical
  have hb : ∀ e, (decide (∃ f : Ent, entD e = entD f ∧ p f = true)) = p e := fun e => by
    cases q : p e with
    | true => exact decide_eq_true ⟨e, rfl, q⟩
    | false =>
      refine decide_eq_false ?_
      rintro ⟨f, h1, h2⟩
      rw [← entD_inj h1, q] at h2
      cases h2
  have h := ed_lc (te := te) (tt := tt) (g := g) (vs := vs) hi (by rw [List.length_map, List.length_map]; exact hz) r' (fun d => decide (∃ f : Ent, d = entD f ∧ p f = true)) id (fun d hd => ?_) (fun d hd => ?_) (fun d hd _ => ?_) (fun d hd => ?_)
  · have e1 : ((esD l).filter fun d => decide (∃ f : Ent, d = entD f ∧ p f = true)).map id = esD (l.filter p) := by
      rw [List.map_id, esD_map, esD_map, List.filter_map]
      refine congrArg _ (List.filter_congr fun e _ => ?_)
      exact hb e
    rw [e1] at h
    exact h
  · rw [esD_map] at hd
    obtain ⟨e, h1, rfl⟩ := List.mem_map.mp hd
    exact hg e h1
  · rw [esD_map] at hd
    obtain ⟨e, h1, rfl⟩ := List.mem_map.mp hd
    exact td_is (ht e h1) (hb e).symm
  · rw [esD_map] at hd
    obtain ⟨e, h1, rfl⟩ := List.mem_map.mp hd
    exact he e h1
  · rw [esD_map] at hd
    obtain ⟨e, h1, rfl⟩ := List.mem_map.mp hd
    exact flat_tk _
theorem opens_len (D : Des) : (opens D).length ≤ 406 := by
  rw [← ents_len]
  exact List.length_filter_le _ _
section
variable {P : Program} {w : World} {K : PySem.W.Frag} {mg : Str → Option Value} {base : Heap}
def R_opens_in : List Dt → Dt → Prop := fun ds d => ∃ D : Des, ds = [desD D] ∧ d = .lst (esD (opens D))
theorem sc_opens_in : FnScope ["design", "entry"] ["design"] (defScope s_opens_in) := ⟨rfl, rfl, rfl, by decide +kernel, rfl, by decide +kernel, by decide +kernel⟩
theorem ok_opens_in (D : Df K mg "opens_in" s_opens_in) (T : Tx K mg) (C_every_entry : OkD P w K mg base 2 "every_entry" [] (spD K R_every_entry)) (C_open_in : OkD P w K mg base 4 "open_in" ["design", "entry"] (spD K R_open_in)) : OkD P w K mg base 5 "opens_in" ["design"] (spD K R_opens_in) := by
  refine mk_ok D sc_opens_in ?_ (fun _ _ _ _ _ _ us hl => match us, hl with | [_], _ => rfl) fun f cdv A outer s H E hr => ⟨_, (pss_one (ps_ret (by exact pe_lc (own := [("entry", 1)]) (g := (gName 1)) (by rfl) sc_opens_in.nd (k_piL (K := K) rfl (pe_callD0 C_every_entry (hr.mono (by decide)) (by rfl))) (blkOk_by (own := [("entry", 1)]) (N := ["design", "entry"]) (sc := defScope s_opens_in) (by decide +kernel)) (fun _ _ _ _ _ => (pg_name (i := 1) sc_opens_in.nd rfl (.inl rfl))) (fun _ _ _ _ _ => pts_one (pt_val (pe_callD C_open_in (hr.mono (by decide)) (by rfl) (pa_cons (pv 0) (pa_cons (pv 1) pa_nil))))) (fun _ _ _ _ _ => (pv 1))))), ?_⟩
  · rintro ds d ⟨D, rfl, _⟩
    rfl
  · rintro ds d ⟨D, rfl, rfl⟩
    exact .inl (sd_ret (ed_lcE (l := ENTS) (id_list (ed_call ad_nil (PD.of ⟨rfl, rfl⟩))) (by rw [ents_len]; decide) (fun d => [some (desD D), some d]) (opn D) (fun e _ => gd_name (by decide)) (fun e _ => td_B (ed_call (ad_cons (ed_var rfl) (ad_cons (ed_var rfl) ad_nil)) (PD.of ⟨D, e, rfl, rfl⟩))) (fun e _ => ed_var rfl)))
def R_missing_in : List Dt → Dt → Prop := fun ds d => ∃ D : Des, ds = [desD D] ∧ d = .lst (esD (missL D))
theorem sc_missing_in : FnScope ["design", "one"] ["design"] (defScope s_missing_in) := ⟨rfl, rfl, rfl, by decide +kernel, rfl, by decide +kernel, by decide +kernel⟩
theorem ok_missing_in (D : Df K mg "missing_in" s_missing_in) (T : Tx K mg) (C_by_memory : OkD P w K mg base 1 "by_memory" ["entry", "entries"] (spD K R_by_memory)) (C_opens_in : OkD P w K mg base 5 "opens_in" ["design"] (spD K R_opens_in)) : OkD P w K mg base 6 "missing_in" ["design"] (spD K R_missing_in) := by
  refine mk_ok D sc_missing_in ?_ (fun _ _ _ _ _ _ us hl => match us, hl with | [_], _ => rfl) fun f cdv A outer s H E hr => ⟨_, (pss_one (ps_ret (by exact pe_lc (own := [("one", 1)]) (g := (gName 1)) (by rfl) sc_missing_in.nd (k_piL (K := K) rfl (pe_callD C_opens_in (hr.mono (by decide)) (by rfl) (pa_cons (pv 0) pa_nil))) (blkOk_by (own := [("one", 1)]) (N := ["design", "one"]) (sc := defScope s_missing_in) (by decide +kernel)) (fun _ _ _ _ _ => (pg_name (i := 1) sc_missing_in.nd rfl (.inl rfl))) (fun _ _ _ _ _ => pts_one (PW.pt (pw_and (pt_cmpR (k_notInA (K := K) rfl (hu65 hr)) (pv 1) (pe_ix (k_ixT (K := K) rfl) (pv 0) pe_int (fun _ _ => rfl)) (by rfl)) (pw_and1 (pt_not (pt_val (pe_callD C_by_memory (hr.mono (by decide)) (by rfl) (pa_cons (pv 1) (pa_cons (pe_ix (k_ixT (K := K) rfl) (pv 0) pe_int (fun _ _ => rfl)) pa_nil))))))))) (fun _ _ _ _ _ => (pv 1))))), ?_⟩
  · rintro ds d ⟨D, rfl, _⟩
    rfl
  · rintro ds d ⟨D, rfl, rfl⟩
    refine .inl (sd_ret (ed_lcE (l := opens D) (id_list (ed_call (ad_cons (ed_var rfl) ad_nil) (PD.of ⟨D, rfl, rfl⟩))) (Nat.le_trans (opens_len D) (by decide)) (fun d => [some (desD D), some d]) (fun e => negB true (kin e.ks (D.waits.map Ent.ks)) && !bym e D.waits) (fun e _ => gd_name (by decide)) (fun e _ => ?_) (fun e _ => ed_var rfl)))
    exact td_and (td_test (ed_op (ed_var rfl) (ed_op (ed_var rfl) ed_int (bd_ixT (d := .tup (esD D.waits)) rfl)) (bd_inE .tup))) fun _ => td_not (td_B (ed_call (ad_cons (ed_var rfl) (ad_cons (ed_op (ed_var rfl) ed_int (bd_ixT (d := .tup (esD D.waits)) rfl)) ad_nil)) (PD.of ⟨e, D.waits, _, .tup, rfl, rfl⟩)))
/-- fit to be a design of the program -/
def Fit (D : Des) : Prop := DesOk D ∧ D.paths.length ≤ 1000 ∧ D.waits.length ≤ 1000
theorem need_R {D : Des} (h : Fit D) : R_need_design [desD D] .non := ⟨D, h.1, h.2.1, h.2.2, rfl, rfl⟩
def R_is_open : List Dt → Dt → Prop := fun ds d => ∃ (D : Des) (e : Ent), Fit D ∧ dOk e ∧ ds = [desD D, entD e] ∧ d = .bl (opn D e)
theorem sc_is_open : FnScope ["design", "entry"] ["design", "entry"] (defScope s_is_open) := ⟨rfl, rfl, rfl, by decide +kernel, rfl, by decide +kernel, by decide +kernel⟩
theorem ok_is_open (D : Df K mg "is_open" s_is_open) (T : Tx K mg) (C_need_design : OkD P w K mg base 7 "need_design" ["design"] (spD K R_need_design)) (C_need_entry : OkD P w K mg base 4 "need_entry" ["entry"] (spD K R_need_entry)) (C_open_in : OkD P w K mg base 4 "open_in" ["design", "entry"] (spD K R_open_in)) : OkD P w K mg base 8 "is_open" ["design", "entry"] (spD K R_is_open) := by
  refine mk_ok D sc_is_open ?_ (fun _ _ _ _ _ _ us hl => match us, hl with | [_, _], _ => rfl) fun f cdv A outer s H E hr => ⟨_, (pss_cons (ps_expr (pe_callD C_need_design (hr.mono (by decide)) (by rfl) (pa_cons (pv 0) pa_nil)))
      (pss_cons (ps_expr (pe_callD C_need_entry (hr.mono (by decide)) (by rfl) (pa_cons (pv 1) pa_nil)))
      (pss_one (ps_ret (pe_callD C_open_in (hr.mono (by decide)) (by rfl) (pa_cons (pv 0) (pa_cons (pv 1) pa_nil))))))), ?_⟩
  · rintro ds d ⟨D, e, _, _, rfl, _⟩
    rfl
  · rintro ds d ⟨D, e, h, he, rfl, rfl⟩
    exact .inl (sd_seq (sd_drop (ed_call (ad_cons (ed_var rfl) ad_nil) (PD.of (need_R h)))) (sd_seq (sd_drop (ed_call (ad_cons (ed_var rfl) ad_nil) (PD.of ⟨e, he, rfl, rfl⟩))) (sd_ret (ed_call (ad_cons (ed_var rfl) (ad_cons (ed_var rfl) ad_nil)) (PD.of ⟨D, e, rfl, rfl⟩)))))
def R_open_entries : List Dt → Dt → Prop := fun ds d => ∃ D : Des, Fit D ∧ ds = [desD D] ∧ d = .tup (esD (opens D))
theorem sc_open_entries : FnScope ["design"] ["design"] (defScope s_open_entries) := ⟨rfl, rfl, rfl, by decide +kernel, rfl, by decide +kernel, by decide +kernel⟩
theorem ok_open_entries (D : Df K mg "open_entries" s_open_entries) (T : Tx K mg) (C_need_design : OkD P w K mg base 7 "need_design" ["design"] (spD K R_need_design)) (C_opens_in : OkD P w K mg base 5 "opens_in" ["design"] (spD K R_opens_in)) : OkD P w K mg base 8 "open_entries" ["design"] (spD K R_open_entries) := by
  refine mk_ok D sc_open_entries ?_ (fun _ _ _ _ _ _ us hl => match us, hl with | [_], _ => rfl) fun f cdv A outer s H E hr => ⟨_, (pss_cons (ps_expr (pe_callD C_need_design (hr.mono (by decide)) (by rfl) (pa_cons (pv 0) pa_nil)))
      (pss_one (ps_ret (pe_callTy (k_tuple (K := K) rfl) (by rfl) T.tuple (by decide +kernel) (pa_cons (pe_callD C_opens_in (hr.mono (by decide)) (by rfl) (pa_cons (pv 0) pa_nil)) pa_nil))))), ?_⟩
  · rintro ds d ⟨D, _, rfl, _⟩
    rfl
  · rintro ds d ⟨D, h, rfl, rfl⟩
    exact .inl (sd_seq (sd_drop (ed_call (ad_cons (ed_var rfl) ad_nil) (PD.of (need_R h)))) (sd_ret (ed_cb (ad_cons (ed_call (ad_cons (ed_var rfl) ad_nil) (PD.of ⟨D, rfl, rfl⟩)) ad_nil) cd_tuple)))
theorem lay_es (l : List Ent) : layDs (esD l) = true := lay_tks fun ks h => by
  obtain ⟨e, _, rfl⟩ := List.mem_map.mp h
  exact ks_ok e
theorem esD_empty (l : List Ent) : (esD l).isEmpty = l.isEmpty := by cases l <;> rfl
def R_is_right : List Dt → Dt → Prop := fun ds d => ∃ D : Des, Fit D ∧ ds = [desD D] ∧ d = .bl (missL D).isEmpty
theorem sc_is_right : FnScope ["design"] ["design"] (defScope s_is_right) := ⟨rfl, rfl, rfl, by decide +kernel, rfl, by decide +kernel, by decide +kernel⟩
theorem ok_is_right (D : Df K mg "is_right" s_is_right) (T : Tx K mg) (C_missing_in : OkD P w K mg base 6 "missing_in" ["design"] (spD K R_missing_in)) (C_need_design : OkD P w K mg base 7 "need_design" ["design"] (spD K R_need_design)) : OkD P w K mg base 8 "is_right" ["design"] (spD K R_is_right) := by
  refine mk_ok D sc_is_right ?_ (fun _ _ _ _ _ _ us hl => match us, hl with | [_], _ => rfl) fun f cdv A outer s H E hr => ⟨_, (pss_cons (ps_expr (pe_callD C_need_design (hr.mono (by decide)) (by rfl) (pa_cons (pv 0) pa_nil)))
      (pss_one (ps_ret (pe_cmpR (k_eqD (K := K) rfl hr.units) (pe_callD C_missing_in (hr.mono (by decide)) (by rfl) (pa_cons (pv 0) pa_nil)) (pe_lst pa_nil) (nomark _))))), ?_⟩
  · rintro ds d ⟨D, _, rfl, _⟩
    rfl
  · rintro ds d ⟨D, h, rfl, rfl⟩
    exact .inl (sd_seq (sd_drop (ed_call (ad_cons (ed_var rfl) ad_nil) (PD.of (need_R h)))) (sd_ret (ed_is (ed_op (ed_call (ad_cons (ed_var rfl) ad_nil) (PD.of ⟨D, rfl, rfl⟩)) (ed_lst ad_nil (by decide)) (bd_eqNil (lay_es _) (depth_tks _))) (congrArg Dt.bl (esD_empty _)))))
def R_least_waits : List Dt → Dt → Prop := fun ds d => ∃ D : Des, Fit D ∧ ds = [desD D] ∧ d = .tup (esD (leastL D))
theorem sc_least_waits : FnScope ["design", "some", "entry"] ["design"] (defScope s_least_waits) := ⟨rfl, rfl, rfl, by decide +kernel, rfl, by decide +kernel, by decide +kernel⟩
theorem ok_least_waits (D : Df K mg "least_waits" s_least_waits) (T : Tx K mg) (C_by_memory : OkD P w K mg base 1 "by_memory" ["entry", "entries"] (spD K R_by_memory)) (C_need_design : OkD P w K mg base 7 "need_design" ["design"] (spD K R_need_design)) (C_opens_in : OkD P w K mg base 5 "opens_in" ["design"] (spD K R_opens_in)) : OkD P w K mg base 8 "least_waits" ["design"] (spD K R_least_waits) := by
  refine mk_ok D sc_least_waits ?_ (fun _ _ _ _ _ _ us hl => match us, hl with | [_], _ => rfl) fun f cdv A outer s H E hr => ⟨_, (pss_cons (ps_expr (pe_callD C_need_design (hr.mono (by decide)) (by rfl) (pa_cons (pv 0) pa_nil)))
      (pss_cons (ps_set (i := 1) sc_least_waits.nd rfl (.inr rfl) (pe_callD C_opens_in (hr.mono (by decide)) (by rfl) (pa_cons (pv 0) pa_nil)))
      (pss_one (ps_ret (pe_callTy (k_tuple (K := K) rfl) (by rfl) T.tuple (by decide +kernel) (pa_cons (by exact pe_lc (own := [("entry", 2)]) (g := (gName 2)) (by rfl) sc_least_waits.nd (k_piL (K := K) rfl (pv 1)) (blkOk_by (own := [("entry", 2)]) (N := ["design", "some", "entry"]) (sc := defScope s_least_waits) (by decide +kernel)) (fun _ _ _ _ _ => (pg_name (i := 2) sc_least_waits.nd rfl (.inl rfl))) (fun _ _ _ _ _ => pts_one (pt_not (pt_val (pe_callD C_by_memory (hr.mono (by decide)) (by rfl) (pa_cons (pv 2) (pa_cons (pv 1) pa_nil)))))) (fun _ _ _ _ _ => (pv 2))) pa_nil)))))), ?_⟩
  · rintro ds d ⟨D, _, rfl, _⟩
    rfl
  · rintro ds d ⟨D, h, rfl, rfl⟩
    refine .inl (sd_seq (sd_drop (ed_call (ad_cons (ed_var rfl) ad_nil) (PD.of (need_R h)))) (sd_seq (sd_set (ed_call (ad_cons (ed_var rfl) ad_nil) (PD.of ⟨D, rfl, rfl⟩))) (sd_ret (ed_cb (ad_cons (ed_lcE (l := opens D) (id_list (ed_var rfl)) (Nat.le_trans (opens_len D) (by decide)) (fun d => [some (desD D), some (.lst (esD (opens D))), some d]) (fun e => !bym e (opens D)) (fun e _ => gd_name (by decide)) (fun e _ => ?_) (fun e _ => ed_var rfl)) ad_nil) cd_tuple))))
    exact td_not (td_B (ed_call (ad_cons (ed_var rfl) (ad_cons (ed_var rfl) ad_nil)) (PD.of ⟨e, opens D, _, .lst, rfl, rfl⟩)))
end
end SB
namespace SB
open PySem L2
section
variable {P : Program} {w : World} {K : PySem.W.Frag} {mg : Str → Option Value} {base : Heap}
/-- a def that nobody may call -/
theorem ok_none {x : Str} {st : Stmt} {ps : List Str} (D : Df K mg x st)
    (bnd : ∀ (kV doc pm : Value) (an : Option Addr) (cdv ct : Value) (us : List Value), us.length = ps.length → bindArgs (PySem.W.fnOf x x (defArgs st) (defBody st) (defScope st) .none kV doc pm an cdv ct) ⟨us, []⟩ = pure (ps.zip us)) : OkD P w K mg base 0 x ps (fun _ _ _ _ => False) := by
  obtain ⟨f, fd, F, hm⟩ := D
  exact ⟨f, fd, hm, F.kp, F.bindsN bnd, ⟨fun vs H Q E q => q.elim, fun A outer s H args us vs Q E _ _ _ _ q => q.elim⟩⟩
def aD (A : Dt → Prop) (d : Dt) : Prop := (∃ i, d = .int i) ∨ (∃ b, d = .bl b) ∨ (∃ x, d = .str x) ∨ ∃ ds, d = .tup ds ∧ ds.length ≤ 1000 ∧ ∀ x ∈ ds, A x
def R_alike (A : Dt → Prop) : List Dt → Dt → Prop := fun ds d => ∃ x, aD A x ∧ ds = [x, x] ∧ d = .bl true
theorem sc_law_alike : FnScope ["_law_found", "_law_due", "_law_k"] ["_law_found", "_law_due"] (defScope s_law_alike) := ⟨rfl, rfl, rfl, by decide +kernel, rfl, by decide +kernel, by decide +kernel⟩
theorem alike_step {j : Nat} {sp : Sp} {A : Dt → Prop} (D : Df K mg "_law_alike" s_law_alike) (T : Tx K mg) (C_law_alike : OkD P w K mg base j "_law_alike" ["_law_found", "_law_due"] sp) (hA : ∀ d, A d → PD K sp [d, d] (.bl true)) : OkD P w K mg base (j + 1) "_law_alike" ["_law_found", "_law_due"] (spD K (R_alike A)) := by
  refine mk_ok D sc_law_alike ?_ (fun _ _ _ _ _ _ us hl => match us, hl with | [_, _], _ => rfl) fun f cdv A outer s H E hr => ⟨_, (pss_cons (ps_if (pt_val (pe_callB (k_isiT (K := K) rfl) (by rfl) T.isinstance (by decide +kernel) (pa_cons (pv 1) (pa_cons (pe_tup (pa_cons (pe_bltn (v := .ty "tuple") (by rfl) T.tuple (by decide +kernel) rfl) (pa_cons (pe_bltn (v := .ty "list") (by rfl) T.list (by decide +kernel) rfl) pa_nil))) pa_nil)))) (pss_cons (ps_if (PW.pt (pw_or (pt_not (pt_val (pe_callB (k_isiT (K := K) rfl) (by rfl) T.isinstance (by decide +kernel) (pa_cons (pv 0) (pa_cons (pe_tup (pa_cons (pe_bltn (v := .ty "tuple") (by rfl) T.tuple (by decide +kernel) rfl) (pa_cons (pe_bltn (v := .ty "list") (by rfl) T.list (by decide +kernel) rfl) pa_nil))) pa_nil))))) (pw_or1 (pt_cmpR op_ne (pe_callB (k_isi (K := K) rfl) (by rfl) T.isinstance (by decide +kernel) (pa_cons (pv 0) (pa_cons (pe_bltn (v := .ty "list") (by rfl) T.list (by decide +kernel) rfl) pa_nil))) (pe_callB (k_isi (K := K) rfl) (by rfl) T.isinstance (by decide +kernel) (pa_cons (pv 1) (pa_cons (pe_bltn (v := .ty "list") (by rfl) T.list (by decide +kernel) rfl) pa_nil))) (nomark _))))) (pss_one (ps_ret pe_bl)) pss_nil)
      (pss_cons (ps_if (pt_cmpR op_ne (pe_callB (k_len (K := K) rfl) (by rfl) T.len (by decide +kernel) (pa_cons (pv 0) pa_nil)) (pe_callB (k_len (K := K) rfl) (by rfl) T.len (by decide +kernel) (pa_cons (pv 1) pa_nil)) (nomark _)) (pss_one (ps_ret pe_bl)) pss_nil)
      (pss_one (ps_ret (pe_cmpR (k_eqD (K := K) rfl hr.units) (by exact pe_lc (own := [("_law_k", 2)]) (g := (gName 2)) (by rfl) sc_law_alike.nd (pi_range1 (by rfl) T.range (pa_cons (pe_callB (k_len (K := K) rfl) (by rfl) T.len (by decide +kernel) (pa_cons (pv 1) pa_nil)) pa_nil)) (blkOk_by (own := [("_law_k", 2)]) (N := ["_law_found", "_law_due", "_law_k"]) (sc := defScope s_law_alike) (by decide +kernel)) (fun _ _ _ _ _ => (pg_name (i := 2) sc_law_alike.nd rfl (.inl rfl))) (fun _ _ _ _ _ => pts_one (pt_not (pt_val (pe_callD C_law_alike (hr.mono (Nat.le_refl _)) (by rfl) (pa_cons (pe_ix (k_ixT (K := K) rfl) (pv 0) (pv 2) (fun _ _ => rfl)) (pa_cons (pe_ix (k_ixT (K := K) rfl) (pv 1) (pv 2) (fun _ _ => rfl)) pa_nil)))))) (fun _ _ _ _ _ => (pv 2))) (pe_lst pa_nil) (nomark _)))))) pss_nil)
      (pss_cons (ps_if (PW.pt (pw_or (pt_cmpR o_isN (pv 1) pe_non (nomark _)) (pw_or1 (pt_val (pe_callB (k_isi (K := K) rfl) (by rfl) T.isinstance (by decide +kernel) (pa_cons (pv 1) (pa_cons (pe_bltn (v := .ty "str") (by rfl) T.str (by decide +kernel) rfl) pa_nil))))))) (pss_one (ps_ret (pe_and (pe_cmpR op_eq (pv 0) (pv 1) (nomark _)) (pe_one (pe_cmpR op_eq (pe_callB (k_isi (K := K) rfl) (by rfl) T.isinstance (by decide +kernel) (pa_cons (pv 0) (pa_cons (pe_bltn (v := .ty "str") (by rfl) T.str (by decide +kernel) rfl) pa_nil))) (pe_callB (k_isi (K := K) rfl) (by rfl) T.isinstance (by decide +kernel) (pa_cons (pv 1) (pa_cons (pe_bltn (v := .ty "str") (by rfl) T.str (by decide +kernel) rfl) pa_nil))) (nomark _)))))) pss_nil)
      (pss_one (ps_ret (pe_and (pe_callB (k_isi (K := K) rfl) (by rfl) T.isinstance (by decide +kernel) (pa_cons (pv 0) (pa_cons (pe_bltn (v := .ty "int") (by rfl) T.int (by decide +kernel) rfl) pa_nil))) (pe_and (pe_cmpR op_eq (pe_callB (k_isi (K := K) rfl) (by rfl) T.isinstance (by decide +kernel) (pa_cons (pv 0) (pa_cons (pe_bltn (v := .ty "bool") (by rfl) T.bool (by decide +kernel) rfl) pa_nil))) (pe_callB (k_isi (K := K) rfl) (by rfl) T.isinstance (by decide +kernel) (pa_cons (pv 1) (pa_cons (pe_bltn (v := .ty "bool") (by rfl) T.bool (by decide +kernel) rfl) pa_nil))) (nomark _)) (pe_one (pe_cmpR op_eq (pv 0) (pv 1) (nomark _))))))))), ?_⟩
  · rintro ds d ⟨x, _, rfl, _⟩
    rfl
  · rintro ds d ⟨x, hx, rfl, rfl⟩
    have nt : ∀ {i : Nat} {r : En} {n : String}, r[i]? = some (some x) → tyN x = n → n ≠ "" → kitB n "tuple" = some false → kitB n "list" = some false → ED K (tCB (rIsiT K) (tCons (tVar i) (tCons (tTup (tCons (tC (.ty "tuple")) (tCons (tC (.ty "list")) tNil))) tNil))) r (.bl false) := fun h e1 e2 e3 e4 =>
      ed_cb (ad_cons (ed_var h) (ad_cons (ed_tup (ad_cons ed_ty (ad_cons ed_ty ad_nil)) (by decide)) ad_nil)) (cd_isiT e1 e3 e4 e2)
    rcases hx with ⟨i, rfl⟩ | ⟨b, rfl⟩ | ⟨z, rfl⟩ | ⟨ds, rfl, hl, hs⟩
    · refine .inl (sd_skip (td_B (nt rfl (n := "int") rfl (by decide) (by decide +kernel) (by decide +kernel))) (sd_skip (td_is (td_or (a := false) (b := false) (td_test (ed_op (ed_var rfl) ed_non (bd_isN fun v H r => by rw [r.int_of]; rfl))) fun _ => td_B (isi_ff (t := "int") rfl rfl (by decide +kernel) (by decide))) rfl) (sd_ret (ed_and (a := true) (b := true) (isi_tt (t := "int") rfl rfl (by decide +kernel) (by decide)) fun _ => ed_and (a := true) (b := true) ?_ fun _ => ?_))))
      · exact ed_is (ed_op (isi_ff (t := "int") rfl rfl (by decide +kernel) (by decide)) (isi_ff (t := "int") rfl rfl (by decide +kernel) (by decide)) bd_eqB) rfl
      · exact ed_is (ed_op (ed_var rfl) (ed_var rfl) bd_eqI) (by rw [decide_eq_true rfl])
    · refine .inl (sd_skip (td_B (nt rfl (n := "bool") rfl (by decide) (by decide +kernel) (by decide +kernel))) (sd_skip (td_is (td_or (a := false) (b := false) (td_test (ed_op (ed_var rfl) ed_non (bd_isN fun v H r => by rw [r.bl_of]; rfl))) fun _ => td_B (isi_ff (t := "bool") rfl rfl (by decide +kernel) (by decide))) rfl) (sd_ret (ed_and (a := true) (b := true) (isi_tt (t := "bool") rfl rfl (by decide +kernel) (by decide)) fun _ => ed_and (a := true) (b := true) ?_ fun _ => ?_))))
      · exact ed_is (ed_op (isi_tt (t := "bool") rfl rfl (by decide +kernel) (by decide)) (isi_tt (t := "bool") rfl rfl (by decide +kernel) (by decide)) bd_eqB) rfl
      · exact ed_is (ed_op (ed_var rfl) (ed_var rfl) bd_eqB) (by rw [decide_eq_true rfl])
    · refine .inl (sd_skip (td_B (nt rfl (n := "str") rfl (by decide) (by decide +kernel) (by decide +kernel))) (sd_take (td_is (td_or (a := false) (b := true) (td_test (ed_op (ed_var rfl) ed_non (bd_isN fun v H r => by rw [r.str_of]; rfl))) fun _ => td_B (isi_tt (t := "str") rfl rfl (by decide +kernel) (by decide))) rfl) (sd_ret (ed_and (a := true) (b := true) ?_ fun _ => ?_))))
      · exact ed_is (ed_op (ed_var rfl) (ed_var rfl) bd_eqS) (by rw [decide_eq_true rfl])
      · exact ed_is (ed_op (isi_tt (t := "str") rfl rfl (by decide +kernel) (by decide)) (isi_tt (t := "str") rfl rfl (by decide +kernel) (by decide)) bd_eqB) rfl
    · have ty : ∀ {i : Nat} {r : En}, r[i]? = some (some (.tup ds)) → ED K (tCB (rIsiT K) (tCons (tVar i) (tCons (tTup (tCons (tC (.ty "tuple")) (tCons (tC (.ty "list")) tNil))) tNil))) r (.bl true) := fun h =>
        ed_cb (ad_cons (ed_var h) (ad_cons (ed_tup (ad_cons ed_ty (ad_cons ed_ty ad_nil)) (by decide)) ad_nil)) (cd_isiT (t := "tuple") (b := true) (c := false) rfl (by decide +kernel) (by decide +kernel) (by decide))
      refine .inl (sd_take (td_B (ty rfl)) (sd_skip (td_is (td_or (a := false) (b := false) (td_no (td_B (ty rfl)) rfl) fun _ => td_test (ed_is (ed_op (isi_ff (t := "tuple") rfl rfl (by decide +kernel) (by decide)) (isi_ff (t := "tuple") rfl rfl (by decide +kernel) (by decide)) bd_neB) rfl)) rfl)
        (sd_skip (td_test (ed_is (ed_op (ed_cb (ad_cons (ed_var rfl) ad_nil) cd_lenT) (ed_cb (ad_cons (ed_var rfl) ad_nil) cd_lenT) bd_neI) (by rw [decide_eq_true rfl]; rfl))) (sd_ret (ed_is (ed_op (ed_is (ed_lc (id_rng1 (ad_cons (ed_cb (ad_cons (ed_var rfl) ad_nil) cd_lenT) ad_nil) (by omega)) (by rw [ints_len]; omega) (fun d => [some (.tup ds), some (.tup ds), some d]) (fun _ => false) id (fun d _ => gd_name (by decide)) (fun d hd => ?_) (fun d _ _ => ed_var rfl) (fun d hd => ?_)) ?_) (ed_lst ad_nil (by decide)) (bd_eqNil (ds := []) rfl (by decide))) rfl)))))
      · obtain ⟨i, hi, rfl⟩ := mem_intsF hd
        have hi' : i < ds.length := by omega
        have a1 : atI ds (0 + (i : Int)) = some ds[i] := at0 (List.getElem?_eq_getElem hi')
        exact td_no (td_B (ed_call (ad_cons (ed_op (ed_var rfl) (ed_var rfl) (bd_ixT a1)) (ad_cons (ed_op (ed_var rfl) (ed_var rfl) (bd_ixT a1)) ad_nil)) (hA _ (hs _ (List.getElem_mem hi'))))) rfl
      · obtain ⟨i, hi, rfl⟩ := mem_intsF hd
        rfl
      · rw [List.filter_eq_nil_iff.mpr fun _ _ => by decide]
        rfl
def A0 : Dt → Prop := aD fun _ => False
def A1 : Dt → Prop := aD A0
def R_law_alike : List Dt → Dt → Prop := R_alike A1
theorem ok_law_alike (D : Df K mg "_law_alike" s_law_alike) (T : Tx K mg) : OkD P w K mg base 3 "_law_alike" ["_law_found", "_law_due"] (spD K R_law_alike) :=
  alike_step (A := A1) D T (alike_step (A := A0) D T (alike_step (A := fun _ => False) D T (ok_none D (fun _ _ _ _ _ _ us hl => match us, hl with | [_, _], _ => rfl)) fun _ h => h.elim) fun d h => PD.of ⟨d, h, rfl, rfl⟩) fun d h => PD.of ⟨d, h, rfl, rfl⟩
theorem a0_kd (k : Key) : A0 (kd k) := by
  cases k
  · exact .inl ⟨_, rfl⟩
  · exact .inr (.inr (.inl ⟨_, rfl⟩))
theorem a_ent (e : Ent) : A1 (entD e) := .inr (.inr (.inr ⟨_, rfl, by rw [ks_len]; have := nms_len e.r; omega, fun x hx => by
  obtain ⟨k, _, rfl⟩ := List.mem_map.mp hx
  exact a0_kd k⟩))
theorem alike_es {l : List Ent} (h : l.length ≤ 1000) : R_law_alike [.tup (esD l), .tup (esD l)] (.bl true) := ⟨_, .inr (.inr (.inr ⟨_, rfl, by rw [List.length_map, List.length_map]; exact h, fun x hx => by
  rw [esD_map] at hx
  obtain ⟨e, _, rfl⟩ := List.mem_map.mp hx
  exact a_ent e⟩)), rfl, rfl⟩
theorem alike_bl (b : Bool) : R_law_alike [.bl b, .bl b] (.bl true) := ⟨_, .inr (.inl ⟨_, rfl⟩), rfl, rfl⟩
def leE : En → En → Prop
  | [], [] => True
  | none :: r, _ :: s => leE r s
  | some d :: r, e :: s => e = some d ∧ leE r s
  | _, _ => False
theorem leE_len : ∀ {r s : En}, leE r s → r.length = s.length
  | [], [], _ => rfl
  | none :: r, _ :: s, h => by rw [List.length_cons, List.length_cons, leE_len (r := r) (s := s) h]
  | some d :: r, e :: s, h => by rw [List.length_cons, List.length_cons, leE_len (r := r) (s := s) h.2]
  | none :: _, [], h => h.elim
  | some _ :: _, [], h => h.elim
  | [], _ :: _, h => h.elim
theorem leE_at : ∀ {r s : En}, leE r s → ∀ {i : Nat} {d : Dt}, r[i]? = some (some d) → s[i]? = some (some d)
  | [], [], _, _, _, e => by cases e
  | none :: r, _ :: s, h, i, d, e => by
    cases i with
    | zero => cases e
    | succ i => exact leE_at (r := r) (s := s) h e
  | some x :: r, y :: s, h, i, d, e => by
    cases i with
    | zero => rw [h.1]; exact e
    | succ i => exact leE_at (r := r) (s := s) h.2 e
  | none :: _, [], h, _, _, _ => h.elim
  | some _ :: _, [], h, _, _, _ => h.elim
  | [], _ :: _, h, _, _, _ => h.elim
/-- to know less -/
theorem sd_weak {t : TS} {r r1 r2 : En} (h : SD K t r (.nx r1)) (l : leE r2 r1) : SD K t r (.nx r2) := fun D σ H ev k => h D σ H ev fun σ' H' s e => k σ' H' s ⟨by rw [e.len, leE_len l], fun i d hd => e.at_ i d (leE_at l hd)⟩
def R_law_held : List Dt → Dt → Prop := fun ds d => ∃ (e : Ent) (l : List Ent) (x : Dt), EsD l x ∧ ds = [entD e, x] ∧ d = .bl (kin e.ks (l.map Ent.ks) || bym e l)
theorem sc_law_held : FnScope ["_law_entry", "_law_waits"] ["_law_entry", "_law_waits"] (defScope s_law_held) := ⟨rfl, rfl, rfl, by decide +kernel, rfl, by decide +kernel, by decide +kernel⟩
theorem ok_law_held (D : Df K mg "_law_held" s_law_held) (T : Tx K mg)  : OkD P w K mg base 1 "_law_held" ["_law_entry", "_law_waits"] (spD K R_law_held) := by
  refine mk_ok D sc_law_held ?_ (fun _ _ _ _ _ _ us hl => match us, hl with | [_, _], _ => rfl) fun f cdv A outer s H E hr => ⟨_, (pss_one (ps_ret (pe_or (pe_cmpR (k_inA (K := K) rfl (hu65 hr)) (pv 0) (pv 1) (by rfl)) (pe_one (pe_and (pe_cmpR (k_eqD (K := K) rfl hr.units) (pe_slice (k_sl (K := K) rfl) (pv 0) po_none (po_some pe_int)) (pe_tup (pa_cons pe_str (pa_cons pe_str (pa_cons pe_str pa_nil)))) (nomark _)) (pe_one (pe_cmpR (k_inA (K := K) rfl (hu65 hr)) (pe_tup (pa_cons pe_str (pa_cons pe_str (pa_cons pe_str (pa_cons (pe_ix (k_ixT (K := K) rfl) (pv 0) (pe_un un_neg pe_int) (fun _ _ => rfl)) pa_nil))))) (pv 1) (by rfl)))))))), ?_⟩
  · rintro ds d ⟨e, l, x, _, rfl, _⟩
    rfl
  · rintro ds d ⟨e, l, x, hx, rfl, rfl⟩
    rw [bym_eq]
    refine .inl (sd_ret (ed_or (ed_op (ed_var rfl) (ed_var rfl) (bd_inE (neg := false) hx)) fun _ => ed_and (ed_is (ed_op (ed_is (ed_slT (ed_var rfl) od_none (od_some ed_int)) (congrArg Dt.tup (cut3 e))) (ed_tup (ad_cons ed_str (ad_cons ed_str (ad_cons ed_str ad_nil))) (by decide)) (bd_eqT (ks := e.ks.take 3) (ls := lsK) (take3_ok e) (by decide +kernel))) (congrArg Dt.bl (take3_ls e))) fun _ => ?_))
    exact ed_op (ed_tup (ad_cons ed_str (ad_cons ed_str (ad_cons ed_str (ad_cons (ed_op (ed_var rfl) (ed_un ed_int ud_neg) (bd_ixT (ks_last e))) ad_nil)))) (Nat.le_of_ble_eq_true rfl)) (ed_var rfl) (bd_inE (neg := false) (e := ⟨.mem false, e.d⟩) hx)
def R_law_entries : List Dt → Dt → Prop := fun ds d => ds = [] ∧ d = .lst (esD ENTS)
def us2 : List Dt := [.tup [.str "sum", .str "a"], .tup [.str "mul", .str "a"], .tup [.str "load", .str "a"], .tup [.str "store", .str "a"], .tup [.str "store", .str "b"], .tup [.str "zero", .str "a"], .tup [.str "out", .str "a"]]
def mk5 (n : Int) (d : Dt) : Dt → Dt
  | .tup [a, b] => .tup [.str "value", d, a, b, .int n]
  | _ => .non
def mkI (x : Str) (n : Int) (d e : Dt) : Dt := .tup [.str x, d, e, .int n]
/-- what a turn adds -/
def addW (n : Int) (d : Dt) : List Dt := us2.map (mk5 n d) ++ (sW.map Dt.str).map (mkI "order" n d)
def addZ (n : Int) (d : Dt) : List Dt := (sE.map Dt.str).map (mkI "wrong" n d)
def mems (n : Int) : List Dt := [mkI "memory" n (.str "store") (.str "load"), mkI "memory" n (.str "load") (.str "store")]
def zg : List Dt := [.str "zero", .str "go"]
def addD (n : Int) : List Dt := (sW.map Dt.str).flatMap (addW n) ++ (mems n ++ zg.flatMap (addZ n))
theorem us2_of : ∀ d ∈ us2, ∃ a b : Str, d = .tup [.str a, .str b] := by
  intro d hd
  simp only [us2, List.mem_cons, List.not_mem_nil, or_false] at hd
  rcases hd with rfl | rfl | rfl | rfl | rfl | rfl | rfl <;> exact ⟨_, _, rfl⟩
def intO : Dt → Int
  | .int i => i
  | _ => 0
theorem take_flat {α β : Type} {g : α → List β} {l : List α} {i : Nat} {d : α} (h : l[i]? = some d) : (l.take (i + 1)).flatMap g = (l.take i).flatMap g ++ g d := by
  rw [take_snoc h, List.flatMap_append, List.flatMap_cons, List.flatMap_nil, List.append_nil]
theorem len_flat {α β : Type} {g : α → List β} {c : Nat} (h : ∀ x, (g x).length ≤ c) : ∀ l : List α, (l.flatMap g).length ≤ l.length * c
  | [] => by simp
  | x :: l => by
    rw [List.flatMap_cons, List.length_append, List.length_cons, Nat.succ_mul]
    have := len_flat h l
    have := h x
    omega
theorem lw_all : ((intsF 1 7).flatMap fun d => addD (intO d)) = esD (days.flatMap lawL) := rfl
theorem sc_law_entries : FnScope ["_law_users", "_law_d", "_law_makers", "_law_found", "_law_one", "_law_other", "_law_role"] [] (defScope s_law_entries) := ⟨rfl, rfl, rfl, by decide +kernel, rfl, by decide +kernel, by decide +kernel⟩
theorem ok_law_entries (D : Df K mg "_law_entries" s_law_entries) (T : Tx K mg)  : OkD P w K mg base 1 "_law_entries" [] (spD K R_law_entries) := by
  refine mk_ok D sc_law_entries ?_ (fun _ _ _ _ _ _ us hl => match us, hl with | [], _ => rfl) fun f cdv A outer s H E hr => ⟨_, (pss_cons (ps_par (i := 2) (j := 3) rfl sc_law_entries.nd rfl rfl (by decide) rfl rfl (pa_cons (pe_lst (pa_cons pe_str (pa_cons pe_str (pa_cons pe_str (pa_cons pe_str pa_nil))))) (pa_cons (pe_lst pa_nil) pa_nil)) (by rfl))
      (pss_cons (ps_set (i := 0) sc_law_entries.nd rfl (.inl rfl) (pe_lst (pa_cons (pe_tup (pa_cons pe_str (pa_cons pe_str pa_nil))) (pa_cons (pe_tup (pa_cons pe_str (pa_cons pe_str pa_nil))) (pa_cons (pe_tup (pa_cons pe_str (pa_cons pe_str pa_nil))) (pa_cons (pe_tup (pa_cons pe_str (pa_cons pe_str pa_nil))) (pa_cons (pe_tup (pa_cons pe_str (pa_cons pe_str pa_nil))) (pa_cons (pe_tup (pa_cons pe_str (pa_cons pe_str pa_nil))) (pa_cons (pe_tup (pa_cons pe_str (pa_cons pe_str pa_nil))) pa_nil)))))))))
      (pss_cons (ps_for PassesOwn.never rfl (pi_range2 (by rfl) T.range (pa_cons pe_int (pa_cons pe_int pa_nil))) (pg_name (i := 1) sc_law_entries.nd rfl (.inr rfl)) (pss_cons (ps_for PassesOwn.never rfl (k_piL (K := K) rfl (pv 2)) (pg_name (i := 4) sc_law_entries.nd rfl (.inr rfl)) (pss_cons (ps_set (i := 3) sc_law_entries.nd rfl (.inl rfl) (pe_op op_cat (pv 3) (by exact pe_lc (own := [("_law_other", 5), ("_law_role", 6)]) (g := (gTup K 2 (gNames [5, 6]))) (by rfl) sc_law_entries.nd (k_piL (K := K) rfl (pv 0)) (blkOk_by (own := [("_law_other", 5), ("_law_role", 6)]) (N := ["_law_users", "_law_d", "_law_makers", "_law_found", "_law_one", "_law_other", "_law_role"]) (sc := defScope s_law_entries) (by decide +kernel)) (fun _ _ _ _ _ => (k_pgT (K := K) rfl rfl (pgs_cons (pg_name (i := 5) sc_law_entries.nd rfl (.inl rfl)) (pgs_cons (pg_name (i := 6) sc_law_entries.nd rfl (.inl rfl)) pgs_nil)))) (fun _ _ _ _ _ => pts_nil) (fun _ _ _ _ _ => (pe_tup (pa_cons pe_str (pa_cons (pv 4) (pa_cons (pv 5) (pa_cons (pv 6) (pa_cons (pv 1) pa_nil))))))))))
      (pss_one (ps_set (i := 3) sc_law_entries.nd rfl (.inl rfl) (pe_op op_cat (pv 3) (by exact pe_lc (own := [("_law_other", 5)]) (g := (gName 5)) (by rfl) sc_law_entries.nd (k_piL (K := K) rfl (pv 2)) (blkOk_by (own := [("_law_other", 5)]) (N := ["_law_users", "_law_d", "_law_makers", "_law_found", "_law_one", "_law_other", "_law_role"]) (sc := defScope s_law_entries) (by decide +kernel)) (fun _ _ _ _ _ => (pg_name (i := 5) sc_law_entries.nd rfl (.inl rfl))) (fun _ _ _ _ _ => pts_nil) (fun _ _ _ _ _ => (pe_tup (pa_cons pe_str (pa_cons (pv 4) (pa_cons (pv 5) (pa_cons (pv 1) pa_nil))))))))))))
      (pss_cons (ps_set (i := 3) sc_law_entries.nd rfl (.inl rfl) (pe_op op_cat (pv 3) (pe_lst (pa_cons (pe_tup (pa_cons pe_str (pa_cons pe_str (pa_cons pe_str (pa_cons (pv 1) pa_nil))))) (pa_cons (pe_tup (pa_cons pe_str (pa_cons pe_str (pa_cons pe_str (pa_cons (pv 1) pa_nil))))) pa_nil)))))
      (pss_one (ps_for PassesOwn.never rfl (k_piL (K := K) rfl (pe_lst (pa_cons pe_str (pa_cons pe_str pa_nil)))) (pg_name (i := 4) sc_law_entries.nd rfl (.inr rfl)) (pss_one (ps_set (i := 3) sc_law_entries.nd rfl (.inl rfl) (pe_op op_cat (pv 3) (by exact pe_lc (own := [("_law_other", 5)]) (g := (gName 5)) (by rfl) sc_law_entries.nd (k_piL (K := K) rfl (pe_op op_cat (pv 2) (pe_lst (pa_cons pe_str (pa_cons pe_str pa_nil))))) (blkOk_by (own := [("_law_other", 5)]) (N := ["_law_users", "_law_d", "_law_makers", "_law_found", "_law_one", "_law_other", "_law_role"]) (sc := defScope s_law_entries) (by decide +kernel)) (fun _ _ _ _ _ => (pg_name (i := 5) sc_law_entries.nd rfl (.inl rfl))) (fun _ _ _ _ _ => pts_nil) (fun _ _ _ _ _ => (pe_tup (pa_cons pe_str (pa_cons (pv 4) (pa_cons (pv 5) (pa_cons (pv 1) pa_nil)))))))))))))))
      (pss_one (ps_ret (pe_callB c_sortQ (by rfl) T.sorted (by decide +kernel) (pa_cons (pv 3) pa_nil))))))), ?_⟩
  · rintro ds d ⟨rfl, _⟩
    rfl
  · rintro ds d ⟨rfl, rfl⟩
    have lW : ∀ n d, (addW n d).length = 11 := fun n d => rfl
    have lZ : ∀ n d, (addZ n d).length = 6 := fun n d => rfl
    have lD : ∀ n, (addD n).length = 58 := fun n => rfl
    refine .inl (sd_seq (sd_par (ad_cons (ed_lst (ds := sW.map Dt.str) (ad_cons ed_str (ad_cons ed_str (ad_cons ed_str (ad_cons ed_str ad_nil)))) (by decide)) (ad_cons (ed_lst ad_nil (by decide)) ad_nil))) (sd_seq (sd_set (ed_lst (ds := us2) (ad_cons (ed_tup (ad_cons ed_str (ad_cons ed_str ad_nil)) (by decide)) (ad_cons (ed_tup (ad_cons ed_str (ad_cons ed_str ad_nil)) (by decide)) (ad_cons (ed_tup (ad_cons ed_str (ad_cons ed_str ad_nil)) (by decide)) (ad_cons (ed_tup (ad_cons ed_str (ad_cons ed_str ad_nil)) (by decide)) (ad_cons (ed_tup (ad_cons ed_str (ad_cons ed_str ad_nil)) (by decide)) (ad_cons (ed_tup (ad_cons ed_str (ad_cons ed_str ad_nil)) (by decide)) (ad_cons (ed_tup (ad_cons ed_str (ad_cons ed_str ad_nil)) (by decide)) ad_nil))))))) (by decide)))
      (sd_seq (r1 := [some (.lst us2), none, some (.lst (sW.map Dt.str)), some (.lst ((intsF 1 7).flatMap fun d => addD (intO d))), none, none, none]) ?_ (sd_ret ?_))))
    · refine sd_for (vs := [1]) (ds := intsF 1 7) (id_rng2 (lo := 1) (n := 8) (ad_cons ed_int (ad_cons ed_int ad_nil)) (by decide)) (fun i => [some (.lst us2), none, some (.lst (sW.map Dt.str)), some (.lst (((intsF 1 7).take i).flatMap fun d => addD (intO d))), none, none, none]) rfl
        (fun i => [some (.lst us2), some (.int (1 + (i : Nat))), some (.lst (sW.map Dt.str)), some (.lst (((intsF 1 7).take i).flatMap fun d => addD (intO d))), none, none, none]) (fun i d h => ?_) fun i d h => ?_
      · have hi := (List.getElem?_eq_some_iff.mp h).1
        rw [ints_len] at hi
        rw [ints_at hi] at h
        cases h
        exact gd_name (by decide)
      · have hi := (List.getElem?_eq_some_iff.mp h).1
        rw [ints_len] at hi
        have hd : d = .int (1 + (i : Nat)) := by
          rw [ints_at hi] at h
          exact (Option.some.inj h).symm
        have eN : ((intsF 1 7).take (i + 1)).flatMap (fun d => addD (intO d)) = ((intsF 1 7).take i).flatMap (fun d => addD (intO d)) ++ addD (1 + (i : Nat)) := by
          rw [take_flat h, hd]
          rfl
        have lF : (((intsF 1 7).take i).flatMap fun d => addD (intO d)).length ≤ 406 := by
          refine Nat.le_trans (len_flat (c := 58) (fun d => by rw [lD]; exact Nat.le_refl _) _) ?_
          rw [List.length_take, ints_len]
          omega
        rw [eN]
        clear hd eN h
        generalize (((intsF 1 7).take i).flatMap fun d => addD (intO d)) = F at *
        generalize (1 + (i : Int)) = n
        refine sd_weak (r1 := [some (.lst us2), some (.int n), some (.lst (sW.map Dt.str)), some (.lst ((F ++ (sW.map Dt.str).flatMap (addW n) ++ mems n) ++ zg.flatMap (addZ n))), none, none, none]) ?_ ⟨rfl, rfl, by rw [List.append_assoc, List.append_assoc]; rfl, trivial⟩
        have lA : ∀ j, (((sW.map Dt.str).take j).flatMap (addW n)).length ≤ 44 := fun j => by
          refine Nat.le_trans (len_flat (c := 11) (fun d => by rw [lW]; exact Nat.le_refl _) _) ?_
          rw [List.length_take]
          show min j 4 * 11 ≤ 44
          omega
        have lB : ∀ j, ((zg.take j).flatMap (addZ n)).length ≤ 12 := fun j => by
          refine Nat.le_trans (len_flat (c := 6) (fun d => by rw [lZ]; exact Nat.le_refl _) _) ?_
          rw [List.length_take]
          show min j 2 * 6 ≤ 12
          omega
        refine sd_seq (r1 := [some (.lst us2), some (.int n), some (.lst (sW.map Dt.str)), some (.lst (F ++ (sW.map Dt.str).flatMap (addW n))), none, none, none]) ?_ (sd_seq (r1 := [some (.lst us2), some (.int n), some (.lst (sW.map Dt.str)), some (.lst (F ++ (sW.map Dt.str).flatMap (addW n) ++ mems n)), none, none, none]) ?_ ?_)
        · have e0 : F = F ++ ((sW.map Dt.str).take 0).flatMap (addW n) := (List.append_nil F).symm
          refine sd_for (vs := [4]) (ds := sW.map Dt.str) (id_list (ed_var rfl)) (fun j => [some (.lst us2), some (.int n), some (.lst (sW.map Dt.str)), some (.lst (F ++ ((sW.map Dt.str).take j).flatMap (addW n))), none, none, none]) (by rw [← e0]) (fun j => [some (.lst us2), some (.int n), some (.lst (sW.map Dt.str)), some (.lst (F ++ ((sW.map Dt.str).take j).flatMap (addW n))), (sW.map Dt.str)[j]?, none, none]) (fun j d h => ?_) fun j d h => ?_
          · show GD K _ _ _ d [_, _, _, _, (sW.map Dt.str)[j]?, _, _]
            rw [h]
            exact gd_name (by decide)
          · have lA1 := lA j
            show SD K _ [_, _, _, _, (sW.map Dt.str)[j]?, _, _] (.nx [_, _, _, some (.lst (F ++ ((sW.map Dt.str).take (j + 1)).flatMap (addW n))), _, _, _])
            rw [h, take_flat h, ← List.append_assoc]
            obtain ⟨x, _, rfl⟩ := List.mem_map.mp (List.mem_of_getElem? h)
            have lG : (F ++ ((sW.map Dt.str).take j).flatMap (addW n)).length ≤ 1000 := by
              rw [List.length_append]
              omega
            generalize F ++ ((sW.map Dt.str).take j).flatMap (addW n) = G at *
            refine sd_weak (sd_seq (sd_set (ed_op (ed_var rfl) (ed_lc1 (ds := us2) (vs := [5, 6]) (id_list (ed_var rfl)) (by decide) (fun d => setAll [some (.lst us2), some (.int n), some (.lst (sW.map Dt.str)), some (.lst G), some (.str x), none, none] [5, 6] (match d with | .tup l => l | _ => [])) (mk5 n (.str x)) (fun d hd => ?_) (fun d hd => ?_) (fun d hd => ?_)) (bd_catL ?_)))
              (sd_set (ed_op (ed_var rfl) (ed_lc1 (ds := sW.map Dt.str) (vs := [5]) (id_list (ed_var rfl)) (by decide) (fun d => [some (.lst us2), some (.int n), some (.lst (sW.map Dt.str)), some (.lst (G ++ us2.map (mk5 n (.str x)))), some (.str x), some d, none]) (mkI "order" n (.str x)) (fun d hd => gd_name (by decide)) (fun d hd => ed_tup (ad_cons ed_str (ad_cons (ed_var rfl) (ad_cons (ed_var rfl) (ad_cons (ed_var rfl) ad_nil)))) (Nat.le_of_ble_eq_true rfl)) (fun d hd => ?_)) (bd_catL ?_)))) ⟨rfl, rfl, rfl, by rw [List.append_assoc]; rfl, trivial⟩
            · obtain ⟨a, b, rfl⟩ := us2_of d hd
              exact gd_tup (by decide) rfl rfl
            · obtain ⟨a, b, rfl⟩ := us2_of d hd
              exact ed_tup (ad_cons ed_str (ad_cons (ed_var rfl) (ad_cons (ed_var rfl) (ad_cons (ed_var rfl) (ad_cons (ed_var rfl) ad_nil))))) (Nat.le_of_ble_eq_true rfl)
            · obtain ⟨a, b, rfl⟩ := us2_of d hd
              rfl
            · rw [List.length_map]
              show G.length + 7 ≤ 100000
              omega
            · obtain ⟨y, _, rfl⟩ := List.mem_map.mp hd
              rfl
            · rw [List.length_append, List.length_map]
              show G.length + 7 + 4 ≤ 100000
              omega
        · refine sd_set (ed_op (ed_var rfl) (ed_lst (ds := mems n) (ad_cons (ed_tup (ad_cons ed_str (ad_cons ed_str (ad_cons ed_str (ad_cons (ed_var rfl) ad_nil)))) (Nat.le_of_ble_eq_true rfl)) (ad_cons (ed_tup (ad_cons ed_str (ad_cons ed_str (ad_cons ed_str (ad_cons (ed_var rfl) ad_nil)))) (Nat.le_of_ble_eq_true rfl)) ad_nil)) (Nat.le_of_ble_eq_true rfl)) (bd_catL ?_))
          have := lA 4
          rw [List.length_append]
          show F.length + ((((sW.map Dt.str).take 4).flatMap (addW n)).length) + 2 ≤ 100000
          omega
        · have lM : (F ++ (sW.map Dt.str).flatMap (addW n) ++ mems n).length ≤ 500 := by
            have h4 : ((((sW.map Dt.str).take 4).flatMap (addW n)).length) ≤ 44 := lA 4
            rw [List.length_append, List.length_append]
            show F.length + ((((sW.map Dt.str).take 4).flatMap (addW n)).length) + 2 ≤ 500
            omega
          generalize F ++ (sW.map Dt.str).flatMap (addW n) ++ mems n = M at *
          have e0 : M = M ++ (zg.take 0).flatMap (addZ n) := (List.append_nil M).symm
          refine sd_for (vs := [4]) (ds := zg) (id_list (ed_lst (ad_cons ed_str (ad_cons ed_str ad_nil)) (by decide))) (fun j => [some (.lst us2), some (.int n), some (.lst (sW.map Dt.str)), some (.lst (M ++ (zg.take j).flatMap (addZ n))), none, none, none]) (by rw [← e0]) (fun j => [some (.lst us2), some (.int n), some (.lst (sW.map Dt.str)), some (.lst (M ++ (zg.take j).flatMap (addZ n))), zg[j]?, none, none]) (fun j d h => ?_) fun j d h => ?_
          · show GD K _ _ _ d [_, _, _, _, zg[j]?, _, _]
            rw [h]
            exact gd_name (by decide)
          · have lB1 := lB j
            show SD K _ [_, _, _, _, zg[j]?, _, _] (.nx [_, _, _, some (.lst (M ++ (zg.take (j + 1)).flatMap (addZ n))), _, _, _])
            rw [h, take_flat h, ← List.append_assoc]
            have lG : (M ++ (zg.take j).flatMap (addZ n)).length ≤ 1000 := by
              rw [List.length_append]
              omega
            have hx : ∃ x, d = .str x := by
              have hm := List.mem_of_getElem? h
              rcases List.mem_cons.mp hm with rfl | hm
              · exact ⟨_, rfl⟩
              · rcases List.mem_cons.mp hm with rfl | hm
                · exact ⟨_, rfl⟩
                · cases hm
            obtain ⟨x, rfl⟩ := hx
            generalize M ++ (zg.take j).flatMap (addZ n) = G at *
            refine sd_weak (sd_set (ed_op (ed_var rfl) (ed_lc1 (ds := sE.map Dt.str) (vs := [5]) (id_list (ed_is (ed_op (ed_var rfl) (ed_lst (ad_cons ed_str (ad_cons ed_str ad_nil)) (by decide)) (bd_catL (by decide))) rfl)) (by decide) (fun d => [some (.lst us2), some (.int n), some (.lst (sW.map Dt.str)), some (.lst G), some (.str x), some d, none]) (mkI "wrong" n (.str x)) (fun d hd => gd_name (by decide)) (fun d hd => ed_tup (ad_cons ed_str (ad_cons (ed_var rfl) (ad_cons (ed_var rfl) (ad_cons (ed_var rfl) ad_nil)))) (Nat.le_of_ble_eq_true rfl)) (fun d hd => ?_)) (bd_catL ?_))) ⟨rfl, rfl, rfl, rfl, trivial⟩
            · obtain ⟨y, _, rfl⟩ := List.mem_map.mp hd
              rfl
            · rw [List.length_map]
              show G.length + 6 ≤ 100000
              omega
    · refine ed_cb (ad_cons (ed_is (ed_var rfl) (congrArg Dt.lst lw_all)) ad_nil) (cd_sort (kss := (days.flatMap lawL).map Ent.ks) (out := ENTS.map Ent.ks) (f := false) rkK ?_ ?_ (lawL_perm.map _) ?_)
      · intro ks hk
        obtain ⟨e, he, rfl⟩ := List.mem_map.mp hk
        exact ks_first e
      · intro k hk l hl
        obtain ⟨e, he, rfl⟩ := List.mem_map.mp hk
        obtain ⟨f, hf, rfl⟩ := List.mem_map.mp hl
        exact ltO_rk (ents_ok e (lawL_perm.mem_iff.mpr he)) (ents_ok f (lawL_perm.mem_iff.mpr hf))
      · rw [List.pairwise_map]
        exact ents_pw.imp_of_mem fun ha hb h => by rw [rkK_of (ents_ok _ ha), rkK_of (ents_ok _ hb)]; exact h
end
end SB
namespace SB
open PySem L2
theorem wipe_at {σ : L2.St} {j : Nat} : ∀ {vs : List Nat}, j ∉ vs → (L2.wipe σ vs)[j]? = σ[j]?
  | [], _ => rfl
  | v :: vs, h => by
    unfold L2.wipe
    rw [List.getElem?_set_ne (fun q => h (by rw [q]; exact List.mem_cons_self ..)), wipe_at fun q => h (List.mem_cons_of_mem _ q)]
/-! statements that change one object of their own, at slot j -/
section
variable (K : PySem.W.Frag) (B : Hp) (j : Nat) (a : Addr)
def SM (t : TS) (r : En) (Φ : HO → Prop) (r' : En) (Φ' : HO → Prop) : Prop := ∀ (D : Ends) (σ : L2.St) (H : Hp), EnvD K B σ r → σ[j]? = some (some (.ref a)) → Same B H → (∃ o, H a = some o ∧ Φ o) →
  (∀ σ' H', EnvD K B σ' r' → σ'[j]? = some (some (.ref a)) → Same B H' → (∃ o, H' a = some o ∧ Φ' o) → D.nx σ' H') → t D σ H
structure JB (J : It) (ds : List Dt) : Prop where
  stop : ∀ H', Same B H' → J.stop ds.length H'
  go : ∀ i H', i < ds.length → Same B H' → J.go i H'
  yld : ∀ i H x H', i < ds.length → Same B H → J.yld i H x H' → H' = H ∧ ∃ d, ds[i]? = some d ∧ Rp K B x d
def IB (wi : TI) (r : En) (ds : List Dt) : Prop := ∀ (σ : L2.St) (H : Hp) (R : It → Hp → Prop), EnvD K B σ r → Same B H → (∀ J H1, Same H H1 → JB K B J ds → R J H1) → wi σ H R
end
section
variable {K : PySem.W.Frag} {B : Hp} {j : Nat} {a : Addr} {r : En} {ds : List Dt}
theorem ib_list {i : Nat} (h : r[i]? = some (some (.lst ds))) : IB K B (iList K (tVar i)) r ds := fun σ H R ev sb k => by
  obtain ⟨v, h1, h2⟩ := ev.at_ i _ h
  obtain ⟨b, xs, rfl, hb, hv⟩ := h2.lst_of
  refine ⟨.ref b, h1, b, rfl, ⟨xs, SqL.of (sb _ _ hb)⟩, k _ H (Same.refl H) ⟨fun H' s => ⟨xs, SqL.of (s _ _ hb), by rw [hv.length]; exact Nat.le_refl _⟩, fun i H' hi s => ?_, fun i H2 x H' hi s y => ?_⟩⟩
  · exact ⟨xs, xs[i]'(by rw [hv.length]; exact hi), SqL.of (s _ _ hb), List.getElem?_eq_getElem _⟩
  · obtain ⟨e, y⟩ := y
    subst e
    have hx := y xs (SqL.of (s _ _ hb))
    obtain ⟨d, h1, h2⟩ := hv.get' hx
    exact ⟨rfl, d, h1, h2⟩
theorem ib_rng1 {ta : TA} {n : Int} (h : AD K ta r [.int n]) (hn : 0 ≤ n ∧ n ≤ 100000) : IB K B (iRng1 ta) r (intsF 0 n.toNat) := fun σ H R ev sb k => by
  refine h σ H _ (ev.mono sb) fun vs H1 s1 r1 => ?_
  obtain ⟨v, rfl, rv⟩ := rps1 r1
  obtain rfl := rv.int_of
  have z := jd_range (K := K) 0 n.toNat B
  refine ⟨n, rfl, by omega, by omega, k _ H1 s1 ⟨fun H' s => z.stop H' s, fun i H' hi s => z.go i H' hi s, fun i H2 x H' hi s y => ?_⟩⟩
  obtain ⟨e, d, h1, h2⟩ := z.yld i H2 x H' hi s y
  refine ⟨e, d, h1, ?_⟩
  have hi' : i < n.toNat := by rw [ints_len] at hi; exact hi
  rw [ints_at hi'] at h1
  cases h1
  rw [h2.int_of]
  exact .int _
theorem sm_next {Φ : HO → Prop} : SM K B j a tNext r Φ r Φ := fun D σ H ev hs sb ho k => k σ H ev hs sb ho
theorem sm_if {c : TT} {t u : TS} {b : Bool} {Φ : HO → Prop} {r' : En} {Φ' : HO → Prop} (h : TD K c r b) (h1 : b = true → SM K B j a t r Φ r' Φ') (h2 : b = false → SM K B j a u r Φ r' Φ') : SM K B j a (tIfS c t u) r Φ r' Φ' := fun D σ H ev hs sb ho k =>
  h σ H _ (ev.mono sb) fun H1 s1 => by
    have ho1 : ∃ o, H1 a = some o ∧ Φ o := by
      obtain ⟨o, e, p⟩ := ho
      exact ⟨o, s1 _ _ e, p⟩
    cases b with
    | true =>
      rw [if_pos rfl]
      exact h1 rfl D σ H1 ev hs (sb.trans s1) ho1 k
    | false =>
      rw [if_neg Bool.false_ne_true]
      exact h2 rfl D σ H1 ev hs (sb.trans s1) ho1 k
theorem sm_weakE {t : TS} {Φ Φ' : HO → Prop} {r1 r2 : En} (h : SM K B j a t r Φ r1 Φ') (l : leE r2 r1) : SM K B j a t r Φ r2 Φ' := fun D σ H ev hs sb ho k => h D σ H ev hs sb ho fun σ' H' e => k σ' H' ⟨by rw [e.len, leE_len l], fun i d hd => e.at_ i d (leE_at l hd)⟩
theorem sm_weakP {t : TS} {Φ Φ1 Φ2 : HO → Prop} {r1 : En} (h : SM K B j a t r Φ r1 Φ1) (l : ∀ o, Φ1 o → Φ2 o) : SM K B j a t r Φ r1 Φ2 := fun D σ H ev hs sb ho k => h D σ H ev hs sb ho fun σ' H' e z sb' ho' => k σ' H' e z sb' (by
  obtain ⟨o, e, p⟩ := ho'
  exact ⟨o, e, l o p⟩)
theorem sm_for {wi : TI} {g : TG} {tb : TS} {vs : List Nat} (hi : IB K B wi r ds) (rs : Nat → En) (h0 : rs 0 = r) (rt : Nat → En) (Φ : Nat → HO → Prop) (hj : j ∉ vs) (hg : ∀ i d, ds[i]? = some d → GD K g vs (rs i) d (rt i)) (hs : ∀ i d, ds[i]? = some d → SM K B j a tb (rt i) (Φ i) (rs (i + 1)) (Φ (i + 1))) :
    SM K B j a (tFor wi g tb) r (Φ 0) (rs ds.length) (Φ ds.length) := fun D σ H ev hsl sb ho k => hi σ H _ ev sb fun J H1 s1 jb => by
  refine ⟨fun i m σ' H' => m = ds.length - i ∧ i ≤ ds.length ∧ EnvD K B σ' (rs i) ∧ σ'[j]? = some (some (.ref a)) ∧ Same B H' ∧ ∃ o, H' a = some o ∧ Φ i o, ⟨ds.length, by simp, Nat.zero_le _, by rw [h0]; exact ev, hsl, sb.trans s1, ?_⟩, ?_⟩
  · obtain ⟨o, e, p⟩ := ho
    exact ⟨o, s1 _ _ e, p⟩
  rintro i m σ' H' ⟨rfl, hi, e', sl', sb', ho'⟩
  by_cases hlt : i < ds.length
  · refine .inr ⟨jb.go i H' hlt sb', fun σ2 H2 => EnvD K B σ2 (rs (i + 1)) ∧ σ2[j]? = some (some (.ref a)) ∧ Same B H2 ∧ ∃ o, H2 a = some o ∧ Φ (i + 1) o, fun σ2 H2 q => ⟨ds.length - (i + 1), by omega, rfl, hlt, q⟩, fun x H2 y => ?_⟩
    obtain ⟨e, d, hd, rx⟩ := jb.yld i H' x H2 hlt sb' y
    subst e
    exact hg i d hd x σ' B H2 _ sb' rx e' fun σ2 e2 w2 => hs i d hd _ σ2 H2 e2 (by rw [← wipe_at hj, w2, wipe_at hj]; exact sl') sb' ho' fun σ3 H3 e3 z3 s3 o3 => ⟨e3, z3, s3, o3⟩
  · have e : i = ds.length := by omega
    subst e
    exact .inl ⟨jb.stop H' sb', k σ' H' e' sl' sb' ho'⟩
theorem sm_dput {ty tv : TE} {ks : List Key} {d : Dt} {v0 : V} {Φ Φ' : HO → Prop} (hB : B a = none) (hv : ED K tv r d) (hd : ∀ H v, Rp K H v d → v = v0) (hk : ED K ty r (tk ks)) (hp : ∀ o, Φ o → ∃ kvs, o = .dT kvs ∧ kvs.length < 100000 ∧ Φ' (.dT (putK kvs ks v0))) :
    SM K B j a (sDPut (tVar j) ty tv) r Φ r Φ' := fun D σ H ev hs sb ho k => hv σ H _ (ev.mono sb) fun v H1 s1 r1 => ⟨.ref a, hs, hk σ H1 _ (ev.mono (sb.trans s1)) fun y H2 s2 r2 => by
    obtain ⟨o, e, p⟩ := ho
    obtain ⟨kvs, rfl, hl, p'⟩ := hp o p
    obtain ⟨b, rfl, hb⟩ := r2.tk_of
    have e2 := s2 _ _ (s1 _ _ e)
    refine ⟨a, _, rfl, DPut.t e2 hb (sz_lt hl), k σ _ ev hs (Same.mut ((sb.trans s1).trans s2) hB) ⟨_, upd_same, ?_⟩⟩
    rw [hd _ _ r1]
    exact p'⟩
theorem sm_append {i : Nat} {d : Dt} {Φ Φ' : HO → Prop} (hB : B a = none) (hv : r[i]? = some (some d)) (hp : ∀ o x, Rp K B x d → Φ o → ∃ xs, o = .lst xs ∧ xs.length < 100000 ∧ Φ' (.lst (xs ++ [x]))) :
    SM K B j a (tDrop (tBM K "list" rAppend (tVar j) (tCons (tVar i) tNil))) r Φ r Φ' := fun D σ H ev hs sb ho k => by
    obtain ⟨o, e, p⟩ := ho
    obtain ⟨x, h1, h2⟩ := ev.at_ i d hv
    obtain ⟨xs, rfl, hl, p'⟩ := hp o x h2 p
    exact ⟨.ref a, hs, .inl ⟨rfl, xs, SqL.of e⟩, x, h1, a, xs, x, rfl, rfl, e, sz_lt hl, k σ _ ev hs (Same.mut sb hB) ⟨_, upd_same, p'⟩⟩
end
/-! the places by names -/
def nmP : List (List Str) := [["set", "made", "written"], ["sum", "used", "made", "written"], ["mul", "used", "made", "written"], ["load", "used", "made", "written"], ["store", "used a", "used b", "put"], ["zero", "used", "decided"], ["go", "decided"], ["out", "used", "shown"]]
def ltS (l : List Str) : Dt := .tup (l.map Dt.str)
def keyAt (i m : Nat) : List Key := match nmP[i]? with
  | some (x :: l) => match l[m]? with
    | some y => [.inr x, .inr y]
    | none => []
  | _ => []
def valAt (p : Pl) (i m : Nat) : Option Int := (p.rows[i]?).bind fun row => row[m]?
theorem key_inj : ∀ i < 8, ∀ m < 4, ∀ i' < 8, ∀ m' < 4, keyAt i m = keyAt i' m' → keyAt i m ≠ [] → i = i' ∧ m = m' := by
  have h : ((List.range 8).all fun i => (List.range 4).all fun m => (List.range 8).all fun i' => (List.range 4).all fun m' => !(decide (keyAt i m = keyAt i' m') && !(decide (keyAt i m = []))) || (decide (i = i') && decide (m = m'))) = true := by decide +kernel
  intro i hi m hm i' hi' m' hm' e ne
  have h1 := List.all_eq_true.mp (List.all_eq_true.mp (List.all_eq_true.mp (List.all_eq_true.mp h i (List.mem_range.mpr hi)) m (List.mem_range.mpr hm)) i' (List.mem_range.mpr hi')) m' (List.mem_range.mpr hm')
  rw [decide_eq_true e, decide_eq_false ne] at h1
  simpa using h1
/-- the dict of places -/
def SpotsOk (p : Pl) (kvs : List (List Key × V)) : Prop := ∀ i m z, valAt p i m = some z → valV kvs (keyAt i m) = some (.int z)
def Spot (p : Pl) (i n : Nat) (o : HO) : Prop := ∃ kvs, o = .dT kvs ∧ kvs.length ≤ i * 4 + n ∧ ∀ i' m z, (i' < i ∨ i' = i ∧ m < n) → valAt p i' m = some z → valV kvs (keyAt i' m) = some (.int z)
theorem putK_len {κ : Type} [DecidableEq κ] (kvs : List (κ × V)) (k : κ) (v : V) : (putK kvs k v).length ≤ kvs.length + 1 := by
  unfold putK
  split
  · rw [List.length_map]
    omega
  · rw [List.length_append]
    exact Nat.le_refl _
theorem rows_nl {p : Pl} {i : Nat} (hi : i < 8) : ∃ row ss, p.rows[i]? = some row ∧ nmP[i]? = some ss ∧ row.length + 1 = ss.length ∧ row.length < 5 := by
  match i, hi with
  | 0, _ => exact ⟨_, _, rfl, rfl, rfl, by show 2 < 5; omega⟩
  | 1, _ => exact ⟨_, _, rfl, rfl, rfl, by show 3 < 5; omega⟩
  | 2, _ => exact ⟨_, _, rfl, rfl, rfl, by show 3 < 5; omega⟩
  | 3, _ => exact ⟨_, _, rfl, rfl, rfl, by show 3 < 5; omega⟩
  | 4, _ => exact ⟨_, _, rfl, rfl, rfl, by show 3 < 5; omega⟩
  | 5, _ => exact ⟨_, _, rfl, rfl, rfl, by show 2 < 5; omega⟩
  | 6, _ => exact ⟨_, _, rfl, rfl, rfl, by show 1 < 5; omega⟩
  | 7, _ => exact ⟨_, _, rfl, rfl, rfl, by show 2 < 5; omega⟩
theorem ints_at' {n i : Nat} {d : Dt} (h : (intsF 0 n)[i]? = some d) : i < n ∧ d = .int (0 + (i : Nat)) := by
  have hi : i < n := by
    have := (List.getElem?_eq_some_iff.mp h).1
    rwa [ints_len] at this
  refine ⟨hi, ?_⟩
  rw [ints_at hi] at h
  exact (Option.some.inj h).symm
theorem spot_step {p : Pl} {i m : Nat} {z : Int} (hi : i < 8) (hm : m < 4) (hz : valAt p i m = some z) (hk : keyAt i m ≠ []) (o : HO) (h : Spot p i m o) : ∃ kvs, o = .dT kvs ∧ kvs.length < 100000 ∧ Spot p i (m + 1) (.dT (putK kvs (keyAt i m) (.int z))) := by
  obtain ⟨kvs, rfl, hl, h⟩ := h
  refine ⟨kvs, rfl, by omega, _, rfl, Nat.le_trans (putK_len _ _ _) (by omega), fun i' m' z' hc hv => ?_⟩
  rw [valV_put]
  by_cases e : keyAt i' m' = keyAt i m
  · have lt' : i' < 8 ∧ m' < 4 := by
      unfold valAt at hv
      cases q : p.rows[i']? with
      | none => rw [q] at hv; cases hv
      | some row =>
        rw [q] at hv
        have h1 : i' < 8 := (List.getElem?_eq_some_iff.mp q).1
        obtain ⟨row', _, g1, _, _, g4⟩ := rows_nl (p := p) h1
        rw [q] at g1
        cases g1
        have h2 := (List.getElem?_eq_some_iff.mp hv).1
        rcases hc with hc | ⟨rfl, hc⟩
        · have : row.length ≤ 3 ∨ row.length = 4 := by omega
          rcases this with h3 | h3
          · exact ⟨h1, by omega⟩
          · exact ⟨h1, by omega⟩
        · exact ⟨h1, by omega⟩
    obtain ⟨rfl, rfl⟩ := key_inj i hi m hm i' lt'.1 m' lt'.2 e.symm hk
    rw [hz] at hv
    cases hv
    rw [if_pos rfl]
  · rw [if_neg e]
    refine h i' m' z' ?_ hv
    rcases hc with hc | ⟨rfl, hc⟩
    · exact .inl hc
    · refine .inr ⟨rfl, ?_⟩
      have : m' ≠ m := fun q => e (by rw [q])
      omega
section
variable {P : Program} {w : World} {K : PySem.W.Frag} {mg : Str → Option Value} {base : Heap}

/-- a dict of the places -/
def spPlaces (K : PySem.W.Frag) : Sp := fun vs H Q _ => ∃ D : Des, Rps K H vs [desD D] ∧ ∀ v H' kvs, Same H H' → Rp K H' v (.tab kvs) → SpotsOk D.pl kvs → Q v H'
end
end SB
namespace SB
open PySem L2
theorem dnew_step {i : Nat} {D : Ends} {σ : L2.St} {H : Hp} (h : ∀ p, H p = none → D.nx (σ.set i (some (.ref p))) (upd H p (.dT []))) : tAsg tDNewT (gName i) D σ H := h
theorem env_none {K : PySem.W.Frag} {H : Hp} {σ : L2.St} {r : En} {i : Nat} {o : Option V} (e : EnvD K H σ r) (h : r[i]? = some none) : EnvD K H (σ.set i o) r := ⟨by rw [List.length_set, e.len], fun m d hd => by
  have ne : i ≠ m := fun q => by
    rw [q, hd] at h
    cases h
  obtain ⟨v, h1, h2⟩ := e.at_ m d hd
  exact ⟨v, by rw [List.getElem?_set_ne ne]; exact h1, h2⟩⟩
theorem SpotsOk.wr {p : Pl} {kvs : List (List Key × V)} (h : SpotsOk p kvs) (k : WK) : valV kvs [.inr k.nm, .inr "written"] = some (.int (p.written k)) := by
  cases k
  · exact h 0 1 _ rfl
  · exact h 1 2 _ rfl
  · exact h 2 2 _ rfl
  · exact h 3 2 _ rfl
theorem SpotsOk.md {p : Pl} {kvs : List (List Key × V)} (h : SpotsOk p kvs) (k : WK) : valV kvs [.inr k.nm, .inr "made"] = some (.int (p.made k)) := by
  cases k
  · exact h 0 0 _ rfl
  · exact h 1 1 _ rfl
  · exact h 2 1 _ rfl
  · exact h 3 1 _ rfl
theorem SpotsOk.us {p : Pl} {kvs : List (List Key × V)} (h : SpotsOk p kvs) (u : US) : valV kvs [.inr u.nm, .inr (usW u)] = some (.int (p.used u)) := by
  cases u
  · exact h 1 0 _ rfl
  · exact h 2 0 _ rfl
  · exact h 3 0 _ rfl
  · exact h 4 0 _ rfl
  · exact h 4 1 _ rfl
  · exact h 5 0 _ rfl
  · exact h 7 0 _ rfl
theorem SpotsOk.dc {p : Pl} {kvs : List (List Key × V)} (h : SpotsOk p kvs) (z : Bool) : valV kvs [.inr (jn z), .inr "decided"] = some (.int (p.dec z)) := by
  cases z
  · exact h 6 0 _ rfl
  · exact h 5 1 _ rfl
theorem SpotsOk.lm {p : Pl} {kvs : List (List Key × V)} (h : SpotsOk p kvs) : valV kvs [.inr "load", .inr "made"] = some (.int p.loadM) := h 3 1 _ rfl
theorem SpotsOk.pt {p : Pl} {kvs : List (List Key × V)} (h : SpotsOk p kvs) : valV kvs [.inr "store", .inr "put"] = some (.int p.stP) := h 4 2 _ rfl
theorem SpotsOk.sh {p : Pl} {kvs : List (List Key × V)} (h : SpotsOk p kvs) : valV kvs [.inr "out", .inr "shown"] = some (.int p.outS) := h 7 1 _ rfl
theorem sm_run {K : PySem.W.Frag} {B : Hp} {j : Nat} {a : Addr} {t : TS} {r r' : En} {Φ Φ' : HO → Prop} {D : Ends} {σ : L2.St} {H : Hp} (h : SM K B j a t r Φ r' Φ') (ev : EnvD K B σ r) (hs : σ[j]? = some (some (.ref a))) (sb : Same B H) (ho : ∃ o, H a = some o ∧ Φ o)
    (k : ∀ σ' H', EnvD K B σ' r' → σ'[j]? = some (some (.ref a)) → Same B H' → (∃ o, H' a = some o ∧ Φ' o) → D.nx σ' H') : t D σ H := h D σ H ev hs sb ho k
section
variable {P : Program} {w : World} {K : PySem.W.Frag} {mg : Str → Option Value} {base : Heap}
theorem sc_law_places : FnScope ["_law_design_here", "_law_names", "_law_found", "_law_k", "_law_j"] ["_law_design_here"] (defScope s_law_places) := ⟨rfl, rfl, rfl, by decide +kernel, rfl, by decide +kernel, by decide +kernel⟩
theorem ok_law_places (D : Df K mg "_law_places" s_law_places) (T : Tx K mg)  : OkD P w K mg base 1 "_law_places" ["_law_design_here"] (spPlaces K) := by
  refine mk_okG D sc_law_places ?_ (fun _ _ _ _ _ _ us hl => match us, hl with | [_], _ => rfl) fun f cdv A outer s H E hr => ⟨_, (pss_cons (ps_set (i := 1) sc_law_places.nd rfl (.inl rfl) (pe_lst (pa_cons (pe_tup (pa_cons pe_str (pa_cons pe_str (pa_cons pe_str pa_nil)))) (pa_cons (pe_tup (pa_cons pe_str (pa_cons pe_str (pa_cons pe_str (pa_cons pe_str pa_nil))))) (pa_cons (pe_tup (pa_cons pe_str (pa_cons pe_str (pa_cons pe_str (pa_cons pe_str pa_nil))))) pa_nil)))))
      (pss_cons (ps_set (i := 1) sc_law_places.nd rfl (.inl rfl) (pe_op op_cat (pv 1) (pe_lst (pa_cons (pe_tup (pa_cons pe_str (pa_cons pe_str (pa_cons pe_str (pa_cons pe_str pa_nil))))) (pa_cons (pe_tup (pa_cons pe_str (pa_cons pe_str (pa_cons pe_str (pa_cons pe_str pa_nil))))) (pa_cons (pe_tup (pa_cons pe_str (pa_cons pe_str (pa_cons pe_str pa_nil)))) pa_nil))))))
      (pss_cons (ps_set (i := 1) sc_law_places.nd rfl (.inl rfl) (pe_op op_cat (pv 1) (pe_lst (pa_cons (pe_tup (pa_cons pe_str (pa_cons pe_str pa_nil))) (pa_cons (pe_tup (pa_cons pe_str (pa_cons pe_str (pa_cons pe_str pa_nil)))) pa_nil)))))
      (pss_cons (ps_set (i := 2) sc_law_places.nd rfl (.inl rfl) pe_dnewT)
      (pss_cons (ps_for PassesOwn.never rfl (pi_range1 (by rfl) T.range (pa_cons pe_int pa_nil)) (pg_name (i := 3) sc_law_places.nd rfl (.inl rfl)) (pss_one (ps_for PassesOwn.never rfl (pi_range1 (by rfl) T.range (pa_cons (pe_callB (k_len (K := K) rfl) (by rfl) T.len (by decide +kernel) (pa_cons (pe_ix (k_ixT (K := K) rfl) (pe_ix (k_ixT (K := K) rfl) (pv 0) pe_int (fun _ _ => rfl)) (pv 3) (fun _ _ => rfl)) pa_nil)) pa_nil)) (pg_name (i := 4) sc_law_places.nd rfl (.inl rfl)) (pss_one (ps_dput (hu1 hr) (pv 2) (pe_tup (pa_cons (pe_ix (k_ixT (K := K) rfl) (pe_ix (k_ixL (K := K) rfl) (pv 1) (pv 3) (fun _ _ => rfl)) pe_int (fun _ _ => rfl)) (pa_cons (pe_ix (k_ixT (K := K) rfl) (pe_ix (k_ixL (K := K) rfl) (pv 1) (pv 3) (fun _ _ => rfl)) (pe_op op_add (pv 4) pe_int) (fun _ _ => rfl)) pa_nil))) (pe_ix (k_ixT (K := K) rfl) (pe_ix (k_ixT (K := K) rfl) (pe_ix (k_ixT (K := K) rfl) (pv 0) pe_int (fun _ _ => rfl)) (pv 3) (fun _ _ => rfl)) (pv 4) (fun _ _ => rfl)) rfl)))))
      (pss_one (ps_ret (pv 2)))))))), ?_⟩
  · intro vs H Q E h
    obtain ⟨D, h, _⟩ := h
    rw [h.length]
    rfl
  · intro vs H Q E hsp
    obtain ⟨D, hv, q⟩ := hsp
    refine seq_step (sd_set (ed_lst (ad_cons (ed_tup (ad_cons ed_str (ad_cons ed_str (ad_cons ed_str ad_nil))) (by decide)) (ad_cons (ed_tup (ad_cons ed_str (ad_cons ed_str (ad_cons ed_str (ad_cons ed_str ad_nil)))) (by decide)) (ad_cons (ed_tup (ad_cons ed_str (ad_cons ed_str (ad_cons ed_str (ad_cons ed_str ad_nil)))) (by decide)) ad_nil))) (by decide)) _ _ H (env_start (N := ["_law_design_here", "_law_names", "_law_found", "_law_k", "_law_j"]) hv) fun σ1 H1 s1 e1 => ?_)
    refine seq_step (sd_set (ed_op (ed_var rfl) (ed_lst (ad_cons (ed_tup (ad_cons ed_str (ad_cons ed_str (ad_cons ed_str (ad_cons ed_str ad_nil)))) (by decide)) (ad_cons (ed_tup (ad_cons ed_str (ad_cons ed_str (ad_cons ed_str (ad_cons ed_str ad_nil)))) (by decide)) (ad_cons (ed_tup (ad_cons ed_str (ad_cons ed_str (ad_cons ed_str ad_nil))) (by decide)) ad_nil))) (by decide)) (bd_catL (by decide))) _ _ H1 e1 fun σ2 H2 s2 e2 => ?_)
    refine seq_step (sd_set (ed_op (ed_var rfl) (ed_lst (ad_cons (ed_tup (ad_cons ed_str (ad_cons ed_str ad_nil)) (by decide)) (ad_cons (ed_tup (ad_cons ed_str (ad_cons ed_str (ad_cons ed_str ad_nil))) (by decide)) ad_nil)) (by decide)) (bd_catL (by decide))) _ _ H2 e2 fun σ3 H3 s3 e3 => ?_)
    have e4 : EnvD K H3 σ3 [some (desD D), some (.lst (nmP.map ltS)), none, none, none] := e3
    refine seq_step (dnew_step fun a ha => ?_)
    dsimp only
    refine seq_step (t := tFor _ _ _) (u := tRet _) ?_
    have hN : ∀ {r : En}, r[1]? = some (some (.lst (nmP.map ltS))) → ED K (tVar 1) r (.lst (nmP.map ltS)) := fun h => ed_var h
    refine sm_run (K := K) (B := H3) (j := 2) (a := a) (r := [some (desD D), some (.lst (nmP.map ltS)), none, none, none]) (Φ := Spot D.pl 0 0) (r' := [some (desD D), some (.lst (nmP.map ltS)), none, none, none]) (Φ' := Spot D.pl 8 0) ?_ (env_none e4 rfl) (List.getElem?_set_self (by rw [e4.len]; exact Nat.le_of_ble_eq_true rfl)) (same_upd ha) ⟨_, upd_same, [], rfl, by decide, fun i' m z hc => by omega⟩ fun σ' H' e' sl sb ho => ret_step (te := tVar 2) ⟨_, sl, ?_⟩
    · refine sm_for (vs := [3]) (ds := intsF 0 8) (ib_rng1 (n := 8) (ad_cons ed_int ad_nil) (by decide)) (fun _ => [some (desD D), some (.lst (nmP.map ltS)), none, none, none]) rfl (fun i => [some (desD D), some (.lst (nmP.map ltS)), none, some (.int (0 + (i : Nat))), none]) (fun i => Spot D.pl i 0) (by decide) (fun i d h => ?_) fun i d h => ?_
      · obtain ⟨_, rfl⟩ := ints8 h
        exact gd_name (by decide)
      · obtain ⟨hi, rfl⟩ := ints8 h
        obtain ⟨row, ss, h1, h2, h3, h4⟩ := rows_nl (p := D.pl) hi
        have hrow : ∀ {r : En}, r[0]? = some (some (desD D)) → r[3]? = some (some (.int (0 + (i : Nat)))) → ED K (tOp (rIxT K) (tOp (rIxT K) (tVar 0) (tC (.int 2))) (tVar 3)) r (iD row) := fun g1 g2 => ed_op (ed_op (ed_var g1) ed_int (bd_ixT (d := plD D.pl) rfl)) (ed_var g2) (bd_ixT (at0 (at_map h1)))
        refine sm_weakP (sm_weakE (sm_for (vs := [4]) (ds := intsF 0 row.length) ?_ (fun _ => [some (desD D), some (.lst (nmP.map ltS)), none, some (.int (0 + (i : Nat))), none]) rfl (fun m => [some (desD D), some (.lst (nmP.map ltS)), none, some (.int (0 + (i : Nat))), some (.int (0 + (m : Nat)))]) (fun m => Spot D.pl i m) (by decide) (fun m d h => ?_) fun m d h => ?_) ⟨rfl, rfl, trivial⟩) ?_
        · have z := ib_rng1 (K := K) (B := H3) (n := ((row.map Dt.int).length : Int)) (ad_cons (ed_cb (ad_cons (hrow (r := [some (desD D), some (.lst (nmP.map ltS)), none, some (.int (0 + (i : Nat))), none]) rfl rfl) ad_nil) cd_lenT) ad_nil) (by rw [List.length_map]; omega)
          rw [List.length_map, Int.toNat_natCast] at z
          exact z
        · obtain ⟨_, rfl⟩ := ints_at' h
          exact gd_name (by decide)
        · obtain ⟨hm, rfl⟩ := ints_at' h
          cases ss with
          | nil => cases h3
          | cons x l =>
            have hml : m < l.length := by
              rw [List.length_cons] at h3
              omega
            have hy : l[m]? = some l[m] := List.getElem?_eq_getElem hml
            have hz : row[m]? = some row[m] := List.getElem?_eq_getElem hm
            have hk : keyAt i m = [.inr x, .inr l[m]] := by
              unfold keyAt
              rw [h2]
              show (match l[m]? with | some y => [Sum.inr x, Sum.inr y] | none => []) = _
              rw [hy]
            have hva : valAt D.pl i m = some row[m] := by
              unfold valAt
              rw [h1]
              exact hz
            refine sm_weakE (sm_dput ha (ks := keyAt i m) (v0 := .int row[m]) (ed_op (hrow rfl rfl) (ed_var rfl) (bd_ixT (at0 (at_map hz)))) (fun _ _ r => r.int_of) ?_ (spot_step hi (by omega) hva (by rw [hk]; exact List.cons_ne_nil _ _))) ⟨rfl, rfl, rfl, trivial⟩
            rw [hk]
            refine ed_tup (ds := [.str x, .str l[m]]) (ad_cons (ed_op (ed_op (ed_var rfl) (ed_var rfl) (bd_ixL (at0 (at_map h2)))) ed_int (bd_ixT at_hd)) (ad_cons (ed_op (ed_op (ed_var rfl) (ed_var rfl) (bd_ixL (at0 (at_map h2)))) (ed_op (ed_var rfl) ed_int bd_add) (bd_ixT ?_)) ad_nil)) (Nat.le_of_ble_eq_true rfl)
            rw [show 0 + (m : Int) + 1 = ((m + 1 : Nat) : Int) by omega]
            exact atI_nat (at_map (xs := x :: l) (i := m + 1) hy)
        · rintro o ⟨kvs, rfl, hl, hk⟩
          rw [ints_len] at hl hk
          refine ⟨kvs, rfl, by omega, fun i' m z hc hz => hk i' m z ?_ hz⟩
          rcases hc with hc | ⟨_, hc⟩
          · by_cases e : i' = i
            · refine .inr ⟨e, ?_⟩
              subst e
              unfold valAt at hz
              rw [h1] at hz
              exact (List.getElem?_eq_some_iff.mp hz).1
            · exact .inl (by omega)
          · omega
    · obtain ⟨o, ho, kvs, rfl, _, hk⟩ := ho
      refine q _ _ kvs (((s1.trans s2).trans s3).trans sb) (.tab ho) fun i m z hz => hk i m z (.inl ?_) hz
      unfold valAt at hz
      cases g : D.pl.rows[i]? with
      | none => rw [g] at hz; cases hz
      | some row => exact (List.getElem?_eq_some_iff.mp g).1
def R_law_is_open : List Dt → Dt → Prop := fun ds d => ∃ (D : Des) (e : Ent) (kvs : List (List Key × V)), SpotsOk D.pl kvs ∧ ds = [desD D, .tab kvs, entD e] ∧ d = .bl (opn D e)
theorem val_law (same : Bool) (kn : Bool) (x w u m : Int) : ((decide (x < w) || (decide (x = w) && !same)) && !(kn && decide (m < u))) = if (decide (w < x) || (same && decide (x = w))) = true then false else (!kn || decide (u ≤ m)) := by
  have c : decide (u ≤ m) = !decide (m < u) := by
    by_cases h : m < u
    · rw [decide_eq_true h, decide_eq_false (by omega)]
      rfl
    · rw [decide_eq_false h, decide_eq_true (by omega)]
      rfl
  rw [c]
  by_cases h1 : x < w
  · rw [decide_eq_true h1, decide_eq_false (show ¬ w < x by omega), decide_eq_false (show ¬ x = w by omega)]
    cases same <;> cases kn <;> simp
  · by_cases h2 : x = w
    · rw [decide_eq_false h1, decide_eq_false (show ¬ w < x by omega), decide_eq_true h2]
      cases same <;> cases kn <;> simp
    · rw [decide_eq_false h1, decide_eq_true (show w < x by omega), decide_eq_false h2]
      simp
theorem mem_law (same : Bool) (x w : Int) : (decide (x < w) || (decide (x = w) && !same)) = !(decide (w < x) || (same && decide (x = w))) := by
  by_cases h1 : x < w
  · rw [decide_eq_true h1, decide_eq_false (show ¬ w < x by omega), decide_eq_false (show ¬ x = w by omega)]
    cases same <;> rfl
  · by_cases h2 : x = w
    · rw [decide_eq_false h1, decide_eq_false (show ¬ w < x by omega), decide_eq_true h2]
      cases same <;> rfl
    · rw [decide_eq_false h1, decide_eq_true (show w < x by omega), decide_eq_false h2]
      rfl
theorem sc_law_is_open : FnScope ["_law_design_here", "_law_spots", "_law_entry", "_law_effect", "_law_same", "_law_d", "_law_one", "_law_other", "_law_used", "_law_late", "_law_fetched", "_law_put"] ["_law_design_here", "_law_spots", "_law_entry"] (defScope s_law_is_open) := ⟨rfl, rfl, rfl, by decide +kernel, rfl, by decide +kernel, by decide +kernel⟩
theorem ok_law_is_open (D : Df K mg "_law_is_open" s_law_is_open) (T : Tx K mg)  : OkD P w K mg base 1 "_law_is_open" ["_law_design_here", "_law_spots", "_law_entry"] (spD K R_law_is_open) := by
  refine mk_ok D sc_law_is_open ?_ (fun _ _ _ _ _ _ us hl => match us, hl with | [_, _, _], _ => rfl) fun f cdv A outer s H E hr => ⟨_, (pss_cons (ps_asg (pe_tup (pa_cons (pe_ix (k_ixT (K := K) rfl) (pv 0) pe_int (fun _ _ => rfl)) (pa_cons (pe_ix (k_ixT (K := K) rfl) (pv 2) (pe_un un_neg pe_int) (fun _ _ => rfl)) (pa_cons (pe_ix (k_ixT (K := K) rfl) (pv 2) pe_int (fun _ _ => rfl)) (pa_cons (pe_ix (k_ixT (K := K) rfl) (pv 2) pe_int (fun _ _ => rfl)) pa_nil))))) (k_pgT (K := K) rfl rfl (pgs_cons (pg_name (i := 4) sc_law_is_open.nd rfl (.inl rfl)) (pgs_cons (pg_name (i := 5) sc_law_is_open.nd rfl (.inl rfl)) (pgs_cons (pg_name (i := 6) sc_law_is_open.nd rfl (.inl rfl)) (pgs_cons (pg_name (i := 7) sc_law_is_open.nd rfl (.inl rfl)) pgs_nil))))))
      (pss_cons (ps_if (pt_cmpR op_eq (pe_ix (k_ixT (K := K) rfl) (pv 2) pe_int (fun _ _ => rfl)) pe_str (nomark _)) (pss_cons (ps_set (i := 8) sc_law_is_open.nd rfl (.inl rfl) (pe_dget (hu1 hr) (pv 1) (pe_tup (pa_cons (pv 7) (pa_cons (pe_ifExp (pt_cmpR op_eq (pv 7) pe_str (nomark _)) (pe_op o_addS pe_str (pe_ix (k_ixT (K := K) rfl) (pv 2) pe_int (fun _ _ => rfl))) pe_str) pa_nil))) (fun _ _ => rfl)))
      (pss_cons (ps_set (i := 9) sc_law_is_open.nd rfl (.inl rfl) (pe_or (pe_cmpR op_lt (pe_op op_add (pe_ix (k_ixT (K := K) rfl) (pv 0) pe_int (fun _ _ => rfl)) (pv 5)) (pe_dget (hu1 hr) (pv 1) (pe_tup (pa_cons (pv 6) (pa_cons pe_str pa_nil))) (fun _ _ => rfl)) (nomark _)) (pe_one (pe_and (pe_cmpR op_eq (pe_op op_add (pe_ix (k_ixT (K := K) rfl) (pv 0) pe_int (fun _ _ => rfl)) (pv 5)) (pe_dget (hu1 hr) (pv 1) (pe_tup (pa_cons (pv 6) (pa_cons pe_str pa_nil))) (fun _ _ => rfl)) (nomark _)) (pe_one (pe_not (pv 4)))))))
      (pss_one (ps_ret (pe_and (pv 9) (pe_one (pe_not (pe_and (pe_cmpR (k_inA (K := K) rfl (hu65 hr)) (pe_tup (pa_cons (pe_op op_add (pv 8) (pv 5)) (pa_cons (pv 8) pa_nil))) (pe_ix (k_ixT (K := K) rfl) (pv 0) pe_int (fun _ _ => rfl)) (by rfl)) (pe_one (pe_cmpR op_gt (pe_op op_add (pv 8) (pv 5)) (pe_dget (hu1 hr) (pv 1) (pe_tup (pa_cons (pv 6) (pa_cons pe_str pa_nil))) (fun _ _ => rfl)) (nomark _))))))))))) pss_nil)
      (pss_cons (ps_if (pt_cmpR op_eq (pe_ix (k_ixT (K := K) rfl) (pv 2) pe_int (fun _ _ => rfl)) pe_str (nomark _)) (pss_one (ps_ret (pe_cmpR op_lt (pe_op op_add (pv 5) (pe_dget (hu1 hr) (pv 1) (pe_tup (pa_cons (pv 7) (pa_cons pe_str pa_nil))) (fun _ _ => rfl))) (pe_dget (hu1 hr) (pv 1) (pe_tup (pa_cons (pv 6) (pa_cons pe_str pa_nil))) (fun _ _ => rfl)) (nomark _)))) pss_nil)
      (pss_cons (ps_par (i := 10) (j := 11) rfl sc_law_is_open.nd rfl rfl (by decide) rfl rfl (pa_cons (pe_dget (hu1 hr) (pv 1) (pe_tup (pa_cons pe_str (pa_cons pe_str pa_nil))) (fun _ _ => rfl)) (pa_cons (pe_dget (hu1 hr) (pv 1) (pe_tup (pa_cons pe_str (pa_cons pe_str pa_nil))) (fun _ _ => rfl)) pa_nil)) (by rfl))
      (pss_cons (ps_if (pt_cmpR op_eq (pe_ix (k_ixT (K := K) rfl) (pv 2) pe_int (fun _ _ => rfl)) pe_str (nomark _)) (pss_cons (ps_if (pt_cmpR op_eq (pv 6) pe_str (nomark _)) (pss_one (ps_ret (pe_or (pe_cmpR op_lt (pe_op op_add (pv 10) (pv 5)) (pv 11) (nomark _)) (pe_one (pe_and (pe_cmpR op_eq (pe_op op_add (pv 10) (pv 5)) (pv 11) (nomark _)) (pe_one (pe_not (pv 4)))))))) pss_nil)
      (pss_one (ps_ret (pe_or (pe_cmpR op_lt (pe_op op_add (pv 5) (pv 11)) (pv 10) (nomark _)) (pe_one (pe_and (pe_cmpR op_eq (pe_op op_add (pv 5) (pv 11)) (pv 10) (nomark _)) (pe_one (pv 4)))))))) pss_nil)
      (pss_cons (ps_set (i := 3) sc_law_is_open.nd rfl (.inl rfl) (pe_ifExp (pt_cmpR op_eq (pv 7) pe_str (nomark _)) (pv 11) (pe_ifExp (pt_cmpR op_eq (pv 7) pe_str (nomark _)) (pe_dget (hu1 hr) (pv 1) (pe_tup (pa_cons pe_str (pa_cons pe_str pa_nil))) (fun _ _ => rfl)) (pe_dget (hu1 hr) (pv 1) (pe_tup (pa_cons (pv 7) (pa_cons pe_str pa_nil))) (fun _ _ => rfl)))))
      (pss_one (ps_ret (pe_cmpR op_le (pe_op op_add (pv 5) (pv 3)) (pe_dget (hu1 hr) (pv 1) (pe_tup (pa_cons (pv 6) (pa_cons pe_str pa_nil))) (fun _ _ => rfl)) (nomark _)))))))))), ?_⟩
  · rintro ds d ⟨D, e, kvs, _, rfl, _⟩
    rfl
  · rintro ds d ⟨D, ⟨ru, n⟩, kvs, hs, rfl, rfl⟩
    have hd : ∀ {r : En}, r[0]? = some (some (desD D)) → r[2]? = some (some (entD ⟨ru, n⟩)) → ∀ {y z : Dt}, atI (Ent.ks ⟨ru, n⟩ |>.map kd) 1 = some y → atI (Ent.ks ⟨ru, n⟩ |>.map kd) 2 = some z →
        SD K (tAsg (tTup (tCons (tOp (rIxT K) (tVar 0) (tC (.int 1))) (tCons (tOp (rIxT K) (tVar 2) (tUn (rU fun i => .int (-i)) (tC (.int 1)))) (tCons (tOp (rIxT K) (tVar 2) (tC (.int 1))) (tCons (tOp (rIxT K) (tVar 2) (tC (.int 2))) tNil))))) (gTup K 4 (gNames [4, 5, 6, 7]))) r (.nx (setAll r [4, 5, 6, 7] [.bl D.same, .int (n : Int), y, z])) := fun h0 h2 y z h1 h3 =>
      sd_unpack (is := [4, 5, 6, 7]) (ed_tup (ad_cons (ed_op (ed_var h0) ed_int (bd_ixT rfl)) (ad_cons (ed_op (ed_var h2) (ed_un ed_int ud_neg) (bd_ixT (ks_last _))) (ad_cons (ed_op (ed_var h2) ed_int (bd_ixT h1)) (ad_cons (ed_op (ed_var h2) ed_int (bd_ixT h3)) ad_nil)))) (Nat.le_of_ble_eq_true rfl)) rfl rfl
    have dg : ∀ {r : En} {te : TE} {x y : Str} {z : Int}, r[1]? = some (some (.tab kvs)) → valV kvs [.inr x, .inr y] = some (.int z) → ED K te r (.str x) → ∀ {tf : TE}, ED K tf r (.str y) → ED K (tDGet (tVar 1) (tTup (tCons te (tCons tf tNil)))) r (.int z) := fun {r te x y z} h1 h2 h3 {tf} h4 =>
      ed_dget (ks := [.inr x, .inr y]) (v := .int z) (ed_var h1) (ed_tup (ad_cons h3 (ad_cons h4 ad_nil)) (Nat.le_of_ble_eq_true rfl)) h2 fun _ => .int z
    cases ru with
    | val k u =>
      have eo : opn D ⟨.val k u, n⟩ = ((decide (D.rd + n < D.pl.written k) || (decide (D.rd + n = D.pl.written k) && !D.same)) && !(kinP (D.pl.used u + n, D.pl.used u) D.paths && decide (D.pl.made k < D.pl.used u + n))) := (val_law _ _ _ _ _ _).symm
      rw [eo]
      refine .inl (sd_seq (hd (y := .str k.nm) (z := .str u.nm) rfl rfl rfl rfl) (sd_take (td_is (td_test (ed_op (ed_op (ed_var rfl) ed_int (bd_ixT (d := .str "value") rfl)) ed_str bd_eqS)) (by decide +kernel)) (sd_seq (sd_set (dg rfl (hs.us u) (ed_var rfl) ?_)) (sd_seq (sd_set (ed_or (ed_op (ed_op (ed_op (ed_var rfl) ed_int (bd_ixT (d := .int D.rd) rfl)) (ed_var rfl) bd_add) (dg rfl (hs.wr k) (ed_var rfl) ed_str) bd_lt) fun _ => ed_and (ed_op (ed_op (ed_op (ed_var rfl) ed_int (bd_ixT (d := .int D.rd) rfl)) (ed_var rfl) bd_add) (dg rfl (hs.wr k) (ed_var rfl) ed_str) bd_eqI) fun _ => ed_not (ed_var rfl)))
        (sd_ret (ed_and (ed_var rfl) fun _ => ed_not (ed_and (ed_op (ed_tup (ad_cons (ed_op (ed_var rfl) (ed_var rfl) bd_add) (ad_cons (ed_var rfl) ad_nil)) (Nat.le_of_ble_eq_true rfl)) (ed_op (ed_var rfl) ed_int (bd_ixT (d := .tup (psD D.paths)) rfl)) (bd_inT (neg := false) (ks := pthK (D.pl.used u + n, D.pl.used u)) (kss := D.paths.map pthK) (pth_ok _) fun ks h => by
          obtain ⟨q, _, rfl⟩ := List.mem_map.mp h
          exact pth_ok q)) fun _ => ed_op (ed_op (ed_var rfl) (ed_var rfl) bd_add) (dg rfl (hs.md k) (ed_var rfl) ed_str) bd_gt)))))))
      cases u
      case stA => exact ed_if (b := true) (td_is (td_test (ed_op (ed_var rfl) ed_str bd_eqS)) (by decide +kernel)) (fun _ => ed_is (ed_op ed_str (ed_op (ed_var rfl) ed_int (bd_ixT (d := .str "a") rfl)) (bd_addS (Nat.le_of_ble_eq_true rfl))) rfl) (fun q => by cases q)
      case stB => exact ed_if (b := true) (td_is (td_test (ed_op (ed_var rfl) ed_str bd_eqS)) (by decide +kernel)) (fun _ => ed_is (ed_op ed_str (ed_op (ed_var rfl) ed_int (bd_ixT (d := .str "b") rfl)) (bd_addS (Nat.le_of_ble_eq_true rfl))) rfl) (fun q => by cases q)
      all_goals exact ed_if (b := false) (td_is (td_test (ed_op (ed_var rfl) ed_str bd_eqS)) (by decide +kernel)) (fun q => by cases q) (fun _ => ed_str)
    | ord k l =>
      exact .inl (sd_seq (hd (y := .str k.nm) (z := .str l.nm) rfl rfl rfl rfl) (sd_skip (td_is (td_test (ed_op (ed_op (ed_var rfl) ed_int (bd_ixT (d := .str "order") rfl)) ed_str bd_eqS)) (by decide +kernel)) (sd_take (td_is (td_test (ed_op (ed_op (ed_var rfl) ed_int (bd_ixT (d := .str "order") rfl)) ed_str bd_eqS)) (by decide +kernel)) (sd_ret (ed_op (ed_op (ed_var rfl) (dg rfl (hs.wr l) (ed_var rfl) ed_str) bd_add) (dg rfl (hs.wr k) (ed_var rfl) ed_str) bd_lt)))))
    | mem sl =>
      cases sl with
      | true =>
        have eo : opn D ⟨.mem true, n⟩ = (decide (D.pl.loadM + n < D.pl.stP) || (decide (D.pl.loadM + n = D.pl.stP) && !D.same)) := (mem_law _ _ _).symm
        rw [eo]
        exact .inl (sd_seq (hd (y := .str "store") (z := .str "load") rfl rfl rfl rfl) (sd_skip (td_is (td_test (ed_op (ed_op (ed_var rfl) ed_int (bd_ixT (d := .str "memory") rfl)) ed_str bd_eqS)) (by decide +kernel)) (sd_skip (td_is (td_test (ed_op (ed_op (ed_var rfl) ed_int (bd_ixT (d := .str "memory") rfl)) ed_str bd_eqS)) (by decide +kernel)) (sd_seq (sd_par (ad_cons (dg rfl hs.lm ed_str ed_str) (ad_cons (dg rfl hs.pt ed_str ed_str) ad_nil)))
          (sd_take (td_is (td_test (ed_op (ed_op (ed_var rfl) ed_int (bd_ixT (d := .str "memory") rfl)) ed_str bd_eqS)) (by decide +kernel)) (sd_take (td_is (td_test (ed_op (ed_var rfl) ed_str bd_eqS)) (by decide +kernel)) (sd_ret (ed_or (ed_op (ed_op (ed_var rfl) (ed_var rfl) bd_add) (ed_var rfl) bd_lt) fun _ => ed_and (ed_op (ed_op (ed_var rfl) (ed_var rfl) bd_add) (ed_var rfl) bd_eqI) fun _ => ed_not (ed_var rfl)))))))))
      | false =>
        have eo : opn D ⟨.mem false, n⟩ = (decide ((n : Int) + D.pl.stP < D.pl.loadM) || (decide ((n : Int) + D.pl.stP = D.pl.loadM) && D.same)) := congrArg (fun z => decide ((n : Int) + D.pl.stP < D.pl.loadM) || z) (Bool.and_comm _ _)
        rw [eo]
        exact .inl (sd_seq (hd (y := .str "load") (z := .str "store") rfl rfl rfl rfl) (sd_skip (td_is (td_test (ed_op (ed_op (ed_var rfl) ed_int (bd_ixT (d := .str "memory") rfl)) ed_str bd_eqS)) (by decide +kernel)) (sd_skip (td_is (td_test (ed_op (ed_op (ed_var rfl) ed_int (bd_ixT (d := .str "memory") rfl)) ed_str bd_eqS)) (by decide +kernel)) (sd_seq (sd_par (ad_cons (dg rfl hs.lm ed_str ed_str) (ad_cons (dg rfl hs.pt ed_str ed_str) ad_nil)))
          (sd_take (td_is (td_test (ed_op (ed_op (ed_var rfl) ed_int (bd_ixT (d := .str "memory") rfl)) ed_str bd_eqS)) (by decide +kernel)) (sd_skip (td_is (td_test (ed_op (ed_var rfl) ed_str bd_eqS)) (by decide +kernel)) (sd_ret (ed_or (ed_op (ed_op (ed_var rfl) (ed_var rfl) bd_add) (ed_var rfl) bd_lt) fun _ => ed_and (ed_op (ed_op (ed_var rfl) (ed_var rfl) bd_add) (ed_var rfl) bd_eqI) fun _ => ed_var rfl))))))))
    | wr z f =>
      refine .inl (sd_seq (hd (y := .str (jn z)) (z := .str f.nm) rfl rfl rfl rfl) (sd_skip (td_is (td_test (ed_op (ed_op (ed_var rfl) ed_int (bd_ixT (d := .str "wrong") rfl)) ed_str bd_eqS)) (by decide +kernel)) (sd_skip (td_is (td_test (ed_op (ed_op (ed_var rfl) ed_int (bd_ixT (d := .str "wrong") rfl)) ed_str bd_eqS)) (by decide +kernel)) (sd_seq (sd_par (ad_cons (dg rfl hs.lm ed_str ed_str) (ad_cons (dg rfl hs.pt ed_str ed_str) ad_nil)))
          (sd_skip (td_is (td_test (ed_op (ed_op (ed_var rfl) ed_int (bd_ixT (d := .str "wrong") rfl)) ed_str bd_eqS)) (by decide +kernel)) (sd_seq (sd_set (d := .int (D.pl.eff f)) ?_) (sd_ret (ed_op (ed_op (ed_var rfl) (ed_var rfl) bd_add) (dg rfl (hs.dc z) (ed_var rfl) ed_str) bd_le))))))))
      cases f
      case store => exact ed_if (b := true) (td_is (td_test (ed_op (ed_var rfl) ed_str bd_eqS)) (by decide +kernel)) (fun _ => ed_var rfl) (fun q => by cases q)
      case out => exact ed_if (b := false) (td_is (td_test (ed_op (ed_var rfl) ed_str bd_eqS)) (by decide +kernel)) (fun q => by cases q) (fun _ => ed_if (b := true) (td_is (td_test (ed_op (ed_var rfl) ed_str bd_eqS)) (by decide +kernel)) (fun _ => dg rfl hs.sh ed_str ed_str) (fun q => by cases q))
      case set => exact ed_if (b := false) (td_is (td_test (ed_op (ed_var rfl) ed_str bd_eqS)) (by decide +kernel)) (fun q => by cases q) (fun _ => ed_if (b := false) (td_is (td_test (ed_op (ed_var rfl) ed_str bd_eqS)) (by decide +kernel)) (fun q => by cases q) (fun _ => dg rfl (hs.wr .set) (ed_var rfl) ed_str))
      case sum => exact ed_if (b := false) (td_is (td_test (ed_op (ed_var rfl) ed_str bd_eqS)) (by decide +kernel)) (fun q => by cases q) (fun _ => ed_if (b := false) (td_is (td_test (ed_op (ed_var rfl) ed_str bd_eqS)) (by decide +kernel)) (fun q => by cases q) (fun _ => dg rfl (hs.wr .sum) (ed_var rfl) ed_str))
      case mul => exact ed_if (b := false) (td_is (td_test (ed_op (ed_var rfl) ed_str bd_eqS)) (by decide +kernel)) (fun q => by cases q) (fun _ => ed_if (b := false) (td_is (td_test (ed_op (ed_var rfl) ed_str bd_eqS)) (by decide +kernel)) (fun q => by cases q) (fun _ => dg rfl (hs.wr .mul) (ed_var rfl) ed_str))
      case load => exact ed_if (b := false) (td_is (td_test (ed_op (ed_var rfl) ed_str bd_eqS)) (by decide +kernel)) (fun q => by cases q) (fun _ => ed_if (b := false) (td_is (td_test (ed_op (ed_var rfl) ed_str bd_eqS)) (by decide +kernel)) (fun q => by cases q) (fun _ => dg rfl (hs.wr .load) (ed_var rfl) ed_str))
end
end SB
namespace SB
open PySem L2
theorem lnew_step {i : Nat} {D : Ends} {σ : L2.St} {H : Hp} (h : ∀ p, H p = none → D.nx (σ.set i (some (.ref p))) (upd H p (.lst []))) : tAsg (tLst tNil) (gName i) D σ H := ⟨Nat.zero_le _, h⟩
section
variable {P : Program} {w : World} {K : PySem.W.Frag} {mg : Str → Option Value} {base : Heap}
def R_law_opens : List Dt → Dt → Prop := R_opens_in
theorem sc_law_opens : FnScope ["_law_design_here", "_law_spots", "_law_entry"] ["_law_design_here"] (defScope s_law_opens) := ⟨rfl, rfl, rfl, by decide +kernel, rfl, by decide +kernel, by decide +kernel⟩
theorem ok_law_opens (D : Df K mg "_law_opens" s_law_opens) (T : Tx K mg) (C_law_entries : OkD P w K mg base 1 "_law_entries" [] (spD K R_law_entries)) (C_law_is_open : OkD P w K mg base 1 "_law_is_open" ["_law_design_here", "_law_spots", "_law_entry"] (spD K R_law_is_open)) (C_law_places : OkD P w K mg base 1 "_law_places" ["_law_design_here"] (spPlaces K)) : OkD P w K mg base 2 "_law_opens" ["_law_design_here"] (spD K R_law_opens) := by
  refine mk_ok D sc_law_opens ?_ (fun _ _ _ _ _ _ us hl => match us, hl with | [_], _ => rfl) fun f cdv A outer s H E hr => ⟨_, (pss_cons (ps_set (i := 1) sc_law_opens.nd rfl (.inr rfl) (pe_callD C_law_places (hr.mono (by decide)) (by rfl) (pa_cons (pv 0) pa_nil)))
      (pss_one (ps_ret (by exact pe_lc (own := [("_law_entry", 2)]) (g := (gName 2)) (by rfl) sc_law_opens.nd (k_piL (K := K) rfl (pe_callD0 C_law_entries (hr.mono (by decide)) (by rfl))) (blkOk_by (own := [("_law_entry", 2)]) (N := ["_law_design_here", "_law_spots", "_law_entry"]) (sc := defScope s_law_opens) (by decide +kernel)) (fun _ _ _ _ _ => (pg_name (i := 2) sc_law_opens.nd rfl (.inl rfl))) (fun _ _ _ _ _ => pts_one (pt_val (pe_callD C_law_is_open (hr.mono (by decide)) (by rfl) (pa_cons (pv 0) (pa_cons (pv 1) (pa_cons (pv 2) pa_nil)))))) (fun _ _ _ _ _ => (pv 2)))))), ?_⟩
  · rintro ds d ⟨D, rfl, _⟩
    rfl
  · rintro ds d ⟨D, rfl, rfl⟩
    refine .inl fun D' σ H ev ok => seq_step ?_
    obtain ⟨v, h1, h2⟩ := ev.at_ 0 _ rfl
    refine ⟨v, h1, D, .cons h2 .nil, fun v' H' kvs s1 rt hs => ?_⟩
    exact sd_ret (d := .lst (esD (opens D))) (ed_lcE (l := ENTS) (id_list (ed_call (E := E0) ad_nil (PD.of ⟨rfl, rfl⟩))) (by rw [ents_len]; decide) (fun d => [some (desD D), some (.tab kvs), some d]) (opn D) (fun e _ => gd_name (by decide)) (fun e _ => td_B (ed_call (ad_cons (ed_var rfl) (ad_cons (ed_var rfl) (ad_cons (ed_var rfl) ad_nil))) (PD.of ⟨D, e, kvs, hs, rfl, rfl⟩))) (fun e _ => ed_var rfl)) D' _ H' ((ev.mono s1).set (i := 1) rt) fun v2 H2 s2 r2 => ok v2 H2 (s1.trans s2) r2
def R_law_least : List Dt → Dt → Prop := fun ds d => ∃ D : Des, ds = [desD D] ∧ d = .tup (esD (leastL D))
def lstE (K : PySem.W.Frag) (B : Hp) (l : List Ent) (o : HO) : Prop := ∃ xs, o = .lst xs ∧ Rps K B xs (esD l)
theorem sc_law_least : FnScope ["_law_design_here", "_law_opens_here", "_law_found", "_law_entry"] ["_law_design_here"] (defScope s_law_least) := ⟨rfl, rfl, rfl, by decide +kernel, rfl, by decide +kernel, by decide +kernel⟩
theorem ok_law_least (D : Df K mg "_law_least" s_law_least) (T : Tx K mg) (C_law_opens : OkD P w K mg base 2 "_law_opens" ["_law_design_here"] (spD K R_law_opens)) : OkD P w K mg base 3 "_law_least" ["_law_design_here"] (spD K R_law_least) := by
  refine mk_ok D sc_law_least ?_ (fun _ _ _ _ _ _ us hl => match us, hl with | [_], _ => rfl) fun f cdv A outer s H E hr => ⟨_, (pss_cons (ps_set (i := 1) sc_law_least.nd rfl (.inl rfl) (pe_callD C_law_opens (hr.mono (by decide)) (by rfl) (pa_cons (pv 0) pa_nil)))
      (pss_cons (ps_set (i := 2) sc_law_least.nd rfl (.inl rfl) (pe_lst pa_nil))
      (pss_cons (ps_for PassesOwn.never rfl (k_piL (K := K) rfl (pv 1)) (pg_name (i := 3) sc_law_least.nd rfl (.inl rfl)) (pss_one (ps_if (pt_not (PW.pt (pw_and (pt_cmpR (k_eqD (K := K) rfl hr.units) (pe_slice (k_sl (K := K) rfl) (pv 3) po_none (po_some pe_int)) (pe_tup (pa_cons pe_str (pa_cons pe_str (pa_cons pe_str pa_nil)))) (nomark _)) (pw_and1 (pt_cmpR (k_inA (K := K) rfl (hu65 hr)) (pe_tup (pa_cons pe_str (pa_cons pe_str (pa_cons pe_str (pa_cons (pe_ix (k_ixT (K := K) rfl) (pv 3) (pe_un un_neg pe_int) (fun _ _ => rfl)) pa_nil))))) (pv 1) (by rfl)))))) (pss_one (ps_expr (k_bm (K := K) rfl PySem.F.plainAttrs_list PySem.F.slot_list_append PySem.F.type_list_append mt_append (pv 2) (pa_cons (pv 3) pa_nil)))) pss_nil)))
      (pss_one (ps_ret (pe_callTy (k_tuple (K := K) rfl) (by rfl) T.tuple (by decide +kernel) (pa_cons (pv 2) pa_nil))))))), ?_⟩
  · rintro ds d ⟨D, rfl, _⟩
    rfl
  · rintro ds d ⟨D, rfl, rfl⟩
    refine .inl (sd_seq (sd_set (ed_call (ad_cons (ed_var rfl) ad_nil) (PD.of ⟨D, rfl, rfl⟩))) fun D' σ H ev ok => seq_step (lnew_step fun a ha => ?_))
    dsimp only
    refine seq_step (t := tFor _ _ _) (u := tRet _) ?_
    have e4 : EnvD K H σ [some (desD D), some (.lst (esD (opens D))), none, none] := ev
    refine sm_run (K := K) (B := H) (j := 2) (a := a) (r := [some (desD D), some (.lst (esD (opens D))), none, none]) (Φ := lstE K H (((opens D).take 0).filter fun e => !bym e (opens D))) (r' := [some (desD D), some (.lst (esD (opens D))), none, none]) (Φ' := lstE K H (((opens D).take (esD (opens D)).length).filter fun e => !bym e (opens D))) ?_ (env_none e4 rfl) (List.getElem?_set_self (by rw [e4.len]; exact Nat.le_of_ble_eq_true rfl)) (same_upd ha) ⟨_, upd_same, [], rfl, .nil⟩ fun σ' H' e' sl sb ho => ret_step (te := tCB (rTupQ K) (tCons (tVar 2) tNil)) ⟨_, sl, ?_⟩
    · refine sm_for (vs := [3]) (ds := esD (opens D)) (ib_list rfl) (fun _ => [some (desD D), some (.lst (esD (opens D))), none, none]) rfl (fun i => [some (desD D), some (.lst (esD (opens D))), none, (esD (opens D))[i]?]) (fun i => lstE K H (((opens D).take i).filter fun e => !bym e (opens D))) (by decide) (fun i d h => ?_) fun i d h => ?_
      · show GD K _ _ _ d [_, _, _, (esD (opens D))[i]?]
        rw [h]
        exact gd_name (by decide)
      · show SM K _ _ _ _ [_, _, _, (esD (opens D))[i]?] _ _ _
        rw [h]
        rw [esD_map, List.getElem?_map] at h
        cases q : (opens D)[i]? with
        | none => rw [q] at h; cases h
        | some e =>
          rw [q] at h
          cases h
          have eT : ((opens D).take (i + 1)).filter (fun e => !bym e (opens D)) = ((opens D).take i).filter (fun e => !bym e (opens D)) ++ [e].filter (fun e => !bym e (opens D)) := by
            rw [take_snoc q, List.filter_append]
          have eb : (!(isLS e.r && kin (Ent.ks ⟨.mem false, e.d⟩) ((opens D).map Ent.ks))) = !bym e (opens D) := by rw [bym_eq]
          refine sm_weakE (r1 := [some (desD D), some (.lst (esD (opens D))), none, some (entD e)]) (sm_if (b := !bym e (opens D)) (td_is (td_not (td_and (a := isLS e.r) (td_is (td_test (ed_op (ed_is (ed_slT (ed_var rfl) od_none (od_some ed_int)) (congrArg Dt.tup (cut3 e))) (ed_tup (ad_cons ed_str (ad_cons ed_str (ad_cons ed_str ad_nil))) (by decide)) (bd_eqT (ks := e.ks.take 3) (ls := lsK) (take3_ok e) (by decide +kernel)))) (take3_ls e)) fun _ => td_test (ed_op (ed_tup (ad_cons ed_str (ad_cons ed_str (ad_cons ed_str (ad_cons (ed_op (ed_var rfl) (ed_un ed_int ud_neg) (bd_ixT (ks_last e))) ad_nil)))) (Nat.le_of_ble_eq_true rfl)) (ed_var rfl) (bd_inE (neg := false) (e := ⟨.mem false, e.d⟩) .lst)))) eb) (fun hb => ?_) fun hb => ?_) ⟨rfl, rfl, trivial⟩
          · refine sm_append ha (d := entD e) rfl fun o x rx ho => ?_
            obtain ⟨xs, rfl, hx⟩ := ho
            refine ⟨xs, rfl, ?_, _, rfl, ?_⟩
            · rw [hx.length, List.length_map, List.length_map]
              have h1 := List.length_filter_le (fun e => !bym e (opens D)) ((opens D).take i)
              rw [List.length_take] at h1
              have h2 := Nat.min_le_right i (opens D).length
              have h3 := opens_len D
              omega
            · rw [eT, List.filter_cons, if_pos hb, esD_map, List.map_append, ← esD_map]
              exact hx.snoc rx
          · refine sm_weakP sm_next fun o ho => ?_
            rw [eT, List.filter_cons, if_neg (by rw [hb]; decide), List.filter_nil, List.append_nil]
            exact ho
    · obtain ⟨o, ho, xs, rfl, hx⟩ := ho
      have eL : ((opens D).take (esD (opens D)).length).filter (fun e => !bym e (opens D)) = leastL D := by
        rw [List.take_of_length_le (by rw [List.length_map, List.length_map]; exact Nat.le_refl _)]
        rfl
      rw [eL] at hx
      exact cd_tuple [.ref a] H' _ (.cons (.lst ho (hx.mono sb)) .nil) fun v H2 s2 r2 => ok v H2 (sb.trans s2) r2
end
end SB
namespace SB
open PySem L2
/-- the script stands there -/
def ScOk (K : PySem.W.Frag) (r : Addr) (H : Hp) (g : Addr × List Int) : Prop := (g.1 ≠ r ∧ Rd H g.1 (.lst (g.2.map V.int))) ∨ ∃ (o : Obj) (its : Array Value) (n : Nat), K.lookup g.1 = some o ∧ o.cls = .type "list" ∧ o.dict = none ∧ o.data = .seq its n ∧ its.size ≤ sizeLine ∧ Vals (g.2.map V.int) its.toList
theorem ScOk.sq {K : PySem.W.Frag} {r : Addr} {H : Hp} {g : Addr × List Int} (h : ScOk K r H g) : SqL K H g.1 (g.2.map V.int) := h.elim (fun h => .inl h.2) fun h => .inr h
theorem ScOk.of {K : PySem.W.Frag} {r : Addr} {H : Hp} {g : Addr × List Int} (h : SqL K H g.1 (g.2.map V.int)) (hr : H r = none) : ScOk K r H g := h.elim (fun h => .inl ⟨h.elim (fun h => ne_of_none h hr) fun ⟨_, h⟩ => ne_of_none h hr, h⟩) fun h => .inr h
/-- the law's row of draws stands at r -/
def RowOk (K : PySem.W.Frag) (r : Addr) (g : Addr × List Int) (H : Hp) : Prop := ∃ (pos lcg rest : Int), H r = some (.lst [.ref g.1, .int pos, .int lcg, .int rest]) ∧ True ∧ ScOk K r H g ∧ 0 ≤ pos ∧ 0 ≤ lcg ∧ lcg < 2147483647
theorem ScOk.but {K : PySem.W.Frag} {H H' : Hp} {r : Addr} {g : Addr × List Int} (h : ScOk K r H g) (s : SameB r H H') : ScOk K r H' g :=
  h.elim (fun h => .inl ⟨h.1, h.2.elim (fun k => .inl (s _ _ h.1 k)) fun ⟨o, k⟩ => .inr ⟨o, s _ _ h.1 k⟩⟩) fun h => .inr h
theorem RowOk.same {K : PySem.W.Frag} {r : Addr} {g : Addr × List Int} {H H' : Hp} (h : RowOk K r g H) (s : Same H H') : RowOk K r g H' := by
  obtain ⟨pos, lcg, rest, h1, h2, h3, h4⟩ := h
  exact ⟨pos, lcg, rest, s _ _ h1, h2, ScOk.but h3 (Same.but s), h4⟩
/-- a draw: some number below many; the row alone changes -/
def spTaken (K : PySem.W.Frag) : Sp := fun vs H Q _ => ∃ (r : Addr) (g : Addr × List Int) (many : Int), vs = [.ref r, .int many] ∧ 1 ≤ many ∧ many < 1073741824 ∧ RowOk K r g H ∧ ∀ z H', 0 ≤ z → z < many → RowOk K r g H' → SameB r H H' → Q (.int z) H'
theorem fmod_in {i m : Int} (h : 1 ≤ m) : 0 ≤ i.fmod m ∧ i.fmod m < m := by
  rw [Int.fmod_eq_emod_of_nonneg i (by omega)]
  exact ⟨Int.emod_nonneg _ (by omega), Int.emod_lt_of_pos _ (by omega)⟩
/-! values at a state, nothing changed -/
def EV (te : TE) (σ : L2.St) (H : Hp) (v : V) : Prop := ∀ Q : VK, Q v H → te σ H Q
section
variable {K : PySem.W.Frag} {σ : L2.St} {H : Hp} {ta tb te : TE} {v : V} {i j : Int}
theorem ev_var {n : Nat} (h : σ[n]? = some (some v)) : EV (tVar n) σ H v := fun Q q => ⟨v, h, q⟩
theorem ev_c : EV (tC v) σ H v := fun Q q => q
theorem ev_ix {r : Addr} {xs : List V} (h1 : EV ta σ H (.ref r)) (h2 : EV tb σ H (.int i)) (hs : SqL K H r xs) (ha : atI xs i = some v) : EV (tOp (rIxL K) ta tb) σ H v := fun Q q => h1 _ (h2 _ ⟨r, xs, i, v, rfl, rfl, hs, ha, q⟩)
theorem ev_I0 {g : Int → Int → V} (h1 : EV ta σ H (.int i)) (h2 : EV tb σ H (.int j)) : EV (tOp (rI0 g) ta tb) σ H (g i j) := fun Q q => h1 _ (h2 _ ⟨i, j, rfl, rfl, q⟩)
theorem ev_I {C : Int → Int → Prop} {g : Int → Int → V} (h1 : EV ta σ H (.int i)) (h2 : EV tb σ H (.int j)) (hc : C i j) : EV (tOp (rI C g) ta tb) σ H (g i j) := fun Q q => h1 _ (h2 _ ⟨i, j, rfl, rfl, hc, q⟩)
theorem ev_int (h : EV ta σ H (.int i)) : EV (tCB rInt1 (tCons ta tNil)) σ H (.int i) := fun Q q => h _ (.inl ⟨i, rfl, q⟩)
theorem ev_len {r : Addr} {xs : List V} (h : EV ta σ H (.ref r)) (hs : SqL K H r xs) : EV (tCB (rLenQ K) (tCons ta tNil)) σ H (.int (xs.length : Int)) := fun Q q => h _ ⟨r, xs, rfl, .inl hs, q⟩
theorem st_set {n : Nat} {D : Ends} (h : EV te σ H v) (k : D.nx (σ.set n (some v)) H) : tAsg te (gName n) D σ H := h _ k
theorem st_put {D : Ends} {p : Addr} {xs : List V} {m : Int} {n : Nat} (h : EV te σ H v) (h1 : EV ta σ H (.ref p)) (h2 : EV tb σ H (.int m)) (hp : H p = some (.lst xs)) (hj : ixN xs.length m = some n) (k : D.nx σ (upd H p (.lst (xs.set n v)))) : tAsg te (gSub ta tb rSetL) D σ H :=
  h _ (h1 _ (h2 _ ⟨p, xs, m, n, rfl, rfl, hp, hj, k⟩))
theorem st_putF {D : Ends} {p : Addr} {xs ys : List V} {m : Int} {n : Nat} (h : EV te σ H v) (h1 : EV ta σ H (.ref p)) (h2 : EV tb σ H (.int m)) (hp : H p = some (.lst xs)) (hj : ixN xs.length m = some n) (hy : xs.set n v = ys) (k : ∀ H1, SameB p H H1 → H1 p = some (.lst ys) → D.nx σ H1) : tAsg te (gSub ta tb rSetL) D σ H :=
  st_put h h1 h2 hp hj (k _ (SameB.upd (Same.but (Same.refl H))) (by rw [upd_same, hy]))
theorem st_if {D : Ends} {t u : TS} {b : Bool} (h : EV te σ H (.bl b)) (h1 : b = true → t D σ H) (h2 : b = false → u D σ H) : tIfS (tTest te) t u D σ H := h _ ⟨b, rfl, by
  cases b with
  | true => exact ite_t (h1 rfl)
  | false => exact ite_f (h2 rfl)⟩
theorem st_ret {D : Ends} (h : EV te σ H v) (k : D.rt v H) : tRet te D σ H := h _ k
theorem st_next {D : Ends} (k : D.nx σ H) : tNext D σ H := k
end
section
variable {P : Program} {w : World} {K : PySem.W.Frag} {mg : Str → Option Value} {base : Heap}
theorem sc_law_taken : FnScope ["_law_row", "_law_many", "_law_cell", "_law_found"] ["_law_row", "_law_many"] (defScope s_law_taken) := ⟨rfl, rfl, rfl, by decide +kernel, rfl, by decide +kernel, by decide +kernel⟩
theorem ok_law_taken (D : Df K mg "_law_taken" s_law_taken) (T : Tx K mg)  : OkD P w K mg base 1 "_law_taken" ["_law_row", "_law_many"] (spTaken K) := by
  refine mk_okG D sc_law_taken ?_ (fun _ _ _ _ _ _ us hl => match us, hl with | [_, _], _ => rfl) fun f cdv A outer s H E hr => ⟨_, (pss_cons (ps_if (pt_cmpR op_gt (pe_ix (k_ixL (K := K) rfl) (pv 0) pe_int (fun _ _ => rfl)) pe_int (nomark _)) (pss_cons (ps_set (i := 3) sc_law_taken.nd rfl (.inl rfl) (pe_op op_modN (pe_callTy (c_int) (by rfl) T.int (by decide +kernel) (pa_cons (pe_ix (k_ixL (K := K) rfl) (pv 0) pe_int (fun _ _ => rfl)) pa_nil)) (pv 1)))
      (pss_cons (ps_asg (pe_op op_fdivN (pe_ix (k_ixL (K := K) rfl) (pv 0) pe_int (fun _ _ => rfl)) (pv 1)) (pg_sub (pv 0) pe_int set_list))
      (pss_one (ps_ret (pv 3))))) pss_nil)
      (pss_cons (ps_asg (pe_op op_add (pe_ix (k_ixL (K := K) rfl) (pv 0) pe_int (fun _ _ => rfl)) pe_int) (pg_sub (pv 0) pe_int set_list))
      (pss_cons (ps_if (pt_cmpR op_gt (pe_ix (k_ixL (K := K) rfl) (pv 0) pe_int (fun _ _ => rfl)) (pe_callB (k_len (K := K) rfl) (by rfl) T.len (by decide +kernel) (pa_cons (pe_ix (k_ixL (K := K) rfl) (pv 0) pe_int (fun _ _ => rfl)) pa_nil)) (nomark _)) (pss_cons (ps_asg (pe_op op_modN (pe_callTy (c_int) (by rfl) T.int (by decide +kernel) (pa_cons (pe_op op_add (pe_op op_mul (pe_ix (k_ixL (K := K) rfl) (pv 0) pe_int (fun _ _ => rfl)) pe_int) pe_int) pa_nil)) pe_int) (pg_sub (pv 0) pe_int set_list))
      (pss_one (ps_ret (pe_op op_modN (pe_callTy (c_int) (by rfl) T.int (by decide +kernel) (pa_cons (pe_op op_fdivN (pe_ix (k_ixL (K := K) rfl) (pv 0) pe_int (fun _ _ => rfl)) pe_int) pa_nil)) (pv 1))))) pss_nil)
      (pss_cons (ps_set (i := 2) sc_law_taken.nd rfl (.inl rfl) (pe_ix (k_ixL (K := K) rfl) (pe_ix (k_ixL (K := K) rfl) (pv 0) pe_int (fun _ _ => rfl)) (pe_op op_sub (pe_ix (k_ixL (K := K) rfl) (pv 0) pe_int (fun _ _ => rfl)) pe_int) (fun _ _ => rfl)))
      (pss_cons (ps_asg (pe_op op_modN (pe_callTy (c_int) (by rfl) T.int (by decide +kernel) (pa_cons (pe_op op_add (pe_op op_add (pe_op op_mul (pe_ix (k_ixL (K := K) rfl) (pv 0) pe_int (fun _ _ => rfl)) pe_int) (pv 2)) pe_int) pa_nil)) pe_int) (pg_sub (pv 0) pe_int set_list))
      (pss_cons (ps_if (pt_cmpR op_ge (pv 2) (pe_op op_pow pe_int pe_int) (nomark _)) (pss_one (ps_asg (pe_op op_fdivN (pv 2) (pv 1)) (pg_sub (pv 0) pe_int set_list))) pss_nil)
      (pss_one (ps_ret (pe_op op_modN (pe_callTy (c_int) (by rfl) T.int (by decide +kernel) (pa_cons (pv 2) pa_nil)) (pv 1)))))))))), ?_⟩
  · intro vs H Q E h
    obtain ⟨r, g, many, rfl, _⟩ := h
    rfl
  · intro vs H Q E hsp
    obtain ⟨r, ⟨sc, ns⟩, many, rfl, m1, m2, ⟨pos, lcg, rest, hr0, hne, hsc, p0, l0, l1⟩, q⟩ := hsp
    dsimp only at hr0
    have cdN : ∀ x : Int, CDivN x many := fun x => ⟨by omega, by omega⟩
    have fin : ∀ (H' : Hp) (p' l' r' : Int) (z : Int), H' r = some (.lst [.ref sc, .int p', .int l', .int r']) → SameB r H H' → 0 ≤ p' → 0 ≤ l' → l' < 2147483647 → Q (.int (z.fmod many)) H' := fun H' p' l' r' z h1 s h2 h3 h4 =>
      q _ _ (fmod_in m1).1 (fmod_in m1).2 ⟨p', l', r', h1, hne, ScOk.but hsc s, h2, h3, h4⟩ s
    try dsimp only
    refine seq_step (st_if (b := decide (0 < rest)) (ev_I0 (ev_ix (ev_var rfl) ev_c (SqL.of hr0) rfl) ev_c) (fun c => ?_) fun c => ?_)
    · try dsimp only
      refine seq_step (st_set (ev_I (ev_int (ev_ix (ev_var rfl) ev_c (SqL.of hr0) rfl)) (ev_var rfl) (by omega)) ?_)
      try dsimp only
      refine seq_step (st_put (ev_I (ev_ix (ev_var rfl) ev_c (SqL.of hr0) rfl) (ev_var rfl) (cdN _)) (ev_var rfl) ev_c hr0 rfl ?_)
      try dsimp only
      exact st_ret (ev_var rfl) (fin _ _ _ _ _ upd_same (SameB.upd (Same.but (Same.refl H))) p0 l0 l1)
    · try dsimp only
      refine st_next ?_
      try dsimp only
      refine seq_step (st_putF (ys := [.ref sc, .int (pos + 1), .int lcg, .int rest]) (ev_I0 (ev_ix (ev_var rfl) ev_c (SqL.of hr0) rfl) ev_c) (ev_var rfl) ev_c hr0 rfl rfl fun H1 s1 hr1 => ?_)
      have hs1 := (ScOk.but hsc s1).sq
      have lb : ∀ x : Int, 0 ≤ x.fmod 2147483647 ∧ x.fmod 2147483647 < 2147483647 := fun x => fmod_in (by decide)
      have cm : CMul lcg 48271 := .inl ⟨by omega, by omega⟩
      try dsimp only
      refine seq_step (st_if (b := decide (((ns.map V.int).length : Int) < pos + 1)) (ev_I0 (ev_ix (ev_var rfl) ev_c (SqL.of hr1) rfl) (ev_len (ev_ix (ev_var rfl) ev_c (SqL.of hr1) rfl) hs1)) (fun c2 => ?_) fun c2 => ?_)
      · try dsimp only
        refine seq_step (st_put (ev_I (ev_int (ev_I0 (ev_I (ev_ix (ev_var rfl) ev_c (SqL.of hr1) rfl) ev_c cm) ev_c)) ev_c (by decide)) (ev_var rfl) ev_c hr1 rfl ?_)
        try dsimp only
        refine st_ret (ev_I (ev_int (ev_I (ev_ix (ev_var rfl) ev_c (SqL.of upd_same) rfl) ev_c ⟨by decide, by decide⟩)) (ev_var rfl) (by omega)) ?_
        exact fin _ _ _ _ _ upd_same (SameB.upd s1) (by omega) (lb _).1 (lb _).2
      · have hlen : pos.toNat < ns.length := by
          have := of_decide_eq_false c2
          rw [List.length_map] at this
          omega
        have hat : atI (ns.map V.int) (pos + 1 - 1) = some (.int ns[pos.toNat]) := by
          rw [show pos + 1 - 1 = ((pos.toNat : Nat) : Int) by omega]
          exact atI_nat (at_map (List.getElem?_eq_getElem hlen))
        try dsimp only
        refine st_next ?_
        try dsimp only
        refine seq_step (st_set (ev_ix (ev_ix (ev_var rfl) ev_c (SqL.of hr1) rfl) (ev_I0 (ev_ix (ev_var rfl) ev_c (SqL.of hr1) rfl) ev_c) hs1 hat) ?_)
        try dsimp only
        refine seq_step (st_put (ev_I (ev_int (ev_I0 (ev_I0 (ev_I (ev_ix (ev_var rfl) ev_c (SqL.of hr1) rfl) ev_c cm) (ev_var rfl)) ev_c)) ev_c (by decide)) (ev_var rfl) ev_c hr1 rfl ?_)
        try dsimp only
        refine seq_step (st_if (b := decide ((10 : Int) ^ (18 : Int).toNat ≤ ns[pos.toNat])) (ev_I0 (ev_var rfl) (ev_I ev_c ev_c ⟨by decide, by decide, by decide⟩)) (fun c3 => ?_) fun c3 => ?_)
        · try dsimp only
          refine st_put (ev_I (ev_var rfl) (ev_var rfl) (cdN _)) (ev_var rfl) ev_c upd_same rfl ?_
          try dsimp only
          exact st_ret (ev_I (ev_int (ev_var rfl)) (ev_var rfl) (by omega)) (fin _ _ _ _ _ upd_same (SameB.upd (SameB.upd s1)) (by omega) (lb _).1 (lb _).2)
        · try dsimp only
          refine st_next ?_
          try dsimp only
          exact st_ret (ev_I (ev_int (ev_var rfl)) (ev_var rfl) (by omega)) (fin _ _ _ _ _ upd_same (SameB.upd s1) (by omega) (lb _).1 (lb _).2)
end
end SB
namespace SB
open PySem L2
theorem sort_ex {α : Type} (g : α → Int) (l : List α) (nd : l.Pairwise fun x y => g x ≠ g y) : ∃ m : List α, m.Perm l ∧ m.Pairwise fun x y => g x < g y := by
  refine ⟨l.mergeSort fun x y => decide (g x ≤ g y), List.mergeSort_perm _ _, ?_⟩
  have h1 : (l.mergeSort fun x y => decide (g x ≤ g y)).Pairwise fun x y => (decide (g x ≤ g y)) = true := List.pairwise_mergeSort (fun a b c h1 h2 => decide_eq_true (by
    have := of_decide_eq_true h1
    have := of_decide_eq_true h2
    omega)) (fun a b => by
    by_cases h : g a ≤ g b
    · rw [decide_eq_true h]; rfl
    · rw [decide_eq_true (show g b ≤ g a by omega), Bool.or_true]) l
  have h2 : (l.mergeSort fun x y => decide (g x ≤ g y)).Pairwise fun x y => g x ≠ g y := ((List.mergeSort_perm l _).pairwise_iff (fun h => Ne.symm h)).mpr nd
  exact (List.pairwise_and_iff.mpr ⟨h1, h2⟩).imp fun h => by
    have := of_decide_eq_true h.1
    have := h.2
    omega
/-- an ascending list between bounds is short -/
theorem asc_len {α : Type} (g : α → Int) : ∀ (l : List α) (lo hi : Int), lo ≤ hi → (∀ x ∈ l, lo ≤ g x ∧ g x < hi) → l.Pairwise (fun x y => g x < g y) → (l.length : Int) ≤ hi - lo
  | [], lo, hi, h, _, _ => by
    show (0 : Int) ≤ _
    omega
  | x :: l, lo, hi, h, hb, hp => by
    obtain ⟨p1, p2⟩ := List.pairwise_cons.mp hp
    have hx := hb x (List.mem_cons_self ..)
    have ih := asc_len g l (g x + 1) hi (by omega) (fun y hy => ⟨by have := p1 y hy; omega, (hb y (List.mem_cons_of_mem _ hy)).2⟩) p2
    rw [List.length_cons]
    omega
theorem pth_len {l : List (Int × Int)} (h : ∀ p ∈ l, PthOk p) (a : l.Pairwise fun p q => pthR p < pthR q) : l.length ≤ 1000 := by
  have := asc_len pthR l 0 64 (by decide) (fun p hp => by
    obtain ⟨h1, h2, h3⟩ := h p hp
    unfold pthR
    omega) a
  omega
theorem ent_len {l : List Ent} (h : WtOk l) : l.length ≤ 1000 := by
  have hx : allRu.length = 58 := by decide +kernel
  have := asc_len rkE l 0 1000 (by decide) (fun e he => by
    have h1 := (h.d e he).2
    have h2 : e.r.ix < allRu.length := List.idxOf_lt_length_iff.mpr (mem_allRu e.r)
    rw [hx] at h2
    unfold rkE
    omega) h.asc
  omega
/-! keys of a dict -/
def keysOf {κ : Type} (kvs : List (κ × V)) : List κ := kvs.map (·.1)
theorem keys_put {κ : Type} [DecidableEq κ] (kvs : List (κ × V)) (k : κ) (v : V) : keysOf (putK kvs k v) = if k ∈ keysOf kvs then keysOf kvs else keysOf kvs ++ [k] := by
  unfold putK
  have e : (kvs.any fun kv => decide (kv.1 = k)) = decide (k ∈ keysOf kvs) := by
    unfold keysOf
    induction kvs with
    | nil => rfl
    | cons p r ih =>
      rw [List.any_cons, ih, List.map_cons]
      by_cases h : p.1 = k
      · rw [decide_eq_true h, Bool.true_or, decide_eq_true (by rw [h]; exact List.mem_cons_self ..)]
      · rw [decide_eq_false h, Bool.false_or]
        by_cases h2 : k ∈ r.map (·.1)
        · rw [decide_eq_true h2, decide_eq_true (List.mem_cons_of_mem _ h2)]
        · rw [decide_eq_false h2, decide_eq_false (fun q => by
            rcases List.mem_cons.mp q with q | q
            · exact h q.symm
            · exact h2 q)]
  rw [e]
  by_cases h : k ∈ keysOf kvs
  · rw [if_pos (decide_eq_true h), if_pos h]
    unfold keysOf
    rw [List.map_map]
    refine List.map_congr_left fun kv _ => ?_
    show (if kv.1 = k then (kv.1, v) else kv).1 = kv.1
    split <;> rfl
  · rw [if_neg (by rw [decide_eq_false h]; decide), if_neg h]
    unfold keysOf
    rw [List.map_append]
    rfl
theorem keys_rps {K : PySem.W.Frag} {H H' : Hp} : ∀ {kvs : List (List Key × V)} {bs : List Addr}, IsKeys H kvs bs → Same H H' → Rps K H' (bs.map V.ref) ((keysOf kvs).map tk)
  | _, _, .nil, _ => .nil
  | _, _, .cons h t, s => .cons (rp_tk (s _ _ h)) (keys_rps t s)
theorem cd_listD {K : PySem.W.Frag} {kvs : List (List Key × V)} : CD K rListT [.tab kvs] (.lst ((keysOf kvs).map tk)) := fun vs H Q r k => by
  obtain ⟨v, rfl, rv⟩ := rps1 r
  obtain ⟨a, rfl, ha⟩ := rv.tab_of
  refine ⟨a, kvs, rfl, Rd.of ha, fun p bs hp hk => k _ _ (same_upd hp) (.lst upd_same ?_)⟩
  exact keys_rps hk (same_upd hp)
section
variable {P : Program} {w : World} {K : PySem.W.Frag} {mg : Str → Option Value} {base : Heap}
theorem RowOk.tups {r : Addr} {g : Addr × List Int} {H H' : Hp} (h : RowOk K r g H) (s : SameB r H H') : Tups H H' := fun a xs e => s a _ (fun q => by
  obtain ⟨pos, lcg, rest, h1, _⟩ := h
  rw [q, h1] at e
  cases e) e
/-- the row is no list of tuples -/
theorem RowOk.ne {r a : Addr} {g : Addr × List Int} {H : Hp} {xs : List V} {kss : List (List Key)} (h : RowOk K r g H) (ha : H a = some (.lst xs)) (hx : Rps K H xs (kss.map tk)) : a ≠ r := fun q => by
  obtain ⟨pos, lcg, rest, h1, _⟩ := h
  rw [q, h1] at ha
  cases ha
  cases kss with
  | nil => cases hx
  | cons k l =>
    cases l with
    | nil => cases hx with | cons _ t => cases t
    | cons k2 l =>
      cases hx with
      | cons _ t => cases t with
        | cons z _ => cases z
/-- one of some -/
def spPick (K : PySem.W.Frag) : Sp := fun vs H Q _ => ∃ (r : Addr) (g : Addr × List Int) (x : V) (l : List Ent), vs = [.ref r, x] ∧ RowOk K r g H ∧ Rp K H x (.lst (esD l)) ∧ 1 ≤ l.length ∧ l.length ≤ 1000 ∧ ∀ e v H', e ∈ l → Rp K H' v (entD e) → RowOk K r g H' → SameB r H H' → Q v H'
theorem sc_law_pick : FnScope ["_law_row", "_law_kinds"] ["_law_row", "_law_kinds"] (defScope s_law_pick) := ⟨rfl, rfl, rfl, by decide +kernel, rfl, by decide +kernel, by decide +kernel⟩
theorem ok_law_pick (D : Df K mg "_law_pick" s_law_pick) (T : Tx K mg) (C_law_taken : OkD P w K mg base 1 "_law_taken" ["_law_row", "_law_many"] (spTaken K)) : OkD P w K mg base 2 "_law_pick" ["_law_row", "_law_kinds"] (spPick K) := by
  refine mk_okG D sc_law_pick ?_ (fun _ _ _ _ _ _ us hl => match us, hl with | [_, _], _ => rfl) fun f cdv A outer s H E hr => ⟨_, (pss_one (ps_ret (pe_ix (k_ixL (K := K) rfl) (pv 1) (pe_callD C_law_taken (hr.mono (by decide)) (by rfl) (pa_cons (pv 0) (pa_cons (pe_callB (k_len (K := K) rfl) (by rfl) T.len (by decide +kernel) (pa_cons (pv 1) pa_nil)) pa_nil))) (fun _ _ => rfl)))), ?_⟩
  · intro vs H Q E h
    obtain ⟨r, g, x, l, rfl, _⟩ := h
    rfl
  · intro vs H Q E hsp
    obtain ⟨r, g, x, l, rfl, ro, rx, l1, l2, q⟩ := hsp
    obtain ⟨a, xs, rfl, ha, hx⟩ := rx.lst_of
    have ne : a ≠ r := ro.ne ha hx
    have hl : xs.length = l.length := by rw [hx.length, List.length_map, List.length_map]
    refine ⟨.ref a, rfl, .ref r, rfl, .ref a, rfl, a, xs, rfl, .inl (SqL.of ha), r, g, (xs.length : Int), rfl, by omega, by omega, ro, fun z H' z0 z1 ro' s => ?_⟩
    have hz : z.toNat < l.length := by omega
    have hd : (esD l)[z.toNat]? = some (entD l[z.toNat]) := by
      rw [esD_map]
      exact at_map (List.getElem?_eq_getElem hz)
    obtain ⟨v, h1, h2⟩ := hx.get hd
    refine ⟨a, xs, z, v, rfl, rfl, SqL.of (s _ _ ne ha), ?_, ?_⟩
    · rw [show z = ((z.toNat : Nat) : Int) by omega]
      exact atI_nat h1
    · exact q _ v H' (List.getElem_mem hz) (h2.kept (ro.tups s) _ _ (flat_tk _)) ro' s
/-- a place between two -/
def spUp (K : PySem.W.Frag) : Sp := fun vs H Q _ => ∃ (r : Addr) (g : Addr × List Int) (lo hi : Int), vs = [.ref r, .int lo, .int hi] ∧ lo ≤ hi ∧ RowOk K r g H ∧ ∀ z H', lo ≤ z → z ≤ hi → RowOk K r g H' → SameB r H H' → Q (.int z) H'
theorem sc_law_up : FnScope ["_law_row", "_law_least_here", "_law_most"] ["_law_row", "_law_least_here", "_law_most"] (defScope s_law_up) := ⟨rfl, rfl, rfl, by decide +kernel, rfl, by decide +kernel, by decide +kernel⟩
theorem ok_law_up (D : Df K mg "_law_up" s_law_up) (T : Tx K mg) (C_law_taken : OkD P w K mg base 1 "_law_taken" ["_law_row", "_law_many"] (spTaken K)) : OkD P w K mg base 2 "_law_up" ["_law_row", "_law_least_here", "_law_most"] (spUp K) := by
  refine mk_okG D sc_law_up ?_ (fun _ _ _ _ _ _ us hl => match us, hl with | [_, _, _], _ => rfl) fun f cdv A outer s H E hr => ⟨_, (pss_one (ps_ret (pe_callB (c_min rfl) (by rfl) T.min (by decide +kernel) (pa_cons (pv 2) (pa_cons (pe_op op_add (pv 1) (pe_callD C_law_taken (hr.mono (by decide)) (by rfl) (pa_cons (pv 0) (pa_cons pe_int pa_nil)))) pa_nil))))), ?_⟩
  · intro vs H Q E h
    obtain ⟨r, g, lo, hi, rfl, _⟩ := h
    rfl
  · intro vs H Q E hsp
    obtain ⟨r, g, lo, hi, rfl, lh, ro, q⟩ := hsp
    refine ⟨.int hi, rfl, .int lo, rfl, .ref r, rfl, r, g, 3, rfl, by decide, by decide, ro, fun z H' z0 z1 ro' s => ⟨lo, z, rfl, rfl, ?_⟩⟩
    refine cd_min (K := K) [.int hi, .int (lo + z)] H' _ (.cons (.int _) (.cons (.int _) .nil)) fun v H2 s2 r2 => ?_
    rw [r2.int_of]
    refine q _ H2 ?_ ?_ (ro'.same s2) (s.trans (Same.but s2))
    · split <;> omega
    · split <;> omega
end
end SB
namespace SB
open PySem L2
section
variable {K : PySem.W.Frag} {r p : Addr} {g : Addr × List Int} {σ : L2.St} {H H0 : Hp} {te ta tb tm : TE} {S : Int → Prop} {lo hi m i j : Int}
/-- an int drawn; the row alone changes -/
def DX (K : PySem.W.Frag) (r : Addr) (g : Addr × List Int) (te : TE) (σ : L2.St) (S : Int → Prop) : Prop := ∀ (H : Hp) (Q : VK), RowOk K r g H → (∀ z H', S z → RowOk K r g H' → SameB r H H' → Q (.int z) H') → te σ H Q
def DA (K : PySem.W.Frag) (r : Addr) (g : Addr × List Int) (ta : TA) (σ : L2.St) (S : List Int → Prop) : Prop := ∀ (H : Hp) (Q : List V → Hp → Prop), RowOk K r g H → (∀ zs H', S zs → RowOk K r g H' → SameB r H H' → Q (zs.map V.int) H') → ta σ H Q
theorem dx_taken (h0 : σ[0]? = some (some (.ref r))) (hm : ∀ H, EV tm σ H (.int m)) (m1 : 1 ≤ m) (m2 : m < 1073741824) : DX K r g (tCall (spTaken K) [] E0 (tCons (tVar 0) (tCons tm tNil))) σ fun z => 0 ≤ z ∧ z < m := fun H Q ro k =>
  ⟨.ref r, h0, hm H _ ⟨r, g, m, rfl, m1, m2, ro, fun z H' z0 z1 ro' s => k z H' ⟨z0, z1⟩ ro' s⟩⟩
theorem dx_up (h0 : σ[0]? = some (some (.ref r))) (ha : ∀ H, EV ta σ H (.int lo)) (hb : ∀ H, EV tb σ H (.int hi)) (hl : lo ≤ hi) : DX K r g (tCall (spUp K) [] E0 (tCons (tVar 0) (tCons ta (tCons tb tNil)))) σ fun z => lo ≤ z ∧ z ≤ hi := fun H Q ro k =>
  ⟨.ref r, h0, ha H _ (hb H _ ⟨r, g, lo, hi, rfl, hl, ro, fun z H' z0 z1 ro' s => k z H' ⟨z0, z1⟩ ro' s⟩)⟩
theorem ev_max (ha : EV ta σ H (.int i)) (hb : EV tb σ H (.int j)) : EV (tCB rMax2 (tCons ta (tCons tb tNil))) σ H (.int (if j > i then j else i)) := fun Q q => ha _ (hb _ ⟨i, j, rfl, q⟩)
theorem da_one (h : DX K r g te σ S) : DA K r g (tCons te tNil) σ fun zs => ∃ z, S z ∧ zs = [z] := fun H Q ro k => h H _ ro fun z H' hz ro' s => k [z] H' ⟨z, hz, rfl⟩ ro' s
theorem da_cons {ts : TA} {T : List Int → Prop} (h : ∀ H, EV te σ H (.int i)) (ht : DA K r g ts σ T) : DA K r g (tCons te ts) σ fun zs => ∃ t, T t ∧ zs = i :: t := fun H Q ro k => h H _ (ht H _ ro fun t H' hz ro' s => k (i :: t) H' ⟨t, hz, rfl⟩ ro' s)
/-- a list of rows of places, our own -/
def PlAt (K : PySem.W.Frag) (p : Addr) (rows : List (List Int)) (H : Hp) : Prop := ∃ xs, H p = some (.lst xs) ∧ Rps K H xs (rows.map iD)
theorem flat_ints : ∀ l : List Int, flatDs (l.map Dt.int) = true
  | [] => rfl
  | i :: l => by
    show (true && flatDs (l.map Dt.int)) = true
    rw [flat_ints l]
    rfl
theorem flat_iDs : ∀ rows : List (List Int), flatDs (rows.map iD) = true
  | [] => rfl
  | row :: rows => by
    show (flatDs (row.map Dt.int) && flatDs (rows.map iD)) = true
    rw [flat_ints, flat_iDs rows]
    rfl
theorem rps_ints : ∀ zs : List Int, Rps K H (zs.map V.int) (zs.map Dt.int)
  | [] => .nil
  | z :: zs => .cons (.int z) (rps_ints zs)
structure S7 (K : PySem.W.Frag) (r : Addr) (g : Addr × List Int) (p : Addr) (H0 H : Hp) (rows : List (List Int)) : Prop where
  ro0 : RowOk K r g H0
  ro : RowOk K r g H
  sb : SameB r H0 H
  fr : H0 p = none
  ne : p ≠ r
  pl : PlAt K p rows H
  len : rows.length ≤ 1000
theorem but_none {a : Addr} {H' : Hp} (s : SameB r H H') (ne : a ≠ r) (h : H' a = none) : H a = none := by
  cases q : H a with
  | none => rfl
  | some o => rw [s a o ne q] at h; cases h
theorem RowOk.at {a : Addr} (h : RowOk K r g H) (ha : H a = none) : a ≠ r := fun q => by
  obtain ⟨pos, lcg, rest, h1, _⟩ := h
  rw [q, h1] at ha
  cases ha
/-- an object of our own may change -/
theorem RowOk.upd {a : Addr} {o : HO} (h0 : RowOk K r g H0) (sb : SameB r H0 H) (fr : H0 a = none) (h : RowOk K r g H) (ne : a ≠ r) : RowOk K r g (L2.upd H a o) := by
  obtain ⟨_, _, _, _, h2, h3, _⟩ := h0
  obtain ⟨pos, lcg, rest, h1, _, _, h4⟩ := h
  exact ⟨pos, lcg, rest, by rw [upd_ne (Ne.symm ne)]; exact h1, h2, ScOk.but h3 (fun b u nb e => by rw [upd_ne (ne_of_none e fr)]; exact sb b u nb e), h4⟩
theorem SameB.upd2 {a : Addr} {o : HO} {H' : Hp} (s : SameB r H H') (h : H a = none) : SameB r H (L2.upd H' a o) := fun b u nb e => by
  rw [upd_ne (ne_of_none e h)]
  exact s b u nb e
theorem S7.draw {rows : List (List Int)} {H' : Hp} (h : S7 K r g p H0 H rows) (ro : RowOk K r g H') (s : SameB r H H') : S7 K r g p H0 H' rows := by
  obtain ⟨xs, h1, h2⟩ := h.pl
  exact ⟨h.ro0, ro, h.sb.trans s, h.fr, h.ne, ⟨xs, s _ _ h.ne h1, h2.kept (h.ro.tups s) _ _ (flat_iDs _)⟩, h.len⟩
theorem ds_set {n : Nat} {D : Ends} (h : DX K r g te σ S) (ro : RowOk K r g H) (k : ∀ z H', S z → RowOk K r g H' → SameB r H H' → D.nx (σ.set n (some (.int z))) H') : tAsg te (gName n) D σ H := h H _ ro k
theorem ds_lst {n : Nat} {D : Ends} {ta : TA} {T : List Int → Prop} (h : DA K r g ta σ T) (ro : RowOk K r g H) (hT : ∀ zs, T zs → zs.length ≤ 100) (k : ∀ zs a H', T zs → S7 K r g a H H' [zs] → D.nx (σ.set n (some (.ref a))) H') : tAsg (tLst (tCons (tTup ta) tNil)) (gName n) D σ H := h H _ ro fun zs H' hz ro' s => by
  refine ⟨by rw [List.length_map]; exact sz_of (Nat.le_trans (hT zs hz) (by decide)), fun b hb => ⟨Nat.le_of_ble_eq_true rfl, fun a ha => k zs a _ hz ?_⟩⟩
  have s1 : Same H' (upd H' b (.tup (zs.map V.int))) := same_upd hb
  have s2 := same_upd (o := .lst [.ref b]) ha
  have ha0 : H' a = none := none_of_same s1 ha
  have nea : a ≠ r := ro'.at ha0
  refine ⟨ro, (ro'.same s1).same s2, (s.trans (Same.but s1)).trans (Same.but s2), but_none s nea ha0, nea, ⟨_, upd_same, .cons (.tup (s2 _ _ upd_same) (rps_ints zs)) .nil⟩, Nat.le_of_ble_eq_true rfl⟩
theorem ds_app {D : Ends} {ta : TA} {T : List Int → Prop} {rows : List (List Int)} (h : DA K r g ta σ T) (hp : σ[3]? = some (some (.ref p))) (s7 : S7 K r g p H0 H rows) (hl : rows.length < 900) (hT : ∀ zs, T zs → zs.length ≤ 100) (k : ∀ zs H', T zs → S7 K r g p H0 H' (rows ++ [zs]) → (∀ a o, a ≠ r → a ≠ p → H a = some o → H' a = some o) → D.nx σ H') :
    tDrop (tBM K "list" rAppend (tVar 3) (tCons (tTup ta) tNil)) D σ H := by
  obtain ⟨xs0, g1, g2⟩ := s7.pl
  refine ⟨.ref p, hp, .inl ⟨rfl, xs0, SqL.of g1⟩, h H _ s7.ro fun zs H' hz ro' s => ⟨by rw [List.length_map]; exact sz_of (Nat.le_trans (hT zs hz) (by decide)), fun b hb => ?_⟩⟩
  have s7' := s7.draw ro' s
  have s1 : Same H' (upd H' b (.tup (zs.map V.int))) := same_upd hb
  have nb : b ≠ p := fun q => by
    obtain ⟨xs, h1, h2⟩ := s7'.pl
    rw [q, h1] at hb
    cases hb
  obtain ⟨xs, h1, h2⟩ := s7'.pl
  refine ⟨p, xs, .ref b, rfl, rfl, s1 _ _ h1, ?_, k zs _ hz ?_ ?_⟩
  · rw [h2.length, List.length_map]
    exact sz_lt (by omega)
  · have hp1 : (upd H' b (.tup (zs.map V.int))) p = some (.lst xs) := s1 _ _ h1
    have tu : Tups (upd H' b (.tup (zs.map V.int))) (upd (upd H' b (.tup (zs.map V.int))) p (.lst (xs ++ [.ref b]))) := tups_upd fun ys q => by
      rw [hp1] at q
      cases q
    have rb : Rp K (upd H' b (.tup (zs.map V.int))) (.ref b) (iD zs) := .tup upd_same (rps_ints zs)
    refine ⟨s7.ro0, RowOk.upd s7.ro0 (s7'.sb.trans (Same.but s1)) s7.fr (ro'.same s1) s7.ne, SameB.upd2 (s7'.sb.trans (Same.but s1)) s7.fr, s7.fr, s7.ne, ⟨_, upd_same, ?_⟩, by rw [List.length_append]; exact Nat.le_trans (Nat.succ_le_of_lt hl) (by decide)⟩
    · rw [List.map_append]
      exact ((h2.mono s1).kept tu _ _ (flat_iDs _)).snoc (rb.kept tu _ _ (by show flatDs (zs.map Dt.int) = true; exact flat_ints zs))
  · intro a o na np ha
    rw [upd_ne np]
    exact s1 _ _ (s a o na ha)
end
end SB
namespace SB
open PySem L2
section
variable {K : PySem.W.Frag} {r p : Addr} {g : Addr × List Int} {H H0 : Hp} {te ta tb tm : TE} {S : Int → Prop} {lo hi m i j : Int}
/-- for over a list of texts, written there -/
theorem for_lit {ss : List Str} {n : Nat} {D : Ends} {σ : L2.St} {tl : TE} {tbd : TS} (htl : ∀ R : VK, (∀ q, H q = none → R (.ref q) (upd H q (.lst (ss.map V.str)))) → tl σ H R) (I : Addr → Nat → L2.St → Hp → Prop) (h0 : ∀ q, H q = none → I q 0 σ (upd H q (.lst (ss.map V.str))))
    (hq : ∀ q i σ' H', I q i σ' H' → H' q = some (.lst (ss.map V.str))) (hs : ∀ q i x σ' H' (N : L2.St → Hp → Prop), ss[i]? = some x → I q i σ' H' → (∀ σ2 H2, I q (i + 1) σ2 H2 → N σ2 H2) → tbd { D with nx := N, ct := N, bk := D.nx } (σ'.set n (some (.str x))) H')
    (hk : ∀ q σ' H', I q ss.length σ' H' → D.nx σ' H') : tFor (iList K tl) (gName n) tbd D σ H := htl _ fun q hq0 => by
  refine ⟨q, rfl, ⟨_, SqL.of upd_same⟩, fun i m σ' H' => m = ss.length - i ∧ i ≤ ss.length ∧ I q i σ' H', ⟨ss.length, by simp, Nat.zero_le _, h0 q hq0⟩, ?_⟩
  rintro i m σ' H' ⟨rfl, hi, hI⟩
  have hl := hq q i σ' H' hI
  by_cases hlt : i < ss.length
  · refine .inr ⟨⟨ss.map V.str, (ss.map V.str)[i]'(by rw [List.length_map]; exact hlt), SqL.of hl, List.getElem?_eq_getElem _⟩, fun σ2 H2 => I q (i + 1) σ2 H2, fun σ2 H2 z => ⟨ss.length - (i + 1), by omega, rfl, hlt, z⟩, fun x H2 y => ?_⟩
    obtain ⟨e, y⟩ := y
    subst e
    have hx := y _ (SqL.of hl)
    rw [List.getElem?_map] at hx
    cases z : ss[i]? with
    | none => rw [z] at hx; cases hx
    | some s =>
      rw [z] at hx
      cases hx
      exact hs q i s σ' H2 _ z hI fun σ2 H3 h => h
  · have e : i = ss.length := by omega
    subst e
    exact .inl ⟨⟨_, SqL.of hl, by rw [List.length_map]; exact Nat.le_refl _⟩, hk q σ' H' hI⟩
/-- for so many times as drawn -/
theorem for_draw {n : Nat} {D : Ends} {σ : L2.St} {tbd : TS} (hx : DX K r g te σ fun z => 0 ≤ z ∧ z < m) (hm : m ≤ 1000) (ro : RowOk K r g H) (I : Nat → L2.St → Hp → Prop) (h0 : ∀ H1, RowOk K r g H1 → SameB r H H1 → I 0 σ H1)
    (hs : ∀ (i : Nat) σ' H' (N : L2.St → Hp → Prop), (i : Int) < m → I i σ' H' → (∀ σ2 H2, I (i + 1) σ2 H2 → N σ2 H2) → tbd { D with nx := N, ct := N, bk := D.nx } (σ'.set n (some (.int (0 + (i : Int))))) H')
    (hk : ∀ (i : Nat) σ' H', (i : Int) < m → I i σ' H' → D.nx σ' H') : tFor (iRng1 (tCons te tNil)) (gName n) tbd D σ H := hx H _ ro fun z H1 hz ro1 s1 => by
  obtain ⟨z0, z1⟩ := hz
  refine ⟨z, rfl, by omega, by omega, fun i m' σ' H' => m' = z.toNat - i ∧ i ≤ z.toNat ∧ I i σ' H', ⟨z.toNat, by simp, Nat.zero_le _, h0 H1 ro1 s1⟩, ?_⟩
  rintro i m' σ' H' ⟨rfl, hi, hI⟩
  by_cases hlt : i < z.toNat
  · refine .inr ⟨hlt, fun σ2 H2 => I (i + 1) σ2 H2, fun σ2 H2 z' => ⟨z.toNat - (i + 1), by omega, rfl, hlt, z'⟩, fun x H2 y => ?_⟩
    obtain ⟨e, ex⟩ := y
    subst e ex
    exact hs i σ' H2 _ (by omega) hI fun σ2 H3 h => h
  · have e : i = z.toNat := by omega
    subst e
    exact .inl ⟨Nat.le_refl _, hk _ σ' H' (by omega) hI⟩
end
section
variable {K : PySem.W.Frag} {r p a : Addr} {g : Addr × List Int} {σ : L2.St} {H H0 : Hp} {te ta tb : TE} {S : Int → Prop} {i : Int}
theorem da_dx {ts : TA} {T : List Int → Prop} (h : DX K r g te σ S) (ht : DA K r g ts σ T) : DA K r g (tCons te ts) σ fun zs => ∃ z t, S z ∧ T t ∧ zs = z :: t := fun H Q ro k => h H _ ro fun z H1 hz ro1 s1 => ht H1 _ ro1 fun t H2 hT ro2 s2 => k (z :: t) H2 ⟨z, t, hz, hT, rfl⟩ ro2 (s1.trans s2)
theorem dx_ev (h : ∀ H, EV te σ H (.int i)) : DX K r g te σ fun z => z = i := fun H Q ro k => h H _ (k i H rfl ro (Same.but (Same.refl H)))
theorem dx_addE (ha : ∀ H, EV ta σ H (.int i)) (hb : DX K r g tb σ S) : DX K r g (tOp (rI0 fun i j => .int (i + j)) ta tb) σ fun z => ∃ y, S y ∧ z = i + y := fun H Q ro k => ha H _ (hb H _ ro fun y H' hy ro' s => ⟨i, y, rfl, rfl, k (i + y) H' ⟨y, hy, rfl⟩ ro' s⟩)
theorem ds_par {m n : Nat} {D : Ends} {t u : TE} {S T : Int → Prop} (h1 : DX K r g t σ S) (h2 : DX K r g u σ T) (ro : RowOk K r g H) (k : ∀ x y H', S x → T y → RowOk K r g H' → SameB r H H' → D.nx ((σ.set m (some (.int x))).set n (some (.int y))) H') : tPar m n (tCons t (tCons u tNil)) D σ H :=
  h1 H _ ro fun x H1 hx ro1 s1 => h2 H1 _ ro1 fun y H2 hy ro2 s2 => ⟨_, _, rfl, k x y H2 hx hy ro2 (s1.trans s2)⟩
theorem S7.upd {rows : List (List Int)} {o : HO} (h : S7 K r g p H0 H rows) (fr : H0 a = none) (ne : a ≠ r) (np : a ≠ p) (ho : ∀ xs, H a ≠ some (.tup xs)) : S7 K r g p H0 (L2.upd H a o) rows := by
  obtain ⟨xs, h1, h2⟩ := h.pl
  exact ⟨h.ro0, RowOk.upd h.ro0 h.sb fr h.ro ne, SameB.upd2 h.sb fr, h.fr, h.ne, ⟨xs, by rw [upd_ne (Ne.symm np)]; exact h1, h2.kept (tups_upd ho) _ _ (flat_iDs _)⟩, h.len⟩
end
/-- a row of used, made, written -/
def Tri (rd : Int) (t : List Int) : Prop := ∃ u md w : Int, t = [u, md, w] ∧ 0 ≤ rd ∧ rd ≤ u ∧ u ≤ md ∧ md < w ∧ w ≤ 7
/-- a design: any good one without waits -/
def spDesign (K : PySem.W.Frag) : Sp := fun vs H Q _ => ∃ (r : Addr) (g : Addr × List Int), vs = [.ref r] ∧ RowOk K r g H ∧ ∀ (D : Des) v H', DesOk D → D.waits = [] → Rp K H' v (desD D) → RowOk K r g H' → SameB r H H' → Q v H'
/-- the dict of paths -/
def PthAt (a : Addr) (H : Hp) (n : Nat) : Prop := ∃ (kvs : List (List Key × V)) (l : List (Int × Int)), H a = some (.dT kvs) ∧ keysOf kvs = l.map pthK ∧ l.Nodup ∧ (∀ q ∈ l, PthOk q) ∧ kvs.length ≤ n
def pthRk : List Key → Int
  | [.inl a, .inl b] => a * 8 + b
  | _ => 0
theorem pthR_inj {a b : Int × Int} (ha : PthOk a) (hb : PthOk b) (h : pthR a = pthR b) : a = b := by
  obtain ⟨x, y⟩ := a
  obtain ⟨z, w⟩ := b
  obtain ⟨h1, h2, h3⟩ := ha
  obtain ⟨h4, h5, h6⟩ := hb
  unfold pthR at h
  simp only at h h1 h2 h3 h4 h5 h6
  have e1 : x = z := by omega
  have e2 : y = w := by omega
  rw [e1, e2]
theorem pth_sorted {l : List (Int × Int)} (nd : l.Nodup) (ok : ∀ q ∈ l, PthOk q) : ∃ m : List (Int × Int), m.Perm l ∧ m.Pairwise fun x y => pthR x < pthR y :=
  sort_ex pthR l (List.Pairwise.imp_of_mem (fun ha hb ne h => ne (pthR_inj (ok _ ha) (ok _ hb) h)) nd)
theorem cd_sortP {K : PySem.W.Frag} {l m : List (Int × Int)} (ok : ∀ q ∈ l, PthOk q) (hp : m.Perm l) (ho : m.Pairwise fun x y => pthR x < pthR y) : CD K rSortQ [.lst ((l.map pthK).map tk)] (.lst (psD m)) := by
  refine cd_sort (kss := l.map pthK) (out := m.map pthK) (f := true) pthRk ?_ ?_ (hp.map _) (List.pairwise_map.mpr ho)
  · intro ks h
    obtain ⟨q, _, rfl⟩ := List.mem_map.mp h
    exact pth_first q
  · intro k hk k2 hk2
    obtain ⟨q, hq, rfl⟩ := List.mem_map.mp hk
    obtain ⟨q2, hq2, rfl⟩ := List.mem_map.mp hk2
    exact ltO_pth (ok q hq) (ok q2 hq2)
theorem PthAt.put {a : Addr} {H H' : Hp} {n : Nat} {q : Int × Int} (h : PthAt a H n) (hq : PthOk q) : ∃ kvs, H a = some (.dT kvs) ∧ kvs.length ≤ n ∧ PthAt a (upd H' a (.dT (putK kvs (pthK q) (.bl true)))) (n + 1) := by
  obtain ⟨kvs, l, h1, h2, h3, h4, h5⟩ := h
  refine ⟨kvs, h1, h5, _, if q ∈ l then l else l ++ [q], upd_same, ?_, ?_, ?_, Nat.le_trans (putK_len _ _ _) (by omega)⟩
  · rw [keys_put, h2]
    have e : (pthK q ∈ l.map pthK) ↔ q ∈ l := by
      constructor
      · intro z
        obtain ⟨q', z1, z2⟩ := List.mem_map.mp z
        rw [← pth_inj z2]
        exact z1
      · exact fun z => List.mem_map.mpr ⟨q, z, rfl⟩
    by_cases c : q ∈ l
    · rw [if_pos c, if_pos (e.mpr c)]
    · rw [if_neg c, if_neg (fun z => c (e.mp z)), List.map_append]
      rfl
  · by_cases c : q ∈ l
    · rw [if_pos c]; exact h3
    · rw [if_neg c]
      exact List.nodup_append.mpr ⟨h3, by simp, fun x hx y hy => by
        rw [List.mem_singleton] at hy
        intro z
        rw [← hy, ← z] at c
        exact c hx⟩
  · by_cases c : q ∈ l
    · rw [if_pos c]; exact h4
    · rw [if_neg c]
      intro x hx
      rcases List.mem_append.mp hx with hx | hx
      · exact h4 x hx
      · rw [List.mem_singleton] at hx
        rw [hx]
        exact hq
theorem tc_step {v : V} {σ : L2.St} {H : Hp} {Q : VK} (h : Q v H) : tC v σ H Q := h
theorem PthAt.keep {a r : Addr} {H H' : Hp} {n : Nat} (h : PthAt a H n) (s : ∀ o, a ≠ r → H a = some o → H' a = some o) (ne : a ≠ r) : PthAt a H' n := by
  obtain ⟨kvs, l, h1, h2⟩ := h
  exact ⟨kvs, l, s _ ne h1, h2⟩
section
variable {P : Program} {w : World} {K : PySem.W.Frag} {mg : Str → Option Value} {base : Heap}
theorem sc_law_design : FnScope ["_law_row", "_law_read", "_law_made", "_law_places_here", "_law_kind", "_law_used", "_law_paths", "_law_turn", "_law_one", "_law_other", "_law_to"] ["_law_row"] (defScope s_law_design) := ⟨rfl, rfl, rfl, by decide +kernel, rfl, by decide +kernel, by decide +kernel⟩
theorem ok_law_design (D : Df K mg "_law_design" s_law_design) (T : Tx K mg) (C_law_taken : OkD P w K mg base 1 "_law_taken" ["_law_row", "_law_many"] (spTaken K)) (C_law_up : OkD P w K mg base 2 "_law_up" ["_law_row", "_law_least_here", "_law_most"] (spUp K)) : OkD P w K mg base 3 "_law_design" ["_law_row"] (spDesign K) := by
  refine mk_okG D sc_law_design ?_ (fun _ _ _ _ _ _ us hl => match us, hl with | [_], _ => rfl) fun f cdv A outer s H E hr => ⟨_, (pss_cons (ps_set (i := 1) sc_law_design.nd rfl (.inl rfl) (pe_callD C_law_taken (hr.mono (by decide)) (by rfl) (pa_cons (pv 0) (pa_cons pe_int pa_nil))))
      (pss_cons (ps_set (i := 2) sc_law_design.nd rfl (.inl rfl) (pe_callD C_law_taken (hr.mono (by decide)) (by rfl) (pa_cons (pv 0) (pa_cons pe_int pa_nil))))
      (pss_cons (ps_set (i := 3) sc_law_design.nd rfl (.inl rfl) (pe_lst (pa_cons (pe_tup (pa_cons (pv 2) (pa_cons (pe_callD C_law_up (hr.mono (by decide)) (by rfl) (pa_cons (pv 0) (pa_cons (pe_op op_add (pe_callB (c_max rfl) (by rfl) T.max (by decide +kernel) (pa_cons (pv 2) (pa_cons (pv 1) pa_nil))) pe_int) (pa_cons pe_int pa_nil)))) pa_nil))) pa_nil)))
      (pss_cons (ps_for PassesOwn.never rfl (k_piL (K := K) rfl (pe_lst (pa_cons pe_str (pa_cons pe_str (pa_cons pe_str pa_nil))))) (pg_name (i := 4) sc_law_design.nd rfl (.inl rfl)) (pss_cons (ps_set (i := 5) sc_law_design.nd rfl (.inl rfl) (pe_callD C_law_up (hr.mono (by decide)) (by rfl) (pa_cons (pv 0) (pa_cons (pv 1) (pa_cons pe_int pa_nil)))))
      (pss_cons (ps_set (i := 2) sc_law_design.nd rfl (.inl rfl) (pe_callD C_law_up (hr.mono (by decide)) (by rfl) (pa_cons (pv 0) (pa_cons (pv 5) (pa_cons pe_int pa_nil)))))
      (pss_one (ps_expr (k_bm (K := K) rfl PySem.F.plainAttrs_list PySem.F.slot_list_append PySem.F.type_list_append mt_append (pv 3) (pa_cons (pe_tup (pa_cons (pv 5) (pa_cons (pv 2) (pa_cons (pe_callD C_law_up (hr.mono (by decide)) (by rfl) (pa_cons (pv 0) (pa_cons (pe_op op_add (pv 2) pe_int) (pa_cons pe_int pa_nil)))) pa_nil)))) pa_nil)))))))
      (pss_cons (ps_par (i := 8) (j := 9) rfl sc_law_design.nd rfl rfl (by decide) rfl rfl (pa_cons (pe_callD C_law_up (hr.mono (by decide)) (by rfl) (pa_cons (pv 0) (pa_cons (pv 1) (pa_cons pe_int pa_nil)))) (pa_cons (pe_callD C_law_up (hr.mono (by decide)) (by rfl) (pa_cons (pv 0) (pa_cons (pv 1) (pa_cons pe_int pa_nil)))) pa_nil)) (by rfl))
      (pss_cons (ps_expr (k_bm (K := K) rfl PySem.F.plainAttrs_list PySem.F.slot_list_append PySem.F.type_list_append mt_append (pv 3) (pa_cons (pe_tup (pa_cons (pv 8) (pa_cons (pv 9) (pa_cons (pe_callD C_law_up (hr.mono (by decide)) (by rfl) (pa_cons (pv 0) (pa_cons (pe_op op_add (pe_callB (c_max rfl) (by rfl) T.max (by decide +kernel) (pa_cons (pv 8) (pa_cons (pv 9) pa_nil))) pe_int) (pa_cons pe_int pa_nil)))) pa_nil)))) pa_nil)))
      (pss_cons (ps_set (i := 5) sc_law_design.nd rfl (.inl rfl) (pe_callD C_law_up (hr.mono (by decide)) (by rfl) (pa_cons (pv 0) (pa_cons (pv 1) (pa_cons pe_int pa_nil)))))
      (pss_cons (ps_expr (k_bm (K := K) rfl PySem.F.plainAttrs_list PySem.F.slot_list_append PySem.F.type_list_append mt_append (pv 3) (pa_cons (pe_tup (pa_cons (pv 5) (pa_cons (pe_callD C_law_up (hr.mono (by decide)) (by rfl) (pa_cons (pv 0) (pa_cons (pv 5) (pa_cons pe_int pa_nil)))) pa_nil))) pa_nil)))
      (pss_cons (ps_expr (k_bm (K := K) rfl PySem.F.plainAttrs_list PySem.F.slot_list_append PySem.F.type_list_append mt_append (pv 3) (pa_cons (pe_tup (pa_cons (pe_callD C_law_taken (hr.mono (by decide)) (by rfl) (pa_cons (pv 0) (pa_cons pe_int pa_nil))) pa_nil)) pa_nil)))
      (pss_cons (ps_set (i := 5) sc_law_design.nd rfl (.inl rfl) (pe_callD C_law_up (hr.mono (by decide)) (by rfl) (pa_cons (pv 0) (pa_cons (pv 1) (pa_cons pe_int pa_nil)))))
      (pss_cons (ps_expr (k_bm (K := K) rfl PySem.F.plainAttrs_list PySem.F.slot_list_append PySem.F.type_list_append mt_append (pv 3) (pa_cons (pe_tup (pa_cons (pv 5) (pa_cons (pe_callD C_law_up (hr.mono (by decide)) (by rfl) (pa_cons (pv 0) (pa_cons (pv 5) (pa_cons pe_int pa_nil)))) pa_nil))) pa_nil)))
      (pss_cons (ps_set (i := 6) sc_law_design.nd rfl (.inl rfl) pe_dnewT)
      (pss_cons (ps_for PassesOwn.never rfl (pi_range1 (by rfl) T.range (pa_cons (pe_callD C_law_taken (hr.mono (by decide)) (by rfl) (pa_cons (pv 0) (pa_cons pe_int pa_nil))) pa_nil)) (pg_name (i := 7) sc_law_design.nd rfl (.inl rfl)) (pss_cons (ps_set (i := 10) sc_law_design.nd rfl (.inl rfl) (pe_callD C_law_taken (hr.mono (by decide)) (by rfl) (pa_cons (pv 0) (pa_cons pe_int pa_nil))))
      (pss_one (ps_dput (hu1 hr) (pv 6) (pe_tup (pa_cons (pe_op op_add (pe_op op_add (pv 10) pe_int) (pe_callD C_law_taken (hr.mono (by decide)) (by rfl) (pa_cons (pv 0) (pa_cons (pe_op op_sub pe_int (pv 10)) pa_nil)))) (pa_cons (pv 10) pa_nil))) pe_bl rfl))))
      (pss_one (ps_ret (pe_tup (pa_cons (pv 1) (pa_cons (pe_cmpR op_eq (pe_callD C_law_taken (hr.mono (by decide)) (by rfl) (pa_cons (pv 0) (pa_cons pe_int pa_nil))) pe_int (nomark _)) (pa_cons (pe_callTy (k_tuple (K := K) rfl) (by rfl) T.tuple (by decide +kernel) (pa_cons (pv 3) pa_nil)) (pa_cons (pe_callTy (k_tuple (K := K) rfl) (by rfl) T.tuple (by decide +kernel) (pa_cons (pe_callB c_sortQ (by rfl) T.sorted (by decide +kernel) (pa_cons (pe_callTy (c_listT rfl) (by rfl) T.list (by decide +kernel) (pa_cons (pv 6) pa_nil)) pa_nil)) pa_nil)) (pa_cons (pe_tup pa_nil) pa_nil))))))))))))))))))))), ?_⟩
  · intro vs H Q E h
    obtain ⟨r, g, rfl, _⟩ := h
    rfl
  · intro vs H Q E hsp
    obtain ⟨r, g, rfl, ro, fin⟩ := hsp
    refine seq_step (ds_set (dx_taken rfl (fun _ => ev_c) (by decide) (by decide)) ro fun rd H1 hrd ro1 s1 => ?_)
    try dsimp only
    refine seq_step (ds_set (dx_taken rfl (fun _ => ev_c) (by decide) (by decide)) ro1 fun md H2 hmd ro2 s2 => ?_)
    try dsimp only
    refine seq_step (ds_lst (da_cons (fun _ => ev_var rfl) (da_one (dx_up rfl (fun _ => ev_I0 (ev_max (ev_var rfl) (ev_var rfl)) ev_c) (fun _ => ev_c) (by split <;> omega)))) ro2 (fun zs hz => ?_) fun zs p H3 hz s7 => ?_)
    · obtain ⟨_, ⟨_, _, rfl⟩, rfl⟩ := hz
      exact Nat.le_of_ble_eq_true rfl
    obtain ⟨_, ⟨wr, hwr, rfl⟩, rfl⟩ := hz
    try dsimp only
    refine seq_step (for_lit (ss := ["sum", "mul", "load"]) (fun R hR => ⟨Nat.le_of_ble_eq_true rfl, hR⟩) (fun q i σ' H' => ∃ (o2 o4 o5 : Option V) (l : List (List Int)), σ' = [some (.ref r), some (.int rd), o2, some (.ref p), o4, o5, none, none, none, none, none] ∧ l.length = i ∧ (∀ t ∈ l, Tri rd t) ∧ S7 K r g p H2 H' ([md, wr] :: l) ∧ H' q = some (.lst ((["sum", "mul", "load"] : List Str).map V.str)) ∧ q ≠ r ∧ q ≠ p)
      (fun q hq => ⟨_, _, _, [], rfl, rfl, (fun t ht => by cases ht), s7.draw (s7.ro.same (same_upd hq)) (Same.but (same_upd hq)), upd_same, s7.ro.at hq, fun z => by
        obtain ⟨xs, h1, _⟩ := s7.pl
        rw [z, h1] at hq
        cases hq⟩)
      (fun q i σ' H' h => by
        obtain ⟨_, _, _, _, _, _, _, _, h, _⟩ := h
        exact h) (fun q i x σ' H' N hx hI hN => ?_) fun q σ' H' hI => ?_)
    · obtain ⟨o2, o4, o5, l, rfl, hl, ht, s7', hq, qr, qp⟩ := hI
      have hi : i < 3 := (List.getElem?_eq_some_iff.mp hx).1
      refine seq_step (ds_set (dx_up rfl (fun _ => ev_var rfl) (fun _ => ev_c) (by omega)) s7'.ro fun us H4 hus ro4 s4 => ?_)
      have t4 := s7'.draw ro4 s4
      have q4 := s4 q _ qr hq
      try dsimp only
      refine seq_step (ds_set (dx_up rfl (fun _ => ev_var rfl) (fun _ => ev_c) (by omega)) ro4 fun ma H5 hma ro5 s5 => ?_)
      have t5 := t4.draw ro5 s5
      have q5 := s5 q _ qr q4
      try dsimp only
      refine ds_app (da_cons (fun _ => ev_var rfl) (da_cons (fun _ => ev_var rfl) (da_one (dx_up rfl (fun _ => ev_I0 (ev_var rfl) ev_c) (fun _ => ev_c) (by omega))))) rfl t5 (by rw [List.length_cons]; omega) (fun zs hz => ?_) fun zs H6 hz t6 k6 => ?_
      · obtain ⟨_, ⟨_, ⟨_, _, rfl⟩, rfl⟩, rfl⟩ := hz
        exact Nat.le_of_ble_eq_true rfl
      · obtain ⟨_, ⟨_, ⟨wv, hwv, rfl⟩, rfl⟩, rfl⟩ := hz
        refine hN _ _ ⟨_, _, _, l ++ [[us, ma, wv]], rfl, by rw [List.length_append, hl]; rfl, fun t h => ?_, t6, k6 q _ qr qp q5, qr, qp⟩
        rcases List.mem_append.mp h with h | h
        · exact ht t h
        · rw [List.mem_singleton] at h
          exact ⟨us, ma, wv, h, by omega, by omega, by omega, by omega, by omega⟩
    obtain ⟨o2, o4, o5, l, rfl, hl, ht, s7', hq, qr, qp⟩ := hI
    have hl3 : l.length = 3 := hl
    have hr4 : ([md, wr] :: l).length = 4 := by rw [List.length_cons, hl3]
    generalize hrows : [md, wr] :: l = rows at *
    clear hq qr qp
    try dsimp only
    refine seq_step (ds_par (dx_up rfl (fun _ => ev_var rfl) (fun _ => ev_c) (by omega)) (dx_up rfl (fun _ => ev_var rfl) (fun _ => ev_c) (by omega)) s7'.ro fun on ot H4 hon hot ro4 s4 => ?_)
    have t4 := s7'.draw ro4 s4
    try dsimp only
    refine seq_step (ds_app (da_cons (fun _ => ev_var rfl) (da_cons (fun _ => ev_var rfl) (da_one (dx_up rfl (fun _ => ev_I0 (ev_max (ev_var rfl) (ev_var rfl)) ev_c) (fun _ => ev_c) (by split <;> omega))))) rfl t4 (by omega) (fun zs hz => ?_) fun zs H5 hz t5 _ => ?_)
    · obtain ⟨_, ⟨_, ⟨_, _, rfl⟩, rfl⟩, rfl⟩ := hz
      exact Nat.le_of_ble_eq_true rfl
    obtain ⟨_, ⟨_, ⟨pt, hpt, rfl⟩, rfl⟩, rfl⟩ := hz
    try dsimp only
    refine seq_step (ds_set (dx_up rfl (fun _ => ev_var rfl) (fun _ => ev_c) (by omega)) t5.ro fun zu H6 hzu ro6 s6 => ?_)
    have t6 := t5.draw ro6 s6
    try dsimp only
    refine seq_step (ds_app (da_cons (fun _ => ev_var rfl) (da_one (dx_up rfl (fun _ => ev_var rfl) (fun _ => ev_c) (by omega)))) rfl t6 (by rw [List.length_append]; show rows.length + 1 < 900; omega) (fun zs hz => ?_) fun zs H7 hz t7 _ => ?_)
    · obtain ⟨_, ⟨_, _, rfl⟩, rfl⟩ := hz
      exact Nat.le_of_ble_eq_true rfl
    obtain ⟨_, ⟨zd, hzd, rfl⟩, rfl⟩ := hz
    try dsimp only
    refine seq_step (ds_app (da_one (dx_taken rfl (fun _ => ev_c) (by decide) (by decide))) rfl t7 (by rw [List.length_append, List.length_append]; show rows.length + 1 + 1 < 900; omega) (fun zs hz => ?_) fun zs H8 hz t8 _ => ?_)
    · obtain ⟨_, _, rfl⟩ := hz
      exact Nat.le_of_ble_eq_true rfl
    obtain ⟨gd, hgd, rfl⟩ := hz
    try dsimp only
    refine seq_step (ds_set (dx_up rfl (fun _ => ev_var rfl) (fun _ => ev_c) (by omega)) t8.ro fun ou H9 hou ro9 s9 => ?_)
    have t9 := t8.draw ro9 s9
    try dsimp only
    refine seq_step (ds_app (da_cons (fun _ => ev_var rfl) (da_one (dx_up rfl (fun _ => ev_var rfl) (fun _ => ev_c) (by omega)))) rfl t9 (by rw [List.length_append, List.length_append, List.length_append]; show rows.length + 1 + 1 + 1 < 900; omega) (fun zs hz => ?_) fun zs H10 hz t10 _ => ?_)
    · obtain ⟨_, ⟨_, _, rfl⟩, rfl⟩ := hz
      exact Nat.le_of_ble_eq_true rfl
    obtain ⟨_, ⟨os, hos, rfl⟩, rfl⟩ := hz
    try dsimp only
    refine seq_step (dnew_step fun a ha => ?_)
    have ar : a ≠ r := t10.ro.at ha
    have ap : a ≠ p := fun z => by
      obtain ⟨xs, h1, _⟩ := t10.pl
      rw [z, h1] at ha
      cases ha
    have a0 : H2 a = none := but_none t10.sb ar ha
    have t11 := t10.draw (t10.ro.same (same_upd (o := .dT []) ha)) (Same.but (same_upd (o := .dT []) ha))
    have p11 : PthAt a (upd H10 a (.dT [])) 0 := ⟨[], [], upd_same, rfl, List.nodup_nil, (fun z hz => by cases hz), Nat.le_refl _⟩
    generalize upd H10 a (.dT []) = H11 at *
    try dsimp only
    refine seq_step (for_draw (m := 10) (dx_taken rfl (fun _ => ev_c) (by decide) (by decide)) (by decide) t11.ro (fun i σ' H' => ∃ o7 o10 : Option V, σ' = [some (.ref r), some (.int rd), o2, some (.ref p), o4, some (.int ou), some (.ref a), o7, some (.int on), some (.int ot), o10] ∧ S7 K r g p H2 H' (rows ++ [[on, ot, pt]] ++ [[zu, zd]] ++ [[gd]] ++ [[ou, os]]) ∧ PthAt a H' i)
      (fun H12 ro12 s12 => ⟨_, _, rfl, t11.draw ro12 s12, p11.keep (s12 a) ar⟩) (fun i σ' H' N hi hI hN => ?_) fun n σ' H' hn hI => ?_)
    · obtain ⟨o7, o10, rfl, tI, pI⟩ := hI
      refine seq_step (ds_set (dx_taken rfl (fun _ => ev_c) (by decide) (by decide)) tI.ro fun to H13 hto ro13 s13 => ?_)
      have t13 := tI.draw ro13 s13
      have p13 := pI.keep (s13 a) ar
      try dsimp only
      refine ⟨.ref a, rfl, (da_dx (dx_addE (fun _ => ev_I0 (ev_var rfl) ev_c) (dx_taken (m := 7 - to) rfl (fun _ => ev_I0 ev_c (ev_var rfl)) (by omega) (by omega))) (da_one (dx_ev fun _ => ev_var rfl))) H13 _ ro13 fun zs H14 hz ro14 s14 => ?_⟩
      obtain ⟨x, _, ⟨y, hy, hx⟩, ⟨t2, rfl, rfl⟩, rfl⟩ := hz
      refine ⟨Nat.le_of_ble_eq_true rfl, fun b hb => ?_⟩
      have s15 : Same H14 (upd H14 b (.tup (([x, t2] : List Int).map V.int))) := same_upd hb
      have t15 := (t13.draw ro14 s14).draw (ro14.same s15) (Same.but s15)
      have p15 := (p13.keep (s14 a) ar).keep (fun o _ e => s15 a o e) ar
      have hq : PthOk (x, t2) := ⟨hto.1, by show t2 < x; omega, by show x ≤ 7; omega⟩
      obtain ⟨kvs, k1, k2, k3⟩ := p15.put (H' := upd H14 b (.tup (([x, t2] : List Int).map V.int))) hq
      refine ⟨a, _, rfl, DPut.t (k := pthK (x, t2)) k1 (show (upd H14 b (.tup (([x, t2] : List Int).map V.int))) b = _ from upd_same) (sz_lt (by omega)), hN _ _ ⟨_, _, rfl, t15.upd a0 ar ap (fun xs z => by
        rw [k1] at z
        cases z), k3⟩⟩
    · obtain ⟨o7, o10, rfl, tI, kvs, lp, g1, g2, g3, g4, g5⟩ := hI
      obtain ⟨lm, m1, m2⟩ := pth_sorted g3 g4
      have okm : ∀ x ∈ lm, PthOk x := fun x hx => g4 x (m1.mem_iff.mp hx)
      try dsimp only
      refine ret_step (te := tTup _) ⟨_, rfl, (dx_taken rfl (fun _ => ev_c) (by decide) (by decide)) H' _ tI.ro fun z H12 hz ro12 s12 => tc_step (bd_eqI (K := K) _ _ H12 _ (.int z) (.int 0) fun vb H13 s13 rb => ?_)⟩
      have t12 := tI.draw ro12 s12
      have t13 := t12.draw (ro12.same s13) (Same.but s13)
      have g13 : H13 a = some (.dT kvs) := s13 _ _ (s12 a _ ar g1)
      obtain ⟨xs, hp1, hp2⟩ := t13.pl
      have ev : EnvD K H13 [some (.ref r), some (.int rd), o2, some (.ref p), o4, some (.int ou), some (.ref a), o7, some (.int on), some (.int ot), o10] [none, none, none, some (.lst ((rows ++ [[on, ot, pt]] ++ [[zu, zd]] ++ [[gd]] ++ [[ou, os]]).map iD)), none, none, some (.tab kvs), none, none, none, none] := ⟨rfl, fun i d h => by
        match i with
        | 0 => cases h
        | 1 => cases h
        | 2 => cases h
        | 3 =>
          cases h
          exact ⟨_, rfl, .lst hp1 hp2⟩
        | 4 => cases h
        | 5 => cases h
        | 6 =>
          cases h
          exact ⟨_, rfl, .tab g13⟩
        | 7 => cases h
        | 8 => cases h
        | 9 => cases h
        | 10 => cases h
        | i + 11 => cases h⟩
      have had : AD K (tCons (tCB (rTupQ K) (tCons (tVar 3) tNil)) (tCons (tCB (rTupQ K) (tCons (tCB rSortQ (tCons (tCB rListT (tCons (tVar 6) tNil)) tNil)) tNil)) (tCons (tTup tNil) tNil))) [none, none, none, some (.lst ((rows ++ [[on, ot, pt]] ++ [[zu, zd]] ++ [[gd]] ++ [[ou, os]]).map iD)), none, none, some (.tab kvs), none, none, none, none] [.tup ((rows ++ [[on, ot, pt]] ++ [[zu, zd]] ++ [[gd]] ++ [[ou, os]]).map iD), .tup (psD lm), .tup []] :=
        ad_cons (ed_cb (ad_cons (ed_var rfl) ad_nil) cd_tuple) (ad_cons (ed_cb (ad_cons (ed_cb (ad_cons (ed_is (ed_cb (ad_cons (ed_var rfl) ad_nil) cd_listD) (by rw [g2])) ad_nil) (cd_sortP g4 m1 m2)) ad_nil) cd_tuple) (ad_cons (ed_tup ad_nil (by decide)) ad_nil))
      refine had _ H13 _ ev fun vs H14 s14 r14 => ⟨?_, fun dd hdd => ?_⟩
      · rw [List.length_cons, List.length_cons, r14.length]
        exact Nat.le_of_ble_eq_true rfl
      subst hrows
      obtain ⟨t1, t2, t3, rfl⟩ : ∃ t1 t2 t3, l = [t1, t2, t3] := by
        match l, hl3 with
        | [a, b, c], _ => exact ⟨a, b, c, rfl⟩
      obtain ⟨u1, a1, w1, rfl, h11, h12, h13, h14, h15⟩ := ht t1 (by simp)
      obtain ⟨u2, a2, w2, rfl, h21, h22, h23, h24, h25⟩ := ht t2 (by simp)
      obtain ⟨u3, a3, w3, rfl, h31, h32, h33, h34, h35⟩ := ht t3 (by simp)
      have se : Same H14 (upd H14 dd (.tup (.int rd :: vb :: vs))) := same_upd hdd
      have wmx : md < wr ∧ rd < wr := by
        have := hwr.1
        split at this <;> omega
      have pmx : on < pt ∧ ot < pt := by
        have := hpt.1
        split at this <;> omega
      refine fin ⟨rd, decide (z = 0), ⟨md, wr, u1, a1, w1, u2, a2, w2, u3, a3, w3, on, ot, pt, zu, zd, gd, ou, os⟩, lm, []⟩ _ _ ⟨⟨by show 0 ≤ rd; omega, by show rd ≤ 7; omega⟩, ?_, okm, m2, ⟨(fun e he => by cases he), List.Pairwise.nil⟩⟩ rfl (.tup upd_same (.cons (.int _) (.cons ?_ (r14.mono se)))) ((ro12.same s13).same s14 |>.same se) (((((s1.trans s2).trans tI.sb).trans s12).trans (Same.but s13)).trans (Same.but s14) |>.trans (Same.but se))
      · refine ⟨?_, ⟨wmx.2, wmx.1⟩, ⟨hzu.1, hzd.1⟩, ⟨hou.1, hos.1⟩, ⟨h12, h13, h14⟩, ⟨h22, h23, h24⟩, ⟨h32, h33, h34⟩, ⟨hon.1, pmx.1⟩, ⟨hot.1, pmx.2⟩⟩
        intro row hr x hx
        simp only [Pl.rows, List.mem_cons, List.not_mem_nil, or_false] at hr
        rcases hr with rfl | rfl | rfl | rfl | rfl | rfl | rfl | rfl <;> simp only [List.mem_cons, List.not_mem_nil, or_false] at hx <;> omega
      · exact (rb.mono s14).mono se
end
end SB
/-! dict(l), l a list of pairs (a tuple of ints and texts, True) -/
namespace SB
open PySem PySem.Spec PyProof.Rows L2
def putAll (acc : List (List Key × V)) (kss : List (List Key)) : List (List Key × V) := kss.foldl (fun acc k => putK acc k (.bl true)) acc
def pairD (ks : List Key) : Dt := .tup [tk ks, .bl true]
def rDictT (K : PySem.W.Frag) : List V → Hp → VK → Prop := fun xs H Q => ∃ (x : V) (kss : List (List Key)), xs = [x] ∧ Rp K H x (.lst (kss.map pairD)) ∧ kss.length ≤ 1000 ∧ ∀ p, H p = none → Q (.ref p) (upd H p (.dT (putAll [] kss)))
theorem putAll_len (kss : List (List Key)) : ∀ acc : List (List Key × V), (putAll acc kss).length ≤ acc.length + kss.length := by
  induction kss with
  | nil => exact fun acc => Nat.le_refl _
  | cons k kss ih =>
    intro acc
    refine Nat.le_trans (ih (putK acc k (.bl true))) ?_
    have : (putK acc k (V.bl true)).length ≤ acc.length + 1 := by
      unfold putK
      split
      · rw [List.length_map]; omega
      · rw [List.length_append]; exact Nat.le_refl _
    rw [List.length_cons]
    omega
section
variable {X : Cx} {pins : List (Addr × Obj)} {σ : L2.St} {H : Hp} {s : Shared}
/-- what stands at the addresses -/
structure PairK (X : Cx) (H : Hp) (s : Shared) (t : Addr) (ks : List Key) (x : List Key × Addr × Value) : Prop where
  k : x.1 = ks
  v : x.2.2 = Value.bool true
  at_ : PairAt s.heap t (.ref x.2.1) x.2.2
  is : (tupleKind (mixKind X.prog X.w)).is s.heap x.1 x.2.1
  h : H x.2.1 = some (.tup (ks.map kV))
theorem pairs_there (I : Inv X pins σ H s) : ∀ {kss : List (List Key)} {vs : List V}, Rps X.K H vs (kss.map pairD) → ∃ (ts : List Addr) (ps : List (List Key × Addr × Value)), vs = ts.map V.ref ∧ ts.length = kss.length ∧ ps.length = kss.length ∧
    ∀ (j : Nat) (t : Addr) (ks : List Key) (x : List Key × Addr × Value), ts[j]? = some t → kss[j]? = some ks → ps[j]? = some x → PairK X H s t ks x
  | [], _, r => by
    cases r
    exact ⟨[], [], rfl, rfl, rfl, fun j t ks x e => by simp at e⟩
  | ks :: kss, _, r => by
    cases r with
    | cons r1 r2 =>
      obtain ⟨ts, ps, rfl, h1, h2, h3⟩ := pairs_there I r2
      obtain ⟨t, xs, rfl, ht, hx⟩ := (show Rp X.K H _ (.tup [tk ks, .bl true]) from r1).tup_of
      obtain ⟨v1, v2, rfl, r3, r4⟩ := rps2 hx
      obtain ⟨b, rfl, hb⟩ := r3.tk_of
      obtain rfl := r4.bl_of
      obtain ⟨its, rv, hI, _⟩ := I.tuple (SqT.of ht)
      have ei : its = [Value.ref b, Value.bool true] := by
        cases rv with
        | cons z1 z2 => cases z2 with
          | cons z3 z4 => cases z4; rw [show _ = Value.ref b from z1, show _ = Value.bool true from z3]
      subst ei
      refine ⟨t :: ts, (ks, b, .bool true) :: ps, rfl, by rw [List.length_cons, List.length_cons, h1], by rw [List.length_cons, List.length_cons, h2], fun j t' ks' x e1 e2 e3 => ?_⟩
      cases j with
      | zero =>
        cases e1
        cases e2
        cases e3
        obtain ⟨o, ho, hc, n, hd⟩ := hI
        exact ⟨rfl, rfl, .inl ⟨o, ho, hc, n, hd⟩, key_of I.hok hb, hb⟩
      | succ j => exact h3 j t' ks' x (by simpa using e1) (by simpa using e2) (by simpa using e3)
theorem kt_all {H : Hp} : ∀ {kss : List (List Key)} {ps : List (List Key × Addr × Value)} {acc : List (List Key × V)} {xs : List (List Key × Addr × Value)}, ps.length = kss.length →
    (∀ (j : Nat) (ks : List Key) (x : List Key × Addr × Value), kss[j]? = some ks → ps[j]? = some x → x.1 = ks ∧ x.2.2 = Value.bool true ∧ H x.2.1 = some (.tup (ks.map kV))) → KT H acc xs → KT H (putAll acc kss) (storedAllH xs ps)
  | [], [], _, _, _, _, r => r
  | [], _ :: _, _, _, e, _, _ => by simp at e
  | _ :: _, [], _, _, e, _, _ => by simp at e
  | ks :: kss, x :: ps, acc, xs, e, h, r => by
    obtain ⟨h1, h2, h3⟩ := h 0 ks x rfl rfl
    have z := KT.put r ks h3 (y := .bl true) (u := x.2.2) h2
    rw [← h1] at z
    have := kt_all (kss := kss) (ps := ps) (by simpa using e) (fun j ks' x' e1 e2 => h (j + 1) ks' x' (by simpa using e1) (by simpa using e2)) z
    show KT H (putAll (putK acc ks (.bl true)) kss) (storedAllH (storedH xs x.1 x.2.1 x.2.2) ps)
    rw [h1] at this ⊢
    exact this
theorem c_dictX (hcalm : X.calm = true) (hu : X.A.units + 65 < cLine) : CallR X (.type "dict") (rDictT X.K) := by
  intro pins s σ H xs us Q I r q
  obtain ⟨x, kss, rfl, rx, hl, q⟩ := q
  obtain ⟨a, vs, rfl, ha, hv⟩ := rx.lst_of
  obtain ⟨u, eu, rx⟩ := vals1 r
  subst eu
  cases rx
  obtain ⟨ts, ps, rfl, h1, h2, h3⟩ := pairs_there I hv
  obtain ⟨its, rv, pl, hz⟩ := I.list (SqL.of ha)
  have ei := refs_at rv
  subst ei
  have at_ : ∀ (j : Nat) (x : List Key × Addr × Value), ps[j]? = some x → ∃ t ks, ts[j]? = some t ∧ kss[j]? = some ks ∧ PairK X H s t ks x := fun j x e => by
    have hj : j < ps.length := (List.getElem?_eq_some_iff.mp e).1
    exact ⟨ts[j], kss[j], List.getElem?_eq_getElem (by omega), List.getElem?_eq_getElem (by omega), h3 j _ _ x (List.getElem?_eq_getElem (by omega)) (List.getElem?_eq_getElem (by omega)) e⟩
  have PA := PairArg.list (prog := X.prog) (w := X.w) a (ts.map Value.ref).toArray (fun j => (ts[j]?).getD 0) (ps.map fun x => (Value.ref x.2.1, x.2.2))
  refine call_dict_pairsH (knd := tupleKind (mixKind X.prog X.w)) (ps := ps) PA (I.ok.hd hcalm) (show X.A.units + 1 + 1 < cLine by omega) ⟨pl, by simp [h1, h2], fun j k v e => ?_⟩ ⟨by rw [List.length_map], fun i key v e => ?_⟩ (fun h' hk x hx => ?_) (by rw [List.length_map, h2]; exact sz_of (by omega)) fun h' tk hd' hk => ?_
  · rw [List.getElem?_map] at e
    cases z : ps[j]? with
    | none => rw [z] at e; cases e
    | some x =>
      rw [z] at e
      cases e
      obtain ⟨t, ks, e1, e2, pk⟩ := at_ j x z
      refine ⟨by simp [e1], ?_⟩
      show PairAt s.heap ((ts[j]?).getD 0) _ _
      rw [e1]
      exact pk.at_
  · have e : (ps.map fun x => (Value.ref x.2.1, x.2.2))[i]? = some (key, v) := e
    rw [List.getElem?_map] at e
    cases z : ps[i]? with
    | none => rw [z] at e; cases e
    | some x =>
      rw [z] at e
      cases e
      exact ⟨x.1, x.2.1, rfl, rfl⟩
  · obtain ⟨j, hj, e⟩ := List.getElem_of_mem hx
    obtain ⟨t, ks, e1, e2, pk⟩ := at_ j x (List.getElem?_eq_some_iff.mpr ⟨hj, e⟩)
    have I2 := pk.is
    obtain ⟨o, its, n, g1, g2, g3, g4⟩ := I2
    exact ⟨o, its, n, hk _ _ (Nat.ne_of_lt (Heap.lt_size g1)) (fun z => nomatch z) g1, g2, g3, g4⟩
  · have hm : (s.heap.objs.size == sysModules) = false := beq_eq_false_iff_ne.mpr (Nat.ne_of_gt I.big)
    have hf := I.hok.fresh (Nat.le_refl s.heap.objs.size)
    have hlen : (putAll [] kss).length ≤ sizeLine := Nat.le_trans (putAll_len kss []) (by rw [List.length_nil, Nat.zero_add]; exact sz_of (by omega))
    obtain ⟨o, es, ep, g1, g2, g3, g4, _, g5⟩ := hd'
    have kt : KT H (putAll [] kss) (storedAllH [] ps) := kt_all h2 (fun j ks x e1 e2 => by
      obtain ⟨t, ks', e3, e4, pk⟩ := at_ j x e2
      rw [e1] at e4
      cases e4
      exact ⟨pk.k, pk.v, pk.h⟩) .nil
    exact ⟨.ref s.heap.objs.size, upd H s.heap.objs.size (.dT (putAll [] kss)), I.laid (t' := tk) (fun b o e => hk b o (fun z => nomatch z) e) (Nat.le_refl _) (show ObjOk X.prog X.w _ _ _ (.dT (putAll [] kss)) from ⟨hlen, hm, _, kt.keeps fun b ys e => by rw [upd_ne (ne_of_none e hf)]; exact e, o, es, ep, g1, g2, g3, g4, g5⟩), rfl, q _ hf⟩
theorem c_dictT {K : PySem.W.Frag} (h : X.K = K) (hcalm : X.calm = true) (hu : X.A.units + 65 < cLine) : CallR X (.type "dict") (rDictT K) := by subst h; exact c_dictX hcalm hu
end
end SB
namespace SB
open PySem L2
def EntK (kvs : List (List Key × V)) (n : Nat) : Prop := ∃ l : List Ent, keysOf kvs = l.map Ent.ks ∧ l.Nodup ∧ (∀ e ∈ l, dOk e) ∧ kvs.length ≤ n
theorem EntK.put {kvs : List (List Key × V)} {n : Nat} {e : Ent} (h : EntK kvs n) (he : dOk e) : EntK (putK kvs e.ks (.bl true)) (n + 1) := by
  obtain ⟨l, h2, h3, h4, h5⟩ := h
  refine ⟨if e ∈ l then l else l ++ [e], ?_, ?_, ?_, Nat.le_trans (putK_len _ _ _) (by omega)⟩
  · rw [keys_put, h2]
    have ei : (e.ks ∈ l.map Ent.ks) ↔ e ∈ l := by
      constructor
      · intro z
        obtain ⟨q', z1, z2⟩ := List.mem_map.mp z
        rw [← ks_inj z2]
        exact z1
      · exact fun z => List.mem_map.mpr ⟨e, z, rfl⟩
    by_cases c : e ∈ l
    · rw [if_pos c, if_pos (ei.mpr c)]
    · rw [if_neg c, if_neg (fun z => c (ei.mp z)), List.map_append]
      rfl
  · by_cases c : e ∈ l
    · rw [if_pos c]; exact h3
    · rw [if_neg c]
      exact List.nodup_append.mpr ⟨h3, by simp, fun x hx y hy => by
        rw [List.mem_singleton] at hy
        intro z
        rw [← hy, ← z] at c
        exact c hx⟩
  · by_cases c : e ∈ l
    · rw [if_pos c]; exact h4
    · rw [if_neg c]
      intro x hx
      rcases List.mem_append.mp hx with hx | hx
      · exact h4 x hx
      · rw [List.mem_singleton] at hx
        rw [hx]
        exact he
theorem EntK.all : ∀ {l : List Ent} {kvs : List (List Key × V)} {n : Nat}, EntK kvs n → (∀ e ∈ l, dOk e) → EntK (putAll kvs (l.map Ent.ks)) (n + l.length)
  | [], _, _, h, _ => h
  | e :: l, kvs, n, h, ho => by
    have := EntK.all (l := l) (h.put (ho e (List.mem_cons_self ..))) fun f hf => ho f (List.mem_cons_of_mem _ hf)
    rw [List.length_cons, show n + (l.length + 1) = n + 1 + l.length by omega]
    exact this
theorem ent_sorted {l : List Ent} (nd : l.Nodup) (ok : ∀ e ∈ l, dOk e) : ∃ m : List Ent, m.Perm l ∧ WtOk m := by
  obtain ⟨m, m1, m2⟩ := sort_ex rkE l (List.Pairwise.imp_of_mem (fun ha hb ne h => ne (rk_inj (ok _ ha) (ok _ hb) h)) nd)
  exact ⟨m, m1, fun e he => ok e (m1.mem_iff.mp he), m2⟩
theorem cd_sortE {K : PySem.W.Frag} {l m : List Ent} (ok : ∀ e ∈ l, dOk e) (hp : m.Perm l) (ho : WtOk m) : CD K rSortQ [.lst (esD l)] (.lst (esD m)) := by
  refine cd_sort (kss := l.map Ent.ks) (out := m.map Ent.ks) (f := false) rkK ?_ ?_ (hp.map _) ?_
  · intro ks h
    obtain ⟨q, _, rfl⟩ := List.mem_map.mp h
    exact ks_first q
  · intro k hk k2 hk2
    obtain ⟨q, hq, rfl⟩ := List.mem_map.mp hk
    obtain ⟨q2, hq2, rfl⟩ := List.mem_map.mp hk2
    exact ltO_rk (ok q hq) (ok q2 hq2)
  · rw [List.pairwise_map]
    exact ho.asc.imp_of_mem fun ha hb h => by rw [rkK_of (ho.d _ ha), rkK_of (ho.d _ hb)]; exact h
/-- more waits: any good ones -/
def spMore (K : PySem.W.Frag) : Sp := fun vs H Q _ => ∃ (r : Addr) (g : Addr × List Int) (x : V) (l : List Ent), vs = [.ref r, x, .int 9] ∧ RowOk K r g H ∧ Rp K H x (.lst (esD l)) ∧ (∀ e ∈ l, dOk e) ∧ l.length ≤ 1000 ∧ ∀ (m : List Ent) v H', WtOk m → Rp K H' v (.tup (esD m)) → RowOk K r g H' → SameB r H H' → Q v H'
/-- a list of entries outside the row is kept -/
theorem lst_but {K : PySem.W.Frag} {r : Addr} {g : Addr × List Int} {H H' : Hp} {v : V} {l : List Ent} (ro : RowOk K r g H) (s : SameB r H H') (h : Rp K H v (.lst (esD l))) : Rp K H' v (.lst (esD l)) := by
  obtain ⟨a, xs, rfl, ha, hx⟩ := h.lst_of
  exact .lst (s _ _ (ro.ne ha hx) ha) (hx.kept (ro.tups s) _ _ (fl_es _))
theorem cb_step {f : List V → Hp → VK → Prop} {te : TE} {n : Nat} {D : Ends} {σ : L2.St} {H : Hp} (h : te σ H fun x H1 => f [x] H1 fun v H2 => D.nx (σ.set n (some v)) H2) : tAsg (tCB f (tCons te tNil)) (gName n) D σ H := h
section
variable {P : Program} {w : World} {K : PySem.W.Frag} {mg : Str → Option Value} {base : Heap}
theorem sc_law_more : FnScope ["_law_row", "_law_waits", "_law_many", "_law_every", "_law_found", "_law_turn", "_law_entry"] ["_law_row", "_law_waits", "_law_many"] (defScope s_law_more) := ⟨rfl, rfl, rfl, by decide +kernel, rfl, by decide +kernel, by decide +kernel⟩
theorem ok_law_more (D : Df K mg "_law_more" s_law_more) (T : Tx K mg) (C_law_entries : OkD P w K mg base 1 "_law_entries" [] (spD K R_law_entries)) (C_law_pick : OkD P w K mg base 2 "_law_pick" ["_law_row", "_law_kinds"] (spPick K)) (C_law_taken : OkD P w K mg base 1 "_law_taken" ["_law_row", "_law_many"] (spTaken K)) : OkD P w K mg base 3 "_law_more" ["_law_row", "_law_waits", "_law_many"] (spMore K) := by
  refine mk_okG D sc_law_more ?_ (fun _ _ _ _ _ _ us hl => match us, hl with | [_, _, _], _ => rfl) fun f cdv A outer s H E hr => ⟨_, (pss_cons (ps_set (i := 3) sc_law_more.nd rfl (.inl rfl) (pe_callD0 C_law_entries (hr.mono (by decide)) (by rfl)))
      (pss_cons (ps_set (i := 4) sc_law_more.nd rfl (.inl rfl) (pe_callTy (c_dictT (K := K) rfl rfl (hu65 hr)) (by rfl) T.dict (by decide +kernel) (pa_cons (by exact pe_lc (own := [("_law_entry", 6)]) (g := (gName 6)) (by rfl) sc_law_more.nd (k_piL (K := K) rfl (pv 1)) (blkOk_by (own := [("_law_entry", 6)]) (N := ["_law_row", "_law_waits", "_law_many", "_law_every", "_law_found", "_law_turn", "_law_entry"]) (sc := defScope s_law_more) (by decide +kernel)) (fun _ _ _ _ _ => (pg_name (i := 6) sc_law_more.nd rfl (.inl rfl))) (fun _ _ _ _ _ => pts_nil) (fun _ _ _ _ _ => (pe_tup (pa_cons (pv 6) (pa_cons pe_bl pa_nil))))) pa_nil)))
      (pss_cons (ps_for PassesOwn.never rfl (pi_range1 (by rfl) T.range (pa_cons (pe_callD C_law_taken (hr.mono (by decide)) (by rfl) (pa_cons (pv 0) (pa_cons (pe_op op_add (pv 2) pe_int) pa_nil))) pa_nil)) (pg_name (i := 5) sc_law_more.nd rfl (.inl rfl)) (pss_one (ps_dput (hu1 hr) (pv 4) (pe_callD C_law_pick (hr.mono (by decide)) (by rfl) (pa_cons (pv 0) (pa_cons (pv 3) pa_nil))) pe_bl rfl)))
      (pss_one (ps_ret (pe_callTy (k_tuple (K := K) rfl) (by rfl) T.tuple (by decide +kernel) (pa_cons (pe_callB c_sortQ (by rfl) T.sorted (by decide +kernel) (pa_cons (pe_callTy (c_listT rfl) (by rfl) T.list (by decide +kernel) (pa_cons (pv 4) pa_nil)) pa_nil)) pa_nil))))))), ?_⟩
  · intro vs H Q E h
    obtain ⟨r, g, x, l, rfl, _⟩ := h
    rfl
  · intro vs H Q E hsp
    obtain ⟨r, g, x, l, rfl, ro, rx, hok, hl, fin⟩ := hsp
    have ev0 : EnvD K H [some (.ref r), some x, some (.int 9), none, none, none, none] [none, some (.lst (esD l)), none, none, none, none, none] := ⟨rfl, fun i d h => by
      match i with
      | 0 => cases h
      | 1 =>
        cases h
        exact ⟨_, rfl, rx⟩
      | 2 => cases h
      | 3 => cases h
      | 4 => cases h
      | 5 => cases h
      | 6 => cases h
      | i + 7 => cases h⟩
    have hE : ED K (tCall (spD K R_law_entries) [] E0 tNil) [none, some (.lst (esD l)), none, none, none, none, none] (.lst (esD ENTS)) := ed_call (E := E0) ad_nil (PD.of ⟨rfl, rfl⟩)
    refine seq_step (hE _ H _ ev0 fun ve H1 s1 re => ?_)
    have ro1 := ro.same s1
    have ev1 : EnvD K H1 [some (.ref r), some x, some (.int 9), some ve, none, none, none] [none, some (.lst (esD l)), none, none, none, none, none] := ⟨rfl, fun i d h => by
      match i with
      | 0 => cases h
      | 1 =>
        cases h
        exact ⟨_, rfl, rx.mono s1⟩
      | 2 => cases h
      | 3 => cases h
      | 4 => cases h
      | 5 => cases h
      | 6 => cases h
      | i + 7 => cases h⟩
    have e1 : (esD l).map (fun d => Dt.tup [d, .bl true]) = (l.map Ent.ks).map pairD := List.map_map
    have hC : ED K (tLc (iList K (tVar 1)) (gName 6) tYes (tTup (tCons (tVar 6) (tCons (tC (.bl true)) tNil))) [6]) [none, some (.lst (esD l)), none, none, none, none, none] (.lst ((l.map Ent.ks).map pairD)) :=
      ed_is (ed_lc1 (ds := esD l) (vs := [6]) (id_list (ed_var rfl)) (by rw [List.length_map, List.length_map]; omega) (fun d => [none, some (.lst (esD l)), none, none, none, none, some d]) (fun d => .tup [d, .bl true]) (fun d _ => gd_name (by decide)) (fun d _ => ed_tup (ad_cons (ed_var rfl) (ad_cons ed_bl ad_nil)) (Nat.le_of_ble_eq_true rfl)) (fun d hd => by
        rw [esD_map] at hd
        obtain ⟨e, _, rfl⟩ := List.mem_map.mp hd
        show (flatD (entD e) && (true && true)) = true
        rw [flat_tk]
        rfl)) (congrArg Dt.lst e1)
    try dsimp only
    refine seq_step (cb_step (hC _ H1 _ ev1 fun vc H2 s2 rc => ⟨vc, l.map Ent.ks, rfl, rc, by rw [List.length_map]; omega, fun a ha => ?_⟩))
    have ro2 := ro1.same s2
    have ar := ro2.at ha
    have re2 := re.mono s2
    try dsimp only
    refine seq_step (for_draw (n := 5) (m := 9 + 1) (dx_taken rfl (fun _ => ev_I0 (ev_var rfl) ev_c) (by decide) (by decide)) (by decide) (ro2.same (same_upd ha)) (fun i σ' H' => ∃ (o5 : Option V) (kvs : List (List Key × V)), σ' = [some (.ref r), some x, some (.int 9), some ve, some (.ref a), o5, none] ∧ RowOk K r g H' ∧ SameB r H2 H' ∧ H' a = some (.dT kvs) ∧ EntK kvs (1000 + i))
      (fun H3 ro3 s3 => ⟨none, _, rfl, ro3, (Same.but (same_upd ha)).trans s3, s3 a _ ar upd_same, ?_⟩) (fun i σ' H' N hi hI hN => ?_) fun n σ' H' hn hI => ?_)
    · obtain ⟨l', z1, z2, z3, z4⟩ := EntK.all (l := l) (kvs := []) (n := 0) ⟨[], rfl, List.nodup_nil, (fun e he => by cases he), Nat.le_refl _⟩ hok
      exact ⟨l', z1, z2, z3, by omega⟩
    · obtain ⟨o5, kvs, rfl, roI, sI, hI, kI⟩ := hI
      refine ⟨.ref a, rfl, .ref r, rfl, ve, rfl, r, g, ve, ENTS, rfl, roI, lst_but ro2 sI re2, by rw [ents_len]; decide, by rw [ents_len]; decide, fun e v H4 he rv ro4 s4 => ?_⟩
      obtain ⟨b, rfl, hb⟩ := rv.tk_of
      have h4 := s4 a _ ar hI
      obtain ⟨_, _, _, _, hlen⟩ := id kI
      have fr : H2 a = none := ha
      exact ⟨a, _, rfl, DPut.t (k := e.ks) h4 hb (sz_lt (by omega)), hN _ _ ⟨_, _, rfl, RowOk.upd ro2 (sI.trans s4) fr ro4 ar, SameB.upd2 (sI.trans s4) fr, upd_same, kI.put (ents_ok e he)⟩⟩
    · obtain ⟨o5, kvs, rfl, roI, sI, hI, l', z1, z2, z3, z4⟩ := hI
      obtain ⟨m, m1, m2⟩ := ent_sorted z2 z3
      have ev : EnvD K H' [some (.ref r), some x, some (.int 9), some ve, some (.ref a), o5, none] [none, none, none, none, some (.tab kvs), none, none] := ⟨rfl, fun i d h => by
        match i with
        | 0 => cases h
        | 1 => cases h
        | 2 => cases h
        | 3 => cases h
        | 4 =>
          cases h
          exact ⟨_, rfl, .tab hI⟩
        | 5 => cases h
        | 6 => cases h
        | i + 7 => cases h⟩
      try dsimp only
      have hR : ED K (tCB (rTupQ K) (tCons (tCB rSortQ (tCons (tCB rListT (tCons (tVar 4) tNil)) tNil)) tNil)) [none, none, none, none, some (.tab kvs), none, none] (.tup (esD m)) := ed_cb (ad_cons (ed_cb (ad_cons (ed_is (ed_cb (ad_cons (ed_var rfl) ad_nil) cd_listD) (by rw [z1])) ad_nil) (cd_sortE z3 m1 m2)) ad_nil) cd_tuple
      exact ret_step (hR _ H' _ ev fun v H5 s5 r5 => fin m v H5 m2 r5 (roI.same s5) ((((Same.but s1).trans (Same.but s2)).trans sI).trans (Same.but s5)))
end
end SB
/-! plain: what is open, missing, least -/
namespace SB
open PySem L2
def Des.with (D : Des) (w : List Ent) : Des := { D with waits := w }
theorem opn_with (D : Des) (w : List Ent) (e : Ent) : opn (D.with w) e = opn D e := rfl
theorem opens_with (D : Des) (w : List Ent) : opens (D.with w) = opens D := rfl
theorem mem_opens {D : Des} {e : Ent} : e ∈ opens D ↔ dOk e ∧ opn D e = true := by
  unfold opens
  rw [List.mem_filter]
  exact ⟨fun h => ⟨ents_ok e h.1, h.2⟩, fun h => ⟨mem_ents h.1, h.2⟩⟩
theorem kin_opens {D : Des} {e : Ent} (h : dOk e) : kin e.ks ((opens D).map Ent.ks) = opn D e := by
  cases q : opn D e with
  | true => exact kin_ks.mpr (mem_opens.mpr ⟨h, q⟩)
  | false =>
    refine Bool.eq_false_iff.mpr fun z => ?_
    have := (mem_opens.mp (kin_ks.mp z)).2
    rw [q] at this
    cases this
theorem bym_iff {e : Ent} {l : List Ent} : bym e l = true ↔ isLS e.r = true ∧ (⟨.mem false, e.d⟩ : Ent) ∈ l := by
  rw [bym_eq, Bool.and_eq_true, kin_ks]
theorem bym_mem (n : Nat) (l : List Ent) : bym ⟨.mem false, n⟩ l = false := rfl
theorem mem_least {D : Des} {e : Ent} : e ∈ leastL D ↔ e ∈ opens D ∧ bym e (opens D) = false := by
  unfold leastL
  rw [List.mem_filter, Bool.not_eq_true']
/-- with the least waits nothing is missing -/
theorem miss_least (D : Des) : missL (D.with (leastL D)) = [] := by
  unfold missL
  rw [opens_with]
  refine List.filter_eq_nil_iff.mpr fun e he h => ?_
  rw [Bool.and_eq_true, Bool.not_eq_true'] at h
  obtain ⟨h1, h2⟩ := h
  have n1 : e ∉ leastL D := fun z => by
    have : kin e.ks ((leastL D).map Ent.ks) = true := kin_ks.mpr z
    have h1 : (!kin e.ks ((leastL D).map Ent.ks)) = true := h1
    rw [this] at h1
    cases h1
  have b1 : bym e (opens D) = true := by
    cases q : bym e (opens D) with
    | true => rfl
    | false => exact absurd (mem_least.mpr ⟨he, q⟩) n1
  obtain ⟨c1, c2⟩ := bym_iff.mp b1
  have b2 : bym e (leastL D) = true := bym_iff.mpr ⟨c1, mem_least.mpr ⟨c2, bym_mem _ _⟩⟩
  have h2 : bym e (leastL D) = false := h2
  rw [b2] at h2
  cases h2
theorem least_ok (D : Des) : WtOk (leastL D) := ⟨fun e he => (mem_opens.mp (mem_least.mp he).1).1, (ents_pw.filter _).filter _⟩
/-- without one of them, that one is -/
theorem miss_drop (D : Des) {k : Nat} (hk : k < (leastL D).length) : (missL (D.with ((leastL D).take k ++ (leastL D).drop (k + 1)))).isEmpty = false := by
  have e1 : leastL D = (leastL D).take k ++ (leastL D)[k] :: (leastL D).drop (k + 1) := by
    rw [← List.drop_eq_getElem_cons hk, List.take_append_drop]
  have hm : (leastL D)[k] ∈ leastL D := List.getElem_mem hk
  obtain ⟨h1, h2⟩ := mem_least.mp hm
  have nw : (leastL D)[k] ∉ (leastL D).take k ++ (leastL D).drop (k + 1) := fun z => by
    have p := (least_ok D).asc
    rw [e1] at p
    obtain ⟨_, p2, p3⟩ := List.pairwise_append.mp p
    rcases List.mem_append.mp z with z | z
    · exact absurd (p3 _ z _ (List.mem_cons_self ..)) (Int.lt_irrefl _)
    · exact absurd ((List.pairwise_cons.mp p2).1 _ z) (Int.lt_irrefl _)
  have sub : ∀ e ∈ (leastL D).take k ++ (leastL D).drop (k + 1), e ∈ opens D := fun e he => by
    rcases List.mem_append.mp he with z | z
    · exact (mem_least.mp (List.mem_of_mem_take z)).1
    · exact (mem_least.mp (List.mem_of_mem_drop z)).1
  have nb : bym (leastL D)[k] ((leastL D).take k ++ (leastL D).drop (k + 1)) = false := by
    refine Bool.eq_false_iff.mpr fun z => ?_
    obtain ⟨c1, c2⟩ := bym_iff.mp z
    have := bym_iff.mpr ⟨c1, sub _ c2⟩
    rw [h2] at this
    cases this
  have mem : (leastL D)[k] ∈ missL (D.with ((leastL D).take k ++ (leastL D).drop (k + 1))) := by
    unfold missL
    rw [opens_with, List.mem_filter]
    refine ⟨h1, ?_⟩
    have kk : kin (leastL D)[k].ks (((leastL D).take k ++ (leastL D).drop (k + 1)).map Ent.ks) = false := Bool.eq_false_iff.mpr fun z => nw (kin_ks.mp z)
    show (!kin (leastL D)[k].ks (((leastL D).take k ++ (leastL D).drop (k + 1)).map Ent.ks) && !bym (leastL D)[k] ((leastL D).take k ++ (leastL D).drop (k + 1))) = true
    rw [kk, nb]
    rfl
  cases q : missL (D.with ((leastL D).take k ++ (leastL D).drop (k + 1))) with
  | nil => rw [q] at mem; cases mem
  | cons => rfl
theorem drop_ok (D : Des) (k : Nat) : WtOk ((leastL D).take k ++ (leastL D).drop (k + 1)) := by
  have sub : ((leastL D).take k ++ (leastL D).drop (k + 1)).Sublist (leastL D) := by
    have h : (leastL D).take k ++ (leastL D).drop k = leastL D := List.take_append_drop ..
    have h2 : ((leastL D).take k ++ (leastL D).drop (k + 1)).Sublist ((leastL D).take k ++ (leastL D).drop k) := by
      refine List.Sublist.append (List.Sublist.refl _) ?_
      rw [← List.drop_drop]
      exact List.drop_sublist _ _
    rw [h] at h2
    exact h2
  exact ⟨fun e he => (least_ok D).d e (sub.subset he), (least_ok D).asc.sublist sub⟩
/-- held or not -/
theorem due_eq (D : Des) (m : List Ent) : (opens D).filter (fun e => !(kin e.ks (m.map Ent.ks) || bym e m)) = missL (D.with m) := by
  unfold missL
  rw [opens_with]
  refine List.filter_congr fun e _ => ?_
  show (!(kin e.ks (m.map Ent.ks) || bym e m)) = (!kin e.ks (m.map Ent.ks) && !bym e m)
  rw [Bool.not_or]
theorem fit_with {D : Des} (h : DesOk D) {w : List Ent} (hw : WtOk w) : Fit (D.with w) := ⟨⟨h.rd, h.pl, h.pth, h.pasc, hw⟩, pth_len h.pth h.pasc, ent_len hw⟩
theorem fit_of {D : Des} (h : DesOk D) : Fit D := ⟨h, pth_len h.pth h.pasc, ent_len h.wt⟩
/-! the row, and data that a draw keeps -/
def okD (d : Dt) : Prop := flatD d = true ∨ ∃ l : List Ent, d = .lst (esD l)
def OkE (r : En) : Prop := ∀ (i : Nat) (d : Dt), r[i]? = some (some d) → okD d
structure LW (K : PySem.W.Frag) (r : Addr) (g : Addr × List Int) (σ : L2.St) (H : Hp) (e : En) : Prop where
  sl : σ[1]? = some (some (.ref r))
  ro : RowOk K r g H
  ev : EnvD K H σ e
  ok : OkE e
section
variable {K : PySem.W.Frag} {r : Addr} {g : Addr × List Int} {σ : L2.St} {H H' : Hp} {e : En} {te : TE} {d : Dt} {D : Ends}
theorem OkE.set {i : Nat} (h : OkE e) (hd : okD d) : OkE (e.set i (some d)) := fun j d' hj => by
  by_cases q : i = j
  · subst q
    by_cases hi : i < e.length
    · rw [List.getElem?_set_self hi] at hj
      cases hj
      exact hd
    · rw [List.getElem?_eq_none (by rw [List.length_set]; omega)] at hj
      cases hj
  · rw [List.getElem?_set_ne q] at hj
    exact h j d' hj
theorem LW.same (h : LW K r g σ H e) (s : Same H H') : LW K r g σ H' e := ⟨h.sl, h.ro.same s, h.ev.mono s, h.ok⟩
theorem LW.draw (h : LW K r g σ H e) (ro : RowOk K r g H') (s : SameB r H H') : LW K r g σ H' e := ⟨h.sl, ro, ⟨h.ev.len, fun i d hd => by
  obtain ⟨v, h1, h2⟩ := h.ev.at_ i d hd
  refine ⟨v, h1, ?_⟩
  rcases h.ok i d hd with q | ⟨l, rfl⟩
  · exact h2.kept (h.ro.tups s) _ _ q
  · exact lst_but h.ro s h2⟩, h.ok⟩
theorem LW.set {i : Nat} {v : V} (h : LW K r g σ H e) (hi : i ≠ 1) (rv : Rp K H v d) (ok : okD d) : LW K r g (σ.set i (some v)) H (e.set i (some d)) := ⟨by rw [List.getElem?_set_ne hi]; exact h.sl, h.ro, h.ev.set rv, h.ok.set ok⟩
theorem LW.weak {e' : En} (h : LW K r g σ H e) (l : leE e' e) : LW K r g σ H e' := ⟨h.sl, h.ro, ⟨by rw [h.ev.len, leE_len l], fun i d hd => h.ev.at_ i d (leE_at l hd)⟩, fun i d hd => h.ok i d (leE_at l hd)⟩
theorem lw_set {i : Nat} (h : LW K r g σ H e) (hi : i ≠ 1) (he : ED K te e d) (ok : okD d) (k : ∀ σ' H', LW K r g σ' H' (e.set i (some d)) → D.nx σ' H') : tAsg te (gName i) D σ H := he σ H _ h.ev fun v H1 s1 r1 => k _ H1 ((h.same s1).set hi r1 ok)
theorem lw_skip {c : TT} {t : TS} (h : LW K r g σ H e) (hc : TD K c e false) (k : ∀ H', LW K r g σ H' e → D.nx σ H') : tIfS c t tNext D σ H := hc σ H _ h.ev fun H1 s1 => by
  rw [if_neg Bool.false_ne_true]
  exact k H1 (h.same s1)
theorem lw_take {c : TT} {t u : TS} (h : LW K r g σ H e) (hc : TD K c e true) (k : ∀ H', LW K r g σ H' e → t D σ H') : tIfS c t u D σ H := hc σ H _ h.ev fun H1 s1 => by
  rw [if_pos rfl]
  exact k H1 (h.same s1)
theorem lw_pick {i j : Nat} {l : List Ent} (h : LW K r g σ H e) (hi : i ≠ 1) (hj : e[j]? = some (some (.lst (esD l)))) (l1 : 1 ≤ l.length) (l2 : l.length ≤ 1000) (k : ∀ f σ' H', f ∈ l → LW K r g σ' H' (e.set i (some (entD f))) → D.nx σ' H') : tAsg (tCall (spPick K) [] E0 (tCons (tVar 1) (tCons (tVar j) tNil))) (gName i) D σ H := by
  obtain ⟨v, h1, h2⟩ := h.ev.at_ j _ hj
  exact ⟨.ref r, h.sl, v, h1, r, g, v, l, rfl, h.ro, h2, l1, l2, fun f x H' hf rx ro s => k f _ H' hf ((h.draw ro s).set hi rx (.inl (flat_tk _)))⟩
theorem lw_taken {i : Nat} {te : TE} {m : Int} (h : LW K r g σ H e) (hi : i ≠ 1) (hm : ED K te e (.int m)) (m1 : 1 ≤ m) (m2 : m < 1073741824) (k : ∀ z σ' H', 0 ≤ z → z < m → LW K r g σ' H' (e.set i (some (.int z))) → D.nx σ' H') : tAsg (tCall (spTaken K) [] E0 (tCons (tVar 1) (tCons te tNil))) (gName i) D σ H := by
  refine ⟨.ref r, h.sl, hm σ H _ h.ev fun v H1 s1 r1 => ?_⟩
  obtain rfl := r1.int_of
  exact ⟨r, g, m, rfl, m1, m2, h.ro.same s1, fun z H' z0 z1 ro s => k z _ H' z0 z1 (((h.same s1).draw ro s).set hi (.int z) (.inl rfl))⟩
theorem lw_design {i : Nat} (h : LW K r g σ H e) (hi : i ≠ 1) (k : ∀ A σ' H', DesOk A → A.waits = [] → LW K r g σ' H' (e.set i (some (desD A))) → D.nx σ' H') : tAsg (tCall (spDesign K) [] E0 (tCons (tVar 1) tNil)) (gName i) D σ H :=
  ⟨.ref r, h.sl, r, g, rfl, h.ro, fun A v H' hA hw rv ro s => k A _ H' hA hw ((h.draw ro s).set hi rv (.inl (by
    show (true && (true && (flatDs (A.pl.rows.map iD) && (flatDs (psD A.paths) && (flatDs (esD A.waits) && true))))) = true
    rw [flat_iDs, flat_tks, fl_es]
    rfl)))⟩
/-- for so many turns -/
theorem lw_for {n m : Nat} {tbd : TS} {te : TE} (h : LW K r g σ H e) (hm : ED K te e (.int (m : Int))) (hm2 : m ≤ 1000) (hs : ∀ (i : Nat) σ' H' (N : L2.St → Hp → Prop), LW K r g σ' H' e → (∀ σ2 H2, LW K r g σ2 H2 e → N σ2 H2) → tbd { D with nx := N, ct := N, bk := D.nx } (σ'.set n (some (.int (0 + (i : Int))))) H')
    (hk : ∀ σ' H', LW K r g σ' H' e → D.nx σ' H') : tFor (iRng1 (tCons te tNil)) (gName n) tbd D σ H := hm σ H _ h.ev fun v H1 s1 r1 => by
  obtain rfl := r1.int_of
  refine ⟨m, rfl, by omega, by omega, fun i m' σ' H' => m' = m - i ∧ i ≤ m ∧ LW K r g σ' H' e, ⟨m, by simp, Nat.zero_le _, h.same s1⟩, ?_⟩
  rintro i m' σ' H' ⟨rfl, hi, hI⟩
  by_cases hlt : i < m
  · refine .inr ⟨by show i < (m : Int).toNat; omega, fun σ2 H2 => LW K r g σ2 H2 e, fun σ2 H2 z' => ⟨m - (i + 1), by omega, rfl, hlt, z'⟩, fun x H2 y => ?_⟩
    obtain ⟨e1, ex⟩ := y
    subst e1 ex
    exact hs i σ' H2 _ hI fun σ2 H3 h => h
  · exact .inl ⟨by show (m : Int).toNat ≤ i; omega, hk σ' H' hI⟩
end
end SB
namespace SB
open PySem L2
theorem cut_lo {ds : List Dt} {z : Int} (h0 : 0 ≤ z) (h1 : z ≤ ds.length) : cutD ds none (some z) = ds.take z.toNat := by
  unfold cutD
  rw [HT.sIx_none]
  have h2 : HT.sIx ds.length ds.length (some z) = z.toNat := by
    unfold HT.sIx
    simp only
    rw [if_neg (by omega)]
    omega
  rw [h2, List.drop_zero, Nat.sub_zero]
theorem cut_hi {ds : List Dt} {z : Int} (h0 : 0 ≤ z) (h1 : z ≤ ds.length) : cutD ds (some z) none = ds.drop z.toNat := by
  unfold cutD
  have h3 : HT.sIx ds.length ds.length none = ds.length := HT.sIx_none ..
  have h2 : HT.sIx ds.length 0 (some z) = z.toNat := by
    unfold HT.sIx
    simp only
    rw [if_neg (by omega)]
    omega
  rw [h2, h3]
  exact List.take_of_length_le (by rw [List.length_drop]; exact Nat.le_refl _)
theorem esD_take (l : List Ent) (k : Nat) : (esD l).take k = esD (l.take k) := by rw [esD_map, esD_map, List.map_take]
theorem esD_drop (l : List Ent) (k : Nat) : (esD l).drop k = esD (l.drop k) := by rw [esD_map, esD_map, List.map_drop]
theorem esD_len (l : List Ent) : (esD l).length = l.length := by rw [esD_map, List.length_map]
/-- the law's script -/
def spLaw (K : PySem.W.Frag) : Sp := fun vs H Q _ => ∃ (sc : Addr) (ns : List Int), vs = [.ref sc] ∧ SqL K H sc (ns.map V.int) ∧ ∀ H', Q (.bl true) H'
section
variable {K : PySem.W.Frag} {r : Addr} {g : Addr × List Int} {σ : L2.St} {H H' : Hp} {e : En} {te : TE} {d : Dt} {D : Ends}
/-- some of the least, by draws; then more -/
theorem lw_more {l : List Ent} (h : LW K r g σ H e) (hj : e[6]? = some (some (.tup (esD l)))) (h9 : σ.length = 11) (hl : l.length ≤ 1000) (hok : ∀ f ∈ l, dOk f) (k : ∀ m σ' H', WtOk m → LW K r g σ' H' (e.set 7 (some (.tup (esD m)))) → D.nx σ' H') :
    tAsg (tCall (spMore K) [] E0 (tCons (tVar 1) (tCons (tLc (iTup K (tVar 6)) (gName 9) (tTest (tOp (rI0 fun i j => .bl (decide (j < i))) (tCall (spTaken K) [] E0 (tCons (tVar 1) (tCons (tC (.int 9)) tNil))) (tC (.int 0)))) (tVar 9) [9]) (tCons (tC (.int 9)) tNil)))) (gName 7) D σ H := by
  obtain ⟨v, g1, g2⟩ := h.ev.at_ 6 _ hj
  obtain ⟨t, xs, rfl, ht, hx⟩ := g2.tup_of
  refine ⟨.ref r, h.sl, .ref t, g1, t, rfl, ⟨xs, SqT.of ht⟩, fun p hp => ?_⟩
  have hlen : xs.length = l.length := by rw [hx.length, esD_len]
  have pr : p ≠ r := h.ro.at hp
  have s0 : Same H (upd H p (.lst [])) := same_upd hp
  refine ⟨fun i m H' => m = xs.length - i ∧ i ≤ xs.length ∧ RowOk K r g H' ∧ SameB r H H' ∧ ∃ acc l', H' p = some (.lst acc) ∧ Rps K H' acc (esD l') ∧ (∀ f ∈ l', dOk f) ∧ l'.length ≤ i, ⟨xs.length, by simp, Nat.zero_le _, h.ro.same s0, Same.but s0, [], [], upd_same, .nil, (fun f hf => by cases hf), Nat.le_refl _⟩, ?_⟩
  rintro i m H' ⟨rfl, hi, ro', s', acc, l', hacc, ra, hl', hll⟩
  have ht' : H' t = some (.tup xs) := (h.ro.tups s') _ _ ht
  by_cases hlt : i < xs.length
  · refine .inr ⟨⟨xs, xs[i], SqT.of ht', List.getElem?_eq_getElem _⟩, fun H2 => RowOk K r g H2 ∧ SameB r H H2 ∧ ∃ acc l', H2 p = some (.lst acc) ∧ Rps K H2 acc (esD l') ∧ (∀ f ∈ l', dOk f) ∧ l'.length ≤ i + 1, fun H2 q => ⟨xs.length - (i + 1), by omega, rfl, hlt, q⟩, fun x H2 y => ?_⟩
    obtain ⟨e1, y⟩ := y
    subst e1
    have hxi := y xs (SqT.of ht')
    obtain ⟨d, d1, d2⟩ := hx.get' hxi
    rw [esD_map, List.getElem?_map] at d1
    cases q : l[i]? with
    | none => rw [q] at d1; cases d1
    | some f =>
      rw [q] at d1
      cases d1
      have fm := List.mem_of_getElem? q
      have s1 : (((L2.wipe σ [9]).set 9 (some x))[1]?) = some (some (.ref r)) := by
        rw [List.getElem?_set_ne (by decide)]
        show ((σ.set 9 none)[1]?) = _
        rw [List.getElem?_set_ne (by decide)]
        exact h.sl
      refine ⟨(wipe_set (vs := [9]) (i := 9) (by decide)).trans wipe_wipe, .ref r, s1, r, g, 9, rfl, by decide, by decide, ro', fun z H3 z0 z1 ro3 s3 => ⟨z, 0, rfl, rfl, decide (0 < z), rfl, ?_⟩⟩
      by_cases c : 0 < z
      · dsimp only
        rw [if_pos (decide_eq_true c)]
        have s9 : (((L2.wipe σ [9]).set 9 (some x))[9]?) = some (some x) := by
          rw [List.getElem?_set_self]
          show 9 < (σ.set 9 none).length
          rw [List.length_set, h9]
          decide
        have hp3 := s3 p _ pr hacc
        have tu : Tups H3 (upd H3 p (.lst (acc ++ [x]))) := tups_upd fun ys q => by
          rw [hp3] at q
          cases q
        refine ⟨x, s9, acc, hp3, ?_, RowOk.upd h.ro (s'.trans s3) hp ro3 pr, SameB.upd2 (s'.trans s3) hp, acc ++ [x], l' ++ [f], upd_same, ?_, fun f' hf' => ?_, by rw [List.length_append]; exact Nat.succ_le_succ hll⟩
        · rw [ra.length, esD_len]
          exact sz_lt (by omega)
        · rw [esD_map, List.map_append, ← esD_map]
          exact ((ra.kept (ro'.tups s3) _ _ (fl_es _)).kept tu _ _ (fl_es _)).snoc (((d2.kept (h.ro.tups s') _ _ (flat_tk _)).kept (ro'.tups s3) _ _ (flat_tk _)).kept tu _ _ (flat_tk _))
        · rcases List.mem_append.mp hf' with q | q
          · exact hl' f' q
          · rw [List.mem_singleton] at q
            rw [q]
            exact hok f fm
      · dsimp only
        rw [if_neg (by rw [decide_eq_false c]; decide)]
        exact ⟨ro3, s'.trans s3, acc, l', s3 p _ pr hacc, ra.kept (ro'.tups s3) _ _ (fl_es _), hl', by omega⟩
  · refine .inl ⟨⟨xs, SqT.of ht', by omega⟩, r, g, .ref p, l', rfl, ro', .lst hacc ra, hl', by omega, fun m v H2 hm rv ro2 s2 => k m _ H2 hm ((h.draw ro2 (s'.trans s2)).set (by decide) rv (.inl (fl_es _)))⟩
end
theorem lw_cond {K : PySem.W.Frag} {r : Addr} {g : Addr × List Int} {σ : L2.St} {H : Hp} {e : En} {D : Ends} {c : TT} {t : TS} {b : Bool} (h : LW K r g σ H e) (hc : TD K c e b) (h1 : b = true → ∀ H' (D' : Ends), LW K r g σ H' e → (∀ σ2 H2, LW K r g σ2 H2 e → D'.nx σ2 H2) → t D' σ H')
    (k : ∀ σ2 H2, LW K r g σ2 H2 e → D.nx σ2 H2) : tIfS c t tNext D σ H := hc σ H _ h.ev fun H1 s1 => by
  cases b with
  | true =>
    rw [if_pos rfl]
    exact h1 rfl H1 D (h.same s1) k
  | false =>
    rw [if_neg Bool.false_ne_true]
    exact k σ H1 (h.same s1)
theorem lw_ret {K : PySem.W.Frag} {r : Addr} {g : Addr × List Int} {σ : L2.St} {H : Hp} {e : En} {D : Ends} {te : TE} {b : Bool} (h : LW K r g σ H e) (he : ED K te e (.bl b)) (k : ∀ H', D.rt (.bl b) H') : tRet te D σ H := he σ H _ h.ev fun v H1 s1 r1 => by
  obtain rfl := r1.bl_of
  exact k H1
section
variable {P : Program} {w : World} {K : PySem.W.Frag} {mg : Str → Option Value} {base : Heap}
/-- the rule for a def whose function object is known -/
theorem mk_fnG {x : Str} {st : Stmt} {N ps : List Str} {k : Nat} {sp : Sp} {f : Addr} {fd : FuncData} (F : FunD K x x (defArgs st) (defBody st) (defScope st) [] [] f fd) (S : FnScope N ps (defScope st)) (len : ∀ vs H Q E, sp vs H Q E → vs.length = ps.length)
    (body : ∀ (f : Addr) (cdv : Value) (A : Around) (outer : List Env) (s : Shared) (H : Hp) (E : XK), Room k (A.deeper (PyProof.Rows.envOfC x (defScope st) s.heap.objs.size f cdv)) →
      ∃ t, PSs (cxOf CX0 P w K mg base N x (defScope st) f cdv A outer s H E).nox (defBody st) t ∧ ∀ (vs : List V) (H : Hp) (Q : VK) (E : XK), sp vs H Q E → t { nx := fun _ H' => Q .non H', rt := Q } (L2.start N vs) H) : FnOk P w K mg base CX0 (k + 1) f fd ps sp :=
  F.ok S len fun cdv A outer s H vs Q E hr hsp => by
    obtain ⟨t, h1, h2⟩ := body f cdv A outer s H E hr
    exact ⟨t, h1.nox, h2 vs H Q E hsp⟩
theorem sc_law : FnScope ["_law_script", "_law_row", "_law_every", "_law_design_here", "_law_opens_here", "_law_turn", "_law_least_here", "_law_more_here", "_law_due", "_law_entry", "_law_k"] ["_law_script"] (defScope s_law) := ⟨rfl, rfl, rfl, by decide +kernel, rfl, by decide +kernel, by decide +kernel⟩
theorem ok_law {f : Addr} {fd : FuncData} (F : FunD K "law" "law" (defArgs s_law) (defBody s_law) (defScope s_law) [] [] f fd) (T : Tx K mg) (C_law_alike : OkD P w K mg base 3 "_law_alike" ["_law_found", "_law_due"] (spD K R_law_alike)) (C_law_design : OkD P w K mg base 3 "_law_design" ["_law_row"] (spDesign K)) (C_law_entries : OkD P w K mg base 1 "_law_entries" [] (spD K R_law_entries)) (C_law_held : OkD P w K mg base 1 "_law_held" ["_law_entry", "_law_waits"] (spD K R_law_held)) (C_law_least : OkD P w K mg base 3 "_law_least" ["_law_design_here"] (spD K R_law_least)) (C_law_more : OkD P w K mg base 3 "_law_more" ["_law_row", "_law_waits", "_law_many"] (spMore K)) (C_law_opens : OkD P w K mg base 2 "_law_opens" ["_law_design_here"] (spD K R_law_opens)) (C_law_pick : OkD P w K mg base 2 "_law_pick" ["_law_row", "_law_kinds"] (spPick K)) (C_law_taken : OkD P w K mg base 1 "_law_taken" ["_law_row", "_law_many"] (spTaken K)) (C_all_entries : OkD P w K mg base 3 "all_entries" [] (spD K R_all_entries)) (C_is_entry : OkD P w K mg base 4 "is_entry" ["value"] (spD K R_is_entry)) (C_is_open : OkD P w K mg base 8 "is_open" ["design", "entry"] (spD K R_is_open)) (C_is_right : OkD P w K mg base 8 "is_right" ["design"] (spD K R_is_right)) (C_least_waits : OkD P w K mg base 8 "least_waits" ["design"] (spD K R_least_waits)) (C_open_entries : OkD P w K mg base 8 "open_entries" ["design"] (spD K R_open_entries)) : FnOk P w K mg base CX0 9 f fd ["_law_script"] (spLaw K) := by
  refine mk_fnG F sc_law ?_ fun f cdv A outer s H E hr => ⟨_, (pss_cons (ps_set (i := 1) sc_law.nd rfl (.inr rfl) (pe_lst (pa_cons (pv 0) (pa_cons pe_int (pa_cons pe_int (pa_cons pe_int pa_nil))))))
      (pss_cons (ps_set (i := 2) sc_law.nd rfl (.inl rfl) (pe_callD0 C_law_entries (hr.mono (by decide)) (by rfl)))
      (pss_cons (ps_if (pt_not (pt_val (pe_callD C_law_alike (hr.mono (by decide)) (by rfl) (pa_cons (pe_callD0 C_all_entries (hr.mono (by decide)) (by rfl)) (pa_cons (pe_callTy (k_tuple (K := K) rfl) (by rfl) T.tuple (by decide +kernel) (pa_cons (pv 2) pa_nil)) pa_nil))))) (pss_one (ps_ret pe_bl)) pss_nil)
      (pss_cons (ps_set (i := 3) sc_law.nd rfl (.inl rfl) (pe_callD C_law_design (hr.mono (by decide)) (by rfl) (pa_cons (pv 1) pa_nil)))
      (pss_cons (ps_set (i := 4) sc_law.nd rfl (.inl rfl) (pe_callD C_law_opens (hr.mono (by decide)) (by rfl) (pa_cons (pv 3) pa_nil)))
      (pss_cons (ps_if (pt_not (pt_val (pe_callD C_law_alike (hr.mono (by decide)) (by rfl) (pa_cons (pe_callD C_open_entries (hr.mono (by decide)) (by rfl) (pa_cons (pv 3) pa_nil)) (pa_cons (pe_callTy (k_tuple (K := K) rfl) (by rfl) T.tuple (by decide +kernel) (pa_cons (pv 4) pa_nil)) pa_nil))))) (pss_one (ps_ret pe_bl)) pss_nil)
      (pss_cons (ps_for PassesOwn.never rfl (pi_range1 (by rfl) T.range (pa_cons pe_int pa_nil)) (pg_name (i := 5) sc_law.nd rfl (.inl rfl)) (pss_cons (ps_set (i := 9) sc_law.nd rfl (.inl rfl) (pe_callD C_law_pick (hr.mono (by decide)) (by rfl) (pa_cons (pv 1) (pa_cons (pv 2) pa_nil))))
      (pss_one (ps_if (PW.pt (pw_or (pt_cmpR op_notBl (pe_callD C_is_entry (hr.mono (by decide)) (by rfl) (pa_cons (pv 9) pa_nil)) pe_bl (nomark _)) (pw_or1 (pt_not (pt_val (pe_callD C_law_alike (hr.mono (by decide)) (by rfl) (pa_cons (pe_callD C_is_open (hr.mono (by decide)) (by rfl) (pa_cons (pv 3) (pa_cons (pv 9) pa_nil))) (pa_cons (pe_cmpR (k_inA (K := K) rfl (hu65 hr)) (pv 9) (pv 4) (by rfl)) pa_nil)))))))) (pss_one (ps_ret pe_bl)) pss_nil))))
      (pss_cons (ps_set (i := 6) sc_law.nd rfl (.inl rfl) (pe_callD C_law_least (hr.mono (by decide)) (by rfl) (pa_cons (pv 3) pa_nil)))
      (pss_cons (ps_if (PW.pt (pw_or (pt_not (pt_val (pe_callD C_law_alike (hr.mono (by decide)) (by rfl) (pa_cons (pe_callD C_least_waits (hr.mono (by decide)) (by rfl) (pa_cons (pv 3) pa_nil)) (pa_cons (pv 6) pa_nil))))) (pw_or1 (pt_cmpR op_notBl (pe_callD C_is_right (hr.mono (by decide)) (by rfl) (pa_cons (pe_op (k_catA (K := K) rfl) (pe_slice (k_sl (K := K) rfl) (pv 3) po_none (po_some pe_int)) (pe_tup (pa_cons (pv 6) pa_nil))) pa_nil)) pe_bl (nomark _))))) (pss_one (ps_ret pe_bl)) pss_nil)
      (pss_cons (ps_if (pt_cmpR (k_neD (K := K) rfl hr.units) (pv 6) (pe_tup pa_nil) (nomark _)) (pss_cons (ps_set (i := 10) sc_law.nd rfl (.inl rfl) (pe_callD C_law_taken (hr.mono (by decide)) (by rfl) (pa_cons (pv 1) (pa_cons (pe_callB (k_len (K := K) rfl) (by rfl) T.len (by decide +kernel) (pa_cons (pv 6) pa_nil)) pa_nil))))
      (pss_one (ps_if (pt_cmpR op_notBl (pe_callD C_is_right (hr.mono (by decide)) (by rfl) (pa_cons (pe_op (k_catA (K := K) rfl) (pe_slice (k_sl (K := K) rfl) (pv 3) po_none (po_some pe_int)) (pe_tup (pa_cons (pe_op (k_catA (K := K) rfl) (pe_slice (k_sl (K := K) rfl) (pv 6) po_none (po_some (pv 10))) (pe_slice (k_sl (K := K) rfl) (pv 6) (po_some (pe_op op_add (pv 10) pe_int)) po_none)) pa_nil))) pa_nil)) pe_bl (nomark _)) (pss_one (ps_ret pe_bl)) pss_nil))) pss_nil)
      (pss_cons (ps_set (i := 7) sc_law.nd rfl (.inr rfl) (pe_callD C_law_more (hr.mono (by decide)) (by rfl) (pa_cons (pv 1) (pa_cons (by exact pe_lc (own := [("_law_entry", 9)]) (g := (gName 9)) (by rfl) sc_law.nd (k_piT (K := K) rfl (pv 6)) (blkOk_by (own := [("_law_entry", 9)]) (N := ["_law_script", "_law_row", "_law_every", "_law_design_here", "_law_opens_here", "_law_turn", "_law_least_here", "_law_more_here", "_law_due", "_law_entry", "_law_k"]) (sc := defScope s_law) (by decide +kernel)) (fun _ _ _ _ _ => (pg_name (i := 9) sc_law.nd rfl (.inl rfl))) (fun _ _ _ _ _ => pts_one (pt_cmpR op_gt (pe_callD C_law_taken (hr.mono (by decide)) (by rfl) (pa_cons (pv 1) (pa_cons pe_int pa_nil))) pe_int (nomark _))) (fun _ _ _ _ _ => (pv 9))) (pa_cons pe_int pa_nil)))))
      (pss_cons (ps_set (i := 8) sc_law.nd rfl (.inl rfl) (pe_cmpR (k_eqD (K := K) rfl hr.units) (by exact pe_lc (own := [("_law_entry", 9)]) (g := (gName 9)) (by rfl) sc_law.nd (k_piL (K := K) rfl (pv 4)) (blkOk_by (own := [("_law_entry", 9)]) (N := ["_law_script", "_law_row", "_law_every", "_law_design_here", "_law_opens_here", "_law_turn", "_law_least_here", "_law_more_here", "_law_due", "_law_entry", "_law_k"]) (sc := defScope s_law) (by decide +kernel)) (fun _ _ _ _ _ => (pg_name (i := 9) sc_law.nd rfl (.inl rfl))) (fun _ _ _ _ _ => pts_one (pt_not (pt_val (pe_callD C_law_held (hr.mono (by decide)) (by rfl) (pa_cons (pv 9) (pa_cons (pv 7) pa_nil)))))) (fun _ _ _ _ _ => (pv 9))) (pe_lst pa_nil) (nomark _)))
      (pss_one (ps_ret (pe_callD C_law_alike (hr.mono (by decide)) (by rfl) (pa_cons (pe_callD C_is_right (hr.mono (by decide)) (by rfl) (pa_cons (pe_op (k_catA (K := K) rfl) (pe_slice (k_sl (K := K) rfl) (pv 3) po_none (po_some pe_int)) (pe_tup (pa_cons (pv 7) pa_nil))) pa_nil)) (pa_cons (pv 8) pa_nil))))))))))))))))), ?_⟩
  · intro vs H Q E h
    obtain ⟨sc, ns, rfl, _⟩ := h
    rfl
  · intro vs H Q E hsp
    obtain ⟨sc, ns, rfl, hsc, fin⟩ := hsp
    refine seq_step ?_
    refine ⟨.ref sc, rfl, Nat.le_of_ble_eq_true rfl, fun r hr0 => ?_⟩
    have L0 : LW K r (sc, ns) [some (.ref sc), some (.ref r), none, none, none, none, none, none, none, none, none] (upd H r (.lst [.ref sc, .int 0, .int 14302, .int 0])) [none, none, none, none, none, none, none, none, none, none, none] := by
      refine ⟨rfl, ⟨0, 14302, 0, upd_same, trivial, ScOk.but (ScOk.of hsc hr0) (Same.but (same_upd hr0)), by decide, by decide, by decide⟩, ⟨rfl, fun i d hd => ?_⟩, fun i d hd => ?_⟩
      · match i with
        | 0 => cases hd
        | 1 => cases hd
        | 2 => cases hd
        | 3 => cases hd
        | 4 => cases hd
        | 5 => cases hd
        | 6 => cases hd
        | 7 => cases hd
        | 8 => cases hd
        | 9 => cases hd
        | 10 => cases hd
        | i + 11 => cases hd
      · match i with
        | 0 => cases hd
        | 1 => cases hd
        | 2 => cases hd
        | 3 => cases hd
        | 4 => cases hd
        | 5 => cases hd
        | 6 => cases hd
        | 7 => cases hd
        | 8 => cases hd
        | 9 => cases hd
        | 10 => cases hd
        | i + 11 => cases hd
    try dsimp only
    refine seq_step (lw_set L0 (by decide) (ed_call (E := E0) ad_nil (PD.of ⟨rfl, rfl⟩)) (.inr ⟨ENTS, rfl⟩) fun σ1 H1 L1 => ?_)
    try dsimp only
    refine seq_step (lw_skip L1 (td_no (b := true) (td_B (ed_call (ad_cons (ed_call (E := E0) ad_nil (PD.of ⟨rfl, rfl⟩)) (ad_cons (ed_cb (ad_cons (ed_var rfl) ad_nil) cd_tuple) ad_nil)) (PD.of (alike_es (by rw [ents_len]; decide))))) rfl) fun H2 L2 => ?_)
    try dsimp only
    refine seq_step (lw_design L2 (by decide) fun A σ3 H3 hA hw L3 => ?_)
    obtain ⟨rd, same, pl, pths, wts⟩ := A
    try dsimp only
    refine seq_step (lw_set L3 (by decide) (ed_call (ad_cons (ed_var rfl) ad_nil) (PD.of ⟨_, rfl, rfl⟩)) (.inr ⟨opens ⟨rd, same, pl, pths, wts⟩, rfl⟩) fun σ4 H4 L4 => ?_)
    try dsimp only
    refine seq_step (lw_skip L4 (td_no (b := true) (td_B (ed_call (ad_cons (ed_call (ad_cons (ed_var rfl) ad_nil) (PD.of ⟨_, fit_of hA, rfl, rfl⟩)) (ad_cons (ed_cb (ad_cons (ed_var rfl) ad_nil) cd_tuple) ad_nil)) (PD.of (alike_es (Nat.le_trans (opens_len _) (by decide)))))) rfl) fun H5 L5 => ?_)
    generalize hA0 : (⟨rd, same, pl, pths, wts⟩ : Des) = A at *
    have fA : Fit A := fit_of hA
    have L5' : LW K r (sc, ns) σ4 H5 [none, none, some (.lst (esD ENTS)), some (desD A), some (.lst (esD (opens A))), none, none, none, none, none, none] := L5
    have hsl : ∀ {te : TE} {e : En} {w' : List Ent}, e[3]? = some (some (desD A)) → ED K te e (.tup (esD w')) → ED K (tOp (rCatA K) (tSl (rSlA K) (tVar 3) tNoPart (tPart (tC (.int 4)))) (tTup (tCons te tNil))) e (desD (A.with w')) := fun {te e w'} h1 h2 => by
      subst hA0
      exact ed_is (ed_op (ed_is (ed_slT (ed_var h1) od_none (od_some ed_int)) (by rw [cut_lo (by decide) (show (4 : Int) ≤ ((5 : Nat) : Int) by decide)])) (ed_tup (ad_cons h2 ad_nil) (Nat.le_of_ble_eq_true rfl)) (bd_catT (Nat.le_of_ble_eq_true rfl))) rfl
    try dsimp only
    refine seq_step (lw_for (m := 20) L5' ed_int (by decide) (fun i σ' H' N L hN => ?_) fun σ6 H6 L6 => ?_)
    · have L' := L.set (i := 5) (d := .int (0 + (i : Int))) (by decide) (.int _) (.inl rfl)
      refine seq_step (lw_pick L' (by decide) rfl (by rw [ents_len]; decide) (by rw [ents_len]; decide) fun f σ2 H2 hf L2 => ?_)
      have hd := ents_ok f hf
      try dsimp only
      refine lw_skip L2 (td_is (td_or (a := false) (b := false) (td_test (ed_is (ed_op (ed_call (ad_cons (ed_var rfl) ad_nil) (PD.of ⟨f, hd, rfl, rfl⟩)) ed_bl bd_notB) rfl)) fun _ => td_no (b := true) (td_B (ed_call (ad_cons (ed_call (ad_cons (ed_var rfl) (ad_cons (ed_var rfl) ad_nil)) (PD.of ⟨A, f, fA, hd, rfl, rfl⟩)) (ad_cons (ed_is (ed_op (ed_var rfl) (ed_var rfl) (bd_inE (neg := false) .lst)) (congrArg Dt.bl (kin_opens hd))) ad_nil)) (PD.of (alike_bl _)))) rfl) rfl) fun H3 L3 => hN _ _ (L3.weak ⟨rfl, rfl, rfl, trivial⟩)
    try dsimp only
    refine seq_step (lw_set L6 (by decide) (ed_call (ad_cons (ed_var rfl) ad_nil) (PD.of ⟨A, rfl, rfl⟩)) (.inl (fl_es _)) fun σ7 H7 L7 => ?_)
    try dsimp only
    have lo := least_ok A
    refine seq_step (lw_skip L7 (td_is (td_or (a := false) (b := false) (td_no (b := true) (td_B (ed_call (ad_cons (ed_call (ad_cons (ed_var rfl) ad_nil) (PD.of ⟨A, fA, rfl, rfl⟩)) (ad_cons (ed_var rfl) ad_nil)) (PD.of (alike_es (ent_len lo))))) rfl) fun _ => td_test (ed_is (ed_op (ed_call (ad_cons (hsl rfl (ed_var rfl)) ad_nil) (PD.of ⟨_, fit_with hA lo, rfl, rfl⟩)) ed_bl bd_notB) (by rw [miss_least]; rfl))) rfl) fun H8 L8 => ?_)
    have L8' : LW K r (sc, ns) σ7 H8 [none, none, some (.lst (esD ENTS)), some (desD A), some (.lst (esD (opens A))), none, some (.tup (esD (leastL A))), none, none, none, none] := L8
    try dsimp only
    refine seq_step (lw_cond L8' (td_test (ed_op (ed_var rfl) (ed_tup ad_nil (by decide)) (bd_neNil (lay_es _) (depth_tks _)))) (fun hb H9 D9 L9 k9 => ?_) fun σ9 H9 L9 => ?_)
    · have hne : 0 < (leastL A).length := by
        cases q : leastL A with
        | nil => rw [q] at hb; cases hb
        | cons x l => exact Nat.succ_pos _
      have hll := ent_len lo
      refine seq_step (lw_taken L9 (by decide) (ed_cb (ad_cons (ed_var rfl) ad_nil) cd_lenT) (by rw [esD_len]; omega) (by rw [esD_len]; omega) fun z σ10 H10 z0 z1 L10 => ?_)
      rw [esD_len] at z1
      have hz : z.toNat < (leastL A).length := by omega
      try dsimp only
      refine lw_skip L10 (td_test (ed_is (ed_op (ed_call (ad_cons (hsl rfl (ed_is (ed_op (ed_slT (ed_var rfl) od_none (od_some (ed_var rfl))) (ed_slT (ed_var rfl) (od_some (ed_op (ed_var rfl) ed_int bd_add)) od_none) (bd_catT ?_)) (?_ : Dt.tup _ = Dt.tup (esD ((leastL A).take z.toNat ++ (leastL A).drop (z.toNat + 1)))))) ad_nil) (PD.of ⟨_, fit_with hA (drop_ok A z.toNat), rfl, rfl⟩)) ed_bl bd_notB) (by rw [miss_drop A hz]; rfl))) fun H11 L11 => k9 _ _ (L11.weak ⟨rfl, rfl, rfl, rfl, trivial⟩)
      · rw [cut_lo z0 (by rw [esD_len]; omega), cut_hi (by omega) (by rw [esD_len]; omega), List.length_take, List.length_drop, esD_len]
        omega
      · rw [cut_lo z0 (by rw [esD_len]; omega), cut_hi (by omega) (by rw [esD_len]; omega), esD_take, esD_drop, show (z + 1).toNat = z.toNat + 1 by omega, esD_map, esD_map, esD_map, List.map_append]
    try dsimp only
    refine seq_step (lw_more L9 rfl L9.ev.len (ent_len lo) lo.d fun m σ10 H10 hm L10 => ?_)
    try dsimp only
    refine seq_step (lw_set L10 (by decide) (ed_is (ed_op (ed_lcE (l := opens A) (id_list (ed_var rfl)) (Nat.le_trans (opens_len A) (by decide)) (fun d => [none, none, some (.lst (esD ENTS)), some (desD A), some (.lst (esD (opens A))), none, some (.tup (esD (leastL A))), some (.tup (esD m)), none, some d, none]) (fun e => !(kin e.ks (m.map Ent.ks) || bym e m)) (fun e _ => gd_name (by decide)) (fun e _ => td_not (td_B (ed_call (ad_cons (ed_var rfl) (ad_cons (ed_var rfl) ad_nil)) (PD.of ⟨e, m, _, .tup, rfl, rfl⟩)))) (fun e _ => ed_var rfl)) (ed_lst ad_nil (by decide)) (bd_eqNil (lay_es _) (depth_tks _))) (by rw [due_eq, esD_empty])) (.inl rfl) fun σ11 H11 L11 => ?_)
    exact lw_ret L11 (ed_call (ad_cons (ed_call (ad_cons (hsl rfl (ed_var rfl)) ad_nil) (PD.of ⟨_, fit_with hA hm, rfl, rfl⟩)) (ad_cons (ed_var rfl) ad_nil)) (PD.of (alike_bl _))) fin
end
end SB
namespace SB
open PySem PySem.Spec PyProof.Rows L2
/-! ### the head's data -/
def d_is_integer : He.DefD := ⟨("is_integer", none), "is_integer", "is_integer", defArgs s_is_integer, defBody s_is_integer, defScope s_is_integer, [], []⟩
def d_is_in : He.DefD := ⟨("is_in", none), "is_in", "is_in", defArgs s_is_in, defBody s_is_in, defScope s_is_in, [], []⟩
def d_is_list : He.DefD := ⟨("is_list", none), "is_list", "is_list", defArgs s_is_list, defBody s_is_list, defScope s_is_list, [], []⟩
def d_is_place : He.DefD := ⟨("is_place", none), "is_place", "is_place", defArgs s_is_place, defBody s_is_place, defScope s_is_place, [], []⟩
def d_are_places : He.DefD := ⟨("are_places", none), "are_places", "are_places", defArgs s_are_places, defBody s_are_places, defScope s_are_places, [], []⟩
def d_is_path : He.DefD := ⟨("is_path", none), "is_path", "is_path", defArgs s_is_path, defBody s_is_path, defScope s_is_path, [], []⟩
def d_rises : He.DefD := ⟨("rises", none), "rises", "rises", defArgs s_rises, defBody s_rises, defScope s_rises, [], []⟩
def d_are_paths : He.DefD := ⟨("are_paths", none), "are_paths", "are_paths", defArgs s_are_paths, defBody s_are_paths, defScope s_are_paths, [], []⟩
def d_is_entry_in : He.DefD := ⟨("is_entry_in", none), "is_entry_in", "is_entry_in", defArgs s_is_entry_in, defBody s_is_entry_in, defScope s_is_entry_in, [], []⟩
def d_are_waits : He.DefD := ⟨("are_waits", none), "are_waits", "are_waits", defArgs s_are_waits, defBody s_are_waits, defScope s_are_waits, [], []⟩
def d_is_design : He.DefD := ⟨("is_design", none), "is_design", "is_design", defArgs s_is_design, defBody s_is_design, defScope s_is_design, [], []⟩
def d_need_design : He.DefD := ⟨("need_design", none), "need_design", "need_design", defArgs s_need_design, defBody s_need_design, defScope s_need_design, [], []⟩
def d_is_entry : He.DefD := ⟨("is_entry", none), "is_entry", "is_entry", defArgs s_is_entry, defBody s_is_entry, defScope s_is_entry, [], []⟩
def d_need_entry : He.DefD := ⟨("need_entry", none), "need_entry", "need_entry", defArgs s_need_entry, defBody s_need_entry, defScope s_need_entry, [], []⟩
def d_place_in : He.DefD := ⟨("place_in", none), "place_in", "place_in", defArgs s_place_in, defBody s_place_in, defScope s_place_in, [], []⟩
def d_effect_in : He.DefD := ⟨("effect_in", none), "effect_in", "effect_in", defArgs s_effect_in, defBody s_effect_in, defScope s_effect_in, [], []⟩
def d_used_in : He.DefD := ⟨("used_in", none), "used_in", "used_in", defArgs s_used_in, defBody s_used_in, defScope s_used_in, [], []⟩
def d_entries_apart : He.DefD := ⟨("entries_apart", none), "entries_apart", "entries_apart", defArgs s_entries_apart, defBody s_entries_apart, defScope s_entries_apart, [], []⟩
def d_every_entry : He.DefD := ⟨("every_entry", none), "every_entry", "every_entry", defArgs s_every_entry, defBody s_every_entry, defScope s_every_entry, [], []⟩
def d_all_entries : He.DefD := ⟨("all_entries", none), "all_entries", "all_entries", defArgs s_all_entries, defBody s_all_entries, defScope s_all_entries, [], []⟩
def d_value_open : He.DefD := ⟨("value_open", none), "value_open", "value_open", defArgs s_value_open, defBody s_value_open, defScope s_value_open, [], []⟩
def d_open_in : He.DefD := ⟨("open_in", none), "open_in", "open_in", defArgs s_open_in, defBody s_open_in, defScope s_open_in, [], []⟩
def d_opens_in : He.DefD := ⟨("opens_in", none), "opens_in", "opens_in", defArgs s_opens_in, defBody s_opens_in, defScope s_opens_in, [], []⟩
def d_by_memory : He.DefD := ⟨("by_memory", none), "by_memory", "by_memory", defArgs s_by_memory, defBody s_by_memory, defScope s_by_memory, [], []⟩
def d_missing_in : He.DefD := ⟨("missing_in", none), "missing_in", "missing_in", defArgs s_missing_in, defBody s_missing_in, defScope s_missing_in, [], []⟩
def d_is_open : He.DefD := ⟨("is_open", none), "is_open", "is_open", defArgs s_is_open, defBody s_is_open, defScope s_is_open, [], []⟩
def d_open_entries : He.DefD := ⟨("open_entries", none), "open_entries", "open_entries", defArgs s_open_entries, defBody s_open_entries, defScope s_open_entries, [], []⟩
def d_is_right : He.DefD := ⟨("is_right", none), "is_right", "is_right", defArgs s_is_right, defBody s_is_right, defScope s_is_right, [], []⟩
def d_least_waits : He.DefD := ⟨("least_waits", none), "least_waits", "least_waits", defArgs s_least_waits, defBody s_least_waits, defScope s_least_waits, [], []⟩
def d_law_taken : He.DefD := ⟨("_law_taken", none), "_law_taken", "_law_taken", defArgs s_law_taken, defBody s_law_taken, defScope s_law_taken, [], []⟩
def d_law_pick : He.DefD := ⟨("_law_pick", none), "_law_pick", "_law_pick", defArgs s_law_pick, defBody s_law_pick, defScope s_law_pick, [], []⟩
def d_law_alike : He.DefD := ⟨("_law_alike", none), "_law_alike", "_law_alike", defArgs s_law_alike, defBody s_law_alike, defScope s_law_alike, [], []⟩
def d_law_up : He.DefD := ⟨("_law_up", none), "_law_up", "_law_up", defArgs s_law_up, defBody s_law_up, defScope s_law_up, [], []⟩
def d_law_design : He.DefD := ⟨("_law_design", none), "_law_design", "_law_design", defArgs s_law_design, defBody s_law_design, defScope s_law_design, [], []⟩
def d_law_places : He.DefD := ⟨("_law_places", none), "_law_places", "_law_places", defArgs s_law_places, defBody s_law_places, defScope s_law_places, [], []⟩
def d_law_entries : He.DefD := ⟨("_law_entries", none), "_law_entries", "_law_entries", defArgs s_law_entries, defBody s_law_entries, defScope s_law_entries, [], []⟩
def d_law_is_open : He.DefD := ⟨("_law_is_open", none), "_law_is_open", "_law_is_open", defArgs s_law_is_open, defBody s_law_is_open, defScope s_law_is_open, [], []⟩
def d_law_opens : He.DefD := ⟨("_law_opens", none), "_law_opens", "_law_opens", defArgs s_law_opens, defBody s_law_opens, defScope s_law_opens, [], []⟩
def d_law_held : He.DefD := ⟨("_law_held", none), "_law_held", "_law_held", defArgs s_law_held, defBody s_law_held, defScope s_law_held, [], []⟩
def d_law_least : He.DefD := ⟨("_law_least", none), "_law_least", "_law_least", defArgs s_law_least, defBody s_law_least, defScope s_law_least, [], []⟩
def d_law_more : He.DefD := ⟨("_law_more", none), "_law_more", "_law_more", defArgs s_law_more, defBody s_law_more, defScope s_law_more, [], []⟩
def d_law : He.DefD := ⟨("law", none), "law", "law", defArgs s_law, defBody s_law, defScope s_law, [], []⟩
def fnL : List He.DefD := [d_is_integer, d_is_in, d_is_list, d_is_place, d_are_places, d_is_path, d_rises, d_are_paths, d_is_entry_in, d_are_waits, d_is_design, d_need_design, d_is_entry, d_need_entry, d_place_in, d_effect_in, d_used_in, d_entries_apart, d_every_entry, d_all_entries, d_value_open, d_open_in, d_opens_in, d_by_memory, d_missing_in, d_is_open, d_open_entries, d_is_right, d_least_waits, d_law_taken, d_law_pick, d_law_alike, d_law_up, d_law_design, d_law_places, d_law_entries, d_law_is_open, d_law_opens, d_law_held, d_law_least, d_law_more, d_law]
def fa0 : List He.Fa := [.glo "is_integer", .glo "is_in", .glo "is_list", .glo "is_place", .glo "are_places", .glo "is_path", .glo "rises", .glo "are_paths", .glo "is_entry_in", .glo "are_waits", .glo "is_design", .glo "need_design", .glo "is_entry", .glo "need_entry", .glo "place_in", .glo "effect_in", .glo "used_in", .glo "entries_apart", .glo "every_entry", .glo "all_entries", .glo "value_open", .glo "open_in", .glo "opens_in", .glo "by_memory", .glo "missing_in", .glo "is_open", .glo "open_entries", .glo "is_right", .glo "least_waits", .glo "_law_taken"]
def fa1 : List He.Fa := [.glo "_law_pick", .glo "_law_alike", .glo "_law_up", .glo "_law_design", .glo "_law_places", .glo "_law_entries", .glo "_law_is_open", .glo "_law_opens", .glo "_law_held", .glo "_law_least", .glo "_law_more", .glo "law", .glo "WRITING", .glo "EFFECTS", .glo "USERS", .glo "NAMES", .free "isinstance", .free "int", .free "bool", .free "tuple", .free "list", .free "str", .free "len", .free "all", .free "range", .free "sorted", .free "min", .free "max", .free "dict", .int "MOST_PLACE" 7]
def fa2 : List He.Fa := [.int "MOST_APART" 7]
def faL : List He.Fa := fa0 ++ fa1 ++ fa2
def nm0 : List PySem.Str := ["is_integer", "is_in", "is_list", "BeltError", "BadDesign", "BadEntry", "WRITING", "MOST_PLACE", "MOST_APART", "USERS", "EFFECTS", "NAMES", "is_place", "are_places", "is_path", "rises", "are_paths", "is_entry_in", "are_waits", "is_design", "need_design", "is_entry", "need_entry", "place_in", "effect_in", "used_in", "entries_apart", "every_entry", "all_entries", "value_open"]
def nm1 : List PySem.Str := ["open_in", "opens_in", "by_memory", "missing_in", "is_open", "open_entries", "is_right", "least_waits", "_law_taken", "_law_pick", "_law_alike", "_law_up", "_law_design", "_law_places", "_law_entries", "_law_is_open", "_law_opens", "_law_held", "_law_least", "_law_more"]
def nmL : List PySem.Str := nm0 ++ nm1

def exK (K : PySem.W.Frag) : Bool := gloB K "WRITING" kWRITING && (gloB K "EFFECTS" kEFFECTS && (gloB K "USERS" kUSERS && gloB K "NAMES" kNAMES))
abbrev R0 : PySem.W.OpenRow := PySem.W.OpenLaw.row PySem.Challenge.rw_stagebelt_k02_whole_entries
abbrev hk : PySem.W.Hook := He.hookX 4 faL fnL [] [] exK
def ob (s : PySem.W.SharedT) : He.AlX := He.obsX 4 faL fnL [] [] exK (HandSHeadRun.getT s)
theorem ob_eq (s : PySem.W.SharedT) : ob s = hk.obs s.abs := He.obsX_eq (HandSHeadRun.getT_eq s)
theorem run (w : World) : HandSHeadRun.RunEq R0 (PySem.W.view R0.prog [55]) hk ob 4000 nmL w := by
  intro os
  kernel_rfl
end SB
namespace SB
open PySem PySem.Spec PyProof.Rows L2
/-! ### the end: each def from the head's facts -/
theorem df_of {w : World} {h : Heap} {K : PySem.W.Frag} {mg : Str → Option Value} (X : K.In h) (G : h.Ns mainGlobals mg) (c : He.SaysX faL fnL [] [] exK w h K) (i j : Nat) {x : Str} {st : Stmt} (hd : fnL[i]? = some ⟨(x, none), x, x, defArgs st, defBody st, defScope st, [], []⟩) (hg : faL[j]? = some (.glo x)) : Df K mg x st := by
  obtain ⟨fd, F⟩ := c.t.d.def_ i hd
  exact ⟨He.ga K x, fd, F, He.glo_ok X G (c.t.d.fact j hg)⟩
theorem tx_of {w : World} {h : Heap} {K : PySem.W.Frag} {mg : Str → Option Value} (X : K.In h) (G : h.Ns mainGlobals mg) (c : He.SaysX faL fnL [] [] exK w h K) : Tx K mg := by
  have m := c.more
  unfold exK at m
  simp only [Bool.and_eq_true] at m
  obtain ⟨m1, m2, m3, m4⟩ := m
  exact {
    isinstance := He.free_ok X G (c.t.d.fact 46 (f := .free "isinstance") rfl)
    int := He.free_ok X G (c.t.d.fact 47 (f := .free "int") rfl)
    bool := He.free_ok X G (c.t.d.fact 48 (f := .free "bool") rfl)
    tuple := He.free_ok X G (c.t.d.fact 49 (f := .free "tuple") rfl)
    list := He.free_ok X G (c.t.d.fact 50 (f := .free "list") rfl)
    str := He.free_ok X G (c.t.d.fact 51 (f := .free "str") rfl)
    len := He.free_ok X G (c.t.d.fact 52 (f := .free "len") rfl)
    all := He.free_ok X G (c.t.d.fact 53 (f := .free "all") rfl)
    range := He.free_ok X G (c.t.d.fact 54 (f := .free "range") rfl)
    sorted := He.free_ok X G (c.t.d.fact 55 (f := .free "sorted") rfl)
    min := He.free_ok X G (c.t.d.fact 56 (f := .free "min") rfl)
    max := He.free_ok X G (c.t.d.fact 57 (f := .free "max") rfl)
    dict := He.free_ok X G (c.t.d.fact 58 (f := .free "dict") rfl)
    place := He.int_ok X G (c.t.d.fact 59 (f := .int "MOST_PLACE" 7) rfl)
    apart := He.int_ok X G (c.t.d.fact 60 (f := .int "MOST_APART" 7) rfl)
    gW := He.glo_ok X G (c.t.d.fact 42 (f := .glo "WRITING") rfl)
    gE := He.glo_ok X G (c.t.d.fact 43 (f := .glo "EFFECTS") rfl)
    gU := He.glo_ok X G (c.t.d.fact 44 (f := .glo "USERS") rfl)
    gN := He.glo_ok X G (c.t.d.fact 45 (f := .glo "NAMES") rfl)
    kW := glo_rp m1
    kE := glo_rp m2
    kU := glo_rp m3
    kN := glo_rp m4
  }
theorem law_ok {w : World} {h : Heap} {K : PySem.W.Frag} {mg : Str → Option Value} (X : K.In h) (G : h.Ns mainGlobals mg) (c : He.SaysX faL fnL [] [] exK w h K) {P : Program} {w2 : World} {base : Heap} {f : Addr} {fd : FuncData} (F : FunD K "law" "law" (defArgs s_law) (defBody s_law) (defScope s_law) [] [] f fd) : FnOk P w2 K mg base CX0 9 f fd ["_law_script"] (spLaw K) := by
  have T := tx_of X G c
  have C_law_alike : OkD P w2 K mg base 3 "_law_alike" ["_law_found", "_law_due"] (spD K R_law_alike) := ok_law_alike (df_of X G c 31 31 (x := "_law_alike") (st := s_law_alike) rfl rfl) T 
  have C_law_taken : OkD P w2 K mg base 1 "_law_taken" ["_law_row", "_law_many"] (spTaken K) := ok_law_taken (df_of X G c 29 29 (x := "_law_taken") (st := s_law_taken) rfl rfl) T 
  have C_law_up : OkD P w2 K mg base 2 "_law_up" ["_law_row", "_law_least_here", "_law_most"] (spUp K) := ok_law_up (df_of X G c 32 32 (x := "_law_up") (st := s_law_up) rfl rfl) T C_law_taken
  have C_law_design : OkD P w2 K mg base 3 "_law_design" ["_law_row"] (spDesign K) := ok_law_design (df_of X G c 33 33 (x := "_law_design") (st := s_law_design) rfl rfl) T C_law_taken C_law_up
  have C_law_entries : OkD P w2 K mg base 1 "_law_entries" [] (spD K R_law_entries) := ok_law_entries (df_of X G c 35 35 (x := "_law_entries") (st := s_law_entries) rfl rfl) T 
  have C_law_held : OkD P w2 K mg base 1 "_law_held" ["_law_entry", "_law_waits"] (spD K R_law_held) := ok_law_held (df_of X G c 38 38 (x := "_law_held") (st := s_law_held) rfl rfl) T 
  have C_law_is_open : OkD P w2 K mg base 1 "_law_is_open" ["_law_design_here", "_law_spots", "_law_entry"] (spD K R_law_is_open) := ok_law_is_open (df_of X G c 36 36 (x := "_law_is_open") (st := s_law_is_open) rfl rfl) T 
  have C_law_places : OkD P w2 K mg base 1 "_law_places" ["_law_design_here"] (spPlaces K) := ok_law_places (df_of X G c 34 34 (x := "_law_places") (st := s_law_places) rfl rfl) T 
  have C_law_opens : OkD P w2 K mg base 2 "_law_opens" ["_law_design_here"] (spD K R_law_opens) := ok_law_opens (df_of X G c 37 37 (x := "_law_opens") (st := s_law_opens) rfl rfl) T C_law_entries C_law_is_open C_law_places
  have C_law_least : OkD P w2 K mg base 3 "_law_least" ["_law_design_here"] (spD K R_law_least) := ok_law_least (df_of X G c 39 39 (x := "_law_least") (st := s_law_least) rfl rfl) T C_law_opens
  have C_law_pick : OkD P w2 K mg base 2 "_law_pick" ["_law_row", "_law_kinds"] (spPick K) := ok_law_pick (df_of X G c 30 30 (x := "_law_pick") (st := s_law_pick) rfl rfl) T C_law_taken
  have C_law_more : OkD P w2 K mg base 3 "_law_more" ["_law_row", "_law_waits", "_law_many"] (spMore K) := ok_law_more (df_of X G c 40 40 (x := "_law_more") (st := s_law_more) rfl rfl) T C_law_entries C_law_pick C_law_taken
  have C_entries_apart : OkD P w2 K mg base 1 "entries_apart" ["apart"] (spApart K) := ok_entries_apart (df_of X G c 17 17 (x := "entries_apart") (st := s_entries_apart) rfl rfl) T 
  have C_every_entry : OkD P w2 K mg base 2 "every_entry" [] (spD K R_every_entry) := ok_every_entry (df_of X G c 18 18 (x := "every_entry") (st := s_every_entry) rfl rfl) T C_entries_apart
  have C_all_entries : OkD P w2 K mg base 3 "all_entries" [] (spD K R_all_entries) := ok_all_entries (df_of X G c 19 19 (x := "all_entries") (st := s_all_entries) rfl rfl) T C_every_entry
  have C_is_integer : OkD P w2 K mg base 1 "is_integer" ["value"] (spD K R_is_integer) := ok_is_integer (df_of X G c 0 0 (x := "is_integer") (st := s_is_integer) rfl rfl) T 
  have C_is_in : OkD P w2 K mg base 2 "is_in" ["value", "least", "most"] (spD K R_is_in) := ok_is_in (df_of X G c 1 1 (x := "is_in") (st := s_is_in) rfl rfl) T C_is_integer
  have C_is_list : OkD P w2 K mg base 1 "is_list" ["value", "least", "most"] (spD K R_is_list) := ok_is_list (df_of X G c 2 2 (x := "is_list") (st := s_is_list) rfl rfl) T 
  have C_is_entry_in : OkD P w2 K mg base 3 "is_entry_in" ["value"] (spD K R_is_entry_in) := ok_is_entry_in (df_of X G c 8 8 (x := "is_entry_in") (st := s_is_entry_in) rfl rfl) T C_is_in C_is_list
  have C_is_entry : OkD P w2 K mg base 4 "is_entry" ["value"] (spD K R_is_entry) := ok_is_entry (df_of X G c 12 12 (x := "is_entry") (st := s_is_entry) rfl rfl) T C_is_entry_in
  have C_is_place : OkD P w2 K mg base 3 "is_place" ["value"] (spD K R_is_place) := ok_is_place (df_of X G c 3 3 (x := "is_place") (st := s_is_place) rfl rfl) T C_is_in
  have C_is_path : OkD P w2 K mg base 4 "is_path" ["value"] (spD K R_is_path) := ok_is_path (df_of X G c 5 5 (x := "is_path") (st := s_is_path) rfl rfl) T C_is_list C_is_place
  have C_rises : OkD P w2 K mg base 1 "rises" ["some"] (spD K R_rises) := ok_rises (df_of X G c 6 6 (x := "rises") (st := s_rises) rfl rfl) T 
  have C_are_paths : OkD P w2 K mg base 5 "are_paths" ["value"] (spD K R_are_paths) := ok_are_paths (df_of X G c 7 7 (x := "are_paths") (st := s_are_paths) rfl rfl) T C_is_path C_rises
  have C_are_places : OkD P w2 K mg base 4 "are_places" ["read", "places"] (spD K R_are_places) := ok_are_places (df_of X G c 4 4 (x := "are_places") (st := s_are_places) rfl rfl) T C_is_list C_is_place
  have C_are_waits : OkD P w2 K mg base 4 "are_waits" ["value"] (spD K R_are_waits) := ok_are_waits (df_of X G c 9 9 (x := "are_waits") (st := s_are_waits) rfl rfl) T C_is_entry_in C_rises
  have C_is_design : OkD P w2 K mg base 6 "is_design" ["value"] (spD K R_is_design) := ok_is_design (df_of X G c 10 10 (x := "is_design") (st := s_is_design) rfl rfl) T C_are_paths C_are_places C_are_waits C_is_list C_is_place
  have C_need_design : OkD P w2 K mg base 7 "need_design" ["design"] (spD K R_need_design) := ok_need_design (df_of X G c 11 11 (x := "need_design") (st := s_need_design) rfl rfl) T C_is_design
  have C_need_entry : OkD P w2 K mg base 4 "need_entry" ["entry"] (spD K R_need_entry) := ok_need_entry (df_of X G c 13 13 (x := "need_entry") (st := s_need_entry) rfl rfl) T C_is_entry_in
  have C_place_in : OkD P w2 K mg base 1 "place_in" ["design", "kind", "what"] (spD K R_place_in) := ok_place_in (df_of X G c 14 14 (x := "place_in") (st := s_place_in) rfl rfl) T 
  have C_effect_in : OkD P w2 K mg base 2 "effect_in" ["design", "kind"] (spD K R_effect_in) := ok_effect_in (df_of X G c 15 15 (x := "effect_in") (st := s_effect_in) rfl rfl) T C_place_in
  have C_used_in : OkD P w2 K mg base 2 "used_in" ["design", "kind", "role"] (spD K R_used_in) := ok_used_in (df_of X G c 16 16 (x := "used_in") (st := s_used_in) rfl rfl) T C_place_in
  have C_value_open : OkD P w2 K mg base 3 "value_open" ["design", "entry"] (spD K R_value_open) := ok_value_open (df_of X G c 20 20 (x := "value_open") (st := s_value_open) rfl rfl) T C_place_in C_used_in
  have C_open_in : OkD P w2 K mg base 4 "open_in" ["design", "entry"] (spD K R_open_in) := ok_open_in (df_of X G c 21 21 (x := "open_in") (st := s_open_in) rfl rfl) T C_effect_in C_place_in C_value_open
  have C_is_open : OkD P w2 K mg base 8 "is_open" ["design", "entry"] (spD K R_is_open) := ok_is_open (df_of X G c 25 25 (x := "is_open") (st := s_is_open) rfl rfl) T C_need_design C_need_entry C_open_in
  have C_by_memory : OkD P w2 K mg base 1 "by_memory" ["entry", "entries"] (spD K R_by_memory) := ok_by_memory (df_of X G c 23 23 (x := "by_memory") (st := s_by_memory) rfl rfl) T 
  have C_opens_in : OkD P w2 K mg base 5 "opens_in" ["design"] (spD K R_opens_in) := ok_opens_in (df_of X G c 22 22 (x := "opens_in") (st := s_opens_in) rfl rfl) T C_every_entry C_open_in
  have C_missing_in : OkD P w2 K mg base 6 "missing_in" ["design"] (spD K R_missing_in) := ok_missing_in (df_of X G c 24 24 (x := "missing_in") (st := s_missing_in) rfl rfl) T C_by_memory C_opens_in
  have C_is_right : OkD P w2 K mg base 8 "is_right" ["design"] (spD K R_is_right) := ok_is_right (df_of X G c 27 27 (x := "is_right") (st := s_is_right) rfl rfl) T C_missing_in C_need_design
  have C_least_waits : OkD P w2 K mg base 8 "least_waits" ["design"] (spD K R_least_waits) := ok_least_waits (df_of X G c 28 28 (x := "least_waits") (st := s_least_waits) rfl rfl) T C_by_memory C_need_design C_opens_in
  have C_open_entries : OkD P w2 K mg base 8 "open_entries" ["design"] (spD K R_open_entries) := ok_open_entries (df_of X G c 26 26 (x := "open_entries") (st := s_open_entries) rfl rfl) T C_need_design C_opens_in
  exact ok_law F T C_law_alike C_law_design C_law_entries C_law_held C_law_least C_law_more C_law_opens C_law_pick C_law_taken C_all_entries C_is_entry C_is_open C_is_right C_least_waits C_open_entries
end SB
open PySem PySem.W PySem.Calls PyProof.Rows
theorem PySem.Challenge.cw_stagebelt_k02_whole_entries_holds : PySem.Challenge.rw_stagebelt_k02_whole_entries.Holds := by
  w_on; o_law
  refine HandSHeadRun.head_any (r := OpenLaw.row PySem.Challenge.rw_stagebelt_k02_whole_entries) (q := view (OpenLaw.row PySem.Challenge.rw_stagebelt_k02_whole_entries).prog [55]) (H := SB.hk) (ob := SB.ob) (M := 4000) (loose := SB.nmL) (d := HandSHeadRun.topDef (OpenLaw.row PySem.Challenge.rw_stagebelt_k02_whole_entries).prog 55) (kwd := []) SB.ob_eq
    (by kernel_rfl) (fun s => by kernel_rfl) SB.run (by kernel_rfl) (by kernel_rfl) (by kernel_rfl) (by rfl) (by first | assumption | decide +kernel) (by decide +kernel) ⟨rfl, rfl, rfl, rfl, rfl, by decide +kernel⟩ ?hw ?hc
  case hw => w_witness2
  case hc =>
    refine L2.walk_ofE (l := PySem.Challenge.rw_stagebelt_k02_whole_entries) (n := 63) (k := 9) (x := "_law_script") (CX := L2.CX0) rfl (by decide) (by kernel_rfl) ⟨rfl, by decide, by decide⟩ ?F (fun _ _ _ _ z => z)
    intro w mg fa h Y G hmg0
    obtain ⟨K, KX, c⟩ := Y
    have hmg : mg ("law" : PySem.Str) = some (.ref fa) := by
      have e : (HandSHeadRun.topDef (OpenLaw.row PySem.Challenge.rw_stagebelt_k02_whole_entries).prog 55).name = ("law" : PySem.Str) := by kernel_rfl
      rw [← e]
      exact hmg0
    obtain ⟨fd, F⟩ := c.t.d.def_ 41 (d := SB.d_law) rfl
    have e := hmg.symm.trans (He.glo_ok KX G (c.t.d.fact 41 (f := .glo "law") rfl))
    cases e
    have b := L2.FunD.bindsA (ps := ["_law_script"]) F fun _ _ _ _ _ _ us hl => match us, hl with | [_], _ => rfl
    exact ⟨K, fd, SB.spLaw K, KX, fun s v => b s [v] rfl, fun H a ns hl _ hS => ⟨a, ns, rfl, hS, fun _ => rfl⟩, fun base _ _ => SB.law_ok KX G c F⟩
