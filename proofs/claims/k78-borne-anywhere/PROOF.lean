import PyProof.Rows.All
import Wide.All
import OpenK.AllK
import Wide.FinOn
import HandS.ForMost
import HandS.Exc
import HandS.TryOnly
import HandS.ExcOwn
import HandS.WordsExc
import HandS.Codes
import HandS.Flow
import HandS.Style
import HandS.IsInst
import HandS.Conv
import HandS.SortKw
import HandS.Wide
import HandS.TupAny
import HandS.Deep
import PyProof.StrBlock2
import KE.DatumOrd
import PyProof.ReprRoads
import HandS.ExcIs
import HandS.Ends
import PyProof.ReprLen
import PySem.Challenge.RW_endwise_k78_borne_anywhere
set_option Elab.async false
set_option linter.all false
set_option maxRecDepth 100000
/-! Layer Q: plain data over the hand layer. D: a value without addresses (tuples as they are, lists and dicts by their number in a store); each rule of the hand layer is told over (slots as data, store). -/
namespace Qd
open PySem PySem.Spec PyProof.Rows L2
inductive D where
  | non | bl (b : Bool) | int (i : Int) | str (x : Str) | tup (ds : List D) | loc (n : Nat) | adr (a : Addr) | scr (is : List Int)
/-- what stands at a number of the store -/
inductive Cell where
  | lst (w : Bool) (ds : List D)
  | dK (w : Bool) (kvs : List (Key × D))
  | dT (w : Bool) (kvs : List (List Key × D))
  | ins (C : Addr) (fs : List (Str × D))
abbrev Store := List Cell
abbrev Slots := List (Option D)
/-- a list that is never written, no cell of the store -/
def Scr (K : PySem.W.Frag) (φ : List Addr) (H : Hp) (a : Addr) (xs : List V) : Prop :=
  (a ∉ φ ∧ ∃ o, H a = some (.frz o (.lst xs))) ∨ ∃ (o : Obj) (its : Array Value) (n : Nat), K.lookup a = some o ∧ o.cls = .type "list" ∧ o.dict = none ∧ o.data = .seq its n ∧ its.size ≤ sizeLine ∧ Vals xs its.toList
mutual
def RV (K : PySem.W.Frag) (φ : List Addr) (H : Hp) : D → V → Prop
  | .non, v => v = .non
  | .bl b, v => v = .bl b
  | .int i, v => v = .int i
  | .str x, v => v = .str x
  | .tup ds, v => ∃ a xs, v = .ref a ∧ H a = some (.tup xs) ∧ RVs K φ H ds xs
  | .loc n, v => ∃ a, φ[n]? = some a ∧ v = .ref a
  | .adr a, v => v = .ref a
  | .scr is, v => ∃ a, v = .ref a ∧ Scr K φ H a (is.map V.int)
def RVs (K : PySem.W.Frag) (φ : List Addr) (H : Hp) : List D → List V → Prop
  | [], xs => xs = []
  | d :: ds, xs => ∃ x r, xs = x :: r ∧ RV K φ H d x ∧ RVs K φ H ds r
end
def RK {κ : Type} (K : PySem.W.Frag) (φ : List Addr) (H : Hp) : List (κ × D) → List (κ × V) → Prop
  | [], ys => ys = []
  | (k, d) :: r, ys => ∃ v q, ys = (k, v) :: q ∧ RV K φ H d v ∧ RK K φ H r q
def RC (K : PySem.W.Frag) (φ : List Addr) (H : Hp) (a : Addr) : Cell → Prop
  | .lst w ds => ∃ xs, (if w = true then H a = some (.lst xs) else SqL K H a xs) ∧ RVs K φ H ds xs
  | .dK w kvs => ∃ ys, (if w = true then H a = some (.dK ys) else ∃ o, H a = some (.frz o (.dK ys))) ∧ RK K φ H kvs ys
  | .dT w kvs => ∃ ys, (if w = true then H a = some (.dT ys) else ∃ o, H a = some (.frz o (.dT ys))) ∧ RK K φ H kvs ys
  | .ins C fs => ∃ dx gs, H a = some (.ins C dx gs) ∧ RK K φ H fs gs
/-- the store is held at the addresses φ -/
structure RS (K : PySem.W.Frag) (φ : List Addr) (S : Store) (H : Hp) : Prop where
  len : φ.length = S.length
  nd : φ.Nodup
  dom : ∀ a ∈ φ, H a ≠ none
  here : ∀ (n : Nat) (a : Addr) (c : Cell), φ[n]? = some a → S[n]? = some c → RC K φ H a c
/-- the slots are held -/
structure RE (K : PySem.W.Frag) (φ : List Addr) (H : Hp) (env : Slots) (σ : L2.St) : Prop where
  len : env.length = σ.length
  here : ∀ (i : Nat) (d : D), env[i]? = some (some d) → ∃ v, σ[i]? = some (some v) ∧ RV K φ H d v
/-- from one heap to a later one -/
structure Ext (φ : List Addr) (H : Hp) (φ' : List Addr) (H' : Hp) : Prop where
  pre : ∃ ψ, φ' = φ ++ ψ ∧ ∀ a ∈ ψ, H a = none
  keep : ∀ a o, a ∉ φ → H a = some o → H' a = some o
  tups : ∀ a xs, H a = some (.tup xs) → H' a = some (.tup xs)
  dom : ∀ a ∈ φ', H' a ≠ none
section
variable {K : PySem.W.Frag} {φ φ' φ'' : List Addr} {H H' H'' : Hp} {S : Store}
theorem Ext.refl (d : ∀ a ∈ φ, H a ≠ none) : Ext φ H φ H := ⟨⟨[], by simp, fun a h => by simp at h⟩, fun _ _ _ h => h, fun _ _ h => h, d⟩
theorem RS.ext (r : RS K φ S H) : Ext φ H φ H := Ext.refl r.dom
theorem Ext.get (e : Ext φ H φ' H') {n : Nat} {a : Addr} (h : φ[n]? = some a) : φ'[n]? = some a := by
  obtain ⟨ψ, rfl, _⟩ := e.pre
  rw [List.getElem?_append_left (List.getElem?_eq_some_iff.mp h).1]
  exact h
theorem Ext.mem (e : Ext φ H φ' H') {a : Addr} (h : a ∈ φ) : a ∈ φ' := by
  obtain ⟨ψ, rfl, _⟩ := e.pre
  exact List.mem_append_left _ h
theorem Ext.trans (e : Ext φ H φ' H') (f : Ext φ' H' φ'' H'') : Ext φ H φ'' H'' := by
  obtain ⟨ψ, e1, e2⟩ := e.pre
  obtain ⟨χ, f1, f2⟩ := f.pre
  refine ⟨⟨ψ ++ χ, ?_, fun a ha => ?_⟩, fun a o na h => ?_, fun a xs h => f.tups a xs (e.tups a xs h), f.dom⟩
  · rw [f1, e1, List.append_assoc]
  · rcases List.mem_append.mp ha with h | h
    · exact e2 a h
    · cases q : H a with
      | none => rfl
      | some o =>
        by_cases hm : a ∈ φ
        · exact absurd (f2 a h) (e.dom a (e.mem hm))
        · have := f2 a h
          rw [e.keep a o hm q] at this
          cases this
  · refine f.keep a o ?_ (e.keep a o na h)
    rw [e1]
    intro hm
    rcases List.mem_append.mp hm with z | z
    · exact na z
    · rw [e2 a z] at h
      cases h
/-- what a value leans on -/
structure Mn (φ : List Addr) (H : Hp) (φ' : List Addr) (H' : Hp) : Prop where
  get : ∀ {n : Nat} {a : Addr}, φ[n]? = some a → φ'[n]? = some a
  tups : ∀ a xs, H a = some (.tup xs) → H' a = some (.tup xs)
  scr : ∀ a o xs, a ∉ φ → H a = some (.frz o (.lst xs)) → a ∉ φ' ∧ H' a = some (.frz o (.lst xs))
theorem Ext.scr (e : Ext φ H φ' H') (a : Addr) (o : Obj) (xs : List V) (n : a ∉ φ) (h : H a = some (.frz o (.lst xs))) : a ∉ φ' ∧ H' a = some (.frz o (.lst xs)) := by
  refine ⟨fun z => ?_, e.keep a _ n h⟩
  obtain ⟨ψ, rfl, e2⟩ := e.pre
  rcases List.mem_append.mp z with q | q
  · exact n q
  · rw [e2 a q] at h; cases h
theorem Ext.mn (e : Ext φ H φ' H') : Mn φ H φ' H' := ⟨e.get, e.tups, e.scr⟩
theorem Mn.sqT (e : Mn φ H φ' H') {a : Addr} {xs : List V} (h : H a = some (.tup xs)) : H' a = some (.tup xs) := e.tups a xs h
theorem Ext.sqT (e : Ext φ H φ' H') {a : Addr} {xs : List V} (h : H a = some (.tup xs)) : H' a = some (.tup xs) := e.tups a xs h
mutual
theorem RV.mn (e : Mn φ H φ' H') : ∀ {d : D} {v : V}, RV K φ H d v → RV K φ' H' d v
  | .non, _, h => h
  | .bl _, _, h => h
  | .int _, _, h => h
  | .str _, _, h => h
  | .tup ds, _, ⟨a, xs, e1, e2, e3⟩ => ⟨a, xs, e1, e.sqT e2, RVs.mn e e3⟩
  | .loc n, _, ⟨a, e1, e2⟩ => ⟨a, e.get e1, e2⟩
  | .adr _, _, h => h
  | .scr _, _, ⟨a, e1, e2⟩ => ⟨a, e1, e2.elim (fun ⟨n, o, h⟩ => .inl (let z := e.scr a o _ n h; ⟨z.1, o, z.2⟩)) .inr⟩
theorem RVs.mn (e : Mn φ H φ' H') : ∀ {ds : List D} {vs : List V}, RVs K φ H ds vs → RVs K φ' H' ds vs
  | [], _, h => h
  | _ :: _, _, ⟨x, r, e1, e2, e3⟩ => ⟨x, r, e1, RV.mn e e2, RVs.mn e e3⟩
end
theorem RK.mn {κ : Type} (e : Mn φ H φ' H') : ∀ {ds : List (κ × D)} {vs : List (κ × V)}, RK K φ H ds vs → RK K φ' H' ds vs
  | [], _, h => h
  | (_, _) :: _, _, ⟨x, r, e1, e2, e3⟩ => ⟨x, r, e1, e2.mn e, RK.mn e e3⟩
theorem RV.mono {d : D} {v : V} (h : RV K φ H d v) (e : Ext φ H φ' H') : RV K φ' H' d v := h.mn e.mn
theorem RVs.mono {d : List D} {v : List V} (h : RVs K φ H d v) (e : Ext φ H φ' H') : RVs K φ' H' d v := h.mn e.mn
theorem RK.mono {κ : Type} {ds : List (κ × D)} {vs : List (κ × V)} (h : RK K φ H ds vs) (e : Ext φ H φ' H') : RK K φ' H' ds vs := h.mn e.mn
theorem RE.mono {env : Slots} {σ : L2.St} (r : RE K φ H env σ) (e : Ext φ H φ' H') : RE K φ' H' env σ :=
  ⟨r.len, fun i d h => let ⟨v, a, b⟩ := r.here i d h; ⟨v, a, b.mono e⟩⟩
theorem RVs.len : ∀ {ds : List D} {vs : List V}, RVs K φ H ds vs → ds.length = vs.length
  | [], _, h => by subst h; rfl
  | _ :: _, _, ⟨x, r, e1, _, e3⟩ => by subst e1; simp [RVs.len e3]
theorem RVs.get : ∀ {ds : List D} {vs : List V} {i : Nat} {d : D}, RVs K φ H ds vs → ds[i]? = some d → ∃ v, vs[i]? = some v ∧ RV K φ H d v
  | [], _, _, _, _, e => by simp at e
  | d :: ds, _, 0, _, ⟨x, r, e1, e2, e3⟩, e => by
    subst e1
    simp at e
    subst e
    exact ⟨x, rfl, e2⟩
  | d :: ds, _, i + 1, _, ⟨x, r, e1, e2, e3⟩, e => by
    subst e1
    obtain ⟨v, h1, h2⟩ := RVs.get (i := i) e3 (by simpa using e)
    exact ⟨v, by simpa using h1, h2⟩
theorem RVs.append : ∀ {ds es : List D} {vs us : List V}, RVs K φ H ds vs → RVs K φ H es us → RVs K φ H (ds ++ es) (vs ++ us)
  | [], _, _, _, h, g => by subst h; exact g
  | _ :: _, _, _, _, ⟨x, r, e1, e2, e3⟩, g => by subst e1; exact ⟨x, _, rfl, e2, RVs.append e3 g⟩
theorem RVs.take : ∀ {ds : List D} {vs : List V} (n : Nat), RVs K φ H ds vs → RVs K φ H (ds.take n) (vs.take n)
  | _, _, 0, _ => rfl
  | [], _, _ + 1, h => by subst h; rfl
  | _ :: _, _, n + 1, ⟨x, r, e1, e2, e3⟩ => by subst e1; exact ⟨x, _, rfl, e2, RVs.take n e3⟩
theorem RVs.drop : ∀ {ds : List D} {vs : List V} (n : Nat), RVs K φ H ds vs → RVs K φ H (ds.drop n) (vs.drop n)
  | _, _, 0, h => h
  | [], _, _ + 1, h => by subst h; rfl
  | _ :: _, _, n + 1, ⟨x, r, e1, e2, e3⟩ => by subst e1; exact RVs.drop n e3
theorem RVs.set : ∀ {ds : List D} {vs : List V} {d : D} {v : V} (n : Nat), RVs K φ H ds vs → RV K φ H d v → RVs K φ H (ds.set n d) (vs.set n v)
  | [], _, _, _, _, h, _ => by subst h; rfl
  | _ :: _, _, _, _, 0, ⟨x, r, e1, e2, e3⟩, g => by subst e1; exact ⟨_, _, rfl, g, e3⟩
  | _ :: _, _, _, _, n + 1, ⟨x, r, e1, e2, e3⟩, g => by subst e1; exact ⟨x, _, rfl, e2, RVs.set n e3 g⟩
theorem RVs.reverse : ∀ {ds : List D} {vs : List V}, RVs K φ H ds vs → RVs K φ H ds.reverse vs.reverse
  | [], _, h => by subst h; rfl
  | d :: ds, _, ⟨x, r, e1, e2, e3⟩ => by
    subst e1
    rw [List.reverse_cons, List.reverse_cons]
    exact (RVs.reverse e3).append ⟨x, [], rfl, e2, rfl⟩
theorem RVs.ints : ∀ {is : List Int}, RVs K φ H (is.map D.int) (is.map V.int)
  | [] => rfl
  | i :: is => ⟨_, _, rfl, rfl, RVs.ints⟩
theorem RVs.nil_iff {ds : List D} {vs : List V} (h : RVs K φ H ds vs) : ds.isEmpty = vs.isEmpty := by
  have e := h.len
  cases ds <;> cases vs <;> simp_all
/-- a new object that is no cell of the store -/
theorem Ext.fresh {p : Addr} {o : HO} (r : RS K φ S H) (h : H p = none) : Ext φ H φ (upd H p o) := by
  refine ⟨⟨[], by simp, fun a z => by simp at z⟩, fun a u _ e => ?_, fun a xs e => ?_, fun a ha => ?_⟩
  · rw [upd_ne (ne_of_none e h)]; exact e
  · rw [upd_ne (ne_of_none e h)]; exact e
  · by_cases e : a = p
    · subst e; rw [upd_same]; exact fun z => by cases z
    · rw [upd_ne e]; exact r.dom a ha
theorem RC.mono {a : Addr} {c : Cell} (e : Mn φ H φ' H') (ha : H' a = H a) (h : RC K φ H a c) : RC K φ' H' a c := by
  cases c with
  | lst w ds =>
    obtain ⟨xs, h1, h2⟩ := h
    refine ⟨xs, ?_, h2.mn e⟩
    cases w with
    | true => rw [if_pos rfl] at h1 ⊢; rw [ha]; exact h1
    | false =>
      rw [if_neg (by decide)] at h1 ⊢
      rcases h1 with (h1 | ⟨o, h1⟩) | h1
      · exact .inl (.inl (by rw [ha]; exact h1))
      · exact .inl (.inr ⟨o, by rw [ha]; exact h1⟩)
      · exact .inr h1
  | dK w kvs =>
    obtain ⟨xs, h1, h2⟩ := h
    exact ⟨xs, by rw [ha]; exact h1, h2.mn e⟩
  | dT w kvs =>
    obtain ⟨xs, h1, h2⟩ := h
    exact ⟨xs, by rw [ha]; exact h1, h2.mn e⟩
  | ins C fs =>
    obtain ⟨dx, xs, h1, h2⟩ := h
    exact ⟨dx, xs, by rw [ha]; exact h1, h2.mn e⟩
/-- the store as it was, at a later heap that keeps its objects -/
theorem RS.later (r : RS K φ S H) (e : Mn φ H φ H') (k : ∀ a ∈ φ, H' a = H a) : RS K φ S H' :=
  ⟨r.len, r.nd, fun a h => by rw [k a h]; exact r.dom a h, fun n a c h1 h2 => (r.here n a c h1 h2).mono e (k a (List.mem_of_getElem? h1))⟩
theorem RS.fresh {p : Addr} {o : HO} (r : RS K φ S H) (h : H p = none) : RS K φ S (upd H p o) :=
  r.later (Ext.fresh r h).mn fun a ha => upd_ne fun e => r.dom a ha (e ▸ h)
/-- a new cell -/
theorem Ext.push {p : Addr} {o : HO} (r : RS K φ S H) (h : H p = none) : Ext φ H (φ ++ [p]) (upd H p o) := by
  have e := Ext.fresh (o := o) r h
  refine ⟨⟨[p], rfl, fun a z => ?_⟩, e.keep, e.tups, fun a ha => ?_⟩
  · rw [List.mem_singleton.mp z]; exact h
  · rcases List.mem_append.mp ha with z | z
    · exact e.dom a z
    · rw [List.mem_singleton.mp z, upd_same]; exact fun z => by cases z
theorem RS.push {p : Addr} {o : HO} {c : Cell} (r : RS K φ S H) (h : H p = none) (hc : RC K (φ ++ [p]) (upd H p o) p c) : RS K (φ ++ [p]) (S ++ [c]) (upd H p o) := by
  have e := Ext.push (o := o) r h
  have np : p ∉ φ := fun z => r.dom p z h
  refine ⟨by simp [r.len], ?_, e.dom, fun n a c' h1 h2 => ?_⟩
  · rw [List.nodup_append]
    refine ⟨r.nd, by simp, fun a ha b hb => ?_⟩
    rw [List.mem_singleton.mp hb]
    rintro rfl
    exact np ha
  · by_cases hn : n < φ.length
    · rw [List.getElem?_append_left hn] at h1
      rw [List.getElem?_append_left (by rw [← r.len]; exact hn)] at h2
      exact (r.here n a c' h1 h2).mono e.mn (upd_ne fun z => np (z ▸ List.mem_of_getElem? h1))
    · rw [List.getElem?_append_right (by omega)] at h1
      rw [List.getElem?_append_right (by rw [← r.len]; omega)] at h2
      rw [← r.len] at h2
      have hz : n - φ.length = 0 := by
        have := (List.getElem?_eq_some_iff.mp h1).1
        simp at this
        omega
      rw [hz] at h1 h2
      simp at h1 h2
      subst h1 h2
      exact hc
/-- a cell is changed -/
theorem Ext.write {n : Nat} {p : Addr} {o : HO} (r : RS K φ S H) (h : φ[n]? = some p) (nt : ∀ xs, ¬ H p = some (.tup xs)) : Ext φ H φ (upd H p o) := by
  refine ⟨⟨[], by simp, fun a z => by simp at z⟩, fun a u na e => ?_, fun a xs e => ?_, fun a ha => ?_⟩
  · rw [upd_ne]; exact e
    rintro rfl
    exact na (List.mem_of_getElem? h)
  · have ne : a ≠ p := fun z => nt xs (z ▸ e)
    rw [upd_ne ne]; exact e
  · by_cases e : a = p
    · subst e; rw [upd_same]; exact fun z => by cases z
    · rw [upd_ne e]; exact r.dom a ha
theorem RS.write {n : Nat} {p : Addr} {o : HO} {c : Cell} (r : RS K φ S H) (h : φ[n]? = some p) (nt : ∀ xs, ¬ H p = some (.tup xs)) (hc : RC K φ (upd H p o) p c) : RS K φ (S.set n c) (upd H p o) := by
  have e := Ext.write (o := o) r h nt
  have hn : n < φ.length := (List.getElem?_eq_some_iff.mp h).1
  refine ⟨by simp [r.len], r.nd, e.dom, fun m a c' h1 h2 => ?_⟩
  by_cases hm : m = n
  · subst hm
    rw [h] at h1
    cases h1
    rw [List.getElem?_set_self (by rw [← r.len]; exact hn)] at h2
    cases h2
    exact hc
  · rw [List.getElem?_set_ne (Ne.symm hm)] at h2
    refine (r.here m a c' h1 h2).mono e.mn (upd_ne ?_)
    rintro rfl
    exact hm ((List.getElem?_inj (List.getElem?_eq_some_iff.mp h1).1 r.nd).mp (h1.trans h.symm))
theorem nt_lst {p : Addr} {xs : List V} (h : H p = some (.lst xs)) : ∀ ys, ¬ H p = some (.tup ys) := fun ys z => by rw [h] at z; cases z
theorem nt_dK {p : Addr} {xs : List (Key × V)} (h : H p = some (.dK xs)) : ∀ ys, ¬ H p = some (.tup ys) := fun ys z => by rw [h] at z; cases z
theorem nt_dT {p : Addr} {xs : List (List Key × V)} (h : H p = some (.dT xs)) : ∀ ys, ¬ H p = some (.tup ys) := fun ys z => by rw [h] at z; cases z
theorem nt_ins {p C dx : Addr} {fs : List (Str × V)} (h : H p = some (.ins C dx fs)) : ∀ ys, ¬ H p = some (.tup ys) := fun ys z => by rw [h] at z; cases z
end
/-! ### the readings over data -/
abbrev XQ := Addr → Store → Prop
abbrev WE := Slots → Store → (D → Store → Prop) → XQ → Prop
abbrev WT := Slots → Store → (Bool → Store → Prop) → XQ → Prop
abbrev WA := Slots → Store → (List D → Store → Prop) → XQ → Prop
structure Go where
  nx : Slots → Store → Prop
  rt : D → Store → Prop
  bk : Slots → Store → Prop := fun _ _ => False
  ct : Slots → Store → Prop := fun _ _ => False
abbrev WS := Go → Slots → Store → XQ → Prop
/-- what an exception's end asks -/
def XOk (K : PySem.W.Frag) (φ : List Addr) (H : Hp) (X' : XQ) (E : XK) : Prop := ∀ c S' φ' H', Ext φ H φ' H' → RS K φ' S' H' → X' c S' → E (.ref c) none H'
def VOk (K : PySem.W.Frag) (φ : List Addr) (H : Hp) (Q' : D → Store → Prop) (Q : VK) : Prop := ∀ d S' φ' v H', Ext φ H φ' H' → RS K φ' S' H' → RV K φ' H' d v → Q' d S' → Q v H'
def SOk (K : PySem.W.Frag) (φ : List Addr) (H : Hp) (Q' : Slots → Store → Prop) (Q : L2.St → Hp → Prop) : Prop := ∀ env S' φ' σ H', Ext φ H φ' H' → RS K φ' S' H' → RE K φ' H' env σ → Q' env S' → Q σ H'
structure GOk (K : PySem.W.Frag) (φ : List Addr) (H : Hp) (G : Go) (D : Ends) : Prop where
  nx : SOk K φ H G.nx D.nx
  rt : VOk K φ H G.rt D.rt
  bk : SOk K φ H G.bk D.bk
  ct : SOk K φ H G.ct D.ct
def LE (K : PySem.W.Frag) (E : XK) (w : WE) : TE := fun σ H Q => ∃ φ env S Q' X', RS K φ S H ∧ RE K φ H env σ ∧ w env S Q' X' ∧ VOk K φ H Q' Q ∧ XOk K φ H X' E
def LT (K : PySem.W.Frag) (E : XK) (w : WT) : TT := fun σ H Q => ∃ φ env S Q' X', RS K φ S H ∧ RE K φ H env σ ∧ w env S Q' X' ∧ (∀ b S' φ' H', Ext φ H φ' H' → RS K φ' S' H' → Q' b S' → Q b H') ∧ XOk K φ H X' E
def LA (K : PySem.W.Frag) (E : XK) (w : WA) : TA := fun σ H Q => ∃ φ env S Q' X', RS K φ S H ∧ RE K φ H env σ ∧ w env S Q' X' ∧ (∀ ds S' φ' vs H', Ext φ H φ' H' → RS K φ' S' H' → RVs K φ' H' ds vs → Q' ds S' → Q vs H') ∧ XOk K φ H X' E
def LS (K : PySem.W.Frag) (E : XK) (w : WS) : TS := fun D σ H => ∃ φ env S G X', RS K φ S H ∧ RE K φ H env σ ∧ w G env S X' ∧ GOk K φ H G D ∧ XOk K φ H X' E
section
variable {K : PySem.W.Frag} {φ φ' : List Addr} {H H' : Hp} {S : Store} {X' : XQ} {E : XK} {Q' : D → Store → Prop} {Q : VK} {P' : Slots → Store → Prop} {P : L2.St → Hp → Prop}
theorem XOk.mono (h : XOk K φ H X' E) (e : Ext φ H φ' H') : XOk K φ' H' X' E := fun c S' φ2 H2 f r x => h c S' φ2 H2 (e.trans f) r x
theorem VOk.mono (h : VOk K φ H Q' Q) (e : Ext φ H φ' H') : VOk K φ' H' Q' Q := fun d S' φ2 v H2 f r x q => h d S' φ2 v H2 (e.trans f) r x q
theorem SOk.mono (h : SOk K φ H P' P) (e : Ext φ H φ' H') : SOk K φ' H' P' P := fun d S' φ2 v H2 f r x q => h d S' φ2 v H2 (e.trans f) r x q
theorem GOk.mono {G : Go} {D : Ends} (h : GOk K φ H G D) (e : Ext φ H φ' H') : GOk K φ' H' G D := ⟨h.nx.mono e, h.rt.mono e, h.bk.mono e, h.ct.mono e⟩
end
/-! ### the judgements over data -/
section
variable {X : Cx}
theorem _root_.L2.PE.imp {e : Expr} {t u : TE} (h : PE X e t) (f : ∀ σ H Q, u σ H Q → t σ H Q) : PE X e u := ⟨fun pins s σ H Q I q => h.run pins s σ H Q I (f σ H Q q)⟩
theorem _root_.L2.PT.imp {e : Expr} {t u : TT} (h : PT X e t) (f : ∀ σ H Q, u σ H Q → t σ H Q) : PT X e u := ⟨fun pins s σ H Q I q => h.run pins s σ H Q I (f σ H Q q)⟩
theorem _root_.L2.PA.imp {e : List Expr} {t u : TA} (h : PA X e t) (f : ∀ σ H Q, u σ H Q → t σ H Q) : PA X e u := ⟨fun pos pins s σ H Q I q => h.run pos pins s σ H Q I (f σ H Q q)⟩
theorem _root_.L2.PS.imp {e : Stmt} {t u : TS} (h : PS X e t) (f : ∀ D σ H, u D σ H → t D σ H) : PS X e u := ⟨fun pins s σ H D I q => h.run pins s σ H D I (f D σ H q)⟩
theorem _root_.L2.PSs.imp {e : List Stmt} {t u : TS} (h : PSs X e t) (f : ∀ D σ H, u D σ H → t D σ H) : PSs X e u := ⟨fun pins s σ H D I q => h.run pins s σ H D I (f D σ H q)⟩
end
abbrev QE (X : Cx) (E : XK) (e : Expr) (w : WE) : Prop := PE X e (LE X.K E w)
abbrev QT (X : Cx) (E : XK) (e : Expr) (w : WT) : Prop := PT X e (LT X.K E w)
abbrev QA (X : Cx) (E : XK) (e : List Expr) (w : WA) : Prop := PA X e (LA X.K E w)
abbrev QS (X : Cx) (E : XK) (e : Stmt) (w : WS) : Prop := PS X e (LS X.K E w)
abbrev QSs (X : Cx) (E : XK) (e : List Stmt) (w : WS) : Prop := PSs X e (LS X.K E w)
/-! ### names, constants -/
def wVar (i : Nat) : WE := fun env S Q _ => ∃ d, env[i]? = some (some d) ∧ Q d S
def wC (d : D) : WE := fun _ S Q _ => Q d S
section
variable {X : Cx} {E : XK}
theorem qv (i : Nat) {x : Str} {pos : Pos} (hN : X.N[i]? = some x := by rfl) (hv : Vis X.env.scope x := by first | exact Or.inl rfl | exact Or.inr (Or.inl rfl) | exact Or.inr (Or.inr rfl)) (hd : (x == ("__debug__" : Str)) = false := by decide)
    (hcd : (x == ("__classdict__" : Str)) = false := by decide) : QE X E (.Name x pos) (wVar i) :=
  (pe_var hN hv hd hcd).imp fun σ H Q ⟨φ, env, S, Q', X', rs, re, ⟨d, e, q⟩, k, _⟩ =>
    let ⟨v, h1, h2⟩ := re.here i d e
    ⟨v, h1, k d S φ v H rs.ext rs h2 q⟩
theorem q_int {i j pos} : QE X E (.Constant (.int i) j pos) (wC (.int i)) := pe_int.imp fun σ H Q ⟨φ, env, S, Q', X', rs, re, q, k, _⟩ => k (.int i) S φ _ H rs.ext rs rfl q
theorem q_bl {i j pos} : QE X E (.Constant (.bool i) j pos) (wC (.bl i)) := pe_bl.imp fun σ H Q ⟨φ, env, S, Q', X', rs, re, q, k, _⟩ => k (.bl i) S φ _ H rs.ext rs rfl q
theorem q_non {j pos} : QE X E (.Constant .none j pos) (wC .non) := pe_non.imp fun σ H Q ⟨φ, env, S, Q', X', rs, re, q, k, _⟩ => k (.non) S φ _ H rs.ext rs rfl q
theorem q_str {i j pos} : QE X E (.Constant (.str i) j pos) (wC (.str i)) := pe_str.imp fun σ H Q ⟨φ, env, S, Q', X', rs, re, q, k, _⟩ => k (.str i) S φ _ H rs.ext rs rfl q
/-- a module's constant: an int, a text -/
theorem q_globI {x : Str} {i : Int} {pos : Pos} (hg : Gl X x) (hm : ∃ t, X.mg x = some (.int i t)) (hd : (x == ("__debug__" : Str)) = false := by decide) : QE X E (.Name x pos) (wC (.int i)) :=
  let ⟨t, hm⟩ := hm
  (pe_glob (v := .int i) hg hm ⟨t, rfl⟩ hd).imp fun σ H Q ⟨φ, env, S, Q', X', rs, re, q, k, _⟩ => k (.int i) S φ _ H rs.ext rs rfl q
theorem q_globS {x : Str} {i : Str} {pos : Pos} (hg : Gl X x) (hm : ∃ t, X.mg x = some (.str i t)) (hd : (x == ("__debug__" : Str)) = false := by decide) : QE X E (.Name x pos) (wC (.str i)) :=
  let ⟨t, hm⟩ := hm
  (pe_glob (v := .str i) hg hm ⟨t, rfl⟩ hd).imp fun σ H Q ⟨φ, env, S, Q', X', rs, re, q, k, _⟩ => k (.str i) S φ _ H rs.ext rs rfl q
end
/-! ### two operands -/
/-- an operation on data: what it asks of the operands, the store, what follows -/
abbrev WO2 := D → D → Store → (D → Store → Prop) → Prop
def RO2 (K : PySem.W.Frag) (r : R2) (f : WO2) : Prop := ∀ φ S H x y v u (Q : VK) Q', RS K φ S H → RV K φ H x v → RV K φ H y u → f x y S Q' → VOk K φ H Q' Q → r v u H Q
def wOp (f : WO2) (a b : WE) : WE := fun env S Q X => a env S (fun x S1 => b env S1 (fun y S2 => f x y S2 Q) X) X
theorem op_lift {K : PySem.W.Frag} {E : XK} {r : R2} {f : WO2} {a b : WE} (h : RO2 K r f) : ∀ σ H Q, LE K E (wOp f a b) σ H Q → tOp r (LE K E a) (LE K E b) σ H Q :=
  fun σ H Q ⟨φ, env, S, Q', X', rs, re, q, k, x⟩ =>
    ⟨φ, env, S, _, X', rs, re, q, fun d S1 φ1 v H1 e1 rs1 rv1 q1 =>
      ⟨φ1, env, S1, _, X', rs1, re.mono e1, q1, fun d2 S2 φ2 u H2 e2 rs2 rv2 q2 => h φ2 S2 H2 d d2 v u Q Q' rs2 (rv1.mono e2) rv2 q2 (k.mono (e1.trans e2)), x.mono e1⟩, x⟩
abbrev WO1 := D → Store → (D → Store → Prop) → Prop
def RO1 (K : PySem.W.Frag) (r : V → Hp → VK → Prop) (f : WO1) : Prop := ∀ φ S H x v (Q : VK) Q', RS K φ S H → RV K φ H x v → f x S Q' → VOk K φ H Q' Q → r v H Q
def wUn (f : WO1) (a : WE) : WE := fun env S Q X => a env S (fun x S1 => f x S1 Q) X
theorem un_lift {K : PySem.W.Frag} {E : XK} {r : V → Hp → VK → Prop} {f : WO1} {a : WE} (h : RO1 K r f) : ∀ σ H Q, LE K E (wUn f a) σ H Q → tUn r (LE K E a) σ H Q :=
  fun σ H Q ⟨φ, env, S, Q', X', rs, re, q, k, x⟩ =>
    ⟨φ, env, S, _, X', rs, re, q, fun d S1 φ1 v H1 e1 rs1 rv1 q1 => h φ1 S1 H1 d v Q Q' rs1 rv1 q1 (k.mono e1), x⟩
section
variable {X : Cx} {E : XK} {a b : Expr} {wa wb : WE} {pos : Pos}
theorem q_op {op : Operator} {r : R2} {f : WO2} (ho : OpR X (binaryOp op) r) (h : RO2 X.K r f) (ha : QE X E a wa) (hb : QE X E b wb) : QE X E (.BinOp a op b pos) (wOp f wa wb) :=
  (pe_op ho ha hb).imp (op_lift h)
theorem q_un {op : UnaryOp} {r : V → Hp → VK → Prop} {f : WO1} (ho : UnR X (unaryOp op) r) (h : RO1 X.K r f) (ha : QE X E a wa) : QE X E (.UnaryOp op a pos) (wUn f wa) :=
  (pe_un ho ha).imp (un_lift h)
theorem q_cmp {op : CmpOp} {r : R2} {f : WO2} (ho : OpR X (compareOp op) r) (h : RO2 X.K r f) (ha : QE X E a wa) (hb : QE X E b wb) (hm : behindInMarks op b = false) : QE X E (.Compare a [op] [b] pos) (wOp f wa wb) :=
  (pe_cmpR ho ha hb hm).imp (op_lift h)
theorem q_ix {r : R2} {f : WO2} (ho : IxR X r) (h : RO2 X.K r f) (ha : QE X E a wa) (hb : QE X E b wb) (hs : PlainIx b := by exact fun _ _ => rfl) : QE X E (.Subscript a b pos) (wOp f wa wb) :=
  (pe_ix ho ha hb hs).imp (op_lift h)
end
end Qd
set_option Elab.async false
set_option linter.all false
set_option maxRecDepth 100000
/-! Layer Q, operators and built-ins over data. -/
namespace Qd
open PySem PySem.Spec PyProof.Rows L2
theorem OpR.orr {X : Cx} {f : Value → Value → Sem Value} {r r' : R2} (h : OpR X f r) (h' : OpR X f r') : OpR X f (fun x y H Q => r x y H Q ∨ r' x y H Q) := fun pins s σ H x y v u Q I rx ry q => q.elim (h pins s σ H x y v u Q I rx ry) (h' pins s σ H x y v u Q I rx ry)
def lineD : Nat := 16777216
theorem lineD_eq : lineD = sizeLine := by decide
section
variable {K : PySem.W.Frag} {φ : List Addr} {H : Hp} {S : Store} {Q : VK} {Q' : D → Store → Prop}
theorem VOk.same (k : VOk K φ H Q' Q) (r : RS K φ S H) {d : D} {v : V} (rv : RV K φ H d v) (q : Q' d S) : Q v H := k d S φ v H r.ext r rv q
/-- a new tuple -/
theorem VOk.tup (k : VOk K φ H Q' Q) (r : RS K φ S H) {ds : List D} {xs : List V} (rv : RVs K φ H ds xs) (q : Q' (.tup ds) S) {p : Addr} (hp : H p = none) : Q (.ref p) (upd H p (.tup xs)) :=
  k (.tup ds) S φ _ _ (Ext.fresh r hp) (r.fresh hp) ⟨p, xs, rfl, upd_same, rv.mono (Ext.fresh r hp)⟩ q
/-- a new list -/
theorem VOk.lst (k : VOk K φ H Q' Q) (r : RS K φ S H) {ds : List D} {xs : List V} (rv : RVs K φ H ds xs) (q : Q' (.loc S.length) (S ++ [.lst true ds])) {p : Addr} (hp : H p = none) : Q (.ref p) (upd H p (.lst xs)) := by
  have e := Ext.push (o := .lst xs) r hp
  refine k (.loc S.length) (S ++ [.lst true ds]) (φ ++ [p]) _ _ e (r.push (c := .lst true ds) hp ⟨xs, by rw [if_pos rfl]; exact upd_same, rv.mono e⟩) ⟨p, ?_, rfl⟩ q
  rw [← r.len, List.getElem?_append_right (Nat.le_refl _), Nat.sub_self]
  rfl
theorem RS.lst (r : RS K φ S H) {n : Nat} {w : Bool} {ds : List D} {v : V} (rv : RV K φ H (.loc n) v) (h : S[n]? = some (.lst w ds)) : ∃ a xs, v = .ref a ∧ φ[n]? = some a ∧ SqL K H a xs ∧ RVs K φ H ds xs ∧ (w = true → H a = some (.lst xs)) := by
  obtain ⟨a, h1, rfl⟩ := rv
  obtain ⟨xs, h2, h3⟩ := r.here n a _ h1 h
  cases w with
  | true => rw [if_pos rfl] at h2; exact ⟨a, xs, rfl, h1, .inl (.inl h2), h3, fun _ => h2⟩
  | false => rw [if_neg (by decide)] at h2; exact ⟨a, xs, rfl, h1, h2, h3, fun z => by cases z⟩
end
/-! ### + - * // % ** -/
def fAdd : WO2 := fun x y S Q => match x, y with
  | .int i, .int j => Q (.int (i + j)) S
  | .str a, .str b => a.length + b.length ≤ lineD ∧ Q (.str (a ++ b)) S
  | .tup a, .tup b => a.length + b.length ≤ lineD ∧ Q (.tup (a ++ b)) S
  | .loc m, .loc n => ∃ ds es, S[m]? = some (.lst true ds) ∧ S[n]? = some (.lst true es) ∧ ds.length + es.length ≤ lineD ∧ Q (.loc S.length) (S ++ [.lst true (ds ++ es)])
  | _, _ => False
def rAdd4 (K : PySem.W.Frag) : R2 := fun x y H Q => rI0 (fun i j => .int (i + j)) x y H Q ∨ (∃ i j, x = .str i ∧ y = .str j ∧ i.length + j.length ≤ sizeLine ∧ Q (.str (i ++ j)) H) ∨ rCatA K x y H Q ∨ rCat x y H Q
theorem op_add4 {X : Cx} : OpR X (binaryOp .Add) (rAdd4 X.K) := OpR.orr op_add (OpR.orr op_add_str (OpR.orr op_catA op_cat))
theorem ro_add {K : PySem.W.Frag} : RO2 K (rAdd4 K) fAdd := by
  intro φ S H x y v u Q Q' r hx hy h k
  cases x <;> cases y <;> first
    | exact False.elim h
    | skip
  case int.int i j =>
    cases hx; cases hy
    exact .inl ⟨i, j, rfl, rfl, k.same r (d := .int (i + j)) rfl h⟩
  case str.str i j =>
    cases hx; cases hy
    exact .inr (.inl ⟨i, j, rfl, rfl, h.1, k.same r (d := .str (i ++ j)) rfl h.2⟩)
  case tup.tup a b =>
    obtain ⟨p, xs, rfl, h1, h2⟩ := id hx
    obtain ⟨q, ys, rfl, g1, g2⟩ := id hy
    obtain ⟨hl, h⟩ := h
    refine .inr (.inr (.inl ⟨p, q, xs, ys, rfl, rfl, SqT.of h1, SqT.of g1, by rw [← h2.len, ← g2.len]; exact hl, fun e => ?_, fun _ e => ?_, fun _ _ p' hp => k.tup r (h2.append g2) h hp⟩))
    · subst e
      cases a with
      | nil => exact k.same r hy h
      | cons _ _ => obtain ⟨_, _, z, _⟩ := h2; cases z
    · subst e
      cases b with
      | nil => rw [List.append_nil] at h; exact k.same r hx h
      | cons _ _ => obtain ⟨_, _, z, _⟩ := g2; cases z
  case loc.loc m n =>
    obtain ⟨ds, es, e1, e2, hl, h⟩ := h
    obtain ⟨a, xs, rfl, _, _, h2, h3⟩ := r.lst hx e1
    obtain ⟨b, ys, rfl, _, _, g2, g3⟩ := r.lst hy e2
    exact .inr (.inr (.inr ⟨a, b, xs, ys, rfl, rfl, h3 rfl, g3 rfl, by rw [← h2.len, ← g2.len]; exact hl, fun p hp => k.lst r (h2.append g2) h hp⟩))
def fSub : WO2 := fun x y S Q => match x, y with
  | .int i, .int j => Q (.int (i - j)) S
  | _, _ => False
theorem ro_sub {K : PySem.W.Frag} : RO2 K (rI0 fun i j => .int (i - j)) fSub := by
  intro φ S H x y v u Q Q' r hx hy h k
  cases x <;> cases y <;> first
    | exact False.elim h
    | skip
  case int.int i j =>
    cases hx; cases hy
    exact ⟨i, j, rfl, rfl, k.same r (d := .int (i - j)) rfl h⟩
def fMul : WO2 := fun x y S Q => match x, y with
  | .int i, .int j => CMulW i j ∧ Q (.int (i * j)) S
  | _, _ => False
theorem ro_mul {K : PySem.W.Frag} : RO2 K (rI CMulW fun i j => .int (i * j)) fMul := by
  intro φ S H x y v u Q Q' r hx hy h k
  cases x <;> cases y <;> first
    | exact False.elim h
    | skip
  case int.int i j =>
    cases hx; cases hy
    exact ⟨i, j, rfl, rfl, h.1, k.same r (d := .int (i * j)) rfl h.2⟩
def fDiv : WO2 := fun x y S Q => match x, y with
  | .int i, .int j => CDivW i j ∧ Q (.int (i / j)) S
  | _, _ => False
theorem ro_div {K : PySem.W.Frag} : RO2 K (rI CDivW fun i j => .int (i / j)) fDiv := by
  intro φ S H x y v u Q Q' r hx hy h k
  cases x <;> cases y <;> first
    | exact False.elim h
    | skip
  case int.int i j =>
    cases hx; cases hy
    exact ⟨i, j, rfl, rfl, h.1, k.same r (d := .int (i / j)) rfl h.2⟩
def fMod : WO2 := fun x y S Q => match x, y with
  | .int i, .int j => 0 < j ∧ Q (.int (i % j)) S
  | _, _ => False
theorem ro_mod {K : PySem.W.Frag} : RO2 K (rI (fun _ j => 0 < j) fun i j => .int (i % j)) fMod := by
  intro φ S H x y v u Q Q' r hx hy h k
  cases x <;> cases y <;> first
    | exact False.elim h
    | skip
  case int.int i j =>
    cases hx; cases hy
    exact ⟨i, j, rfl, rfl, h.1, k.same r (d := .int (i % j)) rfl h.2⟩
def fPow : WO2 := fun x y S Q => match x, y with
  | .int i, .int j => CPow i j ∧ Q (.int (i ^ j.toNat)) S
  | _, _ => False
theorem ro_pow {K : PySem.W.Frag} : RO2 K (rI CPow fun i j => .int (i ^ j.toNat)) fPow := by
  intro φ S H x y v u Q Q' r hx hy h k
  cases x <;> cases y <;> first
    | exact False.elim h
    | skip
  case int.int i j =>
    cases hx; cases hy
    exact ⟨i, j, rfl, rfl, h.1, k.same r (d := .int (i ^ j.toNat)) rfl h.2⟩
/-- [..] * n -/
def fRep : WO2 := fun x y S Q => match x, y with
  | .loc m, .int k => ∃ ds, S[m]? = some (.lst true ds) ∧ -(2 ^ 63) ≤ k ∧ k < 2 ^ 63 ∧ ds.length * k.toNat ≤ lineD ∧ Q (.loc S.length) (S ++ [.lst true (List.replicate k.toNat ds).flatten])
  | _, _ => False
theorem RVs.rep {K : PySem.W.Frag} {φ : List Addr} {H : Hp} {ds : List D} {xs : List V} (h : RVs K φ H ds xs) : ∀ n : Nat, RVs K φ H (List.replicate n ds).flatten (List.replicate n xs).flatten
  | 0 => rfl
  | n + 1 => by
    rw [List.replicate_succ, List.replicate_succ, List.flatten_cons, List.flatten_cons]
    exact h.append (RVs.rep h n)
theorem ro_rep {K : PySem.W.Frag} : RO2 K rRep fRep := by
  intro φ S H x y v u Q Q' r hx hy h k
  cases x <;> cases y <;> first
    | exact False.elim h
    | skip
  case loc.int m i =>
    obtain ⟨ds, e1, h1, h2, h3, h⟩ := h
    obtain ⟨a, xs, rfl, _, _, g2, g3⟩ := r.lst hx e1
    cases hy
    exact ⟨a, i, xs, rfl, rfl, g3 rfl, h1, h2, by rw [← g2.len]; exact h3, fun p hp => k.lst r (g2.rep _) h hp⟩
def fNeg : WO1 := fun x S Q => match x with
  | .int i => Q (.int (-i)) S
  | _ => False
theorem ro_neg {K : PySem.W.Frag} : RO1 K (rU fun i => .int (-i)) fNeg := by
  intro φ S H x v Q Q' r hx h k
  cases x <;> first
    | exact False.elim h
    | skip
  case int i =>
    cases hx
    exact ⟨i, rfl, k.same r (d := .int (-i)) rfl h⟩
/-! ### comparisons -/
def fCmp (f : Int → Int → Bool) : WO2 := fun x y S Q => match x, y with
  | .int i, .int j => Q (.bl (f i j)) S
  | _, _ => False
theorem ro_cmp {K : PySem.W.Frag} {f : Int → Int → Bool} : RO2 K (rI0 fun i j => .bl (f i j)) (fCmp f) := by
  intro φ S H x y v u Q Q' r hx hy h k
  cases x <;> cases y <;> first
    | exact False.elim h
    | skip
  case int.int i j =>
    cases hx; cases hy
    exact ⟨i, j, rfl, rfl, k.same r (d := .bl (f i j)) rfl h⟩
mutual
/-- the plain data that stands for d in the store S -/
inductive Py (S : Store) : D → PyData → Prop
  | non : Py S .non .none
  | bl (b : Bool) : Py S (.bl b) (.bool b)
  | int (i : Int) : Py S (.int i) (.int i)
  | str (x : Str) : Py S (.str x) (.str x)
  | tup {ds : List D} {ps : List PyData} : Pys S ds ps → Py S (.tup ds) (.tuple ps)
  | lst {n : Nat} {w : Bool} {ds : List D} {ps : List PyData} : S[n]? = some (.lst w ds) → Pys S ds ps → Py S (.loc n) (.list ps)
inductive Pys (S : Store) : List D → List PyData → Prop
  | nil : Pys S [] []
  | cons {d : D} {ds : List D} {p : PyData} {ps : List PyData} : Py S d p → Pys S ds ps → Pys S (d :: ds) (p :: ps)
end
mutual
theorem Py.dp {K : PySem.W.Frag} {φ : List Addr} {H : Hp} {S : Store} (r : RS K φ S H) : ∀ {d : D} {p : PyData} {v : V}, Py S d p → RV K φ H d v → Dp K H v p
  | _, _, _, .non, h => by cases h; exact .non
  | _, _, _, .bl b, h => by cases h; exact .bl b
  | _, _, _, .int b, h => by cases h; exact .int b
  | _, _, _, .str b, h => by cases h; exact .str b
  | _, _, _, .tup hs, h => by
    obtain ⟨a, xs, rfl, h1, h2⟩ := h
    exact .tup (SqT.of h1) (Pys.dp r hs h2)
  | _, _, _, .lst e hs, h => by
    obtain ⟨a, xs, rfl, _, h1, h2, _⟩ := r.lst h e
    exact .lst h1 (Pys.dp r hs h2)
theorem Pys.dp {K : PySem.W.Frag} {φ : List Addr} {H : Hp} {S : Store} (r : RS K φ S H) : ∀ {d : List D} {p : List PyData} {v : List V}, Pys S d p → RVs K φ H d v → DpAll K H v p
  | _, _, _, .nil, h => by subst h; exact .nil
  | _, _, _, .cons a b, h => by
    obtain ⟨x, q, rfl, h1, h2⟩ := h
    exact .cons (Py.dp r a h1) (Pys.dp r b h2)
end
def fEqD (neg : Bool) : WO2 := fun x y S Q => ∃ p q, Py S x p ∧ Py S y q ∧ SeqAt.shaped p = true ∧ SeqAt.shaped q = true ∧ Q (.bl (if neg then !PyData.eqv p q else PyData.eqv p q)) S
theorem ro_eqD {K : PySem.W.Frag} : RO2 K (rEqD K) (fEqD false) := by
  intro φ S H x y v u Q Q' r hx hy ⟨p, q, h1, h2, h3, h4, h⟩ k
  exact ⟨p, q, h1.dp r hx, h2.dp r hy, h3, h4, k.same r (d := .bl _) rfl h⟩
theorem ro_neD {K : PySem.W.Frag} : RO2 K (rNeD K) (fEqD true) := by
  intro φ S H x y v u Q Q' r hx hy ⟨p, q, h1, h2, h3, h4, h⟩ k
  exact ⟨p, q, h1.dp r hx, h2.dp r hy, h3, h4, k.same r (d := .bl _) rfl h⟩
/-- == and != : scalars at once; else by the data -/
def scD : D → D → Option Bool
  | .int i, .int j => some (decide (i = j))
  | .str i, .str j => some (decide (i = j))
  | .bl i, .bl j => some (decide (i = j))
  | .non, .non => some true
  | .non, .int _ => some false | .int _, .non => some false | .non, .bl _ => some false | .bl _, .non => some false | .non, .str _ => some false | .str _, .non => some false
  | .int _, .str _ => some false | .str _, .int _ => some false | .bl _, .str _ => some false | .str _, .bl _ => some false
  | _, _ => none
def fEq (neg : Bool) : WO2 := fun x y S Q => match scD x y with
  | some b => Q (.bl (if neg then !b else b)) S
  | none => fEqD neg x y S Q
theorem scD_eq {K : PySem.W.Frag} {φ : List Addr} {H : Hp} {x y : D} {v u : V} {b : Bool} (h : scD x y = some b) (hx : RV K φ H x v) (hy : RV K φ H y u) : scal v u = true ∧ decide (v = u) = b := by
  cases x <;> cases y <;> simp only [scD, Option.some.injEq] at h <;> first
    | contradiction
    | (cases hx; cases hy; subst h; exact ⟨rfl, by simp⟩)
def rEq2 (K : PySem.W.Frag) : R2 := fun x y H Q => rEq x y H Q ∨ rEqD K x y H Q
def rNe2 (K : PySem.W.Frag) : R2 := fun x y H Q => rNe x y H Q ∨ rNeD K x y H Q
theorem ro_eq {K : PySem.W.Frag} : RO2 K (rEq2 K) (fEq false) := fun φ S H x y v u Q Q' r hx hy h k => by
  unfold fEq at h
  split at h
  · rename_i b e
    obtain ⟨h1, h2⟩ := scD_eq e hx hy
    exact .inl ⟨h1, k.same r (d := .bl _) (by rw [h2]; rfl) h⟩
  · exact .inr (ro_eqD φ S H x y v u Q Q' r hx hy h k)
theorem ro_ne {K : PySem.W.Frag} : RO2 K (rNe2 K) (fEq true) := fun φ S H x y v u Q Q' r hx hy h k => by
  unfold fEq at h
  split at h
  · rename_i b e
    obtain ⟨h1, h2⟩ := scD_eq e hx hy
    exact .inl ⟨h1, k.same r (d := .bl _) (by rw [h2]; rfl) h⟩
  · exact .inr (ro_neD φ S H x y v u Q Q' r hx hy h k)
theorem op_eq2 {X : Cx} (hu : X.A.units + 64 < cLine) : OpR X (compareOp .Eq) (rEq2 X.K) := OpR.orr op_eq (op_eqD hu)
theorem op_ne2 {X : Cx} (hu : X.A.units + 64 < cLine) : OpR X (compareOp .NotEq) (rNe2 X.K) := OpR.orr op_ne (op_neD hu)
/-- x is None -/
def isNon : D → Bool
  | .non => true
  | _ => false
def fIs (neg : Bool) : WO1 := fun x S Q => Q (.bl (if neg then !isNon x else isNon x)) S
theorem RV.non_iff {K : PySem.W.Frag} {φ : List Addr} {H : Hp} {d : D} {v : V} (h : RV K φ H d v) : decide (v = .non) = isNon d := by
  cases d with
  | non => cases h; rfl
  | bl _ => cases h; rfl
  | int _ => cases h; rfl
  | str _ => cases h; rfl
  | tup _ => obtain ⟨_, _, rfl, _⟩ := h; rfl
  | loc _ => obtain ⟨_, _, rfl⟩ := h; rfl
  | adr _ => cases h; rfl
  | scr _ => obtain ⟨_, rfl, _⟩ := h; rfl
/-! ### items, slices, len -/
def fIx : WO2 := fun x y S Q => match x, y with
  | .tup ds, .int i => ∃ d, atI ds i = some d ∧ Q d S
  | .str z, .int i => ∃ c, z.length ≤ lineD ∧ atI z.cps.toList i = some c ∧ Q (.str ⟨#[c]⟩) S
  | .loc n, .int i => ∃ w ds d, S[n]? = some (.lst w ds) ∧ atI ds i = some d ∧ Q d S
  | _, _ => False
theorem RVs.atI {K : PySem.W.Frag} {φ : List Addr} {H : Hp} {ds : List D} {vs : List V} {i : Int} {d : D} (h : RVs K φ H ds vs) (e : atI ds i = some d) : ∃ v, L2.atI vs i = some v ∧ RV K φ H d v := by
  unfold L2.atI at e ⊢
  rw [← h.len]
  cases q : ixN ds.length i with
  | none => rw [q] at e; cases e
  | some j =>
    rw [q] at e
    exact h.get e
theorem ro_ix {K : PySem.W.Frag} : RO2 K (rIx K) fIx := by
  intro φ S H x y v u Q Q' r hx hy h k
  cases x <;> cases y <;> first
    | exact False.elim h
    | skip
  case tup.int ds i =>
    obtain ⟨d, e, h⟩ := h
    obtain ⟨p, xs, rfl, h1, h2⟩ := hx
    cases hy
    obtain ⟨z, e2, rz⟩ := h2.atI e
    exact .inr (.inl ⟨p, xs, i, z, rfl, rfl, SqT.of h1, e2, k.same r rz h⟩)
  case str.int z i =>
    obtain ⟨c, hz, e, h⟩ := h
    cases hx; cases hy
    exact .inr (.inr ⟨z, i, c, rfl, rfl, hz, e, k.same r (d := .str ⟨#[c]⟩) rfl h⟩)
  case loc.int n i =>
    obtain ⟨w, ds, d, e1, e, h⟩ := h
    obtain ⟨p, xs, rfl, _, h1, h2, _⟩ := r.lst hx e1
    cases hy
    obtain ⟨z, e2, rz⟩ := h2.atI e
    exact .inl ⟨p, xs, i, z, rfl, rfl, h1, e2, k.same r rz h⟩
def cutD (xs : List D) (lo hi : Option Int) : List D := (xs.drop (HT.sIx xs.length 0 lo)).take (HT.sIx xs.length xs.length hi - HT.sIx xs.length 0 lo)
theorem RVs.cut {K : PySem.W.Frag} {φ : List Addr} {H : Hp} {ds : List D} {vs : List V} (lo hi : Option Int) (h : RVs K φ H ds vs) : RVs K φ H (cutD ds lo hi) (cutV vs lo hi) := by
  unfold cutD cutV
  rw [← h.len]
  exact (h.drop _).take _
abbrev WP := Slots → Store → (Option Int → Store → Prop) → XQ → Prop
def LO (K : PySem.W.Frag) (E : XK) (w : WP) : TO := fun σ H Q => ∃ φ env S Q' X', RS K φ S H ∧ RE K φ H env σ ∧ w env S Q' X' ∧ (∀ o S' φ' H', Ext φ H φ' H' → RS K φ' S' H' → Q' o S' → Q o H') ∧ XOk K φ H X' E
def wNoPart : WP := fun _ S Q _ => Q none S
def wPart (a : WE) : WP := fun env S Q X => a env S (fun x S1 => match x with | .int i => Q (some i) S1 | _ => False) X
abbrev WSl := D → Option Int → Option Int → Store → (D → Store → Prop) → Prop
def RSl (K : PySem.W.Frag) (r : V → Option Int → Option Int → Hp → VK → Prop) (f : WSl) : Prop := ∀ φ S H x lo hi v (Q : VK) Q', RS K φ S H → RV K φ H x v → f x lo hi S Q' → VOk K φ H Q' Q → r v lo hi H Q
def wSl (f : WSl) (a : WE) (l h : WP) : WE := fun env S Q X => a env S (fun x S1 => l env S1 (fun i S2 => h env S2 (fun j S3 => f x i j S3 Q) X) X) X
def fSl : WSl := fun x lo hi S Q => match x with
  | .tup ds => Q (.tup (cutD ds lo hi)) S
  | .str z => z.length ≤ lineD ∧ Q (.str (cutS z lo hi)) S
  | .loc n => ∃ w ds, S[n]? = some (.lst w ds) ∧ Q (.loc S.length) (S ++ [.lst true (cutD ds lo hi)])
  | .scr is => Q (.loc S.length) (S ++ [.lst true (cutD (is.map D.int) lo hi)])
  | _ => False
theorem Scr.sq {K : PySem.W.Frag} {φ : List Addr} {H : Hp} {a : Addr} {xs : List V} (h : Scr K φ H a xs) : SqL K H a xs := h.elim (fun ⟨_, o, g⟩ => .inl (.inr ⟨o, g⟩)) .inr
theorem SlR.orr {X : Cx} {r r' : V → Option Int → Option Int → Hp → VK → Prop} (h : SlR X r) (h' : SlR X r') : SlR X (fun x l u H Q => r x l u H Q ∨ r' x l u H Q) :=
  fun pins s σ H x v vl vu lo hi sl Q I rx hs pl pu q => q.elim (h pins s σ H x v vl vu lo hi sl Q I rx hs pl pu) (h' pins s σ H x v vl vu lo hi sl Q I rx hs pl pu)
def rSl3 (K : PySem.W.Frag) : V → Option Int → Option Int → Hp → VK → Prop := fun x l u H Q => rSlA K x l u H Q ∨ rSlS x l u H Q ∨ rSlL K x l u H Q
theorem sl_3 {X : Cx} : SlR X (rSl3 X.K) := SlR.orr sl_tupA (SlR.orr sl_str sl_list)
theorem ro_sl {K : PySem.W.Frag} : RSl K (rSl3 K) fSl := by
  intro φ S H x lo hi v Q Q' r hx h k
  cases x <;> first
    | exact False.elim h
    | skip
  case tup ds =>
    obtain ⟨p, xs, rfl, h1, h2⟩ := id hx
    refine .inl ⟨p, xs, rfl, SqT.of h1, fun ⟨e1, e2⟩ => ?_, fun _ q hq => k.tup r (h2.cut lo hi) h hq⟩
    have e : cutD ds lo hi = ds := by
      unfold cutD
      rw [h2.len, e1, e2]
      simp [← h2.len]
    have h' : Q' (.tup (cutD ds lo hi)) S := h
    rw [e] at h'
    exact k.same r hx h'
  case str z =>
    cases hx
    exact .inr (.inl ⟨z, rfl, h.1, k.same r (d := .str _) rfl h.2⟩)
  case loc n =>
    obtain ⟨w, ds, e1, h⟩ := h
    obtain ⟨p, xs, rfl, _, h1, h2, _⟩ := r.lst hx e1
    exact .inr (.inr ⟨p, xs, rfl, h1, fun q hq => k.lst r (h2.cut lo hi) h hq⟩)
  case scr is =>
    obtain ⟨p, rfl, h1⟩ := hx
    exact .inr (.inr ⟨p, _, rfl, h1.sq, fun q hq => k.lst r ((RVs.ints (is := is)).cut lo hi) h hq⟩)
section
variable {X : Cx} {E : XK} {a b : Expr} {wa wb : WE} {pos p2 : Pos}
theorem qo_none : PO X none (LO X.K E wNoPart) := ⟨fun pins s σ H Q I ⟨φ, env, S, Q', X', rs, re, q, k, _⟩ => po_none.run pins s σ H Q I (k _ S φ H rs.ext rs q)⟩
theorem qo_some (ha : QE X E a wa) : PO X (some a) (LO X.K E (wPart wa)) := ⟨fun pins s σ H Q I ⟨φ, env, S, Q', X', rs, re, q, k, x⟩ =>
  (po_some ha).run pins s σ H Q I ⟨φ, env, S, _, X', rs, re, q, fun d S1 φ1 v H1 e1 rs1 rv1 q1 => by
    cases d <;> first
      | exact False.elim q1
      | skip
    case int i =>
      cases rv1
      exact ⟨i, rfl, k _ S1 φ1 H1 e1 rs1 q1⟩, x⟩⟩
theorem q_sl {r : V → Option Int → Option Int → Hp → VK → Prop} {f : WSl} {lo hi : Option Expr} {wl wh : WP} (hr : SlR X r) (h : RSl X.K r f) (ha : QE X E a wa) (hl : PO X lo (LO X.K E wl)) (hh : PO X hi (LO X.K E wh)) : QE X E (.Subscript a (.Slice lo hi none p2) pos) (wSl f wa wl wh) :=
  (pe_slice hr ha hl hh).imp fun σ H Q ⟨φ, env, S, Q', X', rs, re, q, k, x⟩ =>
    ⟨φ, env, S, _, X', rs, re, q, fun d S1 φ1 v H1 e1 rs1 rv1 q1 =>
      ⟨φ1, env, S1, _, X', rs1, re.mono e1, q1, fun o S2 φ2 H2 e2 rs2 q2 =>
        ⟨φ2, env, S2, _, X', rs2, re.mono (e1.trans e2), q2, fun o2 S3 φ3 H3 e3 rs3 q3 => h φ3 S3 H3 d o o2 v Q Q' rs3 (rv1.mono (e2.trans e3)) q3 (k.mono ((e1.trans e2).trans e3)), x.mono (e1.trans e2)⟩, x.mono e1⟩, x⟩
end
/-! ### calls of built-ins -/
abbrev WOn := List D → Store → (D → Store → Prop) → Prop
def ROn (K : PySem.W.Frag) (r : List V → Hp → VK → Prop) (f : WOn) : Prop := ∀ φ S H ds vs (Q : VK) Q', RS K φ S H → RVs K φ H ds vs → f ds S Q' → VOk K φ H Q' Q → r vs H Q
def wCB (f : WOn) (a : WA) : WE := fun env S Q X => a env S (fun ds S1 => f ds S1 Q) X
def wNil : WA := fun _ S Q _ => Q [] S
def wCons (a : WE) (r : WA) : WA := fun env S Q X => a env S (fun d S1 => r env S1 (fun ds S2 => Q (d :: ds) S2) X) X
section
variable {X : Cx} {E : XK} {a : Expr} {wa : WE} {es : List Expr} {wr : WA} {pos : Pos}
theorem qa_nil : QA X E [] wNil := pa_nil.imp fun σ H Q ⟨φ, env, S, Q', X', rs, re, q, k, _⟩ => k [] S φ [] H rs.ext rs rfl q
theorem qa_cons (ha : QE X E a wa) (hr : QA X E es wr) (hs : starEach (a :: es) X.env = (false, eval a X.env) :: starEach es X.env := by rfl) : QA X E (a :: es) (wCons wa wr) :=
  (pa_cons ha hr hs).imp fun σ H Q ⟨φ, env, S, Q', X', rs, re, q, k, x⟩ =>
    ⟨φ, env, S, _, X', rs, re, q, fun d S1 φ1 v H1 e1 rs1 rv1 q1 =>
      ⟨φ1, env, S1, _, X', rs1, re.mono e1, q1, fun ds S2 φ2 vs H2 e2 rs2 rv2 q2 => k (d :: ds) S2 φ2 _ H2 (e1.trans e2) rs2 ⟨v, vs, rfl, rv1.mono e2, rv2⟩ q2, x.mono e1⟩, x⟩
theorem cb_lift {r : List V → Hp → VK → Prop} {f : WOn} (h : ROn X.K r f) : ∀ σ H Q, LE X.K E (wCB f wr) σ H Q → tCB r (LA X.K E wr) σ H Q :=
  fun σ H Q ⟨φ, env, S, Q', X', rs, re, q, k, x⟩ => ⟨φ, env, S, _, X', rs, re, q, fun ds S1 φ1 vs H1 e1 rs1 rv1 q1 => h φ1 S1 H1 ds vs Q Q' rs1 rv1 q1 (k.mono e1), x⟩
/-- f(a, ..), f a built-in function -/
theorem q_cb {x : Str} {id : String} {p : Pos} {r : List V → Hp → VK → Prop} {f : WOn} (hc : CallR X (.builtin id) r) (h : ROn X.K r f) (hg : Gl X x) (hm : X.mg x = none) (hv : bootBuiltins x = some (.builtin id)) (ha : QA X E (a :: es) wr)
    (hn : x ≠ "__name__" := by decide) (hdb : (x == ("__debug__" : Str)) = false := by decide) (he : starEach (a :: es) X.env = (false, eval a X.env) :: starEach es X.env := by rfl) (hpl : (backTo pos (starEach es X.env)).any (·.1) = false := by rfl) : QE X E (.Call (.Name x p) (a :: es) [] pos) (wCB f wr) :=
  (pe_callB hc hg hm hv ha hn hdb he hpl).imp (cb_lift h)
theorem q_ct {x : Str} {T : String} {p : Pos} {r : List V → Hp → VK → Prop} {f : WOn} (hc : CallR X (.type T) r) (h : ROn X.K r f) (hg : Gl X x) (hm : X.mg x = none) (hv : bootBuiltins x = some (.type T)) (ha : QA X E (a :: es) wr)
    (hn : x ≠ "__name__" := by decide) (hdb : (x == ("__debug__" : Str)) = false := by decide) (he : starEach (a :: es) X.env = (false, eval a X.env) :: starEach es X.env := by rfl) (hpl : (backTo pos (starEach es X.env)).any (·.1) = false := by rfl) : QE X E (.Call (.Name x p) (a :: es) [] pos) (wCB f wr) :=
  (pe_callTy hc hg hm hv ha hn hdb he hpl).imp (cb_lift h)
/-- displays -/
def wTup (a : WA) : WE := fun env S Q X => a env S (fun ds S1 => ds.length ≤ lineD ∧ Q (.tup ds) S1) X
def wLst (a : WA) : WE := fun env S Q X => a env S (fun ds S1 => ds.length ≤ lineD ∧ Q (.loc S1.length) (S1 ++ [.lst true ds])) X
theorem q_tup {x1} (ha : QA X E es wr) : QE X E (.Tuple es x1 pos) (wTup wr) := (pe_tup ha).imp fun σ H Q ⟨φ, env, S, Q', X', rs, re, q, k, x⟩ =>
  ⟨φ, env, S, _, X', rs, re, q, fun ds S1 φ1 vs H1 e1 rs1 rv1 q1 => ⟨by rw [← rv1.len]; exact q1.1, fun p hp => (k.mono e1).tup rs1 rv1 q1.2 hp⟩, x⟩
theorem q_lst (ha : QA X E es wr) : QE X E (.List es pos) (wLst wr) := (pe_lst ha).imp fun σ H Q ⟨φ, env, S, Q', X', rs, re, q, k, x⟩ =>
  ⟨φ, env, S, _, X', rs, re, q, fun ds S1 φ1 vs H1 e1 rs1 rv1 q1 => ⟨by rw [← rv1.len]; exact q1.1, fun p hp => (k.mono e1).lst rs1 rv1 q1.2 hp⟩, x⟩
end
def fLen : WOn := fun ds S Q => match ds with
  | [.tup xs] => Q (.int xs.length) S
  | [.str z] => z.length ≤ lineD ∧ Q (.int z.length) S
  | [.loc n] => ∃ w xs, S[n]? = some (.lst w xs) ∧ Q (.int xs.length) S
  | [.scr is] => Q (.int is.length) S
  | _ => False
def rLen (K : PySem.W.Frag) : List V → Hp → VK → Prop := fun xs H Q => ∃ x n, xs = [x] ∧ LenV K x H n ∧ Q (.int n) H
theorem RVs.one {K : PySem.W.Frag} {φ : List Addr} {H : Hp} {d : D} {vs : List V} (h : RVs K φ H [d] vs) : ∃ v, vs = [v] ∧ RV K φ H d v := by
  obtain ⟨x, r, rfl, h1, h2⟩ := h
  cases h2
  exact ⟨x, rfl, h1⟩
theorem RVs.two {K : PySem.W.Frag} {φ : List Addr} {H : Hp} {d e : D} {vs : List V} (h : RVs K φ H [d, e] vs) : ∃ v u, vs = [v, u] ∧ RV K φ H d v ∧ RV K φ H e u := by
  obtain ⟨x, r, rfl, h1, h2⟩ := h
  obtain ⟨u, rfl, h3⟩ := RVs.one h2
  exact ⟨x, u, rfl, h1, h3⟩
theorem ro_len {K : PySem.W.Frag} : ROn K (rLen K) fLen := by
  intro φ S H ds vs Q Q' r hv h k
  unfold fLen at h
  split at h
  · rename_i xs
    obtain ⟨v, rfl, hv2⟩ := hv.one
    obtain ⟨p, ys, rfl, h1, h2⟩ := hv2
    exact ⟨_, xs.length, rfl, .inr ⟨ys, SqT.of h1, h2.len⟩, k.same r (d := .int _) rfl h⟩
  · rename_i z
    obtain ⟨v, rfl, hv2⟩ := hv.one
    cases hv2
    exact ⟨.str z, z.length, rfl, (show z.length ≤ sizeLine ∧ z.length = z.length from ⟨h.1, rfl⟩), k.same r (d := .int _) rfl h.2⟩
  · rename_i n
    obtain ⟨v, rfl, hv2⟩ := hv.one
    obtain ⟨w, xs, e, h⟩ := h
    obtain ⟨p, ys, rfl, _, h1, h2, _⟩ := r.lst hv2 e
    exact ⟨_, xs.length, rfl, .inl ⟨ys, h1, h2.len⟩, k.same r (d := .int _) rfl h⟩
  · rename_i is
    obtain ⟨v, rfl, hv2⟩ := hv.one
    obtain ⟨p, rfl, h1⟩ := hv2
    exact ⟨_, is.length, rfl, .inl ⟨_, h1.sq, by simp⟩, k.same r (d := .int _) rfl h⟩
  · exact h.elim
/-- isinstance -/
def tyD (S : Store) : D → Option String
  | .non => some "NoneType"
  | .bl _ => some "bool"
  | .int _ => some "int"
  | .str _ => some "str"
  | .tup _ => some "tuple"
  | .loc n => match S[n]? with
    | some (.lst true _) => some "list"
    | some (.dK true _) => some "dict"
    | some (.dT true _) => some "dict"
    | _ => none
  | .adr _ => none
  | .scr _ => none
end Qd
set_option Elab.async false
set_option linter.all false
set_option maxRecDepth 100000
/-! Layer Q: tests, statements, targets, loops, comprehensions, calls of defs. -/
namespace Qd
open PySem PySem.Spec PyProof.Rows L2
theorem ofT {A B : Prop} (h : if true = true then A else B) : A := by rw [if_pos rfl] at h; exact h
theorem ofF {A B : Prop} (h : if false = true then A else B) : B := by rw [if_neg Bool.false_ne_true] at h; exact h
/-! ### tests -/
def wTest (a : WE) : WT := fun env S Q X => a env S (fun x S1 => match x with | .bl b => Q b S1 | _ => False) X
theorem test_lift {K : PySem.W.Frag} {E : XK} {a : WE} : ∀ σ H Q, LT K E (wTest a) σ H Q → LE K E a σ H fun x H1 => ∃ c, x = .bl c ∧ Q c H1 :=
  fun σ H Q ⟨φ, env, S, Q', X', rs, re, q, k, x⟩ => ⟨φ, env, S, _, X', rs, re, q, fun d S1 φ1 v H1 e1 rs1 rv1 q1 => by
    cases d <;> first
      | exact False.elim q1
      | skip
    case bl b =>
      cases rv1
      exact ⟨b, rfl, k b S1 φ1 H1 e1 rs1 q1⟩, x⟩
def wAndT (a b : WT) : WT := fun env S Q X => a env S (fun c S1 => if c = true then b env S1 Q X else Q false S1) X
def wOrT (a b : WT) : WT := fun env S Q X => a env S (fun c S1 => if c = true then Q true S1 else b env S1 Q X) X
def wNotT (a : WT) : WT := fun env S Q X => a env S (fun c S1 => Q (!c) S1) X
def wAndV (a b : WE) : WE := fun env S Q X => a env S (fun x S1 => match x with | .bl c => if c = true then b env S1 Q X else Q (.bl false) S1 | _ => False) X
def wOrV (a b : WE) : WE := fun env S Q X => a env S (fun x S1 => match x with | .bl c => if c = true then Q (.bl true) S1 else b env S1 Q X | _ => False) X
def wNotV (a : WE) : WE := fun env S Q X => a env S (fun x S1 => match x with | .bl c => Q (.bl (!c)) S1 | _ => False) X
def wIfE (t : WT) (a b : WE) : WE := fun env S Q X => t env S (fun c S1 => if c = true then a env S1 Q X else b env S1 Q X) X
section
variable {X : Cx} {E : XK} {e a b c : Expr} {wa wb : WE} {ta tb : WT} {pos : Pos} {rest : List Expr}
/-- an expression whose value is a bool, as a test -/
theorem qt_val (h : QE X E e wa) (he : ∀ whole, isTrue e X.env whole = (do let v ← whole; standAt e.pos; holding [v] (truthy v)) := by intro _; rfl) : QT X E e (wTest wa) := (pt_val h he).imp test_lift
theorem qt_cmp {op : CmpOp} {r : R2} {f : WO2} (ho : OpR X (compareOp op) r) (h : RO2 X.K r f) (ha : QE X E a wa) (hb : QE X E b wb) (hm : behindInMarks op b = false) : QT X E (.Compare a [op] [b] pos) (wTest (wOp f wa wb)) :=
  (pt_cmpR ho ha hb hm).imp fun σ H Q q => op_lift h σ H _ (test_lift' q)
where test_lift' {K : PySem.W.Frag} {E : XK} {a : WE} {σ H} {Q : Bool → Hp → Prop} (h : LT K E (wTest a) σ H Q) : LE K E a σ H fun x H1 => ∃ c, x = .bl c ∧ Q c H1 := test_lift σ H Q h
theorem isn_lift {K : PySem.W.Frag} {neg : Bool} : ∀ σ H Q, LE K E (wUn (fIs neg) wa) σ H Q → tOp (fun x y H Q => y = .non ∧ Q (.bl (if neg then !decide (x = .non) else decide (x = .non))) H) (LE K E wa) (tC .non) σ H Q :=
  fun σ H Q ⟨φ, env, S, Q', X', rs, re, q, k, x⟩ => ⟨φ, env, S, _, X', rs, re, q, fun d S1 φ1 v H1 e1 rs1 rv1 q1 => ⟨rfl, by
    rw [rv1.non_iff]
    exact (k.mono e1).same rs1 (d := .bl _) rfl q1⟩, x⟩
theorem q_isN {j pos'} (ha : QE X E a wa) : QE X E (.Compare a [.Is] [.Constant .none j pos'] pos) (wUn (fIs false) wa) := (pe_cmpR op_isN ha pe_non (nomark _)).imp (isn_lift (neg := false))
theorem q_notN {j pos'} (ha : QE X E a wa) : QE X E (.Compare a [.IsNot] [.Constant .none j pos'] pos) (wUn (fIs true) wa) := (pe_cmpR op_notN ha pe_non (nomark _)).imp (isn_lift (neg := true))
theorem qt_isN {j pos'} (ha : QE X E a wa) : QT X E (.Compare a [.Is] [.Constant .none j pos'] pos) (wTest (wUn (fIs false) wa)) := (pt_cmpR op_isN ha pe_non (nomark _)).imp fun σ H Q q => isn_lift (neg := false) σ H _ (test_lift σ H Q q)
theorem qt_notN {j pos'} (ha : QE X E a wa) : QT X E (.Compare a [.IsNot] [.Constant .none j pos'] pos) (wTest (wUn (fIs true) wa)) := (pt_cmpR op_notN ha pe_non (nomark _)).imp fun σ H Q q => isn_lift (neg := true) σ H _ (test_lift σ H Q q)
theorem qt_not (h : QT X E a ta) : QT X E (.UnaryOp .Not a pos) (wNotT ta) := (pt_not h).imp fun σ H Q ⟨φ, env, S, Q', X', rs, re, q, k, x⟩ => ⟨φ, env, S, _, X', rs, re, q, fun b S1 φ1 H1 e1 rs1 q1 => k _ S1 φ1 H1 e1 rs1 q1, x⟩
/-- and, or as tests -/
abbrev QW (X : Cx) (E : XK) (e : Expr) (w : WT) : Prop := PW X e (LT X.K E w)
theorem _root_.L2.PW.imp {X : Cx} {e : Expr} {t u : TT} (h : PW X e t) (f : ∀ σ H Q, u σ H Q → t σ H Q) : PW X e u := ⟨fun wh pins s σ H Q I q => h.run wh pins s σ H Q I (f σ H Q q)⟩
theorem qw_and1 (h : QT X E a ta) : QW X E (.BoolOp .And [a] pos) ta := pw_and1 h
theorem qw_or1 (h : QT X E a ta) : QW X E (.BoolOp .Or [a] pos) ta := pw_or1 h
theorem qw_and (h : QT X E a ta) (g : QW X E (.BoolOp .And (b :: rest) pos) tb) : QW X E (.BoolOp .And (a :: b :: rest) pos) (wAndT ta tb) := (pw_and h g).imp fun σ H Q ⟨φ, env, S, Q', X', rs, re, q, k, x⟩ =>
  ⟨φ, env, S, _, X', rs, re, q, fun c S1 φ1 H1 e1 rs1 q1 => by
    cases c with
    | true => exact iteT <| have q1 := ofT q1; ⟨φ1, env, S1, Q', X', rs1, re.mono e1, q1, fun b S2 φ2 H2 e2 => k b S2 φ2 H2 (e1.trans e2), x.mono e1⟩
    | false => exact iteF <| have q1 := ofF q1; k _ S1 φ1 H1 e1 rs1 q1, x⟩
theorem qw_or (h : QT X E a ta) (g : QW X E (.BoolOp .Or (b :: rest) pos) tb) : QW X E (.BoolOp .Or (a :: b :: rest) pos) (wOrT ta tb) := (pw_or h g).imp fun σ H Q ⟨φ, env, S, Q', X', rs, re, q, k, x⟩ =>
  ⟨φ, env, S, _, X', rs, re, q, fun c S1 φ1 H1 e1 rs1 q1 => by
    cases c with
    | false => exact iteF <| have q1 := ofF q1; ⟨φ1, env, S1, Q', X', rs1, re.mono e1, q1, fun b S2 φ2 H2 e2 => k b S2 φ2 H2 (e1.trans e2), x.mono e1⟩
    | true => exact iteT <| have q1 := ofT q1; k _ S1 φ1 H1 e1 rs1 q1, x⟩
theorem qt_w (h : QW X E e ta) : QT X E e ta := h.pt
theorem q_one {op} (h : QE X E a wa) : QE X E (.BoolOp op [a] pos) wa := pe_one h
theorem q_and (ha : QE X E a wa) (hb : QE X E (.BoolOp .And (b :: rest) pos) wb) : QE X E (.BoolOp .And (a :: b :: rest) pos) (wAndV wa wb) := (pe_and ha hb).imp fun σ H Q ⟨φ, env, S, Q', X', rs, re, q, k, x⟩ =>
  ⟨φ, env, S, _, X', rs, re, q, fun d S1 φ1 v H1 e1 rs1 rv1 q1 => by
    cases d <;> first
      | exact False.elim q1
      | skip
    case bl c =>
      cases rv1
      refine ⟨c, rfl, ?_⟩
      cases c with
      | true => exact iteT <| have q1 := ofT q1; ⟨φ1, env, S1, Q', X', rs1, re.mono e1, q1, k.mono e1, x.mono e1⟩
      | false => exact iteF <| have q1 := ofF q1; (k.mono e1).same rs1 (d := .bl false) rfl q1, x⟩
theorem q_or (ha : QE X E a wa) (hb : QE X E (.BoolOp .Or (b :: rest) pos) wb) : QE X E (.BoolOp .Or (a :: b :: rest) pos) (wOrV wa wb) := (pe_or ha hb).imp fun σ H Q ⟨φ, env, S, Q', X', rs, re, q, k, x⟩ =>
  ⟨φ, env, S, _, X', rs, re, q, fun d S1 φ1 v H1 e1 rs1 rv1 q1 => by
    cases d <;> first
      | exact False.elim q1
      | skip
    case bl c =>
      cases rv1
      refine ⟨c, rfl, ?_⟩
      cases c with
      | false => exact iteF <| have q1 := ofF q1; ⟨φ1, env, S1, Q', X', rs1, re.mono e1, q1, k.mono e1, x.mono e1⟩
      | true => exact iteT <| have q1 := ofT q1; (k.mono e1).same rs1 (d := .bl true) rfl q1, x⟩
theorem q_not (ha : QE X E a wa) : QE X E (.UnaryOp .Not a pos) (wNotV wa) := (pe_not ha).imp fun σ H Q ⟨φ, env, S, Q', X', rs, re, q, k, x⟩ =>
  ⟨φ, env, S, _, X', rs, re, q, fun d S1 φ1 v H1 e1 rs1 rv1 q1 => by
    cases d <;> first
      | exact False.elim q1
      | skip
    case bl c =>
      cases rv1
      exact ⟨c, rfl, (k.mono e1).same rs1 (d := .bl (!c)) rfl q1⟩, x⟩
theorem q_ifE (hc : QT X E c ta) (ha : QE X E a wa) (hb : QE X E b wb) : QE X E (.IfExp c a b pos) (wIfE ta wa wb) := (pe_ifExp hc ha hb).imp fun σ H Q ⟨φ, env, S, Q', X', rs, re, q, k, x⟩ =>
  ⟨φ, env, S, _, X', rs, re, q, fun c S1 φ1 H1 e1 rs1 q1 => by
    cases c with
    | true => exact iteT <| have q1 := ofT q1; ⟨φ1, env, S1, Q', X', rs1, re.mono e1, q1, k.mono e1, x.mono e1⟩
    | false => exact iteF <| have q1 := ofF q1; ⟨φ1, env, S1, Q', X', rs1, re.mono e1, q1, k.mono e1, x.mono e1⟩, x⟩
/-- a < b < c -/
def wChain (f g : WO2) (a b c : WE) : WE := fun env S Q X => a env S (fun x S1 => b env S1 (fun y S2 => f x y S2 fun r S3 => match r with | .bl k => if k = true then c env S3 (fun z S4 => g y z S4 Q) X else Q (.bl false) S3 | _ => False) X) X
end
/-! ### statements -/
section
variable {X : Cx} {E : XK} {st : Stmt} {rest : List Stmt} {w u : WS} {e : Expr} {wa : WE} {t : WT} {pos : Pos}
def wSeq (w u : WS) : WS := fun G env S X => w ⟨fun e s => u G e s X, G.rt, G.bk, G.ct⟩ env S X
def wSkip : WS := fun G env S _ => G.nx env S
def wBreak : WS := fun G env S _ => G.bk env S
def wCont : WS := fun G env S _ => G.ct env S
def wNever : WS := fun _ _ _ _ => False
def wRet (a : WE) : WS := fun G env S X => a env S G.rt X
def wDrop (a : WE) : WS := fun G env S X => a env S (fun _ S1 => G.nx env S1) X
def wIf (t : WT) (w u : WS) : WS := fun G env S X => t env S (fun c S1 => if c = true then w G env S1 X else u G env S1 X) X
theorem qs_nil : QSs X E [] wSkip := pss_nil.imp fun D σ H ⟨φ, env, S, G, X', rs, re, q, k, _⟩ => k.nx env S φ σ H rs.ext rs re q
theorem qs_cons (h : QS X E st w) (g : QSs X E rest u) : QSs X E (st :: rest) (wSeq w u) := (pss_cons h g).imp fun D σ H ⟨φ, env, S, G, X', rs, re, q, k, x⟩ =>
  ⟨φ, env, S, ⟨fun e s => u G e s X', G.rt, G.bk, G.ct⟩, X', rs, re, q, ⟨fun env' S' φ' σ' H' e1 rs1 re1 q1 => ⟨φ', env', S', G, X', rs1, re1, q1, k.mono e1, x.mono e1⟩, k.rt, k.bk, k.ct⟩, x⟩
theorem qs_one (h : QS X E st w) : QSs X E [st] w := pss_one h
theorem q_pass : QS X E (.Pass pos) wSkip := ps_pass.imp fun D σ H ⟨φ, env, S, G, X', rs, re, q, k, _⟩ => k.nx env S φ σ H rs.ext rs re q
theorem q_break : QS X E (.Break pos) wBreak := ps_break.imp fun D σ H ⟨φ, env, S, G, X', rs, re, q, k, _⟩ => k.bk env S φ σ H rs.ext rs re q
theorem q_continue : QS X E (.Continue pos) wCont := ps_continue.imp fun D σ H ⟨φ, env, S, G, X', rs, re, q, k, _⟩ => k.ct env S φ σ H rs.ext rs re q
theorem q_never : QS X E st wNever := ps_never.imp fun D σ H ⟨φ, env, S, G, X', rs, re, q, k, _⟩ => q.elim
theorem q_ret (h : QE X E e wa) : QS X E (.Return (some e) pos) (wRet wa) := (ps_ret h).imp fun D σ H ⟨φ, env, S, G, X', rs, re, q, k, x⟩ => ⟨φ, env, S, G.rt, X', rs, re, q, k.rt, x⟩
theorem q_expr (h : QE X E e wa) (hs : swapsWith e none pos.line X.env = pure false := by rfl) : QS X E (.Expr e pos) (wDrop wa) := (ps_expr h hs).imp fun D σ H ⟨φ, env, S, G, X', rs, re, q, k, x⟩ =>
  ⟨φ, env, S, _, X', rs, re, q, fun d S1 φ1 v H1 e1 rs1 rv1 q1 => k.nx env S1 φ1 σ H1 e1 rs1 (re.mono e1) q1, x⟩
theorem q_if {a b : List Stmt} (hc : QT X E e t) (ha : QSs X E a w) (hb : QSs X E b u) : QS X E (.If e a b pos) (wIf t w u) := (ps_if hc ha hb).imp fun D σ H ⟨φ, env, S, G, X', rs, re, q, k, x⟩ =>
  ⟨φ, env, S, _, X', rs, re, q, fun c S1 φ1 H1 e1 rs1 q1 => by
    cases c with
    | true => exact iteT <| have q1 := ofT q1; ⟨φ1, env, S1, G, X', rs1, re.mono e1, q1, k.mono e1, x.mono e1⟩
    | false => exact iteF <| have q1 := ofF q1; ⟨φ1, env, S1, G, X', rs1, re.mono e1, q1, k.mono e1, x.mono e1⟩, x⟩
end
/-! ### targets -/
abbrev WG := D → Slots → Store → (Slots → Store → Prop) → Prop
abbrev WGs := List D → Slots → Store → (Slots → Store → Prop) → Prop
/-- the slots that a target stores lie in vs -/
def LG (K : PySem.W.Frag) (vs : List Nat) (g : WG) : TG := fun v σ H Q => ∃ φ env S d Q', RS K φ S H ∧ RE K φ H env σ ∧ RV K φ H d v ∧ g d env S Q' ∧
  ∀ env' S' φ' σ' H', Ext φ H φ' H' → RS K φ' S' H' → RE K φ' H' env' σ' → wipe σ' vs = wipe σ vs → Q' env' S' → Q σ' H'
def LGs (K : PySem.W.Frag) (vs : List Nat) (g : WGs) : TGs := fun v σ H Q => ∃ φ env S d Q', RS K φ S H ∧ RE K φ H env σ ∧ RVs K φ H d v ∧ g d env S Q' ∧
  ∀ env' S' φ' σ' H', Ext φ H φ' H' → RS K φ' S' H' → RE K φ' H' env' σ' → wipe σ' vs = wipe σ vs → Q' env' S' → Q σ' H'
theorem _root_.L2.PG.imp {X : Cx} {e : Expr} {t u : TG} (h : PG X e t) (f : ∀ v σ H Q, u v σ H Q → t v σ H Q) : PG X e u := ⟨fun pins s σ H v w Q I r q => h.run pins s σ H v w Q I r (f v σ H Q q)⟩
theorem _root_.L2.PGs.imp {X : Cx} {e : List Expr} {t u : TGs} (h : PGs X e t) (f : ∀ v σ H Q, u v σ H Q → t v σ H Q) : PGs X e u := ⟨fun pins s σ H v w Q I r q => h.run pins s σ H v w Q I r (f v σ H Q q)⟩
abbrev QG (X : Cx) (vs : List Nat) (e : Expr) (g : WG) : Prop := PG X e (LG X.K vs g)
abbrev QGs (X : Cx) (vs : List Nat) (e : List Expr) (g : WGs) : Prop := PGs X e (LGs X.K vs g)
theorem wipe_set {α : L2.St} {i : Nat} {v : Option V} : ∀ {vs : List Nat}, i ∈ vs → wipe (α.set i v) vs = wipe α vs
  | j :: vs, h => by
    unfold wipe
    by_cases e : i ∈ vs
    · rw [wipe_set e]
    · have : i = j := by simpa [e] using h
      subst this
      have : ∀ vs : List Nat, i ∉ vs → wipe (α.set i v) vs = (wipe α vs).set i v := by
        intro vs
        induction vs with
        | nil => intro _; rfl
        | cons k r ih =>
          intro h
          simp only [List.mem_cons, not_or] at h
          unfold wipe
          rw [ih h.2, List.set_comm _ _ h.1]
      rw [this vs e, List.set_set]
theorem RE.set {K : PySem.W.Frag} {φ : List Addr} {H : Hp} {env : Slots} {σ : L2.St} (r : RE K φ H env σ) {i : Nat} {d : D} {v : V} (h : RV K φ H d v) : RE K φ H (env.set i (some d)) (σ.set i (some v)) := by
  refine ⟨by simp [r.len], fun j e hj => ?_⟩
  by_cases e1 : i = j
  · subst e1
    by_cases hi : i < env.length
    · rw [List.getElem?_set_self hi] at hj
      cases hj
      exact ⟨v, by rw [List.getElem?_set_self (by rw [← r.len]; exact hi)], h⟩
    · rw [List.getElem?_eq_none (by simpa using hi)] at hj
      cases hj
  · rw [List.getElem?_set_ne e1] at hj ⊢
    exact r.here j e hj
theorem RE.drop {K : PySem.W.Frag} {φ : List Addr} {H : Hp} {env : Slots} {σ : L2.St} (r : RE K φ H env σ) {i : Nat} {v : Option V} : RE K φ H (env.set i none) (σ.set i v) := by
  refine ⟨by simp [r.len], fun j e hj => ?_⟩
  by_cases e1 : i = j
  · subst e1
    by_cases hi : i < env.length
    · rw [List.getElem?_set_self hi] at hj; cases hj
    · rw [List.getElem?_eq_none (by simpa using hi)] at hj; cases hj
  · rw [List.getElem?_set_ne e1] at hj ⊢
    exact r.here j e hj
def gNm (i : Nat) : WG := fun d env S Q => Q (env.set i (some d)) S
def gTp (gs : WGs) : WG := fun d env S Q => match d with | .tup ds => gs ds env S Q | _ => False
def gNone : WGs := fun ds env S Q => match ds with | [] => Q env S | _ :: _ => False
def gMore (g : WG) (gs : WGs) : WGs := fun ds env S Q => match ds with | d :: r => g d env S (fun e s => gs r e s Q) | [] => False
section
variable {X : Cx} {vs : List Nat} {e : Expr} {es : List Expr} {g : WG} {gs : WGs} {pos : Pos}
theorem qg_name {i : Nat} {x : Str} (hN : X.N.Nodup) (hi : X.N[i]? = some x) (hx : Loc X.env.scope x) (hf : X.fn x = true ∨ X.env.scope.names.lookup x = some .local := by first | exact .inl rfl | exact .inr rfl | assumption) (hv : i ∈ vs := by decide) : QG X vs (.Name x pos) (gNm i) :=
  (pg_name hN hi hx hf).imp fun v σ H Q ⟨φ, env, S, d, Q', rs, re, rv, q, k⟩ => k _ S φ _ H rs.ext rs (re.set rv) (wipe_set hv) q
theorem qg_nil : QGs X vs [] gNone := pgs_nil.imp fun v σ H Q ⟨φ, env, S, d, Q', rs, re, rv, q, k⟩ => by
  cases d with
  | nil => exact ⟨rv, k env S φ σ H rs.ext rs re rfl q⟩
  | cons _ _ => exact q.elim
theorem qg_cons (h1 : QG X vs e g) (h2 : QGs X vs es gs) (hs : (assignEach (e :: es) X.env).map (·.2) = assign e X.env :: (assignEach es X.env).map (·.2) := by rfl) : QGs X vs (e :: es) (gMore g gs) := (pgs_cons h1 h2 hs).imp fun v σ H Q ⟨φ, env, S, d, Q', rs, re, rv, q, k⟩ => by
  cases d with
  | nil => exact q.elim
  | cons d r =>
    obtain ⟨x, xr, rfl, r1, r2⟩ := rv
    exact ⟨x, xr, rfl, φ, env, S, d, _, rs, re, r1, q, fun env1 S1 φ1 σ1 H1 e1 rs1 re1 w1 q1 => ⟨φ1, env1, S1, r, Q', rs1, re1, r2.mono e1, q1, fun env2 S2 φ2 σ2 H2 e2 rs2 re2 w2 q2 => k env2 S2 φ2 σ2 H2 (e1.trans e2) rs2 re2 (w2.trans w1) q2⟩⟩
/-- as many things as targets -/
structure GLen (gs : WGs) (n : Nat) : Prop where
  len : ∀ {ds env S Q}, gs ds env S Q → ds.length = n ∨ False
theorem qg_tup {k : Nat} {n : Nat} (hc : X.calm = true) (h : QGs X vs es gs) (hl : ∀ {ds : List D} {env : Slots} {S : Store} {Q : Slots → Store → Prop}, gs ds env S Q → ds.length = n) (hn : (assignEach es X.env).length = n := by rfl) (hst : (assignEach es X.env).findIdx? (·.1) = none := by rfl) : QG X vs (.Tuple es k pos) (gTp gs) :=
  (pg_tup hc h hn hst).imp fun v σ H Q ⟨φ, env, S, d, Q', rs, re, rv, q, k⟩ => by
    cases d <;> first
      | exact False.elim q
      | skip
    case tup ds =>
      obtain ⟨a, xs, rfl, h1, h2⟩ := rv
      exact ⟨a, xs, rfl, SqT.of h1, by rw [← h2.len]; exact hl q, φ, env, S, ds, Q', rs, re, h2, q, k⟩
end
/-- a, b as targets, each a name -/
def g2 (i j : Nat) : WGs := fun ds env S Q => match ds with | [a, b] => Q ((env.set i (some a)).set j (some b)) S | _ => False
def g3 (i j k : Nat) : WGs := fun ds env S Q => match ds with | [a, b, c] => Q (((env.set i (some a)).set j (some b)).set k (some c)) S | _ => False
section
variable {X : Cx} {vs : List Nat} {pos p1 p2 p3 : Pos} {x y z : Str} {i j l : Nat}
theorem qg_2 {k : Nat} (hc : X.calm = true) (hN : X.N.Nodup) (hi : X.N[i]? = some x) (hx : Loc X.env.scope x) (hj : X.N[j]? = some y) (hy : Loc X.env.scope y)
    (hf : X.fn x = true ∨ X.env.scope.names.lookup x = some .local := by first | exact .inl rfl | exact .inr rfl | assumption) (hf2 : X.fn y = true ∨ X.env.scope.names.lookup y = some .local := by first | exact .inl rfl | exact .inr rfl | assumption)
    (hv : i ∈ vs := by decide) (hv2 : j ∈ vs := by decide) (hn : (assignEach [.Name x p1, .Name y p2] X.env).length = 2 := by rfl) (hst : (assignEach [.Name x p1, .Name y p2] X.env).findIdx? (·.1) = none := by rfl) : QG X vs (.Tuple [.Name x p1, .Name y p2] k pos) (gTp (g2 i j)) := by
  have h : QGs X vs [.Name x p1, .Name y p2] (gMore (gNm i) (gMore (gNm j) gNone)) := qg_cons (qg_name hN hi hx hf hv) (qg_cons (qg_name hN hj hy hf2 hv2) qg_nil)
  refine qg_tup hc (h.imp fun v σ H Q ⟨φ, env, S, d, Q', rs, re, rv, q, k⟩ => ⟨φ, env, S, d, Q', rs, re, rv, ?_, k⟩) (fun {ds env S Q} q => ?_) hn hst
  · unfold g2 at q
    split at q
    · exact q
    · exact q.elim
  · unfold g2 at q
    split at q
    · rfl
    · exact q.elim
theorem qg_3 {k : Nat} (hc : X.calm = true) (hN : X.N.Nodup) (hi : X.N[i]? = some x) (hx : Loc X.env.scope x) (hj : X.N[j]? = some y) (hy : Loc X.env.scope y) (hl : X.N[l]? = some z) (hz : Loc X.env.scope z)
    (hf : X.fn x = true ∨ X.env.scope.names.lookup x = some .local := by first | exact .inl rfl | exact .inr rfl | assumption) (hf2 : X.fn y = true ∨ X.env.scope.names.lookup y = some .local := by first | exact .inl rfl | exact .inr rfl | assumption)
    (hf3 : X.fn z = true ∨ X.env.scope.names.lookup z = some .local := by first | exact .inl rfl | exact .inr rfl | assumption)
    (hv : i ∈ vs := by decide) (hv2 : j ∈ vs := by decide) (hv3 : l ∈ vs := by decide) (hn : (assignEach [.Name x p1, .Name y p2, .Name z p3] X.env).length = 3 := by rfl) (hst : (assignEach [.Name x p1, .Name y p2, .Name z p3] X.env).findIdx? (·.1) = none := by rfl) : QG X vs (.Tuple [.Name x p1, .Name y p2, .Name z p3] k pos) (gTp (g3 i j l)) := by
  have h : QGs X vs [.Name x p1, .Name y p2, .Name z p3] (gMore (gNm i) (gMore (gNm j) (gMore (gNm l) gNone))) := qg_cons (qg_name hN hi hx hf hv) (qg_cons (qg_name hN hj hy hf2 hv2) (qg_cons (qg_name hN hl hz hf3 hv3) qg_nil))
  refine qg_tup hc (h.imp fun v σ H Q ⟨φ, env, S, d, Q', rs, re, rv, q, k⟩ => ⟨φ, env, S, d, Q', rs, re, rv, ?_, k⟩) (fun {ds env S Q} q => ?_) hn hst
  · unfold g3 at q
    split at q
    · exact q
    · exact q.elim
  · unfold g3 at q
    split at q
    · rfl
    · exact q.elim
end
/-- target = e -/
def wAsg (a : WE) (g : WG) : WS := fun G env S X => a env S (fun d S1 => g d env S1 G.nx) X
def wSet (i : Nat) (a : WE) : WS := fun G env S X => a env S (fun d S1 => G.nx (env.set i (some d)) S1) X
def wAug (i : Nat) (f : WO2) (a : WE) : WS := fun G env S X => ∃ d, env[i]? = some (some d) ∧ a env S (fun y S1 => f d y S1 (fun z S2 => G.nx (env.set i (some z)) S2)) X
def wPar (i j : Nat) (a b : WE) : WS := fun G env S X => a env S (fun d S1 => b env S1 (fun e S2 => G.nx ((env.set i (some d)).set j (some e)) S2) X) X
section
variable {X : Cx} {E : XK} {e tg : Expr} {wa : WE} {g : WG} {pos pos' : Pos} {vs : List Nat}
theorem q_asg (h : QE X E e wa) (hg : QG X vs tg g) (hs : swapsWithSole [tg] e pos.line X.env = pure false := by rfl) (hw : swappedStores [tg] e X.env = pure none := by rfl) (h1 : (assignEach [tg] X.env).map (·.2) = [assign tg X.env] := by rfl) : QS X E (.Assign [tg] e pos) (wAsg wa g) :=
  (ps_asg h hg hs hw h1).imp fun D σ H ⟨φ, env, S, G, X', rs, re, q, k, x⟩ => ⟨φ, env, S, _, X', rs, re, q, fun d S1 φ1 v H1 e1 rs1 rv1 q1 => ⟨φ1, env, S1, d, G.nx, rs1, re.mono e1, rv1, q1, fun env' S' φ' σ' H' e2 rs2 re2 _ q2 => k.nx env' S' φ' σ' H' (e1.trans e2) rs2 re2 q2⟩, x⟩
theorem q_set {i : Nat} {x : Str} (hN : X.N.Nodup) (hi : X.N[i]? = some x) (hx : Loc X.env.scope x) (h : QE X E e wa) (hs : swapsWith e (some (.Name x pos')) pos.line X.env = pure false := by rfl) (hf : X.fn x = true ∨ X.env.scope.names.lookup x = some .local := by first | exact .inl rfl | exact .inr rfl | assumption) :
    QS X E (.Assign [.Name x pos'] e pos) (wSet i wa) :=
  (ps_set hN hi hx h hs hf).imp fun D σ H ⟨φ, env, S, G, X', rs, re, q, k, x⟩ => ⟨φ, env, S, _, X', rs, re, q, fun d S1 φ1 v H1 e1 rs1 rv1 q1 => k.nx _ S1 φ1 _ H1 e1 rs1 ((re.mono e1).set rv1) q1, x⟩
theorem q_aug {i : Nat} {x : Str} {op : Operator} {r : R2} {f : WO2} (hN : X.N.Nodup) (hi : X.N[i]? = some x) (hx : Loc X.env.scope x) (ho : PIp X op r) (hr : RO2 X.K r f) (h : QE X E e wa) (hf : X.fn x = true ∨ X.env.scope.names.lookup x = some .local := by first | exact .inl rfl | exact .inr rfl | assumption) :
    QS X E (.AugAssign (.Name x pos') op e pos) (wAug i f wa) :=
  (ps_aug hN hi hx h ho hf).imp fun D σ H ⟨φ, env, S, G, X', rs, re, ⟨d, ed, q⟩, k, x⟩ =>
    let ⟨v, hv, rv⟩ := re.here i d ed
    ⟨v, hv, φ, env, S, _, X', rs, re, q, fun y S1 φ1 u H1 e1 rs1 rv1 q1 => hr φ1 S1 H1 d y v u _ _ rs1 (rv.mono e1) rv1 q1 fun z S2 φ2 vz H2 e2 rs2 rv2 q2 => k.nx _ S2 φ2 _ H2 (e1.trans e2) rs2 ((re.mono (e1.trans e2)).set rv2) q2, x⟩
theorem q_par {i j : Nat} {x y : Str} {a b : Expr} {wa wb : WE} {px py pt : Pos} {kt k2 pt2} (hc : X.calm = true) (hN : X.N.Nodup) (hi : X.N[i]? = some x) (hj : X.N[j]? = some y) (hij : i ≠ j)
    (hx : X.env.scope.names.lookup x = some .local) (hy : X.env.scope.names.lookup y = some .local) (ha : QE X E a wa) (hb : QE X E b wb)
    (hw : swappedStores [.Tuple [.Name x px, .Name y py] kt pt] (.Tuple [a, b] k2 pt2) X.env = pure (some [x, y]))
    (hs : swapsWithSole [.Tuple [.Name x px, .Name y py] kt pt] (.Tuple [a, b] k2 pt2) pos.line X.env = pure false := by rfl) (he : starEach (a :: [b]) X.env = (false, eval a X.env) :: starEach [b] X.env := by rfl) (he2 : starEach (b :: []) X.env = (false, eval b X.env) :: starEach [] X.env := by rfl) :
    QS X E (.Assign [.Tuple [.Name x px, .Name y py] kt pt] (.Tuple [a, b] k2 pt2) pos) (wPar i j wa wb) :=
  (ps_par hc hN hi hj hij hx hy (pa_cons ha (pa_cons hb pa_nil he2) he) hw hs).imp fun D σ H ⟨φ, env, S, G, X', rs, re, q, k, x⟩ =>
    ⟨φ, env, S, _, X', rs, re, q, fun d S1 φ1 v H1 e1 rs1 rv1 q1 => ⟨φ1, env, S1, _, X', rs1, re.mono e1, q1, fun d2 S2 φ2 u H2 e2 rs2 rv2 q2 =>
      ⟨v, u, rfl, k.nx _ S2 φ2 _ H2 (e1.trans e2) rs2 (((re.mono (e1.trans e2)).set (rv1.mono e2)).set rv2) q2⟩, x.mono e1⟩, x⟩
end
/-! ### what a for walks -/
def JOk (K : PySem.W.Frag) (φ0 : List Addr) (H0 : Hp) (J : It) (items : List D) (still : Store → Prop) : Prop := ∀ φ S H (i : Nat), Ext φ0 H0 φ H → RS K φ S H → still S →
  (items.length ≤ i → J.stop i H) ∧ ∀ d, items[i]? = some d → J.go i H ∧ ∀ x H', J.yld i H x H' → Ext φ H φ H' ∧ RS K φ S H' ∧ RV K φ H' d x
abbrev WI := Slots → Store → (List D → (Store → Prop) → Store → Prop) → XQ → Prop
def LI (K : PySem.W.Frag) (E : XK) (wi : WI) : TI := fun σ H R => ∃ φ env S R' X', RS K φ S H ∧ RE K φ H env σ ∧ wi env S R' X' ∧
  (∀ items still S' φ' H' J, Ext φ H φ' H' → RS K φ' S' H' → JOk K φ' H' J items still → R' items still S' → R J H') ∧ XOk K φ H X' E
abbrev QI (X : Cx) (E : XK) (tg iter : Expr) (wi : WI) : Prop := PI X tg iter (LI X.K E wi)
theorem _root_.L2.PI.imp {X : Cx} {tg e : Expr} {t u : TI} (h : PI X tg e t) (f : ∀ σ H Q, u σ H Q → t σ H Q) : PI X tg e u := ⟨fun pins s σ H Q I q => h.run pins s σ H Q I (f σ H Q q)⟩
/-- a loop over items, one after another -/
def wLoop (g : WG) (w : WS) (still : Store → Prop) (G : Go) (X : XQ) : List D → Slots → Store → Prop
  | [], env, S => still S ∧ G.nx env S
  | d :: ds, env, S => still S ∧ g d env S fun e s => w ⟨wLoop g w still G X ds, G.rt, G.nx, wLoop g w still G X ds⟩ e s X
def wFor (wi : WI) (g : WG) (w : WS) : WS := fun G env S X => wi env S (fun items still S1 => wLoop g w still G X items env S1) X
def iLst (a : WE) : WI := fun env S R X => a env S (fun d S1 => match d with
  | .loc n => ∃ w ds, S1[n]? = some (.lst w ds) ∧ R ds (fun s => ∃ w, s[n]? = some (.lst w ds)) S1
  | _ => False) X
def iTp (a : WE) : WI := fun env S R X => a env S (fun d S1 => match d with
  | .tup ds => R ds (fun _ => True) S1
  | _ => False) X
def iRng (a : WE) : WI := fun env S R X => a env S (fun d S1 => match d with
  | .int j => -(2 ^ 62) ≤ j ∧ j < 2 ^ 62 ∧ R ((List.range j.toNat).map fun i => .int (i : Nat)) (fun _ => True) S1
  | _ => False) X
def iEn (a : WE) : WI := fun env S R X => a env S (fun d S1 => match d with
  | .loc n => ∃ w ds, S1[n]? = some (.lst w ds) ∧ R (ds.mapIdx fun i d => .tup [.int (i : Nat), d]) (fun s => ∃ w, s[n]? = some (.lst w ds)) S1
  | _ => False) X
section
variable {X : Cx} {E : XK} {tg e : Expr} {wa : WE} {pos p : Pos}
theorem RS.inj {K : PySem.W.Frag} {φ : List Addr} {S : Store} {H : Hp} (I : ∀ xs ys a, SqL K H a xs → SqL K H a ys → xs = ys) : True := trivial
theorem Rd.lst_inj {H : Hp} {a : Addr} {xs ys : List V} (h : Rd H a (.lst xs)) (g : Rd H a (.lst ys)) : xs = ys := by
  rcases h with h | ⟨o, h⟩ <;> rcases g with g | ⟨o', g⟩ <;> rw [h] at g <;> cases g <;> rfl
theorem qi_list (h : QE X E e wa) : QI X E tg e (iLst wa) := (pi_list h).imp fun σ H R ⟨φ, env, S, R', X', rs, re, q, k, x⟩ =>
  ⟨φ, env, S, _, X', rs, re, q, fun d S1 φ1 v H1 e1 rs1 rv1 q1 => by
    cases d <;> first
      | exact False.elim q1
      | skip
    case loc n =>
      obtain ⟨w, ds, e2, q2⟩ := q1
      obtain ⟨a, xs, rfl, h1, h2, h3, _⟩ := rs1.lst rv1 e2
      refine ⟨a, rfl, ⟨xs, h2⟩, k ds _ S1 φ1 H1 _ e1 rs1 (fun φ2 S2 H2 i e3 rs2 st => ?_) q2⟩
      obtain ⟨w2, st⟩ := st
      obtain ⟨a', ys, e', g1, g2, g3, _⟩ := rs2.lst (v := .ref a) ⟨a, e3.get h1, rfl⟩ st
      cases e'
      refine ⟨fun hl => ⟨ys, g2, by rw [← g3.len]; exact hl⟩, fun d hd => ?_⟩
      obtain ⟨z, hz, rz⟩ := g3.get hd
      exact ⟨⟨ys, z, g2, hz⟩, fun x H' ⟨e4, y⟩ => by
        subst e4
        have := (y ys g2).symm.trans hz
        cases this
        exact ⟨rs2.ext, rs2, rz⟩⟩, x⟩
theorem qi_tup (h : QE X E e wa) : QI X E tg e (iTp wa) := (pi_tup h).imp fun σ H R ⟨φ, env, S, R', X', rs, re, q, k, x⟩ =>
  ⟨φ, env, S, _, X', rs, re, q, fun d S1 φ1 v H1 e1 rs1 rv1 q1 => by
    cases d <;> first
      | exact False.elim q1
      | skip
    case tup ds =>
      obtain ⟨a, xs, rfl, h2, h3⟩ := rv1
      refine ⟨a, rfl, ⟨xs, SqT.of h2⟩, k ds _ S1 φ1 H1 _ e1 rs1 (fun φ2 S2 H2 i e3 rs2 st => ?_) q1⟩
      have g2 : SqT X.K H2 a xs := SqT.of (e3.sqT h2)
      have g3 := h3.mono e3
      refine ⟨fun hl => ⟨xs, g2, by rw [← g3.len]; exact hl⟩, fun d hd => ?_⟩
      obtain ⟨z, hz, rz⟩ := g3.get hd
      exact ⟨⟨xs, z, g2, hz⟩, fun x H' ⟨e4, y⟩ => by
        subst e4
        have := (y xs g2).symm.trans hz
        cases this
        exact ⟨rs2.ext, rs2, rz⟩⟩, x⟩
theorem qi_range {p2 : Pos} (hg : Gl X "range") (hm : X.mg "range" = none) (h : QE X E e wa) (hs : starEach [e] X.env = [(false, eval e X.env)] := by rfl) : QI X E tg (.Call (.Name "range" p2) [e] [] pos) (iRng wa) := (pi_range1 hg hm (pa_cons h pa_nil hs) hs).imp fun σ H R ⟨φ, env, S, R', X', rs, re, q, k, x⟩ =>
  ⟨φ, env, S, _, X', rs, re, q, fun d S1 φ1 v H1 e1 rs1 rv1 q1 => by
    cases d <;> first
      | exact False.elim q1
      | skip
    case int j =>
      cases rv1
      obtain ⟨q2, q3, q4⟩ := q1
      refine ⟨j, rfl, q2, q3, k _ _ S1 φ1 H1 _ e1 rs1 (fun φ2 S2 H2 i e3 rs2 st => ⟨fun hl => ?_, fun d hd => ?_⟩) q4⟩
      · show j.toNat ≤ i
        simp at hl
        omega
      · rw [List.getElem?_map] at hd
        cases hr : (List.range j.toNat)[i]? with
        | none => rw [hr] at hd; cases hd
        | some m =>
          rw [hr] at hd
          cases hd
          obtain ⟨h1, h2⟩ := List.getElem?_eq_some_iff.mp hr
          simp at h1 h2
          subst h2
          exact ⟨show i < j.toNat by omega, fun x H' ⟨e4, e5⟩ => by
            subst e4 e5
            exact ⟨rs2.ext, rs2, by simp [RV]⟩⟩, x⟩
theorem qi_enum {elts : List Expr} {kk : Nat} {tpos p2 : Pos} (hg : Gl X "enumerate") (hm : X.mg "enumerate" = none) (h : QE X E e wa) (hs : starEach [e] X.env = [(false, eval e X.env)] := by rfl) : QI X E (.Tuple elts kk tpos) (.Call (.Name "enumerate" p2) [e] [] pos) (iEn wa) := (pi_enum hg hm (pa_cons h pa_nil hs) hs).imp fun σ H R ⟨φ, env, S, R', X', rs, re, q, k, x⟩ =>
  ⟨φ, env, S, _, X', rs, re, q, fun d S1 φ1 v H1 e1 rs1 rv1 q1 => by
    cases d <;> first
      | exact False.elim q1
      | skip
    case loc n =>
      obtain ⟨w, ds, e2, q2⟩ := q1
      obtain ⟨a, xs, rfl, h1, h2, h3, _⟩ := rs1.lst rv1 e2
      refine ⟨a, xs, rfl, h2, k _ _ S1 φ1 H1 _ e1 rs1 (fun φ2 S2 H2 i e3 rs2 st => ?_) q2⟩
      obtain ⟨w2, st⟩ := st
      obtain ⟨a', ys, e', g1, g2, g3, _⟩ := rs2.lst (v := .ref a) ⟨a, e3.get h1, rfl⟩ st
      cases e'
      refine ⟨fun hl => ⟨ys, g2, by rw [← g3.len]; simpa using hl⟩, fun d hd => ?_⟩
      rw [List.getElem?_mapIdx] at hd
      cases hr : ds[i]? with
      | none => rw [hr] at hd; cases hd
      | some d0 =>
        rw [hr] at hd
        cases hd
        obtain ⟨z, hz, rz⟩ := g3.get hr
        exact ⟨⟨ys, z, g2, hz⟩, fun x H' ⟨T, x0, e4, hT, e5, y⟩ => by
          subst e4 e5
          have ez : x0 = z := Option.some.inj ((y ys g2).symm.trans hz)
          subst ez
          have ex := Ext.fresh (o := .tup [.int (i : Nat), x0]) rs2 hT
          exact ⟨ex, rs2.fresh hT, T, _, rfl, upd_same, _, _, rfl, rfl, _, _, rfl, rz.mono ex, rfl⟩⟩, x⟩
theorem q_for {iter : Expr} {body : List Stmt} {wi : WI} {g : WG} {w : WS} {vs : List Nat} (hp : PassesOwn (model X.prog X.w) X.A X.env X.xe) (hc : X.calm = true) (hi : QI X E tg iter wi) (hg : QG X vs tg g) (hb : QSs X E body w) (hs : ∀ x, foldedSetIterable iter X.env x = pure x := by intro _; rfl) :
    QS X E (.For tg iter body [] pos) (wFor wi g w) := (ps_for hp hc hi hg hb hs).imp fun Dn σ H ⟨φ, env, S, G, X', rs, re, q, k, x⟩ =>
  ⟨φ, env, S, _, X', rs, re, q, fun items still S1 φ1 H1 J e1 rs1 jok q1 => by
    refine ⟨fun i m σ H => ∃ φ2 env2 S2, Ext φ1 H1 φ2 H ∧ RS X.K φ2 S2 H ∧ RE X.K φ2 H env2 σ ∧ m = items.length - i ∧ wLoop g w still G X' (items.drop i) env2 S2, ⟨items.length, φ1, env, S1, rs1.ext, rs1, re.mono e1, by simp, by simpa using q1⟩, ?_⟩
    rintro i m σ2 H2 ⟨φ2, env2, S2, e2, rs2, re2, hm, lp⟩
    by_cases hi : i < items.length
    · rw [List.drop_eq_getElem_cons hi] at lp
      obtain ⟨st, lp⟩ := lp
      obtain ⟨_, jg⟩ := jok φ2 S2 H2 i e2 rs2 st
      obtain ⟨go, yl⟩ := jg items[i] (List.getElem?_eq_getElem hi)
      refine .inr ⟨go, fun σ' H' => ∃ φ3 env3 S3, Ext φ1 H1 φ3 H' ∧ RS X.K φ3 S3 H' ∧ RE X.K φ3 H' env3 σ' ∧ wLoop g w still G X' (items.drop (i + 1)) env3 S3, fun σ' H' ⟨φ3, env3, S3, e3, rs3, re3, l3⟩ => ⟨items.length - (i + 1), by omega, φ3, env3, S3, e3, rs3, re3, rfl, l3⟩, fun y H' hy => ?_⟩
      obtain ⟨e3, rs3, rv3⟩ := yl y H' hy
      refine ⟨φ2, env2, S2, items[i], _, rs3, re2.mono e3, rv3, lp, fun env4 S4 φ4 σ4 H4 e4 rs4 re4 _ q4 => ?_⟩
      have e14 : Ext φ1 H1 φ4 H4 := e2.trans (e3.trans e4)
      exact ⟨φ4, env4, S4, _, X', rs4, re4, q4, ⟨fun env5 S5 φ5 σ5 H5 e5 rs5 re5 q5 => ⟨φ5, env5, S5, e14.trans e5, rs5, re5, q5⟩, (k.mono (e1.trans e14)).rt, (k.mono (e1.trans e14)).nx, fun env5 S5 φ5 σ5 H5 e5 rs5 re5 q5 => ⟨φ5, env5, S5, e14.trans e5, rs5, re5, q5⟩⟩, x.mono (e1.trans e14)⟩
    · rw [List.drop_of_length_le (by omega)] at lp
      obtain ⟨st, lp⟩ := lp
      exact .inl ⟨(jok φ2 S2 H2 i e2 rs2 st).1 (by omega), k.nx env2 S2 φ2 σ2 H2 (e1.trans e2) rs2 re2 lp⟩, x⟩
def wWhile (c : WT) (w : WS) : WS := fun G env S X => ∃ I : Nat → Slots → Store → Prop, (∃ m, I m env S) ∧ ∀ m env S, I m env S →
  c env S (fun b S1 => if b = true then w ⟨fun e s => ∃ m', m' < m ∧ I m' e s, G.rt, G.nx, fun e s => ∃ m', m' < m ∧ I m' e s⟩ env S1 X else G.nx env S1) X
theorem q_while {c : Expr} {body : List Stmt} {t : WT} {w : WS} (hp : PassesOwn (model X.prog X.w) X.A X.env X.xe) (hc : QT X E c t) (hb : QSs X E body w) : QS X E (.While c body [] pos) (wWhile t w) := (ps_while hp hc hb).imp fun Dn σ H ⟨φ, env, S, G, X', rs, re, ⟨I, ⟨m0, i0⟩, turn⟩, k, x⟩ => by
  refine ⟨fun m σ H' => ∃ φ2 env2 S2, Ext φ H φ2 H' ∧ RS X.K φ2 S2 H' ∧ RE X.K φ2 H' env2 σ ∧ I m env2 S2, ⟨m0, φ, env, S, rs.ext, rs, re, i0⟩, ?_⟩
  rintro m σ2 H2 ⟨φ2, env2, S2, e2, rs2, re2, i2⟩
  refine ⟨φ2, env2, S2, _, X', rs2, re2, turn m env2 S2 i2, fun b S3 φ3 H3 e3 rs3 q3 => ?_, x.mono e2⟩
  have e13 := e2.trans e3
  cases b with
  | true =>
    have q3 := ofT q3
    refine iteT ⟨fun σ' H' => ∃ m', m' < m ∧ ∃ φ4 env4 S4, Ext φ H φ4 H' ∧ RS X.K φ4 S4 H' ∧ RE X.K φ4 H' env4 σ' ∧ I m' env4 S4, fun σ' H' q => q, ?_⟩
    have step : ∀ env5 S5 φ5 σ5 H5, Ext φ3 H3 φ5 H5 → RS X.K φ5 S5 H5 → RE X.K φ5 H5 env5 σ5 → (∃ m', m' < m ∧ I m' env5 S5) → ∃ m', m' < m ∧ ∃ φ4 env4 S4, Ext φ H φ4 H5 ∧ RS X.K φ4 S4 H5 ∧ RE X.K φ4 H5 env4 σ5 ∧ I m' env4 S4 :=
      fun env5 S5 φ5 σ5 H5 e5 rs5 re5 ⟨m', h1, h2⟩ => ⟨m', h1, φ5, env5, S5, e13.trans e5, rs5, re5, h2⟩
    exact ⟨φ3, env2, S3, _, X', rs3, re2.mono e3, q3, ⟨step, (k.mono e13).rt, (k.mono e13).nx, step⟩, x.mono e13⟩
  | false =>
    have q3 := ofF q3
    refine iteF ?_
    exact k.nx env2 S3 φ3 σ2 H3 e13 rs3 (re2.mono e3) q3
end
end Qd
set_option Elab.async false
set_option linter.all false
set_option maxRecDepth 100000
/-! Layer Q: comprehensions. -/
namespace Qd
open PySem PySem.Spec PyProof.Rows L2
/-! ### comprehensions -/
def wipeD (env : Slots) : List Nat → Slots
  | [] => env
  | v :: vs => (wipeD env vs).set v none
theorem RE.wipe {K : PySem.W.Frag} {φ : List Addr} {H : Hp} {env : Slots} {σ : L2.St} (r : RE K φ H env σ) : ∀ vs, RE K φ H (wipeD env vs) (L2.wipe σ vs)
  | [] => r
  | v :: vs => (RE.wipe r vs).drop
/-- the items in turn, what is kept so far in acc -/
def wLcL (g : WG) (t : WT) (a : WE) (env : Slots) (still : Store → Prop) (Q : List D → Store → Prop) (X : XQ) : List D → List D → Store → Prop
  | [], acc, S => still S ∧ Q acc S
  | d :: ds, acc, S => still S ∧ g d env S fun e s => t e s (fun b s2 => if b = true then a e s2 (fun y s3 => acc.length < lineD ∧ wLcL g t a env still Q X ds (acc ++ [y]) s3) X else wLcL g t a env still Q X ds acc s2) X
def wLc (wi : WI) (g : WG) (t : WT) (a : WE) (vs : List Nat) : WE := fun env S Q X => wi env S (fun items still S1 => wLcL g t a (wipeD env vs) still (fun acc S2 => Q (.loc S2.length) (S2 ++ [.lst true acc])) X items [] S1) X
def wYes : WT := fun _ S Q _ => Q true S
theorem qts_nil {X : Cx} {E : XK} : PTs X [] (LT X.K E wYes) := ⟨fun pins s σ H Q I ⟨φ, env, S, Q', X', rs, re, q, k, _⟩ => pts_nil.run pins s σ H Q I (k true S φ H rs.ext rs q)⟩
theorem qts_one {X : Cx} {E : XK} {c : Expr} {t : WT} (h : QT X E c t) : PTs X [c] (LT X.K E t) := pts_one h
section
variable {K : PySem.W.Frag} {φ φ' : List Addr} {H H' : Hp} {S : Store} {Dl : Addr} {xs ys : List V}
/-- the list that a comprehension fills, no cell of the store yet -/
theorem lc_upd (e : Ext φ H φ' H') (r : RS K φ' S H') (n0 : H Dl = none) (nd : Dl ∉ φ') (h : H' Dl = some (.lst xs)) : Ext φ H φ' (upd H' Dl (.lst ys)) ∧ RS K φ' S (upd H' Dl (.lst ys)) := by
  have tp : ∀ a zs, H' a = some (.tup zs) → (upd H' Dl (.lst ys)) a = some (.tup zs) := fun a zs z => by
    have ne : a ≠ Dl := fun q => nt_lst h zs (q ▸ z)
    rw [upd_ne ne]; exact z
  have ne : ∀ a ∈ φ', a ≠ Dl := fun a ha q => nd (q ▸ ha)
  refine ⟨⟨e.pre, fun a o na z => ?_, fun a zs z => tp a zs (e.tups a zs z), fun a ha => ?_⟩, r.later ⟨fun h => h, tp, fun a o ys n g => ⟨n, by rw [upd_ne (fun z => by rw [z, h] at g; cases g)]; exact g⟩⟩ fun a ha => upd_ne (ne a ha)⟩
  · rw [upd_ne (ne_of_none z n0)]; exact e.keep a o na z
  · rw [upd_ne (ne a ha)]; exact e.dom a ha
theorem lc_end (e : Ext φ H φ' H') (r : RS K φ' S H') (n0 : H Dl = none) (nd : Dl ∉ φ') (h : H' Dl = some (.lst xs)) {ds : List D} (rv : RVs K φ' H' ds xs) : Ext φ H (φ' ++ [Dl]) H' ∧ RS K (φ' ++ [Dl]) (S ++ [.lst true ds]) H' ∧ RV K (φ' ++ [Dl]) H' (.loc S.length) (.ref Dl) := by
  have m : Mn φ' H' (φ' ++ [Dl]) H' := ⟨fun {n a} q => by rw [List.getElem?_append_left (List.getElem?_eq_some_iff.mp q).1]; exact q, fun _ _ z => z, fun a o ys n g => ⟨fun z => (List.mem_append.mp z).elim n fun z => (by rw [List.mem_singleton.mp z, h] at g; cases g), g⟩⟩
  have dom : ∀ a ∈ φ' ++ [Dl], H' a ≠ none := fun a ha => by
    rcases List.mem_append.mp ha with z | z
    · exact r.dom a z
    · rw [List.mem_singleton.mp z, h]; exact fun q => by cases q
  have last : (φ' ++ [Dl])[S.length]? = some Dl := by rw [← r.len, List.getElem?_append_right (Nat.le_refl _), Nat.sub_self]; rfl
  refine ⟨⟨?_, e.keep, e.tups, dom⟩, ⟨by simp [r.len], ?_, dom, fun n a c h1 h2 => ?_⟩, Dl, last, rfl⟩
  · obtain ⟨ψ, e1, e2⟩ := e.pre
    refine ⟨ψ ++ [Dl], by rw [e1, List.append_assoc], fun a ha => ?_⟩
    rcases List.mem_append.mp ha with z | z
    · exact e2 a z
    · rw [List.mem_singleton.mp z]; exact n0
  · rw [List.nodup_append]
    refine ⟨r.nd, by simp, fun a ha b hb => ?_⟩
    rw [List.mem_singleton.mp hb]
    rintro rfl
    exact nd ha
  · by_cases hn : n < φ'.length
    · rw [List.getElem?_append_left hn] at h1
      rw [List.getElem?_append_left (by rw [← r.len]; exact hn)] at h2
      exact (r.here n a c h1 h2).mono m rfl
    · have hn1 := (List.getElem?_eq_some_iff.mp h1).1
      have hn2 : n = S.length := by
        simp at hn1
        have := r.len
        omega
      subst hn2
      rw [last] at h1
      cases h1
      rw [List.getElem?_append_right (Nat.le_refl _), Nat.sub_self] at h2
      cases h2
      exact ⟨xs, by rw [if_pos rfl]; exact h, rv.mn m⟩
theorem Ext.notin (e : Ext φ H φ' H') {a : Addr} {o : HO} (h : H a = some o) (n : a ∉ φ) : a ∉ φ' := fun z => by
  obtain ⟨ψ, rfl, e2⟩ := e.pre
  rcases List.mem_append.mp z with q | q
  · exact n q
  · rw [e2 a q] at h; cases h
end
section
variable {X : Cx} {E : XK}
theorem lc_lift {wi : WI} {g : WG} {t : WT} {a : WE} {vs : List Nat} : ∀ σ H Q, LE X.K E (wLc wi g t a vs) σ H Q → tLc (LI X.K E wi) (LG X.K vs g) (LT X.K E t) (LE X.K E a) vs σ H Q :=
  fun σ H Q ⟨φ, env, S, Q', X', rs, re, q, k, x⟩ => ⟨φ, env, S, _, X', rs, re, q, fun items still S1 φ1 H1 J e1 rs1 jok q1 => by
    intro Dl n0
    have nd1 : Dl ∉ φ1 := fun z => rs1.dom Dl z n0
    -- the invariant
    refine ⟨fun i m H => ∃ φ2 S2 acc xs, Ext φ1 H1 φ2 H ∧ RS X.K φ2 S2 H ∧ RE X.K φ2 H env σ ∧ Dl ∉ φ2 ∧ H Dl = some (.lst xs) ∧ RVs X.K φ2 H acc xs ∧ m = items.length - i ∧
      wLcL g t a (wipeD env vs) still (fun acc S2 => Q' (.loc S2.length) (S2 ++ [.lst true acc])) X' (items.drop i) acc S2, ⟨items.length, φ1, S1, [], [], Ext.fresh rs1 n0, rs1.fresh n0, re.mono (e1.trans (Ext.fresh rs1 n0)), nd1, upd_same, rfl, by simp, by simpa using q1⟩, ?_⟩
    rintro i m H2 ⟨φ2, S2, acc, xs, e2, rs2, re2, nd2, hD, rva, hm, lp⟩
    by_cases hi : i < items.length
    · rw [List.drop_eq_getElem_cons hi] at lp
      obtain ⟨st, lp⟩ := lp
      obtain ⟨_, jg⟩ := jok φ2 S2 H2 i e2 rs2 st
      obtain ⟨go, yl⟩ := jg items[i] (List.getElem?_eq_getElem hi)
      refine .inr ⟨go, fun H' => ∃ φ3 S3 acc xs, Ext φ1 H1 φ3 H' ∧ RS X.K φ3 S3 H' ∧ RE X.K φ3 H' env σ ∧ Dl ∉ φ3 ∧ H' Dl = some (.lst xs) ∧ RVs X.K φ3 H' acc xs ∧
        wLcL g t a (wipeD env vs) still (fun acc S2 => Q' (.loc S2.length) (S2 ++ [.lst true acc])) X' (items.drop (i + 1)) acc S3, fun H' ⟨φ3, S3, acc, xs, h1, h2, h3, h4, h5, h6, h7⟩ => ⟨items.length - (i + 1), by omega, φ3, S3, acc, xs, h1, h2, h3, h4, h5, h6, rfl, h7⟩, fun y H' hy => ?_⟩
      obtain ⟨e3, rs3, rv3⟩ := yl y H' hy
      have hD3 := e3.keep Dl _ nd2 hD
      refine ⟨φ2, wipeD env vs, S2, items[i], _, rs3, (re2.mono e3).wipe vs, rv3, lp, fun env4 S4 φ4 σ4 H4 e4 rs4 re4 w4 q4 => ⟨?_, ?_⟩⟩
      · rw [w4]
        have ww : ∀ (σ : L2.St) (vs us : List Nat), (∀ v ∈ vs, v ∈ us) → wipe (wipe σ vs) us = wipe σ us := by
          intro σ vs us h
          induction vs with
          | nil => rfl
          | cons v r ih =>
            show wipe ((wipe σ r).set v none) us = _
            rw [wipe_set (h v (by simp)), ih fun u hu => h u (by simp [hu])]
        exact ww σ vs vs fun v h => h
      have e24 := e3.trans e4
      have e14 := e2.trans e24
      have nd4 : Dl ∉ φ4 := e4.notin hD3 nd2
      have hD4 := e4.keep Dl _ nd2 hD3
      refine ⟨φ4, env4, S4, _, X', rs4, re4, q4, fun b S5 φ5 H5 e5 rs5 q5 => ?_, (x.mono e1).mono e14⟩
      have nd5 : Dl ∉ φ5 := e5.notin hD4 nd4
      have hD5 := e5.keep Dl _ nd4 hD4
      have e15 := e14.trans e5
      cases b with
      | false =>
        have q5 := ofF q5
        refine iteF ?_
        exact ⟨φ5, S5, acc, xs, e15, rs5, re2.mono (e24.trans e5), nd5, hD5, rva.mono (e24.trans e5), q5⟩
      | true =>
        have q5 := ofT q5
        refine iteT ⟨φ5, env4, S5, _, X', rs5, re4.mono e5, q5, fun d S6 φ6 v H6 e6 rs6 rv6 ⟨hl, q6⟩ => ?_, (x.mono e1).mono e15⟩
        have nd6 : Dl ∉ φ6 := e6.notin hD5 nd5
        have hD6 := e6.keep Dl _ nd5 hD5
        have rva6 := rva.mono (e24.trans (e5.trans e6))
        obtain ⟨u1, u2⟩ := lc_upd (ys := xs ++ [v]) (e15.trans e6) rs6 n0 nd6 hD6
        have mm : Mn φ6 H6 φ6 (upd H6 Dl (.lst (xs ++ [v]))) := ⟨fun h => h, fun a zs z => by
          have ne : a ≠ Dl := fun q => nt_lst hD6 zs (q ▸ z)
          rw [upd_ne ne]; exact z, fun a o ys n g => ⟨n, by rw [upd_ne (fun z => by rw [z, hD6] at g; cases g)]; exact g⟩⟩
        have re6 := re2.mono (e24.trans (e5.trans e6))
        exact ⟨xs, hD6, by rw [← rva.len]; exact hl, φ6, S6, acc ++ [d], xs ++ [v], u1, u2, ⟨re6.len, fun i d h => let ⟨v, p1, p2⟩ := re6.here i d h; ⟨v, p1, p2.mn mm⟩⟩, nd6, upd_same, (rva6.append (es := [d]) (us := [v]) ⟨v, [], rfl, rv6, rfl⟩).mn mm, q6⟩
    · rw [List.drop_of_length_le (by omega)] at lp
      obtain ⟨st, lp⟩ := lp
      obtain ⟨f1, f2, f3⟩ := lc_end e2 rs2 n0 nd2 hD rva
      exact .inl ⟨(jok φ2 S2 H2 i e2 rs2 st).1 (by omega), k _ _ _ _ _ (e1.trans f1) f2 f3 lp⟩, x⟩
theorem q_lc {elt tg iter : Expr} {ifs : List Expr} {scope : Scope} {own : List (Str × Nat)} {pos : Pos} {wi : WI} {g : WG} {t : WT} {a : WE} (hc : X.calm = true) (hN : X.N.Nodup) (hi : QI X E tg iter wi) (ok : BlkOk X.N X.env.scope scope own)
    (hg : ∀ (s : Shared) (H : Hp) (C : Addr) (cl : List (Str × Addr)) (fp : List Addr), QG (X.blk s H scope (compEnvC scope cl C X.env) fp) (own.map (·.2)) tg g)
    (ht : ∀ (s : Shared) (H : Hp) (C : Addr) (cl : List (Str × Addr)) (fp : List Addr), PTs (X.blk s H scope (compEnvC scope cl C X.env) fp) ifs (LT X.K E t))
    (he : ∀ (s : Shared) (H : Hp) (C : Addr) (cl : List (Str × Addr)) (fp : List Addr), QE (X.blk s H scope (compEnvC scope cl C X.env) fp) E elt a) (hs : ∀ x, foldedSetIterable iter X.env x = pure x := by intro _; rfl) :
    QE X E (.ListComp elt [⟨tg, iter, ifs, 0⟩] scope pos) (wLc wi g t a (own.map (·.2))) := (pe_lc hc hN hi ok hg ht he hs).imp lc_lift
theorem q_setLc {i : Nat} {y : Str} {py : Pos} {elt tg iter : Expr} {ifs : List Expr} {scope : Scope} {own : List (Str × Nat)} {pos spos : Pos} {wi : WI} {g : WG} {t : WT} {a : WE} (hc : X.calm = true) (hN : X.N.Nodup) (hy : X.N[i]? = some y) (hyl : X.env.scope.names.lookup y = some .local)
    (hsw : swapsWith (.ListComp elt [⟨tg, iter, ifs, 0⟩] scope pos) (some (.Name y py)) spos.line X.env = pure true) (hi : QI X E tg iter wi) (ok : BlkOk X.N X.env.scope scope own)
    (hg : ∀ (s : Shared) (H : Hp) (C : Addr) (cl : List (Str × Addr)) (fp : List Addr), QG (X.blk s H scope (compEnvC scope cl C X.env) fp) (own.map (·.2)) tg g)
    (ht : ∀ (s : Shared) (H : Hp) (C : Addr) (cl : List (Str × Addr)) (fp : List Addr), PTs (X.blk s H scope (compEnvC scope cl C X.env) fp) ifs (LT X.K E t))
    (he : ∀ (s : Shared) (H : Hp) (C : Addr) (cl : List (Str × Addr)) (fp : List Addr), QE (X.blk s H scope (compEnvC scope cl C X.env) fp) E elt a) (hs : ∀ x, foldedSetIterable iter X.env x = pure x := by intro _; rfl) :
    QS X E (.Assign [.Name y py] (.ListComp elt [⟨tg, iter, ifs, 0⟩] scope pos) spos) (wSet i (wLc wi g t a (own.map (·.2)))) := (ps_setLc hc hN hy hyl hsw hi ok hg ht he hs).imp fun Dn σ H ⟨φ, env, S, G, X', rs, re, q, k, x⟩ =>
  lc_lift σ H _ ⟨φ, env, S, _, X', rs, re, q, fun d S1 φ1 v H1 e1 rs1 rv1 q1 => k.nx _ S1 φ1 _ H1 e1 rs1 ((re.mono e1).set rv1) q1, x⟩
end
end Qd
set_option Elab.async false
set_option linter.all false
set_option maxRecDepth 100000
/-! Layer Q: defs. -/
namespace Qd
open PySem PySem.Spec PyProof.Rows L2
/-! ### defs -/
abbrev Con := List D → Store → (D → Store → Prop) → XQ → Prop
def spQ (K : PySem.W.Frag) (c : Con) : Sp := fun vs H Q E => ∃ φ S ds Q' X', RS K φ S H ∧ RVs K φ H ds vs ∧ c ds S Q' X' ∧ VOk K φ H Q' Q ∧ XOk K φ H X' E
def noX : XQ := fun _ _ => False
theorem XOk.noX {K : PySem.W.Frag} {φ : List Addr} {H : Hp} {E : XK} : XOk K φ H noX E := fun _ _ _ _ _ _ z => z.elim
def wCall (c : Con) (dds : List D) (a : WA) : WE := fun env S Q X => a env S (fun ds S1 => c (ds ++ dds) S1 Q noX) X
def wCallX (c : Con) (dds : List D) (a : WA) : WE := fun env S Q X => a env S (fun ds S1 => c (ds ++ dds) S1 Q X) X
/-- the defaults as data -/
def flatV (d : D) : Option V := match d with
  | .non => some .non | .bl b => some (.bl b) | .int i => some (.int i) | .str x => some (.str x) | _ => none
def startD (n : Nat) (ds : List D) : Slots := ds.map some ++ List.replicate (n - ds.length) none
/-- a def of the module, by its contract: nothing leaves it but its value -/
structure Fn (P : Program) (w : World) (K : PySem.W.Frag) (mg : Str → Option Value) (base : Heap) (k : Nat) (x : Str) (c : Con) (dvs : List V) : Prop where
  ex : ∃ (f : Addr) (fd : FuncData) (ps : List Str) (ds : List Value), FnOk P w K mg base CX0 k f fd ps (spQ K c) ∧ mg x = some (.ref f) ∧ PySem.W.keepIn K (.ref f) = true ∧ Binds K fd ps ds ∧ Vals dvs ds
section
variable {X : Cx} {E : XK} {c : Con} {a : Expr} {es : List Expr} {wr : WA} {pos p : Pos} {x : Str} {k j : Nat}
theorem call_lift {K : PySem.W.Frag} {dvs : List V} {dds : List D} (hd : ∀ φ H, RVs K φ H dds dvs) : ∀ σ H Q, LE K E (wCall c dds wr) σ H Q → tCall (spQ K c) dvs E0 (LA K E wr) σ H Q :=
  fun σ H Q ⟨φ, env, S, Q', X', rs, re, q, k, x⟩ => ⟨φ, env, S, _, X', rs, re, q, fun ds S1 φ1 vs H1 e1 rs1 rv1 q1 => ⟨φ1, S1, ds ++ dds, Q', noX, rs1, rv1.append (hd _ _), q1, k.mono e1, XOk.noX⟩, x⟩
/-- f(a, ..), f a def that lets nothing out -/
theorem q_c {dvs : List V} {dds : List D} (C : Fn X.prog X.w X.K X.mg X.base k x c dvs) (hr : Room j X.A) (hk : k ≤ j) (hg : Gl X x) (ha : QA X E (a :: es) wr) (hd : ∀ φ H, RVs X.K φ H dds dvs := by exact fun _ _ => rfl)
    (hdb : (x == ("__debug__" : Str)) = false := by decide) (he : starEach (a :: es) X.env = (false, eval a X.env) :: starEach es X.env := by rfl) (hpl : (backTo pos (starEach es X.env)).any (·.1) = false := by rfl) : QE X E (.Call (.Name x p) (a :: es) [] pos) (wCall c dds wr) :=
  let ⟨f, fd, ps, ds, F, hm, kp, b, d⟩ := C.ex
  (pe_call F (hr.mono hk) hg hm kp b d pass0 ha hdb he hpl).imp (call_lift hd)
end
theorem RE.start {K : PySem.W.Frag} {φ : List Addr} {H : Hp} {ds : List D} {vs : List V} (N : List Str) (r : RVs K φ H ds vs) : RE K φ H (startD N.length ds) (L2.start N vs) := by
  have hl := r.len
  refine ⟨by simp [startD, L2.start, hl], fun i d h => ?_⟩
  unfold startD at h
  unfold L2.start
  by_cases hi : i < ds.length
  · rw [List.getElem?_append_left (by simpa using hi), List.getElem?_map] at h
    cases e : ds[i]? with
    | none => rw [e] at h; cases h
    | some d' =>
      rw [e] at h
      cases h
      obtain ⟨v, h1, h2⟩ := r.get e
      exact ⟨v, by rw [List.getElem?_append_left (by simpa [← hl] using hi), List.getElem?_map, h1]; rfl, h2⟩
  · rw [List.getElem?_append_right (by simpa using hi), List.getElem?_replicate] at h
    split at h <;> cases h
section
variable {P : Program} {w : World} {K : PySem.W.Frag} {mg : Str → Option Value} {base : Heap}
/-- THE RULE for a def that lets nothing out: its body's term, then plain data -/
theorem defQ {x : Str} {st : Stmt} {f : Addr} {fd : FuncData} {N ps : List Str} {k : Nat} {c : Con} {ds : List Value} {dvs : List V} (F : Fun K x x st f fd) (hm : mg x = some (.ref f)) (hb : Binds K fd ps ds) (hd : Vals dvs ds) (S : FnScope N ps (defScope st)) (len : ∀ ds S Q X, c ds S Q X → ds.length = ps.length)
    (body : ∀ (cdv : Value) (A : Around) (outer : List Env) (s : Shared) (H : Hp), Room k (A.deeper (envOfC x (defScope st) s.heap.objs.size f cdv)) →
      ∃ u, QSs (cxOf CX0 P w K mg base N x (defScope st) f cdv A outer s H E0).nox E0 (defBody st) u ∧ ∀ ds S Q X', c ds S Q X' → u ⟨fun _ S => Q .non S, Q, fun _ _ => False, fun _ _ => False⟩ (startD N.length ds) S noX) :
    Fn P w K mg base (k + 1) x c dvs := by
  refine ⟨f, fd, ps, ds, F.ok S (fun vs H Q E ⟨φ, S, ds, Q', X', rs, rv, q, _⟩ => ?_) (fun cdv A outer s H vs Q E hr ⟨φ, S, ds, Q', X', rs, rv, q, k, x⟩ => ?_), hm, F.kp, hb, hd⟩
  · rw [← rv.len]; exact len _ _ _ _ q
  · obtain ⟨u, hu, hv⟩ := body cdv A outer s H hr
    refine ⟨LS K E0 u, ?_, φ, startD N.length ds, S, ⟨fun _ S => Q' .non S, Q', fun _ _ => False, fun _ _ => False⟩, noX, rs, RE.start N rv, hv ds S Q' X' q, ⟨fun env S' φ' σ' H' e rs' re' q' => k .non S' φ' .non H' e rs' rfl q', k, fun _ _ _ _ _ _ _ _ z => z.elim, fun _ _ _ _ _ _ _ _ z => z.elim⟩, XOk.noX⟩
    exact hu
end
end Qd
set_option Elab.async false
set_option linter.all false
set_option maxRecDepth 100000
/-! Layer Q: methods of lists, dicts, texts; built-ins over lists. -/
namespace Qd
open PySem PySem.Spec PyProof.Rows L2
/-! ### methods of lists -/
abbrev WM := D → List D → Store → (D → Store → Prop) → Prop
def ROm (K : PySem.W.Frag) (r : V → List V → Hp → VK → Prop) (f : WM) : Prop := ∀ φ S H x ds v vs (Q : VK) Q', RS K φ S H → RV K φ H x v → RVs K φ H ds vs → f x ds S Q' → VOk K φ H Q' Q → r v vs H Q
/-- a list's method -/
def wLm (f : WM) (o : WE) (a : WA) : WE := fun env S Q X => o env S (fun x S1 => match x with
  | .loc n => (∃ w ds, S1[n]? = some (.lst w ds)) ∧ a env S1 (fun ds S2 => f (.loc n) ds S2 Q) X
  | _ => False) X
section
variable {X : Cx} {E : XK} {o e : Expr} {es : List Expr} {wo : WE} {wr : WA} {apos cpos : Pos} {name : Str} {id : String} {r : V → List V → Hp → VK → Prop} {f : WM}
theorem q_lm (slot : Slot "list" name id) (hty : typeOf (.builtin id) = pure (.type "method_descriptor")) (hm : MtR X id r) (h : ROm X.K r f) (ho : QE X E o wo) (ha : QA X E (e :: es) wr)
    (hbase : attributeBase o name X.env (eval o X.env) = eval o X.env := by rfl) (hline : (apos.endLine == cpos.line) = true := by rfl)
    (hfew : ((backTo cpos (starEach (e :: es) X.env)).all (fun x => !x.1) && (backToKw cpos (keywordEach [] X.env)).all (fun x => x.1.isSome) && decide ((e :: es).length + ([] : List Keyword).length + (if ([] : List Keyword).isEmpty then 0 else 1) < 30)) = true := by rfl)
    (hst : starEach (e :: es) X.env = (false, eval e X.env) :: starEach es X.env := by rfl) (hpl : (backTo cpos (starEach es X.env)).any (·.1) = false := by rfl) : QE X E (.Call (.Attribute o name apos) (e :: es) [] cpos) (wLm f wo wr) :=
  (pe_bm (X := X) (apos := apos) (cpos := cpos) PySem.F.plainAttrs_list slot hty hm ho ha (hbase := hbase) (hfew := hfew) (hline := hline) (hs := hst) (hplain := hpl)).imp fun σ H Q ⟨φ, env, S, Q', X', rs, re, q, k, x⟩ =>
    ⟨φ, env, S, _, X', rs, re, q, fun d S1 φ1 v H1 e1 rs1 rv1 q1 => by
      cases d <;> first
        | exact False.elim q1
        | skip
      case loc n =>
        obtain ⟨⟨w, ds, hs⟩, q1⟩ := q1
        obtain ⟨a, xs, rfl, _, h2, _⟩ := rs1.lst rv1 hs
        exact ⟨.inl ⟨rfl, _, h2⟩, φ1, env, S1, _, X', rs1, re.mono e1, q1, fun ds S2 φ2 vs H2 e2 rs2 rv2 q2 => h φ2 S2 H2 (.loc n) ds _ vs Q Q' rs2 (rv1.mono e2) rv2 q2 (k.mono (e1.trans e2)), x.mono e1⟩, x⟩
theorem q_lm0 (slot : Slot "list" name id) (hty : typeOf (.builtin id) = pure (.type "method_descriptor")) (hm : MtR X id r) (h : ROm X.K r f) (ho : QE X E o wo)
    (hbase : attributeBase o name X.env (eval o X.env) = eval o X.env := by rfl) (hline : (apos.endLine == cpos.line) = true := by rfl) : QE X E (.Call (.Attribute o name apos) [] [] cpos) (wLm f wo wNil) :=
  (pe_bm0 PySem.F.plainAttrs_list slot hty hm ho hbase hline).imp fun σ H Q ⟨φ, env, S, Q', X', rs, re, q, k, x⟩ =>
    ⟨φ, env, S, _, X', rs, re, q, fun d S1 φ1 v H1 e1 rs1 rv1 q1 => by
      cases d <;> first
        | exact False.elim q1
        | skip
      case loc n =>
        obtain ⟨⟨w, ds, hs⟩, q1⟩ := q1
        obtain ⟨a, xs, rfl, _, h2, _⟩ := rs1.lst rv1 hs
        exact ⟨.inl ⟨rfl, _, h2⟩, h φ1 S1 H1 (.loc n) [] _ [] Q Q' rs1 rv1 rfl q1 (k.mono e1)⟩, x⟩
end
section
variable {K : PySem.W.Frag} {φ : List Addr} {H : Hp} {S : Store} {Q : VK} {Q' : D → Store → Prop}
/-- a list is changed -/
theorem VOk.wr (k : VOk K φ H Q' Q) (r : RS K φ S H) {n : Nat} {a : Addr} {xs ys : List V} {es : List D} {d : D} {v : V} (h : φ[n]? = some a) (h2 : H a = some (.lst xs)) (rv : RVs K φ H es ys) (rd : RV K φ H d v) (q : Q' d (S.set n (.lst true es))) : Q v (upd H a (.lst ys)) := by
  have e := Ext.write (o := .lst ys) r h (nt_lst h2)
  exact k d _ φ v _ e (r.write (c := .lst true es) h (nt_lst h2) ⟨ys, by rw [if_pos rfl]; exact upd_same, rv.mono e⟩) (rd.mono e) q
end
def fAppend : WM := fun x ds S Q => match x, ds with
  | .loc n, [d] => ∃ xs, S[n]? = some (.lst true xs) ∧ xs.length < lineD ∧ Q .non (S.set n (.lst true (xs ++ [d])))
  | _, _ => False
theorem ro_append {K : PySem.W.Frag} : ROm K rAppend fAppend := by
  intro φ S H x ds v vs Q Q' r hx hv h k
  unfold fAppend at h
  split at h
  · rename_i n d
    obtain ⟨xs, e, hl, h⟩ := h
    obtain ⟨u, rfl, hu⟩ := hv.one
    obtain ⟨a, ys, rfl, h1, _, h3, h4⟩ := r.lst hx e
    exact ⟨a, ys, u, rfl, rfl, h4 rfl, by rw [← h3.len]; exact hl, k.wr r h1 (h4 rfl) (h3.append (es := [d]) ⟨u, [], rfl, hu, rfl⟩) (d := .non) rfl h⟩
  · exact h.elim
def fExtend : WM := fun x ds S Q => match x, ds with
  | .loc n, [.loc m] => ∃ xs ys, S[n]? = some (.lst true xs) ∧ S[m]? = some (.lst true ys) ∧ xs.length + ys.length ≤ lineD ∧ Q .non (S.set n (.lst true (xs ++ ys)))
  | _, _ => False
theorem ro_extend {K : PySem.W.Frag} : ROm K rExtend fExtend := by
  intro φ S H x ds v vs Q Q' r hx hv h k
  unfold fExtend at h
  split at h
  · rename_i n m
    obtain ⟨xs, ys, e, e2, hl, h⟩ := h
    obtain ⟨u, rfl, hu⟩ := hv.one
    obtain ⟨a, us, rfl, h1, _, h3, h4⟩ := r.lst hx e
    obtain ⟨b, ws, rfl, g1, _, g3, g4⟩ := r.lst hu e2
    exact ⟨a, b, us, ws, rfl, rfl, h4 rfl, g4 rfl, by rw [← h3.len, ← g3.len]; exact hl, k.wr r h1 (h4 rfl) (h3.append g3) (d := .non) rfl h⟩
  · exact h.elim
theorem RVs.erase {K : PySem.W.Frag} {φ : List Addr} {H : Hp} : ∀ {ds : List D} {vs : List V} (n : Nat), RVs K φ H ds vs → RVs K φ H (ds.eraseIdx n) (vs.eraseIdx n)
  | [], _, _, h => by subst h; rfl
  | _ :: _, _, 0, ⟨x, r, e1, e2, e3⟩ => by subst e1; exact e3
  | _ :: _, _, n + 1, ⟨x, r, e1, e2, e3⟩ => by subst e1; exact ⟨x, _, rfl, e2, RVs.erase n e3⟩
/-- xs.pop(i), i from 0 on -/
def fPopAt : WM := fun x ds S Q => match x, ds with
  | .loc n, [.int i] => ∃ xs d, S[n]? = some (.lst true xs) ∧ 0 ≤ i ∧ i < 2 ^ 63 ∧ xs[i.toNat]? = some d ∧ Q d (S.set n (.lst true (xs.eraseIdx i.toNat)))
  | _, _ => False
theorem ro_popAt {K : PySem.W.Frag} : ROm K rPopAt fPopAt := by
  intro φ S H x ds v vs Q Q' r hx hv h k
  unfold fPopAt at h
  split at h
  · rename_i n i
    obtain ⟨xs, d, e, h0, h9, hd, h⟩ := h
    obtain ⟨u, rfl, hu⟩ := hv.one
    obtain ⟨a, ys, rfl, h1, _, h3, h4⟩ := r.lst hx e
    cases hu
    obtain ⟨z, hz, rz⟩ := h3.get hd
    have hl := (List.getElem?_eq_some_iff.mp hz).1
    refine ⟨a, ys, i, i.toNat, z, rfl, rfl, h4 rfl, by omega, h9, ?_, hz, k.wr r h1 (h4 rfl) (h3.erase _) rz h⟩
    exact seqIndex_of h0 (by omega)
  · exact h.elim
def fPop : WM := fun x ds S Q => match x, ds with
  | .loc n, [] => ∃ xs d, S[n]? = some (.lst true xs) ∧ xs[xs.length - 1]? = some d ∧ Q d (S.set n (.lst true xs.dropLast))
  | _, _ => False
theorem RVs.dropLast {K : PySem.W.Frag} {φ : List Addr} {H : Hp} {ds : List D} {vs : List V} (h : RVs K φ H ds vs) : RVs K φ H ds.dropLast vs.dropLast := by
  rw [List.dropLast_eq_take, List.dropLast_eq_take, h.len]
  exact h.take _
theorem ro_pop {K : PySem.W.Frag} : ROm K rPop fPop := by
  intro φ S H x ds v vs Q Q' r hx hv h k
  unfold fPop at h
  split at h
  · rename_i n
    obtain ⟨xs, d, e, hd, h⟩ := h
    obtain ⟨a, ys, rfl, h1, _, h3, h4⟩ := r.lst hx e
    obtain ⟨z, hz, rz⟩ := h3.get hd
    cases hv
    exact ⟨a, ys, z, rfl, rfl, h4 rfl, by rw [← h3.len]; exact hz, k.wr r h1 (h4 rfl) h3.dropLast rz h⟩
  · exact h.elim
def rInsert : V → List V → Hp → VK → Prop := fun x vs H Q => ∃ (l : Addr) (xs : List V) (i : Int) (y : V), x = .ref l ∧ vs = [.int i, y] ∧ H l = some (.lst xs) ∧ xs.length < sizeLine ∧ 0 ≤ i ∧ i < 2 ^ 63 ∧ Q .non (upd H l (.lst (xs.take i.toNat ++ [y] ++ xs.drop i.toNat)))
def fInsert : WM := fun x ds S Q => match x, ds with
  | .loc n, [.int i, d] => ∃ xs, S[n]? = some (.lst true xs) ∧ xs.length < lineD ∧ 0 ≤ i ∧ i < 2 ^ 63 ∧ Q .non (S.set n (.lst true (xs.take i.toNat ++ [d] ++ xs.drop i.toNat)))
  | _, _ => False
theorem ro_insert {K : PySem.W.Frag} : ROm K rInsert fInsert := by
  intro φ S H x ds v vs Q Q' r hx hv h k
  unfold fInsert at h
  split at h
  · rename_i n i d
    obtain ⟨xs, e, hl, h0, h9, h⟩ := h
    obtain ⟨u, w, rfl, hu, hw⟩ := hv.two
    obtain ⟨a, ys, rfl, h1, _, h3, h4⟩ := r.lst hx e
    cases hu
    exact ⟨a, ys, i, w, rfl, rfl, h4 rfl, by rw [← h3.len]; exact hl, h0, h9, k.wr r h1 (h4 rfl) (((h3.take _).append (es := [d]) ⟨w, [], rfl, hw, rfl⟩).append (h3.drop _)) (d := .non) rfl h⟩
  · exact h.elim
def fClear : WM := fun x ds S Q => match x, ds with
  | .loc n, [] => ∃ xs, S[n]? = some (.lst true xs) ∧ Q .non (S.set n (.lst true []))
  | _, _ => False
theorem ro_clear {K : PySem.W.Frag} : ROm K rClear fClear := by
  intro φ S H x ds v vs Q Q' r hx hv h k
  unfold fClear at h
  split at h
  · rename_i n
    obtain ⟨xs, e, h⟩ := h
    obtain ⟨a, ys, rfl, h1, _, h3, h4⟩ := r.lst hx e
    cases hv
    exact ⟨a, ys, rfl, rfl, h4 rfl, k.wr (es := []) r h1 (h4 rfl) rfl (d := .non) rfl h⟩
  · exact h.elim
/-! ### xs[i] = v -/
def gSet (o i : WE) (X : XQ) : WG := fun d env S Q => o env S (fun x S1 => i env S1 (fun y S2 => match x, y with
  | .loc n, .int k => ∃ xs j, S2[n]? = some (.lst true xs) ∧ ixN xs.length k = some j ∧ Q env (S2.set n (.lst true (xs.set j d)))
  | _, _ => False) X) X
section
variable {X : Cx} {o i e : Expr} {wo wi wa : WE} {pos spos : Pos}
theorem qg_set {vs : List Nat} (ho : QE X E0 o wo) (hi : QE X E0 i wi)
    (ha : ∀ v, assign (.Subscript o i pos) X.env v = (do
      let ov ← holding [v] (eval o X.env)
      let iv ← holding [v, ov] (eval i X.env)
      standAt pos
      holding [v, ov, iv] (setItem ov iv v)
      release [v, ov, iv] []) := by intro _; rfl) : QG X vs (.Subscript o i pos) (gSet wo wi noX) :=
  (pg_sub ho hi set_list ha).imp fun v σ H Q ⟨φ, env, S, d, Q', rs, re, rv, q, k⟩ =>
    ⟨φ, env, S, _, noX, rs, re, q, fun x S1 φ1 u H1 e1 rs1 rv1 q1 => ⟨φ1, env, S1, _, noX, rs1, re.mono e1, q1, fun y S2 φ2 w H2 e2 rs2 rv2 q2 => by
      cases x <;> cases y <;> first
        | exact False.elim q2
        | skip
      case loc.int n m =>
        obtain ⟨xs, j, hs, hj, q2⟩ := q2
        obtain ⟨a, ys, rfl, h1, _, h3, h4⟩ := rs2.lst (rv1.mono e2) hs
        cases rv2
        have e12 := e1.trans e2
        have e3 := Ext.write (o := .lst (ys.set j v)) rs2 h1 (nt_lst (h4 rfl))
        have r3 := rs2.write (c := .lst true (xs.set j d)) h1 (nt_lst (h4 rfl)) ⟨_, by rw [if_pos rfl]; exact upd_same, (h3.set j (rv.mono e12)).mono e3⟩
        exact ⟨a, ys, m, j, rfl, rfl, h4 rfl, by rw [← h3.len]; exact hj, k env _ φ2 σ _ (e12.trans e3) r3 (re.mono (e12.trans e3)) rfl q2⟩, XOk.noX⟩, XOk.noX⟩
end
/-! ### dicts by ints and texts -/
section
variable {κ α β : Type} [DecidableEq κ]
def val (kvs : List (κ × α)) (k : κ) : Option α := (kvs.find? fun kv => decide (kv.1 = k)).map (·.2)
def put (kvs : List (κ × α)) (k : κ) (v : α) : List (κ × α) := if (kvs.any fun kv => decide (kv.1 = k)) = true then kvs.map (fun kv => if kv.1 = k then (kv.1, v) else kv) else kvs ++ [(k, v)]
def cut (kvs : List (κ × α)) (k : κ) : List (κ × α) := kvs.filter fun kv => decide (kv.1 ≠ k)
end
section
variable {κ : Type} [DecidableEq κ] {K : PySem.W.Frag} {φ : List Addr} {H : Hp}
theorem RK.len : ∀ {kvs : List (κ × D)} {ys : List (κ × V)}, RK K φ H kvs ys → kvs.length = ys.length
  | [], _, h => by subst h; rfl
  | (_, _) :: _, _, ⟨_, _, e, _, h⟩ => by subst e; simp [RK.len h]
theorem RK.append : ∀ {kvs ls : List (κ × D)} {ys zs : List (κ × V)}, RK K φ H kvs ys → RK K φ H ls zs → RK K φ H (kvs ++ ls) (ys ++ zs)
  | [], _, _, _, h, g => by subst h; exact g
  | (_, _) :: _, _, _, _, ⟨v, q, e, e2, h⟩, g => by subst e; exact ⟨v, _, rfl, e2, RK.append h g⟩
theorem RK.val : ∀ {kvs : List (κ × D)} {ys : List (κ × V)} (k : κ), RK K φ H kvs ys → match val kvs k with | some d => ∃ v, valV ys k = some v ∧ RV K φ H d v | none => valV ys k = none
  | [], _, _, h => by subst h; rfl
  | (a, d) :: r, _, k, ⟨v, q, e, e2, h⟩ => by
    subst e
    by_cases ha : a = k
    · have e1 : Qd.val ((a, d) :: r) k = some d := by simp [Qd.val, List.find?_cons, ha]
      rw [e1]
      exact ⟨v, valV_pos ha, e2⟩
    · have e1 : Qd.val ((a, d) :: r) k = Qd.val r k := by simp [Qd.val, List.find?_cons, ha]
      rw [e1, valV_neg (p := (a, v)) ha]
      exact RK.val k h
theorem RK.any : ∀ {kvs : List (κ × D)} {ys : List (κ × V)} (f : κ → Bool), RK K φ H kvs ys → (kvs.any fun p => f p.1) = ys.any fun p => f p.1
  | [], _, _, h => by subst h; rfl
  | (_, _) :: _, _, f, ⟨v, q, e, e2, h⟩ => by subst e; simp only [List.any_cons]; rw [RK.any f h]
theorem RK.map : ∀ {kvs : List (κ × D)} {ys : List (κ × V)} {d : D} {v : V} (k : κ), RK K φ H kvs ys → RV K φ H d v → RK K φ H (kvs.map fun kv => if kv.1 = k then (kv.1, d) else kv) (ys.map fun kv => if kv.1 = k then (kv.1, v) else kv)
  | [], _, _, _, _, h, _ => by subst h; rfl
  | (a, x) :: r, _, d, v, k, ⟨u, q, e, e2, h⟩, g => by
    subst e
    show RK K φ H ((if a = k then (a, d) else (a, x)) :: _) ((if a = k then (a, v) else (a, u)) :: _)
    by_cases ha : a = k
    · rw [if_pos ha, if_pos ha]
      exact ⟨v, _, rfl, g, RK.map k h g⟩
    · rw [if_neg ha, if_neg ha]
      exact ⟨u, _, rfl, e2, RK.map k h g⟩
end
end Qd
set_option Elab.async false
set_option linter.all false
set_option maxRecDepth 100000
/-! Layer Q: dicts (keys ints and texts, or tuples of such). -/
namespace Qd
open PySem PySem.Spec PyProof.Rows L2
def keyD : D → Option Key
  | .int i => some (.inl i)
  | .str x => some (.inr x)
  | _ => none
def keysD : List D → Option (List Key)
  | [] => some []
  | d :: ds => match keyD d, keysD ds with
    | some k, some ks => some (k :: ks)
    | _, _ => none
def keyT : D → Option (List Key)
  | .tup ds => keysD ds
  | _ => none
section
variable {K : PySem.W.Frag} {φ : List Addr} {H : Hp} {S : Store} {Q : VK} {Q' : D → Store → Prop}
theorem RV.key {d : D} {v : V} {k : Key} (h : RV K φ H d v) (e : keyD d = some k) : v = kV k := by
  cases d <;> simp only [keyD, Option.some.injEq] at e <;> first
    | contradiction
    | (subst e; cases h; rfl)
theorem RVs.keys : ∀ {ds : List D} {vs : List V} {ks : List Key}, RVs K φ H ds vs → keysD ds = some ks → vs = ks.map kV
  | [], _, _, h, e => by subst h; cases e; rfl
  | d :: ds, _, ks, ⟨x, r, e1, e2, e3⟩, e => by
    subst e1
    unfold keysD at e
    split at e
    · rename_i k ks' e4 e5
      cases e
      rw [e2.key e4, RVs.keys e3 e5]
      rfl
    · cases e
theorem RV.keyT {d : D} {v : V} {ks : List Key} (h : RV K φ H d v) (e : Qd.keyT d = some ks) : ∃ b, v = .ref b ∧ H b = some (.tup (ks.map kV)) := by
  cases d <;> first
    | (simp [Qd.keyT] at e; done)
    | skip
  case tup ds =>
    obtain ⟨a, xs, rfl, h1, h2⟩ := h
    exact ⟨a, rfl, by rw [h1, h2.keys e]⟩
theorem RK.put {κ : Type} [DecidableEq κ] {kvs : List (κ × D)} {ys : List (κ × V)} {d : D} {v : V} (k : κ) (h : RK K φ H kvs ys) (g : RV K φ H d v) : RK K φ H (put kvs k d) (putK ys k v) := by
  unfold Qd.put putK
  have e := h.any fun x => decide (x = k)
  rw [show (kvs.any fun kv => decide (kv.1 = k)) = (ys.any fun kv => decide (kv.1 = k)) from e]
  split
  · exact h.map k g
  · exact h.append (ls := [(k, d)]) ⟨v, [], rfl, g, rfl⟩
theorem RK.cut {κ : Type} [DecidableEq κ] : ∀ {kvs : List (κ × D)} {ys : List (κ × V)} (k : κ), RK K φ H kvs ys → RK K φ H (cut kvs k) (dropK ys k)
  | [], _, _, h => by subst h; rfl
  | (a, x) :: r, _, k, ⟨u, q, e, e2, h⟩ => by
    subst e
    have ih := RK.cut k h
    unfold Qd.cut dropK at ih ⊢
    by_cases ha : a = k
    · simp only [List.filter_cons, ha, ne_eq, not_true, decide_false, Bool.false_eq_true, if_false]
      simpa using ih
    · simp only [List.filter_cons, ha, ne_eq, not_false_eq_true, decide_true, if_true]
      exact ⟨u, _, rfl, e2, by simpa using ih⟩
theorem RS.dK (r : RS K φ S H) {n : Nat} {w : Bool} {kvs : List (Key × D)} {v : V} (rv : RV K φ H (.loc n) v) (h : S[n]? = some (.dK w kvs)) : ∃ a ys, v = .ref a ∧ φ[n]? = some a ∧ Rd H a (.dK ys) ∧ RK K φ H kvs ys ∧ (w = true → H a = some (.dK ys)) := by
  obtain ⟨a, h1, rfl⟩ := rv
  obtain ⟨ys, h2, h3⟩ := r.here n a _ h1 h
  cases w with
  | true => rw [if_pos rfl] at h2; exact ⟨a, ys, rfl, h1, .inl h2, h3, fun _ => h2⟩
  | false => rw [if_neg (by decide)] at h2; exact ⟨a, ys, rfl, h1, .inr h2, h3, fun z => by cases z⟩
theorem RS.dT (r : RS K φ S H) {n : Nat} {w : Bool} {kvs : List (List Key × D)} {v : V} (rv : RV K φ H (.loc n) v) (h : S[n]? = some (.dT w kvs)) : ∃ a ys, v = .ref a ∧ φ[n]? = some a ∧ Rd H a (.dT ys) ∧ RK K φ H kvs ys ∧ (w = true → H a = some (.dT ys)) := by
  obtain ⟨a, h1, rfl⟩ := rv
  obtain ⟨ys, h2, h3⟩ := r.here n a _ h1 h
  cases w with
  | true => rw [if_pos rfl] at h2; exact ⟨a, ys, rfl, h1, .inl h2, h3, fun _ => h2⟩
  | false => rw [if_neg (by decide)] at h2; exact ⟨a, ys, rfl, h1, .inr h2, h3, fun z => by cases z⟩
/-- what stands in the dict x at the key y: of each kind -/
def look (x y : D) (S : Store) (P : Option D → Prop) : Prop := match x with
  | .loc n => match S[n]? with
    | some (.dK _ kvs) => ∃ k, keyD y = some k ∧ P (val kvs k)
    | some (.dT _ kvs) => ∃ k, keyT y = some k ∧ P (val kvs k)
    | _ => False
  | _ => False
theorem look_get {x y : D} {v u : V} {P : Option D → Prop} (r : RS K φ S H) (hx : RV K φ H x v) (hy : RV K φ H y u) (h : look x y S P) : ∃ a o, v = .ref a ∧ IsD H a ∧ DGet H a u o ∧ ((∃ d z, o = some z ∧ RV K φ H d z ∧ P (some d)) ∨ (o = none ∧ P none)) := by
  unfold look at h
  cases x <;> first
    | exact False.elim h
    | skip
  case loc n =>
    dsimp only at h
    cases e : S[n]? with
    | none => rw [e] at h; exact h.elim
    | some c =>
      rw [e] at h
      cases c with
      | lst _ _ => exact h.elim
      | ins _ _ => exact h.elim
      | dK w kvs =>
        obtain ⟨k, hk, p⟩ := h
        obtain ⟨a, ys, rfl, _, h1, h2, _⟩ := r.dK hx e
        have hv := h2.val k
        refine ⟨a, valV ys k, rfl, .inl ⟨ys, h1⟩, .inl ⟨ys, k, h1, hy.key hk, rfl⟩, ?_⟩
        cases q : val kvs k with
        | none => rw [q] at hv p; exact .inr ⟨hv, p⟩
        | some d => rw [q] at hv p; obtain ⟨z, h3, h4⟩ := hv; exact .inl ⟨d, z, h3, h4, p⟩
      | dT w kvs =>
        obtain ⟨k, hk, p⟩ := h
        obtain ⟨a, ys, rfl, _, h1, h2, _⟩ := r.dT hx e
        obtain ⟨b, rfl, hb⟩ := hy.keyT hk
        have hv := h2.val k
        refine ⟨a, valV ys k, rfl, .inr ⟨ys, h1⟩, .inr ⟨ys, k, b, h1, rfl, hb, rfl⟩, ?_⟩
        cases q : val kvs k with
        | none => rw [q] at hv p; exact .inr ⟨hv, p⟩
        | some d => rw [q] at hv p; obtain ⟨z, h3, h4⟩ := hv; exact .inl ⟨d, z, h3, h4, p⟩
/-- the store behind x[y] = d -/
def putD (x y d : D) (S : Store) (P : Store → Prop) : Prop := match x with
  | .loc n => match S[n]? with
    | some (.dK true kvs) => ∃ k, keyD y = some k ∧ kvs.length < lineD ∧ P (S.set n (.dK true (put kvs k d)))
    | some (.dT true kvs) => ∃ k, keyT y = some k ∧ kvs.length < lineD ∧ P (S.set n (.dT true (put kvs k d)))
    | _ => False
  | _ => False
theorem putD_ok {x y d : D} {v u z : V} {P : Store → Prop} (r : RS K φ S H) (hx : RV K φ H x v) (hy : RV K φ H y u) (hd : RV K φ H d z) (h : putD x y d S P) : ∃ a H' S', v = .ref a ∧ DPut H a u z H' ∧ Ext φ H φ H' ∧ RS K φ S' H' ∧ P S' := by
  unfold putD at h
  cases x <;> first
    | exact False.elim h
    | skip
  case loc n =>
    dsimp only at h
    cases e : S[n]? with
    | none => rw [e] at h; exact h.elim
    | some c =>
      rw [e] at h
      cases c with
      | lst _ _ => exact h.elim
      | ins _ _ => exact h.elim
      | dK w kvs =>
        cases w with
        | false => exact h.elim
        | true =>
          obtain ⟨k, hk, hl, p⟩ := h
          obtain ⟨a, ys, rfl, h0, h1, h2, h3⟩ := r.dK hx e
          have ew := Ext.write (o := .dK (putK ys k z)) r h0 (nt_dK (h3 rfl))
          exact ⟨a, _, _, rfl, .inl ⟨ys, k, h3 rfl, hy.key hk, by rw [← h2.len]; exact hl, rfl⟩, ew, r.write (c := .dK true (put kvs k d)) h0 (nt_dK (h3 rfl)) ⟨_, by rw [if_pos rfl]; exact upd_same, (h2.put k hd).mono ew⟩, p⟩
      | dT w kvs =>
        cases w with
        | false => exact h.elim
        | true =>
          obtain ⟨k, hk, hl, p⟩ := h
          obtain ⟨a, ys, rfl, h0, h1, h2, h3⟩ := r.dT hx e
          obtain ⟨b, rfl, hb⟩ := hy.keyT hk
          have ew := Ext.write (o := .dT (putK ys k z)) r h0 (nt_dT (h3 rfl))
          exact ⟨a, _, _, rfl, .inr ⟨ys, k, b, h3 rfl, rfl, hb, by rw [← h2.len]; exact hl, rfl⟩, ew, r.write (c := .dT true (put kvs k d)) h0 (nt_dT (h3 rfl)) ⟨_, by rw [if_pos rfl]; exact upd_same, (h2.put k hd).mono ew⟩, p⟩
end
def wDGet (a b : WE) : WE := fun env S Q X => a env S (fun x S1 => b env S1 (fun y S2 => look x y S2 fun o => match o with | some d => Q d S2 | none => False) X) X
def wDIn (neg : Bool) (b a : WE) : WE := fun env S Q X => b env S (fun y S1 => a env S1 (fun x S2 => look x y S2 fun o => Q (.bl (if neg then !o.isSome else o.isSome)) S2) X) X
/-- d.get(k, e) -/
def wDGet2 (a b c : WE) : WE := fun env S Q X => a env S (fun x S1 => (∃ n, x = .loc n ∧ ((∃ w kvs, S1[n]? = some (.dK w kvs)) ∨ ∃ w kvs, S1[n]? = some (.dT w kvs))) ∧ b env S1 (fun y S2 => c env S2 (fun z S3 => look x y S3 fun o => Q (o.getD z) S3) X) X) X
def wDPut (d k v : WE) : WS := fun G env S X => v env S (fun z S1 => d env S1 (fun x S2 => k env S2 (fun y S3 => putD x y z S3 fun S4 => G.nx env S4) X) X) X
def wDNew (c : Cell) : WE := fun _ S Q _ => Q (.loc S.length) (S ++ [c])
section
variable {X : Cx} {E : XK} {o i e f value : Expr} {wo wi we wv : WE} {pos pos' apos cpos : Pos}
theorem q_dget (hu : X.A.units + 1 < cLine) (ho : QE X E o wo) (hi : QE X E i wi) (hs : NoSl i := by exact fun _ _ => rfl) : QE X E (.Subscript o i pos) (wDGet wo wi) := (pe_dget hu ho hi hs).imp fun σ H Q ⟨φ, env, S, Q', X', rs, re, q, k, x⟩ =>
  ⟨φ, env, S, _, X', rs, re, q, fun d S1 φ1 v H1 e1 rs1 rv1 q1 => ⟨φ1, env, S1, _, X', rs1, re.mono e1, q1, fun y S2 φ2 u H2 e2 rs2 rv2 q2 => by
    obtain ⟨a, o, rfl, _, g, ⟨d, z, rfl, rz, q3⟩ | ⟨rfl, q3⟩⟩ := look_get rs2 (rv1.mono e2) rv2 q2
    · exact ⟨a, z, rfl, g, (k.mono (e1.trans e2)).same rs2 rz q3⟩
    · exact q3.elim, x.mono e1⟩, x⟩
theorem din_lift {neg : Bool} : ∀ σ H Q, LE X.K E (wDIn neg wi wo) σ H Q → (LE X.K E wi) σ H fun y H1 => (LE X.K E wo) σ H1 fun x H2 => ∃ a o, x = .ref a ∧ DGet H2 a y o ∧ Q (.bl (if neg then !o.isSome else o.isSome)) H2 := fun σ H Q ⟨φ, env, S, Q', X', rs, re, q, k, x⟩ =>
  ⟨φ, env, S, _, X', rs, re, q, fun y S1 φ1 u H1 e1 rs1 rv1 q1 => ⟨φ1, env, S1, _, X', rs1, re.mono e1, q1, fun d S2 φ2 v H2 e2 rs2 rv2 q2 => by
    obtain ⟨a, o, rfl, _, g, ⟨d, z, rfl, rz, q3⟩ | ⟨rfl, q3⟩⟩ := look_get rs2 rv2 (rv1.mono e2) q2
    · exact ⟨a, _, rfl, g, (k.mono (e1.trans e2)).same rs2 (d := .bl _) rfl q3⟩
    · exact ⟨a, _, rfl, g, (k.mono (e1.trans e2)).same rs2 (d := .bl _) rfl q3⟩, x.mono e1⟩, x⟩
theorem q_din (hu : X.A.units + 1 < cLine) (hi : QE X E i wi) (ho : QE X E o wo) (h1 : behindInMarks .In o = false := by rfl) : QE X E (.Compare i [.In] [o] pos) (wDIn false wi wo) := (pe_cmp (pc_din hu hi ho) h1).imp (din_lift (neg := false))
theorem q_dnin (hu : X.A.units + 1 < cLine) (hi : QE X E i wi) (ho : QE X E o wo) (h1 : behindInMarks .NotIn o = false := by rfl) : QE X E (.Compare i [.NotIn] [o] pos) (wDIn true wi wo) := (pe_cmp (pc_dnotin hu hi ho) h1).imp (din_lift (neg := true))
theorem qt_din (hu : X.A.units + 1 < cLine) (hi : QE X E i wi) (ho : QE X E o wo) (h1 : behindInMarks .In o = false := by rfl) : QT X E (.Compare i [.In] [o] pos) (wTest (wDIn false wi wo)) := (pt_cmp (pc_din hu hi ho) h1).imp fun σ H Q q => din_lift (neg := false) σ H _ (test_lift σ H Q q)
theorem qt_dnin (hu : X.A.units + 1 < cLine) (hi : QE X E i wi) (ho : QE X E o wo) (h1 : behindInMarks .NotIn o = false := by rfl) : QT X E (.Compare i [.NotIn] [o] pos) (wTest (wDIn true wi wo)) := (pt_cmp (pc_dnotin hu hi ho) h1).imp fun σ H Q q => din_lift (neg := true) σ H _ (test_lift σ H Q q)
theorem isD_of {K : PySem.W.Frag} {φ : List Addr} {H : Hp} {S : Store} {x : D} {v : V} (r : RS K φ S H) (hx : RV K φ H x v) (h : ∃ n, x = .loc n ∧ ((∃ w kvs, S[n]? = some (.dK w kvs)) ∨ ∃ w kvs, S[n]? = some (.dT w kvs))) : ∃ a, v = .ref a ∧ IsD H a := by
  obtain ⟨n, rfl, ⟨w, kvs, e⟩ | ⟨w, kvs, e⟩⟩ := h
  · obtain ⟨a, ys, rfl, _, h1, _⟩ := r.dK hx e
    exact ⟨a, rfl, .inl ⟨ys, h1⟩⟩
  · obtain ⟨a, ys, rfl, _, h1, _⟩ := r.dT hx e
    exact ⟨a, rfl, .inr ⟨ys, h1⟩⟩
theorem q_dget2 (hu : X.A.units + 1 < cLine) (ho : QE X E o wo) (he : QE X E e wi) (hf : QE X E f we) (m : M2 X o "get" apos e f cpos := by exact ⟨rfl, rfl, rfl, rfl⟩) : QE X E (.Call (.Attribute o "get" apos) [e, f] [] cpos) (wDGet2 wo wi we) := (pe_dget2 hu ho he hf m).imp fun σ H Q ⟨φ, env, S, Q', X', rs, re, q, k, x⟩ =>
  ⟨φ, env, S, _, X', rs, re, q, fun d S1 φ1 v H1 e1 rs1 rv1 ⟨hd, q1⟩ => by
    obtain ⟨a, rfl, ia⟩ := isD_of rs1 rv1 hd
    refine ⟨a, rfl, ia, φ1, env, S1, _, X', rs1, re.mono e1, q1, fun y S2 φ2 u H2 e2 rs2 rv2 q2 => ⟨φ2, env, S2, _, X', rs2, re.mono (e1.trans e2), q2, fun z S3 φ3 w H3 e3 rs3 rv3 q3 => ?_, x.mono (e1.trans e2)⟩, x.mono e1⟩
    have e13 := (e1.trans e2).trans e3
    obtain ⟨a', o, e', _, g, ⟨d, z, rfl, rz, q4⟩ | ⟨rfl, q4⟩⟩ := look_get rs3 (rv1.mono (e2.trans e3)) (rv2.mono e3) q3
    · cases e'; exact ⟨_, g, (k.mono e13).same rs3 rz q4⟩
    · cases e'; exact ⟨_, g, (k.mono e13).same rs3 rv3 q4⟩, x⟩
theorem q_dput (hu : X.A.units + 1 < cLine) (ho : QE X E o wo) (hi : QE X E i wi) (hv : QE X E value wv) (hs : swapsWith value (some (.Subscript o i pos')) pos.line X.env = pure false := by rfl) : QS X E (.Assign [.Subscript o i pos'] value pos) (wDPut wo wi wv) := (ps_dput hu ho hi hv hs).imp fun Dn σ H ⟨φ, env, S, G, X', rs, re, q, k, x⟩ =>
  ⟨φ, env, S, _, X', rs, re, q, fun z S1 φ1 w H1 e1 rs1 rv1 q1 => ⟨φ1, env, S1, _, X', rs1, re.mono e1, q1, fun d S2 φ2 v H2 e2 rs2 rv2 q2 => ⟨φ2, env, S2, _, X', rs2, re.mono (e1.trans e2), q2, fun y S3 φ3 u H3 e3 rs3 rv3 q3 => by
    obtain ⟨a, H4, S4, rfl, hp, e4, rs4, q4⟩ := putD_ok rs3 (rv2.mono e3) rv3 (rv1.mono (e2.trans e3)) q3
    have e14 := ((e1.trans e2).trans e3).trans e4
    exact ⟨a, H4, rfl, hp, k.nx env S4 φ3 σ H4 e14 rs4 (re.mono e14) q4⟩, x.mono (e1.trans e2)⟩, x.mono e1⟩, x⟩
theorem new_ok {K : PySem.W.Frag} {φ : List Addr} {H : Hp} {S : Store} {Q : VK} {Q' : D → Store → Prop} {u : HO} {c : Cell} (k : VOk K φ H Q' Q) (r : RS K φ S H) {p : Addr} (hp : H p = none) (hc : RC K (φ ++ [p]) (upd H p u) p c) (q : Q' (.loc S.length) (S ++ [c])) : Q (.ref p) (upd H p u) := by
  refine k (.loc S.length) _ (φ ++ [p]) _ _ (Ext.push r hp) (r.push hp hc) ⟨p, ?_, rfl⟩ q
  rw [← r.len, List.getElem?_append_right (Nat.le_refl _), Nat.sub_self]
  rfl
theorem q_dnewK : QE X E (.Dict [] [] pos) (wDNew (.dK true [])) := pe_dnewK.imp fun σ H Q ⟨φ, env, S, Q', X', rs, re, q, k, x⟩ p hp => new_ok (c := .dK true []) k rs hp ⟨[], by rw [if_pos rfl]; exact upd_same, rfl⟩ q
theorem q_dnewT : QE X E (.Dict [] [] pos) (wDNew (.dT true [])) := pe_dnewT.imp fun σ H Q ⟨φ, env, S, Q', X', rs, re, q, k, x⟩ p hp => new_ok (c := .dT true []) k rs hp ⟨[], by rw [if_pos rfl]; exact upd_same, rfl⟩ q
end
/-- a display with written texts as keys -/
def wPs : List (Str × WE) → Slots → Store → (List (Key × D) → Store → Prop) → XQ → Prop
  | [], _, S, Q, _ => Q [] S
  | (s, a) :: r, env, S, Q, X => a env S (fun d S1 => wPs r env S1 (fun ps S2 => Q ((.inr s, d) :: ps) S2) X) X
def mergeD (kvs : List (Key × D)) (more : List (Key × D)) : List (Key × D) := more.foldl (fun acc kv => put acc kv.1 kv.2) kvs
def wDisp (ps : List (Str × WE)) : WE := fun env S Q X => wPs ps env S (fun kvs S1 => kvs.length ≤ 15 ∧ Q (.loc S1.length) (S1 ++ [.dK true (mergeD [] kvs)])) X
theorem RK.merge {K : PySem.W.Frag} {φ : List Addr} {H : Hp} : ∀ {more : List (Key × D)} {zs : List (Key × V)} {kvs : List (Key × D)} {ys : List (Key × V)}, RK K φ H more zs → RK K φ H kvs ys → RK K φ H (mergeD kvs more) (mergeK ys zs)
  | [], _, _, _, h, g => by subst h; exact g
  | (k, d) :: r, _, kvs, ys, ⟨v, q, e, e2, h⟩, g => by
    subst e
    exact RK.merge (more := r) (zs := q) (kvs := Qd.put kvs k d) (ys := putK ys k v) h (g.put k e2)
section
variable {X : Cx} {E : XK} {pos : Pos}
theorem wPs_lift {p : Addr} : ∀ (ps : List (Str × WE)) (φ : List Addr) (env : Slots) (S : Store) (X' : XQ) (σ : L2.St) (H : Hp) (R : List (V × V) → Hp → Prop) (Q' : List (Key × D) → Store → Prop),
    RS X.K φ S H → RE X.K φ H env σ → H p = some (.dK []) → p ∉ φ → wPs ps env S Q' X' → XOk X.K φ H X' E →
    (∀ kvs S' φ' ys H', Ext φ H φ' H' → RS X.K φ' S' H' → H' p = some (.dK []) → p ∉ φ' → RK X.K φ' H' kvs ys → Q' kvs S' → R (ys.map fun kv => (kV kv.1, kv.2)) H') →
    tPairs (ps.map fun x => (tC (.str x.1), LE X.K E x.2)) σ H R
  | [], φ, env, S, X', σ, H, R, Q', rs, re, hp, np, q, x, k => k [] S φ [] H rs.ext rs hp np rfl q
  | (s, a) :: r, φ, env, S, X', σ, H, R, Q', rs, re, hp, np, q, x, k => by
    refine ⟨φ, env, S, _, X', rs, re, q, fun d S1 φ1 v H1 e1 rs1 rv1 q1 => ?_, x⟩
    refine wPs_lift r φ1 env S1 X' σ H1 _ _ rs1 (re.mono e1) (e1.keep p _ np hp) (e1.notin hp np) q1 (x.mono e1) fun kvs S2 φ2 ys H2 e2 rs2 hp2 np2 rk q2 => ?_
    exact k ((.inr s, d) :: kvs) S2 φ2 ((.inr s, v) :: ys) H2 (e1.trans e2) rs2 hp2 np2 ⟨v, ys, rfl, rv1.mono e2, rk⟩ q2
theorem q_disp {keys : List (Option Expr)} {values : List Expr} {ps : List (Str × WE)} (h : PPs X pos keys values (ps.map fun x => (tC (.str x.1), LE X.K E x.2))) (hall : keys.all (·.isSome) = true := by rfl) (hl : keys.length = values.length := by rfl) (h0 : keys ≠ [] := by exact fun z => nomatch z) (h15 : keys.length ≤ 15 := by decide) :
    QE X E (.Dict keys values pos) (wDisp ps) := (pe_disp h hall hl h0 h15).imp fun σ H Q ⟨φ, env, S, Q', X', rs, re, q, k, x⟩ p hp => by
  have e0 := Ext.fresh (o := .dK []) rs hp
  have np : p ∉ φ := fun z => rs.dom p z hp
  refine wPs_lift ps φ env S X' σ _ _ _ (rs.fresh hp) (re.mono e0) upd_same np q (x.mono e0) fun kvs S1 φ1 ys H1 e1 rs1 hp1 np1 rk ⟨h15, q1⟩ => ⟨hp1, ys, rfl, by rw [← rk.len]; exact h15, ?_⟩
  have hm := rk.merge (kvs := []) (ys := []) rfl
  -- the dict becomes a cell
  have e01 := e0.trans e1
  have tp : ∀ a zs, H1 a = some (.tup zs) → (upd H1 p (.dK (mergeK [] ys))) a = some (.tup zs) := fun a zs z => by
    have ne : a ≠ p := fun q => nt_dK hp1 zs (by rw [← q]; exact z)
    rw [upd_ne ne]; exact z
  have ne : ∀ a ∈ φ1, a ≠ p := fun a ha q => np1 (q ▸ ha)
  have m1 : Mn φ1 H1 φ1 (upd H1 p (.dK (mergeK [] ys))) := ⟨fun h => h, tp, fun a o zs n g => ⟨n, by rw [upd_ne (fun z => by rw [z, hp1] at g; cases g)]; exact g⟩⟩
  have rs2 : RS X.K φ1 S1 (upd H1 p (.dK (mergeK [] ys))) := rs1.later m1 fun a ha => upd_ne (ne a ha)
  have m2 : Mn φ1 (upd H1 p (.dK (mergeK [] ys))) (φ1 ++ [p]) (upd H1 p (.dK (mergeK [] ys))) := ⟨fun {n a} q => by rw [List.getElem?_append_left (List.getElem?_eq_some_iff.mp q).1]; exact q, fun _ _ z => z, fun a o zs n g => ⟨fun z => (List.mem_append.mp z).elim n fun z => (by rw [List.mem_singleton.mp z, upd_same] at g; cases g), g⟩⟩
  have dom : ∀ a ∈ φ1 ++ [p], (upd H1 p (.dK (mergeK [] ys))) a ≠ none := fun a ha => by
    rcases List.mem_append.mp ha with z | z
    · exact rs2.dom a z
    · rw [List.mem_singleton.mp z, upd_same]; exact fun q => by cases q
  have last : (φ1 ++ [p])[S1.length]? = some p := by rw [← rs1.len, List.getElem?_append_right (Nat.le_refl _), Nat.sub_self]; rfl
  refine k (.loc S1.length) _ (φ1 ++ [p]) _ _ ⟨?_, fun a o na z => ?_, fun a zs z => tp a zs (e01.tups a zs z), dom⟩ ⟨by simp [rs1.len], ?_, dom, fun n a c h1 h2 => ?_⟩ ⟨p, last, rfl⟩ q1
  · obtain ⟨ψ, f1, f2⟩ := e01.pre
    refine ⟨ψ ++ [p], by rw [f1, List.append_assoc], fun a ha => ?_⟩
    rcases List.mem_append.mp ha with z | z
    · exact f2 a z
    · rw [List.mem_singleton.mp z]; exact hp
  · rw [upd_ne (ne_of_none z hp)]; exact e01.keep a o na z
  · rw [List.nodup_append]
    refine ⟨rs1.nd, by simp, fun a ha b hb => ?_⟩
    rw [List.mem_singleton.mp hb]
    rintro rfl
    exact np1 ha
  · by_cases hn : n < φ1.length
    · rw [List.getElem?_append_left hn] at h1
      rw [List.getElem?_append_left (by rw [← rs1.len]; exact hn)] at h2
      exact (rs2.here n a c h1 h2).mono m2 rfl
    · have hn1 := (List.getElem?_eq_some_iff.mp h1).1
      have hn2 : n = S1.length := by
        simp at hn1
        have := rs1.len
        omega
      subst hn2
      rw [last] at h1
      cases h1
      rw [List.getElem?_append_right (Nat.le_refl _), Nat.sub_self] at h2
      cases h2
      exact ⟨_, by rw [if_pos rfl]; exact upd_same, (hm.mn m1).mn m2⟩
end
end Qd
set_option Elab.async false
set_option linter.all false
set_option maxRecDepth 100000
/-! Layer Q: texts, built-ins. -/
namespace Qd
open PySem PySem.Spec PyProof.Rows L2
/-! ### texts -/
def wSm0 (f : WO1) (o : WE) : WE := fun env S Q X => o env S (fun x S1 => match x with | .str z => f (.str z) S1 Q | _ => False) X
def wSm1 (f : WO2) (o a : WE) : WE := fun env S Q X => o env S (fun x S1 => match x with | .str z => a env S1 (fun y S2 => f (.str z) y S2 Q) X | _ => False) X
def fUpper : WO1 := fun x S Q => match x with | .str a => a.length ≤ 5592405 ∧ Q (.str (Txt.upper a)) S | _ => False
def fJoin : WO2 := fun x y S Q => match x, y with
  | .str a, .loc n => ∃ w ys, S[n]? = some (.lst w (ys.map D.str)) ∧ (ys.map (·.length)).sum + ys.length * a.length ≤ 16777216 ∧ Q (.str (Txt.join a ys)) S
  | _, _ => False
theorem RVs.strs {K : PySem.W.Frag} {φ : List Addr} {H : Hp} : ∀ {ys : List Str} {vs : List V}, RVs K φ H (ys.map D.str) vs → vs = ys.map V.str
  | [], _, h => h
  | y :: ys, _, ⟨x, r, e1, e2, e3⟩ => by subst e1; cases e2; rw [RVs.strs e3]; rfl
theorem RVs.toInts {K : PySem.W.Frag} {φ : List Addr} {H : Hp} : ∀ {ys : List Int} {vs : List V}, RVs K φ H (ys.map D.int) vs → vs = ys.map V.int
  | [], _, h => h
  | y :: ys, _, ⟨x, r, e1, e2, e3⟩ => by subst e1; cases e2; rw [RVs.toInts e3]; rfl
theorem RVs.toBls {K : PySem.W.Frag} {φ : List Addr} {H : Hp} : ∀ {ys : List Bool} {vs : List V}, RVs K φ H (ys.map D.bl) vs → vs = ys.map V.bl
  | [], _, h => h
  | y :: ys, _, ⟨x, r, e1, e2, e3⟩ => by subst e1; cases e2; rw [RVs.toBls e3]; rfl
section
variable {X : Cx} {E : XK} {o e a b : Expr} {wo wa wb : WE} {pos apos p : Pos}
theorem q_upper (ho : QE X E o wo) (hbase : attributeBase o "upper" X.env (eval o X.env) = eval o X.env := by rfl) (hline : (apos.endLine == pos.line) = true := by rfl) : QE X E (.Call (.Attribute o "upper" apos) [] [] pos) (wSm0 fUpper wo) := (pe_upper ho hbase hline).imp fun σ H Q ⟨φ, env, S, Q', X', rs, re, q, k, x⟩ =>
  ⟨φ, env, S, _, X', rs, re, q, fun d S1 φ1 v H1 e1 rs1 rv1 q1 => by
    cases d <;> first
      | exact False.elim q1
      | skip
    case str z =>
      cases rv1
      exact ⟨⟨z, rfl⟩, z, rfl, rfl, q1.1, (k.mono e1).same rs1 (d := .str _) rfl q1.2⟩, x⟩
theorem q_join (ho : QE X E o wo) (he : QE X E e wa) (hs : starEach [e] X.env = [(false, eval e X.env)] := by rfl) (hbase : attributeBase o "join" X.env (eval o X.env) = eval o X.env := by rfl) (hline : (apos.endLine == pos.line) = true := by rfl) : QE X E (.Call (.Attribute o "join" apos) [e] [] pos) (wSm1 fJoin wo wa) := (pe_join ho he hs hbase hline).imp fun σ H Q ⟨φ, env, S, Q', X', rs, re, q, k, x⟩ =>
  ⟨φ, env, S, _, X', rs, re, q, fun d S1 φ1 v H1 e1 rs1 rv1 q1 => by
    cases d <;> first
      | exact False.elim q1
      | skip
    case str z =>
      cases rv1
      refine ⟨⟨z, rfl⟩, φ1, env, S1, _, X', rs1, re.mono e1, q1, fun y S2 φ2 u H2 e2 rs2 rv2 q2 => ?_, x.mono e1⟩
      cases y <;> first
        | exact False.elim q2
        | skip
      case loc n =>
        obtain ⟨w, ys, h1, h2, q2⟩ := q2
        obtain ⟨p, us, rfl, _, g2, g3, _⟩ := rs2.lst rv2 h1
        rw [g3.strs] at g2
        exact ⟨z, p, ys, rfl, rfl, .inl g2, h2, (k.mono (e1.trans e2)).same rs2 (d := .str _) rfl q2⟩, x⟩
end
/-- one sign in a text -/
def fInS (neg : Bool) : WO2 := fun x y S Q => match x, y with
  | .str a, .str z => ∃ c : Nat, a = ⟨#[c]⟩ ∧ Q (.bl (if neg then !decide (c ∈ z.cps.toList) else decide (c ∈ z.cps.toList))) S
  | _, _ => False
def rInS (neg : Bool) : R2 := fun x y H Q => ∃ (c : Nat) (z : Str), x = .str ⟨#[c]⟩ ∧ y = .str z ∧ Q (.bl (if neg then !decide (c ∈ z.cps.toList) else decide (c ∈ z.cps.toList))) H
theorem ro_inS {K : PySem.W.Frag} {neg : Bool} : RO2 K (rInS neg) (fInS neg) := by
  intro φ S H x y v u Q Q' r hx hy h k
  cases x <;> cases y <;> first
    | exact False.elim h
    | skip
  case str.str a z =>
    obtain ⟨c, rfl, h⟩ := h
    cases hx; cases hy
    exact ⟨c, z, rfl, rfl, k.same r (d := .bl _) rfl h⟩
/-- text * n -/
def rMulS : R2 := fun x y H Q => ∃ (a : Str) (n : Int), x = .str a ∧ y = .int n ∧ MulOk a n ∧ Q (.str (Txt.mul a n)) H
theorem op_mulS {X : Cx} : OpR X (binaryOp .Mult) rMulS := by
  intro pins s σ H x y v u Q I rx ry h
  obtain ⟨a, n, rfl, rfl, ok, q⟩ := h
  obtain ⟨t, rfl⟩ := rx
  obtain ⟨t', rfl⟩ := ry
  exact SB.mul ok fun t' k => ⟨.str _, H, I.tok _, ⟨_, rfl⟩, q⟩
/-- * of any kind: ints, a text by a number, a list by a number -/
def fMul3 : WO2 := fun x y S Q => match x, y with
  | .int i, .int j => CMulW i j ∧ Q (.int (i * j)) S
  | .str a, .int n => MulOk a n ∧ Q (.str (Txt.mul a n)) S
  | .loc m, .int k => ∃ ds, S[m]? = some (.lst true ds) ∧ -(2 ^ 63) ≤ k ∧ k < 2 ^ 63 ∧ ds.length * k.toNat ≤ lineD ∧ Q (.loc S.length) (S ++ [.lst true (List.replicate k.toNat ds).flatten])
  | _, _ => False
def rMul3 : R2 := fun x y H Q => rI CMulW (fun i j => .int (i * j)) x y H Q ∨ rMulS x y H Q ∨ rRep x y H Q
theorem op_mul3 {X : Cx} : OpR X (binaryOp .Mult) rMul3 := OpR.orr op_mulW (OpR.orr op_mulS op_rep)
theorem ro_mul3 {K : PySem.W.Frag} : RO2 K rMul3 fMul3 := by
  intro φ S H x y v u Q Q' r hx hy h k
  cases x <;> cases y <;> first
    | exact False.elim h
    | skip
  case int.int i j =>
    cases hx; cases hy
    exact .inl ⟨i, j, rfl, rfl, h.1, k.same r (d := .int (i * j)) rfl h.2⟩
  case str.int a n =>
    cases hx; cases hy
    exact .inr (.inl ⟨a, n, rfl, rfl, h.1, k.same r (d := .str _) rfl h.2⟩)
  case loc.int m i =>
    exact .inr (.inr (ro_rep φ S H (.loc m) (.int i) v u Q Q' r hx hy h k))
/-! ### built-ins -/
def fAbs : WOn := fun ds S Q => match ds with | [.int i] => Q (.int (if i < 0 then -i else i)) S | _ => False
theorem ro_abs {K : PySem.W.Frag} : ROn K (fun xs H Q => ∃ i, xs = [.int i] ∧ Q (.int (if i < 0 then -i else i)) H) fAbs := by
  intro φ S H ds vs Q Q' r hv h k
  unfold fAbs at h
  split at h
  · obtain ⟨v, rfl, hv2⟩ := hv.one
    cases hv2
    exact ⟨_, rfl, k.same r (d := .int _) rfl h⟩
  · exact h.elim
def fInt : WOn := fun ds S Q => match ds with | [.int i] => Q (.int i) S | [.bl b] => Q (.int (if b then 1 else 0)) S | _ => False
theorem ro_int {K : PySem.W.Frag} : ROn K (fun xs H Q => (∃ i, xs = [.int i] ∧ Q (.int i) H) ∨ ∃ k, xs = [.bl k] ∧ Q (.int (if k then 1 else 0)) H) fInt := by
  intro φ S H ds vs Q Q' r hv h k
  unfold fInt at h
  split at h
  · obtain ⟨v, rfl, hv2⟩ := hv.one
    cases hv2
    exact .inl ⟨_, rfl, k.same r (d := .int _) rfl h⟩
  · obtain ⟨v, rfl, hv2⟩ := hv.one
    cases hv2
    exact .inr ⟨_, rfl, k.same r (d := .int _) rfl h⟩
  · exact h.elim
def fMax2 : WOn := fun ds S Q => match ds with | [.int i, .int j] => Q (.int (if j > i then j else i)) S | _ => False
theorem ro_max2 {K : PySem.W.Frag} : ROn K (fun xs H Q => ∃ i j, xs = [.int i, .int j] ∧ Q (.int (if j > i then j else i)) H) fMax2 := by
  intro φ S H ds vs Q Q' r hv h k
  unfold fMax2 at h
  split at h
  · obtain ⟨v, u, rfl, h1, h2⟩ := hv.two
    cases h1; cases h2
    exact ⟨_, _, rfl, k.same r (d := .int _) rfl h⟩
  · exact h.elim
def fMin2 : WOn := fun ds S Q => match ds with | [.int i, .int j] => Q (.int (if j < i then j else i)) S | _ => False
theorem ro_min2 {K : PySem.W.Frag} : ROn K (fun xs H Q => ∃ i j, xs = [.int i, .int j] ∧ Q (.int (if j < i then j else i)) H) fMin2 := by
  intro φ S H ds vs Q Q' r hv h k
  unfold fMin2 at h
  split at h
  · obtain ⟨v, u, rfl, h1, h2⟩ := hv.two
    cases h1; cases h2
    exact ⟨_, _, rfl, k.same r (d := .int _) rfl h⟩
  · exact h.elim
/-- of a list -/
def fOfL (P : List D → (D → Prop) → Prop) : WOn := fun ds S Q => match ds with | [.loc n] => ∃ w xs, S[n]? = some (.lst w xs) ∧ P xs fun d => Q d S | _ => False
def fSum : WOn := fOfL fun xs Q => ∃ ns : List Int, xs = ns.map D.int ∧ Q (.int ns.sum)
def fAll : WOn := fOfL fun xs Q => ∃ bs : List Bool, xs = bs.map D.bl ∧ Q (.bl (bs.all id))
def fAny : WOn := fOfL fun xs Q => ∃ bs : List Bool, xs = bs.map D.bl ∧ Q (.bl (bs.any id))
def fMaxL : WOn := fOfL fun xs Q => ∃ ns : List Int, xs = ns.map D.int ∧ 0 < ns.length ∧ ∀ m, m ∈ ns → (∀ y, y ∈ ns → y ≤ m) → Q (.int m)
def fMinL : WOn := fOfL fun xs Q => ∃ ns : List Int, xs = ns.map D.int ∧ 0 < ns.length ∧ ∀ m, m ∈ ns → (∀ y, y ∈ ns → m ≤ y) → Q (.int m)
theorem ofL {K : PySem.W.Frag} {φ : List Addr} {S : Store} {H : Hp} {ds : List D} {vs : List V} {P : List D → (D → Prop) → Prop} {Q' : D → Store → Prop} (r : RS K φ S H) (hv : RVs K φ H ds vs) (h : fOfL P ds S Q') : ∃ a xs ys, vs = [.ref a] ∧ SqL K H a ys ∧ RVs K φ H xs ys ∧ P xs fun d => Q' d S := by
  unfold fOfL at h
  split at h
  · rename_i n
    obtain ⟨w, xs, e, p⟩ := h
    obtain ⟨v, rfl, h1⟩ := hv.one
    obtain ⟨a, ys, rfl, _, h2, h3, _⟩ := r.lst h1 e
    exact ⟨a, xs, ys, rfl, h2, h3, p⟩
  · exact h.elim
theorem ro_sum {K : PySem.W.Frag} : ROn K (rSum K) fSum := by
  intro φ S H ds vs Q Q' r hv h k
  obtain ⟨a, xs, ys, rfl, h1, h2, ns, rfl, q⟩ := ofL r hv h
  rw [h2.toInts] at h1
  exact ⟨a, ns, rfl, h1, k.same r (d := .int _) rfl q⟩
theorem ro_all {K : PySem.W.Frag} : ROn K (rAll K) fAll := by
  intro φ S H ds vs Q Q' r hv h k
  obtain ⟨a, xs, ys, rfl, h1, h2, ns, rfl, q⟩ := ofL r hv h
  rw [h2.toBls] at h1
  exact ⟨a, ns, rfl, h1, k.same r (d := .bl _) rfl q⟩
theorem ro_any {K : PySem.W.Frag} : ROn K (rAny K) fAny := by
  intro φ S H ds vs Q Q' r hv h k
  obtain ⟨a, xs, ys, rfl, h1, h2, ns, rfl, q⟩ := ofL r hv h
  rw [h2.toBls] at h1
  exact ⟨a, ns, rfl, h1, k.same r (d := .bl _) rfl q⟩
theorem ro_maxL {K : PySem.W.Frag} : ROn K (rMax K) fMaxL := by
  intro φ S H ds vs Q Q' r hv h k
  obtain ⟨a, xs, ys, rfl, h1, h2, ns, rfl, hl, q⟩ := ofL r hv h
  rw [h2.toInts] at h1
  exact ⟨a, ns, rfl, h1, hl, fun m hm hy => k.same r (d := .int m) rfl (q m hm hy)⟩
theorem ro_minL {K : PySem.W.Frag} : ROn K (rMin K) fMinL := by
  intro φ S H ds vs Q Q' r hv h k
  obtain ⟨a, xs, ys, rfl, h1, h2, ns, rfl, hl, q⟩ := ofL r hv h
  rw [h2.toInts] at h1
  exact ⟨a, ns, rfl, h1, hl, fun m hm hy => k.same r (d := .int m) rfl (q m hm hy)⟩
/-- list(x), tuple(x) of a list or a tuple -/
def fList : WOn := fun ds S Q => match ds with
  | [.loc n] => ∃ w xs, S[n]? = some (.lst w xs) ∧ Q (.loc S.length) (S ++ [.lst true xs])
  | [.tup xs] => Q (.loc S.length) (S ++ [.lst true xs])
  | _ => False
theorem ro_list {K : PySem.W.Frag} : ROn K (fun xs H Q => ∃ p ys, xs = [.ref p] ∧ (SqL K H p ys ∨ SqT K H p ys) ∧ ∀ l, H l = none → Q (.ref l) (upd H l (.lst ys))) fList := by
  intro φ S H ds vs Q Q' r hv h k
  unfold fList at h
  split at h
  · obtain ⟨v, rfl, h1⟩ := hv.one
    obtain ⟨w, xs, e, q⟩ := h
    obtain ⟨a, ys, rfl, _, h2, h3, _⟩ := r.lst h1 e
    exact ⟨a, ys, rfl, .inl h2, fun l hl => k.lst r h3 q hl⟩
  · obtain ⟨v, rfl, h1⟩ := hv.one
    obtain ⟨a, ys, rfl, h2, h3⟩ := h1
    exact ⟨a, ys, rfl, .inr (SqT.of h2), fun l hl => k.lst r h3 h hl⟩
  · exact h.elim
def fTuple : WOn := fun ds S Q => match ds with
  | [.loc n] => ∃ w xs, S[n]? = some (.lst w xs) ∧ Q (.tup xs) S
  | [.tup xs] => Q (.tup xs) S
  | _ => False
theorem ro_tuple {K : PySem.W.Frag} : ROn K (fun xs H Q => ∃ p ys, xs = [.ref p] ∧ ((SqL K H p ys ∧ ∀ l, H l = none → Q (.ref l) (upd H l (.tup ys))) ∨ (SqT K H p ys ∧ Q (.ref p) H))) fTuple := by
  intro φ S H ds vs Q Q' r hv h k
  unfold fTuple at h
  split at h
  · obtain ⟨v, rfl, h1⟩ := hv.one
    obtain ⟨w, xs, e, q⟩ := h
    obtain ⟨a, ys, rfl, _, h2, h3, _⟩ := r.lst h1 e
    exact ⟨a, ys, rfl, .inl ⟨h2, fun l hl => k.tup r h3 q hl⟩⟩
  · obtain ⟨v, rfl, h1⟩ := hv.one
    obtain ⟨a, ys, rfl, h2, h3⟩ := id h1
    exact ⟨a, ys, rfl, .inr ⟨SqT.of h2, k.same r h1 h⟩⟩
  · exact h.elim
/-- xs[::-1] -/
def wRev (a : WE) : WE := fun env S Q X => a env S (fun x S1 => match x with | .loc n => ∃ w xs, S1[n]? = some (.lst w xs) ∧ Q (.loc S1.length) (S1 ++ [.lst true xs.reverse]) | _ => False) X
theorem q_rev {X : Cx} {E : XK} {e : Expr} {wa : WE} {k : Nat} {p1 p2 p3 pos : Pos} (h : QE X E e wa) : QE X E (.Subscript e (.Slice none none (some (.UnaryOp .USub (.Constant (.int 1) k p1) p2)) p3) pos) (wRev wa) := (pe_revL h).imp fun σ H Q ⟨φ, env, S, Q', X', rs, re, q, k, x⟩ =>
  ⟨φ, env, S, _, X', rs, re, q, fun d S1 φ1 v H1 e1 rs1 rv1 q1 => by
    cases d <;> first
      | exact False.elim q1
      | skip
    case loc n =>
      obtain ⟨w, xs, h1, q2⟩ := q1
      obtain ⟨a, ys, rfl, _, g2, g3, _⟩ := rs1.lst rv1 h1
      exact ⟨a, ys, rfl, g2, fun p hp => (k.mono e1).lst rs1 g3.reverse q2 hp⟩, x⟩
/-! ### isinstance -/
def isTy (S : Store) (T : String) (x : D) : Option Bool := (tyD S x).bind fun t => kitB t T
def fIsi (T : String) : WO1 := fun x S Q => ∃ b, isTy S T x = some b ∧ Q (.bl b) S
theorem tyD_ok {K : PySem.W.Frag} {φ : List Addr} {S : Store} {H : Hp} {x : D} {v : V} {t : String} (r : RS K φ S H) (hx : RV K φ H x v) (h : tyD S x = some t) : TyX K H v (.type t) := by
  cases x with
  | non => cases h; cases hx; exact .base .non
  | bl b => cases h; cases hx; exact .base (.bl b)
  | int b => cases h; cases hx; exact .base (.int b)
  | str b => cases h; cases hx; exact .base (.str b)
  | tup ds => cases h; obtain ⟨a, xs, rfl, h1, _⟩ := hx; exact .base (.tup h1)
  | loc n =>
    unfold tyD at h
    dsimp only at h
    split at h <;> first
      | (cases h; done)
      | skip
    · rename_i ds e
      cases h
      obtain ⟨a, xs, rfl, _, _, _, h2⟩ := r.lst hx e
      exact .base (.lst (h2 rfl))
    · rename_i kvs e
      cases h
      obtain ⟨a, ys, rfl, _, h1, _, h2⟩ := r.dK hx e
      exact .base (.dK (h2 rfl))
    · rename_i kvs e
      cases h
      obtain ⟨a, ys, rfl, _, h1, _, h2⟩ := r.dT hx e
      exact .base (.dT (h2 rfl))
  | adr a => cases h
  | scr a => cases h
section
variable {X : Cx} {E : XK} {e : Expr} {wa : WE} {pos p p2 : Pos}
theorem q_isi {x : Str} (T : String) (hgi : Gl X "isinstance") (hmi : X.mg "isinstance" = none) (hg : Gl X x) (hm : X.mg x = none) (hv : bootBuiltins x = some (.type T)) (ha : QE X E e wa) (hn : x ≠ "__name__" := by decide) (hdb : (x == ("__debug__" : Str)) = false := by decide)
    (he : starEach (e :: [.Name x p2]) X.env = (false, eval e X.env) :: starEach [.Name x p2] X.env := by rfl) (he2 : starEach (.Name x p2 :: []) X.env = (false, eval (.Name x p2) X.env) :: starEach [] X.env := by rfl) (hpl : (backTo pos (starEach [.Name x p2] X.env)).any (·.1) = false := by rfl) :
    QE X E (.Call (.Name "isinstance" p) [e, .Name x p2] [] pos) (wUn (fIsi T) wa) :=
  (pe_callB call_isi hgi hmi (by decide +kernel) (pa_cons ha (pa_cons (pe_bltn (v := .ty T) hg hm hv rfl hn hdb) pa_nil he2) he) (by decide) (by decide) he hpl).imp fun σ H Q ⟨φ, env, S, Q', X', rs, re, q, k, xx⟩ =>
    ⟨φ, env, S, _, X', rs, re, q, fun d S1 φ1 v H1 e1 rs1 rv1 ⟨b, hb, q1⟩ => by
      unfold isTy at hb
      cases ht : tyD S1 d with
      | none => rw [ht] at hb; cases hb
      | some t =>
        rw [ht] at hb
        exact ⟨v, .ty T, .type t, .type T, b, rfl, .ty T, tyD_ok rs1 rv1 ht, kit_ty hb, (k.mono e1).same rs1 (d := .bl b) rfl q1⟩, xx⟩
end
end Qd
set_option Elab.async false
set_option linter.all false
set_option maxRecDepth 100000
/-! Layer Q: chains, == [], in over data, max with a default, walks of texts, returns without a value, raise. -/
namespace Qd
open PySem PySem.Spec PyProof.Rows L2
section
variable {X : Cx} {E : XK} {a b c : Expr} {wa wb wc : WE} {pos : Pos}
theorem chain_lift {K : PySem.W.Frag} {r r' : R2} {f g : WO2} (h : RO2 K r f) (h' : RO2 K r' g) : ∀ σ H Q, LE K E (wChain f g wa wb wc) σ H Q → tChain r r' (LE K E wa) (LE K E wb) (LE K E wc) σ H Q :=
  fun σ H Q ⟨φ, env, S, Q', X', rs, re, q, k, x⟩ => ⟨φ, env, S, _, X', rs, re, q, fun d S1 φ1 v H1 e1 rs1 rv1 q1 => ⟨φ1, env, S1, _, X', rs1, re.mono e1, q1, fun d2 S2 φ2 u H2 e2 rs2 rv2 q2 =>
    h φ2 S2 H2 d d2 v u _ _ rs2 (rv1.mono e2) rv2 q2 fun r S3 φ3 z H3 e3 rs3 rv3 q3 => by
      cases r <;> first
        | exact False.elim q3
        | skip
      case bl k' =>
        cases rv3
        have e13 := (e1.trans e2).trans e3
        refine ⟨k', rfl, ?_⟩
        cases k' with
        | false => exact iteF ((k.mono e13).same rs3 (d := .bl false) rfl (ofF q3))
        | true => exact iteT ⟨φ3, env, S3, _, X', rs3, re.mono e13, ofT q3, fun d4 S4 φ4 y H4 e4 rs4 rv4 q4 => h' φ4 S4 H4 d2 d4 u y Q Q' rs4 (rv2.mono (e3.trans e4)) rv4 q4 (k.mono (e13.trans e4)), x.mono e13⟩, x.mono e1⟩, x⟩
theorem q_chain {op op' : CmpOp} {r r' : R2} {f g : WO2} (ho : OpR X (compareOp op) r) (h : RO2 X.K r f) (ho' : OpR X (compareOp op') r') (h' : RO2 X.K r' g) (ha : QE X E a wa) (hb : QE X E b wb) (hc : QE X E c wc) (hm : lastMarks [op, op'] [b, c] = false := by with_unfolding_all rfl) :
    QE X E (.Compare a [op, op'] [b, c] pos) (wChain f g wa wb wc) := (pe_chain ho ho' ha hb hc hm).imp (chain_lift h h')
theorem qt_chain {op op' : CmpOp} {r r' : R2} {f g : WO2} (ho : OpR X (compareOp op) r) (h : RO2 X.K r f) (ho' : OpR X (compareOp op') r') (h' : RO2 X.K r' g) (ha : QE X E a wa) (hb : QE X E b wb) (hc : QE X E c wc) (hm : lastMarks [op, op'] [b, c] = false := by with_unfolding_all rfl) :
    QT X E (.Compare a [op, op'] [b, c] pos) (wTest (wChain f g wa wb wc)) := (pt_chain ho ho' ha hb hc hm).imp fun σ H Q q => chain_lift h h' σ H _ (test_lift σ H Q q)
def wRetN : WS := fun G _ S _ => G.rt .non S
theorem q_retN : QS X E (.Return none pos) wRetN := ps_retN.imp fun D σ H ⟨φ, env, S, G, X', rs, re, q, k, _⟩ => k.rt .non S φ .non H rs.ext rs rfl q
def fIp (f : Int → Int → Int) : WO2 := fun x y S Q => match x, y with
  | .int i, .int j => Q (.int (f i j)) S
  | _, _ => False
theorem ro_ip {K : PySem.W.Frag} {f : Int → Int → Int} : RO2 K (ipI f) (fIp f) := by
  intro φ S H x y v u Q Q' r hx hy h k
  cases x <;> cases y <;> first
    | exact False.elim h
    | skip
  case int.int i j =>
    cases hx; cases hy
    exact ⟨i, j, rfl, rfl, k.same r (d := .int (f i j)) rfl h⟩
theorem ro_ipadd {K : PySem.W.Frag} : RO2 K (ipI fun i j => i + j) (fIp fun i j => i + j) := ro_ip
theorem ro_ipsub {K : PySem.W.Frag} : RO2 K (ipI fun i j => i - j) (fIp fun i j => i - j) := ro_ip
end
/-! ### xs == [], xs != [] -/
def rEqN (K : PySem.W.Frag) : R2 := fun x y H Q => ∃ a b xs, x = .ref a ∧ y = .ref b ∧ SqL K H a xs ∧ SqL K H b [] ∧ Q (.bl xs.isEmpty) H
theorem op_eqN {X : Cx} (hu : X.A.units + 64 < cLine) : OpR X (compareOp .Eq) (rEqN X.K) := by
  intro pins s σ H x y v u Q I rx ry h
  obtain ⟨a, b, xs, rfl, rfl, ha, hb, q⟩ := h
  cases xs with
  | nil => exact op_eqD hu pins s σ H _ _ v u Q I rx ry ⟨.list [], .list [], .lst ha .nil, .lst hb .nil, by decide, by decide, by simpa [PyData.eqv, PyData.eqvAll] using q⟩
  | cons z zs =>
    cases rx
    cases ry
    obtain ⟨its, r1, p1, _⟩ := I.list ha
    obtain ⟨its2, r2, p2, _⟩ := I.list hb
    cases r2
    cases r1
    exact SeqAt.eq_list_lengthsAt p1.isList p2.isList (by simp) (by omega) ⟨.bl false, H, I, rfl, q⟩
def fEqN : WO2 := fun x y S Q => match x, y with
  | .loc n, .loc m => ∃ w xs w', S[n]? = some (.lst w xs) ∧ S[m]? = some (.lst w' []) ∧ Q (.bl xs.isEmpty) S
  | _, _ => False
theorem ro_eqN {K : PySem.W.Frag} : RO2 K (rEqN K) fEqN := by
  intro φ S H x y v u Q Q' r hx hy h k
  cases x <;> cases y <;> first
    | exact False.elim h
    | skip
  case loc.loc n m =>
    obtain ⟨w, xs, w', h1, h2, h⟩ := h
    obtain ⟨a, us, rfl, _, g1, g2, _⟩ := r.lst hx h1
    obtain ⟨b, ws, rfl, _, g3, g4, _⟩ := r.lst hy h2
    cases g4
    exact ⟨a, b, us, rfl, rfl, g1, g3, by rw [← g2.nil_iff]; exact k.same r (d := .bl _) rfl h⟩
theorem op_neN {X : Cx} (hu : X.A.units + 64 < cLine) : OpR X (compareOp .NotEq) (rNeD X.K) := op_neD hu
def fNeN : WO2 := fun x y S Q => match x, y with
  | .loc n, .loc m => ∃ w xs w' ps, S[n]? = some (.lst w xs) ∧ S[m]? = some (.lst w' []) ∧ Pys S xs ps ∧ SeqAt.shaped (.list ps) = true ∧ Q (.bl (!xs.isEmpty)) S
  | _, _ => False
theorem Pys.nil_iff {S : Store} {ds : List D} {ps : List PyData} (h : Pys S ds ps) : ds.isEmpty = ps.isEmpty := by cases h <;> rfl
theorem ro_neN {K : PySem.W.Frag} : RO2 K (rNeD K) fNeN := by
  intro φ S H x y v u Q Q' r hx hy h k
  cases x <;> cases y <;> first
    | exact False.elim h
    | skip
  case loc.loc n m =>
    obtain ⟨w, xs, w', ps, h1, h2, h3, h4, h⟩ := h
    refine ⟨.list ps, .list [], (Py.lst h1 h3).dp r hx, (Py.lst h2 .nil).dp r hy, h4, by decide, k.same r (d := .bl _) ?_ h⟩
    rw [h3.nil_iff]
    cases ps <;> simp [PyData.eqv, PyData.eqvAll, RV]
/-! ### in over data -/
def rInA (K : PySem.W.Frag) (neg : Bool) : R2 := fun x y H Q => ∃ d ds, Dp K H x d ∧ (Dp K H y (.list ds) ∨ Dp K H y (.tuple ds)) ∧ SeqAt.shaped d = true ∧ SeqAt.shaped (.list ds) = true ∧ Q (.bl (if neg then !(ds.any fun z => PyData.eqv z d) else ds.any fun z => PyData.eqv z d)) H
theorem op_inA {X : Cx} (hu : X.A.units + 65 < cLine) : OpR X (compareOp .In) (rInA X.K false) := by
  intro pins s σ H x y v u Q I rx ry h
  obtain ⟨d, ds, hd, he | he, sd, se, q⟩ := h
  · exact op_inD hu pins s σ H x y v u Q I rx ry ⟨d, ds, hd, he, sd, se, q⟩
  · obtain ⟨as, r1⟩ := Dp.reads I d x v hd rx
    obtain ⟨bs, r2⟩ := Dp.reads I (.tuple ds) y u he ry
    exact SeqAt.in_tuple_reads r2 r1 (SeqAt.canLay_of_shaped se) (SeqAt.canLay_of_shaped sd) (room_in_shaped sd hu) ⟨.bl _, H, I, rfl, q⟩
theorem op_notInA {X : Cx} (hu : X.A.units + 65 < cLine) : OpR X (compareOp .NotIn) (rInA X.K true) := by
  intro pins s σ H x y v u Q I rx ry h
  obtain ⟨d, ds, hd, he | he, sd, se, q⟩ := h
  · exact op_notInD hu pins s σ H x y v u Q I rx ry ⟨d, ds, hd, he, sd, se, q⟩
  · obtain ⟨as, r1⟩ := Dp.reads I d x v hd rx
    obtain ⟨bs, r2⟩ := Dp.reads I (.tuple ds) y u he ry
    exact SeqAt.notIn_tuple_reads r2 r1 (SeqAt.canLay_of_shaped se) (SeqAt.canLay_of_shaped sd) (room_in_shaped sd hu) ⟨.bl _, H, I, rfl, q⟩
def fInA (neg : Bool) : WO2 := fun x y S Q => ∃ d ds, Py S x d ∧ (Py S y (.list ds) ∨ Py S y (.tuple ds)) ∧ SeqAt.shaped d = true ∧ SeqAt.shaped (.list ds) = true ∧ Q (.bl (if neg then !(ds.any fun z => PyData.eqv z d) else ds.any fun z => PyData.eqv z d)) S
theorem ro_inAn {K : PySem.W.Frag} {neg : Bool} : RO2 K (rInA K neg) (fInA neg) := by
  intro φ S H x y v u Q Q' r hx hy ⟨d, ds, h1, h2, h3, h4, h⟩ k
  exact ⟨d, ds, h1.dp r hx, h2.imp (fun z => z.dp r hy) fun z => z.dp r hy, h3, h4, k.same r (d := .bl _) rfl h⟩
theorem ro_inA {K : PySem.W.Frag} : RO2 K (rInA K false) (fInA false) := ro_inAn
theorem ro_notInA {K : PySem.W.Frag} : RO2 K (rInA K true) (fInA true) := ro_inAn
/-! ### max(xs, default=d) -/
def maxDf (ns : List Int) (d : Int) : Int := match ns with
  | [] => d
  | y :: ys => ys.foldl (fun a y => if a < y then y else a) y
def rMaxD (K : PySem.W.Frag) : List V → List V → Hp → VK → Prop := fun vs zs H Q => ∃ (a : Addr) (ns : List Int) (d : Int), vs = [.ref a] ∧ zs = [.int d] ∧ SqL K H a (ns.map V.int) ∧ Q (.int (maxDf ns d)) H
theorem cr_maxD {X : Cx} (hc : X.calm = true) (hu : X.A.units + 65 < cLine) : CallRK X (.builtin "max") [Str.ofString "default"] (rMaxD X.K) := by
  intro pins s σ H vs zs us ws Q I r rz h
  obtain ⟨a, ns, d, rfl, rfl, hs, q⟩ := h
  obtain rfl := Vals.ref1 r
  obtain ⟨w1, rfl, e1⟩ := vals1 rz
  obtain ⟨its, rv, p, _⟩ := I.list hs
  refine PySem.W.max_list_datum_default (α := Int) (I.ok.hd hc) p.isList (xs := ns) (.of_ints (intsAre_of rv)) ?_ (fun e h' tk hk => ?_) (fun y ys i v h' tk e hv hh hk => ?_)
  · have : PySem.W.Datum.depth Int = 0 := rfl
    rw [this]; omega
  · subst e
    exact ⟨.int d, H, I.kept (t' := tk) hk, e1, q⟩
  · subst e
    obtain ⟨as, rr⟩ := hh
    have : ∃ t, v = Value.int (maxDf (y :: ys) d) t := by
      have e : PySem.W.Datum.toD (PySem.W.maxOf y ys) = PyData.int (maxDf (y :: ys) d) := by
        show PyData.int (PySem.W.maxOf y ys) = _
        congr 1
        unfold PySem.W.maxOf maxDf
        congr 1
        funext a y
        show (if decide (a < y) = true then y else a) = _
        simp
      rw [e] at rr
      cases rr
      exact ⟨_, rfl⟩
    exact ⟨.int _, H, I.kept (t' := tk) hk, this, q⟩
def wMaxD (a b : WE) : WE := fun env S Q X => a env S (fun x S1 => b env S1 (fun y S2 => match x, y with | .loc n, .int d => ∃ w ns, S2[n]? = some (.lst w (ns.map D.int)) ∧ Q (.int (maxDf ns d)) S2 | _, _ => False) X) X
section
variable {X : Cx} {E : XK} {a b : Expr} {wa wb : WE} {pos p kpos : Pos}
theorem q_maxD (hc : X.calm = true) (hu : X.A.units + 65 < cLine) (hg : Gl X "max") (hm : X.mg "max" = none) (ha : QE X E a wa) (hb : QE X E b wb)
    (hs : starEach (a :: []) X.env = (false, eval a X.env) :: starEach [] X.env := by rfl) (he : backTo pos (starEach (a :: []) X.env) = (false, eval a X.env) :: backTo pos (starEach [] X.env) := by rfl) (hpl : (backTo pos (starEach (a :: []) X.env)).any (·.1) = false := by rfl)
    (hall : (backToKw pos (keywordEach [⟨some "default", b, kpos⟩] X.env)).all (·.1.isSome) = true := by rfl) (hnone : (backToKw pos (keywordEach [⟨some "default", b, kpos⟩] X.env)).any (·.1.isNone) = false := by rfl) (hks : (backToKw pos (keywordEach [⟨some "default", b, kpos⟩] X.env)).filterMap (·.1) = [Str.ofString "default"] := by rfl) :
    QE X E (.Call (.Name "max" p) [a] [⟨some "default", b, kpos⟩] pos) (wMaxD wa wb) :=
  (pe_callBK (cr_maxD hc hu) hg hm (by decide +kernel) (pa_cons ha pa_nil hs) (pk_cons hb pk_nil) (by decide) (by decide) he hpl hall hnone hks).imp fun σ H Q ⟨φ, env, S, Q', X', rs, re, q, k, x⟩ =>
    ⟨φ, env, S, _, X', rs, re, q, fun d S1 φ1 v H1 e1 rs1 rv1 q1 => ⟨φ1, env, S1, _, X', rs1, re.mono e1, q1, fun y S2 φ2 u H2 e2 rs2 rv2 q2 => by
      cases d <;> cases y <;> first
        | exact False.elim q2
        | skip
      case loc.int n d =>
        obtain ⟨w, ns, h1, q2⟩ := q2
        obtain ⟨a', us, rfl, _, g1, g2, _⟩ := rs2.lst (rv1.mono e2) h1
        cases rv2
        rw [g2.toInts] at g1
        exact ⟨a', ns, d, rfl, rfl, g1, (k.mono (e1.trans e2)).same rs2 (d := .int _) rfl q2⟩, x.mono e1⟩, x⟩
end
/-! ### for c in text -/
def iSt (a : WE) : WI := fun env S R X => a env S (fun d S1 => match d with
  | .str z => R (z.cps.toList.map fun c => .str ⟨#[c]⟩) (fun _ => True) S1
  | _ => False) X
theorem qi_str {X : Cx} {E : XK} {tg e : Expr} {wa : WE} (h : QE X E e wa) : QI X E tg e (iSt wa) := (pi_str h).imp fun σ H R ⟨φ, env, S, R', X', rs, re, q, k, x⟩ =>
  ⟨φ, env, S, _, X', rs, re, q, fun d S1 φ1 v H1 e1 rs1 rv1 q1 => by
    cases d <;> first
      | exact False.elim q1
      | skip
    case str z =>
      cases rv1
      refine ⟨z, rfl, k _ _ S1 φ1 H1 _ e1 rs1 (fun φ2 S2 H2 i e3 rs2 st => ⟨fun hl => ?_, fun d hd => ?_⟩) q1⟩
      · show z.cps.size ≤ i
        simpa using hl
      · rw [List.getElem?_map] at hd
        cases hr : z.cps.toList[i]? with
        | none => rw [hr] at hd; cases hd
        | some c =>
          rw [hr] at hd
          cases hd
          have hc : z.cps[i]? = some c := by simpa using hr
          refine ⟨(Array.getElem?_eq_some_iff.mp hc).1, fun x H' ⟨e4, c', e5, e6⟩ => ?_⟩
          subst e4 e6
          rw [hc] at e5
          cases e5
          exact ⟨rs2.ext, rs2, rfl⟩, x⟩
end Qd
set_option Elab.async false
set_option linter.all false
set_option maxRecDepth 100000
/-! Layer Q: what types are of one another; plain facts for the readings. -/
namespace Qd
open PySem PySem.Spec PyProof.Rows L2
theorem kitB_tab : (["NoneType", "bool", "int", "str", "tuple", "list", "dict"].all fun a => ["int", "bool", "str", "tuple", "list", "dict"].all fun b => kitB a b == some (a == b || (a == "bool" && b == "int"))) = true := by decide +kernel
theorem kitB_of {a b : String} (ha : a ∈ ["NoneType", "bool", "int", "str", "tuple", "list", "dict"]) (hb : b ∈ ["int", "bool", "str", "tuple", "list", "dict"]) : kitB a b = some (a == b || (a == "bool" && b == "int")) := by
  have h := List.all_eq_true.mp (List.all_eq_true.mp kitB_tab a ha) b hb
  exact eq_of_beq h
theorem tyD_mem {S : Store} {d : D} {t : String} (h : tyD S d = some t) : t ∈ ["NoneType", "bool", "int", "str", "tuple", "list", "dict"] := by
  cases d <;> simp only [tyD] at h <;> first
    | (cases h <;> done)
    | (cases h; decide)
    | (split at h <;> first | (cases h; decide) | cases h)
theorem isTy_of {S : Store} {d : D} {t T : String} (h : tyD S d = some t) (hb : T ∈ ["int", "bool", "str", "tuple", "list", "dict"]) : isTy S T d = some (t == T || (t == "bool" && T == "int")) := by
  unfold isTy
  rw [h]
  exact kitB_of (tyD_mem h) hb
/-- a value whose type is known -/
def Ty (S : Store) (d : D) : Prop := (tyD S d).isSome = true
theorem Ty.get {S : Store} {d : D} (h : Ty S d) : ∃ t, tyD S d = some t := Option.isSome_iff_exists.mp h
def isI : D → Bool | .int _ => true | _ => false
def isB : D → Bool | .bl _ => true | _ => false
def isS : D → Bool | .str _ => true | _ => false
def isT : D → Bool | .tup _ => true | _ => false
def isLc : Option Cell → Bool | some (.lst _ _) => true | _ => false
def isL (S : Store) : D → Bool | .loc n => isLc S[n]? | _ => false
section
variable {S : Store} {d : D} {Q : D → Store → Prop}
theorem isi_int (h : Ty S d) (q : Q (.bl (isI d || isB d)) S) : fIsi "int" d S Q := by
  obtain ⟨t, ht⟩ := h.get
  refine ⟨_, isTy_of ht (by decide), ?_⟩
  cases d <;> simp only [tyD] at ht <;> first
    | (cases ht <;> done)
    | (cases ht; exact q)
    | (split at ht <;> first | (cases ht; exact q) | cases ht)
theorem isi_bool (h : Ty S d) (q : Q (.bl (isB d)) S) : fIsi "bool" d S Q := by
  obtain ⟨t, ht⟩ := h.get
  refine ⟨_, isTy_of ht (by decide), ?_⟩
  cases d <;> simp only [tyD] at ht <;> first
    | (cases ht <;> done)
    | (cases ht; exact q)
    | (split at ht <;> first | (cases ht; exact q) | cases ht)
theorem isi_str (h : Ty S d) (q : Q (.bl (isS d)) S) : fIsi "str" d S Q := by
  obtain ⟨t, ht⟩ := h.get
  refine ⟨_, isTy_of ht (by decide), ?_⟩
  cases d <;> simp only [tyD] at ht <;> first
    | (cases ht <;> done)
    | (cases ht; exact q)
    | (split at ht <;> first | (cases ht; exact q) | cases ht)
theorem isi_tup (h : Ty S d) (q : Q (.bl (isT d)) S) : fIsi "tuple" d S Q := by
  obtain ⟨t, ht⟩ := h.get
  refine ⟨_, isTy_of ht (by decide), ?_⟩
  cases d <;> simp only [tyD] at ht <;> first
    | (cases ht <;> done)
    | (cases ht; exact q)
    | (split at ht <;> first | (cases ht; exact q) | cases ht)
theorem isi_lst (h : Ty S d) (q : Q (.bl (isL S d)) S) : fIsi "list" d S Q := by
  obtain ⟨t, ht⟩ := h.get
  refine ⟨_, isTy_of ht (by decide), ?_⟩
  cases d <;> simp only [tyD] at ht <;> first
    | (cases ht <;> done)
    | (cases ht; exact q)
    | (split at ht <;> first | (cases ht; rename_i e; simp only [isL, e, isLc] at q; exact q) | cases ht)
end
end Qd
set_option Elab.async false
set_option linter.all false
set_option maxRecDepth 100000
/-! Layer Q: repr of a list. -/
namespace Qd
open PySem PySem.Spec PyProof.Rows L2
mutual
/-- the datum as the library's data, for repr -/
inductive Sh (S : Store) : D → PyData → Prop
  | non : Sh S .non .none
  | bl (b : Bool) : Sh S (.bl b) (.bool b)
  | int (i : Int) : Sh S (.int i) (.int i)
  | str (x : Str) : Sh S (.str x) (.str x)
  | tup {ds : List D} {ps : List PyData} : Shs S ds ps → Sh S (.tup ds) (.tuple ps)
  | lst {n : Nat} {ds : List D} {ps : List PyData} : S[n]? = some (.lst true ds) → Shs S ds ps → Sh S (.loc n) (.list ps)
  | dict {n : Nat} : S[n]? = some (.dK true []) → Sh S (.loc n) (.dict [])
inductive Shs (S : Store) : List D → List PyData → Prop
  | nil : Shs S [] []
  | cons {d : D} {p : PyData} {ds : List D} {ps : List PyData} : Sh S d p → Shs S ds ps → Shs S (d :: ds) (p :: ps)
end
section
variable {P : Program} {w : World} {K : PySem.W.Frag} {φ : List Addr} {S : Store} {H : Hp} {h : Heap}
mutual
theorem Sh.reads (ok : HOk P w H h) (r : RS K φ S H) : ∀ {d : D} {p : PyData} {v : V} {u : Value}, Sh S d p → RV K φ H d v → RelV v u → ∃ as, Reads h u p as ∧ (p = .dict [] → sysModules ∉ as)
  | _, _, _, _, .non, hv, rv => by cases hv; cases rv; exact ⟨_, .none, fun z => by cases z⟩
  | _, _, _, _, .bl b, hv, rv => by cases hv; cases rv; exact ⟨_, .bool b, fun z => by cases z⟩
  | _, _, _, _, .int b, hv, rv => by cases hv; obtain ⟨t, rfl⟩ := rv; exact ⟨_, .int b t, fun z => by cases z⟩
  | _, _, _, _, .str b, hv, rv => by cases hv; obtain ⟨t, rfl⟩ := rv; exact ⟨_, .str b t, fun z => by cases z⟩
  | _, _, _, _, .tup ss, hv, rv => by
    obtain ⟨a, xs, rfl, ha, hx⟩ := hv
    cases rv
    obtain ⟨_, its, r2, o, ho, hc, n, hd⟩ := ok a _ ha
    obtain ⟨as, ra⟩ := Shs.reads ok r ss hx r2
    exact ⟨as, .tuple ho hc hd (by rw [List.toList_toArray]; exact ra), fun z => by cases z⟩
  | _, _, _, _, .lst e ss, hv, rv => by
    obtain ⟨a, xs, rfl, _, _, hx, h2⟩ := r.lst hv e
    cases rv
    obtain ⟨_, its, n, r2, ho⟩ := ok a _ (h2 rfl)
    obtain ⟨as, ra⟩ := Shs.reads ok r ss hx r2
    exact ⟨a :: as, .list ho rfl rfl (by rw [List.toList_toArray]; exact ra), fun z => by cases z⟩
  | _, _, _, _, .dict e, hv, rv => by
    obtain ⟨a, ys, rfl, _, h1, hk, h2⟩ := r.dK hv e
    cases rv
    have hy : ys = [] := hk
    subst hy
    obtain ⟨_, hs, vs, kv, o, es, ep, ho, hx, hd, _, hp, _⟩ := ok a _ (h2 rfl)
    cases kv
    have he : es.toList = [] := by cases hp' : es.toList with
      | nil => rfl
      | cons _ _ => rw [hp'] at hp; cases hp
    refine ⟨_, Reads.dict (kvs := []) (as := []) (bs := []) ho hx.1 hd (by rw [he]; exact .nil) (by rw [he]; exact .nil), fun _ hm => ?_⟩
    have : sysModules = a := by simpa using hm
    rw [← this] at hs
    cases hs
theorem Shs.reads (ok : HOk P w H h) (r : RS K φ S H) : ∀ {ds : List D} {ps : List PyData} {vs : List V} {us : List Value}, Shs S ds ps → RVs K φ H ds vs → Vals vs us → ∃ as, ReadsAll h us ps as
  | _, _, _, _, .nil, hv, rv => by cases hv; cases rv; exact ⟨_, .nil⟩
  | _, _, _, _, .cons s ss, hv, rv => by
    obtain ⟨x, q, rfl, h1, h2⟩ := hv
    cases rv with
    | cons a b =>
      obtain ⟨as, ra, _⟩ := Sh.reads ok r s h1 a
      obtain ⟨bs, rb⟩ := Shs.reads ok r ss h2 b
      exact ⟨_, .cons ra rb⟩
end
end
theorem shown_le_of_mem {p : PyData} {ps : List PyData} (h : p ∈ ps) : p.shown ∈ PyData.shownAll ps := by
  induction ps with
  | nil => cases h
  | cons q qs ih =>
    rw [PyData.shownAll]
    rcases List.mem_cons.mp h with e | e
    · subst e; exact List.mem_cons_self
    · exact List.mem_cons_of_mem _ (ih e)
/-- the items of a list, one after the other -/
theorem repr_items {P : Program} {w : World} {K : PySem.W.Frag} {φ : List Addr} {S : Store} {H : Hp} {h : Heap} (ok : HOk P w H h) (r : RS K φ S H) : ∀ {ds : List D} {ps : List PyData} {vs : List V} {us : List Value}, Shs S ds ps → RVs K φ H ds vs → Vals vs us →
    PyData.showableAll ps = true → (∀ p ∈ ps, p.hasDict = true → p = .dict []) → (∀ t ∈ PyData.shownAll ps, t.length ≤ sizeLine) → ∃ bs, ReadAtMost h (PyData.depthAll ps) bs ∧ ReprAllK P w bs h (PyData.depthAll ps) us (PyData.shownAll ps)
  | _, _, _, _, .nil, hv, rv, _, _, _ => by
    cases hv; cases rv
    exact ⟨[], fun b hb => absurd hb (by simp), .nil⟩
  | _, _, _, _, .cons (p := p) (ps := ps) s ss, hv, rv, hs, hd, hz => by
    obtain ⟨x, q, rfl, h1, h2⟩ := hv
    cases rv with
    | cons a b =>
      obtain ⟨as, ra, sm⟩ := Sh.reads ok r s h1 a
      have hs2 : p.showable = true ∧ PyData.showableAll ps = true := by simpa [PyData.showableAll] using hs
      obtain ⟨b2, hb2, k2⟩ := repr_items ok r ss h2 b hs2.2 (fun p hp => hd p (List.mem_cons_of_mem _ hp)) (fun t ht => hz t (by rw [PyData.shownAll]; exact List.mem_cons_of_mem _ ht))
      obtain ⟨b1, hb1, k1⟩ := ReprK.of_reads (prog := P) (w := w) ra hs2.1 (fun z => sm (hd _ List.mem_cons_self z)) (hz _ (by rw [PyData.shownAll]; exact List.mem_cons_self))
      have d1 : p.depth ≤ PyData.depthAll (p :: ps) := by rw [PyData.depthAll]; omega
      have d2 : PyData.depthAll ps ≤ PyData.depthAll (p :: ps) := by rw [PyData.depthAll]; omega
      refine ⟨b1 ++ b2, (hb1.mono d1).append (hb2.mono d2), ?_⟩
      rw [PyData.shownAll]
      exact (ReprAllK.cons k1 .nil : ReprAllK P w b1 h p.depth [_] [_]).more_le (fun b hb => List.mem_append_left _ hb) d1 |> fun q => by
        cases q with
        | cons q1 _ => exact .cons q1 (k2.more_le (fun b hb => List.mem_append_right _ hb) d2)
/-- repr of a list of the store -/
def fRepr : WOn := fun ds S Q => match ds with
  | [.loc n] => ∃ xs ps, S[n]? = some (.lst true xs) ∧ Shs S xs ps ∧ PyData.showableAll ps = true ∧ (∀ p ∈ ps, p.hasDict = true → p = .dict []) ∧ PyData.depthAll ps ≤ 150 ∧ (listText (PyData.shownAll ps)).length ≤ lineD ∧ Q (.str (listText (PyData.shownAll ps))) S
  | _ => False
section
variable {X : Cx} {E : XK} {es : List Expr} {e : Expr} {wr : WA} {pos p : Pos}
theorem q_repr (hgd : X.A.guards = some []) (hu : X.A.units + 200 < cLine) (hg : Gl X "repr") (hm : X.mg "repr" = none) (ha : QA X E [e] wr)
    (he : starEach [e] X.env = (false, eval e X.env) :: starEach [] X.env := by rfl) (hpl : (backTo pos (starEach [] X.env)).any (·.1) = false := by rfl) : QE X E (.Call (.Name "repr" p) [e] [] pos) (wCB fRepr wr) := by
  refine ⟨fun pins s σ H Q I ⟨φ, env, S, Q', X', rs, re, q, k, _⟩ => ?_⟩
  refine wpAny_Call_Name_kw (ld_blt I hg hm (u := .builtin "repr") (by decide +kernel) ?_ (by decide) (by decide))
  refine PyProof.Rows.callWith_builtin1 (thn (ha.run pos pins s σ H (fun vs H1 => ∃ φ1 S1 ds, Ext φ H φ1 H1 ∧ RS X.K φ1 S1 H1 ∧ RVs X.K φ1 H1 ds vs ∧ fRepr ds S1 Q') I ⟨φ, env, S, _, X', rs, re, q, fun ds S1 φ1 vs H1 e1 rs1 rv1 q1 => ⟨φ1, S1, ds, e1, rs1, rv1, q1⟩, by assumption⟩) fun us s1 ⟨vs, H1, I1, r1, φ1, S1, ds, e1, rs1, rv1, q1⟩ => ?_) he hpl
  unfold fRepr at q1
  split at q1
  · rename_i n
    obtain ⟨xs, ps, hc, ss, hs, hd, hdp, hz, q1⟩ := q1
    obtain ⟨v, rfl, hv⟩ := rv1.one
    obtain ⟨a, ys, rfl, _, _, hx, h2⟩ := rs1.lst hv hc
    cases r1 with
    | cons ra rn =>
      cases rn
      cases ra
      obtain ⟨_, its, m, r2, ho⟩ := I1.hok a _ (h2 rfl)
      have hz' : (listText (PyData.shownAll ps)).length ≤ sizeLine := hz
      obtain ⟨bs, hb, hk⟩ := repr_items I1.hok rs1 ss hx r2 hs hd fun t ht => Nat.le_trans (listText_mem_le ht) hz'
      obtain ⟨as, ra⟩ := Shs.reads I1.hok rs1 ss hx r2
      have R : Reads s1.heap (.ref a) (.list ps) (a :: as) := .list ho rfl rfl (by rw [List.toList_toArray]; exact ra)
      have hna : a ∉ bs := not_mem_of_deeper R (by simp only [PyData.depth]; omega) hb
      have fin : ∀ h' u tk, (∀ b o, s1.heap.get? b = some o → h'.get? b = some o) → ∃ x t, Value.str (listText (PyData.shownAll ps)) u = .str x t ∧ EP X pins σ Q (Value.str (listText (PyData.shownAll ps)) u) { s1 with heap := h', toks := tk } := fun h' u tk hk' =>
        ⟨_, _, rfl, .str (listText (PyData.shownAll ps)), H1, I1.kept (t' := tk) hk', ⟨u, rfl⟩, k (.str _) S1 φ1 _ H1 e1 rs1 rfl q1⟩
      refine call_repr_slot (by omega) ⟨_, ho, rfl⟩ F.slot_list_repr.toG ?_
      cases its with
      | nil =>
        cases r2
        have : xs = [] := List.length_eq_zero_iff.mp hx.len
        subst this
        cases ss
        exact call_list_repr_empty ⟨_, ho, rfl⟩ ho rfl (fin s1.heap _ _ fun _ _ z => z)
      | cons y l =>
        exact call_list_reprK ho rfl rfl hna (by simpa using hk.length_eq) (fun i y e => hk.item i y (by simpa using e)) (g := []) hgd (fun b _ => Clear.nil b) (by show X.A.units + 1 + (PyData.depthAll ps + 1) < cLine; omega) (fun _ _ z => z) fin hz'
  · exact q1.elim
end
end Qd
set_option Elab.async false
set_option linter.all false
set_option maxRecDepth 100000
/-! Layer Q: errors of own classes: raise, a try whose caught error is kept, defs that may raise. -/
namespace Qd
open PySem PySem.Spec PyProof.Rows L2
/-- what a clause that keeps its error asks: the suite, then the rest with the error known -/
def wKept (K : PySem.W.Frag) (c : Value) (i : Nat) (ts rest : Addr → Value → Option Addr → TS) (Wo : WX) (D : Ends) : WX := fun cls d σ H =>
  ∃ b, PySem.W.exmOne K cls c = some b ∧ (b = true → ∀ a, H a = none → ts a cls d { nx := fun σ' H' => rest a cls d D (σ'.set i none) H', rt := D.rt, bk := fun _ _ => False, ct := fun _ _ => False } (σ.set i (some (.ref a))) H) ∧ (b = false → Wo cls d σ H)
theorem outOfTry {X : Cx} {pn : List (Addr × Obj)} {xe : Value → Shared → Prop} {pins : List (Addr × Obj)} {D : Ends} {f : Flow} {s : Shared} (ok : X.Ok) (h : SP (X.tr pn xe) [] D f s) (sub : ∀ p ∈ X.pn ++ pins, p ∈ pn) : SP X pins D f s := by
  have go : ∀ {σ : L2.St} {H : Hp}, Inv (X.tr pn xe) [] σ H s → Inv X pins σ H s := fun J => ⟨ok, J.os, J.bare, J.base, J.loc, J.cell, J.free, J.freeC, fun p hp => J.pin p (List.mem_append_left _ (sub p hp)), J.hok, J.len⟩
  cases f with
  | next => exact let ⟨σ, H, J, q⟩ := h; ⟨σ, H, go J, q⟩
  | brk => exact let ⟨σ, H, J, q⟩ := h; ⟨σ, H, go J, q⟩
  | cont => exact let ⟨σ, H, J, q⟩ := h; ⟨σ, H, go J, q⟩
  | ret u => exact let ⟨v, σ, H, J, r, q⟩ := h; ⟨v, σ, H, go J, r, q⟩
section
variable {X : Cx} {x n : Str} {c : Value} {i : Nat} {body suite rest : List Stmt} {b0 : Stmt} {np p1 p2 : Pos} {tb : WX → TS} {ts t1 : Addr → Value → Option Addr → TS} {t0 : TS} {Wo : WX}
/-- try: body / except x as n: suite; then the rest, which is judged twice: behind the body, and with the caught error known -/
theorem pss_kept (stk : X.stack = X.env :: X.outer) (frm : X.env.frame = some X.env.locals) (nd : X.N.Nodup) (hi : X.N[i]? = some n) (loc : X.env.kindOf n = some .local) (nm : Names X x c) (tk : Takes X Wo)
    (hb : ∀ (W : WX) (pn : List (Addr × Obj)) (xe : Value → Shared → Prop), Takes (X.tr pn xe) W → PassesOwn (model X.prog X.w) X.A X.env xe → PSs (X.tr pn xe) body (tb W))
    (hs : ∀ (a : Addr) (oe : Obj) (cls : Value) (d : Option Addr) (pn : List (Addr × Obj)), Zc cls d oe → (∃ vs, oe.data = .fields vs) → PSs (X.suite a ((a, oe) :: pn)) (b0 :: suite) (ts a cls d))
    (h0 : PSs X rest t0) (h1 : ∀ (a : Addr) (oe : Obj) (cls : Value) (d : Option Addr) (pn : List (Addr × Obj)), Zc cls d oe → (∃ vs, oe.data = .fields vs) → PSs (X.tr ((a, oe) :: pn) X.xe) rest (t1 a cls d)) :
    PSs X (.Try body [.ExceptHandler (some (.Name x np)) (some n) (b0 :: suite) p1] [] [] p2 :: rest) (fun D σ H => tb (wKept X.K c i ts t1 Wo D) { D with nx := t0 D } σ H) := by
  refine ⟨fun pins s σ H D I want => wpAny_execs_cons (wpAny_Try_except ?_)⟩
  have ok := I.ok
  have afr : X.A.frames = some (X.env :: X.outer) := ok.frames.trans (congrArg some stk)
  refine wpAny_mono ((hb (wKept X.K c i ts t1 Wo D) (X.pn ++ pins) _ (fun u t' xx => ?_) PassesOwn.looking).run [] s σ H { D with nx := t0 D } (I.toTry _) want) (fun f s1 done => ?_) (fun _ _ z => z)
  · obtain ⟨a, B, sI, qs, τ, G, cls, d, rfl, Jt, hnb, hup, hsky, hna, hos, hag, b, heq, yes, no⟩ := xx
    have J : Inv X pins τ G sI := Jt.ofTry ok
    rw [show (X.tr (X.pn ++ pins) _).stack = X.env :: X.outer from stk] at hsky
    show wpAny (model X.prog X.w) X.A (noteFrame (.ref a) X.env) _ _ _
    refine Sky.land Zc.steady afr frm hsky fun k3 fly hup3 => ?_
    have J3 : Inv X pins τ G { t' with heap := k3 } := J.landed hnb fly.1 (hup.trans hup3) hos hag
    obtain ⟨o3, w3, g3, z3, f3⟩ := fly.there
    have away : a ∉ frs (X.env :: X.outer) := fun hm => let ⟨_, _, e', no'⟩ := fly.2.2.1.mem hm; no' _ (by rw [g3] at e'; cases e'; exact f3)
    have neL : a ≠ X.env.locals := fun z => away (List.mem_filterMap.mpr ⟨_, List.mem_cons_self, frm.trans (congrArg some z.symm)⟩)
    have neF : a ∉ X.fs := fun hm => let ⟨e, h1, h2⟩ := List.mem_filterMap.mp hm; away (List.mem_filterMap.mpr ⟨e, List.mem_cons_of_mem _ h1, h2⟩)
    have S3 := J3.suite g3 f3 hna neL neF
    refine wpAny_handleBy_cons (codeAny_handlers_test ?_) (fun z => by cases z)
    have ty3 : PySem.W.Looks (model X.prog X.w) k3 (typeOf (.ref a)) cls := fun _ _ _ _ keep q => wpAny_typeOf_ref (keep _ _ g3) (by rw [z3.1]; exact q)
    have asks := PySem.W.exm_one (M := model X.prog X.w) J3.kIn ty3 heq
    have named : ∀ {Q E : Value → Shared → Prop}, Q c { t' with heap := k3 } → wpAny (model X.prog X.w) (X.A.mark (some (.ref a))) (eval (.Name x np) X.env) Q E { t' with heap := k3 } := fun q => by
      obtain ⟨gl, dbg, m | ⟨m, v, nn⟩⟩ := nm
      · exact ld_glob (X := X.suite a ((a, o3) :: (X.pn ++ pins))) S3 gl m q dbg
      · exact ld_blt (X := X.suite a ((a, o3) :: (X.pn ++ pins))) S3 gl m v q nn dbg
    refine named (asks.here ?_)
    cases b with
    | false =>
      show wpAny _ X.A (handleBy (.ref a) X.env []) _ _ _
      refine wpAny_handleBy_nil ?_
      obtain ⟨_, _, _, oe, vs, T, oT, ts', he, hz, hd, hv1, _⟩ := id fly
      unfold PySem.passOn
      refine wpAny_bind (wpAny_field he hd hv1 ?_)
      rw [if_neg (show ¬ ((Value.ref T == Value.none) = true) from by simp)]
      have out : wpAny (model X.prog X.w) X.A (setFlight (.ref a) X.env.frame) (fun _ s4 => wpAny (model X.prog X.w) X.A (throw (.ref a) : Sem Flow) (fun f s' => match f with | .next => wpAny (model X.prog X.w) X.A (execs rest X.env) (SP X pins D) X.xe s' | f => SP X pins D f s') X.xe s4) X.xe { t' with heap := k3 } := by
        rw [frm]
        exact HandSPX.setFlight_upZ fly fun k4 held up4 => wpAny_throw (tk _ _ ⟨a, B, sI, pins, τ, G, cls, d, rfl, J, hnb, (hup.trans hup3).trans up4, .inr (.inr (by rw [stk]; exact held)), hna, hos, hag, no rfl⟩)
      first
        | exact wpAny_bind (wpAny_pure (wpAny_bind out))
        | exact wpAny_bind out
    | true =>
      refine codeAny_handlers_suite_as (HandSPX.lands_againZ fly fun k4 fly4 hup4 => ?_)
      have J4 : Inv X pins τ G { t' with heap := k4 } := J.landed hnb fly4.1 ((hup.trans hup3).trans hup4) hos hag
      obtain ⟨o4, w4, g4, z4, f4⟩ := fly4.there
      refine store_ok (X := X.suite a ((a, o4) :: (X.pn ++ pins))) (v := .ref a) (J4.suite g4 f4 hna neL neF) nd hi (.inl loc) rfl (fun s5 S5 => ?_) (.inr loc)
      refine wpAny_mono ((hs a o4 cls d (X.pn ++ pins) z4 ⟨_, f4⟩).run [] s5 _ G _ S5 (yes rfl a hna)) (fun f s6 hsp => ?_) (fun _ _ z => False.elim z)
      -- the context behind the suite: as before, the error still known
      have ok' : (X.tr ((a, o4) :: (X.pn ++ pins)) X.xe).Ok := ok.toTry _ _
      have goes : ∀ {τ6 : L2.St} {G6 : Hp} {R : Shared → Prop}, Inv (X.suite a ((a, o4) :: (X.pn ++ pins))) [] τ6 G6 s6 → (∀ s7, Inv (X.tr ((a, o4) :: (X.pn ++ pins)) X.xe) [] (τ6.set i none) G6 s7 → R s7) →
          wpAny (model X.prog X.w) X.A (do bindName X.env n .none; unbindBehindTheSuite X.env n p1) (fun _ s7 => R s7) X.xe s6 := fun S6 hR =>
        gone_ok (X := X.tr ((a, o4) :: (X.pn ++ pins)) X.xe) ⟨ok', S6.os, S6.bare, S6.base, S6.loc, S6.cell, S6.free, S6.freeC, S6.pin, S6.hok, S6.len⟩ nd hi loc hR
      cases f with
      | next =>
        obtain ⟨τ6, G6, S6, q6⟩ := hsp
        exact goes S6 fun s7 J7 => wpAny_mono ((h1 a o4 cls d (X.pn ++ pins) z4 ⟨_, f4⟩).run [] s7 _ G6 D J7 q6) (fun f s8 h8 => outOfTry ok h8 fun p hp => List.mem_cons_of_mem _ hp) fun _ _ z => z
      | brk => exact let ⟨_, _, _, q6⟩ := hsp; False.elim q6
      | cont => exact let ⟨_, _, _, q6⟩ := hsp; False.elim q6
      | ret u =>
        obtain ⟨v6, τ6, G6, S6, r6, q6⟩ := hsp
        exact goes S6 fun s7 J7 => outOfTry (pn := (a, o4) :: (X.pn ++ pins)) (xe := X.xe) (f := .ret u) ok ⟨v6, _, G6, J7, r6, q6⟩ fun p hp => List.mem_cons_of_mem _ hp
  · have q := outOfTry ok done fun p hp => hp
    cases f with
    | next => exact let ⟨τ, G, J, q2⟩ := q; wpAny_execs_nil (h0.run pins s1 τ G D J q2)
    | brk => exact q
    | cont => exact q
    | ret u => exact q
end
end Qd
set_option Elab.async false
set_option linter.all false
set_option maxRecDepth 100000
/-! Layer Q: defs that may raise, defs that need to know the guards, the law's end. -/
namespace Qd
open PySem PySem.Spec PyProof.Rows L2
theorem q_no {X : Cx} {E : XK} {e : Expr} : QE X E e (fun _ _ _ _ => False) := ⟨fun _ _ _ _ _ _ ⟨_, _, _, _, _, _, _, z, _⟩ => z.elim⟩
/-! ### raise -/
def wRaise (C : Addr) : WS := fun _ _ S X => X C S
theorem q_raise {X : Cx} {E : XK} {e : Expr} {C : Addr} {pos : Pos} (hc : X.calm = true) (tk : Takes X (fun cls d _ H => E cls d H)) (mk : PMk X e (fun _ H Q => Q (.ref C) none H)) : QS X E (.Raise (some e) none pos) (wRaise C) :=
  (ps_raise hc tk mk).imp fun D σ H ⟨φ, env, S, G, X', rs, re, q, k, x⟩ => x C S φ H rs.ext rs q
/-- a def of the module that may raise, by its contract -/
structure FnX (P : Program) (w : World) (K : PySem.W.Frag) (mg : Str → Option Value) (base : Heap) (k : Nat) (x : Str) (c : Con) : Prop where
  ex : ∃ (f : Addr) (fd : FuncData) (ps : List Str), FnOk P w K mg base (L2.CX P w) k f fd ps (spQ K c) ∧ mg x = some (.ref f) ∧ PySem.W.keepIn K (.ref f) = true ∧ Binds K fd ps []
section
variable {P : Program} {w : World} {K : PySem.W.Frag} {mg : Str → Option Value} {base : Heap}
theorem defX {x : Str} {st : Stmt} {f : Addr} {fd : FuncData} {N ps : List Str} {k : Nat} {c : Con} (F : Fun K x x st f fd) (hm : mg x = some (.ref f)) (hb : Binds K fd ps []) (S : FnScope N ps (defScope st)) (len : ∀ ds S Q X, c ds S Q X → ds.length = ps.length)
    (body : ∀ (cdv : Value) (A : Around) (outer : List Env) (s : Shared) (H : Hp) (E : XK), Room k (A.deeper (envOfC x (defScope st) s.heap.objs.size f cdv)) →
      ∃ u, QSs (cxOf (L2.CX P w) P w K mg base N x (defScope st) f cdv A outer s H E) E (defBody st) u ∧ ∀ ds S Q X', c ds S Q X' → u ⟨fun _ S => Q .non S, Q, fun _ _ => False, fun _ _ => False⟩ (startD N.length ds) S X') :
    FnX P w K mg base (k + 1) x c := by
  refine ⟨f, fd, ps, F.okX S (fun vs H Q E ⟨φ, S, ds, Q', X', rs, rv, q, _⟩ => ?_) (fun cdv A outer s H vs Q E hr ⟨φ, S, ds, Q', X', rs, rv, q, k, x⟩ => ?_), hm, F.kp, hb⟩
  · rw [← rv.len]; exact len _ _ _ _ q
  · obtain ⟨u, hu, hv⟩ := body cdv A outer s H E hr
    exact ⟨LS K E u, hu, φ, startD N.length ds, S, ⟨fun _ S => Q' .non S, Q', fun _ _ => False, fun _ _ => False⟩, X', rs, RE.start N rv, hv ds S Q' X' q, ⟨fun env S' φ' σ' H' e rs' re' q' => k .non S' φ' .non H' e rs' rfl q', k, fun _ _ _ _ _ _ _ _ z => z.elim, fun _ _ _ _ _ _ _ _ z => z.elim⟩, x⟩
end
/-! ### isinstance of a kept error -/
theorem isKept {X : Cx} {a D : Addr} {oe : Obj} {pn : List (Addr × Obj)} {xe : Value → Shared → Prop} (C : ExcC X.K D) (hz : Zc (.ref D) none oe) (hf : ∃ vs, oe.data = .fields vs) : CallR (X.tr ((a, oe) :: pn) xe) (.builtin "isinstance") (rIsE X.K D a) := by
  intro qs s σ H xs us Q I r ⟨c, cv, b, e0, same, e, q⟩
  subst e0
  cases r with
  | cons r1 r2 =>
    cases r2 with
    | cons r3 r4 =>
      cases r4; cases r1
      cases same _ r3
      have there := (I.pin (a, oe) (List.mem_append_left _ List.mem_cons_self)).1
      have inst : PySem.W.InstAt s.heap a oe D none := by
        obtain ⟨vs, hv⟩ := hf
        cases oe with
        | mk oc od oda osl => cases hz.1; cases hz.2; cases hv; exact ⟨there, rfl, rfl, trivial⟩
      refine PySem.W.kia_one (PySem.W.handS_kitx_exc C.hg C.hk C.hs C.hd C.ha C.hn C.ht C.hm) I.kIn inst e (fun z => by cases z) fun tk => ?_
      exact ⟨.bl b, H, I.kept (t' := tk) fun _ _ z => z, rfl, q⟩
def fIsE (a : Addr) : WO1 := fun x S Q => x = .adr a ∧ Q (.bl true) S
section
variable {X : Cx} {E : XK} {a D : Addr} {oe : Obj} {pn : List (Addr × Obj)} {xe : Value → Shared → Prop} {e ce : Expr} {wa : WE} {c : V} {cv : Value} {pos p : Pos}
theorem q_isE (C : ExcC X.K D) (hz : Zc (.ref D) none oe) (hf : ∃ vs, oe.data = .fields vs) (hgi : Gl X "isinstance") (hmi : X.mg "isinstance" = none) (ha : QE (X.tr ((a, oe) :: pn) xe) E e wa) (hc : PE (X.tr ((a, oe) :: pn) xe) ce (tC c)) (same : ∀ u, RelV c u → u = cv) (hk : PySem.W.kitOne X.K (.ref D) cv = some true)
    (he : starEach [e, ce] X.env = (false, eval e X.env) :: starEach [ce] X.env := by rfl) (he2 : starEach [ce] X.env = (false, eval ce X.env) :: starEach [] X.env := by rfl) (hpl : (backTo pos (starEach [ce] X.env)).any (·.1) = false := by rfl) :
    QE (X.tr ((a, oe) :: pn) xe) E (.Call (.Name "isinstance" p) [e, ce] [] pos) (wUn (fIsE a) wa) :=
  (pe_callB (X := X.tr ((a, oe) :: pn) xe) (isKept C hz hf) hgi hmi (by decide +kernel) (pa_cons ha (pa_cons hc pa_nil he2) he) (by decide) (by decide) he hpl).imp fun σ H Q ⟨φ, env, S, Q', X', rs, re, q, k, xx⟩ =>
    ⟨φ, env, S, _, X', rs, re, q, fun d S1 φ1 v H1 e1 rs1 rv1 ⟨hd, q1⟩ => by
      subst hd
      cases rv1
      exact ⟨c, cv, true, rfl, same, hk, (k.mono e1).same rs1 (d := .bl true) rfl q1⟩, xx⟩
end
/-! ### try: y = f(..) except x as n: z = n; the rest -/
section
variable {X : Cx} {E : XK}
def wKeep (CN : Addr) (c : Con) (wa : WA) (y z n : Nat) (w0 : WS) (w1 : Addr → WS) : WS := fun G env S X => n < env.length ∧ wa env S (fun ds S1 => c ds S1 (fun d S2 => w0 G (env.set y (some d)) S2 X) fun C S2 => C = CN ∧ ∀ a, w1 a G (((env.set n (some (.adr a))).set z (some (.adr a))).set n none) S2 X) noX
open Classical in
theorem qss_try {CN : Addr} {c0 : Value} {c : Con} {x xf yn zn nn : Str} {y z n k j : Nat} {a0 : Expr} {args : List Expr} {rest : List Stmt} {wa : WA} {w0 : WS} {w1 : Addr → WS} {np p1 p2 p3 p4 p5 p6 p7 p8 p9 : Pos}
    (stk : X.stack = X.env :: X.outer) (frm : X.env.frame = some X.env.locals) (nd : X.N.Nodup) (hn : X.N[n]? = some nn) (hy : X.N[y]? = some yn) (hz : X.N[z]? = some zn) (ln : X.env.kindOf nn = some .local) (ly : X.env.scope.names.lookup yn = some .local) (lz : X.env.scope.names.lookup zn = some .local) (ln' : X.env.scope.names.lookup nn = some .local)
    (nm : Names X x c0) (eE : PySem.W.exmOne X.K (.ref CN) c0 = some true) (C : FnX X.prog X.w X.K X.mg X.base k xf c) (hr : Room j X.A) (hk : k ≤ j) (gf : Gl X xf) (ha : ∀ pn xe, QA (X.tr pn xe) E (a0 :: args) wa)
    (h0 : QSs X E rest w0) (h1 : ∀ (a : Addr) (oe : Obj) (pn : List (Addr × Obj)), Zc (.ref CN) none oe → (∃ vs, oe.data = .fields vs) → QSs (X.tr ((a, oe) :: pn) X.xe) E rest (w1 a))
    (dbf : (xf == ("__debug__" : Str)) = false := by decide) (dbn : (nn == ("__debug__" : Str)) = false := by decide) (dcn : (nn == ("__classdict__" : Str)) = false := by decide)
    (he : starEach (a0 :: args) X.env = (false, eval a0 X.env) :: starEach args X.env := by rfl) (hpl : (backTo p4 (starEach args X.env)).any (·.1) = false := by rfl) (sw1 : swapsWith (.Call (.Name xf p3) (a0 :: args) [] p4) (some (.Name yn p5)) p6.line X.env = pure false := by rfl) (sw2 : swapsWith (.Name nn p7) (some (.Name zn p8)) p9.line X.env = pure false := by rfl) :
    QSs X E (.Try [.Assign [.Name yn p5] (.Call (.Name xf p3) (a0 :: args) [] p4) p6] [.ExceptHandler (some (.Name x np)) (some nn) [.Assign [.Name zn p8] (.Name nn p7) p9] p1] [] [] p2 :: rest) (wKeep CN c wa y z n w0 w1) := by
  obtain ⟨f, fd, ps, F, hm, kp, b⟩ := C.ex
  have key := pss_kept (tb := fun W => tAsg (tCallS (spQ X.K c) (L2.WE W) (LA X.K E wa)) (gName y)) (np := np) (p1 := p1) (p2 := p2) (X := X) (c := c0) (i := n) (rest := rest) (t0 := LS X.K E w0) (t1 := fun a cls d => if cls = Value.ref CN ∧ d = none then LS X.K E (w1 a) else fun _ _ _ => False) stk frm nd hn ln nm (Wo := fun _ _ _ _ => False) (b0 := .Assign [.Name zn p8] (.Name nn p7) p9) (suite := []) (ts := fun _ _ _ => LS X.K E (wSet z (wVar n))) takes0
    (fun W pn xe tk _ => pss_one (ps_set (X := X.tr pn xe) nd hy (Or.inl ly) (pe_callS (X := X.tr pn xe) (p := p3) (pos := p4) F (hr.mono hk) gf hm kp b (fun σ => passAt tk σ) (ha pn xe) dbf he hpl) sw1 (Or.inr ly)))
    (fun a oe cls d pn hZ hF => qs_one (q_set (X := X.suite a ((a, oe) :: pn)) (E := E) nd hz (Or.inl lz) (qv (X := X.suite a ((a, oe) :: pn)) n hn (Or.inl ln') dbn dcn) sw2 (Or.inr lz)))
    h0 (fun a oe cls d pn hZ hF => by
      by_cases q : cls = Value.ref CN ∧ d = none
      · rw [if_pos q]
        obtain ⟨rfl, rfl⟩ := q
        exact h1 a oe pn hZ hF
      · rw [if_neg q]
        exact ⟨fun _ _ _ _ _ _ z => z.elim⟩)
  refine key.imp fun D σ H ⟨φ, env, S, G, X', rs, re, ⟨hl, q⟩, k, xx⟩ => ?_
  refine ⟨φ, env, S, _, noX, rs, re, q, fun ds S1 φ1 vs H1 e1 rs1 rv1 q1 => ⟨φ1, S1, ds, _, _, rs1, rv1, q1, fun d S2 φ2 v H2 e2 rs2 rv2 q2 => ?_, fun Cc S2 φ2 H2 e2 rs2 ⟨hC, q2⟩ => ?_⟩, XOk.noX⟩
  · exact ⟨φ2, _, S2, G, X', rs2, (re.mono (e1.trans e2)).set rv2, q2, k.mono (e1.trans e2), xx.mono (e1.trans e2)⟩
  · subst hC
    refine ⟨true, eE, fun _ a _ => ?_, fun z => by cases z⟩
    refine ⟨φ2, env.set n (some (.adr a)), S2, ⟨fun e s => w1 a G (e.set n none) s X', G.rt, fun _ _ => False, fun _ _ => False⟩, X', rs2, (re.mono (e1.trans e2)).set rfl, ?_, ⟨fun e S3 φ3 τ H3 e3 rs3 re3 q3 => ?_, k.rt.mono (e1.trans e2), fun _ _ _ _ _ _ _ _ z => z.elim, fun _ _ _ _ _ _ _ _ z => z.elim⟩, xx.mono (e1.trans e2)⟩
    · exact ⟨.adr a, by rw [List.getElem?_set_self hl], q2 a⟩
    · show (if _ then _ else _ : TS) _ _ _
      rw [if_pos ⟨rfl, rfl⟩]
      exact ⟨φ3, _, S3, G, X', rs3, re3.drop, q3, k.mono ((e1.trans e2).trans e3), xx.mono ((e1.trans e2).trans e3)⟩
end
end Qd
set_option Elab.async false
set_option linter.all false
set_option maxRecDepth 100000
/-! Layer Q: defs that need to know that no repr is under way; the law's end. -/
namespace Qd
open PySem PySem.Spec PyProof.Rows L2
/-- a def that is entered with no repr under way -/
structure FnOkG (P : Program) (w : World) (K : PySem.W.Frag) (mg : Str → Option Value) (base : Heap) (k : Nat) (f : Addr) (fd : FuncData) (ps : List Str) (sp : Sp) : Prop where
  len : ∀ vs H Q E, sp vs H Q E → vs.length = ps.length
  run : ∀ (A : Around) (outer : List Env) (s : Shared) (H : Hp) (args : Args) (us : List Value) (vs : List V) (Q : VK), Room k A → A.guards = some [] → Env0 P w K mg base A outer s H → BindsTo s fd args (ps.zip us) → Vals vs us → sp vs H Q E0 →
    codeAny (model P w) A (.call (.ref f) args) (CR CX0 outer P w H s Q E0) s
structure FnG (P : Program) (w : World) (K : PySem.W.Frag) (mg : Str → Option Value) (base : Heap) (k : Nat) (x : Str) (c : Con) : Prop where
  ex : ∃ (f : Addr) (fd : FuncData) (ps : List Str), FnOkG P w K mg base k f fd ps (spQ K c) ∧ mg x = some (.ref f) ∧ PySem.W.keepIn K (.ref f) = true ∧ Binds K fd ps []
section
variable {P : Program} {w : World} {K : PySem.W.Frag} {mg : Str → Option Value} {base : Heap}
theorem okG {x : Str} {st : Stmt} {f : Addr} {fd : FuncData} {N ps : List Str} {k : Nat} {c : Con} (F : Fun K x x st f fd) (S : FnScope N ps (defScope st)) (len : ∀ ds S Q X, c ds S Q X → ds.length = ps.length)
    (body : ∀ (cdv : Value) (A : Around) (outer : List Env) (s : Shared) (H : Hp), Room k (A.deeper (envOfC x (defScope st) s.heap.objs.size f cdv)) → (A.deeper (envOfC x (defScope st) s.heap.objs.size f cdv)).guards = some [] →
      ∃ u, QSs (cxOf CX0 P w K mg base N x (defScope st) f cdv A outer s H E0).nox E0 (defBody st) u ∧ ∀ ds S Q X', c ds S Q X' → u ⟨fun _ S => Q .non S, Q, fun _ _ => False, fun _ _ => False⟩ (startD N.length ds) S noX) :
    FnOkG P w K mg base (k + 1) f fd ps (spQ K c) := by
  obtain ⟨oc, od, kV, doc, pm, an, cdv, ct, osl, rfl, lk, hcd⟩ := F.ex
  have ln : ∀ vs H Q E, spQ K c vs H Q E → vs.length = ps.length := fun vs H Q E ⟨φ, S, ds, Q', X', rs, rv, q, _⟩ => by rw [← rv.len]; exact len _ _ _ _ q
  refine ⟨ln, fun A outer s H args us vs Q room noG start0 binds vals promise => ?_⟩
  have seen : ∀ {b : Addr} {o : Obj}, base.get? b = some o → s.heap.get? b = some o := fun e => (start0.bs _ _ e).1
  have kinS : K.In s.heap := start0.mod.kin.keeps fun _ _ e => seen e
  have ofL : s.heap.NoLimit := start0.mod.nolimit.keeps fun _ _ e => seen e
  have kinds : ∀ y ∈ ps.zip us, (defScope st).names.lookup y.1 = some .local ∨ ((defScope st).names.lookup y.1 = some .cell ∧ ((cellsFrom (s.heap.objs.size + 1) (defScope st).names []).lookup y.1).isSome = true) := fun y hy =>
    (S.par y.1 (List.of_mem_zip hy).1).elim .inl fun q => .inr ⟨q, PySem.W.cellsFrom_some _ _ _ (.inl q)⟩
  refine codeAny_call_function room.depth (kinS _ _ lk) rfl S.co S.gen rfl (PySem.W.codeRec_of kinS hcd) (binds _ _ _ _ (wpAny_newFunctionEnv_cells S.kind kinds fun env he s1 inside => ?_))
  subst he
  refine ⟨ofL.keeps inside.toInCall.keep, codeAny_func ?_⟩
  obtain ⟨u, hu, hv⟩ := body cdv A outer s H (room.deeper _) noG
  obtain ⟨φ, T, ds, Q', X', rs, rv, q, k1, x1⟩ := id promise
  have at1 : Inv (cxOf CX0 P w K mg base N x (defScope st) f cdv A outer s H E0) [] (L2.start N vs) H s1 := inv_start S room.hd start0 (ln _ _ _ _ promise) vals inside
  have run := (PSs.nox hu).run [] s1 (L2.start N vs) H { nx := fun _ H' => Q .non H', rt := Q } at1 ⟨φ, startD N.length ds, T, ⟨fun _ S => Q' .non S, Q', fun _ _ => False, fun _ _ => False⟩, noX, rs, RE.start N rv, hv ds T Q' X' q, ⟨fun _ S' φ' _ H' e rs' _ q' => k1 .non S' φ' .non H' e rs' rfl q', k1, fun _ _ _ _ _ _ _ _ z => z.elim, fun _ _ _ _ _ _ _ _ z => z.elim⟩, XOk.noX⟩
  refine wpAny_mono run (fun fl s' hs => ?_) fun _ _ z => z
  cases fl with
  | brk => exact let ⟨_, _, _, z⟩ := hs; z.elim
  | cont => exact let ⟨_, _, _, z⟩ := hs; z.elim
  | next => exact let ⟨τ, G, J, z⟩ := hs; (⟨V.non, G, J.os, J.bare, J.base, J.hok, rfl, z⟩ : CE outer P w H s Q .none s')
  | ret v => exact let ⟨y, τ, G, J, r, z⟩ := hs; (⟨y, G, J.os, J.bare, J.base, J.hok, r, z⟩ : CE outer P w H s Q v s')
theorem defG {x : Str} {st : Stmt} {f : Addr} {fd : FuncData} {N ps : List Str} {k : Nat} {c : Con} (F : Fun K x x st f fd) (hm : mg x = some (.ref f)) (hb : Binds K fd ps []) (S : FnScope N ps (defScope st)) (len : ∀ ds S Q X, c ds S Q X → ds.length = ps.length)
    (body : ∀ (cdv : Value) (A : Around) (outer : List Env) (s : Shared) (H : Hp), Room k (A.deeper (envOfC x (defScope st) s.heap.objs.size f cdv)) → (A.deeper (envOfC x (defScope st) s.heap.objs.size f cdv)).guards = some [] →
      ∃ u, QSs (cxOf CX0 P w K mg base N x (defScope st) f cdv A outer s H E0).nox E0 (defBody st) u ∧ ∀ ds S Q X', c ds S Q X' → u ⟨fun _ S => Q .non S, Q, fun _ _ => False, fun _ _ => False⟩ (startD N.length ds) S noX) :
    FnG P w K mg base (k + 1) x c := ⟨f, fd, ps, okG F S len body, hm, F.kp, hb⟩
end
section
variable {X : Cx} {E : XK} {c : Con} {a : Expr} {es : List Expr} {wr : WA} {pos p : Pos} {x : Str} {k j : Nat}
/-- a call of such a def -/
theorem q_cG (C : FnG X.prog X.w X.K X.mg X.base k x c) (hgd : X.A.guards = some []) (hr : Room j X.A) (hk : k ≤ j) (hg : Gl X x) (ha : QA X E (a :: es) wr)
    (hdb : (x == ("__debug__" : Str)) = false := by decide) (he : starEach (a :: es) X.env = (false, eval a X.env) :: starEach es X.env := by rfl) (hpl : (backTo pos (starEach es X.env)).any (·.1) = false := by rfl) : QE X E (.Call (.Name x p) (a :: es) [] pos) (wCall c [] wr) := by
  obtain ⟨f, fd, ps, F, hm, kp, b⟩ := C.ex
  refine ⟨fun pins s σ H Q I ⟨φ, env, S, Q', X', rs, re, q, k0, xx⟩ => wpAny_Call_Name_kw (ld_glob I hg hm ?_ hdb)⟩
  refine PySem.W.callWith_K (h₀ := X.base) I.ok.mod.kin kp (thn (ha.run pos pins s σ H (fun vs H1 => spQ X.K c vs H1 Q E0) I ⟨φ, env, S, _, X', rs, re, q, fun ds S1 φ1 vs H1 e1 rs1 rv1 q1 => ⟨φ1, S1, ds, Q', noX, rs1, rv1, (by simpa using q1), k0.mono e1, XOk.noX⟩, xx⟩) fun us s1 ⟨vs, H1, I1, r, q1⟩ => ⟨I1.kIn, ?_⟩) he hpl
  have hl : us.length = ps.length := by rw [← r.length]; exact F.len _ _ _ _ q1
  have b1 := b s1 us I1.kIn (by simpa using hl)
  rw [List.append_nil] at b1
  refine wpAny_call (codeAny_mono (F.run X.A X.stack s1 H1 ⟨us, []⟩ us vs Q (hr.mono hk) hgd I1.env0 b1 r q1) fun res s' hq => ?_)
  cases res with
  | error e => exact False.elim hq
  | ok fl =>
    cases fl with
    | ret u => exact I1.after hq
    | next => exact False.elim hq
    | brk => exact False.elim hq
    | cont => exact False.elim hq
end
/-- the law's own call -/
theorem law_run {P : Program} {w : World} {K : PySem.W.Frag} {mg mb : Str → Option Value} {k : Nat} {fa a : Addr} {fd : FuncData} {x : Str} {sp : Sp} {s1 : Shared} {vs : List Value} {ns : List Int}
    (KX : K.In s1.heap) (hns : s1.heap.Ns mainGlobals mg) (hbl : s1.heap.Ns builtinsNs mb) (hbb : ∀ x : Str, x ≠ "__name__" → mb x = bootBuiltins x) (hlim : s1.heap.NoLimit) (hgn : s1.gens = #[])
    (there : s1.heap.get? a = some { cls := .type "list", data := .seq vs.toArray }) (hi : IntsAre vs ns) (hl : ns.length ≤ sizeLine) (room : Room k callerA)
    (F : ∀ base : Heap, K.In base → base.Ns mainGlobals mg → FnOkG P w K mg base k fa fd [x] sp) (hbind : ∀ (s : Shared) (u : Value), BindsTo s fd ⟨[u], []⟩ [(x, u)])
    (hsp : ∀ H : Hp, Only H → SqL K H a (ns.map V.int) → sp [.ref a] H (fun v _ => v = .bl true) E0) :
    codeAny (model P w) callerA (.call (.ref fa) ⟨[.ref a], []⟩) (fun r s' => r = .ok (.ret (.bool true)) ∧ OldK s1.heap s'.heap ∧ s'.os = s1.os ∧ AllBare s'.gens) s1 := by
  have vals := vals_ints hi
  have main : ∀ H : Hp, Only H → SqL K H a (ns.map V.int) → HOk P w H s1.heap → (∀ b, H b ≠ none → b = a ∧ K.lookup a = none) →
      codeAny (model P w) callerA (.call (.ref fa) ⟨[.ref a], []⟩) (fun r s' => r = .ok (.ret (.bool true)) ∧ OldK s1.heap s'.heap ∧ s'.os = s1.os ∧ AllBare s'.gens) s1 := by
    intro H only sq ok one
    have shown : ∀ {b : Addr} {o : Obj}, s1.heap.get? b = some o → H b = none → (hidT s1.heap H).get? b = some o := fun e n => hidT_get e n
    have dictFree : ∀ {b : Addr} {o : Obj} {es : Array DictEntry} {ep : Nat}, s1.heap.get? b = some o → o.data = .dict es ep → H b = none := fun {b o es ep} e d => Classical.byContradiction fun n => by
      obtain ⟨rfl, _⟩ := one b n
      rw [there] at e
      cases e
      cases d
    have nsT : ∀ {b : Addr} {m : Str → Option Value}, s1.heap.Ns b m → (hidT s1.heap H).Ns b m := fun {b m} ⟨o, es, ep, e, d, r⟩ => ⟨o, es, ep, shown e (dictFree e d), d, r⟩
    have kT : K.In (hidT s1.heap H) := fun b o e => shown (KX b o e) (Classical.byContradiction fun n => by
      obtain ⟨rfl, q⟩ := one b n
      rw [q] at e
      cases e)
    have mT : Mod K mg (hidT s1.heap H) := ⟨kT, nsT hns, ⟨mb, nsT hbl, hbb⟩, let ⟨mc, h1, h2⟩ := hlim; ⟨mc, nsT h1, h2⟩⟩
    have nil : ∀ (b : Addr), b ∉ frs [] := fun b z => absurd (show b ∈ ([] : List Addr) from z) (by simp)
    refine codeAny_mono ((F _ kT (nsT hns)).run callerA [] s1 H ⟨[.ref a], []⟩ [.ref a] [.ref a] _ room rfl ⟨rfl, mT, fun _ _ e => of_hidT e, Nat.le_of_eq (hidT_size _ _), trivial, fun b z => absurd z (nil b), ok, .of_eq hgn⟩ (hbind s1 (.ref a)) (.cons rfl .nil) (hsp H only sq)) fun r s' h => ?_
    match r, h with
    | .ok (.ret u), ⟨v, G, os, bare, un, ok', rv, q⟩ =>
      have q' : v = .bl true := q
      subst q'
      obtain rfl : u = Value.bool true := rv
      refine ⟨rfl, OldK.of_keep fun b o e => ?_, os, bare⟩
      cases hb : H b with
      | none => exact un.keep b o e hb (nil b) (by simp)
      | some u =>
        rcases only b with z | ⟨ob, xs, z⟩
        · rw [hb] at z; cases z
        · have e1 := (ok b _ z).1
          have e2 := (ok' b _ (un.frzs b ob _ z)).1
          rw [e] at e1; cases e1
          exact e2
  cases hk : K.lookup a with
  | some o =>
    have e := KX a o hk
    rw [there] at e
    cases e
    exact main (fun _ => none) (fun _ => .inl rfl) (.inr ⟨_, vs.toArray, _, hk, rfl, rfl, rfl, by rw [List.size_toArray, hi.length]; exact hl, by simpa using vals⟩) (fun b u z => by cases (show (none : Option HO) = some u from z)) fun b z => absurd rfl z
  | none =>
    obtain ⟨T, hT⟩ : ∃ T : Hp, T = fun b => if b = a then some (.frz { cls := .type "list", data := .seq vs.toArray } (.lst (ns.map V.int))) else none := ⟨_, rfl⟩
    have Ta : T a = some (.frz { cls := .type "list", data := .seq vs.toArray } (.lst (ns.map V.int))) := by rw [hT]; exact if_pos rfl
    have Tn : ∀ b, b ≠ a → T b = none := fun b n => by rw [hT]; exact if_neg n
    refine main T (fun b => (Classical.em (b = a)).elim (fun q => .inr ⟨_, _, q ▸ Ta⟩) fun q => .inl (Tn b q)) (.inl (.inr ⟨_, Ta⟩)) (fun b u z => ?_) fun b z => ⟨Classical.byContradiction fun n => z (Tn b n), hk⟩
    by_cases q : b = a
    · subst q
      rw [Ta] at z
      cases z
      exact ⟨there, by rw [List.length_map]; exact hl, vs, _, vals, there⟩
    · rw [Tn b q] at z; cases z
/-- the goal that k_head leaves, from the law's promise -/
theorem walkG {l : PySem.W.OpenLaw} {n k : Nat} {q : Program} {loose : List Str} {XP : (Str → Option Value) → Heap → Prop} {YP : World → Heap → Prop} {d : DefRec} {K : Params → PySem.W.Frag} {sp : World → Sp} {x : Str}
    (hn : l.most = some n) (hn2 : n ≤ sizeLine) (hdf : d.params.defaults = []) (room : Room k callerA) (hY : ∀ (w : World) (h : Heap), YP w h → (K w.params).In h)
    (F : ∀ (w : World) (mg : Str → Option Value) (fa : Addr) (h : Heap), (K w.params).In h → h.Ns mainGlobals mg → mg d.name = some (.ref fa) →
      ∃ fd : FuncData, (∀ (s : Shared) (u : Value), BindsTo s fd ⟨[u], []⟩ [(x, u)]) ∧ ∀ base : Heap, (K w.params).In base → base.Ns mainGlobals mg → FnOkG l.prog w (K w.params) mg base k fa fd [x] (sp w))
    (hsp : ∀ (w : World) (H : Hp) (a : Addr) (ns : List Int), ns.length ≤ n → Only H → SqL (K w.params) H a (ns.map V.int) → sp w [.ref a] H (fun v _ => v = .bl true) E0) :
    PySem.W.WalkO q loose XP YP l.row.toRowW d [] (fun f vs => PySem.call f vs) :=
  Att.attach_call hn hdf fun w s0 s1 mg mb fa o pm cd doc a vs ns G Y ho hd hcd hmg hobj hints hlen hg =>
    let ⟨fd, hb, hF⟩ := F w mg fa _ (hY w _ Y) G.T.g hmg
    law_run (hY w _ Y) G.T.g G.T.b G.T.builtins G.T.nolimit hg hobj hints (Nat.le_trans hlen hn2) room hF hb fun H only sq => hsp w H a ns hlen only sq
end Qd
set_option Elab.async false
set_option linter.all false
set_option maxRecDepth 100000
/-! Layer Q: stores that grow, data as plain data, loops by an invariant. -/
namespace Qd
open PySem PySem.Spec PyProof.Rows L2
def Sub (S T : Store) : Prop := ∀ (n : Nat) (c : Cell), S[n]? = some c → T[n]? = some c
theorem Sub.refl {S : Store} : Sub S S := fun _ _ h => h
theorem Sub.trans {S T U : Store} (h : Sub S T) (g : Sub T U) : Sub S U := fun n c e => g n c (h n c e)
theorem Sub.nil {S : Store} : Sub [] S := fun n c e => by simp at e
theorem Sub.push {S : Store} {T : List Cell} : Sub S (S ++ T) := fun n c e => by
  rw [List.getElem?_append_left (List.getElem?_eq_some_iff.mp e).1]; exact e
theorem Sub.to {S T : Store} {U : List Cell} (h : Sub S T) : Sub S (T ++ U) := h.trans Sub.push
theorem last_get {S : Store} {c : Cell} : (S ++ [c])[S.length]? = some c := by simp
mutual
theorem sh_mono {S T : Store} (m : Sub S T) : ∀ {d : D} {p : PyData}, Sh S d p → Sh T d p
  | _, _, .non => .non
  | _, _, .bl b => .bl b
  | _, _, .int b => .int b
  | _, _, .str b => .str b
  | _, _, .tup h => .tup (shs_mono m h)
  | _, _, .lst e h => .lst (m _ _ e) (shs_mono m h)
  | _, _, .dict e => .dict (m _ _ e)
theorem shs_mono {S T : Store} (m : Sub S T) : ∀ {d : List D} {p : List PyData}, Shs S d p → Shs T d p
  | _, _, .nil => .nil
  | _, _, .cons a b => .cons (sh_mono m a) (shs_mono m b)
end
theorem Shs.len {S : Store} : ∀ {ds : List D} {ps : List PyData}, Shs S ds ps → ds.length = ps.length
  | _, _, .nil => rfl
  | _, _, .cons _ b => by simp [b.len]
theorem Shs.get {S : Store} : ∀ {ds : List D} {ps : List PyData} {i : Nat} {p : PyData}, Shs S ds ps → ps[i]? = some p → ∃ d, ds[i]? = some d ∧ Sh S d p
  | _, _, _, _, .nil, e => by simp at e
  | _, _, 0, _, .cons a _, e => by simp at e; subst e; exact ⟨_, rfl, a⟩
  | _, _, i + 1, _, .cons _ b, e => by
    obtain ⟨d, h1, h2⟩ := b.get (i := i) (by simpa using e)
    exact ⟨d, by simpa using h1, h2⟩
theorem Shs.getD {S : Store} : ∀ {ds : List D} {ps : List PyData} {i : Nat} {d : D}, Shs S ds ps → ds[i]? = some d → ∃ p, ps[i]? = some p ∧ Sh S d p
  | _, _, _, _, .nil, e => by simp at e
  | _, _, 0, _, .cons a _, e => by simp at e; subst e; exact ⟨_, rfl, a⟩
  | _, _, i + 1, _, .cons _ b, e => by
    obtain ⟨d, h1, h2⟩ := b.getD (i := i) (by simpa using e)
    exact ⟨d, by simpa using h1, h2⟩
theorem Shs.append {S : Store} : ∀ {ds es : List D} {ps qs : List PyData}, Shs S ds ps → Shs S es qs → Shs S (ds ++ es) (ps ++ qs)
  | _, _, _, _, .nil, h => h
  | _, _, _, _, .cons a b, h => .cons a (b.append h)
theorem Shs.take {S : Store} : ∀ {ds : List D} {ps : List PyData} (n : Nat), Shs S ds ps → Shs S (ds.take n) (ps.take n)
  | _, _, 0, _ => by simpa using Shs.nil
  | _, _, _ + 1, .nil => .nil
  | _, _, n + 1, .cons a b => .cons a (b.take n)
theorem Shs.drop {S : Store} : ∀ {ds : List D} {ps : List PyData} (n : Nat), Shs S ds ps → Shs S (ds.drop n) (ps.drop n)
  | _, _, 0, h => h
  | _, _, _ + 1, .nil => .nil
  | _, _, n + 1, .cons _ b => b.drop n
theorem Shs.reverse {S : Store} : ∀ {ds : List D} {ps : List PyData}, Shs S ds ps → Shs S ds.reverse ps.reverse
  | _, _, .nil => .nil
  | _, _, .cons a b => by
    rw [List.reverse_cons, List.reverse_cons]
    exact b.reverse.append (.cons a .nil)
def cutP (xs : List PyData) (lo hi : Option Int) : List PyData := (xs.drop (HT.sIx xs.length 0 lo)).take (HT.sIx xs.length xs.length hi - HT.sIx xs.length 0 lo)
theorem Shs.cut {S : Store} {ds : List D} {ps : List PyData} (h : Shs S ds ps) (lo hi : Option Int) : Shs S (cutD ds lo hi) (cutP ps lo hi) := by
  unfold cutD cutP
  rw [h.len]
  exact (h.drop _).take _
mutual
/-- the data that == may look at -/
theorem Sh.py {S : Store} : ∀ {d : D} {p : PyData}, Sh S d p → p.hasDict = false → Py S d p
  | _, _, .non, _ => .non
  | _, _, .bl b, _ => .bl b
  | _, _, .int b, _ => .int b
  | _, _, .str b, _ => .str b
  | _, _, .tup h, n => .tup (Shs.py h (by simpa [PyData.hasDict] using n))
  | _, _, .lst e h, n => .lst e (Shs.py h (by simpa [PyData.hasDict] using n))
  | _, _, .dict _, n => by simp [PyData.hasDict] at n
theorem Shs.py {S : Store} : ∀ {d : List D} {p : List PyData}, Shs S d p → PyData.hasDictAll p = false → Pys S d p
  | _, _, .nil, _ => .nil
  | _, _, .cons a b, n => by
    rw [PyData.hasDictAll, Bool.or_eq_false_iff] at n
    exact .cons (Sh.py a n.1) (Shs.py b n.2)
end
def pI : PyData → Bool | .int _ => true | _ => false
def pB : PyData → Bool | .bool _ => true | _ => false
def pS : PyData → Bool | .str _ => true | _ => false
def pT : PyData → Bool | .tuple _ => true | _ => false
def pL : PyData → Bool | .list _ => true | _ => false
section
variable {S : Store} {d : D} {p : PyData} {Q : D → Store → Prop}
theorem sh_ty (h : Sh S d p) : Qd.Ty S d := by
  unfold Qd.Ty
  cases h <;> simp only [tyD] <;> first
    | rfl
    | (rename_i e; rw [e]; rfl)
    | (rename_i e _; rw [e]; rfl)
theorem shi_int (h : Sh S d p) (q : Q (.bl (pI p || pB p)) S) : fIsi "int" d S Q := isi_int (sh_ty h) (by cases h <;> exact q)
theorem shi_bool (h : Sh S d p) (q : Q (.bl (pB p)) S) : fIsi "bool" d S Q := isi_bool (sh_ty h) (by cases h <;> exact q)
theorem shi_str (h : Sh S d p) (q : Q (.bl (pS p)) S) : fIsi "str" d S Q := isi_str (sh_ty h) (by cases h <;> exact q)
theorem shi_tup (h : Sh S d p) (q : Q (.bl (pT p)) S) : fIsi "tuple" d S Q := isi_tup (sh_ty h) (by cases h <;> exact q)
theorem shi_lst (h : Sh S d p) (q : Q (.bl (pL p)) S) : fIsi "list" d S Q := isi_lst (sh_ty h) (by
  cases h <;> first
    | exact q
    | (rename_i e; simp only [isL, e, isLc]; exact q)
    | (rename_i e _; simp only [isL, e, isLc]; exact q))
theorem shi_ret {T : String} {b : Bool} (h : fIsi T d S fun x S1 => x = .bl b ∧ S1 = S) : isTy S T d = some b := by
  obtain ⟨c, hc, e, _⟩ := h
  cases e
  exact hc
end
/-- a list or a tuple -/
theorem qi_or {X : Cx} {E : XK} {tg e : Expr} {w1 w2 : WI} (h1 : QI X E tg e w1) (h2 : QI X E tg e w2) : QI X E tg e (fun env S R Y => w1 env S R Y ∨ w2 env S R Y) :=
  ⟨fun pins s σ H R I ⟨φ, env, S, R', X', rs, re, q, k, x⟩ => q.elim (fun q => h1.run pins s σ H R I ⟨φ, env, S, R', X', rs, re, q, k, x⟩) fun q => h2.run pins s σ H R I ⟨φ, env, S, R', X', rs, re, q, k, x⟩⟩
/-! ### loops -/
section
variable {g : WG} {a : WE} {t : WT} {w : WS} {env : Slots} {still : Store → Prop} {X : XQ}
/-- a comprehension without a test -/
theorem lc_yes {Q : List D → Store → Prop} {items : List D} {S : Store} (J : Nat → Store → Prop) (Pr : Nat → D → D → Prop) (h0 : J 0 S) (hl : items.length ≤ lineD) (hs : ∀ i S, J i S → still S)
    (step : ∀ i d, items[i]? = some d → ∀ S, J i S → ∀ R : D → Store → Prop, (∀ y S', Pr i d y → J (i + 1) S' → R y S') → g d env S fun e s => a e s R X)
    (fin : ∀ ys S, ys.length = items.length → (∀ (i : Nat) d y, items[i]? = some d → ys[i]? = some y → Pr i d y) → J items.length S → Q ys S) : wLcL g wYes a env still Q X items [] S := by
  have main : ∀ (rest done acc : List D) (S : Store), items = done ++ rest → acc.length = done.length → (∀ (i : Nat) d y, done[i]? = some d → acc[i]? = some y → Pr i d y) → J done.length S → wLcL g wYes a env still Q X rest acc S := by
    intro rest
    induction rest with
    | nil =>
      intro done acc S e le hp hj
      rw [List.append_nil] at e
      subst e
      exact ⟨hs _ _ hj, fin acc S le hp hj⟩
    | cons d ds ih =>
      intro done acc S e le hp hj
      refine ⟨hs _ _ hj, step done.length d (by rw [e]; simp) S hj _ fun y S' py hj' => ⟨?_, ?_⟩⟩
      · rw [le]
        have := congrArg List.length e
        simp at this
        omega
      · refine ih (done ++ [d]) (acc ++ [y]) S' (by simp [e]) (by simp [le]) (fun i d' y' h1 h2 => ?_) (by simpa using hj')
        by_cases hi : i < done.length
        · rw [List.getElem?_append_left hi] at h1
          rw [List.getElem?_append_left (by omega)] at h2
          exact hp i d' y' h1 h2
        · rw [List.getElem?_append_right (by omega)] at h1
          rw [List.getElem?_append_right (by omega)] at h2
          have hz : i - done.length = 0 := by
            have := (List.getElem?_eq_some_iff.mp h1).1
            simp at this
            omega
          rw [hz] at h1
          rw [le, hz] at h2
          cases h1; cases h2
          rw [show i = done.length by omega]
          exact py
  exact main items [] [] S rfl rfl (fun i d y h => by simp at h) h0
/-- the items' values known ahead -/
theorem lc_map {Q : List D → Store → Prop} {items : List D} {S : Store} (J : Nat → Store → Prop) (f : D → D) (h0 : J 0 S) (hl : items.length ≤ lineD) (hs : ∀ i S, J i S → still S)
    (step : ∀ i d, items[i]? = some d → ∀ S, J i S → ∀ R : D → Store → Prop, (∀ S', J (i + 1) S' → R (f d) S') → g d env S fun e s => a e s R X)
    (fin : ∀ S, J items.length S → Q (items.map f) S) : wLcL g wYes a env still Q X items [] S :=
  lc_yes J (fun _ d y => y = f d) h0 hl hs (fun i d hi S hj R hR => step i d hi S hj R fun S' hj' => hR _ S' rfl hj') fun ys S hl hp hj => by
    have e : ys = items.map f := by
      refine List.ext_getElem? fun i => ?_
      rw [List.getElem?_map]
      cases h : items[i]? with
      | none =>
        have := List.getElem?_eq_none_iff.mp h
        simp only [Option.map_none]
        exact List.getElem?_eq_none_iff.mpr (by omega)
      | some d =>
        have hi := (List.getElem?_eq_some_iff.mp h).1
        have hy : ys[i]? = some ys[i] := List.getElem?_eq_getElem (by omega)
        rw [hy, hp i d _ h hy]
        rfl
    rw [e]
    exact fin S hj
/-- a comprehension with a test -/
theorem lc_if {Q : List D → Store → Prop} {items : List D} {S : Store} (J : Nat → Store → Prop) (Pr : D → Prop) (h0 : J 0 S) (hl : items.length ≤ lineD) (hs : ∀ i S, J i S → still S)
    (step : ∀ i d, items[i]? = some d → ∀ S, J i S → ∀ R0 : Store → Prop, ∀ R : D → Store → Prop, (∀ S', J (i + 1) S' → R0 S') → (∀ y S', Pr y → J (i + 1) S' → R y S') → g d env S fun e s => t e s (fun b s2 => if b = true then a e s2 R X else R0 s2) X)
    (fin : ∀ ys S, ys.length ≤ items.length → (∀ y ∈ ys, Pr y) → J items.length S → Q ys S) : wLcL g t a env still Q X items [] S := by
  have main : ∀ (rest done acc : List D) (S : Store), items = done ++ rest → acc.length ≤ done.length → (∀ y ∈ acc, Pr y) → J done.length S → wLcL g t a env still Q X rest acc S := by
    intro rest
    induction rest with
    | nil =>
      intro done acc S e le hp hj
      rw [List.append_nil] at e
      subst e
      exact ⟨hs _ _ hj, fin acc S le hp hj⟩
    | cons d ds ih =>
      intro done acc S e le hp hj
      refine ⟨hs _ _ hj, step done.length d (by rw [e]; simp) S hj _ _ (fun S' hj' => ?_) fun y S' py hj' => ⟨?_, ?_⟩⟩
      · exact ih (done ++ [d]) acc S' (by simp [e]) (by simp; omega) hp (by simpa using hj')
      · have := congrArg List.length e
        simp at this
        omega
      · refine ih (done ++ [d]) (acc ++ [y]) S' (by simp [e]) (by simp; omega) (fun z hz => ?_) (by simpa using hj')
        rcases List.mem_append.mp hz with h | h
        · exact hp z h
        · rw [List.mem_singleton.mp h]; exact py
  exact main items [] [] S rfl (Nat.le_refl _) (fun y h => by simp at h) h0
theorem loop_by {G : Go} {items : List D} {S : Store} (J : Nat → Slots → Store → Prop) (h0 : J 0 env S) (hs : ∀ i e S, J i e S → still S)
    (step : ∀ i d, items[i]? = some d → ∀ e S, J i e S → ∀ R : Slots → Store → Prop, (∀ e' S', J (i + 1) e' S' → R e' S') → g d e S fun e1 s1 => w ⟨R, G.rt, G.nx, R⟩ e1 s1 X)
    (fin : ∀ e S, J items.length e S → G.nx e S) : wLoop g w still G X items env S := by
  have main : ∀ (rest done : List D) (e : Slots) (S : Store), items = done ++ rest → J done.length e S → wLoop g w still G X rest e S := by
    intro rest
    induction rest with
    | nil =>
      intro done e S he hj
      rw [List.append_nil] at he
      subst he
      exact ⟨hs _ _ _ hj, fin e S hj⟩
    | cons d ds ih =>
      intro done e S he hj
      exact ⟨hs _ _ _ hj, step done.length d (by rw [he]; simp) e S hj _ fun e' S' hj' => ih (done ++ [d]) e' S' (by simp [he]) (by simpa using hj')⟩
  exact main items [] env S rfl h0
end
end Qd
set_option Elab.async false
set_option linter.all false
set_option maxRecDepth 100000
set_option maxHeartbeats 4000000
namespace K78
open PySem PySem.Spec PyProof.Rows L2 Qd
def topS (i : Nat) : Stmt := PySem.Challenge.pw_endwise_k78_borne_anywhere.main.body.getD i (.Pass ⟨0, 0, 0, 0⟩)
structure Blt (mg : Str → Option Value) : Prop where
  isinstance : mg "isinstance" = none
  int : mg "int" = none
  bool : mg "bool" = none
  str : mg "str" = none
  tuple : mg "tuple" = none
  list : mg "list" = none
  len : mg "len" = none
  all : mg "all" = none
  abs : mg "abs" = none
  min : mg "min" = none
  max : mg "max" = none
  sum : mg "sum" = none
  range : mg "range" = none
  enumerate : mg "enumerate" = none
  repr : mg "repr" = none
  ValueError : mg "ValueError" = none
structure Glb (mg : Str → Option Value) : Prop where
  LETTERS : ∃ t, mg "LETTERS" = some (.str "abcdefghijklmnopqrstuvwxyz" t)
  LONGEST_NAME : ∃ t, mg "LONGEST_NAME" = some (.int 8 t)
  MOST_BLANK : ∃ t, mg "MOST_BLANK" = some (.int 999 t)
  MOST_PLACES_terms : ∃ t, mg "MOST_PLACES_terms" = some (.int 9 t)
  MOST_LEVELS : ∃ t, mg "MOST_LEVELS" = some (.int 60 t)
  MOST_PARTS : ∃ t, mg "MOST_PARTS" = some (.int 1000 t)
  MOST_PLACES_reasons : ∃ t, mg "MOST_PLACES_reasons" = some (.int 9 t)
structure RC (K : PySem.W.Frag) (mg : Str → Option Value) (NR EE : Addr) : Prop where
  g : mg "NoReason" = some (.ref NR)
  gE : mg "EndError" = some (.ref EE)
  e : PySem.W.exmOne K (.ref NR) (.ref EE) = some true
  k : PySem.W.keepIn K (.ref NR) = true
  x : PySem.W.excIn K NR [.type "ValueError", .type "Exception", .type "BaseException", .type "object"] "ValueError.__new__" = true
  b : PySem.W.subIn K (.ref NR) (.type "BaseException") = some true
  t : PySem.W.typeIn K (.ref NR) = some (.type "type")
  C : ExcC K NR
  kN : PySem.W.kitOne K (.ref NR) (.ref NR) = some true
  kValueError : PySem.W.kitOne K (.ref NR) (.type "ValueError") = some true
/-! ### plain facts -/
theorem iteB {c : Bool} {A B : Prop} (h1 : c = true → A) (h2 : c = false → B) : if c = true then A else B := by
  cases c
  · rw [if_neg Bool.false_ne_true]; exact h2 rfl
  · rw [if_pos rfl]; exact h1 rfl
theorem qc {Q : D → Store → Prop} {x y : D} {S : Store} (q : Q y S) (e : x = y) : Q x S := e ▸ q
theorem qb {Q : D → Store → Prop} {x y : Bool} {S : Store} (q : Q (.bl y) S) (e : x = y) : Q (.bl x) S := e ▸ q
theorem cut1 {x : D} {xs : List D} : Qd.cutD (x :: xs) (some 1) none = xs := by
  have h : HT.sIx (x :: xs).length 0 (some 1) = 1 := by
    rw [show (1 : Int) = ((1 : Nat) : Int) from rfl, HT.sIx_nat]
    simp
  unfold Qd.cutD
  rw [h, HT.sIx_none]
  simp
theorem atN {α : Type} {xs : List α} {k : Nat} {d : α} (h : xs[k]? = some d) : atI xs ((k : Nat) : Int) = some d := by
  have hk := (List.getElem?_eq_some_iff.mp h).1
  unfold L2.atI L2.ixN
  rw [if_pos (by omega), if_pos (by omega)]
  simpa using h
def letters : Str := "abcdefghijklmnopqrstuvwxyz"
def nameP : PyData → Bool
  | .str x => decide (1 ≤ x.length) && decide (x.length ≤ 8) && x.cps.toList.all fun c => decide (c ∈ letters.cps.toList)
  | _ => false
def fine : Nat → PyData → Bool
  | _, .none => true
  | _, .bool _ => true
  | _, .int i => decide (i.natAbs.log2 < 1900)
  | _, .str x => decide (x.length ≤ 100) && PyData.strOk x
  | n + 1, .tuple ps => decide (ps.length ≤ 1000) && ps.all (fine n)
  | n + 1, .list ps => decide (ps.length ≤ 1000) && ps.all (fine n)
  | _, _ => false
theorem fine_str {n : Nat} {x : Str} (h : fine n (.str x) = true) : x.length ≤ 100 ∧ PyData.strOk x = true := by
  cases n <;> simpa [fine] using h
theorem fine_tup {n : Nat} {ps : List PyData} (h : fine n (.tuple ps) = true) : ∃ m, n = m + 1 ∧ ps.length ≤ 1000 ∧ ∀ p ∈ ps, fine m p = true := by
  cases n with
  | zero => simp [fine] at h
  | succ m =>
    simp only [fine, Bool.and_eq_true, decide_eq_true_eq, List.all_eq_true] at h
    exact ⟨m, rfl, h.1, h.2⟩
theorem fine_lst {n : Nat} {ps : List PyData} (h : fine n (.list ps) = true) : ∃ m, n = m + 1 ∧ ps.length ≤ 1000 ∧ ∀ p ∈ ps, fine m p = true := by
  cases n with
  | zero => simp [fine] at h
  | succ m =>
    simp only [fine, Bool.and_eq_true, decide_eq_true_eq, List.all_eq_true] at h
    exact ⟨m, rfl, h.1, h.2⟩
theorem fine_dict {n : Nat} {k} (h : fine n (.dict k) = true) : False := by
  cases n <;> simp [fine] at h
theorem len_lineD {x : Str} (h : x.length ≤ 100) : x.length ≤ lineD := Nat.le_trans h (by decide)
/-- a def's contract that asks nothing and gives nothing -/
theorem fnFalse {P : Program} {w : World} {K : PySem.W.Frag} {mg : Str → Option Value} {base : Heap} {x : Str} {f : Addr} {fd : FuncData} {ps : List Str} {k : Nat} (hm : mg x = some (.ref f)) (kp : PySem.W.keepIn K (.ref f) = true) (hb : Binds K fd ps []) : Fn P w K mg base k x (fun _ _ _ _ => False) [] :=
  ⟨f, fd, ps, [], ⟨fun _ _ _ _ ⟨_, _, _, _, _, _, _, z, _⟩ => z.elim, fun _ _ _ _ _ _ _ _ _ _ _ _ _ ⟨_, _, _, _, _, _, _, z, _⟩ => z.elim⟩, hm, kp, hb, .nil⟩
section
variable {P : Program} {w : World} {K : PySem.W.Frag} {mg : Str → Option Value} {base : Heap}
def cWhole : Con := fun ds S Q _ => ∃ d p, ds = [d] ∧ Sh S d p ∧ Q (.bl (pI p)) S
abbrev s_is_whole : Stmt := topS 10
theorem sc_is_whole : FnScope ["thing"] ["thing"] (defScope s_is_whole) := ⟨rfl, rfl, rfl, by decide +kernel, rfl, by decide +kernel, by decide +kernel⟩
theorem ok_is_whole {f : Addr} {fd : FuncData} (F : Fun K "is_whole" "is_whole" s_is_whole f fd) (hm : mg "is_whole" = some (.ref f)) (hb : Binds K fd ["thing"] []) (B : Blt mg) : Fn P w K mg base 1 "is_whole" cWhole [] := by
  refine defQ F hm hb .nil sc_is_whole (fun ds S Q X ⟨d, p, e, _⟩ => by rw [e]; rfl) fun cdv A outer s H hr => ?_
  have hu1 := hu_of hr; have hu64 := hr.units
  refine ⟨_, (qs_one (q_ret (q_and (q_isi "int" (by rfl) B.isinstance (by rfl) B.int (by decide +kernel) (qv 0)) (q_one (q_not (q_isi "bool" (by rfl) B.isinstance (by rfl) B.bool (by decide +kernel) (qv 0))))))), fun ds S Q X h => ?_⟩
  obtain ⟨d, p, rfl, hT, q⟩ := h
  simp only [wRet, wRetN, wIf, wSeq, wSkip, wBreak, wCont, wNever, wDrop, wAndV, wOrV, wNotV, wIfE, wTest, wAndT, wOrT, wNotT, wUn, wOp, wVar, wC, wCB, wNil, wCons, wTup, wLst, wCall, wCallX, wSl, wNoPart, wPart, wChain, wAsg, wSet, wAug, wPar, wFor, iLst, iTp, iRng, iEn, iSt, gNm, gTp, gNone, gMore, g2, g3, wLc, wYes, wLm, wDGet, wDIn, wDGet2, wDPut, wDNew, wDisp, wPs, wSm0, wSm1, wRev, wMaxD, wRaise, wKeep, gSet]
  refine ⟨d, rfl, shi_int hT (iteB (fun h => ⟨d, rfl, shi_bool hT ?_⟩) fun h => ?_)⟩
  · exact qb q (by cases p <;> simp_all [pI, pB])
  · exact qb q (by cases p <;> simp_all [pI, pB])
abbrev s__law_whole : Stmt := topS 26
theorem sc__law_whole : FnScope ["thing"] ["thing"] (defScope s__law_whole) := ⟨rfl, rfl, rfl, by decide +kernel, rfl, by decide +kernel, by decide +kernel⟩
theorem ok__law_whole {f : Addr} {fd : FuncData} (F : Fun K "_law_whole" "_law_whole" s__law_whole f fd) (hm : mg "_law_whole" = some (.ref f)) (hb : Binds K fd ["thing"] []) (B : Blt mg) : Fn P w K mg base 1 "_law_whole" cWhole [] := by
  refine defQ F hm hb .nil sc__law_whole (fun ds S Q X ⟨d, p, e, _⟩ => by rw [e]; rfl) fun cdv A outer s H hr => ?_
  have hu1 := hu_of hr; have hu64 := hr.units
  refine ⟨_, (qs_one (q_ret (q_and (q_isi "int" (by rfl) B.isinstance (by rfl) B.int (by decide +kernel) (qv 0)) (q_one (q_not (q_isi "bool" (by rfl) B.isinstance (by rfl) B.bool (by decide +kernel) (qv 0))))))), fun ds S Q X h => ?_⟩
  obtain ⟨d, p, rfl, hT, q⟩ := h
  simp only [wRet, wRetN, wIf, wSeq, wSkip, wBreak, wCont, wNever, wDrop, wAndV, wOrV, wNotV, wIfE, wTest, wAndT, wOrT, wNotT, wUn, wOp, wVar, wC, wCB, wNil, wCons, wTup, wLst, wCall, wCallX, wSl, wNoPart, wPart, wChain, wAsg, wSet, wAug, wPar, wFor, iLst, iTp, iRng, iEn, iSt, gNm, gTp, gNone, gMore, g2, g3, wLc, wYes, wLm, wDGet, wDIn, wDGet2, wDPut, wDNew, wDisp, wPs, wSm0, wSm1, wRev, wMaxD, wRaise, wKeep, gSet]
  refine ⟨d, rfl, shi_int hT (iteB (fun h => ⟨d, rfl, shi_bool hT ?_⟩) fun h => ?_)⟩
  · exact qb q (by cases p <;> simp_all [pI, pB])
  · exact qb q (by cases p <;> simp_all [pI, pB])
def cName : Con := fun ds S Q _ => ∃ d p n, ds = [d] ∧ Sh S d p ∧ fine n p = true ∧ ∀ T, Sub S T → Q (.bl (nameP p)) T
/-- all([sign in letters for sign in x]) -/
theorem all_signs {x : Str} {S : Store} {Q : D → Store → Prop} {e0 : Slots} {X : XQ} {i : Nat} (hx : x.length ≤ 100) (q : ∀ T, Sub S T → Q (.bl (x.cps.toList.all fun c => decide (c ∈ letters.cps.toList))) T) {u : WE} (hu : ∀ (c : Nat) (S1 : Store) (R : D → Store → Prop), (∀ b, b = decide (c ∈ letters.cps.toList) → R (.bl b) S1) → u (e0.set i (some (.str ⟨#[c]⟩))) S1 R X) :
    wLcL (gNm i) wYes u e0 (fun _ => True) (fun acc S2 => fAll [.loc S2.length] (S2 ++ [.lst true acc]) Q) X (x.cps.toList.map fun c => .str ⟨#[c]⟩) [] S := by
  have hz : x.cps.toList.length ≤ 100 := hx
  refine lc_map (fun _ S' => S' = S) (fun d => match d with | .str z => .bl (z.cps.toList.all fun c => decide (c ∈ letters.cps.toList)) | _ => .non) rfl (by rw [List.length_map]; exact Nat.le_trans hz (by decide)) (fun _ _ _ => trivial) (fun k d hd S' e R hR => ?_) (fun S' e => ?_)
  · rw [List.getElem?_map] at hd
    cases hc : x.cps.toList[k]? with
    | none => rw [hc] at hd; cases hd
    | some c =>
      rw [hc] at hd
      cases hd
      refine hu c S' R fun b hb => ?_
      have := hR S' e
      rw [hb]
      simpa using this
  · refine ⟨true, _, by rw [last_get], x.cps.toList.map (fun c => decide (c ∈ letters.cps.toList)), ?_, ?_⟩
    · simp [List.map_map, Function.comp_def]
    · have := q (S' ++ [.lst true ((x.cps.toList.map fun c => D.str ⟨#[c]⟩).map fun d => match d with | .str z => .bl (z.cps.toList.all fun c => decide (c ∈ letters.cps.toList)) | _ => .non)]) (by rw [e]; exact Sub.push)
      rw [List.all_map]
      exact this
abbrev s_is_name : Stmt := topS 11
theorem sc_is_name : FnScope ["thing", "sign"] ["thing"] (defScope s_is_name) := ⟨rfl, rfl, rfl, by decide +kernel, rfl, by decide +kernel, by decide +kernel⟩
theorem ok_is_name {f : Addr} {fd : FuncData} (F : Fun K "is_name" "is_name" s_is_name f fd) (hm : mg "is_name" = some (.ref f)) (hb : Binds K fd ["thing"] []) (B : Blt mg) (G : Glb mg) : Fn P w K mg base 1 "is_name" cName [] := by
  refine defQ F hm hb .nil sc_is_name (fun ds S Q X ⟨d, p, _, e, _⟩ => by rw [e]; rfl) fun cdv A outer s H hr => ?_
  have hu1 := hu_of hr; have hu64 := hr.units
  refine ⟨_, (qs_cons (q_if (qt_w (qw_or (qt_not (qt_val (q_isi "str" (by rfl) B.isinstance (by rfl) B.str (by decide +kernel) (qv 0)))) (qw_or (qt_cmp op_lt ro_cmp (q_cb call_len ro_len (by rfl) B.len (by decide +kernel) (qa_cons (qv 0) qa_nil)) q_int (nomark _)) (qw_or1 (qt_cmp op_gt ro_cmp (q_cb call_len ro_len (by rfl) B.len (by decide +kernel) (qa_cons (qv 0) qa_nil)) (q_globI (by rfl) G.LONGEST_NAME) (nomark _)))))) (qs_one (q_ret q_bl)) qs_nil)
      (qs_one (q_ret (q_cb (cr_all rfl) ro_all (by rfl) B.all (by decide +kernel) (qa_cons (q_lc (own := [("sign", 1)]) rfl sc_is_name.nd (qi_str (qv 0)) (blkOk_by (N := ["thing", "sign"]) (sc := defScope s_is_name) (by decide +kernel)) (fun _ _ _ _ _ => (qg_name (i := 1) sc_is_name.nd rfl (.inl rfl))) (fun _ _ _ _ _ => qts_nil) (fun _ _ _ _ _ => (q_cmp op_in_sign (ro_inS (neg := false)) (qv 1) (q_globS (by rfl) G.LETTERS) (by rfl)))) qa_nil))))), fun ds S Q X h => ?_⟩
  obtain ⟨d, p, n, rfl, hT, hf, q⟩ := h
  simp only [wRet, wRetN, wIf, wSeq, wSkip, wBreak, wCont, wNever, wDrop, wAndV, wOrV, wNotV, wIfE, wTest, wAndT, wOrT, wNotT, wUn, wOp, wVar, wC, wCB, wNil, wCons, wTup, wLst, wCall, wCallX, wSl, wNoPart, wPart, wChain, wAsg, wSet, wAug, wPar, wFor, iLst, iTp, iRng, iEn, iSt, gNm, gTp, gNone, gMore, g2, g3, wLc, wYes, wLm, wDGet, wDIn, wDGet2, wDPut, wDNew, wDisp, wPs, wSm0, wSm1, wRev, wMaxD, wRaise, wKeep, gSet]
  refine ⟨d, rfl, shi_str hT ?_⟩
  dsimp only
  refine iteB (fun h => ?_) fun h => ?_
  · rw [if_pos trivial]
    exact qb (q _ Sub.refl) (by cases p <;> simp_all [pS, nameP])
  · cases hT with
    | str x =>
      have hl := (fine_str hf).1
      refine ⟨_, rfl, len_lineD hl, ?_⟩
      show if decide ((x.length : Int) < 1) = true then _ else _
      refine iteB (fun h1 => ?_) fun h1 => ?_
      · rw [if_pos trivial]
        refine qb (q _ Sub.refl) ?_
        have : ¬ 1 ≤ x.length := by have := of_decide_eq_true h1; omega
        simp [nameP, this]
      · refine ⟨_, rfl, len_lineD hl, ?_⟩
        show if decide ((8 : Int) < x.length) = true then _ else _
        refine iteB (fun h2 => ?_) fun h2 => ?_
        · refine qb (q _ Sub.refl) ?_
          have : ¬ x.length ≤ 8 := by have := of_decide_eq_true h2; omega
          simp [nameP, this]
        · refine ⟨_, rfl, ?_⟩
          have e1 : 1 ≤ x.length := by have := of_decide_eq_false h1; omega
          have e2 : x.length ≤ 8 := by have := of_decide_eq_false h2; omega
          exact all_signs (i := 1) hl (fun T hT => qb (q T hT) (by simp [nameP, e1, e2])) fun c S1 R hR => ⟨_, rfl, c, rfl, hR _ rfl⟩
    | _ => simp [pS] at h
abbrev s__law_is_name : Stmt := topS 25
theorem sc__law_is_name : FnScope ["thing", "letters", "sign"] ["thing"] (defScope s__law_is_name) := ⟨rfl, rfl, rfl, by decide +kernel, rfl, by decide +kernel, by decide +kernel⟩
theorem ok__law_is_name {f : Addr} {fd : FuncData} (F : Fun K "_law_is_name" "_law_is_name" s__law_is_name f fd) (hm : mg "_law_is_name" = some (.ref f)) (hb : Binds K fd ["thing"] []) (B : Blt mg) (G : Glb mg) : Fn P w K mg base 1 "_law_is_name" cName [] := by
  refine defQ F hm hb .nil sc__law_is_name (fun ds S Q X ⟨d, p, _, e, _⟩ => by rw [e]; rfl) fun cdv A outer s H hr => ?_
  have hu1 := hu_of hr; have hu64 := hr.units
  refine ⟨_, (qs_cons (q_set (i := 1) sc__law_is_name.nd rfl (.inr rfl) q_str)
      (qs_one (q_ret (q_and (q_isi "str" (by rfl) B.isinstance (by rfl) B.str (by decide +kernel) (qv 0)) (q_and (q_chain op_le ro_cmp op_le ro_cmp q_int (q_cb call_len ro_len (by rfl) B.len (by decide +kernel) (qa_cons (qv 0) qa_nil)) q_int) (q_one (q_cb (cr_all rfl) ro_all (by rfl) B.all (by decide +kernel) (qa_cons (q_lc (own := [("sign", 2)]) rfl sc__law_is_name.nd (qi_str (qv 0)) (blkOk_by (N := ["thing", "letters", "sign"]) (sc := defScope s__law_is_name) (by decide +kernel)) (fun _ _ _ _ _ => (qg_name (i := 2) sc__law_is_name.nd rfl (.inl rfl))) (fun _ _ _ _ _ => qts_nil) (fun _ _ _ _ _ => (q_cmp op_in_sign (ro_inS (neg := false)) (qv 2) (qv 1) (by rfl)))) qa_nil)))))))), fun ds S Q X h => ?_⟩
  obtain ⟨d, p, n, rfl, hT, hf, q⟩ := h
  simp only [wRet, wRetN, wIf, wSeq, wSkip, wBreak, wCont, wNever, wDrop, wAndV, wOrV, wNotV, wIfE, wTest, wAndT, wOrT, wNotT, wUn, wOp, wVar, wC, wCB, wNil, wCons, wTup, wLst, wCall, wCallX, wSl, wNoPart, wPart, wChain, wAsg, wSet, wAug, wPar, wFor, iLst, iTp, iRng, iEn, iSt, gNm, gTp, gNone, gMore, g2, g3, wLc, wYes, wLm, wDGet, wDIn, wDGet2, wDPut, wDNew, wDisp, wPs, wSm0, wSm1, wRev, wMaxD, wRaise, wKeep, gSet]
  refine ⟨d, rfl, shi_str hT ?_⟩
  dsimp only
  refine iteB (fun h => ?_) fun h => ?_
  · cases hT with
    | str x =>
      have hl := (fine_str hf).1
      refine ⟨_, rfl, len_lineD hl, ?_⟩
      show if decide ((1 : Int) ≤ x.length) = true then _ else _
      refine iteB (fun h1 => ?_) fun h1 => ?_
      · show if decide ((x.length : Int) ≤ 8) = true then _ else _
        have e1 : 1 ≤ x.length := by have := of_decide_eq_true h1; omega
        refine iteB (fun h2 => ?_) fun h2 => ?_
        · have e2 : x.length ≤ 8 := by have := of_decide_eq_true h2; omega
          refine ⟨_, rfl, ?_⟩
          exact all_signs (i := 2) hl (fun T hT => qb (q T hT) (by simp [nameP, e1, e2])) fun c S1 R hR => ⟨_, rfl, _, rfl, c, rfl, hR _ rfl⟩
        · refine qb (q _ Sub.refl) ?_
          have : ¬ x.length ≤ 8 := by have := of_decide_eq_false h2; omega
          simp [nameP, this]
      · rw [if_neg (by simp)]
        refine qb (q _ Sub.refl) ?_
        have : ¬ 1 ≤ x.length := by have := of_decide_eq_false h1; omega
        simp [nameP, this]
    | _ => simp [pS] at h
  · exact qb (q _ Sub.refl) (by cases p <;> simp_all [pS, nameP])
end
end K78
set_option Elab.async false
set_option linter.all false
set_option maxRecDepth 100000
set_option maxHeartbeats 4000000
namespace K78
open PySem PySem.Spec PyProof.Rows L2 Qd
def partsL (f : PyData → Nat) : List PyData → Nat → Nat
  | [], m => m
  | p :: ps, m => if f p = 0 ∨ 1000 < m + f p then 0 else partsL f ps (m + f p)
def partsP : Nat → PyData → Nat
  | 0, _ => 0
  | r + 1, p => match p with
    | .int i => if 0 ≤ i ∧ i ≤ 999 then 1 else 0
    | .tuple (n :: ps) => if nameP n = true ∧ ps.length ≤ 9 then partsL (partsP r) ps 1 else 0
    | _ => 0
section
variable {P : Program} {w : World} {K : PySem.W.Frag} {mg : Str → Option Value} {base : Heap}
def cParts (r : Nat) : Con := fun ds S Q _ => ∃ d p n m, ds = [d, .int ((m : Nat) : Int)] ∧ m ≤ r ∧ Sh S d p ∧ fine n p = true ∧ ∀ T, Sub S T → Q (.int ((partsP m p : Nat) : Int)) T
abbrev s_parts_within : Stmt := topS 12
theorem sc_parts_within : FnScope ["thing", "room", "many", "place", "more"] ["thing", "room"] (defScope s_parts_within) := ⟨rfl, rfl, rfl, by decide +kernel, rfl, by decide +kernel, by decide +kernel⟩
theorem ok_parts_within {f : Addr} {fd : FuncData} (F : Fun K "parts_within" "parts_within" s_parts_within f fd) (hm : mg "parts_within" = some (.ref f)) (hb : Binds K fd ["thing", "room"] []) (B : Blt mg) (G : Glb mg) (C_is_whole : Fn P w K mg base 1 "is_whole" cWhole []) (C_is_name : Fn P w K mg base 1 "is_name" cName []) : ∀ r, Fn P w K mg base (r + 2) "parts_within" (cParts r) [] := by
  have main : ∀ r, (∀ k, k + 1 ≤ r + 1 → k = r → ∃ c, Fn P w K mg base (k + 1) "parts_within" c [] ∧ ∀ r', r = r' + 1 → c = cParts r') → Fn P w K mg base (r + 2) "parts_within" (cParts r) [] := by
    intro r ih
    obtain ⟨c, C_parts_within, hc⟩ := ih r (Nat.le_refl _) rfl
    refine defQ F hm hb .nil sc_parts_within (fun ds S Q X ⟨d, p, n, m, e, _⟩ => by rw [e]; rfl) fun cdv A outer s H hr => ?_
    have hu1 := hu_of hr; have hu64 := hr.units
    refine ⟨_, (qs_cons (q_if (qt_cmp (op_eq2 hu64) ro_eq (qv 1) q_int (nomark _)) (qs_one (q_ret q_int)) qs_nil)
      (qs_cons (q_if (qt_val (q_c (dds := []) C_is_whole hr (by first | decide | omega) (by rfl) (qa_cons (qv 0) qa_nil))) (qs_one (q_ret (q_ct call_int1 ro_int (by rfl) B.int (by decide +kernel) (qa_cons (q_chain op_le ro_cmp op_le ro_cmp q_int (qv 0) (q_globI (by rfl) G.MOST_BLANK)) qa_nil)))) qs_nil)
      (qs_cons (q_if (qt_w (qw_or (qt_not (qt_val (q_isi "tuple" (by rfl) B.isinstance (by rfl) B.tuple (by decide +kernel) (qv 0)))) (qw_or (qt_cmp op_lt ro_cmp (q_cb call_len ro_len (by rfl) B.len (by decide +kernel) (qa_cons (qv 0) qa_nil)) q_int (nomark _)) (qw_or (qt_cmp op_gt ro_cmp (q_cb call_len ro_len (by rfl) B.len (by decide +kernel) (qa_cons (qv 0) qa_nil)) (q_op op_add4 ro_add q_int (q_globI (by rfl) G.MOST_PLACES_terms)) (nomark _)) (qw_or1 (qt_not (qt_val (q_c (dds := []) C_is_name hr (by first | decide | omega) (by rfl) (qa_cons (q_ix ix_seq ro_ix (qv 0) q_int) qa_nil))))))))) (qs_one (q_ret q_int)) qs_nil)
      (qs_cons (q_set (i := 2) sc_parts_within.nd rfl (.inl rfl) q_int)
      (qs_cons (q_for (vs := [3]) PassesOwn.never rfl (qi_tup (q_sl sl_3 ro_sl (qv 0) (qo_some q_int) qo_none)) (qg_name (i := 3) sc_parts_within.nd rfl (.inl rfl)) (qs_cons (q_set (i := 4) sc_parts_within.nd rfl (.inl rfl) (q_c (dds := []) C_parts_within hr (by first | decide | omega) (by rfl) (qa_cons (qv 3) (qa_cons (q_op op_sub ro_sub (qv 1) q_int) qa_nil))))
      (qs_cons (q_aug (i := 2) sc_parts_within.nd rfl (.inl rfl) ip_add ro_ipadd (qv 4))
      (qs_one (q_if (qt_w (qw_or (qt_cmp (op_eq2 hu64) ro_eq (qv 4) q_int (nomark _)) (qw_or1 (qt_cmp op_gt ro_cmp (qv 2) (q_globI (by rfl) G.MOST_PARTS) (nomark _))))) (qs_one (q_ret q_int)) qs_nil)))))
      (qs_one (q_ret (qv 2)))))))), fun ds S Q X h => ?_⟩
    obtain ⟨d, p, n, m, rfl, hmr, hT, hf, q⟩ := h
    simp only [wRet, wRetN, wIf, wSeq, wSkip, wBreak, wCont, wNever, wDrop, wAndV, wOrV, wNotV, wIfE, wTest, wAndT, wOrT, wNotT, wUn, wOp, wVar, wC, wCB, wNil, wCons, wTup, wLst, wCall, wCallX, wSl, wNoPart, wPart, wChain, wAsg, wSet, wAug, wPar, wFor, iLst, iTp, iRng, iEn, iSt, gNm, gTp, gNone, gMore, g2, g3, wLc, wYes, wLm, wDGet, wDIn, wDGet2, wDPut, wDNew, wDisp, wPs, wSm0, wSm1, wRev, wMaxD, wRaise, wKeep, gSet]
    refine ⟨_, rfl, ?_⟩
    show if decide (((m : Nat) : Int) = 0) = true then _ else _
    refine iteB (fun h0 => ?_) fun h0 => ?_
    · have e0 : m = 0 := by have := of_decide_eq_true h0; omega
      subst e0
      exact q _ Sub.refl
    · obtain ⟨m', rfl⟩ : ∃ m', m = m' + 1 := ⟨m - 1, by have := of_decide_eq_false h0; omega⟩
      obtain ⟨r', rfl⟩ : ∃ r', r = r' + 1 := ⟨r - 1, by omega⟩
      have := hc r' rfl
      subst this
      refine ⟨d, rfl, d, p, rfl, hT, ?_⟩
      dsimp only
      refine iteB (fun h1 => ?_) fun h1 => ?_
      · cases hT with
        | int i =>
          refine ⟨_, rfl, ?_⟩
          show if decide ((0 : Int) ≤ i) = true then (fInt [.bl (decide (i ≤ 999))] S Q) else _
          have fin : ∀ b : Bool, b = decide (0 ≤ i ∧ i ≤ 999) → Q (.int (if b then 1 else 0)) S := fun b e => by
            refine qc (q _ Sub.refl) ?_
            subst e
            by_cases hh : 0 ≤ i ∧ i ≤ 999
            · simp [partsP, hh]
            · simp [partsP, hh]
          refine iteB (fun h3 => ?_) fun h3 => ?_
          · have h3 := of_decide_eq_true h3
            exact fin _ (by simp [h3])
          · have h3 := of_decide_eq_false h3
            exact fin false (by simp [h3])
        | _ => simp [pI] at h1
      · refine ⟨d, rfl, shi_tup hT ?_⟩
        dsimp only
        refine iteB (fun h2 => ?_) fun h2 => ?_
        · rw [if_pos trivial]
          refine qc (q _ Sub.refl) ?_
          cases p <;> simp_all [pT, pI, partsP]
        · cases hT with
          | tup hs =>
            obtain ⟨n', rfl, hlen, hall⟩ := fine_tup hf
            rename_i dl pl
            refine ⟨_, rfl, ?_⟩
            show if decide ((dl.length : Int) < 1) = true then _ else _
            refine iteB (fun h3 => ?_) fun h3 => ?_
            · rw [if_pos trivial]
              have h3 := of_decide_eq_true h3
              cases hs with
              | nil => exact q _ Sub.refl
              | cons _ _ => simp at h3; omega
            · have h3 := of_decide_eq_false h3
              cases hs with
              | nil => simp at h3
              | @cons d0 p0 dr pr s0 ss =>
                have hlr := ss.len
                refine ⟨_, rfl, ?_⟩
                show if decide ((1 : Int) + 9 < ((d0 :: dr).length : Int)) = true then _ else _
                refine iteB (fun h4 => ?_) fun h4 => ?_
                · rw [if_pos trivial]
                  have h4 := of_decide_eq_true h4
                  have : ¬ pr.length ≤ 9 := by simp at h4; omega
                  exact qc (q _ Sub.refl) (by simp [partsP, this])
                · have h4 := of_decide_eq_false h4
                  have l9 : pr.length ≤ 9 := by simp at h4; omega
                  refine ⟨_, rfl, d0, atN (k := 0) rfl, d0, p0, n', rfl, s0, hall _ List.mem_cons_self, fun T hT => ?_⟩
                  dsimp only
                  refine iteB (fun h5 => ?_) fun h5 => ?_
                  · refine qc (q _ hT) ?_
                    have : nameP p0 = false := by simpa using h5
                    simp [partsP, this]
                  · have hn : nameP p0 = true := by simpa using h5
                    refine ⟨_, rfl, ?_⟩
                    show wLoop _ _ _ _ _ (Qd.cutD (d0 :: dr) (some 1) none) _ _
                    rw [cut1]
                    have hpp : partsP (m' + 1) (.tuple (p0 :: pr)) = partsL (partsP m') pr 1 := by simp [partsP, hn, l9]
                    rw [hpp] at q
                    refine loop_by (fun i e S' => ∃ (many : Nat) (x3 x4 : Option D), e = [some (.tup (d0 :: dr)), some (.int ((m' + 1 : Nat) : Int)), some (.int (many : Nat)), x3, x4] ∧ Sub S S' ∧ partsL (partsP m') (pr.drop i) many = partsL (partsP m') pr 1) ⟨1, none, none, rfl, hT, by simp⟩ (fun _ _ _ _ => trivial) (fun i d hd e S' ⟨many, x3, x4, he, hS, hm⟩ R hR => ?_) (fun e S' ⟨many, x3, x4, he, hS, hm⟩ => ?_)
                    · subst he
                      obtain ⟨pi, hpi, si⟩ := ss.getD hd
                      have hdrop : pr.drop i = pi :: pr.drop (i + 1) := by
                        have hi := (List.getElem?_eq_some_iff.mp hpi)
                        rw [List.drop_eq_getElem_cons hi.1, hi.2]
                      rw [hdrop] at hm
                      simp only [wRet, wRetN, wIf, wSeq, wSkip, wBreak, wCont, wNever, wDrop, wAndV, wOrV, wNotV, wIfE, wTest, wAndT, wOrT, wNotT, wUn, wOp, wVar, wC, wCB, wNil, wCons, wTup, wLst, wCall, wCallX, wSl, wNoPart, wPart, wChain, wAsg, wSet, wAug, wPar, wFor, iLst, iTp, iRng, iEn, iSt, gNm, gTp, gNone, gMore, g2, g3, wLc, wYes, wLm, wDGet, wDIn, wDGet2, wDPut, wDNew, wDisp, wPs, wSm0, wSm1, wRev, wMaxD, wRaise, wKeep, gSet]
                      refine ⟨d, rfl, _, rfl, d, pi, n', m', ?_, by omega, sh_mono hS si, hall _ (List.mem_cons_of_mem _ (List.mem_of_getElem? hpi)), fun T2 hT2 => ?_⟩
                      · show [d, D.int (((m' + 1 : Nat) : Int) - 1)] ++ [] = _
                        simp
                      · refine ⟨_, rfl, _, rfl, ?_⟩
                        refine ⟨_, rfl, ?_⟩
                        show if decide (((partsP m' pi : Nat) : Int) = 0) = true then _ else _
                        refine iteB (fun h6 => ?_) fun h6 => ?_
                        · rw [if_pos trivial]
                          have h6 : partsP m' pi = 0 := by have := of_decide_eq_true h6; omega
                          refine qc (q _ (hS.trans hT2)) ?_
                          rw [← hm]
                          simp [partsL, h6]
                        · have h6 : ¬ partsP m' pi = 0 := by have := of_decide_eq_false h6; omega
                          refine ⟨_, rfl, ?_⟩
                          show if decide ((1000 : Int) < (many : Int) + (partsP m' pi : Nat)) = true then _ else _
                          refine iteB (fun h7 => ?_) fun h7 => ?_
                          · have h7 : 1000 < many + partsP m' pi := by have := of_decide_eq_true h7; omega
                            refine qc (q _ (hS.trans hT2)) ?_
                            rw [← hm]
                            simp [partsL, h7]
                          · have h7 : ¬ 1000 < many + partsP m' pi := by have := of_decide_eq_false h7; omega
                            refine hR _ _ ⟨many + partsP m' pi, some d, some (.int ((partsP m' pi : Nat) : Int)), ?_, hS.trans hT2, ?_⟩
                            · rw [Int.natCast_add]
                              rfl
                            · rw [← hm]
                              simp [partsL, h6, h7]
                    · subst he
                      refine ⟨_, rfl, ?_⟩
                      refine qc (q _ hS) ?_
                      rw [← hm, hlr, List.drop_length]
                      rfl
          | _ => simp [pT] at h2
  intro r
  induction r with
  | zero => exact main 0 fun k _ e => ⟨_, fnFalse hm F.kp hb, fun r' e => by omega⟩
  | succ r ih => exact main (r + 1) fun k _ e => ⟨cParts r, by rw [e]; exact ih, fun r' e => by cases e; rfl⟩
end
end K78
set_option Elab.async false
set_option linter.all false
set_option maxRecDepth 100000
set_option maxHeartbeats 4000000
namespace K78
open PySem PySem.Spec PyProof.Rows L2 Qd
def termP (p : PyData) : Bool := decide (0 < partsP 60 p)
def lineP (m : Nat) (p : PyData) : Bool := match p with | .int i => decide (0 ≤ i ∧ i < (m : Int)) | _ => false
def linesP (ps : List PyData) (m : Nat) : Bool := ps.all (lineP m)
def lineD' (m : Nat) (d : D) : Bool := match d with | .int i => decide (0 ≤ i ∧ i < (m : Int)) | _ => false
theorem lines_eq {S : Store} {m : Nat} : ∀ {dl : List D} {pl : List PyData}, Shs S dl pl → (dl.map (lineD' m)).all id = linesP pl m
  | _, _, .nil => rfl
  | _, _, .cons a b => by
    have := lines_eq (m := m) b
    simp only [linesP, List.map_cons, List.all_cons] at this ⊢
    rw [this]
    congr 1
    cases a <;> rfl
section
variable {P : Program} {w : World} {K : PySem.W.Frag} {mg : Str → Option Value} {base : Heap}
def cTerm : Con := fun ds S Q _ => ∃ d p n, ds = [d] ∧ Sh S d p ∧ fine n p = true ∧ ∀ T, Sub S T → Q (.bl (termP p)) T
abbrev s_is_term : Stmt := topS 13
theorem sc_is_term : FnScope ["thing"] ["thing"] (defScope s_is_term) := ⟨rfl, rfl, rfl, by decide +kernel, rfl, by decide +kernel, by decide +kernel⟩
theorem ok_is_term {f : Addr} {fd : FuncData} (F : Fun K "is_term" "is_term" s_is_term f fd) (hm : mg "is_term" = some (.ref f)) (hb : Binds K fd ["thing"] []) (B : Blt mg) (G : Glb mg) (C_parts_within : Fn P w K mg base 62 "parts_within" (cParts 60) []) : Fn P w K mg base 63 "is_term" cTerm [] := by
  refine defQ F hm hb .nil sc_is_term (fun ds S Q X ⟨d, p, n, e, _⟩ => by rw [e]; rfl) fun cdv A outer s H hr => ?_
  have hu1 := hu_of hr; have hu64 := hr.units
  refine ⟨_, (qs_one (q_ret (q_cmp op_gt ro_cmp (q_c (dds := []) C_parts_within hr (by first | decide | omega) (by rfl) (qa_cons (qv 0) (qa_cons (q_globI (by rfl) G.MOST_LEVELS) qa_nil))) q_int (nomark _)))), fun ds S Q X h => ?_⟩
  obtain ⟨d, p, n, rfl, hT, hf, q⟩ := h
  simp only [wRet, wRetN, wIf, wSeq, wSkip, wBreak, wCont, wNever, wDrop, wAndV, wOrV, wNotV, wIfE, wTest, wAndT, wOrT, wNotT, wUn, wOp, wVar, wC, wCB, wNil, wCons, wTup, wLst, wCall, wCallX, wSl, wNoPart, wPart, wChain, wAsg, wSet, wAug, wPar, wFor, iLst, iTp, iRng, iEn, iSt, gNm, gTp, gNone, gMore, g2, g3, wLc, wYes, wLm, wDGet, wDIn, wDGet2, wDPut, wDNew, wDisp, wPs, wSm0, wSm1, wRev, wMaxD, wRaise, wKeep, gSet]
  refine ⟨d, rfl, d, p, n, 60, rfl, Nat.le_refl _, hT, hf, fun T hS => ?_⟩
  refine qb (q T hS) ?_
  simp [termP]
def cLines : Con := fun ds S Q _ => ∃ d dl pl m, ds = [d, .int ((m : Nat) : Int)] ∧ (d = .tup dl ∨ ∃ n, d = .loc n ∧ S[n]? = some (.lst true dl)) ∧ Shs S dl pl ∧ pl.length ≤ 1000 ∧ ∀ T, Sub S T → Q (.bl (linesP pl m)) T
theorem all_lines {dl : List D} {pl : List PyData} {m : Nat} {S : Store} {Q : D → Store → Prop} {e0 : Slots} {X : XQ} {i : Nat} {still : Store → Prop} (ss : Shs S dl pl) (hl : pl.length ≤ 1000) (hst : ∀ T, Sub S T → still T) (q : ∀ T, Sub S T → Q (.bl (linesP pl m)) T) {u : WE}
    (hu : ∀ (d : D) (p : PyData) (S1 : Store) (R : D → Store → Prop), Sh S1 d p → R (.bl (lineD' m d)) S1 → u (e0.set i (some d)) S1 R X) :
    wLcL (gNm i) wYes u e0 still (fun acc S2 => fAll [.loc S2.length] (S2 ++ [.lst true acc]) Q) X dl [] S := by
  refine lc_map (fun _ S' => S' = S) (fun d => .bl (lineD' m d)) rfl (by rw [ss.len]; exact Nat.le_trans hl (by decide)) (fun _ S' e => hst _ (by rw [e]; exact Sub.refl)) (fun k d hd S' e R hR => ?_) (fun S' e => ?_)
  · subst e
    obtain ⟨p, _, sp⟩ := ss.getD hd
    exact hu d p S' R sp (hR S' rfl)
  · subst e
    refine ⟨true, _, last_get, dl.map (lineD' m), by simp [List.map_map, Function.comp_def], ?_⟩
    rw [lines_eq ss]
    exact q _ Sub.push
theorem line_body {e : Slots} {d : D} {p : PyData} {m : Nat} {S1 : Store} {R : D → Store → Prop} {X : XQ} (h2 : e[2]? = some (some d)) (h1 : e[1]? = some (some (.int (m : Int)))) (sp : Sh S1 d p) (hR : R (.bl (lineD' m d)) S1) :
    wAndV (wCall cWhole [] (wCons (wVar 2) wNil)) (wChain (fCmp fun i j => decide (i ≤ j)) (fCmp fun i j => decide (i < j)) (wC (.int 0)) (wVar 2) (wVar 1)) e S1 R X := by
  simp only [wRet, wRetN, wIf, wSeq, wSkip, wBreak, wCont, wNever, wDrop, wAndV, wOrV, wNotV, wIfE, wTest, wAndT, wOrT, wNotT, wUn, wOp, wVar, wC, wCB, wNil, wCons, wTup, wLst, wCall, wCallX, wSl, wNoPart, wPart, wChain, wAsg, wSet, wAug, wPar, wFor, iLst, iTp, iRng, iEn, iSt, gNm, gTp, gNone, gMore, g2, g3, wLc, wYes, wLm, wDGet, wDIn, wDGet2, wDPut, wDNew, wDisp, wPs, wSm0, wSm1, wRev, wMaxD, wRaise, wKeep, gSet]
  refine ⟨d, h2, d, p, rfl, sp, ?_⟩
  dsimp only
  refine iteB (fun h3 => ?_) fun h3 => ?_
  · cases sp with
    | int i =>
      refine ⟨_, h2, ?_⟩
      show if decide ((0 : Int) ≤ i) = true then _ else _
      refine iteB (fun h4 => ?_) fun h4 => ?_
      · refine ⟨_, h1, ?_⟩
        show R (.bl (decide (i < (m : Int)))) S1
        have h4 := of_decide_eq_true h4
        exact qb hR (by simp [lineD', h4])
      · have h4 := of_decide_eq_false h4
        exact qb hR (by simp [lineD', h4])
    | _ => simp [pI] at h3
  · cases sp <;> first
      | (simp [pI] at h3; done)
      | exact hR
abbrev s_are_lines : Stmt := topS 16
theorem sc_are_lines : FnScope ["numbers", "many", "k"] ["numbers", "many"] (defScope s_are_lines) := ⟨rfl, rfl, rfl, by decide +kernel, rfl, by decide +kernel, by decide +kernel⟩
theorem ok_are_lines {f : Addr} {fd : FuncData} (F : Fun K "are_lines" "are_lines" s_are_lines f fd) (hm : mg "are_lines" = some (.ref f)) (hb : Binds K fd ["numbers", "many"] []) (B : Blt mg) (G : Glb mg) (C_is_whole : Fn P w K mg base 1 "is_whole" cWhole []) : Fn P w K mg base 2 "are_lines" cLines [] := by
  refine defQ F hm hb .nil sc_are_lines (fun ds S Q X ⟨d, p, n, m, e, _⟩ => by rw [e]; rfl) fun cdv A outer s H hr => ?_
  have hu1 := hu_of hr; have hu64 := hr.units
  refine ⟨_, (qs_one (q_ret (q_cb (cr_all rfl) ro_all (by rfl) B.all (by decide +kernel) (qa_cons (q_lc (own := [("k", 2)]) rfl sc_are_lines.nd (qi_or (qi_list (qv 0)) (qi_tup (qv 0))) (blkOk_by (N := ["numbers", "many", "k"]) (sc := defScope s_are_lines) (by decide +kernel)) (fun _ _ _ _ _ => (qg_name (i := 2) sc_are_lines.nd rfl (.inl rfl))) (fun _ _ _ _ _ => qts_nil) (fun _ _ _ _ _ => (q_and (q_c (dds := []) C_is_whole hr (by first | decide | omega) (by rfl) (qa_cons (qv 2) qa_nil)) (q_one (q_chain op_le ro_cmp op_lt ro_cmp q_int (qv 2) (qv 1)))))) qa_nil)))), fun ds S Q X h => ?_⟩
  obtain ⟨d, dl, pl, m, rfl, hd, ss, hl, q⟩ := h
  simp only [wRet, wRetN, wIf, wSeq, wSkip, wBreak, wCont, wNever, wDrop, wAndV, wOrV, wNotV, wIfE, wTest, wAndT, wOrT, wNotT, wUn, wOp, wVar, wC, wCB, wNil, wCons, wTup, wLst, wCall, wCallX, wSl, wNoPart, wPart, wChain, wAsg, wSet, wAug, wPar, wFor, iLst, iTp, iRng, iEn, iSt, gNm, gTp, gNone, gMore, g2, g3, wLc, wYes, wLm, wDGet, wDIn, wDGet2, wDPut, wDNew, wDisp, wPs, wSm0, wSm1, wRev, wMaxD, wRaise, wKeep, gSet]
  rcases hd with rfl | ⟨n, rfl, hn⟩
  · refine .inr ⟨_, rfl, all_lines (i := 2) (m := m) ss hl (fun _ _ => trivial) q fun d p S1 R sp hR => line_body rfl rfl sp hR⟩
  · refine .inl ⟨_, rfl, true, dl, hn, all_lines (i := 2) (m := m) ss hl (fun T hT => ⟨_, hT _ _ hn⟩) q fun d p S1 R sp hR => line_body rfl rfl sp hR⟩
abbrev s__law_are_lines : Stmt := topS 28
theorem sc__law_are_lines : FnScope ["some", "many", "k"] ["some", "many"] (defScope s__law_are_lines) := ⟨rfl, rfl, rfl, by decide +kernel, rfl, by decide +kernel, by decide +kernel⟩
theorem ok__law_are_lines {f : Addr} {fd : FuncData} (F : Fun K "_law_are_lines" "_law_are_lines" s__law_are_lines f fd) (hm : mg "_law_are_lines" = some (.ref f)) (hb : Binds K fd ["some", "many"] []) (B : Blt mg) (G : Glb mg) (C__law_whole : Fn P w K mg base 1 "_law_whole" cWhole []) : Fn P w K mg base 2 "_law_are_lines" cLines [] := by
  refine defQ F hm hb .nil sc__law_are_lines (fun ds S Q X ⟨d, p, n, m, e, _⟩ => by rw [e]; rfl) fun cdv A outer s H hr => ?_
  have hu1 := hu_of hr; have hu64 := hr.units
  refine ⟨_, (qs_one (q_ret (q_cb (cr_all rfl) ro_all (by rfl) B.all (by decide +kernel) (qa_cons (q_lc (own := [("k", 2)]) rfl sc__law_are_lines.nd (qi_or (qi_list (qv 0)) (qi_tup (qv 0))) (blkOk_by (N := ["some", "many", "k"]) (sc := defScope s__law_are_lines) (by decide +kernel)) (fun _ _ _ _ _ => (qg_name (i := 2) sc__law_are_lines.nd rfl (.inl rfl))) (fun _ _ _ _ _ => qts_nil) (fun _ _ _ _ _ => (q_and (q_c (dds := []) C__law_whole hr (by first | decide | omega) (by rfl) (qa_cons (qv 2) qa_nil)) (q_one (q_chain op_le ro_cmp op_lt ro_cmp q_int (qv 2) (qv 1)))))) qa_nil)))), fun ds S Q X h => ?_⟩
  obtain ⟨d, dl, pl, m, rfl, hd, ss, hl, q⟩ := h
  simp only [wRet, wRetN, wIf, wSeq, wSkip, wBreak, wCont, wNever, wDrop, wAndV, wOrV, wNotV, wIfE, wTest, wAndT, wOrT, wNotT, wUn, wOp, wVar, wC, wCB, wNil, wCons, wTup, wLst, wCall, wCallX, wSl, wNoPart, wPart, wChain, wAsg, wSet, wAug, wPar, wFor, iLst, iTp, iRng, iEn, iSt, gNm, gTp, gNone, gMore, g2, g3, wLc, wYes, wLm, wDGet, wDIn, wDGet2, wDPut, wDNew, wDisp, wPs, wSm0, wSm1, wRev, wMaxD, wRaise, wKeep, gSet]
  rcases hd with rfl | ⟨n, rfl, hn⟩
  · refine .inr ⟨_, rfl, all_lines (i := 2) (m := m) ss hl (fun _ _ => trivial) q fun d p S1 R sp hR => line_body rfl rfl sp hR⟩
  · refine .inl ⟨_, rfl, true, dl, hn, all_lines (i := 2) (m := m) ss hl (fun T hT => ⟨_, hT _ _ hn⟩) q fun d p S1 R sp hR => line_body rfl rfl sp hR⟩
end
end K78
set_option Elab.async false
set_option linter.all false
set_option maxRecDepth 100000
set_option maxHeartbeats 4000000
namespace K78
open PySem PySem.Spec PyProof.Rows L2 Qd
def prD (z : Nat × Nat) : D := .tup [.int ((z.1 : Nat) : Int), .int ((z.2 : Nat) : Int)]
def prP (z : Nat × Nat) : PyData := .tuple [.int ((z.1 : Nat) : Int), .int ((z.2 : Nat) : Int)]
def maxN (l : List Nat) : Nat := l.foldr max 0
def joinZ (zs : List (Nat × Nat)) : Nat × Nat :=
  if (0, 0) ∈ zs then (0, 0) else if 1 + maxN (zs.map (·.1)) ≤ 60 ∧ 1 + (zs.map (·.2)).sum ≤ 1000 then (1 + maxN (zs.map (·.1)), 1 + (zs.map (·.2)).sum) else (0, 0)
def sizesP : Nat → PyData → Nat × Nat
  | n, p => match n, p with
    | _, .int i => if 0 ≤ i ∧ i ≤ 999 then (1, 1) else (0, 0)
    | n + 1, .tuple (q :: ps) => if nameP q = true ∧ ps.length ≤ 9 then joinZ (ps.map (sizesP n)) else (0, 0)
    | _, _ => (0, 0)
theorem pys_pr {S : Store} : ∀ zs : List (Nat × Nat), Pys S (zs.map prD) (zs.map prP)
  | [] => .nil
  | z :: zs => .cons (.tup (.cons (.int _) (.cons (.int _) .nil))) (pys_pr zs)
theorem lay_pr : ∀ zs : List (Nat × Nat), PyData.canLayAll0 (zs.map prP) = true
  | [] => rfl
  | z :: zs => by rw [List.map_cons, PyData.canLayAll0, lay_pr zs]; rfl
theorem dep_pr : ∀ zs : List (Nat × Nat), PyData.depthAll (zs.map prP) ≤ 1
  | [] => by simp [PyData.depthAll]
  | z :: zs => by
    rw [List.map_cons, PyData.depthAll]
    have := dep_pr zs
    have h : (prP z).depth = 1 := rfl
    omega
theorem shaped_pr (zs : List (Nat × Nat)) : SeqAt.shaped (.list (zs.map prP)) = true := by
  unfold SeqAt.shaped
  have := dep_pr zs
  rw [PyData.canLay0, lay_pr, PyData.depth]
  simp
  omega
theorem eqv_pr (z : Nat × Nat) : PyData.eqv (prP z) (.tuple [.int 0, .int 0]) = decide (z = (0, 0)) := by
  obtain ⟨a, b⟩ := z
  simp only [prP, PyData.eqv, PyData.eqvAll, Bool.and_true]
  by_cases h : a = 0 <;> by_cases h2 : b = 0 <;> simp [h, h2] <;> omega
theorem any_pr : ∀ zs : List (Nat × Nat), ((zs.map prP).any fun z => PyData.eqv z (.tuple [.int 0, .int 0])) = decide ((0, 0) ∈ zs)
  | [] => rfl
  | z :: zs => by
    rw [List.map_cons, List.any_cons, any_pr zs, eqv_pr]
    by_cases h : z = (0, 0)
    · simp [h]
    · have h' : ¬ (0, 0) = z := fun e => h e.symm
      simp [h, h']
theorem fold_max : ∀ (l : List Nat) (a : Nat), (l.map fun n : Nat => ((n : Nat) : Int)).foldl (fun a y => if a < y then y else a) ((a : Nat) : Int) = ((max a (maxN l) : Nat) : Int)
  | [], a => by simp [maxN]
  | n :: l, a => by
    rw [List.map_cons, List.foldl_cons]
    have e : (if ((a : Nat) : Int) < ((n : Nat) : Int) then ((n : Nat) : Int) else ((a : Nat) : Int)) = ((max a n : Nat) : Int) := by
      split <;> omega
    rw [e, fold_max l]
    have : maxN (n :: l) = max n (maxN l) := rfl
    rw [this]
    omega
theorem max_pr (l : List Nat) : maxDf (l.map fun n : Nat => ((n : Nat) : Int)) 0 = ((maxN l : Nat) : Int) := by
  cases l with
  | nil => rfl
  | cons n l =>
    show (l.map fun n : Nat => ((n : Nat) : Int)).foldl (fun a y => if a < y then y else a) ((n : Nat) : Int) = _
    rw [fold_max]
    rfl
theorem sum_pr : ∀ l : List Nat, (l.map fun n : Nat => ((n : Nat) : Int)).sum = ((l.sum : Nat) : Int)
  | [] => rfl
  | n :: l => by simp [sum_pr l]
def fstD (d : D) : D := match d with | .tup [a, _] => a | _ => .non
def sndD (d : D) : D := match d with | .tup [_, a] => a | _ => .non
theorem pr_of {zs : List (Nat × Nat)} {i : Nat} {d : D} (h : (zs.map prD)[i]? = some d) : ∃ z, d = prD z := by
  rw [List.getElem?_map] at h
  cases e : zs[i]? with
  | none => rw [e] at h; cases h
  | some z => rw [e] at h; cases h; exact ⟨z, rfl⟩
theorem fst_map (zs : List (Nat × Nat)) : (zs.map prD).map fstD = ((zs.map (·.1)).map fun n : Nat => ((n : Nat) : Int)).map D.int := by
  simp only [List.map_map]
  rfl
theorem snd_map (zs : List (Nat × Nat)) : (zs.map prD).map sndD = ((zs.map (·.2)).map fun n : Nat => ((n : Nat) : Int)).map D.int := by
  simp only [List.map_map]
  rfl
section
variable {P : Program} {w : World} {K : PySem.W.Frag} {mg : Str → Option Value} {base : Heap}
def cSizes (n : Nat) : Con := fun ds S Q _ => ∃ d p, ds = [d] ∧ Sh S d p ∧ fine n p = true ∧ ∀ T, Sub S T → Q (prD (sizesP n p)) T
abbrev s__law_sizes : Stmt := topS 27
theorem sc__law_sizes : FnScope ["thing", "sizes", "found", "place", "high", "many"] ["thing"] (defScope s__law_sizes) := ⟨rfl, rfl, rfl, by decide +kernel, rfl, by decide +kernel, by decide +kernel⟩
theorem ok__law_sizes {f : Addr} {fd : FuncData} (F : Fun K "_law_sizes" "_law_sizes" s__law_sizes f fd) (hm : mg "_law_sizes" = some (.ref f)) (hb : Binds K fd ["thing"] []) (B : Blt mg) (G : Glb mg) (C__law_whole : Fn P w K mg base 1 "_law_whole" cWhole []) (C__law_is_name : Fn P w K mg base 1 "_law_is_name" cName []) : ∀ r, Fn P w K mg base (r + 2) "_law_sizes" (cSizes r) [] := by
  have main : ∀ r, (∀ k, k + 1 ≤ r + 1 → k = r → ∃ c, Fn P w K mg base (k + 1) "_law_sizes" c [] ∧ ∀ r', r = r' + 1 → c = cSizes r') → Fn P w K mg base (r + 2) "_law_sizes" (cSizes r) [] := by
    intro r ih
    obtain ⟨c, C__law_sizes, hc⟩ := ih r (Nat.le_refl _) rfl
    refine defQ F hm hb .nil sc__law_sizes (fun ds S Q X ⟨d, p, e, _⟩ => by rw [e]; rfl) fun cdv A outer s H hr => ?_
    have hu1 := hu_of hr; have hu64 := hr.units; have hu65 : (A.deeper (envOfC "_law_sizes" (defScope s__law_sizes) s.heap.objs.size f cdv)).units + 65 < cLine := by have := hr.un; omega
    refine ⟨_, (qs_cons (q_if (qt_val (q_c (dds := []) C__law_whole hr (by first | decide | omega) (by rfl) (qa_cons (qv 0) qa_nil))) (qs_one (q_ret (q_ifE (qt_chain op_le ro_cmp op_le ro_cmp q_int (qv 0) q_int) (q_tup (qa_cons q_int (qa_cons q_int qa_nil))) (q_tup (qa_cons q_int (qa_cons q_int qa_nil)))))) qs_nil)
      (qs_cons (q_if (qt_w (qw_or (qt_not (qt_val (q_isi "tuple" (by rfl) B.isinstance (by rfl) B.tuple (by decide +kernel) (qv 0)))) (qw_or (qt_not (qt_chain op_le ro_cmp op_le ro_cmp q_int (q_cb call_len ro_len (by rfl) B.len (by decide +kernel) (qa_cons (qv 0) qa_nil)) q_int)) (qw_or1 (qt_not (qt_val (q_c (dds := []) C__law_is_name hr (by first | decide | omega) (by rfl) (qa_cons (q_ix ix_seq ro_ix (qv 0) q_int) qa_nil)))))))) (qs_one (q_ret (q_tup (qa_cons q_int (qa_cons q_int qa_nil))))) qs_nil)
      (qs_cons (q_setLc (i := 1) (own := [("place", 3)]) rfl sc__law_sizes.nd rfl rfl (sw_true rfl rfl rfl (by decide +kernel)) (qi_tup (q_sl sl_3 ro_sl (qv 0) (qo_some q_int) qo_none)) (blkOk_by (N := ["thing", "sizes", "found", "place", "high", "many"]) (sc := defScope s__law_sizes) (by decide +kernel)) (fun _ _ _ _ _ => (qg_name (i := 3) sc__law_sizes.nd rfl (.inl rfl))) (fun _ _ _ _ _ => qts_nil) (fun _ _ _ _ _ => (q_c (dds := []) C__law_sizes hr (by first | decide | omega) (by rfl) (qa_cons (qv 3) qa_nil))))
      (qs_cons (q_if (qt_cmp (op_inA hu65) ro_inA (q_tup (qa_cons q_int (qa_cons q_int qa_nil))) (qv 1) (by rfl)) (qs_one (q_ret (q_tup (qa_cons q_int (qa_cons q_int qa_nil))))) qs_nil)
      (qs_cons (q_set (i := 2) sc__law_sizes.nd rfl (.inl rfl) (q_tup (qa_cons (q_op op_add4 ro_add q_int (q_maxD rfl hu65 (by rfl) B.max (q_lc (own := [("high", 4), ("many", 5)]) rfl sc__law_sizes.nd (qi_list (qv 1)) (blkOk_by (N := ["thing", "sizes", "found", "place", "high", "many"]) (sc := defScope s__law_sizes) (by decide +kernel)) (fun _ _ _ _ _ => (qg_2 (i := 4) (j := 5) rfl sc__law_sizes.nd rfl (.inl rfl) rfl (.inl rfl))) (fun _ _ _ _ _ => qts_nil) (fun _ _ _ _ _ => (qv 4))) q_int)) (qa_cons (q_op op_add4 ro_add q_int (q_cb (cr_sum rfl) ro_sum (by rfl) B.sum (by decide +kernel) (qa_cons (q_lc (own := [("high", 4), ("many", 5)]) rfl sc__law_sizes.nd (qi_list (qv 1)) (blkOk_by (N := ["thing", "sizes", "found", "place", "high", "many"]) (sc := defScope s__law_sizes) (by decide +kernel)) (fun _ _ _ _ _ => (qg_2 (i := 4) (j := 5) rfl sc__law_sizes.nd rfl (.inl rfl) rfl (.inl rfl))) (fun _ _ _ _ _ => qts_nil) (fun _ _ _ _ _ => (qv 5))) qa_nil))) qa_nil))))
      (qs_one (q_ret (q_ifE (qt_w (qw_and (qt_cmp op_le ro_cmp (q_ix ix_seq ro_ix (qv 2) q_int) q_int (nomark _)) (qw_and1 (qt_cmp op_le ro_cmp (q_ix ix_seq ro_ix (qv 2) q_int) q_int (nomark _))))) (qv 2) (q_tup (qa_cons q_int (qa_cons q_int qa_nil))))))))))), fun ds S Q X h => ?_⟩
    obtain ⟨d, p, rfl, hT, hf, q⟩ := h
    simp only [wRet, wRetN, wIf, wSeq, wSkip, wBreak, wCont, wNever, wDrop, wAndV, wOrV, wNotV, wIfE, wTest, wAndT, wOrT, wNotT, wUn, wOp, wVar, wC, wCB, wNil, wCons, wTup, wLst, wCall, wCallX, wSl, wNoPart, wPart, wChain, wAsg, wSet, wAug, wPar, wFor, iLst, iTp, iRng, iEn, iSt, gNm, gTp, gNone, gMore, g2, g3, wLc, wYes, wLm, wDGet, wDIn, wDGet2, wDPut, wDNew, wDisp, wPs, wSm0, wSm1, wRev, wMaxD, wRaise, wKeep, gSet]
    refine ⟨d, rfl, d, p, rfl, hT, ?_⟩
    dsimp only
    refine iteB (fun h1 => ?_) fun h1 => ?_
    · cases hT with
      | int i =>
        refine ⟨_, rfl, ?_⟩
        show if decide ((0 : Int) ≤ i) = true then (if decide (i ≤ 999) = true then _ else _) else (if false = true then _ else _)
        have e : sizesP r (.int i) = if 0 ≤ i ∧ i ≤ 999 then (1, 1) else (0, 0) := by cases r <;> rfl
        rw [e] at q
        refine iteB (fun h3 => iteB (fun h4 => ⟨by decide, ?_⟩) fun h4 => ⟨by decide, ?_⟩) fun h3 => iteF ⟨by decide, ?_⟩
        · have h3 := of_decide_eq_true h3; have h4 := of_decide_eq_true h4
          exact qc (q _ Sub.refl) (by rw [if_pos ⟨h3, h4⟩]; rfl)
        · have h4 := of_decide_eq_false h4
          exact qc (q _ Sub.refl) (by rw [if_neg fun z => h4 z.2]; rfl)
        · have h3 := of_decide_eq_false h3
          exact qc (q _ Sub.refl) (by rw [if_neg fun z => h3 z.1]; rfl)
      | _ => simp [pI] at h1
    · refine ⟨d, rfl, shi_tup hT ?_⟩
      dsimp only
      refine iteB (fun h2 => ?_) fun h2 => ?_
      · rw [if_pos trivial]
        refine ⟨by decide, qc (q _ Sub.refl) ?_⟩
        have e : sizesP r p = (0, 0) := by cases p <;> first | (simp [pT] at h2; done) | (simp [pI] at h1; done) | (cases r <;> rfl)
        rw [e]; rfl
      · cases hT with
        | tup hs =>
          rename_i dl pl
          obtain ⟨n', rfl, hlen, hall⟩ := fine_tup hf
          have := hc n' rfl
          subst this
          refine ⟨_, rfl, ?_⟩
          show if decide ((1 : Int) ≤ (dl.length : Int)) = true then (if (!decide ((dl.length : Int) ≤ 10)) = true then _ else _) else _
          have zero : ∀ T, Sub S T → sizesP (n' + 1) (.tuple pl) = (0, 0) → [D.int 0, D.int 0].length ≤ lineD ∧ Q (.tup [.int 0, .int 0]) T := fun T hT e => ⟨by decide, qc (q T hT) (by rw [e]; rfl)⟩
          refine iteB (fun h3 => ?_) fun h3 => ?_
          · have h3 := of_decide_eq_true h3
            cases hs with
            | nil => simp at h3
            | @cons d0 p0 dr pr s0 ss =>
              have hlr := ss.len
              refine iteB (fun h4 => ?_) fun h4 => ?_
              · rw [if_pos trivial]
                refine zero _ Sub.refl ?_
                have h4 : ¬ ((d0 :: dr).length : Int) ≤ 10 := of_decide_eq_false (by simpa using h4)
                have : ¬ pr.length ≤ 9 := by simp at h4; omega
                simp [sizesP, this]
              · have h4 : ((d0 :: dr).length : Int) ≤ 10 := of_decide_eq_true (by simpa using h4)
                have l9 : pr.length ≤ 9 := by simp at h4; omega
                refine ⟨_, rfl, d0, atN (k := 0) rfl, d0, p0, n', rfl, s0, hall _ List.mem_cons_self, fun T hT => ?_⟩
                dsimp only
                refine iteB (fun h5 => ?_) fun h5 => ?_
                · have : nameP p0 = false := by simpa using h5
                  exact zero _ hT (by simp [sizesP, this])
                · have hn : nameP p0 = true := by simpa using h5
                  have hz : sizesP (n' + 1) (.tuple (p0 :: pr)) = joinZ (pr.map (sizesP n')) := by simp [sizesP, hn, l9]
                  rw [hz] at q zero
                  obtain ⟨zs, hzs⟩ : ∃ zs, zs = pr.map (sizesP n') := ⟨_, rfl⟩
                  rw [← hzs] at q zero
                  refine ⟨_, rfl, ?_⟩
                  show wLcL _ _ _ _ _ _ _ (Qd.cutD (d0 :: dr) (some 1) none) _ _
                  rw [cut1]
                  refine lc_yes (fun _ S' => Sub S S') (fun i d y => ∃ p, pr[i]? = some p ∧ y = prD (sizesP n' p)) hT (by rw [hlr]; exact Nat.le_trans l9 (by decide)) (fun _ _ _ => trivial) (fun i d hd S' hS R hR => ?_) (fun ys S2 hl hy hS => ?_)
                  · obtain ⟨pi, hpi, si⟩ := ss.getD hd
                    simp only [wRet, wRetN, wIf, wSeq, wSkip, wBreak, wCont, wNever, wDrop, wAndV, wOrV, wNotV, wIfE, wTest, wAndT, wOrT, wNotT, wUn, wOp, wVar, wC, wCB, wNil, wCons, wTup, wLst, wCall, wCallX, wSl, wNoPart, wPart, wChain, wAsg, wSet, wAug, wPar, wFor, iLst, iTp, iRng, iEn, iSt, gNm, gTp, gNone, gMore, g2, g3, wLc, wYes, wLm, wDGet, wDIn, wDGet2, wDPut, wDNew, wDisp, wPs, wSm0, wSm1, wRev, wMaxD, wRaise, wKeep, gSet]
                    exact ⟨d, rfl, d, pi, rfl, sh_mono hS si, hall _ (List.mem_cons_of_mem _ (List.mem_of_getElem? hpi)), fun T2 hT2 => hR _ _ ⟨pi, hpi, rfl⟩ (hS.trans hT2)⟩
                  · have ey : ys = zs.map prD := by
                      refine List.ext_getElem? fun i => ?_
                      rw [hzs, List.map_map, List.getElem?_map]
                      cases h : pr[i]? with
                      | none =>
                        have := List.getElem?_eq_none_iff.mp h
                        exact List.getElem?_eq_none_iff.mpr (by omega)
                      | some p =>
                        obtain ⟨d, hd, _⟩ := ss.get h
                        have hi := (List.getElem?_eq_some_iff.mp h).1
                        have hy' : ys[i]? = some ys[i] := List.getElem?_eq_getElem (by omega)
                        obtain ⟨p', hp', e'⟩ := hy i d _ hd hy'
                        rw [h] at hp'
                        cases hp'
                        rw [hy', e']
                        rfl
                    subst ey
                    have hS2 : Sub S (S2 ++ [.lst true (zs.map prD)]) := hS.to
                    have lens : zs.length ≤ 9 := by rw [hzs, List.length_map]; exact l9
                    refine ⟨by decide, _, rfl, .tuple [.int 0, .int 0], zs.map prP, .tup (.cons (.int 0) (.cons (.int 0) .nil)), .inl (.lst last_get (pys_pr zs)), by decide, shaped_pr zs, ?_⟩
                    show if ((zs.map prP).any fun z => PyData.eqv z (.tuple [.int 0, .int 0])) = true then _ else _
                    rw [any_pr]
                    refine iteB (fun h6 => ?_) fun h6 => ?_
                    · have h6 := of_decide_eq_true h6
                      exact zero _ hS2 (by simp [joinZ, h6])
                    · have h6 := of_decide_eq_false h6
                      refine ⟨_, rfl, true, _, last_get, ?_⟩
                      have l2 : (zs.map prD).length ≤ lineD := by rw [List.length_map]; exact Nat.le_trans lens (by decide)
                      refine lc_map (fun _ S' => Sub (S2 ++ [.lst true (zs.map prD)]) S') fstD Sub.refl l2 (fun _ S' h => ⟨true, h _ _ last_get⟩) (fun i d hd S' hS' R hR => ?_) (fun S3 hS3 => ?_)
                      · obtain ⟨z, rfl⟩ := pr_of hd
                        exact ⟨_, rfl, hR _ hS'⟩
                      · refine ⟨true, (zs.map (·.1)).map fun n : Nat => ((n : Nat) : Int), by rw [last_get, fst_map], ?_⟩
                        rw [max_pr]
                        have hS4 := hS3.trans (Sub.push (T := [.lst true ((zs.map prD).map fstD)]))
                        refine ⟨_, rfl, true, _, hS4 _ _ last_get, ?_⟩
                        refine lc_map (fun _ S' => Sub (S3 ++ [.lst true ((zs.map prD).map fstD)]) S') sndD Sub.refl l2 (fun _ S' h => ⟨true, h _ _ (hS4 _ _ last_get)⟩) (fun i d hd S' hS' R hR => ?_) (fun S5 hS5 => ?_)
                        · obtain ⟨z, rfl⟩ := pr_of hd
                          exact ⟨_, rfl, hR _ hS'⟩
                        · have hS6 : Sub S (S5 ++ [.lst true ((zs.map prD).map sndD)]) := (hS2.trans (hS4.trans hS5)).to
                          refine ⟨true, _, by rw [last_get], (zs.map (·.2)).map fun n : Nat => ((n : Nat) : Int), snd_map zs, ?_⟩
                          rw [sum_pr]
                          refine ⟨(show 2 ≤ lineD by decide), _, rfl, _, atN (k := 0) rfl, ?_⟩
                          show if decide ((1 : Int) + ((maxN (zs.map (·.1)) : Nat) : Int) ≤ 60) = true then _ else _
                          refine iteB (fun h7 => ?_) fun h7 => ?_
                          · have h7 := of_decide_eq_true h7
                            refine ⟨_, rfl, _, atN (k := 1) rfl, ?_⟩
                            show if decide ((1 : Int) + (((zs.map (·.2)).sum : Nat) : Int) ≤ 1000) = true then _ else _
                            refine iteB (fun h8 => ?_) fun h8 => ?_
                            · have h8 := of_decide_eq_true h8
                              refine ⟨_, rfl, qc (q _ hS6) ?_⟩
                              have hh : 1 + maxN (zs.map (·.1)) ≤ 60 ∧ 1 + (zs.map (·.2)).sum ≤ 1000 := ⟨by omega, by omega⟩
                              simp [joinZ, h6, hh, prD]
                            · have h8 := of_decide_eq_false h8
                              exact zero _ hS6 (by
                                have hh : ¬ (1 + maxN (zs.map (·.1)) ≤ 60 ∧ 1 + (zs.map (·.2)).sum ≤ 1000) := fun z => h8 (by omega)
                                rw [joinZ, if_neg h6, if_neg hh])
                          · have h7 := of_decide_eq_false h7
                            rw [if_neg (by simp)]
                            exact zero _ hS6 (by
                              have hh : ¬ (1 + maxN (zs.map (·.1)) ≤ 60 ∧ 1 + (zs.map (·.2)).sum ≤ 1000) := fun z => h7 (by omega)
                              rw [joinZ, if_neg h6, if_neg hh])
          · have h3 := of_decide_eq_false h3
            cases hs with
            | nil => 
              exact zero _ Sub.refl rfl
            | @cons d0 p0 dr pr s0 ss => simp at h3; omega
        | _ => simp [pT] at h2
  intro r
  induction r with
  | zero => exact main 0 fun k _ e => ⟨_, fnFalse hm F.kp hb, fun r' e => by omega⟩
  | succ r ih => exact main (r + 1) fun k _ e => ⟨cSizes r, by rw [e]; exact ih, fun r' e => by cases e; rfl⟩
end
end K78
set_option Elab.async false
set_option linter.all false
set_option maxRecDepth 100000
set_option maxHeartbeats 4000000
namespace K78
open PySem PySem.Spec PyProof.Rows L2 Qd
/-! ### the two ways to measure a term say the same -/
theorem maxN_le {l : List Nat} {r : Nat} : maxN l ≤ r ↔ ∀ x ∈ l, x ≤ r := by
  induction l with
  | nil => simp [maxN]
  | cons a l ih =>
    have : maxN (a :: l) = max a (maxN l) := rfl
    rw [this, Nat.max_le, ih]
    simp
theorem partsL_eq (f : PyData → Nat) : ∀ (ps : List PyData) (m : Nat), m ≤ 1000 → 1 ≤ m → partsL f ps m = if (∀ p ∈ ps, 0 < f p) ∧ m + (ps.map f).sum ≤ 1000 then m + (ps.map f).sum else 0
  | [], m, h, _ => by simp [partsL, h]
  | p :: ps, m, h, h1 => by
    rw [partsL]
    by_cases h0 : f p = 0
    · rw [if_pos (.inl h0), if_neg]
      rintro ⟨z, _⟩
      have := z p List.mem_cons_self
      omega
    · by_cases h2 : 1000 < m + f p
      · rw [if_pos (.inr h2), if_neg]
        rintro ⟨_, z⟩
        rw [List.map_cons, List.sum_cons] at z
        omega
      · rw [if_neg (by rintro (z | z) <;> omega), partsL_eq f ps (m + f p) (by omega) (by omega)]
        have e : m + f p + (ps.map f).sum = m + ((p :: ps).map f).sum := by rw [List.map_cons, List.sum_cons]; omega
        rw [e]
        have hp : (∀ q ∈ p :: ps, 0 < f q) ↔ ∀ q ∈ ps, 0 < f q := by
          constructor
          · exact fun z q hq => z q (List.mem_cons_of_mem _ hq)
          · intro z q hq
            rcases List.mem_cons.mp hq with rfl | hq
            · omega
            · exact z q hq
        simp only [hp]
theorem zero_or (n : Nat) (p : PyData) : sizesP n p = (0, 0) ∨ (1 ≤ (sizesP n p).1 ∧ (sizesP n p).1 ≤ 60 ∧ 1 ≤ (sizesP n p).2 ∧ (sizesP n p).2 ≤ 1000) := by
  have jz : ∀ zs, joinZ zs = (0, 0) ∨ (1 ≤ (joinZ zs).1 ∧ (joinZ zs).1 ≤ 60 ∧ 1 ≤ (joinZ zs).2 ∧ (joinZ zs).2 ≤ 1000) := by
    intro zs
    unfold joinZ
    split
    · exact .inl rfl
    · split
      · rename_i h
        exact .inr ⟨by show 1 ≤ 1 + _; omega, h.1, by show 1 ≤ 1 + _; omega, h.2⟩
      · exact .inl rfl
  cases p with
  | int i =>
    have e : sizesP n (.int i) = if 0 ≤ i ∧ i ≤ 999 then (1, 1) else (0, 0) := by cases n <;> rfl
    rw [e]
    split
    · exact .inr ⟨by decide, by decide, by decide, by decide⟩
    · exact .inl rfl
  | tuple ps =>
    cases n with
    | zero => exact .inl (by cases ps <;> rfl)
    | succ n =>
      cases ps with
      | nil => exact .inl rfl
      | cons q ps =>
        have e : sizesP (n + 1) (.tuple (q :: ps)) = if nameP q = true ∧ ps.length ≤ 9 then joinZ (ps.map (sizesP n)) else (0, 0) := rfl
        rw [e]
        split
        · exact jz _
        · exact .inl rfl
  | none => exact .inl (by cases n <;> rfl)
  | bool b => exact .inl (by cases n <;> rfl)
  | str x => exact .inl (by cases n <;> rfl)
  | list x => exact .inl (by cases n <;> rfl)
  | dict x => exact .inl (by cases n <;> rfl)
theorem parts_sizes : ∀ (n : Nat) (p : PyData) (r : Nat), fine n p = true → r ≤ 60 → partsP r p = if sizesP n p ≠ (0, 0) ∧ (sizesP n p).1 ≤ r then (sizesP n p).2 else 0 := by
  intro n
  induction n with
  | zero =>
    intro p r hf hr
    cases p with
    | int i =>
      have e : sizesP 0 (.int i) = if 0 ≤ i ∧ i ≤ 999 then (1, 1) else (0, 0) := rfl
      rw [e]
      cases r with
      | zero => split <;> simp [partsP]
      | succ r => by_cases h : 0 ≤ i ∧ i ≤ 999 <;> simp [partsP, h]
    | tuple ps => simp [fine] at hf
    | list ps => simp [fine] at hf
    | dict ps => simp [fine] at hf
    | none => cases r <;> simp [partsP, sizesP]
    | bool b => cases r <;> simp [partsP, sizesP]
    | str x => cases r <;> simp [partsP, sizesP]
  | succ n ih =>
    intro p r hf hr
    cases p with
    | int i =>
      have e : sizesP (n + 1) (.int i) = if 0 ≤ i ∧ i ≤ 999 then (1, 1) else (0, 0) := rfl
      rw [e]
      cases r with
      | zero => split <;> simp [partsP]
      | succ r => by_cases h : 0 ≤ i ∧ i ≤ 999 <;> simp [partsP, h]
    | list ps => cases r <;> simp [partsP, sizesP]
    | dict ps => cases r <;> simp [partsP, sizesP]
    | none => cases r <;> simp [partsP, sizesP]
    | bool b => cases r <;> simp [partsP, sizesP]
    | str x => cases r <;> simp [partsP, sizesP]
    | tuple ps =>
      obtain ⟨n', e, _, hall⟩ := fine_tup hf
      cases e
      cases r with
      | zero =>
        have := zero_or (n + 1) (.tuple ps)
        rw [if_neg]
        · rfl
        · rintro ⟨h1, h2⟩
          rcases this with z | z
          · exact h1 z
          · omega
      | succ r =>
        cases ps with
        | nil => simp [partsP, sizesP]
        | cons q ps =>
          have e1 : sizesP (n + 1) (.tuple (q :: ps)) = if nameP q = true ∧ ps.length ≤ 9 then joinZ (ps.map (sizesP n)) else (0, 0) := rfl
          have e2 : partsP (r + 1) (.tuple (q :: ps)) = if nameP q = true ∧ ps.length ≤ 9 then partsL (partsP r) ps 1 else 0 := rfl
          rw [e1, e2]
          by_cases hh : nameP q = true ∧ ps.length ≤ 9
          · rw [if_pos hh, if_pos hh, partsL_eq _ _ _ (by omega) (by omega)]
            have hi : ∀ p ∈ ps, partsP r p = if sizesP n p ≠ (0, 0) ∧ (sizesP n p).1 ≤ r then (sizesP n p).2 else 0 := fun p hp => ih p r (hall p (List.mem_cons_of_mem _ hp)) (by omega)
            have pos : ∀ p ∈ ps, 0 < partsP r p ↔ sizesP n p ≠ (0, 0) ∧ (sizesP n p).1 ≤ r := fun p hp => by
              rw [hi p hp]
              constructor
              · intro z
                by_cases h : sizesP n p ≠ (0, 0) ∧ (sizesP n p).1 ≤ r
                · exact h
                · rw [if_neg h] at z; omega
              · intro z
                rw [if_pos z]
                rcases zero_or n p with y | y
                · exact absurd y z.1
                · omega
            by_cases ha : ∀ p ∈ ps, 0 < partsP r p
            · have hs : (ps.map (partsP r)).sum = ((ps.map (sizesP n)).map (·.2)).sum := by
                rw [List.map_map]
                congr 1
                exact List.map_congr_left fun p hp => by rw [hi p hp, if_pos ((pos p hp).mp (ha p hp))]; rfl
              have hno : (0, 0) ∉ ps.map (sizesP n) := fun z => by
                obtain ⟨p, hp, e⟩ := List.mem_map.mp z
                exact ((pos p hp).mp (ha p hp)).1 e
              have hmx : maxN ((ps.map (sizesP n)).map (·.1)) ≤ r := maxN_le.mpr fun x hx => by
                rw [List.map_map] at hx
                obtain ⟨p, hp, e⟩ := List.mem_map.mp hx
                rw [← e]
                exact ((pos p hp).mp (ha p hp)).2
              rw [hs]
              have hm60 : 1 + maxN ((ps.map (sizesP n)).map (·.1)) ≤ 60 := by omega
              by_cases hc : 1 + ((ps.map (sizesP n)).map (·.2)).sum ≤ 1000
              · have hj : joinZ (ps.map (sizesP n)) = (1 + maxN ((ps.map (sizesP n)).map (·.1)), 1 + ((ps.map (sizesP n)).map (·.2)).sum) := by
                  unfold joinZ
                  rw [if_neg hno, if_pos ⟨hm60, hc⟩]
                rw [hj, if_pos ⟨ha, hc⟩, if_pos]
                refine ⟨fun z => ?_, by show 1 + _ ≤ _; omega⟩
                have := congrArg Prod.fst z
                have : 1 + maxN ((ps.map (sizesP n)).map (·.1)) = 0 := this
                omega
              · have hj : joinZ (ps.map (sizesP n)) = (0, 0) := by
                  unfold joinZ
                  rw [if_neg hno, if_neg fun z => hc z.2]
                rw [hj, if_neg fun z => hc z.2]
                simp
            · rw [if_neg fun z => ha z.1, if_neg]
              rintro ⟨h1, h2⟩
              refine ha fun p hp => (pos p hp).mpr ⟨fun z => ?_, ?_⟩
              · refine h1 ?_
                unfold joinZ
                rw [if_pos (List.mem_map.mpr ⟨p, hp, z⟩)]
              · unfold joinZ at h1 h2
                split at h1
                · exact absurd rfl h1
                · rename_i hno
                  rw [if_neg hno] at h2
                  split at h1
                  · rename_i hc
                    rw [if_pos hc] at h2
                    have h2 : 1 + maxN ((ps.map (sizesP n)).map (·.1)) ≤ r + 1 := h2
                    have h2' : maxN ((ps.map (sizesP n)).map (·.1)) ≤ r := by omega
                    refine maxN_le.mp h2' _ ?_
                    rw [List.map_map]
                    exact List.mem_map.mpr ⟨p, hp, rfl⟩
                  · exact absurd rfl h1
          · rw [if_neg hh, if_neg hh]
            simp
theorem term_sizes {n : Nat} {p : PyData} (hf : fine n p = true) : termP p = decide (sizesP n p ≠ (0, 0)) := by
  unfold termP
  rw [parts_sizes n p 60 hf (Nat.le_refl _)]
  have := zero_or n p
  by_cases h : sizesP n p = (0, 0)
  · simp [h]
  · rcases this with z | z
    · exact absurd z h
    · rw [if_pos ⟨h, z.2.1⟩]
      simp [h]
      omega
end K78
set_option Elab.async false
set_option linter.all false
set_option maxRecDepth 100000
set_option maxHeartbeats 4000000
namespace K78
open PySem PySem.Spec PyProof.Rows L2 Qd
theorem parts_fine : ∀ (r n : Nat) (p : PyData), fine n p = true → 0 < partsP r p → fine r p = true := by
  intro r
  induction r with
  | zero => intro n p _ h; simp [partsP] at h
  | succ r ih =>
    intro n p hf h
    cases p with
    | int i => cases n <;> simpa [fine] using hf
    | tuple ps =>
      obtain ⟨m, rfl, hl, hall⟩ := fine_tup hf
      cases ps with
      | nil => simp [partsP] at h
      | cons q ps =>
        have e : partsP (r + 1) (.tuple (q :: ps)) = if nameP q = true ∧ ps.length ≤ 9 then partsL (partsP r) ps 1 else 0 := rfl
        rw [e] at h
        by_cases hh : nameP q = true ∧ ps.length ≤ 9
        · rw [if_pos hh, partsL_eq _ _ _ (by omega) (by omega)] at h
          by_cases ha : (∀ p ∈ ps, 0 < partsP r p) ∧ 1 + (ps.map (partsP r)).sum ≤ 1000
          · simp only [fine, Bool.and_eq_true, decide_eq_true_eq, List.all_eq_true]
            refine ⟨hl, fun p hp => ?_⟩
            rcases List.mem_cons.mp hp with rfl | hp
            · have := hall _ List.mem_cons_self
              cases p <;> first
                | (simp [nameP] at hh; done)
                | (cases m <;> cases r <;> simpa [fine] using this)
            · exact ih m p (hall p (List.mem_cons_of_mem _ hp)) (ha.1 p hp)
          · rw [if_neg ha] at h; omega
        · rw [if_neg hh] at h; omega
    | _ => simp [partsP] at h
theorem term_fine {n : Nat} {p : PyData} (hf : fine n p = true) (h : termP p = true) : fine 60 p = true := parts_fine 60 n p hf (of_decide_eq_true h)
def pairP (q : PyData × PyData) : PyData := .tuple [q.1, q.2]
/-- what is told: pairs of terms -/
def Tok (tp : List (PyData × PyData)) : Prop := ∀ q ∈ tp, termP q.1 = true ∧ termP q.2 = true ∧ fine 60 q.1 = true ∧ fine 60 q.2 = true
def pickP (tp : List (PyData × PyData)) (k : PyData) : PyData × PyData := match k with | .int i => tp.getD i.toNat (.none, .none) | _ => (.none, .none)
def withinP (tp : List (PyData × PyData)) : List PyData → Option (PyData × PyData)
  | [_, nm, .list ks] => if nameP nm = true ∧ ks.length ≤ 9 ∧ linesP ks tp.length = true ∧ termP (.tuple (nm :: ks.map fun k => (pickP tp k).1)) = true ∧ termP (.tuple (nm :: ks.map fun k => (pickP tp k).2)) = true then some (.tuple (nm :: ks.map fun k => (pickP tp k).1), .tuple (nm :: ks.map fun k => (pickP tp k).2)) else none
  | _ => none
def OptD (o : Option (PyData × PyData)) (d : D) : Prop := match o with | none => d = .non | some q => Sh [] d (pairP q)
structure TD (S : Store) (n : Nat) (td : List D) (tp : List (PyData × PyData)) : Prop where
  get : S[n]? = some (.lst true td)
  sh : Shs [] td (tp.map pairP)
  ok : Tok tp
  len : tp.length ≤ 100
theorem TD.mono {S T : Store} {n : Nat} {td : List D} {tp : List (PyData × PyData)} (h : TD S n td tp) (m : Sub S T) : TD T n td tp := ⟨m _ _ h.get, h.sh, h.ok, h.len⟩
theorem TD.at {S : Store} {n : Nat} {td : List D} {tp : List (PyData × PyData)} (h : TD S n td tp) {i : Nat} {q : PyData × PyData} (e : tp[i]? = some q) : ∃ a b, td[i]? = some (.tup [a, b]) ∧ Sh [] a q.1 ∧ Sh [] b q.2 := by
  have e' : (tp.map pairP)[i]? = some (pairP q) := by rw [List.getElem?_map, e]; rfl
  obtain ⟨d, hd, s⟩ := h.sh.get e'
  cases s with
  | tup ss =>
    cases ss with
    | cons s1 ss =>
      cases ss with
      | cons s2 ss =>
        cases ss
        exact ⟨_, _, hd, s1, s2⟩
theorem line_at {ks : List PyData} {tp : List (PyData × PyData)} {k : PyData} (h : linesP ks tp.length = true) (hk : k ∈ ks) : ∃ (i : Nat) (q : PyData × PyData), k = .int ((i : Nat) : Int) ∧ tp[i]? = some q ∧ pickP tp k = q := by
  have := List.all_eq_true.mp h k hk
  cases k with
  | int i =>
    have h1 : 0 ≤ i ∧ i < (tp.length : Int) := of_decide_eq_true this
    have hi : i.toNat < tp.length := by omega
    refine ⟨i.toNat, tp[i.toNat], by rw [Int.toNat_of_nonneg h1.1], List.getElem?_eq_getElem hi, ?_⟩
    show tp.getD i.toNat _ = _
    rw [List.getD_eq_getElem?_getD, List.getElem?_eq_getElem hi]
    rfl
  | _ => simp [lineP] at this
theorem within_none {tp : List (PyData × PyData)} {lp : List PyData} (h : lp.length ≠ 3) : withinP tp lp = none := by
  unfold withinP
  split
  · simp at h
  · rfl
theorem shs_of {S : Store} : ∀ {ys : List D} {ps : List PyData}, ys.length = ps.length → (∀ (i : Nat) p y, ps[i]? = some p → ys[i]? = some y → Sh S y p) → Shs S ys ps
  | [], [], _, _ => .nil
  | y :: ys, p :: ps, h, g => .cons (g 0 p y rfl rfl) (shs_of (by simpa using h) fun i p' y' h1 h2 => g (i + 1) p' y' (by simpa using h1) (by simpa using h2))
  | [], _ :: _, h, _ => by simp at h
  | _ :: _, [], h, _ => by simp at h
theorem shs_len3 {S : Store} {ld : List D} {lp : List PyData} (h : Shs S ld lp) (l : lp.length = 3) : ∃ d0 d1 d2 p0 p1 p2, ld = [d0, d1, d2] ∧ lp = [p0, p1, p2] ∧ Sh S d0 p0 ∧ Sh S d1 p1 ∧ Sh S d2 p2 := by
  cases h with
  | nil => simp at l
  | cons a h =>
    cases h with
    | nil => simp at l
    | cons b h =>
      cases h with
      | nil => simp at l
      | cons c h =>
        cases h with
        | nil => exact ⟨_, _, _, _, _, _, rfl, rfl, a, b, c⟩
        | cons e h => simp at l
theorem name_nil {S : Store} {d : D} {p : PyData} (h : Sh S d p) (n : nameP p = true) : Sh [] d p := by
  cases h <;> first
    | exact .str _
    | simp [nameP] at n
/-- [told[k][side] for k in ks] -/
theorem side_lc {S S1 : Store} {nt nk : Nat} {td kd : List D} {tp : List (PyData × PyData)} {ks : List PyData} {e0 : Slots} {X : XQ} {i : Nat} {u : WE} {Q : List D → Store → Prop} (sd : PyData × PyData → PyData) (ht : TD S nt td tp) (hk : S[nk]? = some (.lst true kd)) (ss : Shs S kd ks) (hl : ks.length ≤ 9) (hg : linesP ks tp.length = true) (hS : Sub S S1)
    (hu : ∀ (k : Nat) (a b : D) (q : PyData × PyData) (S2 : Store) (R : D → Store → Prop), Sub S S2 → td[k]? = some (.tup [a, b]) → Sh [] a q.1 → Sh [] b q.2 → (∀ y, Sh [] y (sd q) → R y S2) → u (e0.set i (some (.int ((k : Nat) : Int)))) S2 R X)
    (fin : ∀ ys S2, Sub S S2 → Sub S1 S2 → Shs [] ys (ks.map fun k => sd (pickP tp k)) → Q ys S2) :
    wLcL (gNm i) wYes u e0 (fun s => ∃ w, s[nk]? = some (.lst w kd)) Q X kd [] S1 := by
  refine lc_yes (fun _ S' => Sub S1 S') (fun j d y => ∃ k, ks[j]? = some k ∧ Sh [] y (sd (pickP tp k))) Sub.refl (by rw [ss.len]; exact Nat.le_trans hl (by decide)) (fun _ S' h => ⟨true, (hS.trans h) _ _ hk⟩) (fun j d hd S' hS' R hR => ?_) (fun ys S2 hl2 hy hS2 => ?_)
  · obtain ⟨k, hk', sk⟩ := ss.getD hd
    obtain ⟨m, q, rfl, hq, hp⟩ := line_at hg (List.mem_of_getElem? hk')
    cases sk
    obtain ⟨a, b, h1, h2, h3⟩ := ht.at hq
    exact hu m a b q S' R (hS.trans hS') h1 h2 h3 fun y hy => hR _ _ ⟨_, hk', by rw [hp]; exact hy⟩ hS'
  · refine fin ys S2 (hS.trans hS2) hS2 (shs_of (by rw [hl2, ss.len, List.length_map]) fun j p y h1 h2 => ?_)
    rw [List.getElem?_map] at h1
    cases e : ks[j]? with
    | none => rw [e] at h1; cases h1
    | some k =>
      rw [e] at h1
      cases h1
      obtain ⟨d, hd, _⟩ := ss.get e
      obtain ⟨k', h3, h4⟩ := hy j d y hd h2
      rw [e] at h3
      cases h3
      exact h4
theorem tok_pick {tp : List (PyData × PyData)} {ks : List PyData} (h : Tok tp) (hg : linesP ks tp.length = true) {k : PyData} (hk : k ∈ ks) : fine 60 (pickP tp k).1 = true ∧ fine 60 (pickP tp k).2 = true := by
  obtain ⟨m, q, _, hq, hp⟩ := line_at hg hk
  rw [hp]
  exact ⟨(h q (List.mem_of_getElem? hq)).2.2.1, (h q (List.mem_of_getElem? hq)).2.2.2⟩
theorem fine_up : ∀ {n m : Nat} {p : PyData}, fine n p = true → n ≤ m → fine m p = true := by
  intro n
  induction n with
  | zero =>
    intro m p h _
    cases p <;> first
      | (simp [fine] at h; done)
      | (cases m <;> simpa [fine] using h)
  | succ n ih =>
    intro m p h hm
    obtain ⟨m', rfl⟩ : ∃ m', m = m' + 1 := ⟨m - 1, by omega⟩
    cases p with
    | tuple ps =>
      simp only [fine, Bool.and_eq_true, decide_eq_true_eq, List.all_eq_true] at h ⊢
      exact ⟨h.1, fun p hp => ih (h.2 p hp) (by omega)⟩
    | list ps =>
      simp only [fine, Bool.and_eq_true, decide_eq_true_eq, List.all_eq_true] at h ⊢
      exact ⟨h.1, fun p hp => ih (h.2 p hp) (by omega)⟩
    | _ => simpa [fine] using h
theorem fine_made {tp : List (PyData × PyData)} {ks : List PyData} {nm : PyData} (sd : PyData × PyData → PyData) (h1 : fine 60 nm = true) (hl : ks.length ≤ 9) (h : ∀ k ∈ ks, fine 60 (sd (pickP tp k)) = true) : fine 61 (.tuple (nm :: ks.map fun k => sd (pickP tp k))) = true := by
  simp only [fine, Bool.and_eq_true, decide_eq_true_eq, List.all_eq_true]
  refine ⟨by simp; omega, fun p hp => ?_⟩
  rcases List.mem_cons.mp hp with rfl | hp
  · exact h1
  · obtain ⟨k, hk, rfl⟩ := List.mem_map.mp hp
    exact h k hk
theorem name_fine {p : PyData} (n m : Nat) (h : nameP p = true) (hf : fine n p = true) : fine m p = true := by
  cases p <;> first
    | (simp [nameP] at h; done)
    | (cases n <;> cases m <;> simpa [fine] using hf)
section
variable {P : Program} {w : World} {K : PySem.W.Frag} {mg : Str → Option Value} {base : Heap}
def cWithin : Con := fun ds S Q _ => ∃ ld lp nt td tp, ds = [.tup ld, .loc nt] ∧ Shs S ld lp ∧ 2 ≤ lp.length ∧ (∀ p ∈ lp, fine 61 p = true) ∧ TD S nt td tp ∧ ∀ T d, Sub S T → OptD (withinP tp lp) d → Q d T
abbrev s_told_within : Stmt := topS 17
theorem sc_told_within : FnScope ["line", "told", "one", "other", "k"] ["line", "told"] (defScope s_told_within) := ⟨rfl, rfl, rfl, by decide +kernel, rfl, by decide +kernel, by decide +kernel⟩
theorem ok_told_within {f : Addr} {fd : FuncData} (F : Fun K "told_within" "told_within" s_told_within f fd) (hm : mg "told_within" = some (.ref f)) (hb : Binds K fd ["line", "told"] []) (B : Blt mg) (G : Glb mg) (C_is_name : Fn P w K mg base 1 "is_name" cName []) (C_are_lines : Fn P w K mg base 2 "are_lines" cLines []) (C_is_term : Fn P w K mg base 63 "is_term" cTerm []) : Fn P w K mg base 64 "told_within" cWithin [] := by
  refine defQ F hm hb .nil sc_told_within (fun ds S Q X ⟨_, _, _, _, _, e, _⟩ => by rw [e]; rfl) fun cdv A outer s H hr => ?_
  have hu1 := hu_of hr; have hu64 := hr.units
  refine ⟨_, (qs_cons (q_if (qt_w (qw_or (qt_cmp (op_ne2 hu64) ro_ne (q_cb call_len ro_len (by rfl) B.len (by decide +kernel) (qa_cons (qv 0) qa_nil)) q_int (nomark _)) (qw_or (qt_not (qt_val (q_c (dds := []) C_is_name hr (by first | decide | omega) (by rfl) (qa_cons (q_ix ix_seq ro_ix (qv 0) q_int) qa_nil)))) (qw_or1 (qt_not (qt_val (q_isi "list" (by rfl) B.isinstance (by rfl) B.list (by decide +kernel) (q_ix ix_seq ro_ix (qv 0) q_int)))))))) (qs_one (q_ret q_non)) qs_nil)
      (qs_cons (q_if (qt_w (qw_or (qt_cmp op_gt ro_cmp (q_cb call_len ro_len (by rfl) B.len (by decide +kernel) (qa_cons (q_ix ix_seq ro_ix (qv 0) q_int) qa_nil)) (q_globI (by rfl) G.MOST_PLACES_reasons) (nomark _)) (qw_or1 (qt_not (qt_val (q_c (dds := []) C_are_lines hr (by first | decide | omega) (by rfl) (qa_cons (q_ix ix_seq ro_ix (qv 0) q_int) (qa_cons (q_cb call_len ro_len (by rfl) B.len (by decide +kernel) (qa_cons (qv 1) qa_nil)) qa_nil)))))))) (qs_one (q_ret q_non)) qs_nil)
      (qs_cons (q_set (i := 2) sc_told_within.nd rfl (.inl rfl) (q_ct call_tuple_of ro_tuple (by rfl) B.tuple (by decide +kernel) (qa_cons (q_op op_add4 ro_add (q_lst (qa_cons (q_ix ix_seq ro_ix (qv 0) q_int) qa_nil)) (q_lc (own := [("k", 4)]) rfl sc_told_within.nd (qi_list (q_ix ix_seq ro_ix (qv 0) q_int)) (blkOk_by (N := ["line", "told", "one", "other", "k"]) (sc := defScope s_told_within) (by decide +kernel)) (fun _ _ _ _ _ => (qg_name (i := 4) sc_told_within.nd rfl (.inl rfl))) (fun _ _ _ _ _ => qts_nil) (fun _ _ _ _ _ => (q_ix ix_seq ro_ix (q_ix ix_seq ro_ix (qv 1) (qv 4)) q_int)))) qa_nil)))
      (qs_cons (q_set (i := 3) sc_told_within.nd rfl (.inl rfl) (q_ct call_tuple_of ro_tuple (by rfl) B.tuple (by decide +kernel) (qa_cons (q_op op_add4 ro_add (q_lst (qa_cons (q_ix ix_seq ro_ix (qv 0) q_int) qa_nil)) (q_lc (own := [("k", 4)]) rfl sc_told_within.nd (qi_list (q_ix ix_seq ro_ix (qv 0) q_int)) (blkOk_by (N := ["line", "told", "one", "other", "k"]) (sc := defScope s_told_within) (by decide +kernel)) (fun _ _ _ _ _ => (qg_name (i := 4) sc_told_within.nd rfl (.inl rfl))) (fun _ _ _ _ _ => qts_nil) (fun _ _ _ _ _ => (q_ix ix_seq ro_ix (q_ix ix_seq ro_ix (qv 1) (qv 4)) q_int)))) qa_nil)))
      (qs_cons (q_if (qt_w (qw_or (qt_not (qt_val (q_c (dds := []) C_is_term hr (by first | decide | omega) (by rfl) (qa_cons (qv 2) qa_nil)))) (qw_or1 (qt_not (qt_val (q_c (dds := []) C_is_term hr (by first | decide | omega) (by rfl) (qa_cons (qv 3) qa_nil))))))) (qs_one (q_ret q_non)) qs_nil)
      (qs_one (q_ret (q_tup (qa_cons (qv 2) (qa_cons (qv 3) qa_nil)))))))))), fun ds S Q X h => ?_⟩
  obtain ⟨ld, lp, nt, td, tp, rfl, hs, h2, hf, ht, q⟩ := h
  simp only [wRet, wRetN, wIf, wSeq, wSkip, wBreak, wCont, wNever, wDrop, wAndV, wOrV, wNotV, wIfE, wTest, wAndT, wOrT, wNotT, wUn, wOp, wVar, wC, wCB, wNil, wCons, wTup, wLst, wCall, wCallX, wSl, wNoPart, wPart, wChain, wAsg, wSet, wAug, wPar, wFor, iLst, iTp, iRng, iEn, iSt, gNm, gTp, gNone, gMore, g2, g3, wLc, wYes, wLm, wDGet, wDIn, wDGet2, wDPut, wDNew, wDisp, wPs, wSm0, wSm1, wRev, wMaxD, wRaise, wKeep, gSet]
  refine ⟨_, rfl, ?_⟩
  show if (!decide ((ld.length : Int) = 3)) = true then _ else _
  refine iteB (fun h3 => ?_) fun h3 => ?_
  · rw [if_pos trivial]
    have h3 : ¬ (ld.length : Int) = 3 := of_decide_eq_false (by simpa using h3)
    have := hs.len
    exact q _ _ Sub.refl (by rw [within_none (by omega)]; rfl)
  · have h3 : (ld.length : Int) = 3 := of_decide_eq_true (by simpa using h3)
    have hl := hs.len
    obtain ⟨d0, d1, d2, p0, p1, p2, rfl, rfl, s0, s1, s2⟩ := shs_len3 hs (by omega)
    refine ⟨_, rfl, d1, atN (k := 1) rfl, d1, p1, 61, rfl, s1, hf _ (by simp), fun T1 hT1 => ?_⟩
    dsimp only
    refine iteB (fun h4 => ?_) fun h4 => ?_
    · rw [if_pos trivial]
      have h4 : nameP p1 = false := by simpa using h4
      refine q _ _ hT1 ?_
      cases p2 <;> first | (simp [withinP, h4]; rfl) | exact rfl
    · have hn : nameP p1 = true := by simpa using h4
      refine ⟨_, rfl, d2, atN (k := 2) rfl, shi_lst (sh_mono hT1 s2) ?_⟩
      dsimp only
      refine iteB (fun h5 => ?_) fun h5 => ?_
      · refine q _ _ hT1 ?_
        cases p2 <;> first | (simp [pL] at h5; done) | exact rfl
      · cases s2 with
        | @lst nk kd ks hk ss =>
          have hkl := ss.len
          refine ⟨_, rfl, _, atN (k := 2) rfl, true, kd, hT1 _ _ hk, ?_⟩
          show if decide ((9 : Int) < (kd.length : Int)) = true then _ else _
          refine iteB (fun h6 => ?_) fun h6 => ?_
          · rw [if_pos trivial]
            have h6 := of_decide_eq_true h6
            refine q _ _ hT1 ?_
            have : ¬ ks.length ≤ 9 := by omega
            simp [withinP, this]
            rfl
          · have h6 := of_decide_eq_false h6
            have l9 : ks.length ≤ 9 := by omega
            refine ⟨_, rfl, _, atN (k := 2) rfl, _, rfl, true, td, hT1 _ _ ht.get, .loc nk, kd, ks, tp.length, ?_, .inr ⟨nk, rfl, hT1 _ _ hk⟩, shs_mono hT1 ss, by omega, fun T2 hT2 => ?_⟩
            · have e : td.length = tp.length := by rw [ht.sh.len, List.length_map]
              rw [e]
              rfl
            · have hT := hT1.trans hT2
              dsimp only
              refine iteB (fun h7 => ?_) fun h7 => ?_
              · have h7 : linesP ks tp.length = false := by simpa using h7
                refine q _ _ hT ?_
                simp [withinP, h7]
                rfl
              · have hg : linesP ks tp.length = true := by simpa using h7
                have hT' : Sub S (T2 ++ [.lst true [d1]]) := hT.to
                refine ⟨_, rfl, d1, atN (k := 1) rfl, (show 1 ≤ lineD by decide), _, rfl, _, atN (k := 2) rfl, true, kd, hT' _ _ hk, ?_⟩
                have n1 := name_nil s1 hn
                refine side_lc (fun q => q.1) ht hk ss l9 hg hT' (fun k a b q S2 R hS2 h1 h2 h3 hR => ?_) (fun ys S2 hS2 hS2' hys => ?_)
                · simp only [wRet, wRetN, wIf, wSeq, wSkip, wBreak, wCont, wNever, wDrop, wAndV, wOrV, wNotV, wIfE, wTest, wAndT, wOrT, wNotT, wUn, wOp, wVar, wC, wCB, wNil, wCons, wTup, wLst, wCall, wCallX, wSl, wNoPart, wPart, wChain, wAsg, wSet, wAug, wPar, wFor, iLst, iTp, iRng, iEn, iSt, gNm, gTp, gNone, gMore, g2, g3, wLc, wYes, wLm, wDGet, wDIn, wDGet2, wDPut, wDNew, wDisp, wPs, wSm0, wSm1, wRev, wMaxD, wRaise, wKeep, gSet]
                  exact ⟨_, rfl, _, rfl, true, td, _, hS2 _ _ ht.get, atN h1, _, atN (k := 0) rfl, hR _ h2⟩
                · have ly : ys.length ≤ 9 := by rw [hys.len, List.length_map]; exact l9
                  refine ⟨[d1], ys, hS2'.to _ _ last_get, last_get, by show 1 + ys.length ≤ lineD; exact Nat.le_trans (by omega : 1 + ys.length ≤ 10) (by decide), true, _, last_get, ?_⟩
                  have hA : Sub S ((S2 ++ [.lst true ys]) ++ [.lst true ([d1] ++ ys)]) := hS2.to.to
                  refine ⟨_, rfl, d1, atN (k := 1) rfl, (show 1 ≤ lineD by decide), _, rfl, _, atN (k := 2) rfl, true, kd, hA.to _ _ hk, ?_⟩
                  refine side_lc (fun q => q.2) ht hk ss l9 hg hA.to (fun k a b q S2 R hS2 h1 h2 h3 hR => ?_) (fun zs S3 hS3 hS3' hzs => ?_)
                  · simp only [wRet, wRetN, wIf, wSeq, wSkip, wBreak, wCont, wNever, wDrop, wAndV, wOrV, wNotV, wIfE, wTest, wAndT, wOrT, wNotT, wUn, wOp, wVar, wC, wCB, wNil, wCons, wTup, wLst, wCall, wCallX, wSl, wNoPart, wPart, wChain, wAsg, wSet, wAug, wPar, wFor, iLst, iTp, iRng, iEn, iSt, gNm, gTp, gNone, gMore, g2, g3, wLc, wYes, wLm, wDGet, wDIn, wDGet2, wDPut, wDNew, wDisp, wPs, wSm0, wSm1, wRev, wMaxD, wRaise, wKeep, gSet]
                    exact ⟨_, rfl, _, rfl, true, td, _, hS2 _ _ ht.get, atN h1, _, atN (k := 1) rfl, hR _ h3⟩
                  · have lz : zs.length ≤ 9 := by rw [hzs.len, List.length_map]; exact l9
                    refine ⟨[d1], zs, hS3'.to _ _ last_get, last_get, by show 1 + zs.length ≤ lineD; exact Nat.le_trans (by omega : 1 + zs.length ≤ 10) (by decide), true, _, last_get, ?_⟩
                    have hB : Sub S ((S3 ++ [.lst true zs]) ++ [.lst true ([d1] ++ zs)]) := hS3.to.to
                    have hf1 : fine 60 p1 = true := name_fine 61 60 hn (hf _ (by simp))
                    have o1 : Sh [] (.tup ([d1] ++ ys)) (.tuple (p1 :: ks.map fun k => (pickP tp k).1)) := .tup (.cons n1 hys)
                    have o2 : Sh [] (.tup ([d1] ++ zs)) (.tuple (p1 :: ks.map fun k => (pickP tp k).2)) := .tup (.cons n1 hzs)
                    refine ⟨_, rfl, _, _, 61, rfl, sh_mono Sub.nil o1, fine_made (fun q => q.1) hf1 l9 (fun k hk => (tok_pick ht.ok hg hk).1), fun T3 hT3 => ?_⟩
                    dsimp only
                    refine iteB (fun h8 => ?_) fun h8 => ?_
                    · rw [if_pos trivial]
                      refine q _ _ (hB.trans hT3) ?_
                      have h8 : termP (.tuple (p1 :: ks.map fun k => (pickP tp k).1)) = false := by simpa using h8
                      simp [withinP, h8]
                      rfl
                    · have t1 : termP (.tuple (p1 :: ks.map fun k => (pickP tp k).1)) = true := by simpa using h8
                      refine ⟨_, rfl, _, _, 61, rfl, sh_mono Sub.nil o2, fine_made (fun q => q.2) hf1 l9 (fun k hk => (tok_pick ht.ok hg hk).2), fun T4 hT4 => ?_⟩
                      dsimp only
                      refine iteB (fun h9 => ?_) fun h9 => ?_
                      · refine q _ _ ((hB.trans hT3).trans hT4) ?_
                        have h9 : termP (.tuple (p1 :: ks.map fun k => (pickP tp k).2)) = false := by simpa using h9
                        simp [withinP, h9]
                        rfl
                      · have t2 : termP (.tuple (p1 :: ks.map fun k => (pickP tp k).2)) = true := by simpa using h9
                        refine ⟨_, rfl, _, rfl, (show 2 ≤ lineD by decide), q _ _ ((hB.trans hT3).trans hT4) ?_⟩
                        have e : withinP tp [p0, p1, .list ks] = some (.tuple (p1 :: ks.map fun k => (pickP tp k).1), .tuple (p1 :: ks.map fun k => (pickP tp k).2)) := if_pos ⟨hn, l9, hg, t1, t2⟩
                        rw [e]
                        exact .tup (.cons o1 (.cons o2 .nil))
        | _ => simp [pL] at h5
end
end K78
set_option Elab.async false
set_option linter.all false
set_option maxRecDepth 100000
set_option maxHeartbeats 4000000
namespace K78
open PySem PySem.Spec PyProof.Rows L2 Qd
section
variable {P : Program} {w : World} {K : PySem.W.Frag} {mg : Str → Option Value} {base : Heap}
abbrev s__law_within : Stmt := topS 29
theorem sc__law_within : FnScope ["line", "told", "found", "side", "term", "k"] ["line", "told"] (defScope s__law_within) := ⟨rfl, rfl, rfl, by decide +kernel, rfl, by decide +kernel, by decide +kernel⟩
theorem ok__law_within {f : Addr} {fd : FuncData} (F : Fun K "_law_within" "_law_within" s__law_within f fd) (hm : mg "_law_within" = some (.ref f)) (hb : Binds K fd ["line", "told"] []) (B : Blt mg) (G : Glb mg) (C__law_is_name : Fn P w K mg base 1 "_law_is_name" cName []) (C__law_are_lines : Fn P w K mg base 2 "_law_are_lines" cLines []) (C__law_sizes : Fn P w K mg base 63 "_law_sizes" (cSizes 61) []) : Fn P w K mg base 64 "_law_within" cWithin [] := by
  refine defQ F hm hb .nil sc__law_within (fun ds S Q X ⟨_, _, _, _, _, e, _⟩ => by rw [e]; rfl) fun cdv A outer s H hr => ?_
  have hu1 := hu_of hr; have hu64 := hr.units; have hu65 : (A.deeper (envOfC "_law_within" (defScope s__law_within) s.heap.objs.size f cdv)).units + 65 < cLine := by have := hr.un; omega
  refine ⟨_, (qs_cons (q_if (qt_w (qw_or (qt_cmp (op_ne2 hu64) ro_ne (q_cb call_len ro_len (by rfl) B.len (by decide +kernel) (qa_cons (qv 0) qa_nil)) q_int (nomark _)) (qw_or (qt_not (qt_val (q_c (dds := []) C__law_is_name hr (by first | decide | omega) (by rfl) (qa_cons (q_ix ix_seq ro_ix (qv 0) q_int) qa_nil)))) (qw_or1 (qt_not (qt_val (q_isi "list" (by rfl) B.isinstance (by rfl) B.list (by decide +kernel) (q_ix ix_seq ro_ix (qv 0) q_int)))))))) (qs_one (q_ret q_non)) qs_nil)
      (qs_cons (q_if (qt_w (qw_or (qt_cmp op_gt ro_cmp (q_cb call_len ro_len (by rfl) B.len (by decide +kernel) (qa_cons (q_ix ix_seq ro_ix (qv 0) q_int) qa_nil)) q_int (nomark _)) (qw_or1 (qt_not (qt_val (q_c (dds := []) C__law_are_lines hr (by first | decide | omega) (by rfl) (qa_cons (q_ix ix_seq ro_ix (qv 0) q_int) (qa_cons (q_cb call_len ro_len (by rfl) B.len (by decide +kernel) (qa_cons (qv 1) qa_nil)) qa_nil)))))))) (qs_one (q_ret q_non)) qs_nil)
      (qs_cons (q_set (i := 2) sc__law_within.nd rfl (.inl rfl) (q_ct call_tuple_of ro_tuple (by rfl) B.tuple (by decide +kernel) (qa_cons (q_lc (own := [("side", 3)]) rfl sc__law_within.nd (qi_range (by rfl) B.range q_int) (blkOk_by (N := ["line", "told", "found", "side", "term", "k"]) (sc := defScope s__law_within) (by decide +kernel)) (fun _ _ _ _ _ => (qg_name (i := 3) sc__law_within.nd rfl (.inr rfl))) (fun _ _ _ _ _ => qts_nil) (fun _ _ _ _ _ => (q_ct call_tuple_of ro_tuple (by rfl) B.tuple (by decide +kernel) (qa_cons (q_op op_add4 ro_add (q_lst (qa_cons (q_ix ix_seq ro_ix (qv 0) q_int) qa_nil)) (q_lc (own := [("k", 5)]) rfl sc__law_within.nd (qi_list (q_ix ix_seq ro_ix (qv 0) q_int)) (blkOk_by (by rfl)) (fun _ _ _ _ _ => (qg_name (i := 5) sc__law_within.nd rfl (.inl rfl))) (fun _ _ _ _ _ => qts_nil) (fun _ _ _ _ _ => (q_ix ix_seq ro_ix (q_ix ix_seq ro_ix (qv 1) (qv 5)) (qv 3))))) qa_nil)))) qa_nil)))
      (qs_one (q_ret (q_ifE (qt_cmp (op_inA hu65) ro_inA (q_tup (qa_cons q_int (qa_cons q_int qa_nil))) (q_lc (own := [("term", 4)]) rfl sc__law_within.nd (qi_tup (qv 2)) (blkOk_by (N := ["line", "told", "found", "side", "term", "k"]) (sc := defScope s__law_within) (by decide +kernel)) (fun _ _ _ _ _ => (qg_name (i := 4) sc__law_within.nd rfl (.inl rfl))) (fun _ _ _ _ _ => qts_nil) (fun _ _ _ _ _ => (q_c (dds := []) C__law_sizes hr (by first | decide | omega) (by rfl) (qa_cons (qv 4) qa_nil)))) (by rfl)) q_non (qv 2))))))), fun ds S Q X h => ?_⟩
  obtain ⟨ld, lp, nt, td, tp, rfl, hs, h2, hf, ht, q⟩ := h
  simp only [wRet, wRetN, wIf, wSeq, wSkip, wBreak, wCont, wNever, wDrop, wAndV, wOrV, wNotV, wIfE, wTest, wAndT, wOrT, wNotT, wUn, wOp, wVar, wC, wCB, wNil, wCons, wTup, wLst, wCall, wCallX, wSl, wNoPart, wPart, wChain, wAsg, wSet, wAug, wPar, wFor, iLst, iTp, iRng, iEn, iSt, gNm, gTp, gNone, gMore, g2, g3, wLc, wYes, wLm, wDGet, wDIn, wDGet2, wDPut, wDNew, wDisp, wPs, wSm0, wSm1, wRev, wMaxD, wRaise, wKeep, gSet]
  refine ⟨_, rfl, ?_⟩
  show if (!decide ((ld.length : Int) = 3)) = true then _ else _
  refine iteB (fun h3 => ?_) fun h3 => ?_
  · rw [if_pos trivial]
    have h3 : ¬ (ld.length : Int) = 3 := of_decide_eq_false (by simpa using h3)
    have := hs.len
    exact q _ _ Sub.refl (by rw [within_none (by omega)]; rfl)
  · have h3 : (ld.length : Int) = 3 := of_decide_eq_true (by simpa using h3)
    have hl := hs.len
    obtain ⟨d0, d1, d2, p0, p1, p2, rfl, rfl, s0, s1, s2⟩ := shs_len3 hs (by omega)
    refine ⟨_, rfl, d1, atN (k := 1) rfl, d1, p1, 61, rfl, s1, hf _ (by simp), fun T1 hT1 => ?_⟩
    dsimp only
    refine iteB (fun h4 => ?_) fun h4 => ?_
    · rw [if_pos trivial]
      have h4 : nameP p1 = false := by simpa using h4
      refine q _ _ hT1 ?_
      cases p2 <;> first | (simp [withinP, h4]; rfl) | exact rfl
    · have hn : nameP p1 = true := by simpa using h4
      refine ⟨_, rfl, d2, atN (k := 2) rfl, shi_lst (sh_mono hT1 s2) ?_⟩
      dsimp only
      refine iteB (fun h5 => ?_) fun h5 => ?_
      · refine q _ _ hT1 ?_
        cases p2 <;> first | (simp [pL] at h5; done) | exact rfl
      · cases s2 with
        | @lst nk kd ks hk ss =>
          have hkl := ss.len
          refine ⟨_, rfl, _, atN (k := 2) rfl, true, kd, hT1 _ _ hk, ?_⟩
          show if decide ((9 : Int) < (kd.length : Int)) = true then _ else _
          refine iteB (fun h6 => ?_) fun h6 => ?_
          · rw [if_pos trivial]
            have h6 := of_decide_eq_true h6
            refine q _ _ hT1 ?_
            have : ¬ ks.length ≤ 9 := by omega
            simp [withinP, this]
            rfl
          · have h6 := of_decide_eq_false h6
            have l9 : ks.length ≤ 9 := by omega
            refine ⟨_, rfl, _, atN (k := 2) rfl, _, rfl, true, td, hT1 _ _ ht.get, .loc nk, kd, ks, tp.length, ?_, .inr ⟨nk, rfl, hT1 _ _ hk⟩, shs_mono hT1 ss, by omega, fun T2 hT2 => ?_⟩
            · have e : td.length = tp.length := by rw [ht.sh.len, List.length_map]
              rw [e]
              rfl
            · have hT := hT1.trans hT2
              dsimp only
              refine iteB (fun h7 => ?_) fun h7 => ?_
              · have h7 : linesP ks tp.length = false := by simpa using h7
                refine q _ _ hT ?_
                simp [withinP, h7]
                rfl
              · have hg : linesP ks tp.length = true := by simpa using h7
                have n1 := name_nil s1 hn
                have hf1 : fine 60 p1 = true := name_fine 61 60 hn (hf _ (by simp))
                refine ⟨by decide, by decide, ?_⟩
                refine lc_yes (fun _ S' => Sub S S') (fun i d y => (i = 0 → Sh [] y (.tuple (p1 :: ks.map fun k => (pickP tp k).1))) ∧ (i = 1 → Sh [] y (.tuple (p1 :: ks.map fun k => (pickP tp k).2)))) hT (by decide) (fun _ _ _ => trivial) (fun i d hd S' hS' R hR => ?_) (fun ys S3 hl3 hy hS3 => ?_)
                · simp only [wRet, wRetN, wIf, wSeq, wSkip, wBreak, wCont, wNever, wDrop, wAndV, wOrV, wNotV, wIfE, wTest, wAndT, wOrT, wNotT, wUn, wOp, wVar, wC, wCB, wNil, wCons, wTup, wLst, wCall, wCallX, wSl, wNoPart, wPart, wChain, wAsg, wSet, wAug, wPar, wFor, iLst, iTp, iRng, iEn, iSt, gNm, gTp, gNone, gMore, g2, g3, wLc, wYes, wLm, wDGet, wDIn, wDGet2, wDPut, wDNew, wDisp, wPs, wSm0, wSm1, wRev, wMaxD, wRaise, wKeep, gSet]
                  have hS1 : Sub S (S' ++ [.lst true [d1]]) := hS'.to
                  have cases2 : (i = 0 ∧ d = .int 0) ∨ (i = 1 ∧ d = .int 1) := by
                    match i, hd with
                    | 0, hd => exact .inl ⟨rfl, by cases hd; rfl⟩
                    | 1, hd => exact .inr ⟨rfl, by cases hd; rfl⟩
                    | n + 2, hd => cases hd
                  rcases cases2 with ⟨rfl, rfl⟩ | ⟨rfl, rfl⟩
                  · refine ⟨_, rfl, d1, atN (k := 1) rfl, (show 1 ≤ lineD by decide), _, rfl, _, atN (k := 2) rfl, true, kd, hS1 _ _ hk, ?_⟩
                    refine side_lc (fun q => q.1) ht hk ss l9 hg hS1 (fun k a b q S2 R hS2 h1 h2 h3 hR => ?_) (fun zs S2 hS2 hS2' hzs => ?_)
                    · simp only [wRet, wRetN, wIf, wSeq, wSkip, wBreak, wCont, wNever, wDrop, wAndV, wOrV, wNotV, wIfE, wTest, wAndT, wOrT, wNotT, wUn, wOp, wVar, wC, wCB, wNil, wCons, wTup, wLst, wCall, wCallX, wSl, wNoPart, wPart, wChain, wAsg, wSet, wAug, wPar, wFor, iLst, iTp, iRng, iEn, iSt, gNm, gTp, gNone, gMore, g2, g3, wLc, wYes, wLm, wDGet, wDIn, wDGet2, wDPut, wDNew, wDisp, wPs, wSm0, wSm1, wRev, wMaxD, wRaise, wKeep, gSet]
                      exact ⟨_, rfl, _, rfl, true, td, _, hS2 _ _ ht.get, atN h1, _, rfl, _, atN (k := 0) rfl, hR _ h2⟩
                    · have lz : zs.length ≤ 9 := by rw [hzs.len, List.length_map]; exact l9
                      refine ⟨[d1], zs, hS2'.to _ _ last_get, last_get, by show 1 + zs.length ≤ lineD; exact Nat.le_trans (by omega : 1 + zs.length ≤ 10) (by decide), true, _, last_get, ?_⟩
                      exact hR _ _ ⟨fun _ => .tup (.cons n1 hzs), (fun z => absurd z (by decide))⟩ hS2.to.to
                  · refine ⟨_, rfl, d1, atN (k := 1) rfl, (show 1 ≤ lineD by decide), _, rfl, _, atN (k := 2) rfl, true, kd, hS1 _ _ hk, ?_⟩
                    refine side_lc (fun q => q.2) ht hk ss l9 hg hS1 (fun k a b q S2 R hS2 h1 h2 h3 hR => ?_) (fun zs S2 hS2 hS2' hzs => ?_)
                    · simp only [wRet, wRetN, wIf, wSeq, wSkip, wBreak, wCont, wNever, wDrop, wAndV, wOrV, wNotV, wIfE, wTest, wAndT, wOrT, wNotT, wUn, wOp, wVar, wC, wCB, wNil, wCons, wTup, wLst, wCall, wCallX, wSl, wNoPart, wPart, wChain, wAsg, wSet, wAug, wPar, wFor, iLst, iTp, iRng, iEn, iSt, gNm, gTp, gNone, gMore, g2, g3, wLc, wYes, wLm, wDGet, wDIn, wDGet2, wDPut, wDNew, wDisp, wPs, wSm0, wSm1, wRev, wMaxD, wRaise, wKeep, gSet]
                      exact ⟨_, rfl, _, rfl, true, td, _, hS2 _ _ ht.get, atN h1, _, rfl, _, atN (k := 1) rfl, hR _ h3⟩
                    · have lz : zs.length ≤ 9 := by rw [hzs.len, List.length_map]; exact l9
                      refine ⟨[d1], zs, hS2'.to _ _ last_get, last_get, by show 1 + zs.length ≤ lineD; exact Nat.le_trans (by omega : 1 + zs.length ≤ 10) (by decide), true, _, last_get, ?_⟩
                      exact hR _ _ ⟨(fun z => absurd z (by decide)), fun _ => .tup (.cons n1 hzs)⟩ hS2.to.to
                · match ys, hl3 with
                  | [y0, y1], _ =>
                    obtain ⟨one, hone⟩ : ∃ one, one = PyData.tuple (p1 :: ks.map fun k => (pickP tp k).1) := ⟨_, rfl⟩
                    obtain ⟨other, hother⟩ : ∃ other, other = PyData.tuple (p1 :: ks.map fun k => (pickP tp k).2) := ⟨_, rfl⟩
                    have o1 : Sh [] y0 one := hone ▸ (hy 0 _ y0 rfl rfl).1 rfl
                    have o2 : Sh [] y1 other := hother ▸ (hy 1 _ y1 rfl rfl).2 rfl
                    have f1 : fine 61 one = true := hone ▸ fine_made (fun q => q.1) hf1 l9 fun k hk => (tok_pick ht.ok hg hk).1
                    have f2 : fine 61 other = true := hother ▸ fine_made (fun q => q.2) hf1 l9 fun k hk => (tok_pick ht.ok hg hk).2
                    have hS4 : Sub S (S3 ++ [.lst true [y0, y1]]) := hS3.to
                    refine ⟨true, _, last_get, (show 2 ≤ lineD by decide), _, rfl, ?_⟩
                    refine lc_yes (fun _ S' => Sub S S') (fun i d y => (i = 0 → y = prD (sizesP 61 one)) ∧ (i = 1 → y = prD (sizesP 61 other))) hS4 (show 2 ≤ lineD by decide) (fun _ _ _ => trivial) (fun i d hd S' hS' R hR => ?_) (fun zs S5 hl5 hz hS5 => ?_)
                    · simp only [wRet, wRetN, wIf, wSeq, wSkip, wBreak, wCont, wNever, wDrop, wAndV, wOrV, wNotV, wIfE, wTest, wAndT, wOrT, wNotT, wUn, wOp, wVar, wC, wCB, wNil, wCons, wTup, wLst, wCall, wCallX, wSl, wNoPart, wPart, wChain, wAsg, wSet, wAug, wPar, wFor, iLst, iTp, iRng, iEn, iSt, gNm, gTp, gNone, gMore, g2, g3, wLc, wYes, wLm, wDGet, wDIn, wDGet2, wDPut, wDNew, wDisp, wPs, wSm0, wSm1, wRev, wMaxD, wRaise, wKeep, gSet]
                      match i, hd with
                      | 0, hd => cases hd; exact ⟨_, rfl, _, _, rfl, sh_mono Sub.nil o1, f1, fun T hT => hR _ _ ⟨fun _ => rfl, (fun z => absurd z (by decide))⟩ (hS'.trans hT)⟩
                      | 1, hd => cases hd; exact ⟨_, rfl, _, _, rfl, sh_mono Sub.nil o2, f2, fun T hT => hR _ _ ⟨(fun z => absurd z (by decide)), fun _ => rfl⟩ (hS'.trans hT)⟩
                      | n + 2, hd => cases hd
                    · match zs, hl5 with
                      | [z0, z1], _ =>
                        have e0 := (hz 0 _ z0 rfl rfl).1 rfl
                        have e1 := (hz 1 _ z1 rfl rfl).2 rfl
                        subst e0 e1
                        refine ⟨.tuple [.int 0, .int 0], [sizesP 61 one, sizesP 61 other].map prP, .tup (.cons (.int 0) (.cons (.int 0) .nil)), .inl (.lst last_get (pys_pr [sizesP 61 one, sizesP 61 other])), by decide, shaped_pr _, ?_⟩
                        show if (([sizesP 61 one, sizesP 61 other].map prP).any fun z => PyData.eqv z (.tuple [.int 0, .int 0])) = true then _ else _
                        rw [any_pr]
                        have t1 := term_sizes f1
                        have t2 := term_sizes f2
                        have hw : withinP tp [p0, p1, .list ks] = if nameP p1 = true ∧ ks.length ≤ 9 ∧ linesP ks tp.length = true ∧ termP one = true ∧ termP other = true then some (one, other) else none := by rw [hone, hother]; rfl
                        refine iteB (fun h8 => ?_) fun h8 => ?_
                        · refine q _ _ hS5.to ?_
                          have h8 := of_decide_eq_true h8
                          rw [hw, if_neg]
                          · rfl
                          · rintro ⟨_, _, _, z1, z2⟩
                            rw [t1] at z1
                            rw [t2] at z2
                            have z1 := of_decide_eq_true z1
                            have z2 := of_decide_eq_true z2
                            simp at h8
                            rcases h8 with h8 | h8
                            · exact z1 h8.symm
                            · exact z2 h8.symm
                        · have h8 := of_decide_eq_false h8
                          refine ⟨_, rfl, q _ _ hS5.to ?_⟩
                          rw [hw, if_pos]
                          · exact .tup (.cons o1 (.cons o2 .nil))
                          · refine ⟨hn, l9, hg, ?_, ?_⟩
                            · rw [t1]
                              exact decide_eq_true fun z => h8 (by rw [z]; simp)
                            · rw [t2]
                              exact decide_eq_true fun z => h8 (by rw [z]; simp)
        | _ => simp [pL] at h5
end
end K78
set_option Elab.async false
set_option linter.all false
set_option maxRecDepth 100000
set_option maxHeartbeats 4000000
namespace K78
open PySem PySem.Spec PyProof.Rows L2 Qd
def selfP (r : List PyData) : Option (PyData × PyData) := match r with | [t] => if termP t = true then some (t, t) else none | _ => none
def toldP (pp : List (PyData × PyData)) (r : List PyData) : Option (PyData × PyData) := match r with | [k] => if linesP [k] pp.length = true then some (pickP pp k) else none | _ => none
def moreP (tp : List (PyData × PyData)) (x : Str) (r : List PyData) : Option (PyData × PyData) := match r with
  | [k] => if x = "back" then some ((pickP tp k).2, (pickP tp k).1) else none
  | [k, l] => if x = "then" ∧ PyData.eqv (pickP tp k).2 (pickP tp l).1 = true then some ((pickP tp k).1, (pickP tp l).2) else none
  | _ => none
def tells1 (tp pp : List (PyData × PyData)) (x : Str) (r : List PyData) : Option (PyData × PyData) :=
  if x = "in" then withinP tp (.str x :: r) else if x = "self" then selfP r else if x = "told" then toldP pp r else if linesP r tp.length = true then moreP tp x r else none
def tellsP (tp pp : List (PyData × PyData)) (line : PyData) : Option (PyData × PyData) := match line with
  | .tuple (.str x :: p :: r) => tells1 tp pp x (p :: r)
  | _ => none
section
variable {tp pp : List (PyData × PyData)} {x : Str} {r : List PyData}
theorem more_yes {k : PyData} (h : x = "back") : moreP tp x [k] = some ((pickP tp k).2, (pickP tp k).1) := if_pos h
theorem more_back {k : PyData} : moreP tp "back" [k] = some ((pickP tp k).2, (pickP tp k).1) := more_yes rfl
theorem more2_no {k l : PyData} (h : ¬ x = "then") : moreP tp x [k, l] = none := if_neg fun z => h z.1
theorem more_no {k : PyData} (h : ¬ x = "back") : moreP tp x [k] = none := if_neg h
theorem t_in (h : x = "in") : tells1 tp pp x r = withinP tp (.str x :: r) := by unfold tells1; rw [if_pos h]
theorem t_self (h1 : ¬ x = "in") (h : x = "self") : tells1 tp pp x r = selfP r := by unfold tells1; rw [if_neg h1, if_pos h]
theorem t_told (h1 : ¬ x = "in") (h2 : ¬ x = "self") (h : x = "told") : tells1 tp pp x r = toldP pp r := by unfold tells1; rw [if_neg h1, if_neg h2, if_pos h]
theorem t_more (h1 : ¬ x = "in") (h2 : ¬ x = "self") (h3 : ¬ x = "told") : tells1 tp pp x r = if linesP r tp.length = true then moreP tp x r else none := by unfold tells1; rw [if_neg h1, if_neg h2, if_neg h3]
end
def fineL (p : PyData) : Prop := fine 62 p = true ∨ p = .dict []
theorem layAll {ps : List PyData} : (∀ p ∈ ps, PyData.canLay0 p = true) → PyData.canLayAll0 ps = true := by
  induction ps with
  | nil => intro _; rfl
  | cons p ps ih =>
    intro h
    rw [PyData.canLayAll0, h p List.mem_cons_self, ih fun q hq => h q (List.mem_cons_of_mem _ hq)]
    rfl
theorem depAll {ps : List PyData} {n : Nat} : (∀ p ∈ ps, PyData.depth p ≤ n) → PyData.depthAll ps ≤ n := by
  induction ps with
  | nil => intro _; simp [PyData.depthAll]
  | cons p ps ih =>
    intro h
    rw [PyData.depthAll]
    have h1 := h p List.mem_cons_self
    have h2 := ih fun q hq => h q (List.mem_cons_of_mem _ hq)
    omega
theorem dictAll {ps : List PyData} : (∀ p ∈ ps, PyData.hasDict p = false) → PyData.hasDictAll ps = false := by
  induction ps with
  | nil => intro _; rfl
  | cons p ps ih =>
    intro h
    rw [PyData.hasDictAll, h p List.mem_cons_self, ih fun q hq => h q (List.mem_cons_of_mem _ hq)]
    rfl
theorem showAll {ps : List PyData} : (∀ p ∈ ps, PyData.showable p = true) → PyData.showableAll ps = true := by
  induction ps with
  | nil => intro _; rfl
  | cons p ps ih =>
    intro h
    rw [PyData.showableAll, h p List.mem_cons_self, ih fun q hq => h q (List.mem_cons_of_mem _ hq)]
    rfl
theorem fine_all : ∀ (n : Nat) (p : PyData), fine n p = true → PyData.canLay0 p = true ∧ p.depth ≤ n ∧ p.hasDict = false ∧ p.showable = true := by
  intro n
  induction n with
  | zero =>
    intro p h
    cases p <;> first
      | (simp [fine] at h; done)
      | (refine ⟨?_, ?_, ?_, ?_⟩ <;> simp_all [fine, PyData.canLay0, PyData.depth, PyData.hasDict, PyData.showable] <;> omega)
      | (refine ⟨?_, ?_, ?_, ?_⟩ <;> simp_all [fine, PyData.canLay0, PyData.depth, PyData.hasDict, PyData.showable])
  | succ n ih =>
    intro p h
    cases p with
    | tuple ps =>
      obtain ⟨m, e, _, hall⟩ := fine_tup h
      cases e
      refine ⟨?_, ?_, ?_, ?_⟩
      · rw [PyData.canLay0]; exact layAll fun q hq => (ih q (hall q hq)).1
      · rw [PyData.depth]; have := depAll fun q hq => (ih q (hall q hq)).2.1; omega
      · rw [PyData.hasDict]; exact dictAll fun q hq => (ih q (hall q hq)).2.2.1
      · rw [PyData.showable]; exact showAll fun q hq => (ih q (hall q hq)).2.2.2
    | list ps =>
      obtain ⟨m, e, _, hall⟩ := fine_lst h
      cases e
      refine ⟨?_, ?_, ?_, ?_⟩
      · rw [PyData.canLay0]; exact layAll fun q hq => (ih q (hall q hq)).1
      · rw [PyData.depth]; have := depAll fun q hq => (ih q (hall q hq)).2.1; omega
      · rw [PyData.hasDict]; exact dictAll fun q hq => (ih q (hall q hq)).2.2.1
      · rw [PyData.showable]; exact showAll fun q hq => (ih q (hall q hq)).2.2.2
    | dict k => exact (fine_dict h).elim
    | _ =>
      refine ⟨?_, ?_, ?_, ?_⟩ <;> simp_all [fine, PyData.canLay0, PyData.depth, PyData.hasDict, PyData.showable] <;> omega
theorem fine_shaped {n : Nat} {p : PyData} (h : fine n p = true) (hn : n ≤ 64) : SeqAt.shaped p = true := by
  have := fine_all n p h
  unfold SeqAt.shaped
  rw [this.1]
  simp
  omega
theorem eq_data {S : Store} {a b : D} {p q : PyData} {Q : D → Store → Prop} (sa : Sh S a p) (sb : Sh S b q) (fp : fine 62 p = true) (fq : fine 62 q = true) (h : Q (.bl (PyData.eqv p q)) S) : fEq false a b S Q := by
  unfold fEq
  split
  · rename_i c e
    refine qb h ?_
    show c = _
    cases sa <;> cases sb <;> simp [scD] at e <;> subst e <;> simp [PyData.eqv, Bool.beq_eq_decide_eq] <;> rfl
  · exact ⟨p, q, sa.py (fine_all 62 p fp).2.2.1, sb.py (fine_all 62 q fq).2.2.1, fine_shaped fp (by decide), fine_shaped fq (by decide), h⟩
theorem term_nil {S : Store} : ∀ (r : Nat) {d : D} {p : PyData}, Sh S d p → 0 < partsP r p → Sh [] d p := by
  intro r
  induction r with
  | zero => intro d p _ h; simp [partsP] at h
  | succ r ih =>
    intro d p h hp
    cases h with
    | int i => exact .int i
    | tup hs =>
      cases hs with
      | nil => simp [partsP] at hp
      | @cons d0 q dr ps s0 ss =>
        have e : partsP (r + 1) (.tuple (q :: ps)) = if nameP q = true ∧ ps.length ≤ 9 then partsL (partsP r) ps 1 else 0 := rfl
        rw [e] at hp
        by_cases hh : nameP q = true ∧ ps.length ≤ 9
        · rw [if_pos hh, partsL_eq _ _ _ (by omega) (by omega)] at hp
          by_cases ha : (∀ p ∈ ps, 0 < partsP r p) ∧ 1 + (ps.map (partsP r)).sum ≤ 1000
          · refine .tup (.cons (name_nil s0 hh.1) (shs_of ss.len fun i p y h1 h2 => ?_))
            obtain ⟨p', h3, s'⟩ := ss.getD h2
            rw [h1] at h3
            cases h3
            exact ih s' (ha.1 p (List.mem_of_getElem? h1))
          · rw [if_neg ha] at hp; omega
        · rw [if_neg hh] at hp; omega
    | _ => simp [partsP] at hp
section
variable {P : Program} {w : World} {K : PySem.W.Frag} {mg : Str → Option Value} {base : Heap}
def cTells : Con := fun ds S Q _ => ∃ dl line nt td tp np pd pp, ds = [dl, .loc nt, .loc np] ∧ Sh S dl line ∧ fineL line ∧ TD S nt td tp ∧ TD S np pd pp ∧ ∀ T d, Sub S T → OptD (tellsP tp pp line) d → Q d T
abbrev s_told_by : Stmt := topS 18
theorem sc_told_by : FnScope ["line", "told", "pairs", "one", "other"] ["line", "told", "pairs"] (defScope s_told_by) := ⟨rfl, rfl, rfl, by decide +kernel, rfl, by decide +kernel, by decide +kernel⟩
theorem ok_told_by {f : Addr} {fd : FuncData} (F : Fun K "told_by" "told_by" s_told_by f fd) (hm : mg "told_by" = some (.ref f)) (hb : Binds K fd ["line", "told", "pairs"] []) (B : Blt mg) (G : Glb mg) (C_told_within : Fn P w K mg base 64 "told_within" cWithin []) (C_are_lines : Fn P w K mg base 2 "are_lines" cLines []) (C_is_term : Fn P w K mg base 63 "is_term" cTerm []) : Fn P w K mg base 65 "told_by" cTells [] := by
  refine defQ F hm hb .nil sc_told_by (fun ds S Q X ⟨_, _, _, _, _, _, _, _, e, _⟩ => by rw [e]; rfl) fun cdv A outer s H hr => ?_
  have hu1 := hu_of hr; have hu64 := hr.units
  refine ⟨_, (qs_cons (q_if (qt_w (qw_or (qt_not (qt_val (q_isi "tuple" (by rfl) B.isinstance (by rfl) B.tuple (by decide +kernel) (qv 0)))) (qw_or (qt_cmp op_lt ro_cmp (q_cb call_len ro_len (by rfl) B.len (by decide +kernel) (qa_cons (qv 0) qa_nil)) q_int (nomark _)) (qw_or1 (qt_not (qt_val (q_isi "str" (by rfl) B.isinstance (by rfl) B.str (by decide +kernel) (q_ix ix_seq ro_ix (qv 0) q_int)))))))) (qs_one (q_ret q_non)) qs_nil)
      (qs_cons (q_if (qt_cmp (op_eq2 hu64) ro_eq (q_ix ix_seq ro_ix (qv 0) q_int) q_str (nomark _)) (qs_one (q_ret (q_c (dds := []) C_told_within hr (by first | decide | omega) (by rfl) (qa_cons (qv 0) (qa_cons (qv 1) qa_nil))))) qs_nil)
      (qs_cons (q_if (qt_cmp (op_eq2 hu64) ro_eq (q_ix ix_seq ro_ix (qv 0) q_int) q_str (nomark _)) (qs_cons (q_if (qt_w (qw_and (qt_cmp (op_eq2 hu64) ro_eq (q_cb call_len ro_len (by rfl) B.len (by decide +kernel) (qa_cons (qv 0) qa_nil)) q_int (nomark _)) (qw_and1 (qt_val (q_c (dds := []) C_is_term hr (by first | decide | omega) (by rfl) (qa_cons (q_ix ix_seq ro_ix (qv 0) q_int) qa_nil)))))) (qs_one (q_ret (q_tup (qa_cons (q_ix ix_seq ro_ix (qv 0) q_int) (qa_cons (q_ix ix_seq ro_ix (qv 0) q_int) qa_nil))))) qs_nil)
      (qs_one (q_ret q_non))) qs_nil)
      (qs_cons (q_if (qt_cmp (op_eq2 hu64) ro_eq (q_ix ix_seq ro_ix (qv 0) q_int) q_str (nomark _)) (qs_cons (q_if (qt_w (qw_and (qt_cmp (op_eq2 hu64) ro_eq (q_cb call_len ro_len (by rfl) B.len (by decide +kernel) (qa_cons (qv 0) qa_nil)) q_int (nomark _)) (qw_and1 (qt_val (q_c (dds := []) C_are_lines hr (by first | decide | omega) (by rfl) (qa_cons (q_sl sl_3 ro_sl (qv 0) (qo_some q_int) qo_none) (qa_cons (q_cb call_len ro_len (by rfl) B.len (by decide +kernel) (qa_cons (qv 2) qa_nil)) qa_nil))))))) (qs_one (q_ret (q_tup (qa_cons (q_ix ix_seq ro_ix (q_ix ix_seq ro_ix (qv 2) (q_ix ix_seq ro_ix (qv 0) q_int)) q_int) (qa_cons (q_ix ix_seq ro_ix (q_ix ix_seq ro_ix (qv 2) (q_ix ix_seq ro_ix (qv 0) q_int)) q_int) qa_nil))))) qs_nil)
      (qs_one (q_ret q_non))) qs_nil)
      (qs_cons (q_if (qt_not (qt_val (q_c (dds := []) C_are_lines hr (by first | decide | omega) (by rfl) (qa_cons (q_sl sl_3 ro_sl (qv 0) (qo_some q_int) qo_none) (qa_cons (q_cb call_len ro_len (by rfl) B.len (by decide +kernel) (qa_cons (qv 1) qa_nil)) qa_nil))))) (qs_one (q_ret q_non)) qs_nil)
      (qs_cons (q_asg (vs := [3, 4]) (q_ix ix_seq ro_ix (qv 1) (q_ix ix_seq ro_ix (qv 0) q_int)) (qg_2 (i := 3) (j := 4) rfl sc_told_by.nd rfl (.inl rfl) rfl (.inl rfl)))
      (qs_cons (q_if (qt_w (qw_and (qt_cmp (op_eq2 hu64) ro_eq (q_ix ix_seq ro_ix (qv 0) q_int) q_str (nomark _)) (qw_and1 (qt_cmp (op_eq2 hu64) ro_eq (q_cb call_len ro_len (by rfl) B.len (by decide +kernel) (qa_cons (qv 0) qa_nil)) q_int (nomark _))))) (qs_one (q_ret (q_tup (qa_cons (qv 4) (qa_cons (qv 3) qa_nil))))) qs_nil)
      (qs_cons (q_if (qt_w (qw_and (qt_cmp (op_eq2 hu64) ro_eq (q_ix ix_seq ro_ix (qv 0) q_int) q_str (nomark _)) (qw_and (qt_cmp (op_eq2 hu64) ro_eq (q_cb call_len ro_len (by rfl) B.len (by decide +kernel) (qa_cons (qv 0) qa_nil)) q_int (nomark _)) (qw_and1 (qt_cmp (op_eq2 hu64) ro_eq (qv 4) (q_ix ix_seq ro_ix (q_ix ix_seq ro_ix (qv 1) (q_ix ix_seq ro_ix (qv 0) q_int)) q_int) (nomark _)))))) (qs_one (q_ret (q_tup (qa_cons (qv 3) (qa_cons (q_ix ix_seq ro_ix (q_ix ix_seq ro_ix (qv 1) (q_ix ix_seq ro_ix (qv 0) q_int)) q_int) qa_nil))))) qs_nil)
      (qs_one (q_ret q_non)))))))))), fun ds S Q X h => ?_⟩
  obtain ⟨dl, line, nt, td, tp, np, pd, pp, rfl, hs, hf, ht, hp, q⟩ := h
  simp only [wRet, wRetN, wIf, wSeq, wSkip, wBreak, wCont, wNever, wDrop, wAndV, wOrV, wNotV, wIfE, wTest, wAndT, wOrT, wNotT, wUn, wOp, wVar, wC, wCB, wNil, wCons, wTup, wLst, wCall, wCallX, wSl, wNoPart, wPart, wChain, wAsg, wSet, wAug, wPar, wFor, iLst, iTp, iRng, iEn, iSt, gNm, gTp, gNone, gMore, g2, g3, wLc, wYes, wLm, wDGet, wDIn, wDGet2, wDPut, wDNew, wDisp, wPs, wSm0, wSm1, wRev, wMaxD, wRaise, wKeep, gSet]
  refine ⟨_, rfl, shi_tup hs ?_⟩
  dsimp only
  refine iteB (fun h1 => ?_) fun h1 => ?_
  · rw [if_pos trivial]
    refine q _ _ Sub.refl ?_
    cases line <;> first | (simp [pT] at h1; done) | rfl
  · cases hs with
    | @tup ld lp hs =>
      have hll := hs.len
      have hf' : fine 62 (.tuple lp) = true := hf.elim id fun z => by cases z
      obtain ⟨n', en, _, hall⟩ := fine_tup hf'
      cases en
      refine ⟨_, rfl, ?_⟩
      show if decide ((ld.length : Int) < 2) = true then _ else _
      refine iteB (fun h2 => ?_) fun h2 => ?_
      · rw [if_pos trivial]
        have h2 := of_decide_eq_true h2
        refine q _ _ Sub.refl ?_
        match lp, hll with
        | [], _ => rfl
        | [a], _ => cases a <;> rfl
        | a :: b :: r, h => simp at h; omega
      · have h2 := of_decide_eq_false h2
        match ld, lp, hs, hll with
        | d0 :: d1 :: dr, p0 :: p1 :: pr, .cons s0 (.cons s1 sr), hll =>
          refine ⟨_, rfl, d0, atN (k := 0) rfl, shi_str s0 ?_⟩
          dsimp only
          refine iteB (fun h3 => ?_) fun h3 => ?_
          · refine q _ _ Sub.refl ?_
            cases p0 <;> first | (simp [pS] at h3; done) | rfl
          · cases s0 with
            | str x =>
              have hlr := sr.len
              refine ⟨_, rfl, _, atN (k := 0) rfl, ?_⟩
              show if decide (x = "in") = true then _ else _
              refine iteB (fun h4 => ?_) fun h4 => ?_
              · have h4 := of_decide_eq_true h4
                refine ⟨_, rfl, _, rfl, _, _, nt, td, tp, rfl, .cons (.str x) (.cons s1 sr), by simp, hall, ht, fun T d hT hO => q _ _ hT ?_⟩
                have e : tellsP tp pp (.tuple (.str x :: p1 :: pr)) = withinP tp (.str x :: p1 :: pr) := t_in h4
                rw [e]
                exact hO
              · have h4 := of_decide_eq_false h4
                refine ⟨_, rfl, _, atN (k := 0) rfl, ?_⟩
                show if decide (x = "self") = true then _ else _
                refine iteB (fun h5 => ?_) fun h5 => ?_
                · have h5 := of_decide_eq_true h5
                  have e : tellsP tp pp (.tuple (.str x :: p1 :: pr)) = selfP (p1 :: pr) := t_self h4 h5
                  rw [e] at q
                  refine ⟨_, rfl, ?_⟩
                  show if decide (((D.str x :: d1 :: dr).length : Int) = 2) = true then _ else _
                  refine iteB (fun h6 => ?_) fun h6 => ?_
                  · have h6 := of_decide_eq_true h6
                    match dr, pr, sr with
                    | [], [], .nil =>
                      refine ⟨_, rfl, d1, atN (k := 1) rfl, d1, p1, 61, rfl, s1, hall _ (by simp), fun T hT => ?_⟩
                      dsimp only
                      refine iteB (fun h7 => ?_) fun h7 => ?_
                      · refine ⟨_, rfl, d1, atN (k := 1) rfl, _, rfl, d1, atN (k := 1) rfl, (show 2 ≤ lineD by decide), q _ _ hT ?_⟩
                        have n1 := term_nil 60 s1 (of_decide_eq_true h7)
                        have e : selfP [p1] = some (p1, p1) := if_pos h7
                        rw [e]
                        exact .tup (.cons n1 (.cons n1 .nil))
                      · refine q _ _ hT ?_
                        have e : selfP [p1] = none := if_neg (by rw [h7]; simp)
                        rw [e]
                        rfl
                    | _ :: _, _ :: _, .cons _ _ => simp at h6; omega
                  · have h6 := of_decide_eq_false h6
                    rw [if_neg (by simp)]
                    refine q _ _ Sub.refl ?_
                    match dr, pr, sr with
                    | [], [], .nil => simp at h6
                    | _ :: _, _ :: _, .cons _ _ => rfl
                · have h5 := of_decide_eq_false h5
                  refine ⟨_, rfl, _, atN (k := 0) rfl, ?_⟩
                  show if decide (x = "told") = true then _ else _
                  refine iteB (fun h6 => ?_) fun h6 => ?_
                  · have h6 := of_decide_eq_true h6
                    have e : tellsP tp pp (.tuple (.str x :: p1 :: pr)) = toldP pp (p1 :: pr) := t_told h4 h5 h6
                    rw [e] at q
                    refine ⟨_, rfl, ?_⟩
                    show if decide (((D.str x :: d1 :: dr).length : Int) = 2) = true then _ else _
                    refine iteB (fun h7 => ?_) fun h7 => ?_
                    · have h7 := of_decide_eq_true h7
                      match dr, pr, sr with
                      | [], [], .nil =>
                        refine ⟨_, rfl, ?_⟩
                        show ∃ d, _ ∧ fLen [d] S fun d_1 S1 => cLines ([.tup (Qd.cutD (D.str x :: [d1]) (some 1) none), d_1] ++ []) S1 _ _
                        rw [cut1]
                        refine ⟨_, rfl, true, pd, hp.get, .tup [d1], [d1], [p1], pp.length, ?_, .inl rfl, .cons s1 .nil, (show 1 ≤ 1000 by decide), fun T hT => ?_⟩
                        · have e : pd.length = pp.length := by rw [hp.sh.len, List.length_map]
                          rw [e]
                          rfl
                        · dsimp only
                          refine iteB (fun h8 => ?_) fun h8 => ?_
                          · have e : toldP pp [p1] = some (pickP pp p1) := if_pos h8
                            rw [e] at q
                            obtain ⟨m, qq, rfl, hq, hpk⟩ := line_at h8 (k := p1) (by simp)
                            cases s1
                            obtain ⟨a, b, g1, g2, g3⟩ := hp.at hq
                            refine ⟨_, rfl, _, rfl, _, atN (k := 1) rfl, true, pd, _, hT _ _ hp.get, atN g1, _, atN (k := 0) rfl, ?_⟩
                            refine ⟨_, rfl, _, rfl, _, atN (k := 1) rfl, true, pd, _, hT _ _ hp.get, atN g1, _, atN (k := 1) rfl, (show 2 ≤ lineD by decide), q _ _ hT ?_⟩
                            rw [hpk]
                            exact .tup (.cons g2 (.cons g3 .nil))
                          · refine q _ _ hT ?_
                            have e : toldP pp [p1] = none := if_neg (by rw [h8]; simp)
                            rw [e]
                            rfl
                      | _ :: _, _ :: _, .cons _ _ => simp at h7; omega
                    · have h7 := of_decide_eq_false h7
                      rw [if_neg (by simp)]
                      refine q _ _ Sub.refl ?_
                      match dr, pr, sr with
                      | [], [], .nil => simp at h7
                      | _ :: _, _ :: _, .cons _ _ => rfl
                  · have h6 := of_decide_eq_false h6
                    have e : tellsP tp pp (.tuple (.str x :: p1 :: pr)) = if linesP (p1 :: pr) tp.length = true then moreP tp x (p1 :: pr) else none := t_more h4 h5 h6
                    rw [e] at q
                    have hl1000 : (p1 :: pr).length ≤ 1000 := by
                      obtain ⟨_, _, z, _⟩ := fine_tup hf'
                      simp at z ⊢
                      omega
                    refine ⟨_, rfl, ?_⟩
                    show ∃ d, _ ∧ fLen [d] S fun d_1 S1 => cLines ([.tup (Qd.cutD (D.str x :: d1 :: dr) (some 1) none), d_1] ++ []) S1 _ _
                    rw [cut1]
                    refine ⟨_, rfl, true, td, ht.get, .tup (d1 :: dr), d1 :: dr, p1 :: pr, tp.length, ?_, .inl rfl, .cons s1 sr, hl1000, fun T hT => ?_⟩
                    · have e : td.length = tp.length := by rw [ht.sh.len, List.length_map]
                      rw [e]
                      rfl
                    · dsimp only
                      refine iteB (fun h8 => ?_) fun h8 => ?_
                      · have h8 : linesP (p1 :: pr) tp.length = false := by simpa using h8
                        refine q _ _ hT ?_
                        rw [if_neg (by rw [h8]; simp)]
                        rfl
                      · have hg : linesP (p1 :: pr) tp.length = true := by simpa using h8
                        rw [if_pos hg] at q
                        obtain ⟨m, qq, e1, hq, hpk⟩ := line_at hg (k := p1) (by simp)
                        subst e1
                        cases s1
                        obtain ⟨a, b, g1, g2, g3⟩ := ht.at hq
                        refine ⟨_, rfl, _, rfl, _, atN (k := 1) rfl, true, td, _, hT _ _ ht.get, atN g1, ?_⟩
                        refine ⟨_, rfl, _, atN (k := 0) rfl, ?_⟩
                        show if decide (x = "back") = true then _ else _
                        refine iteB (fun h9 => ?_) fun h9 => ?_
                        · have h9 := of_decide_eq_true h9
                          refine ⟨_, rfl, ?_⟩
                          show if decide (((D.str x :: D.int ((m : Nat) : Int) :: dr).length : Int) = 2) = true then _ else _
                          refine iteB (fun h7 => ?_) fun h7 => ?_
                          · have h7 := of_decide_eq_true h7
                            match dr, pr, sr with
                            | [], [], .nil =>
                              refine ⟨_, rfl, _, rfl, (show 2 ≤ lineD by decide), q _ _ hT ?_⟩
                              have e : moreP tp x [.int ((m : Nat) : Int)] = some ((pickP tp (.int ((m : Nat) : Int))).2, (pickP tp (.int ((m : Nat) : Int))).1) := more_yes h9
                              rw [e, hpk]
                              exact .tup (.cons g3 (.cons g2 .nil))
                            | _ :: _, _ :: _, .cons _ _ => simp at h7; omega
                          · have h7 := of_decide_eq_false h7
                            refine ⟨_, rfl, _, atN (k := 0) rfl, ?_⟩
                            show if decide (x = "then") = true then _ else _
                            refine iteB (fun h10 => absurd (h9.symm.trans (of_decide_eq_true h10)) (by decide)) fun h10 => ?_
                            have h10 := of_decide_eq_false h10
                            rw [if_neg (by simp)]
                            refine q _ _ hT ?_
                            match dr, pr, sr with
                            | [], [], .nil => simp at h7
                            | [_], [_], .cons _ .nil => rw [more2_no h10]; rfl
                            | _ :: _ :: _, _ :: _ :: _, .cons _ (.cons _ _) => rfl
                        · have h9 := of_decide_eq_false h9
                          rw [if_neg (by simp)]
                          refine ⟨_, rfl, _, atN (k := 0) rfl, ?_⟩
                          show if decide (x = "then") = true then _ else _
                          refine iteB (fun h10 => ?_) fun h10 => ?_
                          · have h10 := of_decide_eq_true h10
                            subst h10
                            refine ⟨_, rfl, ?_⟩
                            show if decide (((D.str "then" :: D.int ((m : Nat) : Int) :: dr).length : Int) = 3) = true then _ else _
                            refine iteB (fun h7 => ?_) fun h7 => ?_
                            · have h7 := of_decide_eq_true h7
                              match dr, pr, sr with
                              | [], [], .nil => simp at h7
                              | _ :: _ :: _, _ :: _ :: _, .cons _ (.cons _ _) => simp at h7; omega
                              | [d2], [p2], .cons s2 .nil =>
                                obtain ⟨m2, q2, e2, hq2, hpk2⟩ := line_at hg (k := p2) (by simp)
                                subst e2
                                cases s2
                                obtain ⟨a2, b2, k1, k2, k3⟩ := ht.at hq2
                                refine ⟨_, rfl, _, rfl, _, rfl, _, atN (k := 2) rfl, true, td, _, hT _ _ ht.get, atN k1, _, atN (k := 0) rfl, ?_⟩
                                have f1 := ht.ok qq (List.mem_of_getElem? hq)
                                have f2 := ht.ok q2 (List.mem_of_getElem? hq2)
                                refine eq_data (sh_mono Sub.nil g3) (sh_mono Sub.nil k2) (fine_up f1.2.2.2 (by decide)) (fine_up f2.2.2.1 (by decide)) ?_
                                dsimp only
                                have e : moreP tp "then" [.int ((m : Nat) : Int), .int ((m2 : Nat) : Int)] = if ("then" : Str) = "then" ∧ PyData.eqv qq.2 q2.1 = true then some (qq.1, q2.2) else none := by
                                  show (if _ then _ else _) = _
                                  rw [hpk, hpk2]
                                rw [e] at q
                                refine iteB (fun h11 => ?_) fun h11 => ?_
                                · refine ⟨_, rfl, _, rfl, _, rfl, _, atN (k := 2) rfl, true, td, _, hT _ _ ht.get, atN k1, _, atN (k := 1) rfl, (show 2 ≤ lineD by decide), q _ _ hT ?_⟩
                                  rw [if_pos ⟨rfl, h11⟩]
                                  exact .tup (.cons g2 (.cons k3 .nil))
                                · refine q _ _ hT ?_
                                  rw [if_neg fun z => by rw [h11] at z; exact absurd z.2 (by decide)]
                                  rfl
                            · have h7 := of_decide_eq_false h7
                              rw [if_neg (by simp)]
                              refine q _ _ hT ?_
                              match dr, pr, sr with
                              | [], [], .nil => rw [more_no (by decide)]; rfl
                              | [_], [_], .cons _ .nil => simp at h7
                              | _ :: _ :: _, _ :: _ :: _, .cons _ (.cons _ _) => rfl
                          · have h10 := of_decide_eq_false h10
                            rw [if_neg (by simp)]
                            refine q _ _ hT ?_
                            match dr, pr, sr with
                            | [], [], .nil => rw [more_no h9]; rfl
                            | [_], [_], .cons _ .nil => rw [more2_no h10]; rfl
                            | _ :: _ :: _, _ :: _ :: _, .cons _ (.cons _ _) => rfl
            | _ => simp [pS] at h3
    | _ => simp [pT] at h1
end
end K78
set_option Elab.async false
set_option linter.all false
set_option maxRecDepth 100000
set_option maxHeartbeats 4000000
namespace K78
open PySem PySem.Spec PyProof.Rows L2 Qd
theorem beq_comm' {α : Type} [BEq α] [LawfulBEq α] (a b : α) : (a == b) = (b == a) := by
  rw [Bool.eq_iff_iff, beq_iff_eq, beq_iff_eq]
  exact eq_comm
mutual
theorem eqv_comm : ∀ p q : PyData, PyData.eqv p q = PyData.eqv q p
  | .none, q => by cases q <;> rfl
  | .bool a, q => by
    cases q with
    | bool b => cases a <;> cases b <;> rfl
    | int j => simp only [PyData.eqv]; exact beq_comm' _ _
    | _ => rfl
  | .int a, q => by
    cases q with
    | bool b => simp only [PyData.eqv]; exact beq_comm' _ _
    | int j => simp only [PyData.eqv]; exact beq_comm' _ _
    | _ => rfl
  | .str a, q => by
    cases q with
    | str j => simp only [PyData.eqv]; exact beq_comm' _ _
    | _ => rfl
  | .list xs, q => by
    cases q with
    | list ys => simp only [PyData.eqv]; exact eqv_commAll xs ys
    | _ => rfl
  | .tuple xs, q => by
    cases q with
    | tuple ys => simp only [PyData.eqv]; exact eqv_commAll xs ys
    | _ => rfl
  | .dict xs, q => by cases q <;> rfl
theorem eqv_commAll : ∀ p q : List PyData, PyData.eqvAll p q = PyData.eqvAll q p
  | [], [] => rfl
  | [], _ :: _ => rfl
  | _ :: _, [] => rfl
  | a :: as, b :: bs => by rw [PyData.eqvAll, PyData.eqvAll, eqv_comm a b, eqv_commAll as bs]
end
def wordsD : List D := [.str "told", .str "self", .str "back", .str "then", .str "in"]
def wordsP : List PyData := [.str "told", .str "self", .str "back", .str "then", .str "in"]
theorem words_py {S : Store} : Pys S wordsD wordsP := .cons (.str _) (.cons (.str _) (.cons (.str _) (.cons (.str _) (.cons (.str _) .nil))))
def inWords (x : Str) : Prop := x = "told" ∨ x = "self" ∨ x = "back" ∨ x = "then" ∨ x = "in"
instance {x : Str} : Decidable (inWords x) := by unfold inWords; infer_instance
theorem words_any (p : PyData) : (wordsP.any fun z => PyData.eqv z p) = (match p with | .str x => decide (inWords x) | _ => false) := by
  cases p with
  | str x =>
    simp only [wordsP, List.any_cons, List.any_nil, PyData.eqv, inWords]
    by_cases h1 : x = "told"
    · simp [h1]
    · by_cases h2 : x = "self"
      · simp [h2]
      · by_cases h3 : x = "back"
        · simp [h3]
        · by_cases h4 : x = "then"
          · simp [h4]
          · by_cases h5 : x = "in"
            · simp [h5]
            · have g1 : ¬ "told" = x := fun e => h1 e.symm
              have g2 : ¬ "self" = x := fun e => h2 e.symm
              have g3 : ¬ "back" = x := fun e => h3 e.symm
              have g4 : ¬ "then" = x := fun e => h4 e.symm
              have g5 : ¬ "in" = x := fun e => h5 e.symm
              simp [h1, h2, h3, h4, h5, g1, g2, g3, g4, g5]
  | _ => rfl
section
variable {P : Program} {w : World} {K : PySem.W.Frag} {mg : Str → Option Value} {base : Heap}
abbrev s__law_line_tells : Stmt := topS 30
theorem sc__law_line_tells : FnScope ["line", "told", "pairs", "one", "other"] ["line", "told", "pairs"] (defScope s__law_line_tells) := ⟨rfl, rfl, rfl, by decide +kernel, rfl, by decide +kernel, by decide +kernel⟩
theorem ok__law_line_tells {f : Addr} {fd : FuncData} (F : Fun K "_law_line_tells" "_law_line_tells" s__law_line_tells f fd) (hm : mg "_law_line_tells" = some (.ref f)) (hb : Binds K fd ["line", "told", "pairs"] []) (B : Blt mg) (G : Glb mg) (C__law_within : Fn P w K mg base 64 "_law_within" cWithin []) (C__law_are_lines : Fn P w K mg base 2 "_law_are_lines" cLines []) (C__law_sizes : Fn P w K mg base 63 "_law_sizes" (cSizes 61) []) : Fn P w K mg base 65 "_law_line_tells" cTells [] := by
  refine defQ F hm hb .nil sc__law_line_tells (fun ds S Q X ⟨_, _, _, _, _, _, _, _, e, _⟩ => by rw [e]; rfl) fun cdv A outer s H hr => ?_
  have hu1 := hu_of hr; have hu64 := hr.units; have hu65 : (A.deeper (envOfC "_law_line_tells" (defScope s__law_line_tells) s.heap.objs.size f cdv)).units + 65 < cLine := by have := hr.un; omega
  refine ⟨_, (qs_cons (q_if (qt_w (qw_or (qt_not (qt_val (q_isi "tuple" (by rfl) B.isinstance (by rfl) B.tuple (by decide +kernel) (qv 0)))) (qw_or (qt_cmp op_lt ro_cmp (q_cb call_len ro_len (by rfl) B.len (by decide +kernel) (qa_cons (qv 0) qa_nil)) q_int (nomark _)) (qw_or1 (qt_cmp (op_notInA hu65) ro_notInA (q_ix ix_seq ro_ix (qv 0) q_int) (q_tup (qa_cons q_str (qa_cons q_str (qa_cons q_str (qa_cons q_str (qa_cons q_str qa_nil)))))) (by rfl)))))) (qs_one (q_ret q_non)) qs_nil)
      (qs_cons (q_if (qt_cmp (op_eq2 hu64) ro_eq (q_ix ix_seq ro_ix (qv 0) q_int) q_str (nomark _)) (qs_one (q_ret (q_c (dds := []) C__law_within hr (by first | decide | omega) (by rfl) (qa_cons (qv 0) (qa_cons (qv 1) qa_nil))))) qs_nil)
      (qs_cons (q_if (qt_cmp (op_ne2 hu64) ro_ne (q_cb call_len ro_len (by rfl) B.len (by decide +kernel) (qa_cons (qv 0) qa_nil)) (q_op op_add4 ro_add q_int (q_ct call_int1 ro_int (by rfl) B.int (by decide +kernel) (qa_cons (q_cmp (op_eq2 hu64) ro_eq (q_ix ix_seq ro_ix (qv 0) q_int) q_str (nomark _)) qa_nil))) (nomark _)) (qs_one (q_ret q_non)) qs_nil)
      (qs_cons (q_if (qt_cmp (op_eq2 hu64) ro_eq (q_ix ix_seq ro_ix (qv 0) q_int) q_str (nomark _)) (qs_one (q_ret (q_ifE (qt_cmp (op_eq2 hu64) ro_eq (q_c (dds := []) C__law_sizes hr (by first | decide | omega) (by rfl) (qa_cons (q_ix ix_seq ro_ix (qv 0) q_int) qa_nil)) (q_tup (qa_cons q_int (qa_cons q_int qa_nil))) (nomark _)) q_non (q_tup (qa_cons (q_ix ix_seq ro_ix (qv 0) q_int) (qa_cons (q_ix ix_seq ro_ix (qv 0) q_int) qa_nil)))))) qs_nil)
      (qs_cons (q_if (qt_cmp (op_eq2 hu64) ro_eq (q_ix ix_seq ro_ix (qv 0) q_int) q_str (nomark _)) (qs_one (q_ret (q_ifE (qt_val (q_c (dds := []) C__law_are_lines hr (by first | decide | omega) (by rfl) (qa_cons (q_sl sl_3 ro_sl (qv 0) (qo_some q_int) qo_none) (qa_cons (q_cb call_len ro_len (by rfl) B.len (by decide +kernel) (qa_cons (qv 2) qa_nil)) qa_nil)))) (q_ix ix_seq ro_ix (qv 2) (q_ix ix_seq ro_ix (qv 0) q_int)) q_non))) qs_nil)
      (qs_cons (q_if (qt_not (qt_val (q_c (dds := []) C__law_are_lines hr (by first | decide | omega) (by rfl) (qa_cons (q_sl sl_3 ro_sl (qv 0) (qo_some q_int) qo_none) (qa_cons (q_cb call_len ro_len (by rfl) B.len (by decide +kernel) (qa_cons (qv 1) qa_nil)) qa_nil))))) (qs_one (q_ret q_non)) qs_nil)
      (qs_cons (q_asg (vs := [3, 4]) (q_ix ix_seq ro_ix (qv 1) (q_ix ix_seq ro_ix (qv 0) q_int)) (qg_2 (i := 3) (j := 4) rfl sc__law_line_tells.nd rfl (.inl rfl) rfl (.inl rfl)))
      (qs_cons (q_if (qt_cmp (op_eq2 hu64) ro_eq (q_ix ix_seq ro_ix (qv 0) q_int) q_str (nomark _)) (qs_one (q_ret (q_tup (qa_cons (qv 4) (qa_cons (qv 3) qa_nil))))) qs_nil)
      (qs_one (q_ret (q_ifE (qt_cmp (op_eq2 hu64) ro_eq (q_ix ix_seq ro_ix (q_ix ix_seq ro_ix (qv 1) (q_ix ix_seq ro_ix (qv 0) q_int)) q_int) (qv 4) (nomark _)) (q_tup (qa_cons (qv 3) (qa_cons (q_ix ix_seq ro_ix (q_ix ix_seq ro_ix (qv 1) (q_ix ix_seq ro_ix (qv 0) q_int)) q_int) qa_nil))) q_non))))))))))), fun ds S Q X h => ?_⟩
  obtain ⟨dl, line, nt, td, tp, np, pd, pp, rfl, hs, hf, ht, hp, q⟩ := h
  simp only [wRet, wRetN, wIf, wSeq, wSkip, wBreak, wCont, wNever, wDrop, wAndV, wOrV, wNotV, wIfE, wTest, wAndT, wOrT, wNotT, wUn, wOp, wVar, wC, wCB, wNil, wCons, wTup, wLst, wCall, wCallX, wSl, wNoPart, wPart, wChain, wAsg, wSet, wAug, wPar, wFor, iLst, iTp, iRng, iEn, iSt, gNm, gTp, gNone, gMore, g2, g3, wLc, wYes, wLm, wDGet, wDIn, wDGet2, wDPut, wDNew, wDisp, wPs, wSm0, wSm1, wRev, wMaxD, wRaise, wKeep, gSet]
  refine ⟨_, rfl, shi_tup hs ?_⟩
  dsimp only
  refine iteB (fun h1 => ?_) fun h1 => ?_
  · rw [if_pos trivial]
    refine q _ _ Sub.refl ?_
    cases line <;> first | (simp [pT] at h1; done) | rfl
  · cases hs with
    | @tup ld lp hs =>
      have hll := hs.len
      have hf' : fine 62 (.tuple lp) = true := hf.elim id fun z => by cases z
      obtain ⟨n', en, hl1000, hall⟩ := fine_tup hf'
      cases en
      refine ⟨_, rfl, ?_⟩
      show if decide ((ld.length : Int) < 2) = true then _ else _
      refine iteB (fun h2 => ?_) fun h2 => ?_
      · rw [if_pos trivial]
        have h2 := of_decide_eq_true h2
        refine q _ _ Sub.refl ?_
        match lp, hll with
        | [], _ => rfl
        | [a], _ => cases a <;> rfl
        | a :: b :: r, h => simp at h; omega
      · have h2 := of_decide_eq_false h2
        match ld, lp, hs, hll with
        | d0 :: d1 :: dr, p0 :: p1 :: pr, .cons s0 (.cons s1 sr), hll =>
          have f0 := hall p0 (by simp)
          have f1 := hall p1 (by simp)
          refine ⟨_, rfl, d0, atN (k := 0) rfl, (show 5 ≤ lineD by decide), p0, wordsP, s0.py (fine_all _ _ f0).2.2.1, .inr (.tup words_py), fine_shaped f0 (by decide), by decide +kernel, ?_⟩
          show if (!(wordsP.any fun z => PyData.eqv z p0)) = true then _ else _
          rw [words_any]
          refine iteB (fun h3 => ?_) fun h3 => ?_
          · refine q _ _ Sub.refl ?_
            cases p0 with
            | str x =>
              have h3 : ¬ inWords x := of_decide_eq_false (by simpa using h3)
              have h4 : ¬ x = "in" := fun e => h3 (by unfold inWords; simp [e])
              have h5 : ¬ x = "self" := fun e => h3 (by unfold inWords; simp [e])
              have h6 : ¬ x = "told" := fun e => h3 (by unfold inWords; simp [e])
              have h7 : ¬ x = "back" := fun e => h3 (by unfold inWords; simp [e])
              have h8 : ¬ x = "then" := fun e => h3 (by unfold inWords; simp [e])
              have e : tellsP tp pp (.tuple (.str x :: p1 :: pr)) = if linesP (p1 :: pr) tp.length = true then moreP tp x (p1 :: pr) else none := t_more h4 h5 h6
              have e2 : moreP tp x (p1 :: pr) = none := by
                match pr with
                | [] => exact more_no h7
                | [_] => exact more2_no h8
                | _ :: _ :: _ => rfl
              rw [e, e2]
              simp
              rfl
            | _ => rfl
          · cases s0 with
            | str x =>
              have hw : inWords x := of_decide_eq_true (by simpa using h3)
              have hlr := sr.len
              refine ⟨_, rfl, _, atN (k := 0) rfl, ?_⟩
              show if decide (x = "in") = true then _ else _
              refine iteB (fun h4 => ?_) fun h4 => ?_
              · have h4 := of_decide_eq_true h4
                refine ⟨_, rfl, _, rfl, _, _, nt, td, tp, rfl, .cons (.str x) (.cons s1 sr), by simp, hall, ht, fun T d hT hO => q _ _ hT ?_⟩
                have e : tellsP tp pp (.tuple (.str x :: p1 :: pr)) = withinP tp (.str x :: p1 :: pr) := t_in h4
                rw [e]
                exact hO
              · have h4 := of_decide_eq_false h4
                refine ⟨_, rfl, _, rfl, _, atN (k := 0) rfl, ?_⟩
                show if (!decide (((D.str x :: d1 :: dr).length : Int) = 2 + (if decide (x = "then") = true then (1 : Int) else 0))) = true then _ else _
                have len2 : ((D.str x :: d1 :: dr).length : Int) = 2 + (dr.length : Int) := by simp; omega
                rw [len2]
                refine iteB (fun h5 => ?_) fun h5 => ?_
                · have h5 : ¬ (2 + (dr.length : Int) = 2 + (if decide (x = "then") = true then (1 : Int) else 0)) := of_decide_eq_false (by simpa using h5)
                  refine q _ _ Sub.refl ?_
                  by_cases ht' : x = "then"
                  · have e : tellsP tp pp (.tuple (.str x :: p1 :: pr)) = if linesP (p1 :: pr) tp.length = true then moreP tp x (p1 :: pr) else none := t_more h4 (by rw [ht']; decide) (by rw [ht']; decide)
                    have hd1 : dr.length ≠ 1 := fun z => h5 (by rw [if_pos (by simp [ht']), z]; rfl)
                    have e2 : moreP tp x (p1 :: pr) = none := by
                      match pr, hlr with
                      | [], _ => exact more_no (by rw [ht']; decide)
                      | [_], z => exact absurd z hd1
                      | _ :: _ :: _, _ => rfl
                    rw [e, e2]
                    simp
                    rfl
                  · have hd0 : dr.length ≠ 0 := fun z => h5 (by rw [if_neg (by simp [ht']), z]; rfl)
                    match pr, hlr with
                    | [], z => exact absurd z hd0
                    | p2 :: ps, _ =>
                      by_cases hx : x = "self"
                      · have e : tellsP tp pp (.tuple (.str x :: p1 :: p2 :: ps)) = selfP (p1 :: p2 :: ps) := t_self h4 hx
                        rw [e]; rfl
                      · by_cases hy : x = "told"
                        · have e : tellsP tp pp (.tuple (.str x :: p1 :: p2 :: ps)) = toldP pp (p1 :: p2 :: ps) := t_told h4 hx hy
                          rw [e]; rfl
                        · have e : tellsP tp pp (.tuple (.str x :: p1 :: p2 :: ps)) = if linesP (p1 :: p2 :: ps) tp.length = true then moreP tp x (p1 :: p2 :: ps) else none := t_more h4 hx hy
                          have e2 : moreP tp x (p1 :: p2 :: ps) = none := by
                            match ps with
                            | [] => exact more2_no ht'
                            | _ :: _ => rfl
                          rw [e, e2]
                          simp
                          rfl
                · have h5 : 2 + (dr.length : Int) = 2 + (if decide (x = "then") = true then (1 : Int) else 0) := of_decide_eq_true (by simpa using h5)
                  refine ⟨_, rfl, _, atN (k := 0) rfl, ?_⟩
                  show if decide (x = "self") = true then _ else _
                  refine iteB (fun h6 => ?_) fun h6 => ?_
                  · have h6 := of_decide_eq_true h6
                    have e : tellsP tp pp (.tuple (.str x :: p1 :: pr)) = selfP (p1 :: pr) := t_self h4 h6
                    rw [e] at q
                    rw [if_neg (show ¬ (decide (x = "then") = true) from fun z => absurd (h6.symm.trans (of_decide_eq_true z)) (by decide))] at h5
                    match dr, pr, sr with
                    | _ :: _, _ :: _, .cons _ _ => simp at h5; omega
                    | [], [], .nil =>
                      refine ⟨_, rfl, d1, atN (k := 1) rfl, d1, p1, rfl, s1, f1, fun T hT => ⟨(show 2 ≤ lineD by decide), ?_⟩⟩
                      refine ⟨prP (sizesP 61 p1), prP (0, 0), .tup (.cons (.int _) (.cons (.int _) .nil)), .tup (.cons (.int 0) (.cons (.int 0) .nil)), ?_, by decide, ?_⟩
                      · have := shaped_pr [sizesP 61 p1]
                        rfl
                      · show if PyData.eqv (prP (sizesP 61 p1)) (.tuple [.int 0, .int 0]) = true then _ else _
                        rw [eqv_pr]
                        have ts := term_sizes f1
                        refine iteB (fun h7 => ?_) fun h7 => ?_
                        · have h7 := of_decide_eq_true h7
                          refine q _ _ hT ?_
                          have e : selfP [p1] = none := if_neg (by rw [ts, h7]; simp)
                          rw [e]
                          rfl
                        · have h7 := of_decide_eq_false h7
                          have htt : termP p1 = true := by rw [ts]; exact decide_eq_true h7
                          have n1 := term_nil 60 s1 (of_decide_eq_true htt)
                          refine ⟨_, rfl, d1, atN (k := 1) rfl, _, rfl, d1, atN (k := 1) rfl, (show 2 ≤ lineD by decide), q _ _ hT ?_⟩
                          have e : selfP [p1] = some (p1, p1) := if_pos htt
                          rw [e]
                          exact .tup (.cons n1 (.cons n1 .nil))
                  · have h6 := of_decide_eq_false h6
                    refine ⟨_, rfl, _, atN (k := 0) rfl, ?_⟩
                    show if decide (x = "told") = true then _ else _
                    refine iteB (fun h7 => ?_) fun h7 => ?_
                    · have h7 := of_decide_eq_true h7
                      have e : tellsP tp pp (.tuple (.str x :: p1 :: pr)) = toldP pp (p1 :: pr) := t_told h4 h6 h7
                      rw [e] at q
                      rw [if_neg (show ¬ (decide (x = "then") = true) from fun z => absurd (h7.symm.trans (of_decide_eq_true z)) (by decide))] at h5
                      match dr, pr, sr with
                      | _ :: _, _ :: _, .cons _ _ => simp at h5; omega
                      | [], [], .nil =>
                        refine ⟨_, rfl, ?_⟩
                        show ∃ d, _ ∧ fLen [d] S fun d_1 S1 => cLines ([.tup (Qd.cutD (D.str x :: [d1]) (some 1) none), d_1] ++ []) S1 _ _
                        rw [cut1]
                        refine ⟨_, rfl, true, pd, hp.get, .tup [d1], [d1], [p1], pp.length, ?_, .inl rfl, .cons s1 .nil, (show 1 ≤ 1000 by decide), fun T hT => ?_⟩
                        · have e : pd.length = pp.length := by rw [hp.sh.len, List.length_map]
                          rw [e]
                          rfl
                        · dsimp only
                          refine iteB (fun h8 => ?_) fun h8 => ?_
                          · have e : toldP pp [p1] = some (pickP pp p1) := if_pos h8
                            rw [e] at q
                            obtain ⟨m, qq, rfl, hq, hpk⟩ := line_at h8 (k := p1) (by simp)
                            cases s1
                            obtain ⟨a, b, g1, g2, g3⟩ := hp.at hq
                            refine ⟨_, rfl, _, rfl, _, atN (k := 1) rfl, true, pd, _, hT _ _ hp.get, atN g1, q _ _ hT ?_⟩
                            rw [hpk]
                            exact .tup (.cons g2 (.cons g3 .nil))
                          · refine q _ _ hT ?_
                            have e : toldP pp [p1] = none := if_neg (by rw [h8]; simp)
                            rw [e]
                            rfl
                    · have h7 := of_decide_eq_false h7
                      have e : tellsP tp pp (.tuple (.str x :: p1 :: pr)) = if linesP (p1 :: pr) tp.length = true then moreP tp x (p1 :: pr) else none := t_more h4 h6 h7
                      rw [e] at q
                      refine ⟨_, rfl, ?_⟩
                      show ∃ d, _ ∧ fLen [d] S fun d_1 S1 => cLines ([.tup (Qd.cutD (D.str x :: d1 :: dr) (some 1) none), d_1] ++ []) S1 _ _
                      rw [cut1]
                      refine ⟨_, rfl, true, td, ht.get, .tup (d1 :: dr), d1 :: dr, p1 :: pr, tp.length, ?_, .inl rfl, .cons s1 sr, (by simp at hl1000 ⊢; omega), fun T hT => ?_⟩
                      · have e : td.length = tp.length := by rw [ht.sh.len, List.length_map]
                        rw [e]
                        rfl
                      · dsimp only
                        refine iteB (fun h8 => ?_) fun h8 => ?_
                        · have h8 : linesP (p1 :: pr) tp.length = false := by simpa using h8
                          refine q _ _ hT ?_
                          rw [if_neg (by rw [h8]; simp)]
                          rfl
                        · have hg : linesP (p1 :: pr) tp.length = true := by simpa using h8
                          rw [if_pos hg] at q
                          obtain ⟨m, qq, e1, hq, hpk⟩ := line_at hg (k := p1) (by simp)
                          subst e1
                          cases s1
                          obtain ⟨a, b, g1, g2, g3⟩ := ht.at hq
                          refine ⟨_, rfl, _, rfl, _, atN (k := 1) rfl, true, td, _, hT _ _ ht.get, atN g1, ?_⟩
                          refine ⟨_, rfl, _, atN (k := 0) rfl, ?_⟩
                          show if decide (x = "back") = true then _ else _
                          refine iteB (fun h9 => ?_) fun h9 => ?_
                          · have h9 := of_decide_eq_true h9
                            rw [if_neg (show ¬ (decide (x = "then") = true) from fun z => absurd (h9.symm.trans (of_decide_eq_true z)) (by decide))] at h5
                            match dr, pr, sr with
                            | _ :: _, _ :: _, .cons _ _ => simp at h5; omega
                            | [], [], .nil =>
                              refine ⟨_, rfl, _, rfl, (show 2 ≤ lineD by decide), q _ _ hT ?_⟩
                              have e : moreP tp x [.int ((m : Nat) : Int)] = some ((pickP tp (.int ((m : Nat) : Int))).2, (pickP tp (.int ((m : Nat) : Int))).1) := more_yes h9
                              rw [e, hpk]
                              exact .tup (.cons g3 (.cons g2 .nil))
                          · have h9 := of_decide_eq_false h9
                            have h10 : x = "then" := by
                              rcases hw with z | z | z | z | z
                              · exact absurd z h7
                              · exact absurd z h6
                              · exact absurd z h9
                              · exact z
                              · exact absurd z h4
                            rw [if_pos (by simp [h10])] at h5
                            match dr, pr, sr with
                            | [], [], .nil => simp at h5
                            | _ :: _ :: _, _ :: _ :: _, .cons _ (.cons _ _) => simp at h5; omega
                            | [d2], [p2], .cons s2 .nil =>
                              obtain ⟨m2, q2, e2, hq2, hpk2⟩ := line_at hg (k := p2) (by simp)
                              subst e2
                              cases s2
                              obtain ⟨a2, b2, k1, k2, k3⟩ := ht.at hq2
                              refine ⟨_, rfl, _, rfl, _, atN (k := 2) rfl, true, td, _, hT _ _ ht.get, atN k1, _, atN (k := 0) rfl, _, rfl, ?_⟩
                              have f1 := ht.ok qq (List.mem_of_getElem? hq)
                              have f2 := ht.ok q2 (List.mem_of_getElem? hq2)
                              refine eq_data (sh_mono Sub.nil k2) (sh_mono Sub.nil g3) (fine_up f2.2.2.1 (by decide)) (fine_up f1.2.2.2 (by decide)) ?_
                              dsimp only
                              have e : moreP tp x [.int ((m : Nat) : Int), .int ((m2 : Nat) : Int)] = if x = "then" ∧ PyData.eqv qq.2 q2.1 = true then some (qq.1, q2.2) else none := by
                                show (if _ then _ else _) = _
                                rw [hpk, hpk2]
                              rw [e, eqv_comm] at q
                              refine iteB (fun h11 => ?_) fun h11 => ?_
                              · refine ⟨_, rfl, _, rfl, _, rfl, _, atN (k := 2) rfl, true, td, _, hT _ _ ht.get, atN k1, _, atN (k := 1) rfl, (show 2 ≤ lineD by decide), q _ _ hT ?_⟩
                                rw [if_pos ⟨h10, h11⟩]
                                exact .tup (.cons g2 (.cons k3 .nil))
                              · refine q _ _ hT ?_
                                rw [if_neg fun z => by rw [h11] at z; exact absurd z.2 (by decide)]
                                rfl
            | _ => simp at h3
    | _ => simp [pT] at h1
end
end K78
set_option Elab.async false
set_option linter.all false
set_option maxRecDepth 100000
set_option maxHeartbeats 4000000
namespace K78
open PySem PySem.Spec PyProof.Rows L2 Qd
def runP (pp : List (PyData × PyData)) : List PyData → List (PyData × PyData) → Option (List (PyData × PyData))
  | [], tp => some tp
  | l :: ls, tp => match tellsP tp pp l with
    | none => none
    | some q => runP pp ls (tp ++ [q])
def dueP (pp : List (PyData × PyData)) (lp : List PyData) : Option (List (PyData × PyData)) := if lp = [] then none else runP pp lp []
def okQ (q : PyData × PyData) : Prop := termP q.1 = true ∧ termP q.2 = true ∧ fine 60 q.1 = true ∧ fine 60 q.2 = true
theorem tells_tok {tp pp : List (PyData × PyData)} {line : PyData} {q : PyData × PyData} (ht : Tok tp) (hp : Tok pp) (hf : fineL line) (h : tellsP tp pp line = some q) : okQ q := by
  have pk : ∀ {rr : List (PyData × PyData)} {ks : List PyData} {k : PyData}, Tok rr → linesP ks rr.length = true → k ∈ ks → okQ (pickP rr k) := fun hr hg hk => by
    obtain ⟨m, qq, _, hq, e⟩ := line_at hg hk
    rw [e]
    exact hr qq (List.mem_of_getElem? hq)
  unfold tellsP at h
  split at h
  · rename_i x p r
    have hf' : fine 62 (.tuple (.str x :: p :: r)) = true := hf.elim id fun z => by cases z
    obtain ⟨n', en, _, hall⟩ := fine_tup hf'
    cases en
    unfold tells1 at h
    split at h
    · -- in
      unfold withinP at h
      split at h
      · rename_i nm ks heq
        split at h
        · rename_i hh
          obtain ⟨h1, h2, h3, h4, h5⟩ := hh
          cases h
          have e : PyData.str x :: p :: r = [_, nm, .list ks] := heq
          have hnm : nm ∈ PyData.str x :: p :: r := by rw [e]; simp
          have f0 : fine 60 nm = true := name_fine 61 60 h1 (hall nm hnm)
          have g1 := fine_made (fun q => q.1) f0 h2 fun k hk => (tok_pick ht h3 hk).1
          have g2 := fine_made (fun q => q.2) f0 h2 fun k hk => (tok_pick ht h3 hk).2
          exact ⟨h4, h5, term_fine g1 h4, term_fine g2 h5⟩
        · cases h
      · cases h
    · split at h
      · match r, h with
        | [], h =>
          have h1 : (if termP p = true then some (p, p) else none) = some q := h
          split at h1
          · rename_i ht
            cases h1
            exact ⟨ht, ht, term_fine (hall p (by simp)) ht, term_fine (hall p (by simp)) ht⟩
          · cases h1
        | _ :: _, h => cases h
      · split at h
        · match r, h with
          | [], h =>
            have h1 : (if linesP [p] pp.length = true then some (pickP pp p) else none) = some q := h
            split at h1
            · rename_i hg
              cases h1
              exact pk hp hg (by simp)
            · cases h1
          | _ :: _, h => cases h
        · split at h
          · rename_i hg
            match r, h, hg with
            | [], h, hg =>
              have h1 : (if x = "back" then some ((pickP tp p).2, (pickP tp p).1) else none) = some q := h
              split at h1
              · cases h1
                have := pk (k := p) ht hg (by simp)
                exact ⟨this.2.1, this.1, this.2.2.2, this.2.2.1⟩
              · cases h1
            | [l], h, hg =>
              have h1 : (if x = "then" ∧ PyData.eqv (pickP tp p).2 (pickP tp l).1 = true then some ((pickP tp p).1, (pickP tp l).2) else none) = some q := h
              split at h1
              · cases h1
                have h1 := pk (k := p) ht hg (by simp)
                have h2 := pk (k := l) ht hg (by simp)
                exact ⟨h1.1, h2.2.1, h1.2.2.1, h2.2.2.2⟩
              · cases h1
            | _ :: _ :: _, h, _ => cases h
          · cases h
  · cases h
theorem Sub_setN {S T : Store} {n : Nat} {c : Cell} (h : Sub S T) (hn : S.length ≤ n) : Sub S (T.set n c) := fun m d e => by
  have hm := (List.getElem?_eq_some_iff.mp e).1
  rw [List.getElem?_set_ne (by omega)]
  exact h m d e
structure LD (S : Store) (nl : Nat) (ld : List D) (lp : List PyData) : Prop where
  get : S[nl]? = some (.lst true ld)
  sh : Shs S ld lp
  ok : ∀ p ∈ lp, fineL p
  len : lp.length ≤ 50
theorem LD.mono {S T : Store} {nl : Nat} {ld : List D} {lp : List PyData} (h : LD S nl ld lp) (m : Sub S T) : LD T nl ld lp := ⟨m _ _ h.get, shs_mono m h.sh, h.ok, h.len⟩
section
variable {P : Program} {w : World} {K : PySem.W.Frag} {mg : Str → Option Value} {base : Heap}
theorem told_loop {S S1 : Store} {nl np : Nat} {ld : List D} {lp : List PyData} {pd : List D} {pp : List (PyData × PyData)} {out : WS} {G : Go} {X : XQ} (hS : Sub S S1) (hl : LD S nl ld lp) (hp : TD S np pd pp)
    (hout : ∀ nx bk ct e T, Sub S T → runP pp lp [] = none → out ⟨nx, G.rt, bk, ct⟩ e T X) (hnx : ∀ e T td tp, Sub S T → runP pp lp [] = some tp → TD T S1.length td tp → e[2]? = some (some (.loc S1.length)) → G.nx e T) (hn : S.length ≤ S1.length) :
    wLoop (gNm 3) (wSeq (wSet 4 (wCall cTells [] (wCons (wVar 3) (wCons (wVar 2) (wCons (wVar 1) wNil))))) (wSeq (wIf (wTest (wUn (fIs false) (wVar 4))) out wSkip) (wDrop (wLm fAppend (wVar 2) (wCons (wVar 4) wNil)))))
      (fun s => ∃ w, s[nl]? = some (.lst w ld)) G X ld [some (.loc nl), some (.loc np), some (.loc S1.length), none, none] (S1 ++ [.lst true []]) := by
  refine loop_by (fun i e S' => ∃ td tp x3 x4, e = [some (.loc nl), some (.loc np), some (.loc S1.length), x3, x4] ∧ Sub S S' ∧ TD S' S1.length td tp ∧ tp.length = i ∧ runP pp (lp.drop i) tp = runP pp lp []) ⟨[], [], none, none, rfl, hS.to, ⟨last_get, .nil, fun q hq => by simp at hq, by simp⟩, rfl, by simp⟩ (fun i e S' ⟨_, _, _, _, _, h, _⟩ => ⟨true, h _ _ hl.get⟩) (fun i d hd e S' ⟨td, tp, x3, x4, he, hs, ht, hi, hr⟩ R hR => ?_) (fun e S' ⟨td, tp, x3, x4, he, hs, ht, hi, hr⟩ => ?_)
  · subst he
    obtain ⟨line, hline, sl⟩ := hl.sh.getD hd
    have hil := (List.getElem?_eq_some_iff.mp hline)
    have hdrop : lp.drop i = line :: lp.drop (i + 1) := by rw [List.drop_eq_getElem_cons hil.1, hil.2]
    rw [hdrop] at hr
    have hfl := hl.ok line (List.mem_of_getElem? hline)
    simp only [wRet, wRetN, wIf, wSeq, wSkip, wBreak, wCont, wNever, wDrop, wAndV, wOrV, wNotV, wIfE, wTest, wAndT, wOrT, wNotT, wUn, wOp, wVar, wC, wCB, wNil, wCons, wTup, wLst, wCall, wCallX, wSl, wNoPart, wPart, wChain, wAsg, wSet, wAug, wPar, wFor, iLst, iTp, iRng, iEn, iSt, gNm, gTp, gNone, gMore, g2, g3, wLc, wYes, wLm, wDGet, wDIn, wDGet2, wDPut, wDNew, wDisp, wPs, wSm0, wSm1, wRev, wMaxD, wRaise, wKeep, gSet]
    refine ⟨d, rfl, _, rfl, _, rfl, d, line, S1.length, td, tp, np, pd, pp, rfl, sh_mono hs sl, hfl, ht, hp.mono hs, fun T x hT hO => ?_⟩
    refine ⟨x, rfl, ?_⟩
    show if isNon x = true then _ else _
    cases hq : tellsP tp pp line with
    | none =>
      rw [hq] at hO
      have hx : x = .non := hO
      subst hx
      refine iteT ?_
      refine hout _ _ _ _ _ (hs.trans hT) ?_
      rw [← hr, runP, hq]
    | some qq =>
      rw [hq] at hO
      have hx : Sh [] x (pairP qq) := hO
      have hn0 : isNon x = false := by cases hx; rfl
      rw [hn0]
      refine iteF ?_
      have ht2 := ht.mono hT
      have hok := tells_tok ht.ok hp.ok hfl hq
      refine ⟨_, rfl, ⟨true, td, ht2.get⟩, _, rfl, td, ht2.get, ?_, ?_⟩
      · have := ht.len
        have e : td.length = tp.length := by rw [ht.sh.len, List.length_map]
        rw [e]
        exact Nat.lt_of_le_of_lt this (by decide)
      · have hlt : S1.length < T.length := (List.getElem?_eq_some_iff.mp ht2.get).1
        refine hR _ _ ⟨td ++ [x], tp ++ [qq], some d, some x, rfl, Sub_setN (hs.trans hT) hn, ⟨by rw [List.getElem?_set_self hlt], ?_, ?_, ?_⟩, by simp [hi], ?_⟩
        · rw [List.map_append]
          exact ht.sh.append (.cons hx .nil)
        · intro q hq'
          rcases List.mem_append.mp hq' with z | z
          · exact ht.ok q z
          · rw [List.mem_singleton.mp z]; exact hok
        · have := hl.len
          rw [List.length_append, hi]
          have := hil.1
          show i + 1 ≤ 100
          omega
        · rw [← hr, runP, hq]
  · subst he
    have hlen := hl.sh.len
    rw [hlen, List.drop_length] at hr
    exact hnx _ S' td tp hs hr.symm ht rfl
def cBorne (NR : Addr) : Con := fun ds S Q X => ∃ nl ld lp np pd pp, ds = [.loc nl, .loc np] ∧ LD S nl ld lp ∧ TD S np pd pp ∧ (∀ T, Sub S T → dueP pp lp = none → X NR T) ∧ (∀ T n td tp, Sub S T → dueP pp lp = some tp → TD T n td tp → Q (.loc n) T)
abbrev s_borne : Stmt := topS 19
theorem sc_borne : FnScope ["lines", "pairs", "told", "line", "found"] ["lines", "pairs"] (defScope s_borne) := ⟨rfl, rfl, rfl, by decide +kernel, rfl, by decide +kernel, by decide +kernel⟩
theorem ok_borne {NR EE : Addr} {f : Addr} {fd : FuncData} (F : Fun K "borne" "borne" s_borne f fd) (hm : mg "borne" = some (.ref f)) (hb : Binds K fd ["lines", "pairs"] []) (B : Blt mg) (G : Glb mg) (R : RC K mg NR EE) (C_told_by : Fn P w K mg base 65 "told_by" cTells []) : FnX P w K mg base 66 "borne" (cBorne NR) := by
  refine defX F hm hb sc_borne (fun ds S Q X ⟨_, _, _, _, _, _, e, _⟩ => by rw [e]; rfl) fun cdv A outer s H E hr => ?_
  have hu1 := hu_of hr; have hu64 := hr.units
  refine ⟨_, (qs_cons (q_if (qt_w (qw_or (qt_not (qt_val (q_isi "list" (by rfl) B.isinstance (by rfl) B.list (by decide +kernel) (qv 0)))) (qw_or1 (qt_cmp (op_eq2 hu64) ro_eq (q_cb call_len ro_len (by rfl) B.len (by decide +kernel) (qa_cons (qv 0) qa_nil)) q_int (nomark _))))) (qs_one (q_raise rfl (takes_of rfl rfl rfl rfl) (pmk_own PySem.F.excBase_ValueError R.x R.g R.k (raises_own R.b R.t) (by rfl)))) qs_nil)
      (qs_cons (q_set (i := 2) sc_borne.nd rfl (.inl rfl) (q_lst qa_nil))
      (qs_cons (q_for (vs := [3]) (passes_of rfl) rfl (qi_list (qv 0)) (qg_name (i := 3) sc_borne.nd rfl (.inl rfl)) (qs_cons (q_set (i := 4) sc_borne.nd rfl (.inl rfl) (q_c (dds := []) C_told_by hr (by first | decide | omega) (by rfl) (qa_cons (qv 3) (qa_cons (qv 2) (qa_cons (qv 1) qa_nil)))))
      (qs_cons (q_if (qt_isN (qv 4)) (qs_one (q_raise rfl (takes_of rfl rfl rfl rfl) (pmk_own PySem.F.excBase_ValueError R.x R.g R.k (raises_own R.b R.t) (by rfl)))) qs_nil)
      (qs_one (q_expr (q_lm PySem.F.slot_list_append PySem.F.type_list_append mt_append ro_append (qv 2) (qa_cons (qv 4) qa_nil)))))))
      (qs_one (q_ret (qv 2)))))), fun ds S Q X h => ?_⟩
  obtain ⟨nl, ld, lp, np, pd, pp, rfl, hl, hp, qx, q⟩ := h
  simp only [wRet, wRetN, wIf, wSeq, wSkip, wBreak, wCont, wNever, wDrop, wAndV, wOrV, wNotV, wIfE, wTest, wAndT, wOrT, wNotT, wUn, wOp, wVar, wC, wCB, wNil, wCons, wTup, wLst, wCall, wCallX, wSl, wNoPart, wPart, wChain, wAsg, wSet, wAug, wPar, wFor, iLst, iTp, iRng, iEn, iSt, gNm, gTp, gNone, gMore, g2, g3, wLc, wYes, wLm, wDGet, wDIn, wDGet2, wDPut, wDNew, wDisp, wPs, wSm0, wSm1, wRev, wMaxD, wRaise, wKeep, gSet]
  have shl : Sh S (.loc nl) (.list lp) := .lst hl.get hl.sh
  have hlen := hl.sh.len
  refine ⟨_, rfl, shi_lst shl (iteF ?_)⟩
  refine ⟨_, rfl, true, ld, hl.get, ?_⟩
  show if decide ((ld.length : Int) = 0) = true then _ else _
  refine iteB (fun h1 => ?_) fun h1 => ?_
  · have h1 := of_decide_eq_true h1
    have e : lp = [] := List.length_eq_zero_iff.mp (by omega)
    exact qx _ Sub.refl (by unfold dueP; rw [if_pos e])
  · have h1 := of_decide_eq_false h1
    have e : ¬ lp = [] := fun z => h1 (by rw [hlen, z]; rfl)
    have ed : dueP pp lp = runP pp lp [] := by unfold dueP; rw [if_neg e]
    rw [ed] at qx q
    refine ⟨(show 0 ≤ lineD by decide), _, rfl, true, ld, Sub.push _ _ hl.get, ?_⟩
    refine told_loop Sub.refl hl hp (fun _ _ _ e T hT hr => ?_) (fun e T td tp hT hr ht he => ?_) (Nat.le_refl _)
    · exact qx T hT hr
    · exact ⟨_, he, q T _ td tp hT hr ht⟩
def cDue : Con := fun ds S Q _ => ∃ nl ld lp np pd pp, ds = [.loc nl, .loc np] ∧ LD S nl ld lp ∧ TD S np pd pp ∧ (∀ T, Sub S T → dueP pp lp = none → Q .non T) ∧ (∀ T n td tp, Sub S T → dueP pp lp = some tp → TD T n td tp → Q (.loc n) T)
abbrev s__law_due : Stmt := topS 31
theorem sc__law_due : FnScope ["lines", "pairs", "told", "line", "found"] ["lines", "pairs"] (defScope s__law_due) := ⟨rfl, rfl, rfl, by decide +kernel, rfl, by decide +kernel, by decide +kernel⟩
theorem ok__law_due {f : Addr} {fd : FuncData} (F : Fun K "_law_due" "_law_due" s__law_due f fd) (hm : mg "_law_due" = some (.ref f)) (hb : Binds K fd ["lines", "pairs"] []) (B : Blt mg) (G : Glb mg) (C__law_line_tells : Fn P w K mg base 65 "_law_line_tells" cTells []) : Fn P w K mg base 66 "_law_due" cDue [] := by
  refine defQ F hm hb .nil sc__law_due (fun ds S Q X ⟨_, _, _, _, _, _, e, _⟩ => by rw [e]; rfl) fun cdv A outer s H hr => ?_
  have hu1 := hu_of hr; have hu64 := hr.units
  refine ⟨_, (qs_cons (q_if (qt_w (qw_or (qt_not (qt_val (q_isi "list" (by rfl) B.isinstance (by rfl) B.list (by decide +kernel) (qv 0)))) (qw_or1 (qt_cmp (op_eqN hu64) ro_eqN (qv 0) (q_lst qa_nil) (nomark _))))) (qs_one (q_ret q_non)) qs_nil)
      (qs_cons (q_set (i := 2) sc__law_due.nd rfl (.inl rfl) (q_lst qa_nil))
      (qs_cons (q_for (vs := [3]) PassesOwn.never rfl (qi_list (qv 0)) (qg_name (i := 3) sc__law_due.nd rfl (.inl rfl)) (qs_cons (q_set (i := 4) sc__law_due.nd rfl (.inl rfl) (q_c (dds := []) C__law_line_tells hr (by first | decide | omega) (by rfl) (qa_cons (qv 3) (qa_cons (qv 2) (qa_cons (qv 1) qa_nil)))))
      (qs_cons (q_if (qt_isN (qv 4)) (qs_one (q_ret q_non)) qs_nil)
      (qs_one (q_expr (q_lm PySem.F.slot_list_append PySem.F.type_list_append mt_append ro_append (qv 2) (qa_cons (qv 4) qa_nil)))))))
      (qs_one (q_ret (qv 2)))))), fun ds S Q X h => ?_⟩
  obtain ⟨nl, ld, lp, np, pd, pp, rfl, hl, hp, qx, q⟩ := h
  simp only [wRet, wRetN, wIf, wSeq, wSkip, wBreak, wCont, wNever, wDrop, wAndV, wOrV, wNotV, wIfE, wTest, wAndT, wOrT, wNotT, wUn, wOp, wVar, wC, wCB, wNil, wCons, wTup, wLst, wCall, wCallX, wSl, wNoPart, wPart, wChain, wAsg, wSet, wAug, wPar, wFor, iLst, iTp, iRng, iEn, iSt, gNm, gTp, gNone, gMore, g2, g3, wLc, wYes, wLm, wDGet, wDIn, wDGet2, wDPut, wDNew, wDisp, wPs, wSm0, wSm1, wRev, wMaxD, wRaise, wKeep, gSet]
  have shl : Sh S (.loc nl) (.list lp) := .lst hl.get hl.sh
  have hlen := hl.sh.len
  refine ⟨_, rfl, shi_lst shl (iteF ?_)⟩
  refine ⟨_, rfl, (show 0 ≤ lineD by decide), true, ld, true, Sub.push _ _ hl.get, last_get, ?_⟩
  refine iteB (fun h1 => ?_) fun h1 => ?_
  · have e : lp = [] := by
      cases ld with
      | nil => exact List.length_eq_zero_iff.mp hlen.symm
      | cons _ _ => cases h1
    exact qx _ Sub.push (by unfold dueP; rw [if_pos e])
  · have e : ¬ lp = [] := fun z => by
      rw [z] at hlen
      have : ld = [] := List.length_eq_zero_iff.mp hlen
      rw [this] at h1
      cases h1
    have ed : dueP pp lp = runP pp lp [] := by unfold dueP; rw [if_neg e]
    rw [ed] at qx q
    refine ⟨(show 0 ≤ lineD by decide), _, rfl, true, ld, Sub.push.to _ _ hl.get, ?_⟩
    refine told_loop (S1 := S ++ [.lst true []]) Sub.push hl hp (fun _ _ _ e T hT hr => ?_) (fun e T td tp hT hr ht he => ?_) (by simp)
    · exact qx T hT hr
    · exact ⟨_, he, q T _ td tp hT hr ht⟩
end
end K78
set_option Elab.async false
set_option linter.all false
set_option maxRecDepth 100000
set_option maxHeartbeats 4000000
namespace K78
open PySem PySem.Spec PyProof.Rows L2 Qd
theorem shortAll {B : Nat} {ps : List PyData} : (∀ p ∈ ps, PyData.leavesShort B p = true) → PyData.leavesShortAll B ps = true := by
  induction ps with
  | nil => intro _; rfl
  | cons p ps ih =>
    intro h
    rw [PyData.leavesShortAll, h p List.mem_cons_self, ih fun q hq => h q (List.mem_cons_of_mem _ hq)]
    rfl
theorem weightAll_le {ps : List PyData} {b : Nat} : (∀ p ∈ ps, p.weight + 1 ≤ b) → PyData.weightAll ps ≤ b * ps.length := by
  induction ps with
  | nil => intro _; simp [PyData.weightAll]
  | cons p ps ih =>
    intro h
    rw [PyData.weightAll, List.length_cons, Nat.mul_add, Nat.mul_one]
    have h1 := h p List.mem_cons_self
    have h2 := ih fun q hq => h q (List.mem_cons_of_mem _ hq)
    omega
theorem weightAll_sum {ps : List PyData} {f : PyData → Nat} : (∀ p ∈ ps, p.weight + 1 ≤ 12 * f p) → PyData.weightAll ps ≤ 12 * (ps.map f).sum := by
  induction ps with
  | nil => intro _; simp [PyData.weightAll]
  | cons p ps ih =>
    intro h
    rw [PyData.weightAll, List.map_cons, List.sum_cons, Nat.mul_add]
    have h1 := h p List.mem_cons_self
    have h2 := ih fun q hq => h q (List.mem_cons_of_mem _ hq)
    omega
theorem str_short {B n : Nat} {x : Str} (h : fine n (.str x) = true) : PyData.leavesShort B (.str x) = true := by
  rw [PyData.leavesShort, List.all_eq_true]
  intro c hc
  have := (fine_str h).2
  unfold PyData.strOk at this
  rw [← Array.all_toList, List.all_eq_true] at this
  have := of_decide_eq_true (this c hc)
  exact decide_eq_true (Nat.lt_trans this (by decide))
theorem int_short {B : Nat} {i : Int} (h : i.natAbs < 10 ^ B) (hB : 0 < B) : PyData.leavesShort (B + 1) (.int i) = true := by
  rw [PyData.leavesShort, decide_eq_true_eq, PyData.shown, PySem.ofString_length]
  exact int_text_length_le10 hB h
theorem short_up {B C : Nat} (h : B ≤ C) : ∀ {i : Int}, PyData.leavesShort B (.int i) = true → PyData.leavesShort C (.int i) = true := fun {i} g => by
  rw [PyData.leavesShort, decide_eq_true_eq] at g ⊢
  omega
theorem term_short : ∀ (r n : Nat) (p : PyData), fine n p = true → 0 < partsP r p → PyData.leavesShort 8 p = true ∧ p.weight + 1 ≤ 12 * partsP r p := by
  intro r
  induction r with
  | zero => intro n p _ h; simp [partsP] at h
  | succ r ih =>
    intro n p hf h
    cases p with
    | int i =>
      have hi : 0 ≤ i ∧ i ≤ 999 := by
        by_cases hh : 0 ≤ i ∧ i ≤ 999
        · exact hh
        · simp [partsP, hh] at h
      refine ⟨short_up (B := 4) (by decide) (int_short (B := 3) (by omega) (by decide)), ?_⟩
      have e : partsP (r + 1) (.int i) = 1 := by simp [partsP, hi]
      rw [e, PyData.weight]
      split
      · omega
      · rename_i h0
        have h0 : i.natAbs ≠ 0 := by simpa using h0
        have : i.natAbs.log2 < 10 := (Nat.log2_lt h0).mpr (by omega)
        omega
    | tuple ps =>
      obtain ⟨m, rfl, hl, hall⟩ := fine_tup hf
      cases ps with
      | nil => simp [partsP] at h
      | cons q ps =>
        have e : partsP (r + 1) (.tuple (q :: ps)) = if nameP q = true ∧ ps.length ≤ 9 then partsL (partsP r) ps 1 else 0 := rfl
        rw [e] at h ⊢
        by_cases hh : nameP q = true ∧ ps.length ≤ 9
        · rw [if_pos hh, partsL_eq _ _ _ (by omega) (by omega)] at h ⊢
          by_cases ha : (∀ p ∈ ps, 0 < partsP r p) ∧ 1 + (ps.map (partsP r)).sum ≤ 1000
          · rw [if_pos ha]
            have hq := hall q List.mem_cons_self
            have wq : q.weight ≤ 8 := by
              cases q <;> first
                | (simp [nameP] at hh; done)
                | (simp only [nameP, Bool.and_eq_true, decide_eq_true_eq] at hh; rw [PyData.weight]; exact hh.1.1.2)
            have sq : PyData.leavesShort 8 q = true := by
              cases q <;> first
                | (simp [nameP] at hh; done)
                | exact str_short hq
            refine ⟨?_, ?_⟩
            · rw [PyData.leavesShort]
              refine shortAll fun p hp => ?_
              rcases List.mem_cons.mp hp with rfl | hp
              · exact sq
              · exact (ih m p (hall p (List.mem_cons_of_mem _ hp)) (ha.1 p hp)).1
            · have := weightAll_sum (f := partsP r) fun p hp => (ih m p (hall p (List.mem_cons_of_mem _ hp)) (ha.1 p hp)).2
              rw [PyData.weight, PyData.weightAll]
              omega
          · rw [if_neg ha] at h; omega
        · rw [if_neg hh] at h; omega
    | _ => simp [partsP] at h
theorem parts_le (r : Nat) (p : PyData) : partsP r p ≤ 1000 := by
  cases r with
  | zero => simp [partsP]
  | succ r =>
    cases p with
    | int i => simp only [partsP]; split <;> omega
    | tuple ps =>
      cases ps with
      | nil => simp [partsP]
      | cons q ps =>
        have e : partsP (r + 1) (.tuple (q :: ps)) = if nameP q = true ∧ ps.length ≤ 9 then partsL (partsP r) ps 1 else 0 := rfl
        rw [e]
        split
        · rw [partsL_eq _ _ _ (by omega) (by omega)]
          split <;> omega
        · omega
    | _ => simp [partsP]
theorem told_shown {tp : List (PyData × PyData)} (h : Tok tp) (hl : tp.length ≤ 50) : (listText (PyData.shownAll (tp.map pairP))).length ≤ lineD ∧ PyData.showableAll (tp.map pairP) = true ∧ PyData.depthAll (tp.map pairP) ≤ 150 ∧ (∀ p ∈ tp.map pairP, p.hasDict = true → p = .dict []) := by
  have each : ∀ q ∈ tp, PyData.leavesShort 8 (pairP q) = true ∧ (pairP q).weight + 1 ≤ 24001 ∧ fine 61 (pairP q) = true := fun q hq => by
    obtain ⟨h1, h2, h3, h4⟩ := h q hq
    have g1 := term_short 60 60 q.1 h3 (of_decide_eq_true h1)
    have g2 := term_short 60 60 q.2 h4 (of_decide_eq_true h2)
    have l1 := parts_le 60 q.1
    have l2 := parts_le 60 q.2
    refine ⟨?_, ?_, ?_⟩
    · unfold pairP
      rw [PyData.leavesShort]
      refine shortAll fun p hp => ?_
      simp at hp
      rcases hp with rfl | rfl
      · exact g1.1
      · exact g2.1
    · unfold pairP
      simp only [PyData.weight, PyData.weightAll]
      omega
    · simp [fine, pairP, h3, h4]
  have mem : ∀ {R : PyData → Prop}, (∀ q ∈ tp, R (pairP q)) → ∀ p ∈ tp.map pairP, R p := fun hR p hp => by
    obtain ⟨q, hq, rfl⟩ := List.mem_map.mp hp
    exact hR q hq
  have ww := weightAll_le (ps := tp.map pairP) (b := 24001) (mem fun q hq => (each q hq).2.1)
  have sl := PyData.shown_le 8 (by decide) (.list (tp.map pairP)) (by rw [PyData.leavesShort]; exact shortAll (mem fun q hq => (each q hq).1))
  refine ⟨?_, showAll (mem fun q hq => (fine_all 61 _ (each q hq).2.2).2.2.2), depAll (mem fun q hq => Nat.le_trans (fine_all 61 _ (each q hq).2.2).2.1 (by decide)), mem fun q hq hd => ?_⟩
  · rw [PyData.shown, PyData.weight] at sl
    rw [List.length_map] at ww
    have : (24001 : Nat) * tp.length ≤ 24001 * 50 := Nat.mul_le_mul_left _ hl
    show _ ≤ 16777216
    omega
  · rw [(fine_all 61 _ (each q hq).2.2).2.2.1] at hd
    cases hd
/-- lines that are not long when shown -/
def LShort (lp : List PyData) : Prop := ∀ p ∈ lp, PyData.leavesShort 40 p = true ∧ p.weight ≤ 5000
theorem lines_shown {lp : List PyData} (h : LShort lp) (hf : ∀ p ∈ lp, fineL p) (hl : lp.length ≤ 50) : (listText (PyData.shownAll lp)).length ≤ lineD ∧ PyData.showableAll lp = true ∧ PyData.depthAll lp ≤ 150 ∧ (∀ p ∈ lp, p.hasDict = true → p = .dict []) := by
  have ww := weightAll_le (ps := lp) (b := 5001) fun p hp => Nat.succ_le_succ (h p hp).2
  have sl := PyData.shown_le 40 (by decide) (.list lp) (by rw [PyData.leavesShort]; exact shortAll fun p hp => (h p hp).1)
  refine ⟨?_, showAll fun p hp => ?_, depAll fun p hp => ?_, fun p hp hd => ?_⟩
  · rw [PyData.shown, PyData.weight] at sl
    have : (5001 : Nat) * lp.length ≤ 5001 * 50 := Nat.mul_le_mul_left _ hl
    show _ ≤ 16777216
    omega
  · rcases hf p hp with z | rfl
    · exact (fine_all 62 p z).2.2.2
    · rfl
  · rcases hf p hp with z | rfl
    · exact Nat.le_trans (fine_all 62 p z).2.1 (by decide)
    · decide
  · rcases hf p hp with z | rfl
    · rw [(fine_all 62 p z).2.2.1] at hd; cases hd
    · rfl
theorem run_len {pp : List (PyData × PyData)} : ∀ {lp : List PyData} {tp rp : List (PyData × PyData)}, runP pp lp tp = some rp → rp.length = tp.length + lp.length
  | [], tp, rp, h => by cases h; simp
  | l :: ls, tp, rp, h => by
    rw [runP] at h
    split at h
    · cases h
    · have := run_len h
      simp at this ⊢
      omega
theorem due_len {pp : List (PyData × PyData)} {lp : List PyData} {rp : List (PyData × PyData)} (h : dueP pp lp = some rp) : rp.length = lp.length := by
  unfold dueP at h
  split at h
  · cases h
  · have := run_len h
    simpa using this
theorem repr_lines {S : Store} {nl : Nat} {ld : List D} {lp : List PyData} {Q : D → Store → Prop} (h : LD S nl ld lp) (hs : LShort lp) (q : Q (.str (listText (PyData.shownAll lp))) S) : fRepr [.loc nl] S Q :=
  let ⟨h1, h2, h3, h4⟩ := lines_shown hs h.ok h.len
  ⟨ld, lp, h.get, h.sh, h2, h4, h3, h1, q⟩
theorem repr_told {S : Store} {n : Nat} {td : List D} {tp : List (PyData × PyData)} {Q : D → Store → Prop} (h : TD S n td tp) (hl : tp.length ≤ 50) (q : Q (.str (listText (PyData.shownAll (tp.map pairP)))) S) : fRepr [.loc n] S Q :=
  let ⟨h1, h2, h3, h4⟩ := told_shown h.ok hl
  ⟨td, tp.map pairP, h.get, shs_mono Sub.nil h.sh, h2, h4, h3, h1, q⟩
theorem ne_same {S : Store} {a : Str} {Q : D → Store → Prop} (q : Q (.bl false) S) : fEq true (.str a) (.str a) S Q := by
  show Q (.bl (!decide (a = a))) S
  rw [decide_eq_true rfl]
  exact q
theorem eq_same {S : Store} {a : Str} {Q : D → Store → Prop} (q : Q (.bl true) S) : fEq false (.str a) (.str a) S Q := by
  show Q (.bl (decide (a = a))) S
  rw [decide_eq_true rfl]
  exact q
section
variable {P : Program} {w : World} {K : PySem.W.Frag} {mg : Str → Option Value} {base : Heap}
def cRight : Con := fun ds S Q _ => ∃ nl ld lp np pd pp, ds = [.loc nl, .loc np] ∧ LD S nl ld lp ∧ LShort lp ∧ TD S np pd pp ∧ ∀ T, Sub S T → Q (.bl true) T
abbrev s__law_right : Stmt := topS 36
theorem sc__law_right : FnScope ["lines", "pairs", "due", "kept", "caught", "found", "e"] ["lines", "pairs"] (defScope s__law_right) := ⟨rfl, rfl, rfl, by decide +kernel, rfl, by decide +kernel, by decide +kernel⟩
theorem ok__law_right {NR EE : Addr} {f : Addr} {fd : FuncData} (F : Fun K "_law_right" "_law_right" s__law_right f fd) (hm : mg "_law_right" = some (.ref f)) (hb : Binds K fd ["lines", "pairs"] []) (B : Blt mg) (G : Glb mg) (R : RC K mg NR EE) (C__law_due : Fn P w K mg base 66 "_law_due" cDue []) (X_borne : FnX P w K mg base 66 "borne" (cBorne NR)) : FnG P w K mg base 67 "_law_right" cRight := by
  refine defG F hm hb sc__law_right (fun ds S Q X ⟨_, _, _, _, _, _, e, _⟩ => by rw [e]; rfl) fun cdv A outer s H hr hgd => ?_
  have hu1 := hu_of hr; have hu64 := hr.units
  have hu200 : (A.deeper (envOfC "_law_right" (defScope s__law_right) s.heap.objs.size f cdv)).units + 200 < cLine := by have := hr.un; omega
  refine ⟨_, (qs_cons (q_set (i := 2) sc__law_right.nd rfl (.inl rfl) (q_c (dds := []) C__law_due hr (by first | decide | omega) (by rfl) (qa_cons (qv 0) (qa_cons (qv 1) qa_nil))))
      (qs_cons (q_set (i := 3) sc__law_right.nd rfl (.inl rfl) (q_repr hgd hu200 (by rfl) B.repr (qa_cons (qv 0) qa_nil)))
      (qs_cons (q_asg (vs := [4, 5]) (q_tup (qa_cons q_non (qa_cons q_non qa_nil))) (qg_2 (i := 4) (j := 5) rfl sc__law_right.nd rfl (.inl rfl) rfl (.inl rfl)))
      (qss_try (CN := NR) (y := 5) (z := 4) (n := 6) rfl rfl sc__law_right.nd rfl rfl rfl rfl rfl rfl rfl ⟨by rfl, by decide, .inl R.gE⟩ R.e X_borne hr (by first | decide | omega) (by rfl) (fun pn xe => (qa_cons (qv 0) (qa_cons (q_ct call_list_of ro_list (by rfl) B.list (by decide +kernel) (qa_cons (qv 1) qa_nil)) qa_nil)))
      (qs_cons (q_if (qt_cmp (op_ne2 hu64) ro_ne (q_repr hgd hu200 (by rfl) B.repr (qa_cons (qv 0) qa_nil)) (qv 3) (nomark _)) (qs_one (q_ret q_bl)) qs_nil)
      (qs_cons (q_if (qt_isN (qv 2)) (qs_one (q_ret (q_and q_no (q_one q_no)))) qs_nil)
      (qs_one (q_ret (q_and (q_isN (qv 4)) (q_and (q_isi "list" (by rfl) B.isinstance (by rfl) B.list (by decide +kernel) (qv 5)) (q_one (q_cmp (op_eq2 hu64) ro_eq (q_repr hgd hu200 (by rfl) B.repr (qa_cons (qv 5) qa_nil)) (q_repr hgd hu200 (by rfl) B.repr (qa_cons (qv 2) qa_nil)) (nomark _)))))))))
      (fun a oe pn hz hf => (qs_cons (q_if (qt_cmp (op_ne2 hu64) ro_ne (q_repr hgd hu200 (by rfl) B.repr (qa_cons (qv 0) qa_nil)) (qv 3) (nomark _)) (qs_one (q_ret q_bl)) qs_nil)
      (qs_cons (q_if (qt_isN (qv 2)) (qs_one (q_ret (q_and (q_isE R.C hz hf (by rfl) B.isinstance (qv 4) (pe_glob (v := .ref NR) (by rfl) R.g rfl) (fun u h => h) R.kN) (q_one (q_isE R.C hz hf (by rfl) B.isinstance (qv 4) (pe_bltn (v := .ty "ValueError") (by rfl) B.ValueError (by decide +kernel) rfl) (fun u h => h) R.kValueError))))) qs_nil)
      (qs_one (q_ret (q_and (q_isN (qv 4)) (q_and (q_isi "list" (by rfl) B.isinstance (by rfl) B.list (by decide +kernel) (qv 5)) (q_one (q_cmp (op_eq2 hu64) ro_eq (q_repr hgd hu200 (by rfl) B.repr (qa_cons (qv 5) qa_nil)) (q_repr hgd hu200 (by rfl) B.repr (qa_cons (qv 2) qa_nil)) (nomark _)))))))))))))), fun ds S Q X h => ?_⟩
  obtain ⟨nl, ld, lp, np, pd, pp, rfl, hl, hls, hp, q⟩ := h
  simp only [wRet, wRetN, wIf, wSeq, wSkip, wBreak, wCont, wNever, wDrop, wAndV, wOrV, wNotV, wIfE, wTest, wAndT, wOrT, wNotT, wUn, wOp, wVar, wC, wCB, wNil, wCons, wTup, wLst, wCall, wCallX, wSl, wNoPart, wPart, wChain, wAsg, wSet, wAug, wPar, wFor, iLst, iTp, iRng, iEn, iSt, gNm, gTp, gNone, gMore, g2, g3, wLc, wYes, wLm, wDGet, wDIn, wDGet2, wDPut, wDNew, wDisp, wPs, wSm0, wSm1, wRev, wMaxD, wRaise, wKeep, gSet]
  refine ⟨_, rfl, _, rfl, nl, ld, lp, np, pd, pp, rfl, hl, hp, fun T hT hn => ?_, fun T nd td tp hT hsome ht => ?_⟩
  · have hlT := hl.mono hT
    have hpT := hp.mono hT
    refine ⟨_, rfl, repr_lines hlT hls ⟨(show 2 ≤ lineD by decide), (show 6 < 7 by decide), _, rfl, _, rfl, true, pd, hpT.get, ?_⟩⟩
    refine ⟨nl, ld, lp, T.length, pd, pp, rfl, hlT.mono Sub.push, ⟨last_get, hp.sh, hp.ok, hp.len⟩, fun T2 hT2 _ => ⟨rfl, fun a => ?_⟩, fun T2 n2 td2 tp2 hT2 h2 _ => ?_⟩
    · have hT3 : Sub T T2 := Sub.push.trans hT2
      refine ⟨_, rfl, repr_lines (hlT.mono hT3) hls ⟨_, rfl, ne_same (iteF ⟨_, rfl, ?_⟩)⟩⟩
      simp only [fIs, isNon, Bool.false_eq_true, ↓reduceIte]
      refine ⟨_, rfl, rfl, ?_⟩
      simp only [↓reduceIte]
      exact ⟨_, rfl, rfl, q _ (hT.trans hT3)⟩
    · rw [hn] at h2
      cases h2
  · have hlT := hl.mono hT
    have hpT := hp.mono hT
    have hlen := due_len hsome
    have h50 : tp.length ≤ 50 := by rw [hlen]; exact hl.len
    refine ⟨_, rfl, repr_lines hlT hls ⟨(show 2 ≤ lineD by decide), (show 6 < 7 by decide), _, rfl, _, rfl, true, pd, hpT.get, ?_⟩⟩
    refine ⟨nl, ld, lp, T.length, pd, pp, rfl, hlT.mono Sub.push, ⟨last_get, hp.sh, hp.ok, hp.len⟩, fun T2 hT2 h2 => ?_, fun T2 n2 td2 tp2 hT2 h2 ht2 => ?_⟩
    · rw [hsome] at h2
      cases h2
    · rw [hsome] at h2
      cases h2
      have hT3 : Sub T T2 := Sub.push.trans hT2
      refine ⟨_, rfl, repr_lines (hlT.mono hT3) hls ⟨_, rfl, ne_same (iteF ⟨_, rfl, ?_⟩)⟩⟩
      simp only [fIs, isNon, Bool.false_eq_true, ↓reduceIte]
      refine ⟨_, rfl, ?_⟩
      simp only [↓reduceIte]
      refine ⟨_, rfl, shi_lst (.lst ht2.get (shs_mono Sub.nil ht2.sh)) ?_⟩
      simp only [pL, ↓reduceIte]
      refine ⟨_, rfl, repr_told ht2 h50 ⟨_, rfl, repr_told (ht.mono hT3) h50 ?_⟩⟩
      exact eq_same (q _ (hT.trans hT3))
end
end K78
set_option Elab.async false
set_option linter.all false
set_option maxRecDepth 100000
set_option maxHeartbeats 4000000
namespace K78
open PySem PySem.Spec PyProof.Rows L2 Qd
/-! ### the pot -/
def dead : Cell := .ins 0 []
def hide (p o : Nat) (S : Store) : Store := (S.set p dead).set o dead
theorem hide_get {p o n : Nat} {S : Store} (h1 : n ≠ p) (h2 : n ≠ o) : (hide p o S)[n]? = S[n]? := by
  unfold hide
  rw [List.getElem?_set_ne (Ne.symm h2), List.getElem?_set_ne (Ne.symm h1)]
theorem hide_len {p o : Nat} {S : Store} : (hide p o S).length = S.length := by simp [hide]
theorem hide_p {p o : Nat} {S : Store} (h : p < S.length) : (hide p o S)[p]? = some dead := by
  unfold hide
  by_cases e : p = o
  · subst e; rw [List.getElem?_set_self (by simpa using h)]
  · rw [List.getElem?_set_ne (Ne.symm e), List.getElem?_set_self h]
theorem hide_o {p o : Nat} {S : Store} (h : o < S.length) : (hide p o S)[o]? = some dead := by
  unfold hide
  rw [List.getElem?_set_self (by simpa using h)]
theorem hide_data {p o n : Nat} {S : Store} {c : Cell} (h : (hide p o S)[n]? = some c) (hc : c ≠ dead) : S[n]? = some c ∧ n ≠ p ∧ n ≠ o := by
  have hn := (List.getElem?_eq_some_iff.mp h).1
  rw [hide_len] at hn
  have h1 : n ≠ p := fun e => by
    subst e
    rw [hide_p hn] at h
    cases h
    exact hc rfl
  have h2 : n ≠ o := fun e => by
    subst e
    rw [hide_o hn] at h
    cases h
    exact hc rfl
  rw [hide_get h1 h2] at h
  exact ⟨h, h1, h2⟩
/-- all cells but the pot's stay -/
def Kp (p o : Nat) (S T : Store) : Prop := Sub (hide p o S) (hide p o T)
theorem Kp.refl {p o : Nat} {S : Store} : Kp p o S S := Sub.refl
theorem Kp.trans {p o : Nat} {S T U : Store} (h : Kp p o S T) (g : Kp p o T U) : Kp p o S U := Sub.trans h g
theorem Sub.len {S T : Store} (h : Sub S T) : S.length ≤ T.length := by
  cases e : S.length with
  | zero => omega
  | succ n =>
    have hn : n < S.length := by omega
    have := h n S[n] (List.getElem?_eq_getElem hn)
    have := (List.getElem?_eq_some_iff.mp this).1
    omega
theorem Kp.len {p o : Nat} {S T : Store} (h : Kp p o S T) : S.length ≤ T.length := by
  have := Sub.len h
  rw [hide_len, hide_len] at this
  exact this
theorem Kp.of {p o : Nat} {S T : Store} (hp : p < S.length) (ho : o < S.length) (hl : S.length ≤ T.length) (h : ∀ n c, n ≠ p → n ≠ o → S[n]? = some c → T[n]? = some c) : Kp p o S T := fun n c e => by
  by_cases e1 : n = p
  · subst e1
    rw [hide_p hp] at e
    rw [hide_p (by omega)]
    exact e
  · by_cases e2 : n = o
    · subst e2
      rw [hide_o ho] at e
      rw [hide_o (by omega)]
      exact e
    · rw [hide_get e1 e2] at e ⊢
      exact h n c e1 e2 e
theorem Kp.sub {p o : Nat} {S T : Store} (hp : p < S.length) (ho : o < S.length) (h : Sub S T) : Kp p o S T := Kp.of hp ho (Sub.len h) fun n c _ _ e => h n c e
theorem Kp.set_p {p o : Nat} {S : Store} {c : Cell} : Kp p o S (S.set p c) := fun n d e => by
  by_cases e1 : n = p
  · subst e1
    have hn := (List.getElem?_eq_some_iff.mp e).1
    rw [hide_len] at hn
    rw [hide_p hn] at e
    rw [hide_p (by simpa using hn)]
    exact e
  · by_cases e2 : n = o
    · subst e2
      have hn := (List.getElem?_eq_some_iff.mp e).1
      rw [hide_len] at hn
      rw [hide_o hn] at e
      rw [hide_o (by simpa using hn)]
      exact e
    · rw [hide_get e1 e2] at e ⊢
      rw [List.getElem?_set_ne (Ne.symm e1)]
      exact e
theorem Kp.set_o {p o : Nat} {S : Store} {c : Cell} : Kp p o S (S.set o c) := fun n d e => by
  by_cases e1 : n = p
  · subst e1
    have hn := (List.getElem?_eq_some_iff.mp e).1
    rw [hide_len] at hn
    rw [hide_p hn] at e
    rw [hide_p (by simpa using hn)]
    exact e
  · by_cases e2 : n = o
    · subst e2
      have hn := (List.getElem?_eq_some_iff.mp e).1
      rw [hide_len] at hn
      rw [hide_o hn] at e
      rw [hide_o (by simpa using hn)]
      exact e
    · rw [hide_get e1 e2] at e ⊢
      rw [List.getElem?_set_ne (Ne.symm e2)]
      exact e
def potK (o : Nat) (a b : Int) : Cell := .dK true [(.inr "own", .loc o), (.inr "seed", .int a), (.inr "turn", .int b)]
structure Pot (S : Store) (p o t : Nat) : Prop where
  ex : ∃ (a b : Int) (ns : List Int), S[p]? = some (potK o a b) ∧ S[o]? = some (.lst true (ns.map D.int)) ∧ 0 ≤ a ∧ a < 2 ^ 62 ∧ 0 ≤ b ∧ b ≤ (t : Int) ∧ (∀ n ∈ ns, 0 ≤ n) ∧ ns.length ≤ 63
theorem Pot.ne {S : Store} {p o t : Nat} (h : Pot S p o t) : p ≠ o := fun e => by
  obtain ⟨a, b, ns, h1, h2, _⟩ := h.ex
  rw [e] at h1
  rw [h1] at h2
  cases h2
theorem Pot.lt {S : Store} {p o t : Nat} (h : Pot S p o t) : p < S.length ∧ o < S.length := by
  obtain ⟨a, b, ns, h1, h2, _⟩ := h.ex
  exact ⟨(List.getElem?_eq_some_iff.mp h1).1, (List.getElem?_eq_some_iff.mp h2).1⟩
theorem Pot.sub {S T : Store} {p o t : Nat} (h : Pot S p o t) (m : Sub S T) : Pot T p o t := by
  obtain ⟨a, b, ns, h1, h2, r⟩ := h.ex
  exact ⟨a, b, ns, m _ _ h1, m _ _ h2, r⟩
theorem Pot.up {S : Store} {p o t u : Nat} (h : Pot S p o t) (l : t ≤ u) : Pot S p o u := by
  obtain ⟨a, b, ns, h1, h2, h3, h4, h5, h6, r⟩ := h.ex
  exact ⟨a, b, ns, h1, h2, h3, h4, h5, by omega, r⟩
theorem look_own {S : Store} {p o : Nat} {a b : Int} {P : Option D → Prop} (h : S[p]? = some (potK o a b)) (q : P (some (.loc o))) : look (.loc p) (.str "own") S P := by
  unfold look
  dsimp only
  rw [h]
  exact ⟨.inr "own", rfl, q⟩
theorem look_seed {S : Store} {p o : Nat} {a b : Int} {P : Option D → Prop} (h : S[p]? = some (potK o a b)) (q : P (some (.int a))) : look (.loc p) (.str "seed") S P := by
  unfold look
  dsimp only
  rw [h]
  exact ⟨.inr "seed", rfl, q⟩
theorem look_turn {S : Store} {p o : Nat} {a b : Int} {P : Option D → Prop} (h : S[p]? = some (potK o a b)) (q : P (some (.int b))) : look (.loc p) (.str "turn") S P := by
  unfold look
  dsimp only
  rw [h]
  exact ⟨.inr "turn", rfl, q⟩
theorem put_turn {S : Store} {p o : Nat} {a b c : Int} {P : Store → Prop} (h : S[p]? = some (potK o a b)) (q : P (S.set p (potK o a c))) : putD (.loc p) (.str "turn") (.int c) S P := by
  unfold putD
  dsimp only
  rw [h]
  exact ⟨.inr "turn", rfl, (show 3 < lineD by decide), q⟩
theorem pys_ints {S : Store} : ∀ ns : List Int, Pys S (ns.map D.int) (ns.map PyData.int)
  | [] => .nil
  | n :: ns => .cons (.int n) (pys_ints ns)
theorem shaped_ints (ns : List Int) : SeqAt.shaped (.list (ns.map PyData.int)) = true := by
  have h1 : PyData.canLayAll0 (ns.map PyData.int) = true := layAll fun p hp => by
    obtain ⟨n, _, rfl⟩ := List.mem_map.mp hp
    rfl
  have h2 : PyData.depthAll (ns.map PyData.int) ≤ 0 := depAll fun p hp => by
    obtain ⟨n, _, rfl⟩ := List.mem_map.mp hp
    exact Nat.le_refl _
  unfold SeqAt.shaped
  rw [PyData.canLay0, h1, PyData.depth]
  simp
  omega
theorem ne_nil {S : Store} {o : Nat} {ns : List Int} {Q : D → Store → Prop} (h : S[o]? = some (.lst true (ns.map D.int))) (q : Q (.bl (!ns.isEmpty)) (S ++ [.lst true []])) : fNeN (.loc o) (.loc S.length) (S ++ [.lst true []]) Q :=
  ⟨true, _, true, _, Sub.push _ _ h, last_get, pys_ints ns, shaped_ints ns, by rw [show (ns.map D.int).isEmpty = ns.isEmpty by cases ns <;> rfl]; exact q⟩
theorem ix0 {k : Nat} (h : 0 < k) : L2.ixN k 0 = some 0 := by
  unfold L2.ixN
  rw [if_pos (by decide), if_pos (by omega)]
  rfl
theorem cmul {i j : Int} (hi : i.natAbs < 2 ^ 400) (hj : j.natAbs < 2 ^ 400) : CMulW i j := by
  have lg : ∀ n : Nat, n < 2 ^ 400 → n.log2 ≤ 400 := fun n h => by
    by_cases h0 : n = 0
    · rw [h0]; decide
    · exact Nat.le_of_lt ((Nat.log2_lt h0).mpr h)
  have h1 := lg _ hi
  have h2 := lg _ hj
  unfold CMulW
  omega
section
variable {P : Program} {w : World} {K : PySem.W.Frag} {mg : Str → Option Value} {base : Heap}
def cTake : Con := fun ds S Q _ => ∃ (p o t m : Nat), ds = [.loc p, .int ((m : Nat) : Int)] ∧ 0 < m ∧ m < 2 ^ 60 ∧ Pot S p o t ∧ t ≤ 10 ^ 9 ∧ ∀ (r : Nat) T, r < m → Pot T p o (t + 1) → Kp p o S T → Q (.int ((r : Nat) : Int)) T
abbrev s__law_take : Stmt := topS 22
theorem sc__law_take : FnScope ["pot", "many", "digit", "turn", "mixed"] ["pot", "many"] (defScope s__law_take) := ⟨rfl, rfl, rfl, by decide +kernel, rfl, by decide +kernel, by decide +kernel⟩
theorem ok__law_take {f : Addr} {fd : FuncData} (F : Fun K "_law_take" "_law_take" s__law_take f fd) (hm : mg "_law_take" = some (.ref f)) (hb : Binds K fd ["pot", "many"] []) (B : Blt mg) : Fn P w K mg base 1 "_law_take" cTake [] := by
  refine defQ F hm hb .nil sc__law_take (fun ds S Q X ⟨_, _, _, _, e, _⟩ => by rw [e]; rfl) fun cdv A outer s H hr => ?_
  have hu1 := hu_of hr; have hu64 := hr.units
  refine ⟨_, (qs_cons (q_while PassesOwn.never (qt_w (qw_and (qt_cmp (op_neN hu64) ro_neN (q_dget hu1 (qv 0) q_str) (q_lst qa_nil) (nomark _)) (qw_and1 (qt_cmp (op_eq2 hu64) ro_eq (q_ix ix_seq ro_ix (q_dget hu1 (qv 0) q_str) q_int) q_int (nomark _))))) (qs_one (q_expr (q_lm PySem.F.slot_list_pop PySem.F.type_list_pop mt_popAt ro_popAt (q_dget hu1 (qv 0) q_str) (qa_cons q_int qa_nil)))))
      (qs_cons (q_if (qt_cmp (op_neN hu64) ro_neN (q_dget hu1 (qv 0) q_str) (q_lst qa_nil) (nomark _)) (qs_cons (q_set (i := 2) sc__law_take.nd rfl (.inl rfl) (q_op op_mod ro_mod (q_ix ix_seq ro_ix (q_dget hu1 (qv 0) q_str) q_int) (qv 1)))
      (qs_cons (q_asg (vs := []) (q_op op_fdivW ro_div (q_ix ix_seq ro_ix (q_dget hu1 (qv 0) q_str) q_int) (qv 1)) (qg_set (q_dget hu1 (qv 0) q_str) q_int))
      (qs_one (q_ret (qv 2))))) qs_nil)
      (qs_cons (q_set (i := 3) sc__law_take.nd rfl (.inl rfl) (q_op op_add4 ro_add (q_dget hu1 (qv 0) q_str) q_int))
      (qs_cons (q_dput hu1 (qv 0) q_str (qv 3))
      (qs_cons (q_set (i := 4) sc__law_take.nd rfl (.inl rfl) (q_op op_mod ro_mod (q_op op_mul3 ro_mul3 (q_op op_add4 ro_add (q_op op_add4 ro_add (q_dget hu1 (qv 0) q_str) (q_op op_mul3 ro_mul3 (q_op op_mul3 ro_mul3 q_int (qv 3)) (qv 3))) q_int) q_int) q_int))
      (qs_cons (q_set (i := 4) sc__law_take.nd rfl (.inl rfl) (q_op op_mod ro_mod (q_op op_mul3 ro_mul3 (qv 4) (q_op op_add4 ro_add (q_op op_mod ro_mod (qv 4) q_int) (q_op op_mul3 ro_mul3 q_int (qv 3)))) q_int))
      (qs_one (q_ret (q_op op_mod ro_mod (q_op op_add4 ro_add (q_op op_fdivW ro_div (qv 4) q_int) (q_op op_fdivW ro_div (qv 4) q_int)) (qv 1)))))))))), fun ds S Q X h => ?_⟩
  obtain ⟨p, o, t, m, rfl, hm0, hm1, hp, ht, q⟩ := h
  simp only [wRet, wRetN, wIf, wSeq, wSkip, wBreak, wCont, wNever, wDrop, wAndV, wOrV, wNotV, wIfE, wTest, wAndT, wOrT, wNotT, wUn, wOp, wVar, wC, wCB, wNil, wCons, wTup, wLst, wCall, wCallX, wSl, wNoPart, wPart, wChain, wAsg, wSet, wAug, wPar, wFor, iLst, iTp, iRng, iEn, iSt, gNm, gTp, gNone, gMore, g2, g3, wLc, wYes, wLm, wDGet, wDIn, wDGet2, wDPut, wDNew, wDisp, wPs, wSm0, wSm1, wRev, wMaxD, wRaise, wKeep, gSet]
  have hlt := hp.lt
  have hne := hp.ne
  refine ⟨fun k e S' => e = [some (.loc p), some (.int ((m : Nat) : Int)), none, none, none] ∧ Kp p o S S' ∧ ∃ (a b : Int) (ns : List Int), S'[p]? = some (potK o a b) ∧ S'[o]? = some (.lst true (ns.map D.int)) ∧ 0 ≤ a ∧ a < 2 ^ 62 ∧ 0 ≤ b ∧ b ≤ (t : Int) ∧ (∀ n ∈ ns, 0 ≤ n) ∧ ns.length ≤ 63 ∧ k = ns.length, ?_, fun k e S' ⟨he, hk, a, b, ns, h1, h2, h3, h4, h5, h6, h7, h8, h9⟩ => ?_⟩
  · obtain ⟨a, b, ns, h1, h2, h3, h4, h5, h6, h7, h8⟩ := hp.ex
    exact ⟨ns.length, rfl, Kp.refl, a, b, ns, h1, h2, h3, h4, h5, h6, h7, h8, rfl⟩
  · subst he
    simp only [wRet, wRetN, wIf, wSeq, wSkip, wBreak, wCont, wNever, wDrop, wAndV, wOrV, wNotV, wIfE, wTest, wAndT, wOrT, wNotT, wUn, wOp, wVar, wC, wCB, wNil, wCons, wTup, wLst, wCall, wCallX, wSl, wNoPart, wPart, wChain, wAsg, wSet, wAug, wPar, wFor, iLst, iTp, iRng, iEn, iSt, gNm, gTp, gNone, gMore, g2, g3, wLc, wYes, wLm, wDGet, wDIn, wDGet2, wDPut, wDNew, wDisp, wPs, wSm0, wSm1, wRev, wMaxD, wRaise, wKeep, gSet]
    refine ⟨_, rfl, look_own h1 ⟨(show 0 ≤ lineD by decide), ?_⟩⟩
    refine ne_nil h2 ?_
    have hA1 : (S' ++ [Cell.lst true []])[p]? = some (potK o a b) := Sub.push _ _ h1
    have hA2 : (S' ++ [Cell.lst true []])[o]? = some (.lst true (ns.map D.int)) := Sub.push _ _ h2
    have hp' : p < S'.length := (List.getElem?_eq_some_iff.mp h1).1
    have ho' : o < S'.length := (List.getElem?_eq_some_iff.mp h2).1
    have kA : Kp p o S (S' ++ [Cell.lst true []]) := hk.trans (Kp.sub hp' ho' Sub.push)
    have kB : Kp p o S ((S' ++ [Cell.lst true []]) ++ [Cell.lst true []]) := kA.trans (Kp.sub (by simp; omega) (by simp; omega) Sub.push)
    cases ns with
    | nil =>
      refine iteB (fun z => Bool.noConfusion z) fun _ => ?_
      rw [if_neg (by simp)]
      refine ⟨_, rfl, look_own hA1 ⟨(show 0 ≤ lineD by decide), ne_nil hA2 ?_⟩⟩
      refine iteB (fun z => Bool.noConfusion z) fun _ => ?_
      have hB1 : ((S' ++ [Cell.lst true []]) ++ [Cell.lst true []])[p]? = some (potK o a b) := Sub.push _ _ hA1
      have hB2 : ((S' ++ [Cell.lst true []]) ++ [Cell.lst true []])[o]? = some (.lst true (([] : List Int).map D.int)) := Sub.push _ _ hA2
      have hpB := (List.getElem?_eq_some_iff.mp hB1).1
      refine ⟨_, rfl, look_turn hB1 ⟨_, rfl, _, rfl, put_turn hB1 ?_⟩⟩
      have hC1 : (((S' ++ [Cell.lst true []]) ++ [Cell.lst true []]).set p (potK o a (b + 1)))[p]? = some (potK o a (b + 1)) := List.getElem?_set_self hpB
      have hC2 : (((S' ++ [Cell.lst true []]) ++ [Cell.lst true []]).set p (potK o a (b + 1)))[o]? = some (.lst true (([] : List Int).map D.int)) := by rw [List.getElem?_set_ne hne]; exact hB2
      have hb : b + 1 ≤ 10 ^ 9 + 1 := by omega
      obtain ⟨u, hu⟩ : ∃ u, u = b + 1 := ⟨_, rfl⟩
      have hu0 : 0 ≤ u := by omega
      have hu1' : u ≤ 10 ^ 9 + 1 := by omega
      show ∃ d, _ ∧ _
      rw [← hu] at hC1 hC2 ⊢
      refine ⟨_, rfl, look_seed hC1 ⟨_, rfl, cmul (by decide) (by omega), _, rfl, ?_⟩⟩
      have hv0 : 0 ≤ 65537 * u * u := Int.mul_nonneg (by omega) hu0
      have hv1 : 65537 * u * u ≤ (65537 * (10 ^ 9 + 1)) * (10 ^ 9 + 1) := Int.mul_le_mul (by omega) hu1' hu0 (by omega)
      obtain ⟨v, hv⟩ : ∃ v, v = 65537 * u * u := ⟨_, rfl⟩
      rw [← hv] at hv0 hv1
      refine ⟨cmul (by omega) (by omega), ?_⟩
      rw [← hv]
      refine ⟨cmul (by omega) (by decide), (by decide : (0 : Int) < 2305843009213693921), ?_⟩
      obtain ⟨x, hx⟩ : ∃ x, x = (a + v + 11) * 48271 % 2305843009213693921 := ⟨_, rfl⟩
      have hx0 : 0 ≤ x := by rw [hx]; exact Int.emod_nonneg _ (by decide)
      have hx1 : x < 2305843009213693921 := by rw [hx]; exact Int.emod_lt_of_pos _ (by decide)
      rw [← hx]
      have hy0 : 0 ≤ x % 1000003 := Int.emod_nonneg _ (by decide)
      have hy1 : x % 1000003 < 1000003 := Int.emod_lt_of_pos _ (by decide)
      refine ⟨_, rfl, _, rfl, (by decide : (0 : Int) < 1000003), _, rfl, cmul (by decide) (by omega), cmul (by omega) (by omega), (by decide : (0 : Int) < 2305843009213693907), ?_⟩
      obtain ⟨z, hz⟩ : ∃ z, z = x * (x % 1000003 + 99991 * u) % 2305843009213693907 := ⟨_, rfl⟩
      rw [← hz]
      refine ⟨_, rfl, ⟨by decide, by decide⟩, _, rfl, ⟨by decide, by decide⟩, _, rfl, (by omega : (0 : Int) < (m : Int)), ?_⟩
      have hr0 : 0 ≤ (z / 97 + z / 1000033) % (m : Int) := Int.emod_nonneg _ (by omega)
      have hr1 : (z / 97 + z / 1000033) % (m : Int) < (m : Int) := Int.emod_lt_of_pos _ (by omega)
      refine qc (q ((z / 97 + z / 1000033) % (m : Int)).toNat _ (by omega) ⟨a, u, [], hC1, hC2, h3, h4, hu0, by omega, fun n hn => by simp at hn, by simp⟩ (kB.trans Kp.set_p)) ?_
      rw [Int.toNat_of_nonneg hr0]
    | cons n ns =>
      have hn0 := h7 n List.mem_cons_self
      refine iteB (fun _ => ?_) fun z => Bool.noConfusion z
      refine ⟨_, rfl, look_own hA1 ⟨true, _, .int n, hA2, atN (k := 0) rfl, ?_⟩⟩
      show if decide (n = 0) = true then _ else _
      refine iteB (fun h10 => ?_) fun h10 => ?_
      · have hoA := (List.getElem?_eq_some_iff.mp hA2).1
        refine ⟨_, rfl, look_own hA1 ⟨⟨true, _, hA2⟩, _, .int n, hA2, by decide, by decide, rfl, ?_⟩⟩
        refine ⟨ns.length, by rw [h9]; simp, trivial, kA.trans Kp.set_o, a, b, ns, ?_, ?_, h3, h4, h5, h6, fun k hk => h7 k (List.mem_cons_of_mem _ hk), by simp at h8; omega, rfl⟩
        · rw [List.getElem?_set_ne (Ne.symm hne)]; exact hA1
        · rw [List.getElem?_set_self hoA]; rfl
      · refine ⟨_, rfl, look_own hA1 ⟨(show 0 ≤ lineD by decide), ne_nil hA2 ?_⟩⟩
        refine iteB (fun _ => ?_) fun z => Bool.noConfusion z
        have hB1 : ((S' ++ [Cell.lst true []]) ++ [Cell.lst true []])[p]? = some (potK o a b) := Sub.push _ _ hA1
        have hB2 : ((S' ++ [Cell.lst true []]) ++ [Cell.lst true []])[o]? = some (.lst true ((n :: ns).map D.int)) := Sub.push _ _ hA2
        have hoB := (List.getElem?_eq_some_iff.mp hB2).1
        refine ⟨_, rfl, look_own hB1 ⟨true, _, .int n, hB2, atN (k := 0) rfl, _, rfl, (by omega : (0 : Int) < (m : Int)), ?_⟩⟩
        refine ⟨_, rfl, look_own hB1 ⟨true, _, .int n, hB2, atN (k := 0) rfl, _, rfl, ⟨by omega, ?_⟩, ?_⟩⟩
        · show ((m : Nat) : Int).natAbs.log2 < 9000
          rw [Int.natAbs_natCast]
          have : m.log2 < 60 := (Nat.log2_lt (by omega)).mpr hm1
          omega
        · refine ⟨_, rfl, look_own hB1 ⟨_, 0, hB2, ix0 (by simp), _, rfl, ?_⟩⟩
          have hr0 : 0 ≤ n % (m : Int) := Int.emod_nonneg _ (by omega)
          have hr1 : n % (m : Int) < (m : Int) := Int.emod_lt_of_pos _ (by omega)
          refine qc (q (n % (m : Int)).toNat _ (by omega) ⟨a, b, n / (m : Int) :: ns, ?_, ?_, h3, h4, h5, by omega, fun k hk => ?_, by simpa using h8⟩ (kB.trans Kp.set_o)) ?_
          · rw [List.getElem?_set_ne (Ne.symm hne)]; exact hB1
          · rw [List.getElem?_set_self hoB]; rfl
          · rcases List.mem_cons.mp hk with rfl | hk
            · exact Int.ediv_nonneg hn0 (by omega)
            · exact h7 k (List.mem_cons_of_mem _ hk)
          · rw [Int.toNat_of_nonneg hr0]
end
end K78
set_option Elab.async false
set_option linter.all false
set_option maxRecDepth 100000
set_option maxHeartbeats 4000000
namespace K78
open PySem PySem.Spec PyProof.Rows L2 Qd
theorem cmul2 {i j : Int} (hi : i.natAbs < 2 ^ 4000) (hj : j.natAbs < 2 ^ 4000) : CMulW i j := by
  have lg : ∀ n : Nat, n < 2 ^ 4000 → n.log2 ≤ 4000 := fun n h => by
    by_cases h0 : n = 0
    · rw [h0]; decide
    · exact Nat.le_of_lt ((Nat.log2_lt h0).mpr h)
  have h1 := lg _ hi
  have h2 := lg _ hj
  unfold CMulW
  omega
section
variable {P : Program} {w : World} {K : PySem.W.Frag} {mg : Str → Option Value} {base : Heap}
/-- the sequence that _law_pick chooses from -/
def Some_ (p o : Nat) (S : Store) (d : D) (xs : List D) : Prop := (∃ n, d = .loc n ∧ (hide p o S)[n]? = some (.lst true xs)) ∨ ∃ z : Str, d = .str z ∧ z.length ≤ 100 ∧ xs = z.cps.toList.map fun c => .str ⟨#[c]⟩
def cPick : Con := fun ds S Q _ => ∃ (p o t : Nat) (d : D) (xs : List D), ds = [.loc p, d] ∧ Some_ p o S d xs ∧ 0 < xs.length ∧ xs.length ≤ 100000 ∧ Pot S p o t ∧ t ≤ 10 ^ 9 ∧ ∀ (i : Nat) (x : D) T, xs[i]? = some x → Pot T p o (t + 1) → Kp p o S T → Q x T
abbrev s__law_pick : Stmt := topS 23
theorem sc__law_pick : FnScope ["pot", "some"] ["pot", "some"] (defScope s__law_pick) := ⟨rfl, rfl, rfl, by decide +kernel, rfl, by decide +kernel, by decide +kernel⟩
theorem ok__law_pick {f : Addr} {fd : FuncData} (F : Fun K "_law_pick" "_law_pick" s__law_pick f fd) (hm : mg "_law_pick" = some (.ref f)) (hb : Binds K fd ["pot", "some"] []) (B : Blt mg) (C__law_take : Fn P w K mg base 1 "_law_take" cTake []) : Fn P w K mg base 2 "_law_pick" cPick [] := by
  refine defQ F hm hb .nil sc__law_pick (fun ds S Q X ⟨_, _, _, _, _, e, _⟩ => by rw [e]; rfl) fun cdv A outer s H hr => ?_
  have hu1 := hu_of hr; have hu64 := hr.units
  refine ⟨_, (qs_one (q_ret (q_ix ix_seq ro_ix (qv 1) (q_c (dds := []) C__law_take hr (by first | decide | omega) (by rfl) (qa_cons (qv 0) (qa_cons (q_cb call_len ro_len (by rfl) B.len (by decide +kernel) (qa_cons (qv 1) qa_nil)) qa_nil)))))), fun ds S Q X h => ?_⟩
  obtain ⟨p, o, t, d, xs, rfl, hs, h0, h1, hp, ht, q⟩ := h
  simp only [wRet, wRetN, wIf, wSeq, wSkip, wBreak, wCont, wNever, wDrop, wAndV, wOrV, wNotV, wIfE, wTest, wAndT, wOrT, wNotT, wUn, wOp, wVar, wC, wCB, wNil, wCons, wTup, wLst, wCall, wCallX, wSl, wNoPart, wPart, wChain, wAsg, wSet, wAug, wPar, wFor, iLst, iTp, iRng, iEn, iSt, gNm, gTp, gNone, gMore, g2, g3, wLc, wYes, wLm, wDGet, wDIn, wDGet2, wDPut, wDNew, wDisp, wPs, wSm0, wSm1, wRev, wMaxD, wRaise, wKeep, gSet]
  rcases hs with ⟨n, rfl, hn⟩ | ⟨z, rfl, hz, rfl⟩
  · obtain ⟨hn', n1, n2⟩ := hide_data hn (by unfold dead; exact fun z => Cell.noConfusion z)
    refine ⟨_, rfl, _, rfl, _, rfl, true, xs, hn', p, o, t, xs.length, rfl, h0, by omega, hp, ht, fun r T hr hpT hk => ?_⟩
    obtain ⟨hT, _, _⟩ := hide_data (hk _ _ hn) (by unfold dead; exact fun z => Cell.noConfusion z)
    exact ⟨true, xs, xs[r], hT, atN (List.getElem?_eq_getElem hr), q r _ T (List.getElem?_eq_getElem hr) hpT hk⟩
  · have hl : (z.cps.toList.map fun c => D.str ⟨#[c]⟩).length = z.length := by simp; rfl
    rw [hl] at h0 h1
    refine ⟨_, rfl, _, rfl, _, rfl, len_lineD hz, p, o, t, z.length, rfl, h0, by omega, hp, ht, fun r T hr hpT hk => ?_⟩
    have hr' : r < z.cps.toList.length := hr
    exact ⟨z.cps.toList[r], len_lineD hz, atN (List.getElem?_eq_getElem hr'), q r _ T (by rw [List.getElem?_map, List.getElem?_eq_getElem hr']; rfl) hpT hk⟩
def cPot : Con := fun ds S Q _ => ∃ (ns : List Int), ds = [.scr ns] ∧ ns.length ≤ 63 ∧ ∀ p o T, S.length ≤ p → S.length ≤ o → Pot T p o 0 → Sub S T → Q (.loc p) T
abbrev s__law_pot : Stmt := topS 21
theorem sc__law_pot : FnScope ["script", "far", "seed", "own", "k", "cell"] ["script"] (defScope s__law_pot) := ⟨rfl, rfl, rfl, by decide +kernel, rfl, by decide +kernel, by decide +kernel⟩
theorem ok__law_pot {f : Addr} {fd : FuncData} (F : Fun K "_law_pot" "_law_pot" s__law_pot f fd) (hm : mg "_law_pot" = some (.ref f)) (hb : Binds K fd ["script"] []) (B : Blt mg) : Fn P w K mg base 1 "_law_pot" cPot [] := by
  refine defQ F hm hb .nil sc__law_pot (fun ds S Q X ⟨_, e, _⟩ => by rw [e]; rfl) fun cdv A outer s H hr => ?_
  have hu1 := hu_of hr; have hu64 := hr.units
  refine ⟨_, (qs_cons (q_set (i := 1) sc__law_pot.nd rfl (.inl rfl) (q_op op_mul3 ro_mul3 (q_op op_mul3 ro_mul3 (q_op op_mul3 ro_mul3 (q_op op_mul3 ro_mul3 (q_op op_pow ro_pow q_int q_int) (q_op op_pow ro_pow q_int q_int)) (q_op op_pow ro_pow q_int q_int)) (q_op op_pow ro_pow q_int q_int)) (q_op op_pow ro_pow q_int q_int)))
      (qs_cons (q_par (i := 2) (j := 3) rfl sc__law_pot.nd rfl rfl (by decide) rfl rfl q_int (q_lst qa_nil) (by rfl))
      (qs_cons (q_for (vs := [4, 5]) PassesOwn.never rfl (qi_enum (by rfl) B.enumerate (q_sl sl_3 ro_sl (qv 0) qo_none (qo_some q_int))) (qg_2 (i := 4) (j := 5) rfl sc__law_pot.nd rfl (.inl rfl) rfl (.inl rfl)) (qs_cons (q_set (i := 2) sc__law_pot.nd rfl (.inl rfl) (q_op op_mod ro_mod (q_op op_add4 ro_add (q_op op_add4 ro_add (q_op op_add4 ro_add (q_op op_mul3 ro_mul3 (qv 2) q_int) (q_op op_mod ro_mod (qv 5) q_int)) (q_op op_mul3 ro_mul3 q_int (qv 4))) q_int) q_int))
      (qs_one (q_if (qt_cmp op_ge ro_cmp (q_cb call_abs ro_abs (by rfl) B.abs (by decide +kernel) (qa_cons (qv 5) qa_nil)) (q_op op_pow ro_pow q_int q_int) (nomark _)) (qs_one (q_expr (q_lm PySem.F.slot_list_append PySem.F.type_list_append mt_append ro_append (qv 3) (qa_cons (q_op op_mod ro_mod (q_cb call_abs ro_abs (by rfl) B.abs (by decide +kernel) (qa_cons (qv 5) qa_nil)) (qv 1)) qa_nil)))) qs_nil))))
      (qs_one (q_ret (q_disp (ps := [("own", _), ("seed", _), ("turn", _)]) (pps_cons pe_str (qv 3) (pps_cons pe_str (qv 2) (pps_cons pe_str q_int pps_nil))))))))), fun ds S Q X h => ?_⟩
  obtain ⟨ns, rfl, hl, q⟩ := h
  simp only [wRet, wRetN, wIf, wSeq, wSkip, wBreak, wCont, wNever, wDrop, wAndV, wOrV, wNotV, wIfE, wTest, wAndT, wOrT, wNotT, wUn, wOp, wVar, wC, wCB, wNil, wCons, wTup, wLst, wCall, wCallX, wSl, wNoPart, wPart, wChain, wAsg, wSet, wAug, wPar, wFor, iLst, iTp, iRng, iEn, iSt, gNm, gTp, gNone, gMore, g2, g3, wLc, wYes, wLm, wDGet, wDIn, wDGet2, wDPut, wDNew, wDisp, wPs, wSm0, wSm1, wRev, wMaxD, wRaise, wKeep, gSet]
  have cp : CPow 10 60 := ⟨by decide, by decide, by decide⟩
  have ten : ((10 : Int) ^ (60 : Int).toNat) = 10 ^ 60 := rfl
  refine ⟨cp, cp, cmul2 (by decide +kernel) (by decide +kernel), cp, cmul2 (by decide +kernel) (by decide +kernel), cp, cmul2 (by decide +kernel) (by decide +kernel), cp, cmul2 (by decide +kernel) (by decide +kernel), (show 0 ≤ lineD by decide), _, rfl, ?_⟩
  refine ⟨true, _, last_get, ?_⟩
  have cut : Qd.cutD (ns.map D.int) none (some 63) = ns.map D.int := by
    unfold Qd.cutD
    rw [HT.sIx_none, show (63 : Int) = ((63 : Nat) : Int) from rfl, HT.sIx_nat, List.length_map, List.drop_zero, Nat.sub_zero, Nat.min_eq_right hl]
    exact List.take_of_length_le (by simp)
  rw [cut]
  obtain ⟨far, hfar⟩ : ∃ far : Int, far = (10 : Int) ^ (60 : Int).toNat * 10 ^ (60 : Int).toNat * 10 ^ (60 : Int).toNat * 10 ^ (60 : Int).toNat * 10 ^ (60 : Int).toNat := ⟨_, rfl⟩
  have far0 : 0 < far := by rw [hfar]; decide
  rw [← hfar]
  refine loop_by (fun i e S' => ∃ (a : Int) (vs : List Int) (x4 x5 : Option D), e = [some (.scr ns), some (.int far), some (.int a), some (.loc S.length), x4, x5] ∧ Sub S S' ∧ S'[(S ++ [Cell.lst true []]).length]? = some (.lst true (ns.map D.int)) ∧ S'[S.length]? = some (.lst true (vs.map D.int)) ∧ 0 ≤ a ∧ a < 2 ^ 62 ∧ (∀ v ∈ vs, 0 ≤ v) ∧ vs.length ≤ i) ?_ (fun i e S' h => ?_) (fun i d hd e S' h R hR => ?_) (fun e S' h => ?_)
  · exact ⟨17, [], none, none, rfl, Sub.push.to, last_get, Sub.push _ _ last_get, by decide, by decide, fun v hv => by simp at hv, by simp⟩
  · obtain ⟨a, vs, x4, x5, he, hS, h1, _⟩ := h
    exact ⟨true, h1⟩
  · obtain ⟨a, vs, x4, x5, rfl, hS, h1, h2, h3, h4, h5, h6⟩ := h
    rw [List.getElem?_mapIdx, List.getElem?_map] at hd
    cases hc : ns[i]? with
    | none => rw [hc] at hd; cases hd
    | some v =>
      rw [hc] at hd
      cases hd
      have hi := (List.getElem?_eq_some_iff.mp hc).1
      simp only [wRet, wRetN, wIf, wSeq, wSkip, wBreak, wCont, wNever, wDrop, wAndV, wOrV, wNotV, wIfE, wTest, wAndT, wOrT, wNotT, wUn, wOp, wVar, wC, wCB, wNil, wCons, wTup, wLst, wCall, wCallX, wSl, wNoPart, wPart, wChain, wAsg, wSet, wAug, wPar, wFor, iLst, iTp, iRng, iEn, iSt, gNm, gTp, gNone, gMore, g2, g3, wLc, wYes, wLm, wDGet, wDIn, wDGet2, wDPut, wDNew, wDisp, wPs, wSm0, wSm1, wRev, wMaxD, wRaise, wKeep, gSet]
      have hv0 : 0 ≤ v % 2305843009213693951 := Int.emod_nonneg _ (by decide)
      have hv1 : v % 2305843009213693951 < 2305843009213693951 := Int.emod_lt_of_pos _ (by decide)
      refine ⟨_, rfl, cmul (by omega) (by decide), _, rfl, (by decide : (0 : Int) < 2305843009213693951), _, rfl, cmul (by decide) (by omega), (by decide : (0 : Int) < 2305843009213693951), ?_⟩
      obtain ⟨c, hcc⟩ : ∃ c, c = (a * 48271 + v % 2305843009213693951 + 7919 * ((i : Nat) : Int) + 5) % 2305843009213693951 := ⟨_, rfl⟩
      have hc0 : 0 ≤ c := by rw [hcc]; exact Int.emod_nonneg _ (by decide)
      have hc1 : c < 2305843009213693951 := by rw [hcc]; exact Int.emod_lt_of_pos _ (by decide)
      rw [← hcc]
      refine ⟨_, rfl, ⟨by decide, by decide, by decide⟩, ?_⟩
      show if decide ((10 : Int) ^ (18 : Int).toNat ≤ (if v < 0 then -v else v)) = true then _ else _
      refine iteB (fun _ => ?_) fun _ => ?_
      · have hab : 0 ≤ (if v < 0 then -v else v) := by split <;> omega
        refine ⟨_, rfl, ⟨true, _, h2⟩, _, rfl, _, rfl, far0, _, h2, by rw [List.length_map]; exact Nat.lt_of_le_of_lt (by omega : vs.length ≤ 63) (by decide), ?_⟩
        have hlo : S.length < S'.length := (List.getElem?_eq_some_iff.mp h2).1
        refine hR _ _ ⟨c, vs ++ [(if v < 0 then -v else v) % far], some (.int ((i : Nat) : Int)), some (.int v), rfl, Sub_setN hS (Nat.le_refl _), ?_, ?_, hc0, by omega, fun z hz => ?_, by simp; omega⟩
        · rw [List.getElem?_set_ne (by simp)]; exact h1
        · rw [List.getElem?_set_self hlo, List.map_append]; rfl
        · rcases List.mem_append.mp hz with z1 | z1
          · exact h5 z z1
          · rw [List.mem_singleton.mp z1]; exact Int.emod_nonneg _ (by omega)
      · exact hR _ _ ⟨c, vs, some (.int ((i : Nat) : Int)), some (.int v), rfl, hS, h1, h2, hc0, by omega, h5, by omega⟩
  · obtain ⟨a, vs, x4, x5, rfl, hS, h1, h2, h3, h4, h5, h6⟩ := h
    simp only [List.length_mapIdx, List.length_map] at h6
    have hlo : S.length < S'.length := (List.getElem?_eq_some_iff.mp h2).1
    refine ⟨_, rfl, _, rfl, (show 3 ≤ 15 by decide), ?_⟩
    refine q S'.length S.length _ (by omega) (Nat.le_refl _) ⟨a, 0, vs, last_get, Sub.push _ _ h2, h3, h4, by decide, by decide, h5, by omega⟩ hS.to
end
end K78
set_option Elab.async false
set_option linter.all false
set_option maxRecDepth 100000
set_option maxHeartbeats 4000000
namespace K78
open PySem PySem.Spec PyProof.Rows L2 Qd
def NameS (x : Str) : Prop := nameP (.str x) = true ∧ PyData.strOk x = true
theorem join_signs (cs : List Nat) : (Txt.join "" (cs.map fun c => (⟨#[c]⟩ : Str))).cps.toList = cs := by
  have main : ∀ (cs : List Nat) (acc : Array Nat), ((cs.map fun c => (⟨#[c]⟩ : Str)).foldl (fun acc p => acc ++ (Str.ofString "").cps ++ p.cps) acc).toList = acc.toList ++ cs := by
    intro cs
    induction cs with
    | nil => intro acc; simp
    | cons c cs ih =>
      intro acc
      rw [List.map_cons, List.foldl_cons, ih]
      simp [show (Str.ofString "").cps = #[] from rfl]
  show (Builtin.Str.glued _ _).cps.toList = _
  unfold Builtin.Str.glued
  cases cs with
  | nil => rfl
  | cons c cs =>
    exact main cs #[c]
def Low (x : Str) : Prop := ∀ c ∈ x.cps.toList, c ∈ letters.cps.toList
theorem low_app {x y : Str} (h : Low x) (g : Low y) : Low (x ++ y) := fun c hc => by
  have e : (x ++ y).cps.toList = x.cps.toList ++ y.cps.toList := by
    show (x.cps ++ y.cps).toList = _
    simp
  rw [e] at hc
  rcases List.mem_append.mp hc with z | z
  · exact h c z
  · exact g c z
theorem low_cut {x : Str} (h : Low x) (lo hi : Option Int) : Low (cutS x lo hi) := fun c hc => by
  unfold cutS at hc
  simp only [List.toList_toArray] at hc
  exact h c (List.mem_of_mem_drop (List.mem_of_mem_take hc))
theorem low_one {c : Nat} (h : c ∈ letters.cps.toList) : Low ⟨#[c]⟩ := fun d hd => by
  have : d = c := by simpa using hd
  rw [this]; exact h
theorem len_app {x y : Str} : (x ++ y).length = x.length + y.length := by
  show (x.cps ++ y.cps).size = _
  simp
  rfl
theorem len_cut {x : Str} {k : Nat} (h : k ≤ x.length) : (cutS x none (some ((k : Nat) : Int))).length = k ∧ (cutS x (some ((k : Nat) : Int)) none).length = x.length - k := by
  have hx : x.cps.toList.length = x.length := rfl
  constructor
  · unfold cutS
    rw [HT.sIx_none, HT.sIx_nat]
    show (List.toArray _).size = _
    rw [List.size_toArray, List.length_take, List.drop_zero, hx]
    omega
  · unfold cutS
    rw [HT.sIx_none, HT.sIx_nat]
    show (List.toArray _).size = _
    rw [List.size_toArray, List.length_take, List.length_drop, hx]
    omega
theorem name_of {x : Str} (h : Low x) (h1 : 1 ≤ x.length) (h8 : x.length ≤ 8) : NameS x := by
  refine ⟨?_, ?_⟩
  · simp only [nameP, h1, h8, decide_true, Bool.true_and, List.all_eq_true, decide_eq_true_eq]
    exact h
  · unfold PyData.strOk
    rw [← Array.all_toList, List.all_eq_true]
    intro c hc
    have hb : ∀ d ∈ letters.cps.toList, d < 0x110000 := by decide
    exact decide_eq_true (hb c (h c hc))
theorem letter_at {i : Int} (h0 : 0 ≤ i) (h1 : i < 26) : ∃ c, c ∈ letters.cps.toList ∧ atI letters.cps.toList i = some c := by
  obtain ⟨k, rfl⟩ : ∃ k : Nat, i = (k : Int) := ⟨i.toNat, by omega⟩
  have hl : letters.cps.toList.length = 26 := by decide
  have hk : k < letters.cps.toList.length := by omega
  exact ⟨_, List.getElem_mem hk, atN (List.getElem?_eq_getElem hk)⟩
theorem fcmp_int {f : Int → Int → Bool} {i j : Int} {b : Bool} {S : Store} {Q : D → Store → Prop} (e : f i j = b) (q : Q (.bl b) S) : fCmp f (.int i) (.int j) S Q := by
  subst e
  exact q
theorem hide_set {p o n : Nat} {S : Store} {c : Cell} (h1 : n ≠ p) (h2 : n ≠ o) : hide p o (S.set n c) = (hide p o S).set n c := by
  unfold hide
  rw [List.set_comm _ _ h1, List.set_comm _ _ h2]
theorem Kp_set {p o n : Nat} {S T : Store} {c : Cell} (h : Kp p o S T) (hn : S.length ≤ n) (h1 : n ≠ p) (h2 : n ≠ o) : Kp p o S (T.set n c) := by
  unfold Kp
  rw [hide_set h1 h2]
  exact Sub_setN h (by rw [hide_len]; exact hn)
theorem Pot.setN {p o t n : Nat} {S : Store} {c : Cell} (h : Pot S p o t) (h1 : n ≠ p) (h2 : n ≠ o) : Pot (S.set n c) p o t := by
  obtain ⟨a, b, ns, g1, g2, r⟩ := h.ex
  exact ⟨a, b, ns, by rw [List.getElem?_set_ne h1]; exact g1, by rw [List.getElem?_set_ne h2]; exact g2, r⟩
theorem hide_last {p o : Nat} {S : Store} {c : Cell} (hp : p < S.length) (ho : o < S.length) : (hide p o (S ++ [c]))[S.length]? = some c := by
  rw [hide_get (by omega) (by omega)]
  exact last_get
section
variable {P : Program} {w : World} {K : PySem.W.Frag} {mg : Str → Option Value} {base : Heap}
def cNames : Con := fun ds S Q _ => ∃ (p o t : Nat), ds = [.loc p, .int 4] ∧ Pot S p o t ∧ t ≤ 10 ^ 8 ∧ ∀ nn (names : List Str) T, Pot T p o (t + 20) → Kp p o S T → (hide p o T)[nn]? = some (.lst true (names.map D.str)) → names.length = 4 → (∀ x ∈ names, NameS x) → Q (.loc nn) T
abbrev s__law_names : Stmt := topS 24
theorem sc__law_names : FnScope ["pot", "many", "letters", "first", "stride", "base", "at", "tail", "names", "k", "name"] ["pot", "many"] (defScope s__law_names) := ⟨rfl, rfl, rfl, by decide +kernel, rfl, by decide +kernel, by decide +kernel⟩
theorem ok__law_names {f : Addr} {fd : FuncData} (F : Fun K "_law_names" "_law_names" s__law_names f fd) (hm : mg "_law_names" = some (.ref f)) (hb : Binds K fd ["pot", "many"] []) (B : Blt mg) (C__law_take : Fn P w K mg base 1 "_law_take" cTake []) (C__law_pick : Fn P w K mg base 2 "_law_pick" cPick []) : Fn P w K mg base 3 "_law_names" cNames [] := by
  refine defQ F hm hb .nil sc__law_names (fun ds S Q X ⟨_, _, _, e, _⟩ => by rw [e]; rfl) fun cdv A outer s H hr => ?_
  have hu1 := hu_of hr; have hu64 := hr.units
  refine ⟨_, (qs_cons (q_set (i := 2) sc__law_names.nd rfl (.inr rfl) q_str)
      (qs_cons (q_set (i := 3) sc__law_names.nd rfl (.inl rfl) (q_c (dds := []) C__law_take hr (by first | decide | omega) (by rfl) (qa_cons (qv 0) (qa_cons q_int qa_nil))))
      (qs_cons (q_set (i := 4) sc__law_names.nd rfl (.inl rfl) (q_c (dds := []) C__law_pick hr (by first | decide | omega) (by rfl) (qa_cons (qv 0) (qa_cons (q_lst (qa_cons q_int (qa_cons q_int (qa_cons q_int (qa_cons q_int (qa_cons q_int (qa_cons q_int (qa_cons q_int (qa_cons q_int qa_nil))))))))) qa_nil))))
      (qs_cons (q_set (i := 5) sc__law_names.nd rfl (.inl rfl) (q_join q_str (q_lc (own := [("k", 9)]) rfl sc__law_names.nd (qi_range (by rfl) B.range (q_c (dds := []) C__law_take hr (by first | decide | omega) (by rfl) (qa_cons (qv 0) (qa_cons q_int qa_nil)))) (blkOk_by (N := ["pot", "many", "letters", "first", "stride", "base", "at", "tail", "names", "k", "name"]) (sc := defScope s__law_names) (by decide +kernel)) (fun _ _ _ _ _ => (qg_name (i := 9) sc__law_names.nd rfl (.inl rfl))) (fun _ _ _ _ _ => qts_nil) (fun _ _ _ _ _ => (q_c (dds := []) C__law_pick hr (by first | decide | omega) (by rfl) (qa_cons (qv 0) (qa_cons (qv 2) qa_nil)))))))
      (qs_cons (q_par (i := 6) (j := 7) rfl sc__law_names.nd rfl rfl (by decide) rfl rfl (q_c (dds := []) C__law_take hr (by first | decide | omega) (by rfl) (qa_cons (qv 0) (qa_cons (q_op op_add4 ro_add (q_cb call_len ro_len (by rfl) B.len (by decide +kernel) (qa_cons (qv 5) qa_nil)) q_int) qa_nil))) (q_c (dds := []) C__law_take hr (by first | decide | omega) (by rfl) (qa_cons (qv 0) (qa_cons q_int qa_nil))) (by rfl))
      (qs_cons (q_set (i := 8) sc__law_names.nd rfl (.inl rfl) (q_lst qa_nil))
      (qs_cons (q_for (vs := [9]) PassesOwn.never rfl (qi_range (by rfl) B.range (qv 1)) (qg_name (i := 9) sc__law_names.nd rfl (.inl rfl)) (qs_cons (q_set (i := 10) sc__law_names.nd rfl (.inl rfl) (q_op op_add4 ro_add (q_op op_add4 ro_add (q_sl sl_3 ro_sl (qv 5) qo_none (qo_some (qv 6))) (q_ix ix_seq ro_ix (qv 2) (q_op op_mod ro_mod (q_op op_add4 ro_add (qv 3) (q_op op_mul3 ro_mul3 (qv 4) (qv 9))) q_int))) (q_sl sl_3 ro_sl (qv 5) (qo_some (qv 6)) qo_none)))
      (qs_one (q_expr (q_lm PySem.F.slot_list_append PySem.F.type_list_append mt_append ro_append (qv 8) (qa_cons (q_op op_add4 ro_add (qv 10) (q_op op_mul3 ro_mul3 (q_ix ix_seq ro_ix (qv 2) (q_op op_mod ro_mod (q_op op_add4 ro_add (qv 7) (q_op op_fdivW ro_div (qv 9) q_int)) q_int)) (q_ct call_int1 ro_int (by rfl) B.int (by decide +kernel) (qa_cons (q_cmp op_gt ro_cmp (qv 9) q_int (nomark _)) qa_nil)))) qa_nil))))))
      (qs_one (q_ret (qv 8)))))))))), fun ds S Q X h => ?_⟩
  obtain ⟨p, o, t, rfl, hp, ht, q⟩ := h
  simp only [wRet, wRetN, wIf, wSeq, wSkip, wBreak, wCont, wNever, wDrop, wAndV, wOrV, wNotV, wIfE, wTest, wAndT, wOrT, wNotT, wUn, wOp, wVar, wC, wCB, wNil, wCons, wTup, wLst, wCall, wCallX, wSl, wNoPart, wPart, wChain, wAsg, wSet, wAug, wPar, wFor, iLst, iTp, iRng, iEn, iSt, gNm, gTp, gNone, gMore, g2, g3, wLc, wYes, wLm, wDGet, wDIn, wDGet2, wDPut, wDNew, wDisp, wPs, wSm0, wSm1, wRev, wMaxD, wRaise, wKeep, gSet]
  refine ⟨_, rfl, p, o, t, 26, rfl, by decide, by decide, hp, by omega, fun first T1 hf1 hp1 hk1 => ?_⟩
  have hl1 := hp1.lt
  refine ⟨_, rfl, (show 8 ≤ lineD by decide), p, o, t + 1, _, _, rfl, .inl ⟨_, rfl, hide_last hl1.1 hl1.2⟩, by decide, by decide, hp1.sub Sub.push, by omega, fun i x T2 hx hp2 hk2 => ?_⟩
  obtain ⟨st, hst, rfl⟩ : ∃ st : Nat, st ≤ 25 ∧ x = .int ((st : Nat) : Int) := by
    have hx' : (([1, 3, 5, 7, 9, 11, 15, 25] : List Nat).map fun n : Nat => D.int ((n : Nat) : Int))[i]? = some x := hx
    rw [List.getElem?_map] at hx'
    cases hn : ([1, 3, 5, 7, 9, 11, 15, 25] : List Nat)[i]? with
    | none => rw [hn] at hx'; cases hx'
    | some n =>
      rw [hn] at hx'
      cases hx'
      have hm := List.mem_of_getElem? hn
      have hb : ∀ n ∈ ([1, 3, 5, 7, 9, 11, 15, 25] : List Nat), n ≤ 25 := by decide
      exact ⟨n, hb n hm, rfl⟩
  have hk02 : Kp p o S T2 := (hk1.trans (Kp.sub hl1.1 hl1.2 Sub.push)).trans hk2
  refine ⟨_, rfl, p, o, t + 2, 7, rfl, by decide, by decide, hp2, by omega, fun n7 T3 hn7 hp3 hk3 => ⟨by omega, by omega, ?_⟩⟩
  have hk03 := hk02.trans hk3
  have r7 : (((n7 : Nat) : Int)).toNat = n7 := Int.toNat_natCast n7
  refine lc_yes (fun i S' => Pot S' p o (t + 3 + i) ∧ Kp p o S S') (fun i d y => ∃ c, c ∈ letters.cps.toList ∧ y = .str ⟨#[c]⟩) ⟨hp3, hk03⟩ (by simp; exact Nat.le_trans (Nat.le_of_lt hn7) (by decide)) (fun _ _ _ => trivial) (fun i d hd S' ⟨hpS, hkS⟩ R hR => ?_) (fun ys S4 hl4 hy ⟨hp4, hk4⟩ => ?_)
  · have hi : i < 7 := by
      have := (List.getElem?_eq_some_iff.mp hd).1
      simp at this
      omega
    simp only [wRet, wRetN, wIf, wSeq, wSkip, wBreak, wCont, wNever, wDrop, wAndV, wOrV, wNotV, wIfE, wTest, wAndT, wOrT, wNotT, wUn, wOp, wVar, wC, wCB, wNil, wCons, wTup, wLst, wCall, wCallX, wSl, wNoPart, wPart, wChain, wAsg, wSet, wAug, wPar, wFor, iLst, iTp, iRng, iEn, iSt, gNm, gTp, gNone, gMore, g2, g3, wLc, wYes, wLm, wDGet, wDIn, wDGet2, wDPut, wDNew, wDisp, wPs, wSm0, wSm1, wRev, wMaxD, wRaise, wKeep, gSet]
    refine ⟨_, rfl, _, rfl, p, o, t + 3 + i, .str letters, _, rfl, .inr ⟨letters, rfl, by decide, rfl⟩, by decide, by decide, hpS, by omega, fun j x T hx hpT hkT => ?_⟩
    rw [List.getElem?_map] at hx
    cases hc : letters.cps.toList[j]? with
    | none => rw [hc] at hx; cases hx
    | some c =>
      rw [hc] at hx
      cases hx
      exact hR _ _ ⟨c, List.mem_of_getElem? hc, rfl⟩ ⟨hpT, hkS.trans hkT⟩
  · simp only [List.length_map, List.length_range, r7] at hl4 hp4
    have hp4 : Pot S4 p o (t + 10) := hp4.up (by omega)
    -- the base
    obtain ⟨cs, hcs, rfl⟩ : ∃ cs : List Nat, (∀ c ∈ cs, c ∈ letters.cps.toList) ∧ ys = (cs.map fun c => (⟨#[c]⟩ : Str)).map D.str := by
      have main : ∀ (l : List D), (∀ y ∈ l, ∃ c, c ∈ letters.cps.toList ∧ y = D.str ⟨#[c]⟩) → ∃ cs : List Nat, (∀ c ∈ cs, c ∈ letters.cps.toList) ∧ l = (cs.map fun c => (⟨#[c]⟩ : Str)).map D.str := by
        intro l
        induction l with
        | nil => intro _; exact ⟨[], by simp, rfl⟩
        | cons y l ih =>
          intro h
          obtain ⟨c, hc, rfl⟩ := h y List.mem_cons_self
          obtain ⟨cs, h1, h2⟩ := ih fun z hz => h z (List.mem_cons_of_mem _ hz)
          refine ⟨c :: cs, fun d hd => ?_, by rw [h2]; rfl⟩
          rcases List.mem_cons.mp hd with rfl | hd
          · exact hc
          · exact h1 d hd
      refine main ys fun y hy' => ?_
      obtain ⟨j, hj, hj'⟩ := List.getElem_of_mem hy'
      have hj2 : ys[j]? = some y := by rw [List.getElem?_eq_getElem hj, hj']
      exact hy j _ y (List.getElem?_eq_getElem (by simp; omega)) hj2
    have hcl : cs.length = n7 := by simpa using hl4
    obtain ⟨bs, hbs⟩ : ∃ bs, bs = Txt.join "" (cs.map fun c => (⟨#[c]⟩ : Str)) := ⟨_, rfl⟩
    have hbl : bs.length = n7 := by
      show bs.cps.toList.length = _
      rw [hbs, join_signs, hcl]
    have hlow : Low bs := fun c hc => by
      rw [hbs, join_signs] at hc
      exact hcs c hc
    have hl4' := hp4.lt
    refine ⟨true, _, last_get, ?_, ?_⟩
    · have : ((cs.map fun c => (⟨#[c]⟩ : Str)).map (·.length)).sum = cs.length := by
        clear hcs hl4 hy hcl hbs
        induction cs with
        | nil => rfl
        | cons c cs ih => simp at ih ⊢; rw [ih]; show 1 + _ = _; omega
      rw [this, List.length_map]
      show _ + _ * 0 ≤ _
      omega
    · rw [← hbs]
      refine ⟨_, rfl, _, rfl, len_lineD (by omega), p, o, t + 10, n7 + 1, ?_, by omega, by omega, hp4.sub Sub.push, by omega, fun at_ T5 hat hp5 hk5 => ?_⟩
      · rw [hbl]; simp
      · refine ⟨_, rfl, p, o, t + 11, 26, rfl, by decide, by decide, hp5, by omega, fun tl T6 htl hp6 hk6 => ?_⟩
        have hk06 : Kp p o S T6 := ((hk4.trans (Kp.sub hl4'.1 hl4'.2 Sub.push)).trans hk5).trans hk6
        have hl6 := hp6.lt
        refine ⟨(show 0 ≤ lineD by decide), _, rfl, by decide, by decide, ?_⟩
        have hSl : S.length ≤ T6.length := hk06.len
        have np : T6.length ≠ p := by omega
        have no : T6.length ≠ o := by omega
        refine loop_by (fun i e S' => ∃ (names : List Str) (x9 x10 : Option D), e = [some (.loc p), some (.int 4), some (.str letters), some (.int ((first : Nat) : Int)), some (.int ((st : Nat) : Int)), some (.str bs), some (.int ((at_ : Nat) : Int)), some (.int ((tl : Nat) : Int)), some (.loc T6.length), x9, x10] ∧ Pot S' p o (t + 12) ∧ Kp p o S S' ∧ S'[T6.length]? = some (.lst true (names.map D.str)) ∧ names.length = i ∧ ∀ x ∈ names, NameS x) ?_ (fun _ _ _ _ => trivial) (fun i d hd e S' h R hR => ?_) (fun e S' h => ?_)
        · exact ⟨[], none, none, rfl, hp6.sub Sub.push, hk06.trans (Kp.sub hl6.1 hl6.2 Sub.push), last_get, rfl, by simp⟩
        · obtain ⟨names, x9, x10, rfl, hpS, hkS, hg, hn, hns⟩ := h
          have hd' : ((List.range 4).map fun k => D.int ((k : Nat) : Int))[i]? = some d := hd
          rw [List.getElem?_map] at hd'
          cases hr : (List.range 4)[i]? with
          | none => rw [hr] at hd'; cases hd'
          | some k =>
            rw [hr] at hd'
            cases hd'
            have hi4 : i < 4 := by
              have := (List.getElem?_eq_some_iff.mp hr).1
              simpa using this
            have hk4 : k = i := by
              have := (List.getElem?_eq_some_iff.mp hr).2
              simpa using this.symm
            subst hk4
            simp only [wRet, wRetN, wIf, wSeq, wSkip, wBreak, wCont, wNever, wDrop, wAndV, wOrV, wNotV, wIfE, wTest, wAndT, wOrT, wNotT, wUn, wOp, wVar, wC, wCB, wNil, wCons, wTup, wLst, wCall, wCallX, wSl, wNoPart, wPart, wChain, wAsg, wSet, wAug, wPar, wFor, iLst, iTp, iRng, iEn, iSt, gNm, gTp, gNone, gMore, g2, g3, wLc, wYes, wLm, wDGet, wDIn, wDGet2, wDPut, wDNew, wDisp, wPs, wSm0, wSm1, wRev, wMaxD, wRaise, wKeep, gSet]
            have hg0 : 0 ≤ (((first : Nat) : Int) + ((st : Nat) : Int) * ((k : Nat) : Int)) % 26 := Int.emod_nonneg _ (by decide)
            have hg1 : (((first : Nat) : Int) + ((st : Nat) : Int) * ((k : Nat) : Int)) % 26 < 26 := Int.emod_lt_of_pos _ (by decide)
            obtain ⟨c1, hc1, ha1⟩ := letter_at hg0 hg1
            have hm0 : 0 ≤ (((tl : Nat) : Int) + ((k : Nat) : Int) / 26) % 26 := Int.emod_nonneg _ (by decide)
            have hm1 : (((tl : Nat) : Int) + ((k : Nat) : Int) / 26) % 26 < 26 := Int.emod_lt_of_pos _ (by decide)
            obtain ⟨c2, hc2, ha2⟩ := letter_at hm0 hm1
            have hat' : at_ ≤ bs.length := by omega
            have lc := len_cut hat'
            have hbb : bs.length ≤ 100 := by omega
            refine ⟨_, rfl, _, rfl, len_lineD hbb, _, rfl, _, rfl, _, rfl, _, rfl, cmul (by omega) (by omega), (by decide : (0 : Int) < 26), c1, by decide, ha1, ?_⟩
            refine ⟨Nat.le_trans (by rw [lc.1]; show at_ + 1 ≤ 100; omega) (by decide : (100 : Nat) ≤ lineD), _, rfl, _, rfl, len_lineD hbb, ?_⟩
            refine ⟨Nat.le_trans (by rw [len_app, lc.1, lc.2]; show at_ + 1 + (bs.length - at_) ≤ 100; omega) (by decide : (100 : Nat) ≤ lineD), ?_⟩
            refine ⟨_, rfl, ⟨true, _, hg⟩, _, rfl, _, rfl, _, rfl, _, rfl, ⟨by decide, by decide⟩, (by decide : (0 : Int) < 26), c2, by decide, ha2, _, rfl, ?_⟩
            have e25 : decide ((25 : Int) < ((k : Nat) : Int)) = false := decide_eq_false (by omega)
            refine fcmp_int e25 ?_
            obtain ⟨nm, hnm⟩ : ∃ nm : Str, nm = cutS bs none (some ((at_ : Nat) : Int)) ++ ⟨#[c1]⟩ ++ cutS bs (some ((at_ : Nat) : Int)) none := ⟨_, rfl⟩
            rw [← hnm]
            have hnl : nm.length = bs.length + 1 := by
              rw [hnm, len_app, len_app, lc.1, lc.2]
              show at_ + 1 + (bs.length - at_) = _
              omega
            have hlow2 : Low nm := hnm ▸ low_app (low_app (low_cut hlow _ _) (low_one hc1)) (low_cut hlow _ _)
            have hnm2 : NameS (nm ++ Str.empty) := name_of (low_app hlow2 fun c hc => by cases hc) (by rw [len_app]; omega) (by rw [len_app, hnl]; show _ + 0 ≤ 8; omega)
            refine ⟨⟨by decide, fun z => absurd (by decide) z, fun z => absurd (by decide) z⟩, ?_⟩
            show nm.length + (Str.empty).length ≤ lineD ∧ _
            refine ⟨Nat.le_trans (by rw [hnl]; show _ + 0 ≤ 100; omega : _ ≤ 100) (by decide : (100 : Nat) ≤ lineD), names.map D.str, hg, by rw [List.length_map]; exact Nat.lt_of_le_of_lt (by omega : names.length ≤ 4) (by decide), ?_⟩
            have ho : T6.length < S'.length := (List.getElem?_eq_some_iff.mp hg).1
            refine hR _ _ ⟨names ++ [nm ++ Str.empty], some (.int ((k : Nat) : Int)), some (.str nm), rfl, hpS.setN np no, Kp_set hkS hSl np no, ?_, by simp [hn], fun x hx => ?_⟩
            · rw [List.getElem?_set_self ho, List.map_append]; rfl
            · rcases List.mem_append.mp hx with z | z
              · exact hns x z
              · rw [List.mem_singleton.mp z]; exact hnm2
        · obtain ⟨names, x9, x10, rfl, hpS, hkS, hg, hn, hns⟩ := h
          have hn4 : names.length = 4 := by rw [hn]; rfl
          refine ⟨_, rfl, q _ names S' (hpS.up (by omega)) hkS ?_ hn4 hns⟩
          rw [hide_get np no]
          exact hg
end
end K78
set_option Elab.async false
set_option linter.all false
set_option maxRecDepth 100000
set_option maxHeartbeats 4000000
namespace K78
open PySem PySem.Spec PyProof.Rows L2 Qd
def BP : Nat → Nat | 0 => 1 | 1 => 3 | _ => 10
def CT : Nat → Nat | 0 => 3 | 1 => 9 | _ => 30
theorem parts_up {r n : Nat} {q : PyData} (hf : fine n q = true) (hr : r ≤ 60) (h : 0 < partsP r q) : partsP 60 q = partsP r q := by
  have e1 := parts_sizes n q r hf hr
  have e2 := parts_sizes n q 60 hf (Nat.le_refl _)
  by_cases hh : sizesP n q ≠ (0, 0) ∧ (sizesP n q).1 ≤ r
  · rw [e1, e2, if_pos hh, if_pos ⟨hh.1, by omega⟩]
  · rw [e1, if_neg hh] at h
    omega
structure Nms (p o : Nat) (S : Store) (nn : Nat) (names : List Str) : Prop where
  get : (hide p o S)[nn]? = some (.lst true (names.map D.str))
  pos : 0 < names.length
  le : names.length ≤ 4
  ok : ∀ x ∈ names, NameS x
theorem Nms.mono {p o : Nat} {S T : Store} {nn : Nat} {names : List Str} (h : Nms p o S nn names) (k : Kp p o S T) : Nms p o T nn names := ⟨k _ _ h.get, h.pos, h.le, h.ok⟩
theorem name_small {x : Str} (h : NameS x) (n : Nat) : fine n (.str x) = true := by
  have h1 : x.length ≤ 8 := by
    have := h.1
    simp only [nameP, Bool.and_eq_true, decide_eq_true_eq] at this
    exact this.1.2
  have h2 : decide (x.length ≤ 100) = true := decide_eq_true (by omega)
  cases n <;> simp [fine, h2, h.2] <;> omega
theorem fmin2_int {i j v : Int} {S : Store} {Q : D → Store → Prop} (e : (if j < i then j else i) = v) (q : Q (.int v) S) : fMin2 [.int i, .int j] S Q := by
  subst e
  exact q
def VP : Nat → Nat | 0 => 1 | 1 => 3 | _ => 4
theorem choose_shs {R : PyData → Prop} : ∀ {ys : List D}, (∀ y ∈ ys, ∃ q, Sh [] y q ∧ R q) → ∃ qs, Shs [] ys qs ∧ ∀ q ∈ qs, R q
  | [], _ => ⟨[], .nil, by simp⟩
  | y :: ys, h => by
    obtain ⟨q, h1, h2⟩ := h y List.mem_cons_self
    obtain ⟨qs, g1, g2⟩ := choose_shs fun z hz => h z (List.mem_cons_of_mem _ hz)
    refine ⟨q :: qs, .cons h1 g1, fun z hz => ?_⟩
    rcases List.mem_cons.mp hz with rfl | hz
    · exact h2
    · exact g2 z hz
theorem sum_le {f : PyData → Nat} {b : Nat} : ∀ {qs : List PyData}, (∀ q ∈ qs, f q ≤ b) → (qs.map f).sum ≤ qs.length * b
  | [], _ => by simp
  | q :: qs, h => by
    have h1 := h q List.mem_cons_self
    have h2 := sum_le (b := b) fun z hz => h z (List.mem_cons_of_mem _ hz)
    rw [List.map_cons, List.sum_cons, List.length_cons, Nat.add_mul, Nat.one_mul]
    omega
section
variable {P : Program} {w : World} {K : PySem.W.Frag} {mg : Str → Option Value} {base : Heap}
def cLT (k : Nat) : Con := fun ds S Q _ => ∃ (p o t nn deep : Nat) (blank : Bool) (names : List Str), ds = [.loc p, .loc nn, .int ((deep : Nat) : Int), .bl blank] ∧ deep ≤ k ∧ k ≤ 2 ∧ Nms p o S nn names ∧ Pot S p o t ∧ t + CT deep ≤ 10 ^ 7 ∧
  ∀ d q T, Sh [] d q → fine (deep + 1) q = true → 0 < partsP (deep + 1) q → partsP (deep + 1) q ≤ BP deep → Pot T p o (t + CT deep) → Kp p o S T → Q d T
theorem term_rest {c : Con} {r p o t nn deep : Nat} {blank : Bool} {names : List Str} {S S1 : Store} {Q : D → Store → Prop} (hc : ∀ r', r = r' + 1 → c = cLT r') (hdr : deep ≤ r) (hr2 : r ≤ 2) (hnm : Nms p o S nn names) (hp : Pot S1 p o (t + 1)) (ht : t + CT deep ≤ 10 ^ 7) (hk : Kp p o S S1)
    (q : ∀ d q T, Sh [] d q → fine (deep + 1) q = true → 0 < partsP (deep + 1) q → partsP (deep + 1) q ≤ BP deep → Pot T p o (t + CT deep) → Kp p o S T → Q d T) :
    wSeq (wSet 4 (wCall cTake [] (wCons (wVar 0) (wCons (wOp fIx (wLst (wCons (wC (.int 1)) (wCons (wC (.int 3)) (wCons (wC (.int 4)) wNil)))) (wCB fMin2 (wCons (wC (.int 2)) (wCons (wVar 2) wNil)))) wNil))))
      (wRet (wCB fTuple (wCons (wOp fAdd (wLst (wCons (wCall cPick [] (wCons (wVar 0) (wCons (wVar 1) wNil))) wNil)) (wLc (iRng (wVar 4)) (gNm 5) wYes (wCall c [] (wCons (wVar 0) (wCons (wVar 1) (wCons (wOp fSub (wVar 2) (wC (.int 1))) (wCons (wVar 3) wNil))))) [5])) wNil)))
      { nx := fun _ S => Q .non S, rt := Q } [some (.loc p), some (.loc nn), some (.int ((deep : Nat) : Int)), some (.bl blank), none, none] S1 noX := by
  simp only [wRet, wRetN, wIf, wSeq, wSkip, wBreak, wCont, wNever, wDrop, wAndV, wOrV, wNotV, wIfE, wTest, wAndT, wOrT, wNotT, wUn, wOp, wVar, wC, wCB, wNil, wCons, wTup, wLst, wCall, wCallX, wSl, wNoPart, wPart, wChain, wAsg, wSet, wAug, wPar, wFor, iLst, iTp, iRng, iEn, iSt, gNm, gTp, gNone, gMore, g2, g3, wLc, wYes, wLm, wDGet, wDIn, wDGet2, wDPut, wDNew, wDisp, wPs, wSm0, wSm1, wRev, wMaxD, wRaise, wKeep, gSet]
  have hl1 := hp.lt
  have hix : atI [D.int 1, D.int 3, D.int 4] (if ((deep : Nat) : Int) < 2 then ((deep : Nat) : Int) else 2) = some (.int ((VP deep : Nat) : Int)) := by
    have : deep = 0 ∨ deep = 1 ∨ deep = 2 := by omega
    rcases this with rfl | rfl | rfl <;> rfl
  have hv : 1 ≤ VP deep ∧ VP deep ≤ 4 := by
    have : deep = 0 ∨ deep = 1 ∨ deep = 2 := by omega
    rcases this with rfl | rfl | rfl <;> decide
  refine ⟨_, rfl, (show 3 ≤ lineD by decide), _, rfl, ?_⟩
  refine fmin2_int rfl ?_
  refine ⟨true, _, _, last_get, hix, p, o, t + 1, VP deep, rfl, by omega, by omega, hp.sub Sub.push, by omega, fun pl T2 hpl hp2 hk2 => ?_⟩
  have hk02 := (hk.trans (Kp.sub hl1.1 hl1.2 Sub.push)).trans hk2
  have hnm2 := hnm.mono hk02
  refine ⟨_, rfl, _, rfl, p, o, t + 1 + 1, .loc nn, names.map D.str, rfl, .inl ⟨nn, rfl, hnm2.get⟩, by rw [List.length_map]; exact hnm.pos, by rw [List.length_map]; exact Nat.le_trans hnm.le (by decide), hp2, by omega, fun j x T3 hx hp3 hk3 => ?_⟩
  rw [List.getElem?_map] at hx
  cases hj : names[j]? with
  | none => rw [hj] at hx; cases hx
  | some nm =>
    rw [hj] at hx
    cases hx
    have hname := hnm.ok nm (List.mem_of_getElem? hj)
    have hl3 := hp3.lt
    have hk03 := hk02.trans hk3
    refine ⟨(show 1 ≤ lineD by decide), _, rfl, by omega, by omega, ?_⟩
    have rp : (((pl : Nat) : Int)).toNat = pl := Int.toNat_natCast pl
    refine lc_yes (fun i S' => Pot S' p o (t + 3 + i * CT (deep - 1)) ∧ Kp p o S S' ∧ Sub [] S' ∧ S'[T3.length]? = some (.lst true [.str nm])) (fun i d y => ∃ q, Sh [] y q ∧ (fine deep q = true ∧ 0 < partsP deep q ∧ partsP deep q ≤ BP (deep - 1))) ⟨(hp3.sub Sub.push).up (by omega), hk03.trans (Kp.sub hl3.1 hl3.2 Sub.push), Sub.nil, last_get⟩ (by simp; exact Nat.le_trans (Nat.le_of_lt (Nat.lt_of_lt_of_le hpl hv.2)) (by decide)) (fun _ _ _ => trivial) (fun i d hd S' ⟨hpS, hkS, _, hgS⟩ R hR => ?_) (fun ys S4 hl4 hy ⟨hp4, hk4, _, hg4⟩ => ?_)
    · have hi : i < pl := by
        have := (List.getElem?_eq_some_iff.mp hd).1
        simpa using this
      obtain ⟨e, rfl⟩ : ∃ e, deep = e + 1 := by
        cases deep with
        | zero => have : VP 0 = 1 := rfl; omega
        | succ e => exact ⟨e, rfl⟩
      obtain ⟨r', rfl⟩ : ∃ r', r = r' + 1 := ⟨r - 1, by omega⟩
      have := hc r' rfl
      subst this
      simp only [wRet, wRetN, wIf, wSeq, wSkip, wBreak, wCont, wNever, wDrop, wAndV, wOrV, wNotV, wIfE, wTest, wAndT, wOrT, wNotT, wUn, wOp, wVar, wC, wCB, wNil, wCons, wTup, wLst, wCall, wCallX, wSl, wNoPart, wPart, wChain, wAsg, wSet, wAug, wPar, wFor, iLst, iTp, iRng, iEn, iSt, gNm, gTp, gNone, gMore, g2, g3, wLc, wYes, wLm, wDGet, wDIn, wDGet2, wDPut, wDNew, wDisp, wPs, wSm0, wSm1, wRev, wMaxD, wRaise, wKeep, gSet]
      have hct : CT (e + 1 - 1) ≤ 30 := by
        have : e = 0 ∨ e = 1 := by omega
        rcases this with rfl | rfl <;> decide
      have hmul : i * CT (e + 1 - 1) ≤ 4 * 30 := Nat.mul_le_mul (by omega) hct
      have hfit : t + 3 + i * CT (e + 1 - 1) + CT e ≤ 10 ^ 7 := by
        have : e = 0 ∨ e = 1 := by omega
        rcases this with rfl | rfl
        · have h1 : VP 1 = 3 := rfl
          have h2 : CT 1 = 9 := rfl
          have h3 : CT 0 = 3 := rfl
          show t + 3 + i * CT 0 + CT 0 ≤ _
          rw [h3]
          have : t + CT 1 ≤ 10 ^ 7 := ht
          rw [h2] at this
          have : pl < VP 1 := hpl
          omega
        · have h1 : VP 2 = 4 := rfl
          have h2 : CT 2 = 30 := rfl
          have h3 : CT 1 = 9 := rfl
          show t + 3 + i * CT 1 + CT 1 ≤ _
          rw [h3]
          have : t + CT 2 ≤ 10 ^ 7 := ht
          rw [h2] at this
          have : pl < VP 2 := hpl
          omega
      refine ⟨_, rfl, _, rfl, _, rfl, _, rfl, p, o, t + 3 + i * CT (e + 1 - 1), nn, e, blank, names, ?_, by omega, by omega, hnm.mono hkS, hpS, hfit, fun d q T g1 g2 g3 g4 g5 g6 => hR d T ⟨q, g1, g2, g3, g4⟩ ⟨?_, hkS.trans g6, Sub.nil, ?_⟩⟩
      · show [D.loc p, D.loc nn, D.int (((e + 1 : Nat) : Int) - 1), D.bl blank] ++ [] = _
        simp
      · rw [Nat.succ_mul, ← Nat.add_assoc]
        exact g5
      · have h3 : T3.length ≠ p ∧ T3.length ≠ o := ⟨by omega, by omega⟩
        have := g6 T3.length _ (by rw [hide_get h3.1 h3.2]; exact hgS)
        rw [hide_get h3.1 h3.2] at this
        exact this
    · simp only [List.length_map, List.length_range, rp] at hl4 hp4
      have hym : ∀ y ∈ ys, ∃ q, Sh [] y q ∧ (fine deep q = true ∧ 0 < partsP deep q ∧ partsP deep q ≤ BP (deep - 1)) := fun y hy' => by
        obtain ⟨j, hj, hj'⟩ := List.getElem_of_mem hy'
        have hj2 : ys[j]? = some y := by rw [List.getElem?_eq_getElem hj, hj']
        exact hy j _ y (List.getElem?_eq_getElem (by simp; omega)) hj2
      obtain ⟨qs, hqs, hqr⟩ := choose_shs hym
      have hql : qs.length = pl := by rw [← hqs.len]; exact hl4
      have hl4' := hp4.lt
      refine ⟨[.str nm], ys, Sub.push _ _ hg4, last_get, by show 1 + ys.length ≤ lineD; exact Nat.le_trans (by omega : 1 + ys.length ≤ 10) (by decide), true, _, last_get, ?_⟩
      have hpos : ∀ q ∈ qs, 0 < partsP deep q := fun q hq => (hqr q hq).2.1
      have hsum : (qs.map (partsP deep)).sum ≤ qs.length * BP (deep - 1) := sum_le fun q hq => (hqr q hq).2.2
      have hb : 1 + pl * BP (deep - 1) ≤ BP deep ∧ 3 + pl * CT (deep - 1) ≤ CT deep ∧ BP deep ≤ 10 := by
        have : deep = 0 ∨ deep = 1 ∨ deep = 2 := by omega
        rcases this with rfl | rfl | rfl
        · have : pl = 0 := by have : VP 0 = 1 := rfl; omega
          subst this; decide
        · have hh : pl ≤ 2 := by have : VP 1 = 3 := rfl; omega
          have : pl = 0 ∨ pl = 1 ∨ pl = 2 := by omega
          rcases this with rfl | rfl | rfl <;> decide
        · have hh : pl ≤ 3 := by have : VP 2 = 4 := rfl; omega
          have : pl = 0 ∨ pl = 1 ∨ pl = 2 ∨ pl = 3 := by omega
          rcases this with rfl | rfl | rfl | rfl <;> decide
      rw [hql] at hsum
      have epart : partsP (deep + 1) (.tuple (.str nm :: qs)) = 1 + (qs.map (partsP deep)).sum := by
        show (if nameP (.str nm) = true ∧ qs.length ≤ 9 then partsL (partsP deep) qs 1 else 0) = _
        rw [if_pos ⟨hname.1, by omega⟩, partsL_eq _ _ _ (by omega) (by omega), if_pos ⟨hpos, by omega⟩]
      refine q _ (.tuple (.str nm :: qs)) _ (.tup (.cons (.str nm) hqs)) ?_ (by rw [epart]; omega) (by rw [epart]; omega) ((hp4.up (by omega)).sub Sub.push.to) (hk4.trans (Kp.sub hl4'.1 hl4'.2 Sub.push.to))
      simp only [fine, Bool.and_eq_true, decide_eq_true_eq, List.all_eq_true]
      refine ⟨by simp; omega, fun z hz => ?_⟩
      rcases List.mem_cons.mp hz with rfl | hz
      · exact name_small hname deep
      · exact (hqr z hz).1
abbrev s__law_term : Stmt := topS 32
theorem sc__law_term : FnScope ["pot", "names", "deep", "blank", "places", "k"] ["pot", "names", "deep", "blank"] (defScope s__law_term) := ⟨rfl, rfl, rfl, by decide +kernel, rfl, by decide +kernel, by decide +kernel⟩
theorem ok__law_term {f : Addr} {fd : FuncData} (F : Fun K "_law_term" "_law_term" s__law_term f fd) (hm : mg "_law_term" = some (.ref f)) (hb : Binds K fd ["pot", "names", "deep", "blank"] []) (B : Blt mg) (C__law_take : Fn P w K mg base 1 "_law_take" cTake []) (C__law_pick : Fn P w K mg base 2 "_law_pick" cPick []) : ∀ r, Fn P w K mg base (r + 4) "_law_term" (cLT r) [] := by
  have main : ∀ r, (∀ k, k + 3 ≤ r + 3 → k = r → ∃ c, Fn P w K mg base (k + 3) "_law_term" c [] ∧ ∀ r', r = r' + 1 → c = cLT r') → Fn P w K mg base (r + 4) "_law_term" (cLT r) [] := by
    intro r ih
    obtain ⟨c, C__law_term, hc⟩ := ih r (Nat.le_refl _) rfl
    refine defQ F hm hb .nil sc__law_term (fun ds S Q X ⟨_, _, _, _, _, _, _, e, _⟩ => by rw [e]; rfl) fun cdv A outer s H hr => ?_
    have hu1 := hu_of hr; have hu64 := hr.units
    refine ⟨_, (qs_cons (q_if (qt_w (qw_and (qt_val (qv 3)) (qw_and1 (qt_cmp (op_eq2 hu64) ro_eq (q_c (dds := []) C__law_take hr (by first | decide | omega) (by rfl) (qa_cons (qv 0) (qa_cons q_int qa_nil))) q_int (nomark _))))) (qs_one (q_ret (q_c (dds := []) C__law_pick hr (by first | decide | omega) (by rfl) (qa_cons (qv 0) (qa_cons (q_lst (qa_cons q_int (qa_cons q_int (qa_cons (q_c (dds := []) C__law_take hr (by first | decide | omega) (by rfl) (qa_cons (qv 0) (qa_cons q_int qa_nil))) qa_nil)))) qa_nil))))) qs_nil)
      (qs_cons (q_set (i := 4) sc__law_term.nd rfl (.inl rfl) (q_c (dds := []) C__law_take hr (by first | decide | omega) (by rfl) (qa_cons (qv 0) (qa_cons (q_ix ix_seq ro_ix (q_lst (qa_cons q_int (qa_cons q_int (qa_cons q_int qa_nil)))) (q_cb (call_min2 rfl) ro_min2 (by rfl) B.min (by decide +kernel) (qa_cons q_int (qa_cons (qv 2) qa_nil)))) qa_nil))))
      (qs_one (q_ret (q_ct call_tuple_of ro_tuple (by rfl) B.tuple (by decide +kernel) (qa_cons (q_op op_add4 ro_add (q_lst (qa_cons (q_c (dds := []) C__law_pick hr (by first | decide | omega) (by rfl) (qa_cons (qv 0) (qa_cons (qv 1) qa_nil))) qa_nil)) (q_lc (own := [("k", 5)]) rfl sc__law_term.nd (qi_range (by rfl) B.range (qv 4)) (blkOk_by (N := ["pot", "names", "deep", "blank", "places", "k"]) (sc := defScope s__law_term) (by decide +kernel)) (fun _ _ _ _ _ => (qg_name (i := 5) sc__law_term.nd rfl (.inl rfl))) (fun _ _ _ _ _ => qts_nil) (fun _ _ _ _ _ => (q_c (dds := []) C__law_term hr (by first | decide | omega) (by rfl) (qa_cons (qv 0) (qa_cons (qv 1) (qa_cons (q_op op_sub ro_sub (qv 2) q_int) (qa_cons (qv 3) qa_nil)))))))) qa_nil)))))), fun ds S Q X h => ?_⟩
    obtain ⟨p, o, t, nn, deep, blank, names, rfl, hdr, hr2, hnm, hp, ht, q⟩ := h
    simp only [wRet, wRetN, wIf, wSeq, wSkip, wBreak, wCont, wNever, wDrop, wAndV, wOrV, wNotV, wIfE, wTest, wAndT, wOrT, wNotT, wUn, wOp, wVar, wC, wCB, wNil, wCons, wTup, wLst, wCall, wCallX, wSl, wNoPart, wPart, wChain, wAsg, wSet, wAug, wPar, wFor, iLst, iTp, iRng, iEn, iSt, gNm, gTp, gNone, gMore, g2, g3, wLc, wYes, wLm, wDGet, wDIn, wDGet2, wDPut, wDNew, wDisp, wPs, wSm0, wSm1, wRev, wMaxD, wRaise, wKeep, gSet]
    have rest : ∀ S1, Pot S1 p o (t + 1) → Kp p o S S1 → _ := fun S1 h1 h2 => term_rest (Q := Q) (blank := blank) hc hdr hr2 hnm h1 ht h2 q
    refine ⟨_, rfl, ?_⟩
    cases blank with
    | false =>
      dsimp only
      rw [if_neg (by simp), if_neg (by simp)]
      exact rest S (hp.up (by omega)) Kp.refl
    | true =>
      dsimp only
      rw [if_pos rfl]
      refine ⟨_, rfl, p, o, t, 3, rfl, by decide, by decide, hp, by omega, fun x T hx hpT hkT => ?_⟩
      show if decide (((x : Nat) : Int) = 0) = true then _ else _
      refine iteB (fun h0 => ?_) fun h0 => rest T hpT hkT
      have hlT := hpT.lt
      refine ⟨_, rfl, _, rfl, p, o, t + 1, 1000, rfl, by decide, by decide, hpT, by omega, fun v T2 hv hp2 hk2 => ⟨(show 3 ≤ lineD by decide), ?_⟩⟩
      have hl2 := hp2.lt
      refine ⟨p, o, t + 2, _, [.int 0, .int 999, .int ((v : Nat) : Int)], rfl, .inl ⟨_, rfl, hide_last hl2.1 hl2.2⟩, by simp, by simp, hp2.sub Sub.push, by omega, fun j y T3 hy hp3 hk3 => ?_⟩
      obtain ⟨z, hz, rfl⟩ : ∃ z : Nat, z ≤ 999 ∧ y = .int ((z : Nat) : Int) := by
        have := List.mem_of_getElem? hy
        simp at this
        rcases this with rfl | rfl | rfl
        · exact ⟨0, by decide, rfl⟩
        · exact ⟨999, by decide, rfl⟩
        · exact ⟨v, by omega, rfl⟩
      have hzz : (0 : Int) ≤ ((z : Nat) : Int) ∧ ((z : Nat) : Int) ≤ 999 := by omega
      have e1 : partsP (deep + 1) (.int ((z : Nat) : Int)) = 1 := by simp only [partsP]; rw [if_pos hzz]
      have hct : 3 ≤ CT deep ∧ 1 ≤ BP deep := by
        have : deep = 0 ∨ deep = 1 ∨ deep = 2 := by omega
        rcases this with rfl | rfl | rfl <;> decide
      refine q _ (.int ((z : Nat) : Int)) T3 (.int _) ?_ (by rw [e1]; decide) (by rw [e1]; exact hct.2) (hp3.up (by omega)) (((hkT.trans hk2).trans (Kp.sub hl2.1 hl2.2 Sub.push)).trans hk3)
      have : ((z : Nat) : Int).natAbs.log2 < 1900 := by
        rw [Int.natAbs_natCast]
        by_cases h0 : z = 0
        · rw [h0]; decide
        · exact Nat.lt_trans ((Nat.log2_lt h0).mpr (by omega : z < 2 ^ 10)) (by decide)
      simp only [fine, decide_eq_true_eq]
      exact this
  intro r
  induction r with
  | zero => exact main 0 fun k _ e => ⟨_, fnFalse hm F.kp hb, fun r' e => by omega⟩
  | succ r ih => exact main (r + 1) fun k _ e => ⟨cLT r, by rw [e]; exact ih, fun r' e => by cases e; rfl⟩
end
end K78
set_option Elab.async false
set_option linter.all false
set_option maxRecDepth 100000
set_option maxHeartbeats 4000000
namespace K78
open PySem PySem.Spec PyProof.Rows L2 Qd
mutual
theorem sh_un {p o : Nat} {S : Store} : ∀ {d : D} {q : PyData}, Sh (hide p o S) d q → Sh S d q
  | _, _, .non => .non
  | _, _, .bl b => .bl b
  | _, _, .int b => .int b
  | _, _, .str b => .str b
  | _, _, .tup h => .tup (shs_un h)
  | _, _, .lst e h => .lst (hide_data e (by unfold dead; exact fun z => Cell.noConfusion z)).1 (shs_un h)
  | _, _, .dict e => .dict (hide_data e (by unfold dead; exact fun z => Cell.noConfusion z)).1
theorem shs_un {p o : Nat} {S : Store} : ∀ {d : List D} {q : List PyData}, Shs (hide p o S) d q → Shs S d q
  | _, _, .nil => .nil
  | _, _, .cons a b => .cons (sh_un a) (shs_un b)
end
theorem TD.un {p o : Nat} {S : Store} {n : Nat} {td : List D} {tp : List (PyData × PyData)} (h : TD (hide p o S) n td tp) : TD S n td tp := ⟨(hide_data h.get (by unfold dead; exact fun z => Cell.noConfusion z)).1, h.sh, h.ok, h.len⟩
theorem LD.un {p o : Nat} {S : Store} {n : Nat} {ld : List D} {lp : List PyData} (h : LD (hide p o S) n ld lp) : LD S n ld lp := ⟨(hide_data h.get (by unfold dead; exact fun z => Cell.noConfusion z)).1, shs_un h.sh, h.ok, h.len⟩
theorem TD.kp {p o : Nat} {S T : Store} {n : Nat} {td : List D} {tp : List (PyData × PyData)} (h : TD (hide p o S) n td tp) (k : Kp p o S T) : TD (hide p o T) n td tp := h.mono k
/-- only what is new is seen -/
def low (m : Nat) (S : Store) : Store := List.replicate m dead ++ S.drop m
theorem low_get {m n : Nat} {S : Store} (h : m ≤ n) : (low m S)[n]? = S[n]? := by
  unfold low
  rw [List.getElem?_append_right (by simpa using h), List.getElem?_drop, List.length_replicate]
  congr 1
  omega
theorem low_data {m n : Nat} {S : Store} {c : Cell} (h : (low m S)[n]? = some c) (hc : c ≠ dead) : m ≤ n ∧ S[n]? = some c := by
  by_cases hn : m ≤ n
  · rw [low_get hn] at h; exact ⟨hn, h⟩
  · unfold low at h
    rw [List.getElem?_append_left (by simp; omega), List.getElem?_replicate] at h
    split at h
    · cases h; exact absurd rfl hc
    · cases h
theorem low_last {m : Nat} {S : Store} {c : Cell} (h : m ≤ S.length) : (low m (S ++ [c]))[S.length]? = some c := by
  rw [low_get h]; exact last_get
mutual
theorem sh_low {m : Nat} {S T : Store} (f : ∀ n c, m ≤ n → c ≠ dead → S[n]? = some c → T[n]? = some c) : ∀ {d : D} {q : PyData}, Sh (low m S) d q → Sh T d q
  | _, _, .non => .non
  | _, _, .bl b => .bl b
  | _, _, .int b => .int b
  | _, _, .str b => .str b
  | _, _, .tup h => .tup (shs_low f h)
  | _, _, .lst e h => .lst (let z := low_data e (by unfold dead; exact fun z => Cell.noConfusion z); f _ _ z.1 (by unfold dead; exact fun z => Cell.noConfusion z) z.2) (shs_low f h)
  | _, _, .dict e => .dict (let z := low_data e (by unfold dead; exact fun z => Cell.noConfusion z); f _ _ z.1 (by unfold dead; exact fun z => Cell.noConfusion z) z.2)
theorem shs_low {m : Nat} {S T : Store} (f : ∀ n c, m ≤ n → c ≠ dead → S[n]? = some c → T[n]? = some c) : ∀ {d : List D} {q : List PyData}, Shs (low m S) d q → Shs T d q
  | _, _, .nil => .nil
  | _, _, .cons a b => .cons (sh_low f a) (shs_low f b)
end
/-- a piece of a good line -/
inductive Piece : PyData → Prop
  | str (x : Str) : Low x → 1 ≤ x.length → x.length ≤ 8 → Piece (.str x)
  | int (i : Nat) : i < 1000 → Piece (.int ((i : Nat) : Int))
  | list (is : List Nat) : is.length ≤ 9 → (∀ i ∈ is, i < 1000) → Piece (.list (is.map fun i : Nat => .int ((i : Nat) : Int)))
  | term (q : PyData) : fine 3 q = true → 0 < partsP 3 q → partsP 3 q ≤ 10 → Piece q
inductive GLine : PyData → Prop
  | mk (ps : List PyData) : 2 ≤ ps.length → ps.length ≤ 3 → (∀ p ∈ ps, Piece p) → GLine (.tuple ps)
theorem nat_short {i : Nat} (h : i < 1000) : fine 0 (.int ((i : Nat) : Int)) = true ∧ PyData.leavesShort 40 (.int ((i : Nat) : Int)) = true ∧ (PyData.int ((i : Nat) : Int)).weight ≤ 10 := by
  refine ⟨?_, short_up (B := 4) (by decide) (int_short (B := 3) (by rw [Int.natAbs_natCast]; omega) (by decide)), ?_⟩
  · simp only [fine, decide_eq_true_eq, Int.natAbs_natCast]
    by_cases h0 : i = 0
    · rw [h0]; decide
    · exact Nat.lt_trans ((Nat.log2_lt h0).mpr (by omega : i < 2 ^ 10)) (by decide)
  · rw [PyData.weight]
    split
    · omega
    · rename_i h0
      have h0 : i ≠ 0 := by simpa using h0
      rw [Int.natAbs_natCast]
      have := (Nat.log2_lt h0).mpr (by omega : i < 2 ^ 10)
      omega
theorem low_fine {x : Str} (h : Low x) (l : x.length ≤ 100) : fine 0 (.str x) = true ∧ PyData.leavesShort 40 (.str x) = true ∧ (PyData.str x).weight = x.length := by
  have hb : ∀ d ∈ letters.cps.toList, d < 0x110000 := by decide
  have hs : PyData.strOk x = true := by
    unfold PyData.strOk
    rw [← Array.all_toList, List.all_eq_true]
    exact fun c hc => decide_eq_true (hb c (h c hc))
  have hf : fine 0 (.str x) = true := by simp [fine, l, hs]
  exact ⟨hf, str_short hf, rfl⟩
theorem short_mono {B C : Nat} (h : B ≤ C) : ∀ (r : Nat) (p : PyData), fine r p = true → PyData.leavesShort B p = true → PyData.leavesShort C p = true := by
  intro r
  induction r with
  | zero =>
    intro p hf hs
    cases p <;> first
      | (simp [fine] at hf; done)
      | exact short_up h hs
      | exact str_short hf
      | rfl
  | succ r ih =>
    have all : ∀ {ps : List PyData}, (∀ p ∈ ps, fine r p = true) → PyData.leavesShortAll B ps = true → PyData.leavesShortAll C ps = true := by
      intro ps
      induction ps with
      | nil => intro _ _; rfl
      | cons p ps ih2 =>
        intro h1 h2
        rw [PyData.leavesShortAll, Bool.and_eq_true] at h2 ⊢
        exact ⟨ih p (h1 p List.mem_cons_self) h2.1, ih2 (fun q hq => h1 q (List.mem_cons_of_mem _ hq)) h2.2⟩
    intro p hf hs
    cases p with
    | tuple ps =>
      obtain ⟨m, e, _, hall⟩ := fine_tup hf
      cases e
      rw [PyData.leavesShort] at hs ⊢
      exact all hall hs
    | list ps =>
      obtain ⟨m, e, _, hall⟩ := fine_lst hf
      cases e
      rw [PyData.leavesShort] at hs ⊢
      exact all hall hs
    | int i => exact short_up h hs
    | str x => exact str_short hf
    | dict k => exact (fine_dict hf).elim
    | none => rfl
    | bool b => rfl
theorem piece_ok {p : PyData} (h : Piece p) : fine 3 p = true ∧ PyData.leavesShort 40 p = true ∧ p.weight ≤ 130 := by
  cases h with
  | str x h1 h2 h3 =>
    have := low_fine h1 (by omega)
    exact ⟨fine_up this.1 (by decide), this.2.1, by rw [this.2.2]; omega⟩
  | int i h => exact ⟨fine_up (nat_short h).1 (by decide), (nat_short h).2.1, Nat.le_trans (nat_short h).2.2 (by decide)⟩
  | list is h1 h2 =>
    have mem : ∀ {R : PyData → Prop}, (∀ i : Nat, i < 1000 → R (.int ((i : Nat) : Int))) → ∀ p ∈ is.map (fun i : Nat => PyData.int ((i : Nat) : Int)), R p := fun hR p hp => by
      obtain ⟨i, hi, rfl⟩ := List.mem_map.mp hp
      exact hR i (h2 i hi)
    refine ⟨?_, ?_, ?_⟩
    · simp only [fine, Bool.and_eq_true, decide_eq_true_eq, List.all_eq_true]
      exact ⟨by simp; omega, mem fun i hi => fine_up (nat_short hi).1 (by decide)⟩
    · rw [PyData.leavesShort]; exact shortAll (mem fun i hi => (nat_short hi).2.1)
    · rw [PyData.weight]
      have := weightAll_le (b := 11) (mem fun i hi => Nat.succ_le_succ (nat_short hi).2.2)
      rw [List.length_map] at this
      omega
  | term q h1 h2 h3 =>
    have := term_short 3 3 p h1 h2
    exact ⟨h1, short_mono (by decide) 3 p h1 this.1, by omega⟩
theorem gline_ok {q : PyData} (h : GLine q) : fine 4 q = true ∧ PyData.leavesShort 40 q = true ∧ q.weight ≤ 400 := by
  cases h with
  | mk ps h1 h2 h3 =>
    refine ⟨?_, ?_, ?_⟩
    · simp only [fine, Bool.and_eq_true, decide_eq_true_eq, List.all_eq_true]
      exact ⟨by omega, fun p hp => (piece_ok (h3 p hp)).1⟩
    · rw [PyData.leavesShort]; exact shortAll fun p hp => (piece_ok (h3 p hp)).2.1
    · rw [PyData.weight]
      have := weightAll_le (b := 131) fun p hp => Nat.succ_le_succ (piece_ok (h3 p hp)).2.2
      have : 131 * ps.length ≤ 131 * 3 := Nat.mul_le_mul_left _ h2
      omega
section
variable {P : Program} {w : World} {K : PySem.W.Frag} {mg : Str → Option Value} {base : Heap}
def cGood : Con := fun ds S Q _ => ∃ (p o t nn nt np : Nat) (names : List Str) (td pd : List D) (tp pp : List (PyData × PyData)), ds = [.loc p, .loc nn, .loc nt, .loc np] ∧ Nms p o S nn names ∧ TD (hide p o S) nt td tp ∧ 0 < tp.length ∧ TD (hide p o S) np pd pp ∧ Pot S p o t ∧ t ≤ 10 ^ 6 ∧
  ∀ d q T, Sh (low S.length T) d q → GLine q → Pot T p o (t + 40) → Kp p o S T → Q d T
theorem ints_of : ∀ {ys : List D} {b : Nat}, (∀ y ∈ ys, ∃ j : Nat, j < b ∧ y = D.int ((j : Nat) : Int)) → ∃ js : List Nat, ys = js.map (fun j : Nat => D.int ((j : Nat) : Int)) ∧ ∀ j ∈ js, j < b
  | [], _, _ => ⟨[], rfl, by simp⟩
  | y :: ys, b, h => by
    obtain ⟨j, h1, rfl⟩ := h y List.mem_cons_self
    obtain ⟨js, g1, g2⟩ := ints_of fun z hz => h z (List.mem_cons_of_mem _ hz)
    refine ⟨j :: js, by rw [g1]; rfl, fun z hz => ?_⟩
    rcases List.mem_cons.mp hz with rfl | hz
    · exact h1
    · exact g2 z hz
theorem shs_ints {S : Store} : ∀ js : List Nat, Shs S (js.map fun j : Nat => D.int ((j : Nat) : Int)) (js.map fun j : Nat => PyData.int ((j : Nat) : Int))
  | [] => .nil
  | j :: js => .cons (.int _) (shs_ints js)
theorem low_words : Low "self" ∧ Low "told" ∧ Low "then" ∧ Low "in" ∧ Low "back" := by
  refine ⟨?_, ?_, ?_, ?_, ?_⟩ <;> (unfold Low; decide)
theorem piece_name {x : Str} (h : NameS x) : Piece (.str x) := by
  have := h.1
  simp only [nameP, Bool.and_eq_true, decide_eq_true_eq, List.all_eq_true] at this
  exact .str x this.2 this.1.1 this.1.2
theorem good_tail {p o t nn nt np way : Nat} {names : List Str} {td : List D} {tp : List (PyData × PyData)} {S T : Store} {Q : D → Store → Prop} (hnm : Nms p o S nn names) (htd : TD (hide p o S) nt td tp) (htp : 0 < tp.length) (hp : Pot T p o (t + 1)) (ht : t ≤ 10 ^ 6) (hk : Kp p o S T)
    (q : ∀ d q T, Sh (low S.length T) d q → GLine q → Pot T p o (t + 40) → Kp p o S T → Q d T) :
    wSeq (wSet 5 (wCall cTake [] (wCons (wVar 0) (wCons (wCB fLen (wCons (wVar 2) wNil)) wNil))))
      (wSeq (wSet 6 (wLc (iRng (wCB fLen (wCons (wVar 2) wNil))) (gNm 7) (wTest (wOp (fEq false) (wOp fIx (wOp fIx (wVar 2) (wVar 7)) (wC (.int 0))) (wOp fIx (wOp fIx (wVar 2) (wVar 5)) (wC (.int 1))))) (wVar 7) [7]))
        (wSeq (wIf (wAndT (wTest (wOp (fCmp fun i j => decide (i < j)) (wVar 4) (wC (.int 4)))) (wTest (wOp fNeN (wVar 6) (wLst wNil)))) (wRet (wTup (wCons (wC (.str "then")) (wCons (wVar 5) (wCons (wCall cPick [] (wCons (wVar 0) (wCons (wVar 6) wNil))) wNil))))) wSkip)
          (wSeq (wIf (wTest (wOp (fEq false) (wVar 4) (wC (.int 4)))) (wRet (wTup (wCons (wC (.str "in")) (wCons (wCall cPick [] (wCons (wVar 0) (wCons (wVar 1) wNil))) (wCons (wLc (iRng (wCall cTake [] (wCons (wVar 0) (wCons (wC (.int 10)) wNil)))) (gNm 8) wYes (wCall cTake [] (wCons (wVar 0) (wCons (wCB fLen (wCons (wVar 2) wNil)) wNil))) [8]) wNil))))) wSkip)
            (wRet (wTup (wCons (wC (.str "back")) (wCons (wVar 5) wNil)))))))
      { nx := fun _ S => Q .non S, rt := Q } [some (.loc p), some (.loc nn), some (.loc nt), some (.loc np), some (.int ((way : Nat) : Int)), none, none, none, none] T noX := by
  simp only [wRet, wRetN, wIf, wSeq, wSkip, wBreak, wCont, wNever, wDrop, wAndV, wOrV, wNotV, wIfE, wTest, wAndT, wOrT, wNotT, wUn, wOp, wVar, wC, wCB, wNil, wCons, wTup, wLst, wCall, wCallX, wSl, wNoPart, wPart, wChain, wAsg, wSet, wAug, wPar, wFor, iLst, iTp, iRng, iEn, iSt, gNm, gTp, gNone, gMore, g2, g3, wLc, wYes, wLm, wDGet, wDIn, wDGet2, wDPut, wDNew, wDisp, wPs, wSm0, wSm1, wRev, wMaxD, wRaise, wKeep, gSet]
  have tdl : td.length = tp.length := by rw [htd.sh.len, List.length_map]
  have h100 := htd.len
  have len_eq : ((td.length : Nat) : Int) = ((tp.length : Nat) : Int) := by rw [tdl]
  refine ⟨_, rfl, _, rfl, true, td, (htd.kp hk).un.get, p, o, t + 1, tp.length, ?_, htp, by omega, hp, by omega, fun i T2 hi hp2 hk2 => ?_⟩
  · show [D.loc p, D.int ((td.length : Nat) : Int)] ++ [] = _
    rw [len_eq]; rfl
  · have hk02 := hk.trans hk2
    have g2 := (htd.kp hk02).un.get
    have hl2 := hp2.lt
    obtain ⟨qi, hqi⟩ : ∃ qi, tp[i]? = some qi := ⟨_, List.getElem?_eq_getElem hi⟩
    obtain ⟨ai, bi, ei, _, sbi⟩ := (htd.kp hk02).un.at hqi
    have oki := htd.ok qi (List.mem_of_getElem? hqi)
    refine ⟨_, rfl, true, td, g2, by omega, by omega, ?_⟩
    have rt : (((td.length : Nat) : Int)).toNat = td.length := Int.toNat_natCast _
    refine lc_if (fun _ S' => S' = T2) (fun y => ∃ j : Nat, j < 100 ∧ y = D.int ((j : Nat) : Int)) rfl (by simp; exact Nat.le_trans (by omega : td.length ≤ 100) (by decide)) (fun _ _ _ => trivial) (fun k d hd S' hS' R0 R h0 hR => ?_) (fun ys S3 hl3 hys hS3 => ?_)
    · subst hS'
      rw [List.getElem?_map] at hd
      cases hr : (List.range (((td.length : Nat) : Int)).toNat)[k]? with
      | none => rw [hr] at hd; cases hd
      | some j =>
        rw [hr] at hd
        cases hd
        have hj : j < tp.length := by
          have := List.mem_of_getElem? hr
          simp at this
          omega
        obtain ⟨qj, hqj⟩ : ∃ qj, tp[j]? = some qj := ⟨_, List.getElem?_eq_getElem hj⟩
        obtain ⟨aj, bj, ej, saj, _⟩ := (htd.kp hk02).un.at hqj
        have okj := htd.ok qj (List.mem_of_getElem? hqj)
        simp only [wRet, wRetN, wIf, wSeq, wSkip, wBreak, wCont, wNever, wDrop, wAndV, wOrV, wNotV, wIfE, wTest, wAndT, wOrT, wNotT, wUn, wOp, wVar, wC, wCB, wNil, wCons, wTup, wLst, wCall, wCallX, wSl, wNoPart, wPart, wChain, wAsg, wSet, wAug, wPar, wFor, iLst, iTp, iRng, iEn, iSt, gNm, gTp, gNone, gMore, g2, g3, wLc, wYes, wLm, wDGet, wDIn, wDGet2, wDPut, wDNew, wDisp, wPs, wSm0, wSm1, wRev, wMaxD, wRaise, wKeep, gSet]
        refine ⟨_, rfl, _, rfl, true, td, _, g2, atN ej, _, atN (k := 0) rfl, _, rfl, _, rfl, true, td, _, g2, atN ei, _, atN (k := 1) rfl, ?_⟩
        refine eq_data (sh_mono Sub.nil saj) (sh_mono Sub.nil sbi) (fine_up okj.2.2.1 (by decide)) (fine_up oki.2.2.2 (by decide)) ?_
        dsimp only
        refine iteB (fun _ => ?_) fun _ => h0 _ rfl
        exact ⟨_, rfl, hR _ _ ⟨j, by omega, rfl⟩ rfl⟩
    · rw [hS3]
      obtain ⟨js, rfl, hjs⟩ := ints_of hys
      have hA : Kp p o S (T2 ++ [Cell.lst true (js.map fun j : Nat => D.int ((j : Nat) : Int))]) := hk02.trans (Kp.sub hl2.1 hl2.2 Sub.push)
      have hpA := hp2.sub (Sub.push (T := [Cell.lst true (js.map fun j : Nat => D.int ((j : Nat) : Int))]))
      have hcell : (hide p o (T2 ++ [Cell.lst true (js.map fun j : Nat => D.int ((j : Nat) : Int))]))[T2.length]? = some (.lst true (js.map fun j : Nat => D.int ((j : Nat) : Int))) := hide_last hl2.1 hl2.2
      have hmap : (js.map fun j : Nat => D.int ((j : Nat) : Int)) = (js.map fun j : Nat => ((j : Nat) : Int)).map D.int := by rw [List.map_map]; rfl
      obtain ⟨A, hAe⟩ : ∃ A, A = T2 ++ [Cell.lst true (js.map fun j : Nat => D.int ((j : Nat) : Int))] := ⟨_, rfl⟩
      have hlast : A[T2.length]? = some (.lst true ((js.map fun j : Nat => ((j : Nat) : Int)).map D.int)) := by rw [hAe, last_get, hmap]
      rw [← hAe] at hA hpA hcell ⊢
      have hlA := hpA.lt
      have hi1000 : i < 1000 := by omega
      have w5 := low_words
      -- ('back', i)
      have back : ∀ B, Sub A B → Q (.tup [.str "back", .int ((i : Nat) : Int)]) B := fun B hB =>
        q _ (.tuple [.str "back", .int ((i : Nat) : Int)]) B (.tup (.cons (.str _) (.cons (.int _) .nil))) (.mk _ (by simp) (by simp) fun z hz => by
          simp at hz
          rcases hz with rfl | rfl
          · exact .str _ w5.2.2.2.2 (by decide) (by decide)
          · exact .int i hi1000) ((hpA.sub hB).up (by omega)) (hA.trans (Kp.sub hlA.1 hlA.2 hB))
      refine ⟨_, rfl, ?_⟩
      show if decide (((way : Nat) : Int) < 4) = true then _ else _
      refine iteB (fun h4 => ?_) fun h4 => ?_
      · refine ⟨_, rfl, (show 0 ≤ lineD by decide), ne_nil hlast ?_⟩
        dsimp only
        refine iteB (fun hne => ?_) fun _ => ?_
        · refine ⟨_, rfl, _, rfl, _, rfl, p, o, t + 2, _, js.map (fun j : Nat => D.int ((j : Nat) : Int)), rfl, .inl ⟨_, rfl, ?_⟩, ?_, ?_, hpA.sub Sub.push, by omega, fun k x T4 hx hp4 hk4 => ⟨(show 3 ≤ lineD by decide), ?_⟩⟩
          · exact (Kp.sub hlA.1 hlA.2 Sub.push) _ _ hcell
          · cases js with
            | nil => simp at hne
            | cons _ _ => simp
          · rw [List.length_map]
            rw [List.length_map, List.length_map, List.length_range, rt] at hl3
            omega
          · rw [List.getElem?_map] at hx
            cases hj : js[k]? with
            | none => rw [hj] at hx; cases hx
            | some j =>
              rw [hj] at hx
              cases hx
              have hj100 := hjs j (List.mem_of_getElem? hj)
              refine q _ (.tuple [.str "then", .int ((i : Nat) : Int), .int ((j : Nat) : Int)]) T4 (.tup (.cons (.str _) (.cons (.int _) (.cons (.int _) .nil)))) (.mk _ (by simp) (by simp) fun z hz => ?_) (hp4.up (by omega)) ((hA.trans (Kp.sub hlA.1 hlA.2 Sub.push)).trans hk4)
              simp at hz
              rcases hz with rfl | rfl | rfl
              · exact .str _ w5.2.2.1 (by decide) (by decide)
              · exact .int i hi1000
              · exact .int j (by omega)
        · refine ⟨_, rfl, ?_⟩
          show if decide (((way : Nat) : Int) = 4) = true then _ else _
          have h4 := of_decide_eq_true h4
          refine iteB (fun h5 => absurd (of_decide_eq_true h5) (by omega)) fun _ => ?_
          exact ⟨_, rfl, (show 2 ≤ lineD by decide), back _ Sub.push⟩
      · rw [if_neg (by simp)]
        refine ⟨_, rfl, ?_⟩
        show if decide (((way : Nat) : Int) = 4) = true then _ else _
        refine iteB (fun _ => ?_) fun _ => ⟨_, rfl, (show 2 ≤ lineD by decide), back _ Sub.refl⟩
        have hnA := hnm.mono hA
        refine ⟨_, rfl, _, rfl, p, o, t + 2, .loc nn, names.map D.str, rfl, .inl ⟨nn, rfl, hnA.get⟩, by rw [List.length_map]; exact hnm.pos, by rw [List.length_map]; exact Nat.le_trans hnm.le (by decide), hpA, by omega, fun k x T4 hx hp4 hk4 => ?_⟩
        rw [List.getElem?_map] at hx
        cases hj : names[k]? with
        | none => rw [hj] at hx; cases hx
        | some nm =>
          rw [hj] at hx
          cases hx
          have hname := hnm.ok nm (List.mem_of_getElem? hj)
          refine ⟨_, rfl, p, o, t + 3, 10, rfl, by decide, by decide, hp4, by omega, fun m T5 hm hp5 hk5 => ⟨by omega, by omega, ?_⟩⟩
          have hk05 := (hA.trans hk4).trans hk5
          have rm : (((m : Nat) : Int)).toNat = m := Int.toNat_natCast _
          refine lc_yes (fun i' S' => Pot S' p o (t + 4 + i') ∧ Kp p o S S') (fun _ d y => ∃ j : Nat, j < 100 ∧ y = D.int ((j : Nat) : Int)) ⟨hp5, hk05⟩ (by simp; exact Nat.le_trans (Nat.le_of_lt hm) (by decide)) (fun _ _ _ => trivial) (fun i' d hd S' ⟨hpS, hkS⟩ R hR => ?_) (fun ys S6 hl6 hy ⟨hp6, hk6⟩ => ?_)
          · have hi' : i' < m := by
              have := (List.getElem?_eq_some_iff.mp hd).1
              simpa using this
            simp only [wRet, wRetN, wIf, wSeq, wSkip, wBreak, wCont, wNever, wDrop, wAndV, wOrV, wNotV, wIfE, wTest, wAndT, wOrT, wNotT, wUn, wOp, wVar, wC, wCB, wNil, wCons, wTup, wLst, wCall, wCallX, wSl, wNoPart, wPart, wChain, wAsg, wSet, wAug, wPar, wFor, iLst, iTp, iRng, iEn, iSt, gNm, gTp, gNone, gMore, g2, g3, wLc, wYes, wLm, wDGet, wDIn, wDGet2, wDPut, wDNew, wDisp, wPs, wSm0, wSm1, wRev, wMaxD, wRaise, wKeep, gSet]
            refine ⟨_, rfl, _, rfl, true, td, (htd.kp hkS).un.get, p, o, t + 4 + i', tp.length, ?_, htp, by omega, hpS, by omega, fun r T hr hpT hkT => hR _ _ ⟨r, by omega, rfl⟩ ⟨hpT, hkS.trans hkT⟩⟩
            show [D.loc p, D.int ((td.length : Nat) : Int)] ++ [] = _
            rw [len_eq]; rfl
          · simp only [List.length_map, List.length_range, rm] at hl6 hp6
            obtain ⟨ks, rfl, hks⟩ := ints_of (ys := ys) (b := 100) fun y hy' => by
              obtain ⟨j, hj, hj'⟩ := List.getElem_of_mem hy'
              exact hy j _ y (List.getElem?_eq_getElem (by simp; omega)) (by rw [List.getElem?_eq_getElem hj, hj'])
            have hl6' := hp6.lt
            refine ⟨(show 3 ≤ lineD by decide), q _ (.tuple [.str "in", .str nm, .list (ks.map fun j : Nat => .int ((j : Nat) : Int))]) _ (.tup (.cons (.str _) (.cons (.str _) (.cons (.lst (low_last hk6.len) (shs_ints ks)) .nil)))) (.mk _ (by simp) (by simp) fun z hz => ?_) ((hp6.up (by omega)).sub Sub.push) (hk6.trans (Kp.sub hl6'.1 hl6'.2 Sub.push))⟩
            simp at hz
            rcases hz with rfl | rfl | rfl
            · exact .str _ w5.2.2.2.1 (by decide) (by decide)
            · exact piece_name hname
            · exact .list ks (by have := hl6; rw [List.length_map] at this; omega) fun i hi => Nat.lt_trans (hks i hi) (by decide)
abbrev s__law_good_line : Stmt := topS 33
theorem sc__law_good_line : FnScope ["pot", "names", "told", "pairs", "way", "i", "meets", "j", "k"] ["pot", "names", "told", "pairs"] (defScope s__law_good_line) := ⟨rfl, rfl, rfl, by decide +kernel, rfl, by decide +kernel, by decide +kernel⟩
theorem ok__law_good_line {f : Addr} {fd : FuncData} (F : Fun K "_law_good_line" "_law_good_line" s__law_good_line f fd) (hm : mg "_law_good_line" = some (.ref f)) (hb : Binds K fd ["pot", "names", "told", "pairs"] []) (B : Blt mg) (C__law_take : Fn P w K mg base 1 "_law_take" cTake []) (C__law_pick : Fn P w K mg base 2 "_law_pick" cPick []) (C__law_term : Fn P w K mg base 6 "_law_term" (cLT 2) []) : Fn P w K mg base 7 "_law_good_line" cGood [] := by
  refine defQ F hm hb .nil sc__law_good_line (fun ds S Q X ⟨_, _, _, _, _, _, _, _, _, _, _, e, _⟩ => by rw [e]; rfl) fun cdv A outer s H hr => ?_
  have hu1 := hu_of hr; have hu64 := hr.units
  refine ⟨_, (qs_cons (q_set (i := 4) sc__law_good_line.nd rfl (.inl rfl) (q_c (dds := []) C__law_take hr (by first | decide | omega) (by rfl) (qa_cons (qv 0) (qa_cons q_int qa_nil))))
      (qs_cons (q_if (qt_cmp (op_eq2 hu64) ro_eq (qv 4) q_int (nomark _)) (qs_one (q_ret (q_tup (qa_cons q_str (qa_cons (q_c (dds := []) C__law_term hr (by first | decide | omega) (by rfl) (qa_cons (qv 0) (qa_cons (qv 1) (qa_cons q_int (qa_cons q_bl qa_nil))))) qa_nil))))) qs_nil)
      (qs_cons (q_if (qt_w (qw_and (qt_cmp (op_eq2 hu64) ro_eq (qv 4) q_int (nomark _)) (qw_and1 (qt_cmp (op_neN hu64) ro_neN (qv 3) (q_lst qa_nil) (nomark _))))) (qs_one (q_ret (q_tup (qa_cons q_str (qa_cons (q_c (dds := []) C__law_take hr (by first | decide | omega) (by rfl) (qa_cons (qv 0) (qa_cons (q_cb call_len ro_len (by rfl) B.len (by decide +kernel) (qa_cons (qv 3) qa_nil)) qa_nil))) qa_nil))))) qs_nil)
      (qs_cons (q_set (i := 5) sc__law_good_line.nd rfl (.inr rfl) (q_c (dds := []) C__law_take hr (by first | decide | omega) (by rfl) (qa_cons (qv 0) (qa_cons (q_cb call_len ro_len (by rfl) B.len (by decide +kernel) (qa_cons (qv 2) qa_nil)) qa_nil))))
      (qs_cons (q_setLc (i := 6) (own := [("j", 7)]) rfl sc__law_good_line.nd rfl rfl (sw_true rfl rfl rfl (by decide +kernel)) (qi_range (by rfl) B.range (q_cb call_len ro_len (by rfl) B.len (by decide +kernel) (qa_cons (qv 2) qa_nil))) (blkOk_by (N := ["pot", "names", "told", "pairs", "way", "i", "meets", "j", "k"]) (sc := defScope s__law_good_line) (by decide +kernel)) (fun _ _ _ _ _ => (qg_name (i := 7) sc__law_good_line.nd rfl (.inl rfl))) (fun _ _ _ _ _ => (qts_one (qt_cmp (op_eq2 hu64) ro_eq (q_ix ix_seq ro_ix (q_ix ix_seq ro_ix (qv 2) (qv 7)) q_int) (q_ix ix_seq ro_ix (q_ix ix_seq ro_ix (qv 2) (qv 5)) q_int) (nomark _)))) (fun _ _ _ _ _ => (qv 7)))
      (qs_cons (q_if (qt_w (qw_and (qt_cmp op_lt ro_cmp (qv 4) q_int (nomark _)) (qw_and1 (qt_cmp (op_neN hu64) ro_neN (qv 6) (q_lst qa_nil) (nomark _))))) (qs_one (q_ret (q_tup (qa_cons q_str (qa_cons (qv 5) (qa_cons (q_c (dds := []) C__law_pick hr (by first | decide | omega) (by rfl) (qa_cons (qv 0) (qa_cons (qv 6) qa_nil))) qa_nil)))))) qs_nil)
      (qs_cons (q_if (qt_cmp (op_eq2 hu64) ro_eq (qv 4) q_int (nomark _)) (qs_one (q_ret (q_tup (qa_cons q_str (qa_cons (q_c (dds := []) C__law_pick hr (by first | decide | omega) (by rfl) (qa_cons (qv 0) (qa_cons (qv 1) qa_nil))) (qa_cons (q_lc (own := [("k", 8)]) rfl sc__law_good_line.nd (qi_range (by rfl) B.range (q_c (dds := []) C__law_take hr (by first | decide | omega) (by rfl) (qa_cons (qv 0) (qa_cons q_int qa_nil)))) (blkOk_by (N := ["pot", "names", "told", "pairs", "way", "i", "meets", "j", "k"]) (sc := defScope s__law_good_line) (by decide +kernel)) (fun _ _ _ _ _ => (qg_name (i := 8) sc__law_good_line.nd rfl (.inl rfl))) (fun _ _ _ _ _ => qts_nil) (fun _ _ _ _ _ => (q_c (dds := []) C__law_take hr (by first | decide | omega) (by rfl) (qa_cons (qv 0) (qa_cons (q_cb call_len ro_len (by rfl) B.len (by decide +kernel) (qa_cons (qv 2) qa_nil)) qa_nil))))) qa_nil)))))) qs_nil)
      (qs_one (q_ret (q_tup (qa_cons q_str (qa_cons (qv 5) qa_nil)))))))))))), fun ds S Q X h => ?_⟩
  obtain ⟨p, o, t, nn, nt, np, names, td, pd, tp, pp, rfl, hnm, htd, htp, hpd, hp, ht, q⟩ := h
  simp only [wRet, wRetN, wIf, wSeq, wSkip, wBreak, wCont, wNever, wDrop, wAndV, wOrV, wNotV, wIfE, wTest, wAndT, wOrT, wNotT, wUn, wOp, wVar, wC, wCB, wNil, wCons, wTup, wLst, wCall, wCallX, wSl, wNoPart, wPart, wChain, wAsg, wSet, wAug, wPar, wFor, iLst, iTp, iRng, iEn, iSt, gNm, gTp, gNone, gMore, g2, g3, wLc, wYes, wLm, wDGet, wDIn, wDGet2, wDPut, wDNew, wDisp, wPs, wSm0, wSm1, wRev, wMaxD, wRaise, wKeep, gSet]
  refine ⟨_, rfl, p, o, t, 6, rfl, by decide, by decide, hp, by omega, fun way T1 hw hp1 hk1 => ?_⟩
  refine ⟨_, rfl, ?_⟩
  show if decide (((way : Nat) : Int) = 0) = true then _ else _
  have w5 := low_words
  refine iteB (fun _ => ?_) fun _ => ?_
  · refine ⟨_, rfl, _, rfl, p, o, t + 1, nn, 2, true, names, rfl, Nat.le_refl _, Nat.le_refl _, hnm.mono hk1, hp1, by show t + 1 + 30 ≤ _; omega, fun d x T2 h1 h2 h3 h4 h5 h6 => ⟨(show 2 ≤ lineD by decide), ?_⟩⟩
    refine q _ (.tuple [.str "self", x]) T2 (.tup (.cons (.str _) (.cons (sh_mono Sub.nil h1) .nil))) (.mk _ (by simp) (by simp) fun z hz => ?_) (h5.up (by show t + 1 + 30 ≤ _; omega)) (hk1.trans h6)
    simp at hz
    rcases hz with rfl | rfl
    · exact .str _ w5.1 (by decide) (by decide)
    · exact .term _ h2 h3 h4
  · refine ⟨_, rfl, ?_⟩
    show if decide (((way : Nat) : Int) = 1) = true then _ else _
    refine iteB (fun _ => ?_) fun _ => ?_
    · have hpd1 := (hpd.kp hk1).un
      have hl1 := hp1.lt
      have pdl : pd.length = pp.length := by rw [hpd.sh.len, List.length_map]
      have h100 := hpd.len
      have kk := Kp.sub (p := p) (o := o) hl1.1 hl1.2 (Sub.push (T := [Cell.lst true []]))
      refine ⟨_, rfl, (show 0 ≤ lineD by decide), true, pd, true, pp.map pairP, Sub.push _ _ hpd1.get, last_get, (shs_mono Sub.nil hpd1.sh).py ?_, ?_, ?_⟩
      · exact dictAll fun z hz => by
          obtain ⟨y, hy, rfl⟩ := List.mem_map.mp hz
          have := hpd.ok y hy
          exact (fine_all 61 (pairP y) (by simp [fine, pairP, this.2.2.1, this.2.2.2])).2.2.1
      · have hf : fine 62 (.list (pp.map pairP)) = true := by
          simp only [fine, Bool.and_eq_true, decide_eq_true_eq, List.all_eq_true]
          refine ⟨by rw [List.length_map]; omega, fun z hz => ?_⟩
          obtain ⟨y, hy, rfl⟩ := List.mem_map.mp hz
          have := hpd.ok y hy
          simp [fine, pairP, this.2.2.1, this.2.2.2]
        exact fine_shaped hf (by decide)
      · dsimp only
        refine iteB (fun hne => ?_) fun _ => good_tail hnm htd htp (hp1.sub Sub.push) ht (hk1.trans kk) q
        refine ⟨_, rfl, _, rfl, true, pd, Sub.push _ _ hpd1.get, p, o, t + 1, pp.length, ?_, ?_, by omega, hp1.sub Sub.push, by omega, fun r T2 hr hp2 hk2 => ⟨(show 2 ≤ lineD by decide), ?_⟩⟩
        · show [D.loc p, D.int ((pd.length : Nat) : Int)] ++ [] = _
          rw [pdl]; rfl
        · rw [← pdl]
          cases pd with
          | nil => simp at hne
          | cons _ _ => simp
        · refine q _ (.tuple [.str "told", .int ((r : Nat) : Int)]) T2 (.tup (.cons (.str _) (.cons (.int _) .nil))) (.mk _ (by simp) (by simp) fun z hz => ?_) (hp2.up (by omega)) ((hk1.trans kk).trans hk2)
          simp at hz
          rcases hz with rfl | rfl
          · exact .str _ w5.2.1 (by decide) (by decide)
          · exact .int r (by omega)
    · rw [if_neg (by simp)]
      exact good_tail hnm htd htp hp1 ht hk1 q
end
end K78
set_option Elab.async false
set_option linter.all false
set_option maxRecDepth 100000
set_option maxHeartbeats 4000000
namespace K78
open PySem PySem.Spec PyProof.Rows L2 Qd
def OthP (q : PyData) : Prop := fine 4 q = true ∧ PyData.leavesShort 40 q = true ∧ q.weight ≤ 500
def Oth (p o : Nat) (S : Store) (x : D) : Prop := ∃ q, Sh (hide p o S) x q ∧ OthP q
theorem Oth.kp {p o : Nat} {S T : Store} {x : D} (h : Oth p o S x) (k : Kp p o S T) : Oth p o T x := let ⟨q, a, b⟩ := h; ⟨q, sh_mono k a, b⟩
theorem upper_low {x : Str} (h : Low x) (l : x.length ≤ 8) : OthP (.str (Txt.upper x)) := by
  have hu : ∀ c ∈ letters.cps.toList, ∀ d ∈ Unicode.upperOf c, d < 0x110000 := by decide +kernel
  have hl := PyProof.Rows.len_upper x
  have hs : PyData.strOk (Txt.upper x) = true := by
    unfold PyData.strOk
    rw [← Array.all_toList, List.all_eq_true]
    intro d hd
    have hd2 : d ∈ (Txt.upper x).cps := by simpa using hd
    unfold Txt.upper placed at hd2
    simp only [Array.mem_flatten, Array.mem_mapIdx] at hd2
    obtain ⟨a, ⟨i, hi, rfl⟩, hda⟩ := hd2
    have hda : d ∈ Unicode.upperOf x.cps[i] := by simpa using hda
    exact decide_eq_true (hu _ (h _ (by simp)) d hda)
  have hlen : (Txt.upper x).length ≤ 100 := by omega
  have hf : fine 4 (.str (Txt.upper x)) = true := by simp [fine, hlen, hs]
  exact ⟨hf, str_short hf, by show (Txt.upper x).length ≤ 500; omega⟩
theorem str_oth {x : Str} (h : PyData.strOk x = true) (l : x.length ≤ 100) : OthP (.str x) := by
  have hf : fine 4 (.str x) = true := by simp [fine, l, h]
  exact ⟨hf, str_short hf, by show x.length ≤ 500; omega⟩
theorem int_oth {i : Int} (h : i.natAbs < 10 ^ 35) : OthP (.int i) := by
  have hl : i.natAbs.log2 < 120 := by
    by_cases h0 : i.natAbs = 0
    · rw [h0]; decide
    · exact (Nat.log2_lt h0).mpr (Nat.lt_trans h (by decide))
  refine ⟨?_, short_up (B := 36) (by decide) (int_short (B := 35) h (by decide)), ?_⟩
  · simp only [fine, decide_eq_true_eq]; omega
  · rw [PyData.weight]; split <;> omega
def El (q : PyData) : Prop := fine 3 q = true ∧ PyData.leavesShort 40 q = true ∧ q.weight ≤ 10
theorem el_int {i : Int} (h : i.natAbs < 1000) : El (.int i) := by
  have hl : i.natAbs.log2 < 10 := by
    by_cases h0 : i.natAbs = 0
    · rw [h0]; decide
    · exact (Nat.log2_lt h0).mpr (by omega)
  refine ⟨?_, short_up (B := 4) (by decide) (int_short (B := 3) (by omega) (by decide)), ?_⟩
  · simp only [fine, decide_eq_true_eq]; omega
  · rw [PyData.weight]; split <;> omega
theorem el_non : El .none := ⟨rfl, rfl, by decide⟩
theorem el_0 : El (.str "0") := ⟨by decide +kernel, str_short (n := 3) (by decide +kernel), by decide +kernel⟩
theorem el_list {ps : List PyData} (h : ∀ p ∈ ps, El p) (l : ps.length ≤ 40) : OthP (.list ps) := by
  refine ⟨?_, ?_, ?_⟩
  · simp only [fine, Bool.and_eq_true, decide_eq_true_eq, List.all_eq_true]
    exact ⟨by omega, fun p hp => (h p hp).1⟩
  · rw [PyData.leavesShort]; exact shortAll fun p hp => (h p hp).2.1
  · rw [PyData.weight]
    have := weightAll_le (b := 11) fun p hp => Nat.succ_le_succ (h p hp).2.2
    have : 11 * ps.length ≤ 11 * 40 := Nat.mul_le_mul_left _ l
    omega
theorem el_tup {ps : List PyData} (h : ∀ p ∈ ps, El p) (l : ps.length ≤ 40) : OthP (.tuple ps) := by
  have := el_list h l
  refine ⟨?_, ?_, ?_⟩
  · simpa [fine] using this.1
  · rw [PyData.leavesShort]; have h2 := this.2.1; rw [PyData.leavesShort] at h2; exact h2
  · rw [PyData.weight]; have h2 := this.2.2; rw [PyData.weight] at h2; exact h2
/-- a fresh list of flat items -/
theorem new_oth {p o n : Nat} {S T : Store} {vs : List D} {ps : List PyData} (hp : p < S.length) (ho : o < S.length) (hn : S.length ≤ n) (hg : T[n]? = some (.lst true vs)) (hs : Shs [] vs ps) (h : ∀ p ∈ ps, El p) (l : ps.length ≤ 40) : Oth p o T (.loc n) :=
  ⟨.list ps, .lst (by rw [hide_get (by omega) (by omega)]; exact hg) (shs_mono Sub.nil hs), el_list h l⟩
theorem shs_nat {S : Store} : ∀ {ds : List D} {is : List Nat}, Shs S ds (is.map fun i : Nat => PyData.int ((i : Nat) : Int)) → ds = is.map fun i : Nat => D.int ((i : Nat) : Int)
  | ds, [], h => by cases h; rfl
  | ds, i :: is, h => by
    cases h with
    | cons a b => cases a; rw [shs_nat b]; rfl
theorem cut_at {ds : List D} {k : Nat} (h : k ≤ ds.length) : Qd.cutD ds none (some ((k : Nat) : Int)) = ds.take k ∧ Qd.cutD ds (some ((k : Nat) : Int)) none = ds.drop k := by
  unfold Qd.cutD
  rw [HT.sIx_none, HT.sIx_none, HT.sIx_nat, HT.sIx_nat, Nat.min_eq_left h]
  refine ⟨by simp, ?_⟩
  exact List.take_of_length_le (by simp)
/-- piece[:at] + [v] + piece[at:] -/
theorem ins_we {e : Slots} {n k : Nat} {ds : List D} {v : D} {we : WE} {S : Store} {R : D → Store → Prop} {X : XQ} (h1 : e[1]? = some (some (.loc n))) (h5 : e[5]? = some (some (.int ((k : Nat) : Int)))) (hn : S[n]? = some (.lst true ds)) (hk : k ≤ ds.length) (hl : ds.length ≤ 100)
    (hw : ∀ S' R', Sub S S' → R' v S' → we e S' R' X) (r : ∀ n' S', Sub S S' → S.length ≤ n' → S'[n']? = some (.lst true (ds.take k ++ [v] ++ ds.drop k)) → R (.loc n') S') :
    wOp fAdd (wOp fAdd (wSl fSl (wVar 1) wNoPart (wPart (wVar 5))) (wLst (wCons we wNil))) (wSl fSl (wVar 1) (wPart (wVar 5)) wNoPart) e S R X := by
  simp only [wRet, wRetN, wIf, wSeq, wSkip, wBreak, wCont, wNever, wDrop, wAndV, wOrV, wNotV, wIfE, wTest, wAndT, wOrT, wNotT, wUn, wOp, wVar, wC, wCB, wNil, wCons, wTup, wLst, wCall, wCallX, wSl, wNoPart, wPart, wChain, wAsg, wSet, wAug, wPar, wFor, iLst, iTp, iRng, iEn, iSt, gNm, gTp, gNone, gMore, g2, g3, wLc, wYes, wLm, wDGet, wDIn, wDGet2, wDPut, wDNew, wDisp, wPs, wSm0, wSm1, wRev, wMaxD, wRaise, wKeep, gSet]
  have c := cut_at hk
  refine ⟨_, h1, _, h5, true, ds, hn, ?_⟩
  rw [c.1]
  refine hw _ _ Sub.push ⟨(show 1 ≤ lineD by decide), ds.take k, [v], ?_, last_get, by simp; exact Nat.le_trans (by omega : min k ds.length + 1 ≤ 101) (by decide), ?_⟩
  · exact Sub.push _ _ last_get
  · refine ⟨_, h1, _, h5, true, ds, Sub.push.to.to _ _ hn, ?_⟩
    rw [c.2]
    refine ⟨ds.take k ++ [v], ds.drop k, Sub.push _ _ last_get, last_get, by simp; exact Nat.le_trans (by omega : min k ds.length + 1 + (ds.length - k) ≤ 201) (by decide), ?_⟩
    exact r _ _ Sub.push.to.to.to.to (by simp) last_get
theorem other_pick {p o t : Nat} {S T : Store} {n : Nat} {xs : List D} {Q : D → Store → Prop} {e : Slots} (h0 : e[0]? = some (some (.loc p))) (h4 : e[4]? = some (some (.loc n))) (hg : (hide p o T)[n]? = some (.lst true xs)) (hx : ∀ x ∈ xs, Oth p o T x) (hne : 0 < xs.length) (hl : xs.length ≤ 1000) (hp : Pot T p o (t + 5)) (ht : t ≤ 10 ^ 6) (hk : Kp p o S T)
    (k : ∀ x T, Oth p o T x → Pot T p o (t + 6) → Kp p o S T → Q x T) : wRet (wCall cPick [] (wCons (wVar 0) (wCons (wVar 4) wNil))) { nx := fun _ S => Q .non S, rt := Q } e T noX := by
  simp only [wRet, wRetN, wIf, wSeq, wSkip, wBreak, wCont, wNever, wDrop, wAndV, wOrV, wNotV, wIfE, wTest, wAndT, wOrT, wNotT, wUn, wOp, wVar, wC, wCB, wNil, wCons, wTup, wLst, wCall, wCallX, wSl, wNoPart, wPart, wChain, wAsg, wSet, wAug, wPar, wFor, iLst, iTp, iRng, iEn, iSt, gNm, gTp, gNone, gMore, g2, g3, wLc, wYes, wLm, wDGet, wDIn, wDGet2, wDPut, wDNew, wDisp, wPs, wSm0, wSm1, wRev, wMaxD, wRaise, wKeep, gSet]
  exact ⟨_, h0, _, h4, p, o, t + 5, .loc n, xs, rfl, .inl ⟨n, rfl, hg⟩, hne, by omega, hp, by omega, fun i x T2 hi hp2 hk2 => k x T2 ((hx x (List.mem_of_getElem? hi)).kp hk2) hp2 (hk.trans hk2)⟩
section
variable {a b c d4 : WE} {env : Slots} {S : Store} {Q : D → Store → Prop} {X : XQ} {G : Go} {u : WS} {i : Nat} {f : WO2} {x : D}
theorem seq_set (h : a env S (fun d S1 => u G (env.set i (some d)) S1 X) X) : wSeq (wSet i a) u G env S X := h
theorem seq_if {tt : WT} {w : WS} (h : tt env S (fun c S1 => if c = true then w ⟨fun e s => u G e s X, G.rt, G.bk, G.ct⟩ env S1 X else u G env S1 X) X) : wSeq (wIf tt w wSkip) u G env S X := h
theorem set_by (h : a env S (fun d S1 => G.nx (env.set i (some d)) S1) X) : wSet i a G env S X := h
theorem lst3 (h : a env S (fun d1 S1 => b env S1 (fun d2 S2 => c env S2 (fun d3 S3 => 3 ≤ lineD ∧ Q (.loc S3.length) (S3 ++ [.lst true [d1, d2, d3]])) X) X) X) : wLst (wCons a (wCons b (wCons c wNil))) env S Q X := h
theorem lst4 (h : a env S (fun d1 S1 => b env S1 (fun d2 S2 => c env S2 (fun d3 S3 => d4 env S3 (fun e4 S4 => 4 ≤ lineD ∧ Q (.loc S4.length) (S4 ++ [.lst true [d1, d2, d3, e4]])) X) X) X) X) : wLst (wCons a (wCons b (wCons c (wCons d4 wNil)))) env S Q X := h
theorem op_var (h : env[i]? = some (some x)) (q : b env S (fun y S2 => f x y S2 Q) X) : wOp f (wVar i) b env S Q X := ⟨_, h, q⟩
end
theorem add9_we {e : Slots} {n : Nat} {ds : List D} {S : Store} {R : D → Store → Prop} {X : XQ} (h1 : e[1]? = some (some (.loc n))) (hn : S[n]? = some (.lst true ds)) (hl : ds.length ≤ 100)
    (r : ∀ n' S', Sub S S' → S.length ≤ n' → S'[n']? = some (.lst true (ds ++ List.replicate 9 (.int 0))) → R (.loc n') S') : wOp fAdd (wVar 1) (wOp fMul3 (wLst (wCons (wC (.int 0)) wNil)) (wC (.int 9))) e S R X := by
  simp only [wRet, wRetN, wIf, wSeq, wSkip, wBreak, wCont, wNever, wDrop, wAndV, wOrV, wNotV, wIfE, wTest, wAndT, wOrT, wNotT, wUn, wOp, wVar, wC, wCB, wNil, wCons, wTup, wLst, wCall, wCallX, wSl, wNoPart, wPart, wChain, wAsg, wSet, wAug, wPar, wFor, iLst, iTp, iRng, iEn, iSt, gNm, gTp, gNone, gMore, g2, g3, wLc, wYes, wLm, wDGet, wDIn, wDGet2, wDPut, wDNew, wDisp, wPs, wSm0, wSm1, wRev, wMaxD, wRaise, wKeep, gSet]
  refine ⟨_, h1, (show 1 ≤ lineD by decide), [.int 0], last_get, by decide, by decide, by decide, ds, List.replicate 9 (.int 0), Sub.push.to _ _ hn, last_get, by simp; exact Nat.le_trans (by omega : ds.length + 9 ≤ 200) (by decide), ?_⟩
  exact r _ _ Sub.push.to.to (by simp) last_get
theorem shs_rep {S : Store} : ∀ n : Nat, Shs S (List.replicate n (D.int 0)) (List.replicate n (PyData.int 0))
  | 0 => .nil
  | n + 1 => .cons (.int 0) (shs_rep n)
theorem sh_nilS {S : Store} {ds : List D} {ps : List PyData} (h : Shs [] ds ps) : Shs S ds ps := shs_mono Sub.nil h
theorem els {is : List Nat} (h : ∀ i ∈ is, i < 1000) : ∀ q ∈ is.map (fun i : Nat => PyData.int ((i : Nat) : Int)), El q := fun q hq => by
  obtain ⟨i, hi, rfl⟩ := List.mem_map.mp hq
  exact el_int (by rw [Int.natAbs_natCast]; exact h i hi)
theorem ins_oth {p o n' : Nat} {S T : Store} {is : List Nat} {k : Nat} {v : D} {qv : PyData} (hp : p < S.length) (ho : o < S.length) (hn : S.length ≤ n') (hl : is.length ≤ 9) (h : ∀ i ∈ is, i < 1000) (hv : Sh [] v qv) (he : El qv)
    (hg : T[n']? = some (.lst true ((is.map fun i : Nat => D.int ((i : Nat) : Int)).take k ++ [v] ++ (is.map fun i : Nat => D.int ((i : Nat) : Int)).drop k))) : Oth p o T (.loc n') := by
  refine new_oth (ps := (is.map fun i : Nat => PyData.int ((i : Nat) : Int)).take k ++ [qv] ++ (is.map fun i : Nat => PyData.int ((i : Nat) : Int)).drop k) hp ho hn hg ((((shs_ints is).take k).append (.cons hv .nil)).append ((shs_ints is).drop k)) (fun q hq => ?_) (by simp; omega)
  rcases List.mem_append.mp hq with z | z
  · rcases List.mem_append.mp z with z | z
    · exact els h q (List.mem_of_mem_take z)
    · rw [List.mem_singleton.mp z]; exact he
  · exact els h q (List.mem_of_mem_drop z)
theorem other_list {p o t m n n4 far : Nat} {is : List Nat} {xs : List D} {S T : Store} {G : Go} {X : XQ} (hn : (hide p o T)[n]? = some (.lst true (is.map fun i : Nat => D.int ((i : Nat) : Int)))) (hl : is.length ≤ 9) (h : ∀ i ∈ is, i < 1000) (hfar : far < 1000)
    (hg : (hide p o T)[n4]? = some (.lst true xs)) (hx : ∀ x ∈ xs, Oth p o T x) (hne : 0 < xs.length) (hxl : xs.length ≤ 100) (hp : Pot T p o (t + 3)) (ht : t ≤ 10 ^ 6) (hk : Kp p o S T)
    (k : ∀ e T' n' ys, e[0]? = some (some (.loc p)) → e[4]? = some (some (.loc n')) → (hide p o T')[n']? = some (.lst true ys) → (∀ y ∈ ys, Oth p o T' y) → 0 < ys.length → ys.length ≤ 1000 → Pot T' p o (t + 5) → Kp p o S T' → G.nx e T') :
    wSeq (wSet 5 (wCall cTake [] (wCons (wVar 0) (wCons (wOp fAdd (wCB fLen (wCons (wVar 1) wNil)) (wC (.int 1))) wNil))))
      (wSeq (wSet 6 (wLst (wCons (wOp fAdd (wVar 1) (wOp fMul3 (wLst (wCons (wC (.int 0)) wNil)) (wC (.int 9))))
          (wCons (wOp fAdd (wOp fAdd (wSl fSl (wVar 1) wNoPart (wPart (wVar 5))) (wLst (wCons (wVar 3) wNil))) (wSl fSl (wVar 1) (wPart (wVar 5)) wNoPart))
            (wCons (wOp fAdd (wOp fAdd (wSl fSl (wVar 1) wNoPart (wPart (wVar 5))) (wLst (wCons (wUn fNeg (wC (.int 1))) wNil))) (wSl fSl (wVar 1) (wPart (wVar 5)) wNoPart)) wNil)))))
        (wSeq (wSet 6 (wOp fAdd (wVar 6) (wLst (wCons (wCB fTuple (wCons (wVar 1) wNil)) (wCons (wSl fSl (wVar 1) wNoPart (wPart (wUn fNeg (wC (.int 1)))))
              (wCons (wOp fAdd (wOp fAdd (wSl fSl (wVar 1) wNoPart (wPart (wVar 5))) (wLst (wCons (wC .non) wNil))) (wSl fSl (wVar 1) (wPart (wVar 5)) wNoPart))
                (wCons (wOp fAdd (wOp fAdd (wSl fSl (wVar 1) wNoPart (wPart (wVar 5))) (wLst (wCons (wC (.str "0")) wNil))) (wSl fSl (wVar 1) (wPart (wVar 5)) wNoPart)) wNil)))))))
          (wSet 4 (wOp fAdd (wOp fAdd (wVar 4) (wVar 6)) (wVar 6)))))
      G [some (.loc p), some (.loc n), some (.int ((m : Nat) : Int)), some (.int ((far : Nat) : Int)), some (.loc n4), none, none] T X := by
  obtain ⟨hnT, _, _⟩ := hide_data hn (by unfold dead; exact fun z => Cell.noConfusion z)
  obtain ⟨ds, hds⟩ : ∃ ds, ds = is.map fun i : Nat => D.int ((i : Nat) : Int) := ⟨_, rfl⟩
  have hdl : ds.length = is.length := by rw [hds, List.length_map]
  rw [← hds] at hn hnT
  refine seq_set ⟨_, rfl, _, rfl, true, ds, hnT, p, o, t + 3, ds.length + 1, by simp, by omega, by omega, hp, by omega, fun at_ T1 hat hp1 hk1 => ?_⟩
  have hl1 := hp1.lt
  have hk01 := hk.trans hk1
  have hn1 := hk1 _ _ hn
  obtain ⟨hnT1, _, _⟩ := hide_data hn1 (by unfold dead; exact fun z => Cell.noConfusion z)
  have hat' : at_ ≤ ds.length := by omega
  have hl100 : ds.length ≤ 100 := by omega
  refine seq_set (lst3 (add9_we rfl hnT1 hl100 fun n1 S1 m1 g1 c1 => ?_))
  refine ins_we (v := .int ((far : Nat) : Int)) rfl rfl (m1 _ _ hnT1) hat' hl100 (fun S' R' _ r => ⟨_, rfl, r⟩) fun n2 S2 m2 g2 c2 => ?_
  refine ins_we (v := .int (-1)) rfl rfl ((m1.trans m2) _ _ hnT1) hat' hl100 (fun S' R' _ r => r) fun n3 S3 m3 g3 c3 => ⟨by decide, ?_⟩
  have M3 : Sub T1 (S3 ++ [Cell.lst true [.loc n1, .loc n2, .loc n3]]) := ((m1.trans m2).trans m3).to
  refine seq_set (op_var rfl (lst4 ⟨_, rfl, true, ds, M3 _ _ hnT1, ?_⟩))
  refine ⟨_, rfl, true, ds, M3 _ _ hnT1, ?_⟩
  have M4 := M3.to (U := [Cell.lst true (Qd.cutD ds none (some (-1)))])
  refine ins_we (v := .non) rfl rfl (M4 _ _ hnT1) hat' hl100 (fun S' R' _ r => r) fun n5 S5 m5 g5 c5 => ?_
  refine ins_we (v := .str "0") rfl rfl ((M4.trans m5) _ _ hnT1) hat' hl100 (fun S' R' _ r => r) fun n6 S6 m6 g6 c6 => ⟨by decide, ?_⟩
  have M6 := (M4.trans m5).trans m6
  obtain ⟨n4', hn4'⟩ : ∃ k, k = (S3 ++ [Cell.lst true [D.loc n1, .loc n2, .loc n3]]).length := ⟨_, rfl⟩
  rw [← hn4']
  have c4 : ((S3 ++ [Cell.lst true [D.loc n1, .loc n2, .loc n3]]) ++ [Cell.lst true (Qd.cutD ds none (some (-1)))])[n4']? = some (.lst true (Qd.cutD ds none (some (-1)))) := by rw [hn4', last_get]
  have c7 : (S6 ++ [Cell.lst true [D.tup ds, .loc n4', .loc n5, .loc n6]])[S3.length]? = some (.lst true [.loc n1, .loc n2, .loc n3]) := (m5.trans m6).to _ _ (Sub.push _ _ last_get)
  refine ⟨[.loc n1, .loc n2, .loc n3], [.tup ds, .loc n4', .loc n5, .loc n6], c7, last_get, (show 7 ≤ lineD by decide), ?_⟩
  have M7 := (M6.to (U := [Cell.lst true [D.tup ds, .loc n4', .loc n5, .loc n6]])).to (U := [Cell.lst true ([D.loc n1, .loc n2, .loc n3] ++ [D.tup ds, .loc n4', .loc n5, .loc n6])])
  obtain ⟨F, hF⟩ : ∃ F, F = (S6 ++ [Cell.lst true [D.tup ds, .loc n4', .loc n5, .loc n6]]) ++ [Cell.lst true ([D.loc n1, .loc n2, .loc n3] ++ [D.tup ds, .loc n4', .loc n5, .loc n6])] := ⟨_, rfl⟩
  obtain ⟨n8, hn8⟩ : ∃ k, k = (S6 ++ [Cell.lst true [D.tup ds, .loc n4', .loc n5, .loc n6]]).length := ⟨_, rfl⟩
  have c8 : F[n8]? = some (.lst true ([D.loc n1, .loc n2, .loc n3] ++ [D.tup ds, .loc n4', .loc n5, .loc n6])) := by rw [hF, hn8, last_get]
  rw [← hF] at M7 ⊢
  rw [← hn8]
  have S6F : Sub S6 F := hF ▸ Sub.push.to
  have hg1 := (hide_data (hk1 _ _ hg) (by unfold dead; exact fun z => Cell.noConfusion z)).1
  have len6 : T1.length ≤ S6.length := Sub.len M6
  obtain ⟨vs, hvs⟩ : ∃ vs, vs = [D.loc n1, .loc n2, .loc n3] ++ [D.tup ds, .loc n4', .loc n5, .loc n6] := ⟨_, rfl⟩
  have vl : vs.length = 7 := by rw [hvs]; rfl
  rw [← hvs] at c8
  refine set_by ⟨_, rfl, _, rfl, xs, vs, M7 _ _ hg1, c8, Nat.le_trans (by omega : xs.length + vs.length ≤ 200) (by decide), _, rfl, xs ++ vs, vs, last_get, Sub.push _ _ c8, by rw [List.length_append]; exact Nat.le_trans (by omega : xs.length + vs.length + vs.length ≤ 300) (by decide), ?_⟩
  have MF : Sub F ((F ++ [Cell.lst true (xs ++ vs)]) ++ [Cell.lst true (xs ++ vs ++ vs)]) := Sub.push.to
  have hlF : p < F.length ∧ o < F.length := by have := Sub.len M7; omega
  have toF : ∀ {S' : Store} {x : D}, T1.length ≤ S'.length → Sub S' F → Oth p o S' x → Oth p o F x := fun hlen hsub ho => ho.kp (Kp.sub (by omega) (by omega) hsub)
  have len1 := Sub.len m1
  have len2 := Sub.len m2
  have len3 := Sub.len m3
  have len5 := Sub.len m5
  have lM4 := Sub.len M4
  have hv : ∀ x ∈ vs, Oth p o F x := by
    have s56 : Sub S5 F := m6.trans S6F
    have s46 := m5.trans s56
    have s3 : Sub S3 F := (Sub.push.to).trans s46
    have s2 : Sub S2 F := m3.trans s3
    have s1 : Sub S1 F := m2.trans s2
    intro x hx'
    rw [hvs] at hx'
    simp at hx'
    rcases hx' with rfl | rfl | rfl | rfl | rfl | rfl | rfl
    · refine toF len1 s1 (new_oth (S := T1) (ps := is.map (fun i : Nat => PyData.int ((i : Nat) : Int)) ++ List.replicate 9 (.int 0)) hl1.1 hl1.2 g1 c1 (by rw [hds]; exact (shs_ints is).append (shs_rep 9)) (fun q hq => ?_) (by simp; omega))
      rcases List.mem_append.mp hq with z | z
      · exact els h q z
      · rw [(List.mem_replicate.mp z).2]; exact el_int (by decide)
    · exact toF (by omega) s2 (ins_oth (S := S1) (by omega) (by omega) g2 hl h (.int _) (el_int (by rw [Int.natAbs_natCast]; exact hfar)) (by rw [← hds]; exact c2))
    · exact toF (by omega) s3 (ins_oth (S := S2) (by omega) (by omega) g3 hl h (.int (-1)) (el_int (by decide)) (by rw [← hds]; exact c3))
    · exact ⟨.tuple (is.map fun i : Nat => .int ((i : Nat) : Int)), .tup (sh_nilS (by rw [hds]; exact shs_ints is)), el_tup (els h) (by rw [List.length_map]; omega)⟩
    · refine toF (by simp at lM4 ⊢; omega) s46 (new_oth (S := T1) (ps := cutP (is.map fun i : Nat => PyData.int ((i : Nat) : Int)) none (some (-1))) hl1.1 hl1.2 (by rw [hn4']; simp; omega) c4 (by rw [hds]; exact (shs_ints is).cut _ _) (fun q hq => ?_) ?_)
      · unfold cutP at hq
        exact els h q (List.mem_of_mem_drop (List.mem_of_mem_take hq))
      · unfold cutP
        simp
        omega
    · exact toF (by omega) s56 (ins_oth (S := (S3 ++ [Cell.lst true [D.loc n1, .loc n2, .loc n3]]) ++ [Cell.lst true (Qd.cutD ds none (some (-1)))]) (by omega) (by omega) g5 hl h .non el_non (by rw [← hds]; exact c5))
    · exact toF len6 S6F (ins_oth (S := S5) (by omega) (by omega) g6 hl h (.str _) el_0 (by rw [← hds]; exact c6))
  have kF := Kp.sub hlF.1 hlF.2 MF
  refine k _ _ _ (xs ++ vs ++ vs) rfl rfl ?_ (fun y hy => ?_) (by simp; omega) (by simp; omega) (((hp1.sub M7).sub MF).up (by omega)) ((hk01.trans (Kp.sub hl1.1 hl1.2 M7)).trans kF)
  · rw [hide_get (by simp; omega) (by simp; omega), last_get]
  · have hxF : ∀ x ∈ xs, Oth p o F x := fun x hx' => ((hx x hx').kp hk1).kp (Kp.sub hl1.1 hl1.2 M7)
    rcases List.mem_append.mp hy with z | z
    · rcases List.mem_append.mp z with z | z
      · exact (hxF y z).kp kF
      · exact (hv y z).kp kF
    · exact (hv y z).kp kF
theorem low_strOk {x : Str} (h : Low x) : PyData.strOk x = true := by
  have hb : ∀ d ∈ letters.cps.toList, d < 0x110000 := by decide
  unfold PyData.strOk
  rw [← Array.all_toList, List.all_eq_true]
  exact fun c hc => decide_eq_true (hb c (h c hc))
theorem strOk_app {x y : Str} (h : PyData.strOk x = true) (g : PyData.strOk y = true) : PyData.strOk (x ++ y) = true := by
  unfold PyData.strOk at h g ⊢
  show (x.cps ++ y.cps).all _ = true
  rw [Array.all_append, h, g]
  rfl
theorem cut_short {x : Str} (lo hi : Option Int) : (cutS x lo hi).length ≤ x.length := by
  unfold cutS
  show (List.toArray _).size ≤ _
  rw [List.size_toArray, List.length_take, List.length_drop]
  have : x.cps.toList.length = x.length := rfl
  omega
theorem strOne {p o : Nat} {S : Store} {x : Str} (h : PyData.strOk x = true) (l : x.length ≤ 100) : Oth p o S (.str x) := ⟨.str x, .str x, str_oth h l⟩
theorem other_str {p o t n4 : Nat} {x : Str} {xs : List D} {S T : Store} {G : Go} {X : XQ} {e2 e3 : Option D} (hxl : Low x) (hl : x.length ≤ 8)
    (hg : (hide p o T)[n4]? = some (.lst true xs)) (hx : ∀ x ∈ xs, Oth p o T x) (hne : 0 < xs.length) (hxs : xs.length ≤ 50) (hp : Pot T p o (t + 3)) (hk : Kp p o S T)
    (k : ∀ e T' n' ys, e[0]? = some (some (.loc p)) → e[1]? = some (some (.str x)) → e[4]? = some (some (.loc n')) → (hide p o T')[n']? = some (.lst true ys) → (∀ y ∈ ys, Oth p o T' y) → 0 < ys.length → ys.length ≤ 100 → Pot T' p o (t + 3) → Kp p o S T' → G.nx e T') :
    wSet 4 (wOp fAdd (wVar 4) (wOp fMul3 (wLst (wCons (wOp fAdd (wVar 1) (wC (.str "0"))) (wCons (wSm0 fUpper (wVar 1)) (wCons (wSl fSl (wOp fAdd (wVar 1) (wVar 1)) wNoPart (wPart (wC (.int 9)))) (wCons (wSl fSl (wVar 1) (wPart (wC (.int 1))) wNoPart) wNil))))) (wC (.int 4))))
      G [some (.loc p), some (.str x), e2, e3, some (.loc n4), none, none] T X := by
  simp only [wRet, wRetN, wIf, wSeq, wSkip, wBreak, wCont, wNever, wDrop, wAndV, wOrV, wNotV, wIfE, wTest, wAndT, wOrT, wNotT, wUn, wOp, wVar, wC, wCB, wNil, wCons, wTup, wLst, wCall, wCallX, wSl, wNoPart, wPart, wChain, wAsg, wSet, wAug, wPar, wFor, iLst, iTp, iRng, iEn, iSt, gNm, gTp, gNone, gMore, g2, g3, wLc, wYes, wLm, wDGet, wDIn, wDGet2, wDPut, wDNew, wDisp, wPs, wSm0, wSm1, wRev, wMaxD, wRaise, wKeep, gSet]
  have h100 : x.length + x.length ≤ 100 := by omega
  obtain ⟨vs, hvs⟩ : ∃ vs, vs = [D.str (x ++ "0"), .str (Txt.upper x), .str (cutS (x ++ x) none (some 9)), .str (cutS x (some 1) none)] := ⟨_, rfl⟩
  have hT := hp.lt
  refine ⟨_, rfl, _, rfl, Nat.le_trans (by show x.length + 1 ≤ 100; omega) (by decide : (100 : Nat) ≤ lineD), _, rfl, by omega, _, rfl, _, rfl, Nat.le_trans h100 (by decide : (100 : Nat) ≤ lineD), Nat.le_trans (by rw [len_app]; exact h100) (by decide : (100 : Nat) ≤ lineD), _, rfl, len_lineD (by omega), (show 4 ≤ lineD by decide), ?_⟩
  rw [← hvs]
  have vl : vs.length = 4 := by rw [hvs]; rfl
  have e4 : ((4 : Int)).toNat = 4 := rfl
  refine ⟨vs, last_get, by decide, by decide, by rw [vl]; decide, xs, (List.replicate 4 vs).flatten, Sub.push.to _ _ (hide_data hg (by unfold dead; exact fun z => Cell.noConfusion z)).1, last_get, ?_, ?_⟩
  · simp [vl]
    exact Nat.le_trans (by omega : xs.length + 16 ≤ 100) (by decide)
  · have hv : ∀ S' : Store, ∀ y ∈ vs, Oth p o S' y := fun S' y hy => by
      have ok := low_strOk hxl
      have lxx := low_strOk (low_cut (low_app hxl hxl) none (some 9))
      have lx1 := low_strOk (low_cut hxl (some 1) none)
      have c1 := cut_short (x := x ++ x) none (some 9)
      have c2 := cut_short (x := x) (some 1) none
      rw [len_app] at c1
      rw [hvs] at hy
      simp at hy
      rcases hy with rfl | rfl | rfl | rfl
      · exact strOne (strOk_app ok (by decide +kernel)) (by rw [len_app]; show x.length + 1 ≤ 100; omega)
      · exact ⟨_, .str _, upper_low hxl hl⟩
      · exact strOne lxx (by omega)
      · exact strOne lx1 (by omega)
    have MF : Sub T (((T ++ [Cell.lst true vs]) ++ [Cell.lst true (List.replicate 4 vs).flatten]) ++ [Cell.lst true (xs ++ (List.replicate 4 vs).flatten)]) := Sub.push.to.to
    refine k _ _ _ (xs ++ (List.replicate 4 vs).flatten) rfl rfl rfl ?_ (fun y hy => ?_) (by simp; omega) (by simp [vl]; omega) (hp.sub MF) (hk.trans (Kp.sub hT.1 hT.2 MF))
    · rw [hide_get (by simp; omega) (by simp; omega), last_get]
    · rcases List.mem_append.mp hy with z | z
      · exact (hx y z).kp (Kp.sub hT.1 hT.2 MF)
      · obtain ⟨l, hl1, hl2⟩ := List.mem_flatten.mp z
        rw [(List.mem_replicate.mp hl1).2] at hl2
        exact hv _ y hl2
theorem other_tail {p o t m n far : Nat} {d : D} {q : PyData} {zs : List D} {S F : Store} {Q : D → Store → Prop} (hs : Sh (hide p o S) d q) (hq : Piece q) (hfar : far < 1000) (hgh : (hide p o F)[n]? = some (.lst true zs)) (hall : ∀ z ∈ zs, Oth p o F z) (l24 : zs.length = 24) (hpF : Pot F p o (t + 3)) (ht : t ≤ 10 ^ 6) (kF : Kp p o S F)
    (k : ∀ x T, Oth p o T x → Pot T p o (t + 6) → Kp p o S T → Q x T) :
    wSeq (wIf (wAndT (wTest (wUn (fIsi "str") (wVar 1))) (wTest (wOp (fEq true) (wVar 1) (wC (.str "")))))
        (wSet 4 (wOp fAdd (wVar 4) (wOp fMul3 (wLst (wCons (wOp fAdd (wVar 1) (wC (.str "0"))) (wCons (wSm0 fUpper (wVar 1)) (wCons (wSl fSl (wOp fAdd (wVar 1) (wVar 1)) wNoPart (wPart (wC (.int 9)))) (wCons (wSl fSl (wVar 1) (wPart (wC (.int 1))) wNoPart) wNil))))) (wC (.int 4))))) wSkip)
      (wSeq (wIf (wTest (wUn (fIsi "list") (wVar 1)))
          (wSeq (wSet 5 (wCall cTake [] (wCons (wVar 0) (wCons (wOp fAdd (wCB fLen (wCons (wVar 1) wNil)) (wC (.int 1))) wNil))))
            (wSeq (wSet 6 (wLst (wCons (wOp fAdd (wVar 1) (wOp fMul3 (wLst (wCons (wC (.int 0)) wNil)) (wC (.int 9))))
                (wCons (wOp fAdd (wOp fAdd (wSl fSl (wVar 1) wNoPart (wPart (wVar 5))) (wLst (wCons (wVar 3) wNil))) (wSl fSl (wVar 1) (wPart (wVar 5)) wNoPart))
                  (wCons (wOp fAdd (wOp fAdd (wSl fSl (wVar 1) wNoPart (wPart (wVar 5))) (wLst (wCons (wUn fNeg (wC (.int 1))) wNil))) (wSl fSl (wVar 1) (wPart (wVar 5)) wNoPart)) wNil)))))
              (wSeq (wSet 6 (wOp fAdd (wVar 6) (wLst (wCons (wCB fTuple (wCons (wVar 1) wNil)) (wCons (wSl fSl (wVar 1) wNoPart (wPart (wUn fNeg (wC (.int 1)))))
                    (wCons (wOp fAdd (wOp fAdd (wSl fSl (wVar 1) wNoPart (wPart (wVar 5))) (wLst (wCons (wC .non) wNil))) (wSl fSl (wVar 1) (wPart (wVar 5)) wNoPart))
                      (wCons (wOp fAdd (wOp fAdd (wSl fSl (wVar 1) wNoPart (wPart (wVar 5))) (wLst (wCons (wC (.str "0")) wNil))) (wSl fSl (wVar 1) (wPart (wVar 5)) wNoPart)) wNil)))))))
                (wSet 4 (wOp fAdd (wOp fAdd (wVar 4) (wVar 6)) (wVar 6)))))) wSkip)
        (wRet (wCall cPick [] (wCons (wVar 0) (wCons (wVar 4) wNil)))))
      { nx := fun _ S => Q .non S, rt := Q } [some (.loc p), some d, some (.int ((m : Nat) : Int)), some (.int ((far : Nat) : Int)), some (.loc n), none, none] F noX := by
  have hsF : Sh F d q := sh_un (sh_mono kF hs)
  have pick : ∀ (e : Slots) (T' : Store) (n' : Nat) (zs : List D), e[0]? = some (some (.loc p)) → e[4]? = some (some (.loc n')) → (hide p o T')[n']? = some (.lst true zs) → (∀ y ∈ zs, Oth p o T' y) → 0 < zs.length → zs.length ≤ 1000 → Pot T' p o (t + 5) → Kp p o S T' → _ := fun e T' n' zs g0 g4 gh ga gp gl gpot gk => other_pick (Q := Q) g0 g4 gh ga gp gl gpot ht gk k
  refine seq_if ⟨_, rfl, shi_str hsF ?_⟩
  cases hq with
  | str x h1 h2 h3 =>
    cases hs
    refine iteB (fun _ => ?_) fun z => Bool.noConfusion z
    refine ⟨_, rfl, ?_⟩
    show if (!decide (x = "")) = true then _ else _
    refine iteB (fun _ => ?_) fun h0 => ?_
    · refine other_str h1 h3 hgh hall (by omega) (by omega) hpF kF fun e T' n' ys g0 g1 g4 gh ga gp gl gpot gk => ?_
      dsimp only
      refine seq_if ⟨_, g1, shi_lst (.str x) ?_⟩
      refine iteB (fun z => Bool.noConfusion z) fun _ => ?_
      exact pick e T' n' ys g0 g4 gh ga gp (by omega) (gpot.up (by omega)) gk
    · have : x = "" := of_decide_eq_true (by simpa using h0)
      rw [this] at h2
      exact absurd h2 (by decide)
  | list is h1 h2 =>
    cases hs with
    | lst e0 ss =>
      have hds := shs_nat ss
      subst hds
      refine iteB (fun z => Bool.noConfusion z) fun _ => ?_
      refine seq_if ⟨_, rfl, shi_lst hsF ?_⟩
      refine iteB (fun _ => ?_) fun z => Bool.noConfusion z
      refine other_list (kF _ _ e0) h1 h2 hfar hgh hall (by omega) (by omega) hpF ht kF fun e T' n' ys g0 g4 gh ga gp gl gpot gk => ?_
      exact pick e T' n' ys g0 g4 gh ga gp gl gpot gk
  | int i h1 =>
    cases hs
    refine iteB (fun z => Bool.noConfusion z) fun _ => ?_
    refine seq_if ⟨_, rfl, shi_lst (.int _) ?_⟩
    refine iteB (fun z => Bool.noConfusion z) fun _ => ?_
    exact pick _ F n zs rfl rfl hgh hall (by omega) (by omega) (hpF.up (by omega)) kF
  | term q' h1 h2 h3 =>
    have hS : pS q = false ∧ pL q = false := by cases q <;> first | (simp [partsP] at h2; done) | exact ⟨rfl, rfl⟩
    dsimp only
    rw [hS.1]
    refine iteF ?_
    refine seq_if ⟨_, rfl, shi_lst hsF ?_⟩
    dsimp only
    rw [hS.2]
    refine iteF ?_
    exact pick _ F n zs rfl rfl hgh hall (by omega) (by omega) (hpF.up (by omega)) kF
section
variable {P : Program} {w : World} {K : PySem.W.Frag} {mg : Str → Option Value} {base : Heap}
def cOther : Con := fun ds S Q _ => ∃ (p o t m : Nat) (d : D) (q : PyData), ds = [.loc p, d, .int ((m : Nat) : Int)] ∧ Sh (hide p o S) d q ∧ Piece q ∧ m ≤ 50 ∧ Pot S p o t ∧ t ≤ 10 ^ 6 ∧
  ∀ x T, Oth p o T x → Pot T p o (t + 6) → Kp p o S T → Q x T
abbrev s__law_other : Stmt := topS 34
theorem sc__law_other : FnScope ["pot", "piece", "many", "far", "some", "at", "more"] ["pot", "piece", "many"] (defScope s__law_other) := ⟨rfl, rfl, rfl, by decide +kernel, rfl, by decide +kernel, by decide +kernel⟩
theorem ok__law_other {f : Addr} {fd : FuncData} (F : Fun K "_law_other" "_law_other" s__law_other f fd) (hm : mg "_law_other" = some (.ref f)) (hb : Binds K fd ["pot", "piece", "many"] []) (B : Blt mg) (C__law_take : Fn P w K mg base 1 "_law_take" cTake []) (C__law_pick : Fn P w K mg base 2 "_law_pick" cPick []) : Fn P w K mg base 3 "_law_other" cOther [] := by
  refine defQ F hm hb .nil sc__law_other (fun ds S Q X ⟨_, _, _, _, _, _, e, _⟩ => by rw [e]; rfl) fun cdv A outer s H hr => ?_
  have hu1 := hu_of hr; have hu64 := hr.units
  refine ⟨_, (qs_cons (q_set (i := 3) sc__law_other.nd rfl (.inl rfl) (q_op op_add4 ro_add (qv 2) (q_c (dds := []) C__law_take hr (by first | decide | omega) (by rfl) (qa_cons (qv 0) (qa_cons q_int qa_nil)))))
      (qs_cons (q_set (i := 4) sc__law_other.nd rfl (.inl rfl) (q_lst (qa_cons (q_c (dds := []) C__law_take hr (by first | decide | omega) (by rfl) (qa_cons (qv 0) (qa_cons (q_op op_add4 ro_add (qv 2) q_int) qa_nil))) (qa_cons (qv 3) (qa_cons (q_op op_sub ro_sub (q_un un_neg ro_neg q_int) (q_c (dds := []) C__law_take hr (by first | decide | omega) (by rfl) (qa_cons (qv 0) (qa_cons q_int qa_nil)))) (qa_cons q_bl (qa_cons q_bl (qa_cons (q_op op_pow ro_pow q_int q_int) (qa_cons q_str (qa_cons q_non (qa_cons (q_tup qa_nil) (qa_cons (q_lst qa_nil) (qa_cons (q_lst (qa_cons q_int qa_nil)) qa_nil)))))))))))))
      (qs_cons (q_set (i := 4) sc__law_other.nd rfl (.inl rfl) (q_op op_add4 ro_add (qv 4) (q_lst (qa_cons q_str (qa_cons q_str (qa_cons q_str (qa_cons q_str (qa_cons q_str (qa_cons q_str (qa_cons q_str (qa_cons q_int (qa_cons q_int (qa_cons (q_tup (qa_cons q_str qa_nil)) (qa_cons (q_tup (qa_cons q_str qa_nil)) (qa_cons (q_tup (qa_cons q_str (qa_cons q_int qa_nil))) (qa_cons (q_tup (qa_cons q_str (qa_cons (q_un un_neg ro_neg q_int) qa_nil))) qa_nil))))))))))))))))
      (qs_cons (q_if (qt_w (qw_and (qt_val (q_isi "str" (by rfl) B.isinstance (by rfl) B.str (by decide +kernel) (qv 1))) (qw_and1 (qt_cmp (op_ne2 hu64) ro_ne (qv 1) q_str (nomark _))))) (qs_one (q_set (i := 4) sc__law_other.nd rfl (.inl rfl) (q_op op_add4 ro_add (qv 4) (q_op op_mul3 ro_mul3 (q_lst (qa_cons (q_op op_add4 ro_add (qv 1) q_str) (qa_cons (q_upper (qv 1)) (qa_cons (q_sl sl_3 ro_sl (q_op op_add4 ro_add (qv 1) (qv 1)) qo_none (qo_some q_int)) (qa_cons (q_sl sl_3 ro_sl (qv 1) (qo_some q_int) qo_none) qa_nil))))) q_int)))) qs_nil)
      (qs_cons (q_if (qt_val (q_isi "list" (by rfl) B.isinstance (by rfl) B.list (by decide +kernel) (qv 1))) (qs_cons (q_set (i := 5) sc__law_other.nd rfl (.inl rfl) (q_c (dds := []) C__law_take hr (by first | decide | omega) (by rfl) (qa_cons (qv 0) (qa_cons (q_op op_add4 ro_add (q_cb call_len ro_len (by rfl) B.len (by decide +kernel) (qa_cons (qv 1) qa_nil)) q_int) qa_nil))))
      (qs_cons (q_set (i := 6) sc__law_other.nd rfl (.inl rfl) (q_lst (qa_cons (q_op op_add4 ro_add (qv 1) (q_op op_mul3 ro_mul3 (q_lst (qa_cons q_int qa_nil)) q_int)) (qa_cons (q_op op_add4 ro_add (q_op op_add4 ro_add (q_sl sl_3 ro_sl (qv 1) qo_none (qo_some (qv 5))) (q_lst (qa_cons (qv 3) qa_nil))) (q_sl sl_3 ro_sl (qv 1) (qo_some (qv 5)) qo_none)) (qa_cons (q_op op_add4 ro_add (q_op op_add4 ro_add (q_sl sl_3 ro_sl (qv 1) qo_none (qo_some (qv 5))) (q_lst (qa_cons (q_un un_neg ro_neg q_int) qa_nil))) (q_sl sl_3 ro_sl (qv 1) (qo_some (qv 5)) qo_none)) qa_nil)))))
      (qs_cons (q_set (i := 6) sc__law_other.nd rfl (.inl rfl) (q_op op_add4 ro_add (qv 6) (q_lst (qa_cons (q_ct call_tuple_of ro_tuple (by rfl) B.tuple (by decide +kernel) (qa_cons (qv 1) qa_nil)) (qa_cons (q_sl sl_3 ro_sl (qv 1) qo_none (qo_some (q_un un_neg ro_neg q_int))) (qa_cons (q_op op_add4 ro_add (q_op op_add4 ro_add (q_sl sl_3 ro_sl (qv 1) qo_none (qo_some (qv 5))) (q_lst (qa_cons q_non qa_nil))) (q_sl sl_3 ro_sl (qv 1) (qo_some (qv 5)) qo_none)) (qa_cons (q_op op_add4 ro_add (q_op op_add4 ro_add (q_sl sl_3 ro_sl (qv 1) qo_none (qo_some (qv 5))) (q_lst (qa_cons q_str qa_nil))) (q_sl sl_3 ro_sl (qv 1) (qo_some (qv 5)) qo_none)) qa_nil)))))))
      (qs_one (q_set (i := 4) sc__law_other.nd rfl (.inl rfl) (q_op op_add4 ro_add (q_op op_add4 ro_add (qv 4) (qv 6)) (qv 6))))))) qs_nil)
      (qs_one (q_ret (q_c (dds := []) C__law_pick hr (by first | decide | omega) (by rfl) (qa_cons (qv 0) (qa_cons (qv 4) qa_nil)))))))))), fun ds S Q X h => ?_⟩
  obtain ⟨p, o, t, m, d, q, rfl, hs, hq, hm50, hp, ht, k⟩ := h
  refine seq_set ⟨_, rfl, _, rfl, p, o, t, 3, rfl, by decide, by decide, hp, by omega, fun r1 T1 hr1 hp1 hk1 => ?_⟩
  refine seq_set ⟨_, rfl, _, rfl, p, o, t + 1, m + 1, by simp, by omega, by omega, hp1, by omega, fun r2 T2 hr2 hp2 hk2 => ?_⟩
  refine ⟨_, rfl, _, rfl, p, o, t + 2, 2, rfl, by decide, by decide, hp2, by omega, fun r3 T3 hr3 hp3 hk3 => ?_⟩
  refine ⟨⟨by decide, by decide, by decide⟩, (show 0 ≤ lineD by decide), (show 0 ≤ lineD by decide), (show 1 ≤ lineD by decide), (show 11 ≤ lineD by decide), ?_⟩
  have hl3 := hp3.lt
  have hk03 := (hk1.trans hk2).trans hk3
  obtain ⟨A, hA⟩ : ∃ A, A = (T3 ++ [Cell.lst true []]) ++ [Cell.lst true [D.int 0]] := ⟨_, rfl⟩
  obtain ⟨xs, hxs⟩ : ∃ xs, xs = [D.int ((r2 : Nat) : Int), .int (((m : Nat) : Int) + ((r1 : Nat) : Int)), .int (-1 - ((r3 : Nat) : Int)), .bl true, .bl false, .int (10 ^ (30 : Int).toNat), .str "0", .non, .tup [], .loc T3.length, .loc (T3 ++ [Cell.lst true []]).length] := ⟨_, rfl⟩
  refine seq_set ⟨_, rfl, (show 1 ≤ lineD by decide), (show 1 ≤ lineD by decide), (show 2 ≤ lineD by decide), (show 2 ≤ lineD by decide), (show 13 ≤ lineD by decide), ?_⟩
  rw [← hxs, ← hA]
  obtain ⟨ys, hys⟩ : ∃ ys, ys = [D.str "self", .str "told", .str "back", .str "then", .str "in", .str "In", .str "", .int 1000, .int 999, .tup [.str "a"], .tup [.str "A"], .tup [.str "a", .int 1000], .tup [.str "a", .int (-1)]] := ⟨_, rfl⟩
  have xl : xs.length = 11 := by rw [hxs]; rfl
  have yl : ys.length = 13 := by rw [hys]; rfl
  refine ⟨xs, ys, Sub.push _ _ last_get, by rw [hys]; exact last_get, by rw [xl, yl]; decide, ?_⟩
  obtain ⟨n, hn⟩ : ∃ n, n = ((A ++ [Cell.lst true xs]) ++ [Cell.lst true ys]).length := ⟨_, rfl⟩
  obtain ⟨F, hF⟩ : ∃ F, F = ((A ++ [Cell.lst true xs]) ++ [Cell.lst true ys]) ++ [Cell.lst true (xs ++ ys)] := ⟨_, rfl⟩
  have M : Sub T3 F := by rw [hF, hA]; exact Sub.push.to.to.to.to
  have hgF : F[n]? = some (.lst true (xs ++ ys)) := by rw [hF, hn, last_get]
  have hnl : T3.length ≤ n := by rw [hn, hA]; simp
  have hpF := hp3.sub M
  have hlF := hpF.lt
  have kF := hk03.trans (Kp.sub hl3.1 hl3.2 M)
  have hgh : (hide p o F)[n]? = some (.lst true (xs ++ ys)) := by rw [hide_get (by omega) (by omega)]; exact hgF
  have hall : ∀ z ∈ xs ++ ys, Oth p o F z := by
    have c1 : F[T3.length]? = some (.lst true ([] : List D)) := by rw [hF, hA]; exact Sub.push.to.to.to _ _ last_get
    have c2 : F[(T3 ++ [Cell.lst true []]).length]? = some (.lst true [D.int 0]) := by rw [hF, hA]; exact Sub.push.to.to _ _ last_get
    have word : ∀ w : Str, PyData.strOk w = true → w.length ≤ 100 → Oth p o F (.str w) := fun w h1 h2 => strOne h1 h2
    have num : ∀ i : Int, i.natAbs < 10 ^ 35 → Oth p o F (.int i) := fun i h => ⟨.int i, .int i, int_oth h⟩
    have tp : ∀ (ds : List D) (ps : List PyData), Shs [] ds ps → (∀ q ∈ ps, El q) → ps.length ≤ 40 → Oth p o F (.tup ds) := fun ds ps h1 h2 h3 => ⟨.tuple ps, .tup (sh_nilS h1), el_tup h2 h3⟩
    have ela : ∀ w : Str, fine 3 (.str w) = true → w.length ≤ 10 → El (.str w) := fun w h1 h2 => ⟨h1, str_short h1, h2⟩
    intro z hz
    rcases List.mem_append.mp hz with hz | hz
    · rw [hxs] at hz
      simp at hz
      rcases hz with rfl | rfl | rfl | rfl | rfl | rfl | rfl | rfl | rfl | rfl | rfl
      · exact num _ (by omega)
      · exact num _ (by omega)
      · exact num _ (by omega)
      · exact ⟨.bool true, .bl true, rfl, rfl, by decide⟩
      · exact ⟨.bool false, .bl false, rfl, rfl, by decide⟩
      · exact num _ (by decide +kernel)
      · exact word _ (by decide +kernel) (by decide)
      · exact ⟨.none, .non, rfl, rfl, by decide⟩
      · exact tp [] [] .nil (by simp) (by simp)
      · exact new_oth (S := T3) (ps := []) hl3.1 hl3.2 (Nat.le_refl _) c1 .nil (by simp) (by simp)
      · exact new_oth (S := T3) (ps := [.int 0]) hl3.1 hl3.2 (by simp) (by simpa using c2) (.cons (.int 0) .nil) (fun q hq => by rw [List.mem_singleton.mp hq]; exact el_int (by decide)) (by simp)
    · rw [hys] at hz
      simp at hz
      rcases hz with rfl | rfl | rfl | rfl | rfl | rfl | rfl | rfl | rfl | rfl | rfl | rfl | rfl
      · exact word _ (by decide +kernel) (by decide)
      · exact word _ (by decide +kernel) (by decide)
      · exact word _ (by decide +kernel) (by decide)
      · exact word _ (by decide +kernel) (by decide)
      · exact word _ (by decide +kernel) (by decide)
      · exact word _ (by decide +kernel) (by decide)
      · exact word _ (by decide +kernel) (by decide)
      · exact num _ (by decide)
      · exact num _ (by decide)
      · exact tp _ [.str "a"] (.cons (.str _) .nil) (fun q hq => by rw [List.mem_singleton.mp hq]; exact ela _ (by decide +kernel) (by decide)) (by simp)
      · exact tp _ [.str "A"] (.cons (.str _) .nil) (fun q hq => by rw [List.mem_singleton.mp hq]; exact ela _ (by decide +kernel) (by decide)) (by simp)
      · exact tp _ [.str "a", .int 1000] (.cons (.str _) (.cons (.int _) .nil)) (fun q hq => by
          simp at hq
          rcases hq with rfl | rfl
          · exact ela _ (by decide +kernel) (by decide)
          · exact ⟨by decide +kernel, short_up (B := 5) (by decide) (int_short (B := 4) (by decide) (by decide)), by decide +kernel⟩) (by simp)
      · exact tp _ [.str "a", .int (-1)] (.cons (.str _) (.cons (.int _) .nil)) (fun q hq => by
          simp at hq
          rcases hq with rfl | rfl
          · exact ela _ (by decide +kernel) (by decide)
          · exact el_int (by decide)) (by simp)
  have l24 : (xs ++ ys).length = 24 := by rw [List.length_append, xl, yl]
  have hsF : Sh F d q := sh_un (sh_mono kF hs)
  have far : (((m : Nat) : Int) + ((r1 : Nat) : Int)) = ((m + r1 : Nat) : Int) := by simp
  have fin := other_tail (m := m) (far := m + r1) hs hq (by omega) hgh hall l24 hpF ht kF k
  subst hn hF hys
  exact fin
end
end K78
set_option Elab.async false
set_option linter.all false
set_option maxRecDepth 100000
set_option maxHeartbeats 4000000
namespace K78
open PySem PySem.Spec PyProof.Rows L2 Qd
def LineD (p o : Nat) (S : Store) (x : D) : Prop := ∃ q, Sh (hide p o S) x q ∧ fineL q ∧ PyData.leavesShort 40 q = true ∧ q.weight ≤ 5000
theorem LineD.kp {p o : Nat} {S T : Store} {x : D} (h : LineD p o S x) (k : Kp p o S T) : LineD p o T x := let ⟨q, a, b⟩ := h; ⟨q, sh_mono k a, b⟩
theorem oth_all {p o : Nat} {S : Store} : ∀ {ds : List D}, (∀ x ∈ ds, Oth p o S x) → ∃ qs, Shs (hide p o S) ds qs ∧ ∀ q ∈ qs, OthP q
  | [], _ => ⟨[], .nil, by simp⟩
  | d :: ds, h => by
    obtain ⟨q, h1, h2⟩ := h d List.mem_cons_self
    obtain ⟨qs, g1, g2⟩ := oth_all fun x hx => h x (List.mem_cons_of_mem _ hx)
    refine ⟨q :: qs, .cons h1 g1, fun z hz => ?_⟩
    rcases List.mem_cons.mp hz with rfl | hz
    · exact h2
    · exact g2 z hz
theorem oths {qs : List PyData} (h : ∀ q ∈ qs, OthP q) (l : qs.length ≤ 8) : fine 5 (.tuple qs) = true ∧ PyData.leavesShortAll 40 qs = true ∧ PyData.weightAll qs ≤ 4100 := by
  refine ⟨?_, shortAll fun p hp => (h p hp).2.1, ?_⟩
  · simp only [fine, Bool.and_eq_true, decide_eq_true_eq, List.all_eq_true]
    exact ⟨by omega, fun p hp => (h p hp).1⟩
  · have := weightAll_le (b := 501) fun p hp => Nat.succ_le_succ (h p hp).2.2
    have : 501 * qs.length ≤ 501 * 8 := Nat.mul_le_mul_left _ l
    omega
theorem tup_line {p o : Nat} {S : Store} {ds : List D} (h : ∀ x ∈ ds, Oth p o S x) (l : ds.length ≤ 8) : LineD p o S (.tup ds) := by
  obtain ⟨qs, h1, h2⟩ := oth_all h
  have := oths h2 (by rw [← h1.len]; exact l)
  exact ⟨.tuple qs, .tup h1, .inl (fine_up this.1 (by decide)), by rw [PyData.leavesShort]; exact this.2.1, by rw [PyData.weight]; omega⟩
theorem lst_line {p o n : Nat} {S : Store} {ds : List D} (hg : (hide p o S)[n]? = some (.lst true ds)) (h : ∀ x ∈ ds, Oth p o S x) (l : ds.length ≤ 8) : LineD p o S (.loc n) := by
  obtain ⟨qs, h1, h2⟩ := oth_all h
  have := oths h2 (by rw [← h1.len]; exact l)
  refine ⟨.list qs, .lst hg h1, .inl (fine_up (n := 5) ?_ (by decide)), by rw [PyData.leavesShort]; exact this.2.1, by rw [PyData.weight]; omega⟩
  simpa [fine] using this.1
theorem oth_line {p o : Nat} {S : Store} {x : D} (h : Oth p o S x) : LineD p o S x := let ⟨q, a, b⟩ := h; ⟨q, a, .inl (fine_up b.1 (by decide)), b.2.1, by have := b.2.2; omega⟩
theorem lines_ld {p o n : Nat} {S : Store} {ds : List D} (hg : (hide p o S)[n]? = some (.lst true ds)) (h : ∀ x ∈ ds, LineD p o S x) (l : ds.length ≤ 50) : ∃ ld lp, LD (hide p o S) n ld lp ∧ LShort lp := by
  have all : ∀ {ds : List D}, (∀ x ∈ ds, LineD p o S x) → ∃ qs, Shs (hide p o S) ds qs ∧ ∀ q ∈ qs, fineL q ∧ PyData.leavesShort 40 q = true ∧ q.weight ≤ 5000 := by
    intro ds
    induction ds with
    | nil => intro _; exact ⟨[], .nil, by simp⟩
    | cons d ds ih =>
      intro h
      obtain ⟨q, h1, h2⟩ := h d List.mem_cons_self
      obtain ⟨qs, g1, g2⟩ := ih fun x hx => h x (List.mem_cons_of_mem _ hx)
      refine ⟨q :: qs, .cons h1 g1, fun z hz => ?_⟩
      rcases List.mem_cons.mp hz with rfl | hz
      · exact h2
      · exact g2 z hz
  obtain ⟨qs, h1, h2⟩ := all h
  exact ⟨ds, qs, ⟨hg, h1, fun q hq => (h2 q hq).1, by rw [← h1.len]; exact l⟩, fun q hq => (h2 q hq).2⟩
theorem piece_oth {q : PyData} (h : Piece q) : OthP q := by
  have := piece_ok h
  exact ⟨fine_up this.1 (by decide), this.2.1, by omega⟩
/-- the good lines of a list -/
structure GLs (p o : Nat) (S : Store) (nl : Nat) (ld : List D) (lp : List PyData) : Prop where
  get : (hide p o S)[nl]? = some (.lst true ld)
  sh : Shs (hide p o S) ld lp
  ok : ∀ q ∈ lp, GLine q
  pos : 0 < lp.length
  len : lp.length ≤ 20
theorem GLs.kp {p o nl : Nat} {S T : Store} {ld : List D} {lp : List PyData} (h : GLs p o S nl ld lp) (k : Kp p o S T) : GLs p o T nl ld lp := ⟨k _ _ h.get, shs_mono k h.sh, h.ok, h.pos, h.len⟩
/-- one good line -/
theorem GLs.at {p o nl i : Nat} {S : Store} {ld : List D} {lp : List PyData} {d : D} (h : GLs p o S nl ld lp) (e : ld[i]? = some d) : ∃ ds qs, d = .tup ds ∧ Shs (hide p o S) ds qs ∧ (∀ q ∈ qs, Piece q) ∧ 2 ≤ ds.length ∧ ds.length ≤ 3 := by
  obtain ⟨q, hq, sq⟩ := h.sh.getD e
  have hg := h.ok q (List.mem_of_getElem? hq)
  cases hg with
  | mk ps h1 h2 h3 =>
    cases sq with
    | tup ss => exact ⟨_, ps, rfl, ss, h3, by rw [ss.len]; exact h1, by rw [ss.len]; exact h2⟩
theorem ret_op {a b : WE} {f : WO2} {G : Go} {env : Slots} {S : Store} {X : XQ} (h : a env S (fun x S1 => b env S1 (fun y S2 => f x y S2 G.rt) X) X) : wRet (wOp f a b) G env S X := h
theorem cut_mem {ds : List D} {lo hi : Option Int} {x : D} (h : x ∈ Qd.cutD ds lo hi) : x ∈ ds := by
  unfold Qd.cutD at h
  exact List.mem_of_mem_drop (List.mem_of_mem_take h)
theorem cut_le {ds : List D} {lo hi : Option Int} : (Qd.cutD ds lo hi).length ≤ ds.length := by
  unfold Qd.cutD
  rw [List.length_take, List.length_drop]
  omega
theorem GLs.line {p o nl : Nat} {S : Store} {ld : List D} {lp : List PyData} (h : GLs p o S nl ld lp) : ∀ x ∈ ld, LineD p o S x := fun x hx => by
  obtain ⟨i, hi, e⟩ := List.getElem_of_mem hx
  obtain ⟨q, hq, sq⟩ := h.sh.getD (show ld[i]? = some x by rw [List.getElem?_eq_getElem hi, e])
  have g := gline_ok (h.ok q (List.mem_of_getElem? hq))
  exact ⟨q, sq, .inl (fine_up g.1 (by decide)), g.2.1, by omega⟩
theorem small4 {a b c : List D} {x : D} {P : D → Prop} (ha : ∀ y ∈ a, P y) (hb : ∀ y ∈ b, P y) (hc : ∀ y ∈ c, P y) : ∀ y ∈ a ++ b ++ c, P y := fun y hy => by
  rcases List.mem_append.mp hy with z | z
  · rcases List.mem_append.mp z with z | z
    · exact ha y z
    · exact hb y z
  · exact hc y z
theorem spoilt_end {p o t nl a : Nat} {ld : List D} {lp : List PyData} {x : D} {S T : Store} {e : Slots} {Q : D → Store → Prop} (h1 : e[1]? = some (some (.loc nl))) (h2 : e[2]? = some (some (.int ((a : Nat) : Int)))) (h4 : e[4]? = some (some x)) (hl : GLs p o T nl ld lp) (hx : LineD p o T x) (hp : Pot T p o (t + 10)) (hk : Kp p o S T)
    (k : ∀ n' T, (∃ ld lp, LD (hide p o T) n' ld lp ∧ LShort lp) → Pot T p o (t + 10) → Kp p o S T → Q (.loc n') T) :
    wRet (wOp fAdd (wOp fAdd (wSl fSl (wVar 1) wNoPart (wPart (wVar 2))) (wLst (wCons (wVar 4) wNil))) (wSl fSl (wVar 1) (wPart (wOp fAdd (wVar 2) (wC (.int 1)))) wNoPart)) { nx := fun _ S => Q .non S, rt := Q } e T noX := by
  have hn := (hide_data hl.get (by unfold dead; exact fun z => Cell.noConfusion z)).1
  have hlt := hp.lt
  have l20 : ld.length ≤ 20 := by rw [hl.sh.len]; exact hl.len
  have c1 := cut_le (ds := ld) (lo := none) (hi := some ((a : Nat) : Int))
  have c2 := cut_le (ds := ld) (lo := some (((a : Nat) : Int) + 1)) (hi := none)
  refine ⟨_, h1, _, h2, true, ld, hn, _, h4, (show 1 ≤ lineD by decide), Qd.cutD ld none (some ((a : Nat) : Int)), [x], Sub.push _ _ last_get, last_get, Nat.le_trans (by show _ + 1 ≤ 100; omega) (by decide : (100 : Nat) ≤ lineD), ?_⟩
  refine ⟨_, h1, _, h2, true, ld, Sub.push.to.to _ _ hn, ?_⟩
  refine ⟨Qd.cutD ld none (some ((a : Nat) : Int)) ++ [x], Qd.cutD ld (some (((a : Nat) : Int) + 1)) none, Sub.push _ _ last_get, last_get, Nat.le_trans (by rw [List.length_append]; show _ + 1 + _ ≤ 100; omega) (by decide : (100 : Nat) ≤ lineD), ?_⟩
  have M : Sub T (((((T ++ [Cell.lst true (Qd.cutD ld none (some ((a : Nat) : Int)))]) ++ [Cell.lst true [x]]) ++ [Cell.lst true (Qd.cutD ld none (some ((a : Nat) : Int)) ++ [x])]) ++ [Cell.lst true (Qd.cutD ld (some (((a : Nat) : Int) + 1)) none)]) ++ [Cell.lst true (Qd.cutD ld none (some ((a : Nat) : Int)) ++ [x] ++ Qd.cutD ld (some (((a : Nat) : Int) + 1)) none)]) := Sub.push.to.to.to.to
  have kM := Kp.sub hlt.1 hlt.2 M
  refine k _ _ (lines_ld (by rw [hide_get (by simp; omega) (by simp; omega), last_get]) (small4 (x := x) (fun y hy => ((hl.line y (cut_mem hy)).kp kM)) (fun y hy => by rw [List.mem_singleton.mp hy]; exact hx.kp kM) (fun y hy => ((hl.line y (cut_mem hy)).kp kM))) ?_) (hp.sub M) (hk.trans kM)
  rw [List.length_append, List.length_append]
  show _ + 1 + _ ≤ 50
  omega
section
variable {P : Program} {w : World} {K : PySem.W.Frag} {mg : Str → Option Value} {base : Heap}
def cSpoilt : Con := fun ds S Q _ => ∃ (p o t nl : Nat) (ld : List D) (lp : List PyData), ds = [.loc p, .loc nl] ∧ GLs p o S nl ld lp ∧ Pot S p o t ∧ t ≤ 10 ^ 5 ∧ ∀ n' T, (∃ ld lp, LD (hide p o T) n' ld lp ∧ LShort lp) → Pot T p o (t + 10) → Kp p o S T → Q (.loc n') T
abbrev s__law_spoilt : Stmt := topS 35
theorem sc__law_spoilt : FnScope ["pot", "lines", "at", "way", "line", "k"] ["pot", "lines"] (defScope s__law_spoilt) := ⟨rfl, rfl, rfl, by decide +kernel, rfl, by decide +kernel, by decide +kernel⟩
theorem ok__law_spoilt {f : Addr} {fd : FuncData} (F : Fun K "_law_spoilt" "_law_spoilt" s__law_spoilt f fd) (hm : mg "_law_spoilt" = some (.ref f)) (hb : Binds K fd ["pot", "lines"] []) (B : Blt mg) (C__law_take : Fn P w K mg base 1 "_law_take" cTake []) (C__law_pick : Fn P w K mg base 2 "_law_pick" cPick []) (C__law_other : Fn P w K mg base 3 "_law_other" cOther []) : Fn P w K mg base 4 "_law_spoilt" cSpoilt [] := by
  refine defQ F hm hb .nil sc__law_spoilt (fun ds S Q X ⟨_, _, _, _, _, _, e, _⟩ => by rw [e]; rfl) fun cdv A outer s H hr => ?_
  have hu1 := hu_of hr; have hu64 := hr.units
  refine ⟨_, (qs_cons (q_par (i := 2) (j := 3) rfl sc__law_spoilt.nd rfl rfl (by decide) rfl rfl (q_c (dds := []) C__law_take hr (by first | decide | omega) (by rfl) (qa_cons (qv 0) (qa_cons (q_cb call_len ro_len (by rfl) B.len (by decide +kernel) (qa_cons (qv 1) qa_nil)) qa_nil))) (q_c (dds := []) C__law_take hr (by first | decide | omega) (by rfl) (qa_cons (qv 0) (qa_cons q_int qa_nil))) (by rfl))
      (qs_cons (q_set (i := 4) sc__law_spoilt.nd rfl (.inl rfl) (q_ix ix_seq ro_ix (qv 1) (qv 2)))
      (qs_cons (q_if (qt_cmp op_lt ro_cmp (qv 3) q_int (nomark _)) (qs_cons (q_set (i := 5) sc__law_spoilt.nd rfl (.inl rfl) (q_c (dds := []) C__law_take hr (by first | decide | omega) (by rfl) (qa_cons (qv 0) (qa_cons (q_cb call_len ro_len (by rfl) B.len (by decide +kernel) (qa_cons (qv 4) qa_nil)) qa_nil))))
      (qs_one (q_set (i := 4) sc__law_spoilt.nd rfl (.inl rfl) (q_op op_add4 ro_add (q_op op_add4 ro_add (q_sl sl_3 ro_sl (qv 4) qo_none (qo_some (qv 5))) (q_tup (qa_cons (q_c (dds := []) C__law_other hr (by first | decide | omega) (by rfl) (qa_cons (qv 0) (qa_cons (q_ix ix_seq ro_ix (qv 4) (qv 5)) (qa_cons (q_cb call_len ro_len (by rfl) B.len (by decide +kernel) (qa_cons (qv 1) qa_nil)) qa_nil)))) qa_nil))) (q_sl sl_3 ro_sl (qv 4) (qo_some (q_op op_add4 ro_add (qv 5) q_int)) qo_none))))) (qs_one (q_if (qt_cmp (op_eq2 hu64) ro_eq (qv 3) q_int (nomark _)) (qs_cons (q_set (i := 5) sc__law_spoilt.nd rfl (.inl rfl) (q_c (dds := []) C__law_take hr (by first | decide | omega) (by rfl) (qa_cons (qv 0) (qa_cons (q_op op_add4 ro_add (q_cb call_len ro_len (by rfl) B.len (by decide +kernel) (qa_cons (qv 4) qa_nil)) q_int) qa_nil))))
      (qs_one (q_set (i := 4) sc__law_spoilt.nd rfl (.inl rfl) (q_op op_add4 ro_add (q_op op_add4 ro_add (q_sl sl_3 ro_sl (qv 4) qo_none (qo_some (qv 5))) (q_tup (qa_cons (q_c (dds := []) C__law_pick hr (by first | decide | omega) (by rfl) (qa_cons (qv 0) (qa_cons (q_op op_add4 ro_add (q_ct call_list_of ro_list (by rfl) B.list (by decide +kernel) (qa_cons (qv 4) qa_nil)) (q_lst (qa_cons q_int (qa_cons (q_tup qa_nil) qa_nil)))) qa_nil))) qa_nil))) (q_sl sl_3 ro_sl (qv 4) (qo_some (qv 5)) qo_none))))) (qs_one (q_if (qt_cmp (op_eq2 hu64) ro_eq (qv 3) q_int (nomark _)) (qs_cons (q_set (i := 5) sc__law_spoilt.nd rfl (.inl rfl) (q_c (dds := []) C__law_take hr (by first | decide | omega) (by rfl) (qa_cons (qv 0) (qa_cons (q_cb call_len ro_len (by rfl) B.len (by decide +kernel) (qa_cons (qv 4) qa_nil)) qa_nil))))
      (qs_one (q_set (i := 4) sc__law_spoilt.nd rfl (.inl rfl) (q_op op_add4 ro_add (q_sl sl_3 ro_sl (qv 4) qo_none (qo_some (qv 5))) (q_sl sl_3 ro_sl (qv 4) (qo_some (q_op op_add4 ro_add (qv 5) q_int)) qo_none))))) (qs_one (q_if (qt_cmp (op_eq2 hu64) ro_eq (qv 3) q_int (nomark _)) (qs_one (q_set (i := 4) sc__law_spoilt.nd rfl (.inl rfl) (q_tup (qa_cons q_str (qa_cons (q_c (dds := []) C__law_take hr (by first | decide | omega) (by rfl) (qa_cons (qv 0) (qa_cons (q_cb call_len ro_len (by rfl) B.len (by decide +kernel) (qa_cons (qv 1) qa_nil)) qa_nil))) (qa_cons (q_c (dds := []) C__law_take hr (by first | decide | omega) (by rfl) (qa_cons (qv 0) (qa_cons (q_cb call_len ro_len (by rfl) B.len (by decide +kernel) (qa_cons (qv 1) qa_nil)) qa_nil))) qa_nil)))))) (qs_one (q_if (qt_cmp (op_eq2 hu64) ro_eq (qv 3) q_int (nomark _)) (qs_one (q_ret (q_ix ix_seq ro_ix (q_lst (qa_cons (q_op op_add4 ro_add (q_sl sl_3 ro_sl (qv 1) qo_none (qo_some (qv 2))) (q_sl sl_3 ro_sl (qv 1) (qo_some (q_op op_add4 ro_add (qv 2) q_int)) qo_none)) (qa_cons (q_op op_add4 ro_add (qv 1) (q_lst (qa_cons (qv 4) qa_nil))) (qa_cons (q_op op_add4 ro_add (q_op op_add4 ro_add (q_sl sl_3 ro_sl (qv 1) qo_none (qo_some (qv 2))) (q_lst (qa_cons (qv 4) qa_nil))) (q_sl sl_3 ro_sl (qv 1) (qo_some (qv 2)) qo_none)) (qa_cons (q_rev (qv 1)) qa_nil))))) (q_c (dds := []) C__law_take hr (by first | decide | omega) (by rfl) (qa_cons (qv 0) (qa_cons q_int qa_nil)))))) (qs_one (q_set (i := 4) sc__law_spoilt.nd rfl (.inl rfl) (q_c (dds := []) C__law_pick hr (by first | decide | omega) (by rfl) (qa_cons (qv 0) (qa_cons (q_lst (qa_cons (q_ct call_list_of ro_list (by rfl) B.list (by decide +kernel) (qa_cons (qv 4) qa_nil)) (qa_cons (q_tup (qa_cons (qv 4) qa_nil)) (qa_cons q_non (qa_cons q_str (qa_cons (q_ix ix_seq ro_ix (qv 4) q_int) (qa_cons q_dnewK (qa_cons (q_op op_add4 ro_add (qv 4) (q_sl sl_3 ro_sl (qv 4) (qo_some q_int) qo_none)) qa_nil)))))))) qa_nil))))))))))))))
      (qs_one (q_ret (q_op op_add4 ro_add (q_op op_add4 ro_add (q_sl sl_3 ro_sl (qv 1) qo_none (qo_some (qv 2))) (q_lst (qa_cons (qv 4) qa_nil))) (q_sl sl_3 ro_sl (qv 1) (qo_some (q_op op_add4 ro_add (qv 2) q_int)) qo_none))))))), fun ds S Q X h => ?_⟩
  obtain ⟨p, o, t, nl, ld, lp, rfl, hl, hp, ht, k⟩ := h
  have l20 : ld.length ≤ 20 := by rw [hl.sh.len]; exact hl.len
  have lpos : 0 < ld.length := by rw [hl.sh.len]; exact hl.pos
  have hn := (hide_data hl.get (by unfold dead; exact fun z => Cell.noConfusion z)).1
  refine ⟨_, rfl, _, rfl, true, ld, hn, p, o, t, ld.length, rfl, lpos, by omega, hp, by omega, fun a T1 ha hp1 hk1 => ?_⟩
  refine ⟨_, rfl, p, o, t + 1, 9, rfl, by decide, by decide, hp1, by omega, fun way T2 hw hp2 hk2 => ?_⟩
  have hk02 := hk1.trans hk2
  have hl2 := hl.kp hk02
  have hn2 := (hide_data hl2.get (by unfold dead; exact fun z => Cell.noConfusion z)).1
  have hla : ld[a]? = some ld[a] := List.getElem?_eq_getElem ha
  obtain ⟨ds, qs, hd, ss, hqs, hd2, hd3⟩ := hl2.at hla
  rw [hd] at hla
  dsimp only
  refine seq_set ⟨_, rfl, _, rfl, true, ld, _, hn2, atN hla, ?_⟩
  have hqo : ∀ {T : Store}, Kp p o T2 T → ∀ x ∈ ds, Oth p o T x := fun hk x hx => by
    obtain ⟨i, hi, e⟩ := List.getElem_of_mem hx
    obtain ⟨q, hq, sq⟩ := ss.getD (show ds[i]? = some x by rw [List.getElem?_eq_getElem hi, e])
    exact ⟨q, sh_mono hk sq, piece_oth (hqs q (List.mem_of_getElem? hq))⟩
  refine ⟨_, rfl, ?_⟩
  show if decide (((way : Nat) : Int) < 4) = true then _ else _
  refine iteB (fun _ => ?_) fun _ => ?_
  · refine seq_set ⟨_, rfl, _, rfl, p, o, t + 2, ds.length, rfl, by omega, by omega, hp2, by omega, fun j T3 hj hp3 hk3 => ?_⟩
    have hl3 := hl2.kp hk3
    have hn3 := (hide_data hl3.get (by unfold dead; exact fun z => Cell.noConfusion z)).1
    obtain ⟨qj, hqj, sj⟩ := ss.getD (List.getElem?_eq_getElem hj)
    refine ⟨_, rfl, _, rfl, _, rfl, _, rfl, _, rfl, _, atN (List.getElem?_eq_getElem hj), _, rfl, true, ld, hn3, p, o, t + 3, ld.length, ds[j], qj, rfl, sh_mono hk3 sj, hqs qj (List.mem_of_getElem? hqj), by omega, hp3, by omega, fun x T4 hx hp4 hk4 => ⟨(show 1 ≤ lineD by decide), ?_⟩⟩
    have c1 := cut_le (ds := ds) (lo := none) (hi := some ((j : Nat) : Int))
    have c2 := cut_le (ds := ds) (lo := some (((j : Nat) : Int) + 1)) (hi := none)
    refine ⟨Nat.le_trans (by show _ + 1 ≤ 100; omega) (by decide : (100 : Nat) ≤ lineD), _, rfl, _, rfl, Nat.le_trans (by rw [List.length_append]; show _ + 1 + _ ≤ 100; omega) (by decide : (100 : Nat) ≤ lineD), ?_⟩
    refine spoilt_end (a := a) rfl rfl rfl (hl3.kp hk4) (tup_line (small4 (x := x) (fun y hy => hqo (hk3.trans hk4) y (cut_mem hy)) (fun y hy => by rw [List.mem_singleton.mp hy]; exact hx) (fun y hy => hqo (hk3.trans hk4) y (cut_mem hy))) ?_) (hp4.up (by omega)) ((hk02.trans hk3).trans hk4) k
    rw [List.length_append, List.length_append]
    show _ + 1 + _ ≤ 8
    omega
  · refine ⟨_, rfl, ?_⟩
    show if decide (((way : Nat) : Int) = 4) = true then _ else _
    refine iteB (fun _ => ?_) fun _ => ?_
    · refine seq_set ⟨_, rfl, _, rfl, p, o, t + 2, ds.length + 1, by simp, by omega, by omega, hp2, by omega, fun j T3 hj hp3 hk3 => ?_⟩
      have hl3' := hp3.lt
      have c1 := cut_le (ds := ds) (lo := none) (hi := some ((j : Nat) : Int))
      have c2 := cut_le (ds := ds) (lo := some ((j : Nat) : Int)) (hi := none)
      refine ⟨_, rfl, _, rfl, _, rfl, _, rfl, (show 0 ≤ lineD by decide), (show 2 ≤ lineD by decide), ds, [.int 0, .tup []], Sub.push _ _ last_get, last_get, Nat.le_trans (by show _ + 2 ≤ 100; omega) (by decide : (100 : Nat) ≤ lineD), ?_⟩
      have M : Sub T3 (((T3 ++ [Cell.lst true ds]) ++ [Cell.lst true [D.int 0, .tup []]]) ++ [Cell.lst true (ds ++ [D.int 0, .tup []])]) := Sub.push.to.to
      have kM := Kp.sub hl3'.1 hl3'.2 M
      refine ⟨p, o, t + 3, _, ds ++ [.int 0, .tup []], rfl, .inl ⟨_, rfl, by rw [hide_get (by simp; omega) (by simp; omega), last_get]⟩, by simp, by simp; omega, hp3.sub M, by omega, fun i x T4 hx hp4 hk4 => ⟨(show 1 ≤ lineD by decide), ?_⟩⟩
      have k24 := (hk3.trans kM).trans hk4
      have hxo : Oth p o T4 x := by
        rcases List.mem_append.mp (List.mem_of_getElem? hx) with z | z
        · exact hqo k24 x z
        · simp at z
          rcases z with rfl | rfl
          · exact ⟨.int 0, .int 0, int_oth (by decide)⟩
          · exact ⟨.tuple [], .tup .nil, el_tup (by simp) (by simp)⟩
      refine ⟨Nat.le_trans (by show _ + 1 ≤ 100; omega) (by decide : (100 : Nat) ≤ lineD), _, rfl, _, rfl, Nat.le_trans (by rw [List.length_append]; show _ + 1 + _ ≤ 100; omega) (by decide : (100 : Nat) ≤ lineD), ?_⟩
      refine spoilt_end (a := a) rfl rfl rfl (hl2.kp k24) (tup_line (small4 (x := x) (fun y hy => hqo k24 y (cut_mem hy)) (fun y hy => by rw [List.mem_singleton.mp hy]; exact hxo) (fun y hy => hqo k24 y (cut_mem hy))) ?_) (hp4.up (by omega)) (hk02.trans k24) k
      rw [List.length_append, List.length_append]
      show _ + 1 + _ ≤ 8
      omega
    · refine ⟨_, rfl, ?_⟩
      show if decide (((way : Nat) : Int) = 5) = true then _ else _
      refine iteB (fun _ => ?_) fun _ => ?_
      · refine seq_set ⟨_, rfl, _, rfl, p, o, t + 2, ds.length, rfl, by omega, by omega, hp2, by omega, fun j T3 hj hp3 hk3 => ?_⟩
        have c1 := cut_le (ds := ds) (lo := none) (hi := some ((j : Nat) : Int))
        have c2 := cut_le (ds := ds) (lo := some (((j : Nat) : Int) + 1)) (hi := none)
        refine ⟨_, rfl, _, rfl, _, rfl, _, rfl, Nat.le_trans (by show _ + _ ≤ 100; omega) (by decide : (100 : Nat) ≤ lineD), ?_⟩
        refine spoilt_end (a := a) rfl rfl rfl (hl2.kp hk3) (tup_line (fun y hy => ?_) ?_) (hp3.up (by omega)) (hk02.trans hk3) k
        · rcases List.mem_append.mp hy with z | z
          · exact hqo hk3 y (cut_mem z)
          · exact hqo hk3 y (cut_mem z)
        · rw [List.length_append]; omega
      · refine ⟨_, rfl, ?_⟩
        show if decide (((way : Nat) : Int) = 6) = true then _ else _
        refine iteB (fun _ => ?_) fun _ => ?_
        · refine ⟨_, rfl, _, rfl, true, ld, hn2, p, o, t + 2, ld.length, rfl, by omega, by omega, hp2, by omega, fun i T3 hi hp3 hk3 => ?_⟩
          have hn3 := (hide_data (hl2.kp hk3).get (by unfold dead; exact fun z => Cell.noConfusion z)).1
          refine ⟨_, rfl, _, rfl, true, ld, hn3, p, o, t + 3, ld.length, rfl, by omega, by omega, hp3, by omega, fun j T4 hj hp4 hk4 => ⟨(show 3 ≤ lineD by decide), ?_⟩⟩
          refine spoilt_end (a := a) rfl rfl rfl (hl2.kp (hk3.trans hk4)) (tup_line (fun y hy => ?_) (by show 3 ≤ 8; decide)) (hp4.up (by omega)) ((hk02.trans hk3).trans hk4) k
          simp at hy
          rcases hy with rfl | rfl | rfl
          · exact strOne (by decide +kernel) (by decide)
          · exact ⟨.int _, .int _, int_oth (by rw [Int.natAbs_natCast]; exact Nat.lt_trans (by omega : i < 100) (by decide))⟩
          · exact ⟨.int _, .int _, int_oth (by rw [Int.natAbs_natCast]; exact Nat.lt_trans (by omega : j < 100) (by decide))⟩
        · refine ⟨_, rfl, ?_⟩
          show if decide (((way : Nat) : Int) = 7) = true then _ else _
          refine iteB (fun _ => ?_) fun _ => ?_
          · have hl2' := hp2.lt
            have c1 := cut_le (ds := ld) (lo := none) (hi := some ((a : Nat) : Int))
            have c2 := cut_le (ds := ld) (lo := some (((a : Nat) : Int) + 1)) (hi := none)
            have c3 := cut_le (ds := ld) (lo := some ((a : Nat) : Int)) (hi := none)
            have big : ∀ n : Nat, n ≤ 100 → n ≤ lineD := fun n h => Nat.le_trans h (by decide)
            have hdl : D.tup ds ∈ ld := List.mem_of_getElem? hla
            have ln : ∀ n : Nat, n ≤ 100 → n ≤ lineD := fun n h => Nat.le_trans h (by decide)
            refine ret_op (lst4 ⟨_, rfl, _, rfl, true, ld, hn2, _, rfl, _, rfl, true, ld, (Sub.push : Sub T2 _) _ _ hn2, (Qd.cutD ld none (some ((a : Nat) : Int))), (Qd.cutD ld (some (((a : Nat) : Int) + 1)) none), Sub.push _ _ last_get, last_get, ln _ (by omega), ?_⟩)
            refine ⟨_, rfl, _, rfl, (show 1 ≤ lineD by decide), ld, [D.tup ds], (Sub.push.to.to.to : Sub T2 _) _ _ hn2, last_get, ln _ (by show _ + 1 ≤ 100; omega), ?_⟩
            refine ⟨_, rfl, _, rfl, true, ld, (Sub.push.to.to.to.to : Sub T2 _) _ _ hn2, _, rfl, (show 1 ≤ lineD by decide), (Qd.cutD ld none (some ((a : Nat) : Int))), [D.tup ds], Sub.push _ _ last_get, last_get, ln _ (by show _ + 1 ≤ 100; omega), ?_⟩
            refine ⟨_, rfl, _, rfl, true, ld, (Sub.push.to.to.to.to.to.to.to : Sub T2 _) _ _ hn2, (Qd.cutD ld none (some ((a : Nat) : Int))) ++ [D.tup ds], (Qd.cutD ld (some ((a : Nat) : Int)) none), Sub.push _ _ last_get, last_get, ln _ (by rw [List.length_append]; show _ + 1 + _ ≤ 100; omega), ?_⟩
            refine ⟨_, rfl, true, ld, (Sub.push.to.to.to.to.to.to.to.to.to : Sub T2 _) _ _ hn2, (show 4 ≤ lineD by decide), ?_⟩
            obtain ⟨F, hF⟩ : ∃ F, F = (((((((((((T2 ++ [Cell.lst true (Qd.cutD ld none (some ((a : Nat) : Int)))]) ++ [Cell.lst true (Qd.cutD ld (some (((a : Nat) : Int) + 1)) none)]) ++ [Cell.lst true ((Qd.cutD ld none (some ((a : Nat) : Int))) ++ (Qd.cutD ld (some (((a : Nat) : Int) + 1)) none))]) ++ [Cell.lst true [D.tup ds]]) ++ [Cell.lst true (ld ++ [D.tup ds])]) ++ [Cell.lst true (Qd.cutD ld none (some ((a : Nat) : Int)))]) ++ [Cell.lst true [D.tup ds]]) ++ [Cell.lst true ((Qd.cutD ld none (some ((a : Nat) : Int))) ++ [D.tup ds])]) ++ [Cell.lst true (Qd.cutD ld (some ((a : Nat) : Int)) none)]) ++ [Cell.lst true ((Qd.cutD ld none (some ((a : Nat) : Int))) ++ [D.tup ds] ++ (Qd.cutD ld (some ((a : Nat) : Int)) none))]) ++ [Cell.lst true ld.reverse]) ++ [Cell.lst true [(D.loc ((T2 ++ [Cell.lst true (Qd.cutD ld none (some ((a : Nat) : Int)))]) ++ [Cell.lst true (Qd.cutD ld (some (((a : Nat) : Int) + 1)) none)]).length), (D.loc ((((T2 ++ [Cell.lst true (Qd.cutD ld none (some ((a : Nat) : Int)))]) ++ [Cell.lst true (Qd.cutD ld (some (((a : Nat) : Int) + 1)) none)]) ++ [Cell.lst true ((Qd.cutD ld none (some ((a : Nat) : Int))) ++ (Qd.cutD ld (some (((a : Nat) : Int) + 1)) none))]) ++ [Cell.lst true [D.tup ds]]).length), (D.loc (((((((((T2 ++ [Cell.lst true (Qd.cutD ld none (some ((a : Nat) : Int)))]) ++ [Cell.lst true (Qd.cutD ld (some (((a : Nat) : Int) + 1)) none)]) ++ [Cell.lst true ((Qd.cutD ld none (some ((a : Nat) : Int))) ++ (Qd.cutD ld (some (((a : Nat) : Int) + 1)) none))]) ++ [Cell.lst true [D.tup ds]]) ++ [Cell.lst true (ld ++ [D.tup ds])]) ++ [Cell.lst true (Qd.cutD ld none (some ((a : Nat) : Int)))]) ++ [Cell.lst true [D.tup ds]]) ++ [Cell.lst true ((Qd.cutD ld none (some ((a : Nat) : Int))) ++ [D.tup ds])]) ++ [Cell.lst true (Qd.cutD ld (some ((a : Nat) : Int)) none)]).length), (D.loc ((((((((((T2 ++ [Cell.lst true (Qd.cutD ld none (some ((a : Nat) : Int)))]) ++ [Cell.lst true (Qd.cutD ld (some (((a : Nat) : Int) + 1)) none)]) ++ [Cell.lst true ((Qd.cutD ld none (some ((a : Nat) : Int))) ++ (Qd.cutD ld (some (((a : Nat) : Int) + 1)) none))]) ++ [Cell.lst true [D.tup ds]]) ++ [Cell.lst true (ld ++ [D.tup ds])]) ++ [Cell.lst true (Qd.cutD ld none (some ((a : Nat) : Int)))]) ++ [Cell.lst true [D.tup ds]]) ++ [Cell.lst true ((Qd.cutD ld none (some ((a : Nat) : Int))) ++ [D.tup ds])]) ++ [Cell.lst true (Qd.cutD ld (some ((a : Nat) : Int)) none)]) ++ [Cell.lst true ((Qd.cutD ld none (some ((a : Nat) : Int))) ++ [D.tup ds] ++ (Qd.cutD ld (some ((a : Nat) : Int)) none))]).length)]] := ⟨_, rfl⟩
            have M : Sub T2 F := by rw [hF]; exact Sub.push.to.to.to.to.to.to.to.to.to.to.to
            have g1 : F[((T2 ++ [Cell.lst true (Qd.cutD ld none (some ((a : Nat) : Int)))]) ++ [Cell.lst true (Qd.cutD ld (some (((a : Nat) : Int) + 1)) none)]).length]? = some (.lst true ((Qd.cutD ld none (some ((a : Nat) : Int))) ++ (Qd.cutD ld (some (((a : Nat) : Int) + 1)) none))) := by rw [hF]; exact (Sub.push.to.to.to.to.to.to.to.to : Sub _ _) _ _ last_get
            have g2 : F[((((T2 ++ [Cell.lst true (Qd.cutD ld none (some ((a : Nat) : Int)))]) ++ [Cell.lst true (Qd.cutD ld (some (((a : Nat) : Int) + 1)) none)]) ++ [Cell.lst true ((Qd.cutD ld none (some ((a : Nat) : Int))) ++ (Qd.cutD ld (some (((a : Nat) : Int) + 1)) none))]) ++ [Cell.lst true [D.tup ds]]).length]? = some (.lst true (ld ++ [D.tup ds])) := by rw [hF]; exact (Sub.push.to.to.to.to.to.to : Sub _ _) _ _ last_get
            have g3 : F[(((((((((T2 ++ [Cell.lst true (Qd.cutD ld none (some ((a : Nat) : Int)))]) ++ [Cell.lst true (Qd.cutD ld (some (((a : Nat) : Int) + 1)) none)]) ++ [Cell.lst true ((Qd.cutD ld none (some ((a : Nat) : Int))) ++ (Qd.cutD ld (some (((a : Nat) : Int) + 1)) none))]) ++ [Cell.lst true [D.tup ds]]) ++ [Cell.lst true (ld ++ [D.tup ds])]) ++ [Cell.lst true (Qd.cutD ld none (some ((a : Nat) : Int)))]) ++ [Cell.lst true [D.tup ds]]) ++ [Cell.lst true ((Qd.cutD ld none (some ((a : Nat) : Int))) ++ [D.tup ds])]) ++ [Cell.lst true (Qd.cutD ld (some ((a : Nat) : Int)) none)]).length]? = some (.lst true ((Qd.cutD ld none (some ((a : Nat) : Int))) ++ [D.tup ds] ++ (Qd.cutD ld (some ((a : Nat) : Int)) none))) := by rw [hF]; exact (Sub.push.to : Sub _ _) _ _ last_get
            have g4 : F[((((((((((T2 ++ [Cell.lst true (Qd.cutD ld none (some ((a : Nat) : Int)))]) ++ [Cell.lst true (Qd.cutD ld (some (((a : Nat) : Int) + 1)) none)]) ++ [Cell.lst true ((Qd.cutD ld none (some ((a : Nat) : Int))) ++ (Qd.cutD ld (some (((a : Nat) : Int) + 1)) none))]) ++ [Cell.lst true [D.tup ds]]) ++ [Cell.lst true (ld ++ [D.tup ds])]) ++ [Cell.lst true (Qd.cutD ld none (some ((a : Nat) : Int)))]) ++ [Cell.lst true [D.tup ds]]) ++ [Cell.lst true ((Qd.cutD ld none (some ((a : Nat) : Int))) ++ [D.tup ds])]) ++ [Cell.lst true (Qd.cutD ld (some ((a : Nat) : Int)) none)]) ++ [Cell.lst true ((Qd.cutD ld none (some ((a : Nat) : Int))) ++ [D.tup ds] ++ (Qd.cutD ld (some ((a : Nat) : Int)) none))]).length]? = some (.lst true ld.reverse) := by rw [hF]; exact (Sub.push : Sub _ _) _ _ last_get
            have g5 : F[(((((((((((T2 ++ [Cell.lst true (Qd.cutD ld none (some ((a : Nat) : Int)))]) ++ [Cell.lst true (Qd.cutD ld (some (((a : Nat) : Int) + 1)) none)]) ++ [Cell.lst true ((Qd.cutD ld none (some ((a : Nat) : Int))) ++ (Qd.cutD ld (some (((a : Nat) : Int) + 1)) none))]) ++ [Cell.lst true [D.tup ds]]) ++ [Cell.lst true (ld ++ [D.tup ds])]) ++ [Cell.lst true (Qd.cutD ld none (some ((a : Nat) : Int)))]) ++ [Cell.lst true [D.tup ds]]) ++ [Cell.lst true ((Qd.cutD ld none (some ((a : Nat) : Int))) ++ [D.tup ds])]) ++ [Cell.lst true (Qd.cutD ld (some ((a : Nat) : Int)) none)]) ++ [Cell.lst true ((Qd.cutD ld none (some ((a : Nat) : Int))) ++ [D.tup ds] ++ (Qd.cutD ld (some ((a : Nat) : Int)) none))]) ++ [Cell.lst true ld.reverse]).length]? = some (.lst true [(D.loc ((T2 ++ [Cell.lst true (Qd.cutD ld none (some ((a : Nat) : Int)))]) ++ [Cell.lst true (Qd.cutD ld (some (((a : Nat) : Int) + 1)) none)]).length), (D.loc ((((T2 ++ [Cell.lst true (Qd.cutD ld none (some ((a : Nat) : Int)))]) ++ [Cell.lst true (Qd.cutD ld (some (((a : Nat) : Int) + 1)) none)]) ++ [Cell.lst true ((Qd.cutD ld none (some ((a : Nat) : Int))) ++ (Qd.cutD ld (some (((a : Nat) : Int) + 1)) none))]) ++ [Cell.lst true [D.tup ds]]).length), (D.loc (((((((((T2 ++ [Cell.lst true (Qd.cutD ld none (some ((a : Nat) : Int)))]) ++ [Cell.lst true (Qd.cutD ld (some (((a : Nat) : Int) + 1)) none)]) ++ [Cell.lst true ((Qd.cutD ld none (some ((a : Nat) : Int))) ++ (Qd.cutD ld (some (((a : Nat) : Int) + 1)) none))]) ++ [Cell.lst true [D.tup ds]]) ++ [Cell.lst true (ld ++ [D.tup ds])]) ++ [Cell.lst true (Qd.cutD ld none (some ((a : Nat) : Int)))]) ++ [Cell.lst true [D.tup ds]]) ++ [Cell.lst true ((Qd.cutD ld none (some ((a : Nat) : Int))) ++ [D.tup ds])]) ++ [Cell.lst true (Qd.cutD ld (some ((a : Nat) : Int)) none)]).length), (D.loc ((((((((((T2 ++ [Cell.lst true (Qd.cutD ld none (some ((a : Nat) : Int)))]) ++ [Cell.lst true (Qd.cutD ld (some (((a : Nat) : Int) + 1)) none)]) ++ [Cell.lst true ((Qd.cutD ld none (some ((a : Nat) : Int))) ++ (Qd.cutD ld (some (((a : Nat) : Int) + 1)) none))]) ++ [Cell.lst true [D.tup ds]]) ++ [Cell.lst true (ld ++ [D.tup ds])]) ++ [Cell.lst true (Qd.cutD ld none (some ((a : Nat) : Int)))]) ++ [Cell.lst true [D.tup ds]]) ++ [Cell.lst true ((Qd.cutD ld none (some ((a : Nat) : Int))) ++ [D.tup ds])]) ++ [Cell.lst true (Qd.cutD ld (some ((a : Nat) : Int)) none)]) ++ [Cell.lst true ((Qd.cutD ld none (some ((a : Nat) : Int))) ++ [D.tup ds] ++ (Qd.cutD ld (some ((a : Nat) : Int)) none))]).length)]) := by rw [hF]; exact last_get
            have kM := Kp.sub hl2'.1 hl2'.2 M
            have hpF := hp2.sub M
            have pick : ∀ (n' : Nat) (vs : List D) (T : Store), T2.length ≤ n' → F[n']? = some (.lst true vs) → (∀ y ∈ vs, y ∈ ld) → vs.length ≤ 50 → Pot T p o (t + 3) → Kp p o F T → Q (.loc n') T := fun n' vs T h1 h2 h3 h4 h5 h6 => by
              have kk := kM.trans h6
              refine k n' T (lines_ld (h6 _ _ (show (hide p o F)[n']? = some (.lst true vs) by rw [hide_get (by omega) (by omega)]; exact h2)) (fun y hy => (hl2.line y (h3 y hy)).kp kk) h4) (h5.up (by omega)) (hk02.trans kk)
            have first : ∀ y ∈ [D.tup ds], y ∈ ld := fun y hy => by rw [List.mem_singleton.mp hy]; exact hdl
            have fin : ∀ (r : Nat) (T : Store), r < 4 → Pot T p o (t + 3) → Kp p o F T → fIx (.loc (((((((((((T2 ++ [Cell.lst true (Qd.cutD ld none (some ((a : Nat) : Int)))]) ++ [Cell.lst true (Qd.cutD ld (some (((a : Nat) : Int) + 1)) none)]) ++ [Cell.lst true ((Qd.cutD ld none (some ((a : Nat) : Int))) ++ (Qd.cutD ld (some (((a : Nat) : Int) + 1)) none))]) ++ [Cell.lst true [D.tup ds]]) ++ [Cell.lst true (ld ++ [D.tup ds])]) ++ [Cell.lst true (Qd.cutD ld none (some ((a : Nat) : Int)))]) ++ [Cell.lst true [D.tup ds]]) ++ [Cell.lst true ((Qd.cutD ld none (some ((a : Nat) : Int))) ++ [D.tup ds])]) ++ [Cell.lst true (Qd.cutD ld (some ((a : Nat) : Int)) none)]) ++ [Cell.lst true ((Qd.cutD ld none (some ((a : Nat) : Int))) ++ [D.tup ds] ++ (Qd.cutD ld (some ((a : Nat) : Int)) none))]) ++ [Cell.lst true ld.reverse]).length) (.int ((r : Nat) : Int)) T Q := fun r T hr hpT hkT => by
              have g5T := (hide_data (hkT _ _ (show (hide p o F)[(((((((((((T2 ++ [Cell.lst true (Qd.cutD ld none (some ((a : Nat) : Int)))]) ++ [Cell.lst true (Qd.cutD ld (some (((a : Nat) : Int) + 1)) none)]) ++ [Cell.lst true ((Qd.cutD ld none (some ((a : Nat) : Int))) ++ (Qd.cutD ld (some (((a : Nat) : Int) + 1)) none))]) ++ [Cell.lst true [D.tup ds]]) ++ [Cell.lst true (ld ++ [D.tup ds])]) ++ [Cell.lst true (Qd.cutD ld none (some ((a : Nat) : Int)))]) ++ [Cell.lst true [D.tup ds]]) ++ [Cell.lst true ((Qd.cutD ld none (some ((a : Nat) : Int))) ++ [D.tup ds])]) ++ [Cell.lst true (Qd.cutD ld (some ((a : Nat) : Int)) none)]) ++ [Cell.lst true ((Qd.cutD ld none (some ((a : Nat) : Int))) ++ [D.tup ds] ++ (Qd.cutD ld (some ((a : Nat) : Int)) none))]) ++ [Cell.lst true ld.reverse]).length]? = _ by rw [hide_get (by simp; omega) (by simp; omega)]; exact g5)) (by unfold dead; exact fun z => Cell.noConfusion z)).1
              have : r = 0 ∨ r = 1 ∨ r = 2 ∨ r = 3 := by omega
              rcases this with rfl | rfl | rfl | rfl
              · exact ⟨true, _, _, g5T, atN (k := 0) rfl, pick _ _ T (by simp) g1 (fun y hy => by
                  rcases List.mem_append.mp hy with z | z
                  · exact cut_mem z
                  · exact cut_mem z) (by rw [List.length_append]; omega) hpT hkT⟩
              · exact ⟨true, _, _, g5T, atN (k := 1) rfl, pick _ _ T (by simp) g2 (fun y hy => by
                  rcases List.mem_append.mp hy with z | z
                  · exact z
                  · exact first y z) (by rw [List.length_append]; show _ + 1 ≤ 50; omega) hpT hkT⟩
              · exact ⟨true, _, _, g5T, atN (k := 2) rfl, pick _ _ T (by simp) g3 (fun y hy => by
                  rcases List.mem_append.mp hy with z | z
                  · rcases List.mem_append.mp z with z | z
                    · exact cut_mem z
                    · exact first y z
                  · exact cut_mem z) (by rw [List.length_append, List.length_append]; show _ + 1 + _ ≤ 50; omega) hpT hkT⟩
              · exact ⟨true, _, _, g5T, atN (k := 3) rfl, pick _ _ T (by simp) g4 (fun y hy => List.mem_reverse.mp hy) (by rw [List.length_reverse]; omega) hpT hkT⟩
            subst hF
            exact ⟨_, rfl, p, o, t + 2, 4, rfl, by decide, by decide, hpF, by omega, fun r T hr hpT hkT => fin r T hr hpT hkT⟩
          · have hl2' := hp2.lt
            have h0 : 0 < ds.length := by omega
            have c1 := cut_le (ds := ds) (lo := some 1) (hi := none)
            have d0 : ds[0]? = some ds[0] := List.getElem?_eq_getElem h0
            refine set_by ⟨_, rfl, _, rfl, _, rfl, (show 1 ≤ lineD by decide), _, rfl, _, atN (k := 0) d0, _, rfl, _, rfl, Nat.le_trans (by omega : _ ≤ 100) (by decide : (100 : Nat) ≤ lineD), (show 7 ≤ lineD by decide), ?_⟩
            obtain ⟨F, hF⟩ : ∃ F, F = ((T2 ++ [Cell.lst true ds]) ++ [Cell.dK true []]) ++ [Cell.lst true [D.loc T2.length, .tup [.tup ds], .non, .str "", ds[0], .loc (T2 ++ [Cell.lst true ds]).length, .tup (ds ++ Qd.cutD ds (some 1) none)]] := ⟨_, rfl⟩
            have M : Sub T2 F := by rw [hF]; exact Sub.push.to.to
            have g1 : F[T2.length]? = some (.lst true ds) := by rw [hF]; exact (Sub.push.to : Sub _ _) _ _ last_get
            have g2 : F[(T2 ++ [Cell.lst true ds]).length]? = some (.dK true []) := by rw [hF]; exact (Sub.push : Sub _ _) _ _ last_get
            have g3 : F[((T2 ++ [Cell.lst true ds]) ++ [Cell.dK true []]).length]? = some (.lst true [D.loc T2.length, .tup [.tup ds], .non, .str "", ds[0], .loc (T2 ++ [Cell.lst true ds]).length, .tup (ds ++ Qd.cutD ds (some 1) none)]) := by rw [hF]; exact last_get
            have kM := Kp.sub hl2'.1 hl2'.2 M
            have hpF := hp2.sub M
            have qF := hqo kM
            have all : ∀ x ∈ [D.loc T2.length, .tup [.tup ds], .non, .str "", ds[0], .loc (T2 ++ [Cell.lst true ds]).length, .tup (ds ++ Qd.cutD ds (some 1) none)], LineD p o F x := fun x hx => by
              simp only [List.mem_cons, List.not_mem_nil, or_false] at hx
              rcases hx with rfl | rfl | rfl | rfl | rfl | rfl | rfl
              · exact lst_line (by rw [hide_get (by omega) (by omega)]; exact g1) qF (by omega)
              · obtain ⟨qs', h1, h2⟩ := oth_all qF
                have := oths h2 (by rw [← h1.len]; omega)
                refine ⟨.tuple [.tuple qs'], .tup (.cons (.tup h1) .nil), .inl (fine_up (n := 6) (by simp [fine, this.1] <;> simpa [fine] using this.1) (by decide)), ?_, ?_⟩
                · simp only [PyData.leavesShort, PyData.leavesShortAll, this.2.1, Bool.and_self]
                · simp only [PyData.weight, PyData.weightAll]; omega
              · exact ⟨.none, .non, .inl rfl, rfl, by decide⟩
              · exact oth_line (strOne (by decide +kernel) (by decide))
              · exact oth_line (qF _ (List.getElem_mem h0))
              · exact ⟨.dict [], .dict (by rw [hide_get (by simp; omega) (by simp; omega)]; exact g2), .inr rfl, rfl, by decide⟩
              · refine tup_line (fun y hy => ?_) (by rw [List.length_append]; omega)
                rcases List.mem_append.mp hy with z | z
                · exact qF y z
                · exact qF y (cut_mem z)
            have fin : ∀ (i : Nat) (x : D) (T : Store), ([D.loc T2.length, .tup [.tup ds], .non, .str "", ds[0], .loc (T2 ++ [Cell.lst true ds]).length, .tup (ds ++ Qd.cutD ds (some 1) none)] : List D)[i]? = some x → Pot T p o (t + 3) → Kp p o F T → wRet (wOp fAdd (wOp fAdd (wSl fSl (wVar 1) wNoPart (wPart (wVar 2))) (wLst (wCons (wVar 4) wNil))) (wSl fSl (wVar 1) (wPart (wOp fAdd (wVar 2) (wC (.int 1)))) wNoPart)) { nx := fun _ S => Q .non S, rt := Q } [some (.loc p), some (.loc nl), some (.int ((a : Nat) : Int)), some (.int ((way : Nat) : Int)), some x, none] T noX := fun i x T hx hpT hkT =>
              spoilt_end (a := a) rfl rfl rfl (hl2.kp (kM.trans hkT)) ((all x (List.mem_of_getElem? hx)).kp hkT) (hpT.up (by omega)) ((hk02.trans kM).trans hkT) k
            have hgh : (hide p o F)[((T2 ++ [Cell.lst true ds]) ++ [Cell.dK true []]).length]? = some (.lst true [D.loc T2.length, .tup [.tup ds], .non, .str "", ds[0], .loc (T2 ++ [Cell.lst true ds]).length, .tup (ds ++ Qd.cutD ds (some 1) none)]) := by rw [hide_get (by simp; omega) (by simp; omega)]; exact g3
            subst hF
            exact ⟨p, o, t + 2, _, [D.loc T2.length, .tup [.tup ds], .non, .str "", ds[0], .loc (T2 ++ [Cell.lst true ds]).length, .tup (ds ++ Qd.cutD ds (some 1) none)], rfl, .inl ⟨_, rfl, hgh⟩, (by simp), (by simp), hpF, by omega, fun i x T hx hpT hkT => fin i x T hx hpT hkT⟩
end
end K78
set_option Elab.async false
set_option linter.all false
set_option maxRecDepth 100000
set_option maxHeartbeats 4000000
namespace K78
open PySem PySem.Spec PyProof.Rows L2 Qd
theorem term_ok {r : Nat} {q : PyData} (hf : fine r q = true) (hr : r ≤ 60) (h : 0 < partsP r q) : termP q = true ∧ fine 60 q = true := by
  refine ⟨?_, fine_up hf hr⟩
  unfold termP
  rw [parts_up hf hr h]
  exact decide_eq_true h
theorem parts_step {r : Nat} {q : PyData} (hf : fine r q = true) (hr : r + 1 ≤ 60) (h : 0 < partsP r q) : partsP (r + 1) q = partsP r q := by
  have e1 := parts_sizes r q r hf (by omega)
  have e2 := parts_sizes r q (r + 1) hf hr
  by_cases hh : sizesP r q ≠ (0, 0) ∧ (sizesP r q).1 ≤ r
  · rw [e1, e2, if_pos hh, if_pos ⟨hh.1, by omega⟩]
  · rw [e1, if_neg hh] at h
    omega
theorem kp_get {p o n : Nat} {S T : Store} {c : Cell} (h : Kp p o S T) (h1 : n ≠ p) (h2 : n ≠ o) (g : S[n]? = some c) : T[n]? = some c := by
  have := h n c (by rw [hide_get h1 h2]; exact g)
  rw [hide_get h1 h2] at this
  exact this
/-- the pairs -/
theorem pairs_loop {p o nn np t m7 : Nat} {names : List Str} {S0 T : Store} {G : Go} {X : XQ} {x0 x3 x5 x6 x7 x8 x9 x10 : Option D} (hm : m7 < 7) (hnm : Nms p o S0 nn names) (hnp : S0.length ≤ np) (hp0 : p < S0.length) (ho0 : o < S0.length) (hg : T[np]? = some (.lst true [])) (hp : Pot T p o t) (ht : t ≤ 10 ^ 5) (hk : Kp p o S0 T)
    (k : ∀ x5 pd pp T', TD T' np pd pp → pp.length ≤ 6 → Pot T' p o (t + 300) → Kp p o S0 T' → G.nx [x0, some (.loc p), some (.loc nn), x3, some (.loc np), x5, x6, x7, x8, x9, x10] T') :
    wLoop (gNm 5) (wDrop (wLm fAppend (wVar 4) (wCons (wTup (wCons (wCall (cLT 2) [] (wCons (wVar 1) (wCons (wVar 2) (wCons (wC (.int 2)) (wCons (wC (.bl false)) wNil))))) (wCons (wCall (cLT 2) [] (wCons (wVar 1) (wCons (wVar 2) (wCons (wC (.int 1)) (wCons (wC (.bl false)) wNil))))) wNil))) wNil)))
      (fun _ => True) G X ((List.range m7).map fun i => .int ((i : Nat) : Int)) [x0, some (.loc p), some (.loc nn), x3, some (.loc np), x5, x6, x7, x8, x9, x10] T := by
  refine loop_by (fun i e S' => ∃ x5 pd pp, e = [x0, some (.loc p), some (.loc nn), x3, some (.loc np), x5, x6, x7, x8, x9, x10] ∧ Pot S' p o (t + i * 39) ∧ Kp p o S0 S' ∧ S'[np]? = some (.lst true pd) ∧ Shs [] pd (pp.map pairP) ∧ Tok pp ∧ pp.length = i) ?_ (fun _ _ _ _ => trivial) (fun i d hd e S' h R hR => ?_) (fun e S' h => ?_)
  · exact ⟨x5, [], [], rfl, hp.up (by omega), hk, hg, .nil, fun q hq => by simp at hq, rfl⟩
  · obtain ⟨y5, pd, pp, rfl, hpS, hkS, hgS, hsh, htk, hln⟩ := h
    have hi : i < m7 := by
      have := (List.getElem?_eq_some_iff.mp hd).1
      simpa using this
    have npp : np ≠ p ∧ np ≠ o := ⟨by omega, by omega⟩
    refine ⟨_, rfl, ⟨true, pd, hgS⟩, _, rfl, _, rfl, p, o, t + i * 39, nn, 2, false, names, rfl, Nat.le_refl _, Nat.le_refl _, hnm.mono hkS, hpS, by show t + i * 39 + 30 ≤ _; omega, fun d1 q1 T1 a1 a2 a3 a4 a5 a6 => ?_⟩
    refine ⟨_, rfl, _, rfl, p, o, t + i * 39 + 30, nn, 1, false, names, rfl, by decide, Nat.le_refl _, hnm.mono (hkS.trans a6), a5, by show t + i * 39 + 30 + 9 ≤ _; omega, fun d2 q2 T2 b1 b2 b3 b4 b5 b6 => ⟨(show 2 ≤ lineD by decide), ?_⟩⟩
    have hg2 := kp_get b6 npp.1 npp.2 (kp_get a6 npp.1 npp.2 hgS)
    have hlt : np < T2.length := (List.getElem?_eq_some_iff.mp hg2).1
    have pl : pd.length = pp.length := by rw [hsh.len, List.length_map]
    have o1 := term_ok a2 (by decide) a3
    have o2 := term_ok b2 (by decide) b3
    refine ⟨pd, hg2, by rw [pl, hln]; exact Nat.lt_of_le_of_lt (by omega : i ≤ 7) (by decide), hR _ _ ⟨some d, pd ++ [.tup [d1, d2]], pp ++ [(q1, q2)], rfl, ?_, Kp_set ((hkS.trans a6).trans b6) hnp npp.1 npp.2, by rw [List.getElem?_set_self hlt], ?_, ?_, by simp [hln]⟩⟩
    · have e : t + (i + 1) * 39 = t + i * 39 + 30 + 9 := by omega
      rw [e]
      exact b5.setN npp.1 npp.2
    · rw [List.map_append]
      exact hsh.append (.cons (.tup (.cons a1 (.cons b1 .nil))) .nil)
    · intro q hq
      rcases List.mem_append.mp hq with z | z
      · exact htk q z
      · rw [List.mem_singleton.mp z]; exact ⟨o1.1, o2.1, o1.2, o2.2⟩
  · obtain ⟨y5, pd, pp, rfl, hpS, hkS, hgS, hsh, htk, hln⟩ := h
    simp only [List.length_map, List.length_range] at hpS hln
    exact k y5 pd pp S' ⟨hgS, hsh, htk, by omega⟩ (by omega) (hpS.up (by omega)) hkS
/-- what stands at m and beyond stays -/
def Hi (m : Nat) (S T : Store) : Prop := ∀ n c, m ≤ n → S[n]? = some c → T[n]? = some c
theorem Hi.trans {m : Nat} {S T U : Store} (h : Hi m S T) (g : Hi m T U) : Hi m S U := fun n c hn e => g n c hn (h n c hn e)
theorem Hi.kp {m p o : Nat} {S T : Store} (hp : p < m) (ho : o < m) (h : Kp p o S T) : Hi m S T := fun n c hn e => kp_get h (by omega) (by omega) e
theorem Hi.sub {m : Nat} {S T : Store} (h : Sub S T) : Hi m S T := fun n c _ e => h n c e
theorem Hi.set {m n : Nat} {S : Store} {c : Cell} (h : n < m) : Hi m S (S.set n c) := fun k d hk e => by rw [List.getElem?_set_ne (by omega)]; exact e
theorem shs_hi {m : Nat} {S T : Store} (h : Hi m S T) {ds : List D} {qs : List PyData} (g : Shs (low m S) ds qs) : Shs (low m T) ds qs := shs_low (fun n c hn _ e => by rw [low_get hn]; exact h n c hn e) g
structure TwoL (m p o nl nt np : Nat) (S0 S : Store) (ld td : List D) (lp : List PyData) (tp : List (PyData × PyData)) : Prop where
  kp : Kp p o S0 S
  gl : S[nl]? = some (.lst true ld)
  sl : Shs (low m S) ld lp
  ok : ∀ q ∈ lp, GLine q
  pos : 0 < lp.length
  gt : S[nt]? = some (.lst true td)
  st : Shs [] td (tp.map pairP)
  tk : Tok tp
  len : tp.length = lp.length
theorem TwoL.to {m p o nl nt np : Nat} {S0 S T : Store} {ld td : List D} {lp : List PyData} {tp : List (PyData × PyData)} (h : TwoL m p o nl nt np S0 S ld td lp tp) (hp : p < m) (ho : o < m) (h1 : nl ≠ p ∧ nl ≠ o) (h2 : nt ≠ p ∧ nt ≠ o) (k : Kp p o S T) : TwoL m p o nl nt np S0 T ld td lp tp :=
  ⟨h.kp.trans k, kp_get k h1.1 h1.2 h.gl, shs_hi (Hi.kp hp ho k) h.sl, h.ok, h.pos, kp_get k h2.1 h2.2 h.gt, h.st, h.tk, h.len⟩
theorem TwoL.more {m p o nl nt np : Nat} {S0 S : Store} {ld td : List D} {lp : List PyData} {tp : List (PyData × PyData)} {d x : D} {q : PyData} {qq : PyData × PyData} (h : TwoL m p o nl nt np S0 S ld td lp tp) (h1 : nl ≠ p ∧ nl ≠ o) (h2 : nt ≠ p ∧ nt ≠ o) (h3 : nl ≠ nt) (hl0 : S0.length ≤ nl) (ht0 : S0.length ≤ nt) (hl : nl < m) (ht : nt < m)
    (hd : Sh (low m S) d q) (hq : GLine q) (hx : Sh [] x (pairP qq)) (hok : okQ qq) : TwoL m p o nl nt np S0 ((S.set nl (.lst true (ld ++ [d]))).set nt (.lst true (td ++ [x]))) (ld ++ [d]) (td ++ [x]) (lp ++ [q]) (tp ++ [qq]) := by
  have l1 : nl < S.length := (List.getElem?_eq_some_iff.mp h.gl).1
  have l2 : nt < S.length := (List.getElem?_eq_some_iff.mp h.gt).1
  have hi : Hi m S ((S.set nl (.lst true (ld ++ [d]))).set nt (.lst true (td ++ [x]))) := (Hi.set hl).trans (Hi.set ht)
  refine ⟨Kp_set (Kp_set h.kp hl0 h1.1 h1.2) ht0 h2.1 h2.2, by rw [List.getElem?_set_ne (Ne.symm h3), List.getElem?_set_self l1], (shs_hi hi h.sl).append (.cons (sh_low (fun n c hn _ e => by rw [low_get hn]; exact hi n c hn e) hd) .nil), fun z hz => ?_, by simp, by rw [List.getElem?_set_self (by simpa using l2)], by rw [List.map_append]; exact h.st.append (.cons hx .nil), fun z hz => ?_, by simp [h.len]⟩
  · rcases List.mem_append.mp hz with y | y
    · exact h.ok z y
    · rw [List.mem_singleton.mp y]; exact hq
  · rcases List.mem_append.mp hz with y | y
    · exact h.tk z y
    · rw [List.mem_singleton.mp y]; exact hok
/-- the lines -/
theorem lines_loop {m p o nn np nl nt t m14 : Nat} {names : List Str} {S0 T : Store} {G : Go} {X : XQ} {x0 x3 x5 x8 x9 x10 : Option D} {ld0 td0 pd : List D} {lp0 : List PyData} {tp0 pp : List (PyData × PyData)} (hm : m14 < 14) (hnm : Nms p o S0 nn names) (hpd : TD (hide p o S0) np pd pp) (hp0 : p < S0.length) (ho0 : o < S0.length) (hl0 : S0.length ≤ nl) (ht0 : S0.length ≤ nt) (h3 : nl ≠ nt) (hlm : nl < m) (htm : nt < m)
    (h0 : TwoL m p o nl nt np S0 T ld0 td0 lp0 tp0) (h01 : lp0.length = 1) (hmT : m ≤ T.length) (hp : Pot T p o t) (ht : t ≤ 10 ^ 5)
    (k : ∀ x5 x8 x9 ld td lp tp T', TwoL m p o nl nt np S0 T' ld td lp tp → lp.length ≤ 14 → m ≤ T'.length → Pot T' p o (t + 600) → G.nx [x0, some (.loc p), some (.loc nn), x3, some (.loc np), x5, some (.loc nl), some (.loc nt), x8, x9, x10] T') :
    wLoop (gNm 5) (wSeq (wSet 8 (wCall cGood [] (wCons (wVar 1) (wCons (wVar 2) (wCons (wVar 7) (wCons (wVar 4) wNil))))))
        (wSeq (wSet 9 (wCall cTells [] (wCons (wVar 8) (wCons (wVar 7) (wCons (wVar 4) wNil)))))
          (wIf (wAndT (wTest (wUn (fIs true) (wVar 9)))
              (wAndT (wTest (wOp (fCmp fun i j => decide (i < j)) (wOp fIx (wCall (cSizes 61) [] (wCons (wOp fIx (wVar 9) (wC (.int 0))) wNil)) (wC (.int 1))) (wC (.int 300))))
                (wTest (wOp (fCmp fun i j => decide (i < j)) (wOp fIx (wCall (cSizes 61) [] (wCons (wOp fIx (wVar 9) (wC (.int 1))) wNil)) (wC (.int 1))) (wC (.int 300))))))
            (wSeq (wDrop (wLm fAppend (wVar 6) (wCons (wVar 8) wNil))) (wDrop (wLm fAppend (wVar 7) (wCons (wVar 9) wNil)))) wSkip)))
      (fun _ => True) G X ((List.range m14).map fun i => .int ((i : Nat) : Int)) [x0, some (.loc p), some (.loc nn), x3, some (.loc np), x5, some (.loc nl), some (.loc nt), x8, x9, x10] T := by
  have n1 : nl ≠ p ∧ nl ≠ o := ⟨by omega, by omega⟩
  have n2 : nt ≠ p ∧ nt ≠ o := ⟨by omega, by omega⟩
  refine loop_by (fun i e S' => ∃ x5 x8 x9 ld td lp tp, e = [x0, some (.loc p), some (.loc nn), x3, some (.loc np), x5, some (.loc nl), some (.loc nt), x8, x9, x10] ∧ TwoL m p o nl nt np S0 S' ld td lp tp ∧ lp.length ≤ i + 1 ∧ m ≤ S'.length ∧ Pot S' p o (t + i * 40)) ?_ (fun _ _ _ _ => trivial) (fun i d hd e S' h R hR => ?_) (fun e S' h => ?_)
  · exact ⟨x5, x8, x9, ld0, td0, lp0, tp0, rfl, h0, by omega, hmT, hp.up (by omega)⟩
  · obtain ⟨y5, y8, y9, ld, td, lp, tp, rfl, h, hln, hmS, hpS⟩ := h
    have hi : i < m14 := by
      have := (List.getElem?_eq_some_iff.mp hd).1
      simpa using this
    have tpl := h.len
    have hpos := h.pos
    refine seq_set ⟨_, rfl, _, rfl, _, rfl, _, rfl, p, o, t + i * 40, nn, nt, np, names, td, pd, tp, pp, rfl, hnm.mono h.kp, ⟨by rw [hide_get n2.1 n2.2]; exact h.gt, h.st, h.tk, by omega⟩, by omega, hpd.kp h.kp, hpS, by omega, fun l q T1 a1 a2 a3 a4 => ?_⟩
    have h1 := h.to (by omega) (by omega) n1 n2 a4
    have td1 : TD T1 nt td tp := ⟨h1.gt, h1.st, h1.tk, by omega⟩
    have pd1 := (hpd.kp h1.kp).un
    have gk := gline_ok a2
    have hmT1 : m ≤ T1.length := Nat.le_trans hmS a4.len
    have lSh : Sh (low m T1) l q := sh_low (fun n c hn _ e => by rw [low_get (by omega)]; exact e) a1
    refine seq_set ⟨_, rfl, _, rfl, _, rfl, l, q, nt, td, tp, np, pd, pp, rfl, sh_low (fun n c _ _ e => e) a1, .inl (fine_up gk.1 (by decide)), td1, pd1, fun T2 x b1 b2 => ?_⟩
    have hl1 := a3.lt
    have hp2 := a3.sub b1
    have k12 := Kp.sub hl1.1 hl1.2 b1
    have h2 := h1.to (by omega) (by omega) n1 n2 k12
    have skip : ∀ T3, Sub T2 T3 → R [x0, some (.loc p), some (.loc nn), x3, some (.loc np), some d, some (.loc nl), some (.loc nt), some l, some x, x10] T3 := fun T3 s => by
      have hl2 := hp2.lt
      exact hR _ _ ⟨some d, some l, some x, ld, td, lp, tp, rfl, h2.to (by omega) (by omega) n1 n2 (Kp.sub hl2.1 hl2.2 s), by omega, Nat.le_trans hmT1 (Nat.le_trans (Sub.len b1) (Sub.len s)), (hp2.sub s).up (by rw [Nat.add_mul]; omega)⟩
    refine ⟨_, rfl, ?_⟩
    show if (!isNon x) = true then _ else _
    cases hqq : tellsP tp pp q with
    | none =>
      rw [hqq] at b2
      have hx : x = .non := b2
      subst hx
      refine iteB (fun z => Bool.noConfusion z) fun _ => ?_
      rw [if_neg (by simp)]
      exact skip T2 Sub.refl
    | some qq =>
      rw [hqq] at b2
      have hx : Sh [] x (pairP qq) := b2
      have hok := tells_tok h.tk hpd.ok (.inl (fine_up gk.1 (by decide))) hqq
      obtain ⟨a, b, rfl, sa, sb⟩ : ∃ a b, x = .tup [a, b] ∧ Sh [] a qq.1 ∧ Sh [] b qq.2 := by
        cases hx with
        | tup ss =>
          cases ss with
          | cons g1 ss =>
            cases ss with
            | cons g2 ss => cases ss; exact ⟨_, _, rfl, g1, g2⟩
      refine iteB (fun _ => ?_) fun z => Bool.noConfusion z
      refine ⟨_, rfl, _, atN (k := 0) rfl, a, qq.1, rfl, sh_mono Sub.nil sa, fine_up hok.2.2.1 (by decide), fun T3 c1 => ⟨_, atN (k := 1) rfl, ?_⟩⟩
      show if decide (((sizesP 61 qq.1).2 : Int) < 300) = true then _ else _
      refine iteB (fun _ => ?_) fun _ => ?_
      · refine ⟨_, rfl, _, atN (k := 0 + 1) rfl, b, qq.2, rfl, sh_mono Sub.nil sb, fine_up hok.2.2.2 (by decide), fun T4 c2 => ⟨_, atN (k := 1) rfl, ?_⟩⟩
        show if decide (((sizesP 61 qq.2).2 : Int) < 300) = true then _ else _
        refine iteB (fun _ => ?_) fun _ => skip T4 (c1.trans c2)
        have s24 := c1.trans c2
        have hl2 := hp2.lt
        have h4 := h2.to (by omega) (by omega) n1 n2 (Kp.sub hl2.1 hl2.2 s24)
        have hm4 : m ≤ T4.length := Nat.le_trans hmT1 (Nat.le_trans (Sub.len b1) (Sub.len s24))
        have hp4 := hp2.sub s24
        have hi14 : Hi m T1 T4 := Hi.sub (b1.trans s24)
        have lSh4 : Sh (low m T4) l q := sh_low (fun n c hn _ e => by rw [low_get hn]; exact hi14 n c hn e) lSh
        have l1 : nl < T4.length := (List.getElem?_eq_some_iff.mp h4.gl).1
        have ldl : ld.length = lp.length := h4.sl.len
        have tdl : td.length = tp.length := by rw [h4.st.len, List.length_map]
        refine ⟨_, rfl, ⟨true, ld, h4.gl⟩, _, rfl, ld, h4.gl, by rw [ldl]; exact Nat.lt_of_le_of_lt (by omega : lp.length ≤ 14) (by decide), ?_⟩
        have g4 : (T4.set nl (.lst true (ld ++ [l])))[nt]? = some (.lst true td) := by rw [List.getElem?_set_ne h3]; exact h4.gt
        refine ⟨_, rfl, ⟨true, td, g4⟩, _, rfl, td, g4, by rw [tdl]; exact Nat.lt_of_le_of_lt (by omega : tp.length ≤ 14) (by decide), ?_⟩
        refine hR _ _ ⟨some d, some l, some (.tup [a, b]), ld ++ [l], td ++ [.tup [a, b]], lp ++ [q], tp ++ [qq], rfl, h4.more n1 n2 h3 hl0 ht0 hlm htm lSh4 a2 hx hok, by simp; omega, by simpa using hm4, ((hp4.setN n1.1 n1.2).setN n2.1 n2.2).up (by rw [Nat.add_mul]; omega)⟩
      · rw [if_neg (by simp)]
        exact skip T3 c1
  · obtain ⟨y5, y8, y9, ld, td, lp, tp, rfl, h, hln, hmS, hpS⟩ := h
    simp only [List.length_map, List.length_range] at hln hpS
    exact k y5 y8 y9 ld td lp tp S' h (by omega) hmS (hpS.up (by omega))
theorem glines_ld {p o nl : Nat} {S : Store} {ld : List D} {lp : List PyData} (h : GLs p o S nl ld lp) : LD S nl ld lp ∧ LShort lp := by
  refine ⟨⟨(hide_data h.get (by unfold dead; exact fun z => Cell.noConfusion z)).1, shs_un h.sh, fun q hq => .inl (fine_up (gline_ok (h.ok q hq)).1 (by decide)), by have := h.len; omega⟩, fun q hq => ?_⟩
  have := gline_ok (h.ok q hq)
  exact ⟨this.2.1, by omega⟩
theorem seq_for {wi : WI} {g : WG} {w u : WS} {G : Go} {env : Slots} {S : Store} {X : XQ} (h : wi env S (fun items still S1 => wLoop g w still ⟨fun e s => u G e s X, G.rt, G.bk, G.ct⟩ X items env S1) X) : wSeq (wFor wi g w) u G env S X := h
theorem for_by {wi : WI} {g : WG} {w : WS} {G : Go} {env : Slots} {S : Store} {X : XQ} (h : wi env S (fun items still S1 => wLoop g w still G X items env S1) X) : wFor wi g w G env S X := h
/-- the spoilt lists -/
theorem steps_loop {p o np nl t : Nat} {S0 T : Store} {G : Go} {x0 x2 x3 x5 x7 x8 x9 x10 : Option D} {ld pd : List D} {lp : List PyData} {pp : List (PyData × PyData)} (hgl : GLs p o S0 nl ld lp) (hpd : TD (hide p o S0) np pd pp) (hp : Pot T p o t) (ht : t ≤ 10 ^ 4) (hk : Kp p o S0 T)
    (k : ∀ x10 T', Pot T' p o (t + 80) → Kp p o S0 T' → G.nx [x0, some (.loc p), x2, x3, some (.loc np), x5, some (.loc nl), x7, x8, x9, x10] T') :
    wLoop (gNm 10) (wIf (wNotT (wTest (wCall cRight [] (wCons (wCall cSpoilt [] (wCons (wVar 1) (wCons (wVar 6) wNil))) (wCons (wVar 4) wNil))))) (wRet (wC (.bl false))) wSkip)
      (fun _ => True) G noX ((List.range 8).map fun i => .int ((i : Nat) : Int)) [x0, some (.loc p), x2, x3, some (.loc np), x5, some (.loc nl), x7, x8, x9, x10] T := by
  refine loop_by (fun i e S' => ∃ x10, e = [x0, some (.loc p), x2, x3, some (.loc np), x5, some (.loc nl), x7, x8, x9, x10] ∧ Pot S' p o (t + i * 10) ∧ Kp p o S0 S') ⟨x10, rfl, hp.up (by omega), hk⟩ (fun _ _ _ _ => trivial) (fun i d hd e S' ⟨y, he, hpS, hkS⟩ R hR => ?_) (fun e S' ⟨y, he, hpS, hkS⟩ => ?_)
  · subst he
    have hi : i < 8 := by
      have := (List.getElem?_eq_some_iff.mp hd).1
      simpa using this
    refine ⟨_, rfl, _, rfl, p, o, t + i * 10, nl, ld, lp, rfl, hgl.kp hkS, hpS, by omega, fun n' T1 ⟨ld', lp', hld, hls⟩ hp1 hk1 => ?_⟩
    refine ⟨_, rfl, n', ld', lp', np, pd, pp, rfl, hld.un, hls, (hpd.kp (hkS.trans hk1)).un, fun T2 hT2 => ?_⟩
    have hl1 := hp1.lt
    show if (!true) = true then _ else _
    refine iteB (fun z => Bool.noConfusion z) fun _ => ?_
    exact hR _ _ ⟨some d, rfl, (hp1.sub hT2).up (by rw [Nat.add_mul]; omega), (hkS.trans hk1).trans (Kp.sub hl1.1 hl1.2 hT2)⟩
  · subst he
    simp only [List.length_map, List.length_range] at hpS
    exact k y S' (hpS.up (by omega)) hkS
section
variable {P : Program} {w : World} {K : PySem.W.Frag} {mg : Str → Option Value} {base : Heap}
def cLaw : Con := fun ds S Q _ => ∃ (ns : List Int), ds = [.scr ns] ∧ ns.length ≤ 63 ∧ ∀ T, Q (.bl true) T
abbrev s_law : Stmt := topS 37
theorem sc_law : FnScope ["script", "pot", "names", "turn", "pairs", "k", "lines", "told", "line", "found", "step"] ["script"] (defScope s_law) := ⟨rfl, rfl, rfl, by decide +kernel, rfl, by decide +kernel, by decide +kernel⟩
theorem ok_law {f : Addr} {fd : FuncData} (F : Fun K "law" "law" s_law f fd) (hb : Binds K fd ["script"] []) (B : Blt mg) (C__law_pot : Fn P w K mg base 1 "_law_pot" cPot []) (C__law_take : Fn P w K mg base 1 "_law_take" cTake []) (C__law_names : Fn P w K mg base 3 "_law_names" cNames []) (C__law_term : Fn P w K mg base 6 "_law_term" (cLT 2) []) (C__law_line_tells : Fn P w K mg base 65 "_law_line_tells" cTells []) (C__law_good_line : Fn P w K mg base 7 "_law_good_line" cGood []) (C__law_sizes : Fn P w K mg base 63 "_law_sizes" (cSizes 61) []) (C__law_right : FnG P w K mg base 67 "_law_right" cRight) (C__law_spoilt : Fn P w K mg base 4 "_law_spoilt" cSpoilt []) : FnOkG P w K mg base 68 f fd ["script"] (spQ K cLaw) := by
  refine okG F sc_law (fun ds S Q X ⟨_, e, _⟩ => by rw [e]; rfl) fun cdv A outer s H hr hgd => ?_
  have hu1 := hu_of hr; have hu64 := hr.units
  refine ⟨_, (qs_cons (q_set (i := 1) sc_law.nd rfl (.inl rfl) (q_c (dds := []) C__law_pot hr (by first | decide | omega) (by rfl) (qa_cons (qv 0) qa_nil)))
      (qs_cons (q_set (i := 2) sc_law.nd rfl (.inl rfl) (q_c (dds := []) C__law_names hr (by first | decide | omega) (by rfl) (qa_cons (qv 1) (qa_cons q_int qa_nil))))
      (qs_cons (q_for (vs := [3]) PassesOwn.never rfl (qi_range (by rfl) B.range (q_op op_add4 ro_add q_int (q_cb (call_min2 rfl) ro_min2 (by rfl) B.min (by decide +kernel) (qa_cons q_int (qa_cons (q_cb call_len ro_len (by rfl) B.len (by decide +kernel) (qa_cons (qv 0) qa_nil)) qa_nil))))) (qg_name (i := 3) sc_law.nd rfl (.inl rfl)) (qs_cons (q_set (i := 4) sc_law.nd rfl (.inl rfl) (q_lst qa_nil))
      (qs_cons (q_for (vs := [5]) PassesOwn.never rfl (qi_range (by rfl) B.range (q_c (dds := []) C__law_take hr (by first | decide | omega) (by rfl) (qa_cons (qv 1) (qa_cons q_int qa_nil)))) (qg_name (i := 5) sc_law.nd rfl (.inl rfl)) (qs_one (q_expr (q_lm PySem.F.slot_list_append PySem.F.type_list_append mt_append ro_append (qv 4) (qa_cons (q_tup (qa_cons (q_c (dds := []) C__law_term hr (by first | decide | omega) (by rfl) (qa_cons (qv 1) (qa_cons (qv 2) (qa_cons q_int (qa_cons q_bl qa_nil))))) (qa_cons (q_c (dds := []) C__law_term hr (by first | decide | omega) (by rfl) (qa_cons (qv 1) (qa_cons (qv 2) (qa_cons q_int (qa_cons q_bl qa_nil))))) qa_nil))) qa_nil)))))
      (qs_cons (q_par (i := 6) (j := 7) rfl sc_law.nd rfl rfl (by decide) rfl rfl (q_lst (qa_cons (q_tup (qa_cons q_str (qa_cons (q_c (dds := []) C__law_term hr (by first | decide | omega) (by rfl) (qa_cons (qv 1) (qa_cons (qv 2) (qa_cons q_int (qa_cons q_bl qa_nil))))) qa_nil))) qa_nil)) (q_lst qa_nil) (by rfl))
      (qs_cons (q_expr (q_lm PySem.F.slot_list_append PySem.F.type_list_append mt_append ro_append (qv 7) (qa_cons (q_c (dds := []) C__law_line_tells hr (by first | decide | omega) (by rfl) (qa_cons (q_ix ix_seq ro_ix (qv 6) q_int) (qa_cons (qv 7) (qa_cons (qv 4) qa_nil)))) qa_nil)))
      (qs_cons (q_for (vs := [5]) PassesOwn.never rfl (qi_range (by rfl) B.range (q_c (dds := []) C__law_take hr (by first | decide | omega) (by rfl) (qa_cons (qv 1) (qa_cons q_int qa_nil)))) (qg_name (i := 5) sc_law.nd rfl (.inl rfl)) (qs_cons (q_set (i := 8) sc_law.nd rfl (.inl rfl) (q_c (dds := []) C__law_good_line hr (by first | decide | omega) (by rfl) (qa_cons (qv 1) (qa_cons (qv 2) (qa_cons (qv 7) (qa_cons (qv 4) qa_nil))))))
      (qs_cons (q_set (i := 9) sc_law.nd rfl (.inl rfl) (q_c (dds := []) C__law_line_tells hr (by first | decide | omega) (by rfl) (qa_cons (qv 8) (qa_cons (qv 7) (qa_cons (qv 4) qa_nil)))))
      (qs_one (q_if (qt_w (qw_and (qt_notN (qv 9)) (qw_and (qt_cmp op_lt ro_cmp (q_ix ix_seq ro_ix (q_c (dds := []) C__law_sizes hr (by first | decide | omega) (by rfl) (qa_cons (q_ix ix_seq ro_ix (qv 9) q_int) qa_nil)) q_int) q_int (nomark _)) (qw_and1 (qt_cmp op_lt ro_cmp (q_ix ix_seq ro_ix (q_c (dds := []) C__law_sizes hr (by first | decide | omega) (by rfl) (qa_cons (q_ix ix_seq ro_ix (qv 9) q_int) qa_nil)) q_int) q_int (nomark _)))))) (qs_cons (q_expr (q_lm PySem.F.slot_list_append PySem.F.type_list_append mt_append ro_append (qv 6) (qa_cons (qv 8) qa_nil)))
      (qs_one (q_expr (q_lm PySem.F.slot_list_append PySem.F.type_list_append mt_append ro_append (qv 7) (qa_cons (qv 9) qa_nil))))) qs_nil)))))
      (qs_cons (q_if (qt_w (qw_or (qt_not (qt_val (q_cG C__law_right hgd hr (by first | decide | omega) (by rfl) (qa_cons (qv 6) (qa_cons (qv 4) qa_nil))))) (qw_or1 (qt_not (qt_val (q_cG C__law_right hgd hr (by first | decide | omega) (by rfl) (qa_cons (q_lst (qa_cons (q_tup (qa_cons q_str (qa_cons q_int qa_nil))) qa_nil)) (qa_cons (qv 4) qa_nil)))))))) (qs_one (q_ret q_bl)) qs_nil)
      (qs_one (q_for (vs := [10]) PassesOwn.never rfl (qi_range (by rfl) B.range q_int) (qg_name (i := 10) sc_law.nd rfl (.inl rfl)) (qs_one (q_if (qt_not (qt_val (q_cG C__law_right hgd hr (by first | decide | omega) (by rfl) (qa_cons (q_c (dds := []) C__law_spoilt hr (by first | decide | omega) (by rfl) (qa_cons (qv 1) (qa_cons (qv 6) qa_nil))) (qa_cons (qv 4) qa_nil))))) (qs_one (q_ret q_bl)) qs_nil)))))))))))
      (qs_one (q_ret q_bl))))), fun ds S Q X h => ?_⟩
  obtain ⟨ns, rfl, hl, k⟩ := h
  refine seq_set ⟨_, rfl, ns, rfl, hl, fun p o T0 hpl hol hp0 hs0 => ?_⟩
  refine seq_set ⟨_, rfl, p, o, 0, rfl, hp0, by omega, fun nn names T1 hp1 hk1 hg1 h4 hns => ?_⟩
  have nm1 : Nms p o T1 nn names := ⟨hg1, by omega, by omega, hns⟩
  refine seq_for ⟨_, rfl, ?_⟩
  have mn : (if ((ns.length : Nat) : Int) < 3 then ((ns.length : Nat) : Int) else 3) = ((min 3 ns.length : Nat) : Int) := by split <;> omega
  simp only [wNil]
  simp only [fLen]
  refine fmin2_int mn ?_
  refine ⟨by omega, by omega, ?_⟩
  have rt : ((1 : Int) + ((min 3 ns.length : Nat) : Int)).toNat = 1 + min 3 ns.length := by omega
  refine loop_by (fun i e S' => ∃ x3 x4 x5 x6 x7 x8 x9 x10, e = [some (.scr ns), some (.loc p), some (.loc nn), x3, x4, x5, x6, x7, x8, x9, x10] ∧ Pot S' p o (30 + i * 2000) ∧ Nms p o S' nn names) ⟨none, none, none, none, none, none, none, none, rfl, hp1.up (by omega), nm1⟩ (fun _ _ _ _ => trivial) (fun i d hd e S' h R hR => ?_) (fun e S' h => k S')
  obtain ⟨x3, x4, x5, x6, x7, x8, x9, x10, rfl, hpS, hnm⟩ := h
  have hi : i < 4 := by
    have := (List.getElem?_eq_some_iff.mp hd).1
    simp only [List.length_map, List.length_range, rt] at this
    omega
  have hlS := hpS.lt
  refine seq_set ⟨(show 0 ≤ lineD by decide), ?_⟩
  refine seq_for ⟨_, rfl, p, o, 30 + i * 2000, 7, rfl, by decide, by decide, hpS.sub Sub.push, by omega, fun m7 T2 hm7 hp2 hk2 => ⟨by omega, by omega, ?_⟩⟩
  have kS2 := (Kp.sub hlS.1 hlS.2 (Sub.push (T := [Cell.lst true []]))).trans hk2
  refine pairs_loop (S0 := S') hm7 hnm (Nat.le_refl _) hlS.1 hlS.2 (kp_get hk2 (by omega) (by omega) last_get) hp2 (by omega) kS2 fun y5 pd pp T3 hpd hpl3 hp3 hk3 => ?_
  have hl3 := hp3.lt
  have hpd3 : TD (hide p o T3) S'.length pd pp := ⟨by rw [hide_get (by omega) (by omega)]; exact hpd.get, hpd.sh, hpd.ok, hpd.len⟩
  refine ⟨_, rfl, _, rfl, p, o, 30 + i * 2000 + 1 + 300, nn, 1, true, names, rfl, by decide, by decide, hnm.mono hk3, hp3, by show _ + 9 ≤ _; omega, fun d1 q1 T4 a1 a2 a3 a4 a5 a6 => ?_⟩
  have hl4 := a5.lt
  have q1ok := term_ok a2 (by decide) a3
  have fl : fine 62 (.tuple [.str "self", q1]) = true := by
    have hs : fine 61 (.str "self") = true := by decide +kernel
    have h1 : fine 61 q1 = true := fine_up a2 (by decide)
    simp [fine, hs, h1] <;> simpa [fine] using hs
  have gl1 : GLine (.tuple [.str "self", q1]) := .mk _ (by simp) (by simp) fun z hz => by
    simp at hz
    rcases hz with rfl | rfl
    · exact .str _ low_words.1 (by decide) (by decide)
    · have e := parts_step a2 (by decide) a3
      exact .term _ (fine_up a2 (by decide)) (by rw [e]; exact a3) (by rw [e]; exact Nat.le_trans a4 (by decide))
  refine ⟨(show 2 ≤ lineD by decide), (show 1 ≤ lineD by decide), (show 0 ≤ lineD by decide), ?_⟩
  obtain ⟨c1, hc1⟩ : ∃ c1, c1 = T4 ++ [Cell.lst true [D.tup [.str "self", d1]]] := ⟨_, rfl⟩
  have m4 : Sub T4 (c1 ++ [Cell.lst true []]) := by rw [hc1]; exact Sub.push.to
  have gnl : (c1 ++ [Cell.lst true []])[T4.length]? = some (.lst true [D.tup [.str "self", d1]]) := by rw [hc1]; exact Sub.push _ _ last_get
  have gnt : (c1 ++ [Cell.lst true []])[c1.length]? = some (.lst true ([] : List D)) := last_get
  have cl : c1.length = T4.length + 1 := by rw [hc1]; simp
  have kU := Kp.sub hl4.1 hl4.2 m4
  have hpU := a5.sub m4
  have pdU := ((hpd3.kp a6).kp kU).un
  dsimp only
  rw [← hc1]
  refine ⟨_, rfl, ⟨true, [], gnt⟩, _, rfl, true, _, _, gnl, atN (k := 0) rfl, _, rfl, _, rfl, .tup [.str "self", d1], .tuple [.str "self", q1], c1.length, [], [], S'.length, pd, pp, rfl, .tup (.cons (.str _) (.cons (sh_mono Sub.nil a1) .nil)), .inl fl, ⟨gnt, .nil, fun q hq => by simp at hq, by simp⟩, pdU, fun T5 x s5 hx => ?_⟩
  have ex : tellsP [] pp (.tuple [.str "self", q1]) = some (q1, q1) := (t_self (r := [q1]) (by decide) rfl).trans (if_pos q1ok.1)
  rw [ex] at hx
  have hx : Sh [] x (pairP (q1, q1)) := hx
  have ok1 : okQ (q1, q1) := ⟨q1ok.1, q1ok.1, q1ok.2, q1ok.2⟩
  have hp5 := hpU.sub s5
  have hlU := hpU.lt
  have k45 := kU.trans (Kp.sub hlU.1 hlU.2 s5)
  have g5 := s5 _ _ gnt
  have g5l := s5 _ _ gnl
  have lt5 : c1.length < T5.length := (List.getElem?_eq_some_iff.mp g5).1
  have nn1 : T4.length ≠ p ∧ T4.length ≠ o := ⟨by omega, by omega⟩
  have nn2 : c1.length ≠ p ∧ c1.length ≠ o := ⟨by omega, by omega⟩
  refine ⟨[], g5, by decide, ?_⟩
  dsimp only
  have two : TwoL (c1.length + 1) p o T4.length c1.length S'.length T4 (T5.set c1.length (.lst true ([] ++ [x]))) [.tup [.str "self", d1]] [x] [.tuple [.str "self", q1]] [(q1, q1)] :=
    ⟨Kp_set k45 (by omega) nn2.1 nn2.2, by rw [List.getElem?_set_ne (by omega)]; exact g5l, .cons (.tup (.cons (.str _) (.cons (sh_mono Sub.nil a1) .nil))) .nil, fun q hq => by rw [List.mem_singleton.mp hq]; exact gl1, by simp, by rw [List.getElem?_set_self lt5]; rfl, .cons hx .nil, fun q hq => by rw [List.mem_singleton.mp hq]; exact ok1, rfl⟩
  have hp6 := hp5.setN (c := .lst true ([] ++ [x])) nn2.1 nn2.2
  have T6l : (T5.set c1.length (.lst true ([] ++ [x]))).length = T5.length := by simp
  refine seq_for ⟨_, rfl, p, o, _, 14, rfl, by decide, by decide, hp6, by show _ + 9 ≤ _; omega, fun m14 T7 hm14 hp7 hk7 => ⟨by omega, by omega, ?_⟩⟩
  have ct1 : CT 1 = 9 := rfl
  rw [ct1] at hp7
  have two7 := two.to (by omega) (by omega) nn1 nn2 hk7
  refine lines_loop (S0 := T4) (m := c1.length + 1) hm14 ((hnm.mono hk3).mono a6) (hpd3.kp a6) hl4.1 hl4.2 (Nat.le_refl _) (by omega) (by omega) (by omega) (by omega) two7 rfl (by have := hk7.len; omega) hp7 (by omega) fun z5 z8 z9 ld td lp tp T8 h8 hln8 hm8 hp8 => ?_
  have hl8 := hp8.lt
  have gls : GLs p o T8 T4.length ld lp := ⟨by rw [hide_get nn1.1 nn1.2]; exact h8.gl, shs_low (fun n c hn _ e => by rw [hide_get (by omega) (by omega)]; exact e) h8.sl, h8.ok, h8.pos, by omega⟩
  have pd8 := (hpd3.kp a6).kp h8.kp
  have lds := glines_ld gls
  dsimp only
  refine seq_if ⟨_, rfl, _, rfl, T4.length, ld, lp, S'.length, pd, pp, rfl, lds.1, lds.2, pd8.un, fun T9 s9 => ?_⟩
  show if (!true) = true then _ else _
  refine iteB (fun z => Bool.noConfusion z) fun _ => ?_
  have sh0 : Shs (T9 ++ [Cell.lst true [D.tup [.str "self", .int 0]]]) [D.tup [.str "self", .int 0]] [.tuple [.str "self", .int 0]] := .cons (.tup (.cons (.str _) (.cons (.int 0) .nil))) .nil
  have fl0 : fine 62 (.tuple [.str "self", .int 0]) = true := by decide +kernel
  have ls0 : LShort [.tuple [.str "self", .int 0]] := fun q hq => by
    rw [List.mem_singleton.mp hq]
    exact ⟨by decide +kernel, by decide +kernel⟩
  refine ⟨(show 2 ≤ lineD by decide), (show 1 ≤ lineD by decide), _, rfl, T9.length, _, _, S'.length, pd, pp, rfl, ⟨last_get, sh0, fun q hq => by rw [List.mem_singleton.mp hq]; exact .inl fl0, by decide⟩, ls0, pd8.un.mono s9.to, fun T10 s10 => ?_⟩
  show if (!true) = true then _ else _
  refine iteB (fun z => Bool.noConfusion z) fun _ => ?_
  have s810 : Sub T8 T10 := s9.to.trans s10
  have k810 := Kp.sub hl8.1 hl8.2 s810
  refine for_by ⟨by decide, by decide, ?_⟩
  refine steps_loop (S0 := T8) gls pd8 (hp8.sub s810) (by omega) k810 fun z10 T11 hp11 hk11 => ?_
  refine hR _ _ ⟨some d, _, _, _, _, _, _, _, rfl, hp11.up (by rw [Nat.add_mul]; omega), (((hnm.mono hk3).mono a6).mono h8.kp).mono hk11⟩
end
end K78
set_option Elab.async false
set_option linter.all false
set_option maxRecDepth 100000
set_option maxHeartbeats 4000000
namespace K78
open PySem PySem.Spec PyProof.Rows L2 Qd
theorem kit_type {K : PySem.W.Frag} {t : Value} {T : String} (h0 : (t == Value.type T) = false) (h : PySem.W.kitMeta T = true) (e : PySem.W.subIn K t (.type T) = some true) : PySem.W.kitOne K t (.type T) = some true := by
  unfold PySem.W.kitOne
  rw [h0, if_neg Bool.false_ne_true]
  show (if PySem.W.kitMeta T = true then PySem.W.subIn K t (.type T) else none) = some true
  rw [if_pos h]
  exact e
theorem sp_scr {K : PySem.W.Frag} {H : Hp} {a : Addr} {ns : List Int} (hl : ns.length ≤ 63) (ho : Only H) (hs : SqL K H a (ns.map V.int)) : spQ K cLaw [.ref a] H (fun v _ => v = .bl true) E0 := by
  refine ⟨[], [], [.scr ns], fun d _ => d = .bl true, noX, ⟨rfl, .nil, fun _ z => (by cases z), fun n a c z _ => (by cases z)⟩, ⟨_, _, rfl, ⟨a, rfl, ?_⟩, rfl⟩, ⟨ns, rfl, hl, fun _ => rfl⟩, fun d S' φ' v H' _ _ rv q => by subst q; exact rv, XOk.noX⟩
  rcases hs with (h | ⟨o, h⟩) | h
  · rcases ho a with z | ⟨o, xs, z⟩ <;> rw [h] at z <;> cases z
  · exact .inl ⟨by simp, o, h⟩
  · exact .inr h
/-! ### what the top has written -/
theorem all_mk {l : PySem.W.OpenLaw} {w : World} {K : PySem.W.Frag} {h : Heap} {mg : Str → Option Value} {fa : Addr} (X : K.In h) (G : h.Ns mainGlobals mg) (hfa : mg "law" = some (.ref fa))
    {f_is_whole : Addr} {oc_is_whole kV_is_whole dc_is_whole pm_is_whole cd_is_whole ct_is_whole : Value} {od_is_whole an_is_whole : Option Addr} {sl_is_whole : Array (Option Value)}
    {f__law_whole : Addr} {oc__law_whole kV__law_whole dc__law_whole pm__law_whole cd__law_whole ct__law_whole : Value} {od__law_whole an__law_whole : Option Addr} {sl__law_whole : Array (Option Value)}
    {f_is_name : Addr} {oc_is_name kV_is_name dc_is_name pm_is_name cd_is_name ct_is_name : Value} {od_is_name an_is_name : Option Addr} {sl_is_name : Array (Option Value)}
    {f__law_is_name : Addr} {oc__law_is_name kV__law_is_name dc__law_is_name pm__law_is_name cd__law_is_name ct__law_is_name : Value} {od__law_is_name an__law_is_name : Option Addr} {sl__law_is_name : Array (Option Value)}
    {f_parts_within : Addr} {oc_parts_within kV_parts_within dc_parts_within pm_parts_within cd_parts_within ct_parts_within : Value} {od_parts_within an_parts_within : Option Addr} {sl_parts_within : Array (Option Value)}
    {f_is_term : Addr} {oc_is_term kV_is_term dc_is_term pm_is_term cd_is_term ct_is_term : Value} {od_is_term an_is_term : Option Addr} {sl_is_term : Array (Option Value)}
    {f_are_lines : Addr} {oc_are_lines kV_are_lines dc_are_lines pm_are_lines cd_are_lines ct_are_lines : Value} {od_are_lines an_are_lines : Option Addr} {sl_are_lines : Array (Option Value)}
    {f__law_are_lines : Addr} {oc__law_are_lines kV__law_are_lines dc__law_are_lines pm__law_are_lines cd__law_are_lines ct__law_are_lines : Value} {od__law_are_lines an__law_are_lines : Option Addr} {sl__law_are_lines : Array (Option Value)}
    {f__law_sizes : Addr} {oc__law_sizes kV__law_sizes dc__law_sizes pm__law_sizes cd__law_sizes ct__law_sizes : Value} {od__law_sizes an__law_sizes : Option Addr} {sl__law_sizes : Array (Option Value)}
    {f_told_within : Addr} {oc_told_within kV_told_within dc_told_within pm_told_within cd_told_within ct_told_within : Value} {od_told_within an_told_within : Option Addr} {sl_told_within : Array (Option Value)}
    {f__law_within : Addr} {oc__law_within kV__law_within dc__law_within pm__law_within cd__law_within ct__law_within : Value} {od__law_within an__law_within : Option Addr} {sl__law_within : Array (Option Value)}
    {f_told_by : Addr} {oc_told_by kV_told_by dc_told_by pm_told_by cd_told_by ct_told_by : Value} {od_told_by an_told_by : Option Addr} {sl_told_by : Array (Option Value)}
    {f__law_line_tells : Addr} {oc__law_line_tells kV__law_line_tells dc__law_line_tells pm__law_line_tells cd__law_line_tells ct__law_line_tells : Value} {od__law_line_tells an__law_line_tells : Option Addr} {sl__law_line_tells : Array (Option Value)}
    {f_borne : Addr} {oc_borne kV_borne dc_borne pm_borne cd_borne ct_borne : Value} {od_borne an_borne : Option Addr} {sl_borne : Array (Option Value)}
    {f__law_due : Addr} {oc__law_due kV__law_due dc__law_due pm__law_due cd__law_due ct__law_due : Value} {od__law_due an__law_due : Option Addr} {sl__law_due : Array (Option Value)}
    {f__law_right : Addr} {oc__law_right kV__law_right dc__law_right pm__law_right cd__law_right ct__law_right : Value} {od__law_right an__law_right : Option Addr} {sl__law_right : Array (Option Value)}
    {f__law_take : Addr} {oc__law_take kV__law_take dc__law_take pm__law_take cd__law_take ct__law_take : Value} {od__law_take an__law_take : Option Addr} {sl__law_take : Array (Option Value)}
    {f__law_pick : Addr} {oc__law_pick kV__law_pick dc__law_pick pm__law_pick cd__law_pick ct__law_pick : Value} {od__law_pick an__law_pick : Option Addr} {sl__law_pick : Array (Option Value)}
    {f__law_pot : Addr} {oc__law_pot kV__law_pot dc__law_pot pm__law_pot cd__law_pot ct__law_pot : Value} {od__law_pot an__law_pot : Option Addr} {sl__law_pot : Array (Option Value)}
    {f__law_names : Addr} {oc__law_names kV__law_names dc__law_names pm__law_names cd__law_names ct__law_names : Value} {od__law_names an__law_names : Option Addr} {sl__law_names : Array (Option Value)}
    {f__law_term : Addr} {oc__law_term kV__law_term dc__law_term pm__law_term cd__law_term ct__law_term : Value} {od__law_term an__law_term : Option Addr} {sl__law_term : Array (Option Value)}
    {f__law_good_line : Addr} {oc__law_good_line kV__law_good_line dc__law_good_line pm__law_good_line cd__law_good_line ct__law_good_line : Value} {od__law_good_line an__law_good_line : Option Addr} {sl__law_good_line : Array (Option Value)}
    {f__law_other : Addr} {oc__law_other kV__law_other dc__law_other pm__law_other cd__law_other ct__law_other : Value} {od__law_other an__law_other : Option Addr} {sl__law_other : Array (Option Value)}
    {f__law_spoilt : Addr} {oc__law_spoilt kV__law_spoilt dc__law_spoilt pm__law_spoilt cd__law_spoilt ct__law_spoilt : Value} {od__law_spoilt an__law_spoilt : Option Addr} {sl__law_spoilt : Array (Option Value)}
    {f_law : Addr} {oc_law kV_law dc_law pm_law cd_law ct_law : Value} {od_law an_law : Option Addr} {sl_law : Array (Option Value)}
    {t_LETTERS : PySem.Tok}
    {t_LONGEST_NAME : PySem.Tok}
    {t_MOST_BLANK : PySem.Tok}
    {t_MOST_PLACES_terms : PySem.Tok}
    {t_MOST_LEVELS : PySem.Tok}
    {t_MOST_PARTS : PySem.Tok}
    {t_MOST_PLACES_reasons : PySem.Tok}
    {NR EE : Addr}
    (a_is_whole : PySem.W.nsIn K mainGlobals "is_whole" = some (some (.ref f_is_whole)))
    (l_is_whole : K.lookup f_is_whole = some ⟨oc_is_whole, od_is_whole, .func (PySem.W.fnOf "is_whole" "is_whole" (defArgs s_is_whole) (defBody s_is_whole) (defScope s_is_whole) .none kV_is_whole dc_is_whole pm_is_whole an_is_whole cd_is_whole ct_is_whole), sl_is_whole⟩)
    (c_is_whole : PySem.W.codeIn K cd_is_whole "is_whole" = true)
    (k_is_whole : PySem.W.keepIn K (.ref f_is_whole) = true)
    (a__law_whole : PySem.W.nsIn K mainGlobals "_law_whole" = some (some (.ref f__law_whole)))
    (l__law_whole : K.lookup f__law_whole = some ⟨oc__law_whole, od__law_whole, .func (PySem.W.fnOf "_law_whole" "_law_whole" (defArgs s__law_whole) (defBody s__law_whole) (defScope s__law_whole) .none kV__law_whole dc__law_whole pm__law_whole an__law_whole cd__law_whole ct__law_whole), sl__law_whole⟩)
    (c__law_whole : PySem.W.codeIn K cd__law_whole "_law_whole" = true)
    (k__law_whole : PySem.W.keepIn K (.ref f__law_whole) = true)
    (a_is_name : PySem.W.nsIn K mainGlobals "is_name" = some (some (.ref f_is_name)))
    (l_is_name : K.lookup f_is_name = some ⟨oc_is_name, od_is_name, .func (PySem.W.fnOf "is_name" "is_name" (defArgs s_is_name) (defBody s_is_name) (defScope s_is_name) .none kV_is_name dc_is_name pm_is_name an_is_name cd_is_name ct_is_name), sl_is_name⟩)
    (c_is_name : PySem.W.codeIn K cd_is_name "is_name" = true)
    (k_is_name : PySem.W.keepIn K (.ref f_is_name) = true)
    (a__law_is_name : PySem.W.nsIn K mainGlobals "_law_is_name" = some (some (.ref f__law_is_name)))
    (l__law_is_name : K.lookup f__law_is_name = some ⟨oc__law_is_name, od__law_is_name, .func (PySem.W.fnOf "_law_is_name" "_law_is_name" (defArgs s__law_is_name) (defBody s__law_is_name) (defScope s__law_is_name) .none kV__law_is_name dc__law_is_name pm__law_is_name an__law_is_name cd__law_is_name ct__law_is_name), sl__law_is_name⟩)
    (c__law_is_name : PySem.W.codeIn K cd__law_is_name "_law_is_name" = true)
    (k__law_is_name : PySem.W.keepIn K (.ref f__law_is_name) = true)
    (a_parts_within : PySem.W.nsIn K mainGlobals "parts_within" = some (some (.ref f_parts_within)))
    (l_parts_within : K.lookup f_parts_within = some ⟨oc_parts_within, od_parts_within, .func (PySem.W.fnOf "parts_within" "parts_within" (defArgs s_parts_within) (defBody s_parts_within) (defScope s_parts_within) .none kV_parts_within dc_parts_within pm_parts_within an_parts_within cd_parts_within ct_parts_within), sl_parts_within⟩)
    (c_parts_within : PySem.W.codeIn K cd_parts_within "parts_within" = true)
    (k_parts_within : PySem.W.keepIn K (.ref f_parts_within) = true)
    (a_is_term : PySem.W.nsIn K mainGlobals "is_term" = some (some (.ref f_is_term)))
    (l_is_term : K.lookup f_is_term = some ⟨oc_is_term, od_is_term, .func (PySem.W.fnOf "is_term" "is_term" (defArgs s_is_term) (defBody s_is_term) (defScope s_is_term) .none kV_is_term dc_is_term pm_is_term an_is_term cd_is_term ct_is_term), sl_is_term⟩)
    (c_is_term : PySem.W.codeIn K cd_is_term "is_term" = true)
    (k_is_term : PySem.W.keepIn K (.ref f_is_term) = true)
    (a_are_lines : PySem.W.nsIn K mainGlobals "are_lines" = some (some (.ref f_are_lines)))
    (l_are_lines : K.lookup f_are_lines = some ⟨oc_are_lines, od_are_lines, .func (PySem.W.fnOf "are_lines" "are_lines" (defArgs s_are_lines) (defBody s_are_lines) (defScope s_are_lines) .none kV_are_lines dc_are_lines pm_are_lines an_are_lines cd_are_lines ct_are_lines), sl_are_lines⟩)
    (c_are_lines : PySem.W.codeIn K cd_are_lines "are_lines" = true)
    (k_are_lines : PySem.W.keepIn K (.ref f_are_lines) = true)
    (a__law_are_lines : PySem.W.nsIn K mainGlobals "_law_are_lines" = some (some (.ref f__law_are_lines)))
    (l__law_are_lines : K.lookup f__law_are_lines = some ⟨oc__law_are_lines, od__law_are_lines, .func (PySem.W.fnOf "_law_are_lines" "_law_are_lines" (defArgs s__law_are_lines) (defBody s__law_are_lines) (defScope s__law_are_lines) .none kV__law_are_lines dc__law_are_lines pm__law_are_lines an__law_are_lines cd__law_are_lines ct__law_are_lines), sl__law_are_lines⟩)
    (c__law_are_lines : PySem.W.codeIn K cd__law_are_lines "_law_are_lines" = true)
    (k__law_are_lines : PySem.W.keepIn K (.ref f__law_are_lines) = true)
    (a__law_sizes : PySem.W.nsIn K mainGlobals "_law_sizes" = some (some (.ref f__law_sizes)))
    (l__law_sizes : K.lookup f__law_sizes = some ⟨oc__law_sizes, od__law_sizes, .func (PySem.W.fnOf "_law_sizes" "_law_sizes" (defArgs s__law_sizes) (defBody s__law_sizes) (defScope s__law_sizes) .none kV__law_sizes dc__law_sizes pm__law_sizes an__law_sizes cd__law_sizes ct__law_sizes), sl__law_sizes⟩)
    (c__law_sizes : PySem.W.codeIn K cd__law_sizes "_law_sizes" = true)
    (k__law_sizes : PySem.W.keepIn K (.ref f__law_sizes) = true)
    (a_told_within : PySem.W.nsIn K mainGlobals "told_within" = some (some (.ref f_told_within)))
    (l_told_within : K.lookup f_told_within = some ⟨oc_told_within, od_told_within, .func (PySem.W.fnOf "told_within" "told_within" (defArgs s_told_within) (defBody s_told_within) (defScope s_told_within) .none kV_told_within dc_told_within pm_told_within an_told_within cd_told_within ct_told_within), sl_told_within⟩)
    (c_told_within : PySem.W.codeIn K cd_told_within "told_within" = true)
    (k_told_within : PySem.W.keepIn K (.ref f_told_within) = true)
    (a__law_within : PySem.W.nsIn K mainGlobals "_law_within" = some (some (.ref f__law_within)))
    (l__law_within : K.lookup f__law_within = some ⟨oc__law_within, od__law_within, .func (PySem.W.fnOf "_law_within" "_law_within" (defArgs s__law_within) (defBody s__law_within) (defScope s__law_within) .none kV__law_within dc__law_within pm__law_within an__law_within cd__law_within ct__law_within), sl__law_within⟩)
    (c__law_within : PySem.W.codeIn K cd__law_within "_law_within" = true)
    (k__law_within : PySem.W.keepIn K (.ref f__law_within) = true)
    (a_told_by : PySem.W.nsIn K mainGlobals "told_by" = some (some (.ref f_told_by)))
    (l_told_by : K.lookup f_told_by = some ⟨oc_told_by, od_told_by, .func (PySem.W.fnOf "told_by" "told_by" (defArgs s_told_by) (defBody s_told_by) (defScope s_told_by) .none kV_told_by dc_told_by pm_told_by an_told_by cd_told_by ct_told_by), sl_told_by⟩)
    (c_told_by : PySem.W.codeIn K cd_told_by "told_by" = true)
    (k_told_by : PySem.W.keepIn K (.ref f_told_by) = true)
    (a__law_line_tells : PySem.W.nsIn K mainGlobals "_law_line_tells" = some (some (.ref f__law_line_tells)))
    (l__law_line_tells : K.lookup f__law_line_tells = some ⟨oc__law_line_tells, od__law_line_tells, .func (PySem.W.fnOf "_law_line_tells" "_law_line_tells" (defArgs s__law_line_tells) (defBody s__law_line_tells) (defScope s__law_line_tells) .none kV__law_line_tells dc__law_line_tells pm__law_line_tells an__law_line_tells cd__law_line_tells ct__law_line_tells), sl__law_line_tells⟩)
    (c__law_line_tells : PySem.W.codeIn K cd__law_line_tells "_law_line_tells" = true)
    (k__law_line_tells : PySem.W.keepIn K (.ref f__law_line_tells) = true)
    (a_borne : PySem.W.nsIn K mainGlobals "borne" = some (some (.ref f_borne)))
    (l_borne : K.lookup f_borne = some ⟨oc_borne, od_borne, .func (PySem.W.fnOf "borne" "borne" (defArgs s_borne) (defBody s_borne) (defScope s_borne) .none kV_borne dc_borne pm_borne an_borne cd_borne ct_borne), sl_borne⟩)
    (c_borne : PySem.W.codeIn K cd_borne "borne" = true)
    (k_borne : PySem.W.keepIn K (.ref f_borne) = true)
    (a__law_due : PySem.W.nsIn K mainGlobals "_law_due" = some (some (.ref f__law_due)))
    (l__law_due : K.lookup f__law_due = some ⟨oc__law_due, od__law_due, .func (PySem.W.fnOf "_law_due" "_law_due" (defArgs s__law_due) (defBody s__law_due) (defScope s__law_due) .none kV__law_due dc__law_due pm__law_due an__law_due cd__law_due ct__law_due), sl__law_due⟩)
    (c__law_due : PySem.W.codeIn K cd__law_due "_law_due" = true)
    (k__law_due : PySem.W.keepIn K (.ref f__law_due) = true)
    (a__law_right : PySem.W.nsIn K mainGlobals "_law_right" = some (some (.ref f__law_right)))
    (l__law_right : K.lookup f__law_right = some ⟨oc__law_right, od__law_right, .func (PySem.W.fnOf "_law_right" "_law_right" (defArgs s__law_right) (defBody s__law_right) (defScope s__law_right) .none kV__law_right dc__law_right pm__law_right an__law_right cd__law_right ct__law_right), sl__law_right⟩)
    (c__law_right : PySem.W.codeIn K cd__law_right "_law_right" = true)
    (k__law_right : PySem.W.keepIn K (.ref f__law_right) = true)
    (a__law_take : PySem.W.nsIn K mainGlobals "_law_take" = some (some (.ref f__law_take)))
    (l__law_take : K.lookup f__law_take = some ⟨oc__law_take, od__law_take, .func (PySem.W.fnOf "_law_take" "_law_take" (defArgs s__law_take) (defBody s__law_take) (defScope s__law_take) .none kV__law_take dc__law_take pm__law_take an__law_take cd__law_take ct__law_take), sl__law_take⟩)
    (c__law_take : PySem.W.codeIn K cd__law_take "_law_take" = true)
    (k__law_take : PySem.W.keepIn K (.ref f__law_take) = true)
    (a__law_pick : PySem.W.nsIn K mainGlobals "_law_pick" = some (some (.ref f__law_pick)))
    (l__law_pick : K.lookup f__law_pick = some ⟨oc__law_pick, od__law_pick, .func (PySem.W.fnOf "_law_pick" "_law_pick" (defArgs s__law_pick) (defBody s__law_pick) (defScope s__law_pick) .none kV__law_pick dc__law_pick pm__law_pick an__law_pick cd__law_pick ct__law_pick), sl__law_pick⟩)
    (c__law_pick : PySem.W.codeIn K cd__law_pick "_law_pick" = true)
    (k__law_pick : PySem.W.keepIn K (.ref f__law_pick) = true)
    (a__law_pot : PySem.W.nsIn K mainGlobals "_law_pot" = some (some (.ref f__law_pot)))
    (l__law_pot : K.lookup f__law_pot = some ⟨oc__law_pot, od__law_pot, .func (PySem.W.fnOf "_law_pot" "_law_pot" (defArgs s__law_pot) (defBody s__law_pot) (defScope s__law_pot) .none kV__law_pot dc__law_pot pm__law_pot an__law_pot cd__law_pot ct__law_pot), sl__law_pot⟩)
    (c__law_pot : PySem.W.codeIn K cd__law_pot "_law_pot" = true)
    (k__law_pot : PySem.W.keepIn K (.ref f__law_pot) = true)
    (a__law_names : PySem.W.nsIn K mainGlobals "_law_names" = some (some (.ref f__law_names)))
    (l__law_names : K.lookup f__law_names = some ⟨oc__law_names, od__law_names, .func (PySem.W.fnOf "_law_names" "_law_names" (defArgs s__law_names) (defBody s__law_names) (defScope s__law_names) .none kV__law_names dc__law_names pm__law_names an__law_names cd__law_names ct__law_names), sl__law_names⟩)
    (c__law_names : PySem.W.codeIn K cd__law_names "_law_names" = true)
    (k__law_names : PySem.W.keepIn K (.ref f__law_names) = true)
    (a__law_term : PySem.W.nsIn K mainGlobals "_law_term" = some (some (.ref f__law_term)))
    (l__law_term : K.lookup f__law_term = some ⟨oc__law_term, od__law_term, .func (PySem.W.fnOf "_law_term" "_law_term" (defArgs s__law_term) (defBody s__law_term) (defScope s__law_term) .none kV__law_term dc__law_term pm__law_term an__law_term cd__law_term ct__law_term), sl__law_term⟩)
    (c__law_term : PySem.W.codeIn K cd__law_term "_law_term" = true)
    (k__law_term : PySem.W.keepIn K (.ref f__law_term) = true)
    (a__law_good_line : PySem.W.nsIn K mainGlobals "_law_good_line" = some (some (.ref f__law_good_line)))
    (l__law_good_line : K.lookup f__law_good_line = some ⟨oc__law_good_line, od__law_good_line, .func (PySem.W.fnOf "_law_good_line" "_law_good_line" (defArgs s__law_good_line) (defBody s__law_good_line) (defScope s__law_good_line) .none kV__law_good_line dc__law_good_line pm__law_good_line an__law_good_line cd__law_good_line ct__law_good_line), sl__law_good_line⟩)
    (c__law_good_line : PySem.W.codeIn K cd__law_good_line "_law_good_line" = true)
    (k__law_good_line : PySem.W.keepIn K (.ref f__law_good_line) = true)
    (a__law_other : PySem.W.nsIn K mainGlobals "_law_other" = some (some (.ref f__law_other)))
    (l__law_other : K.lookup f__law_other = some ⟨oc__law_other, od__law_other, .func (PySem.W.fnOf "_law_other" "_law_other" (defArgs s__law_other) (defBody s__law_other) (defScope s__law_other) .none kV__law_other dc__law_other pm__law_other an__law_other cd__law_other ct__law_other), sl__law_other⟩)
    (c__law_other : PySem.W.codeIn K cd__law_other "_law_other" = true)
    (k__law_other : PySem.W.keepIn K (.ref f__law_other) = true)
    (a__law_spoilt : PySem.W.nsIn K mainGlobals "_law_spoilt" = some (some (.ref f__law_spoilt)))
    (l__law_spoilt : K.lookup f__law_spoilt = some ⟨oc__law_spoilt, od__law_spoilt, .func (PySem.W.fnOf "_law_spoilt" "_law_spoilt" (defArgs s__law_spoilt) (defBody s__law_spoilt) (defScope s__law_spoilt) .none kV__law_spoilt dc__law_spoilt pm__law_spoilt an__law_spoilt cd__law_spoilt ct__law_spoilt), sl__law_spoilt⟩)
    (c__law_spoilt : PySem.W.codeIn K cd__law_spoilt "_law_spoilt" = true)
    (k__law_spoilt : PySem.W.keepIn K (.ref f__law_spoilt) = true)
    (a_law : PySem.W.nsIn K mainGlobals "law" = some (some (.ref f_law)))
    (l_law : K.lookup f_law = some ⟨oc_law, od_law, .func (PySem.W.fnOf "law" "law" (defArgs s_law) (defBody s_law) (defScope s_law) .none kV_law dc_law pm_law an_law cd_law ct_law), sl_law⟩)
    (c_law : PySem.W.codeIn K cd_law "law" = true)
    (k_law : PySem.W.keepIn K (.ref f_law) = true)
    (z_isinstance : PySem.W.nsIn K mainGlobals "isinstance" = some none)
    (z_int : PySem.W.nsIn K mainGlobals "int" = some none)
    (z_bool : PySem.W.nsIn K mainGlobals "bool" = some none)
    (z_str : PySem.W.nsIn K mainGlobals "str" = some none)
    (z_tuple : PySem.W.nsIn K mainGlobals "tuple" = some none)
    (z_list : PySem.W.nsIn K mainGlobals "list" = some none)
    (z_len : PySem.W.nsIn K mainGlobals "len" = some none)
    (z_all : PySem.W.nsIn K mainGlobals "all" = some none)
    (z_abs : PySem.W.nsIn K mainGlobals "abs" = some none)
    (z_min : PySem.W.nsIn K mainGlobals "min" = some none)
    (z_max : PySem.W.nsIn K mainGlobals "max" = some none)
    (z_sum : PySem.W.nsIn K mainGlobals "sum" = some none)
    (z_range : PySem.W.nsIn K mainGlobals "range" = some none)
    (z_enumerate : PySem.W.nsIn K mainGlobals "enumerate" = some none)
    (z_repr : PySem.W.nsIn K mainGlobals "repr" = some none)
    (z_ValueError : PySem.W.nsIn K mainGlobals "ValueError" = some none)
    (g_LETTERS : PySem.W.nsIn K mainGlobals "LETTERS" = some (some (.str "abcdefghijklmnopqrstuvwxyz" t_LETTERS)))
    (g_LONGEST_NAME : PySem.W.nsIn K mainGlobals "LONGEST_NAME" = some (some (.int 8 t_LONGEST_NAME)))
    (g_MOST_BLANK : PySem.W.nsIn K mainGlobals "MOST_BLANK" = some (some (.int 999 t_MOST_BLANK)))
    (g_MOST_PLACES_terms : PySem.W.nsIn K mainGlobals "MOST_PLACES_terms" = some (some (.int 9 t_MOST_PLACES_terms)))
    (g_MOST_LEVELS : PySem.W.nsIn K mainGlobals "MOST_LEVELS" = some (some (.int 60 t_MOST_LEVELS)))
    (g_MOST_PARTS : PySem.W.nsIn K mainGlobals "MOST_PARTS" = some (some (.int 1000 t_MOST_PARTS)))
    (g_MOST_PLACES_reasons : PySem.W.nsIn K mainGlobals "MOST_PLACES_reasons" = some (some (.int 9 t_MOST_PLACES_reasons)))
    (e_g : PySem.W.nsIn K mainGlobals "NoReason" = some (some (.ref NR)))
    (e_gE : PySem.W.nsIn K mainGlobals "EndError" = some (some (.ref EE)))
    (e_k : PySem.W.keepIn K (.ref NR) = true)
    (e_x : PySem.W.excIn K NR [.type "ValueError", .type "Exception", .type "BaseException", .type "object"] "ValueError.__new__" = true)
    (e_b : PySem.W.subIn K (.ref NR) (.type "BaseException") = some true)
    (e_t : PySem.W.typeIn K (.ref NR) = some (.type "type"))
    (e_eb : PySem.W.subIn K (.ref EE) (.type "BaseException") = some true)
    (e_ed : PySem.W.hasDictIn K EE = true)
    (e_et : PySem.W.typeIn K (.ref EE) = some (.type "type"))
    (e_ee : PySem.W.subIn K (.ref NR) (.ref EE) = some true)
    (e_v : PySem.W.subIn K (.ref NR) (.type "ValueError") = some true)
    (e_hg : PySem.W.findIn K (.ref NR) "__getattribute__" = some (some (.builtin "BaseException.__getattribute__")))
    (e_hk : PySem.W.findIn K (.ref NR) "__getattr__" = some none)
    (e_hd : PySem.W.hasDictIn K NR = true)
    (e_ha : PySem.W.findIn K (.ref NR) "__class__" = some (some (.builtin "object.__class__")))
    (e_hn : PySem.W.specialIn K (.builtin "object.__class__") "__get__" = some (some (.builtin "getset_descriptor.__get__")))
    (e_ht : PySem.W.takesIn K (.builtin "object.__class__") = some true)
    (e_hm : PySem.W.mroIn K NR (.type "object") = some true)
    : ∃ fd : FuncData, (∀ (s : Shared) (v : Value), BindsTo s fd ⟨[v], []⟩ [("script", v)]) ∧ ∀ base : Heap, K.In base → base.Ns mainGlobals mg → FnOkG l.prog w K mg base 68 fa fd ["script"] (spQ K cLaw) := by
  have e := hfa.symm.trans (PySem.W.mg_of X G a_law)
  cases e
  have B : Blt mg := ⟨PySem.W.mg_none_of X G z_isinstance, PySem.W.mg_none_of X G z_int, PySem.W.mg_none_of X G z_bool, PySem.W.mg_none_of X G z_str, PySem.W.mg_none_of X G z_tuple, PySem.W.mg_none_of X G z_list, PySem.W.mg_none_of X G z_len, PySem.W.mg_none_of X G z_all, PySem.W.mg_none_of X G z_abs, PySem.W.mg_none_of X G z_min, PySem.W.mg_none_of X G z_max, PySem.W.mg_none_of X G z_sum, PySem.W.mg_none_of X G z_range, PySem.W.mg_none_of X G z_enumerate, PySem.W.mg_none_of X G z_repr, PySem.W.mg_none_of X G z_ValueError⟩
  have GB : Glb mg := ⟨⟨_, PySem.W.mg_of X G g_LETTERS⟩, ⟨_, PySem.W.mg_of X G g_LONGEST_NAME⟩, ⟨_, PySem.W.mg_of X G g_MOST_BLANK⟩, ⟨_, PySem.W.mg_of X G g_MOST_PLACES_terms⟩, ⟨_, PySem.W.mg_of X G g_MOST_LEVELS⟩, ⟨_, PySem.W.mg_of X G g_MOST_PARTS⟩, ⟨_, PySem.W.mg_of X G g_MOST_PLACES_reasons⟩⟩
  have R : RC K mg NR EE := ⟨PySem.W.mg_of X G e_g, PySem.W.mg_of X G e_gE, PySem.W.exm_ref e_eb e_ed e_et e_ee, e_k, e_x, e_b, e_t, ⟨e_hg, e_hk, e_b, e_hd, e_ha, e_hn, e_ht, e_hm⟩, if_pos (beq_self_eq_true _), kit_type (beq_eq_false_iff_ne.mpr fun z => by cases z) (by decide +kernel) e_v⟩
  have F_is_whole := fun_mk (st := s_is_whole) l_is_whole c_is_whole k_is_whole
  have F__law_whole := fun_mk (st := s__law_whole) l__law_whole c__law_whole k__law_whole
  have F_is_name := fun_mk (st := s_is_name) l_is_name c_is_name k_is_name
  have F__law_is_name := fun_mk (st := s__law_is_name) l__law_is_name c__law_is_name k__law_is_name
  have F_parts_within := fun_mk (st := s_parts_within) l_parts_within c_parts_within k_parts_within
  have F_is_term := fun_mk (st := s_is_term) l_is_term c_is_term k_is_term
  have F_are_lines := fun_mk (st := s_are_lines) l_are_lines c_are_lines k_are_lines
  have F__law_are_lines := fun_mk (st := s__law_are_lines) l__law_are_lines c__law_are_lines k__law_are_lines
  have F__law_sizes := fun_mk (st := s__law_sizes) l__law_sizes c__law_sizes k__law_sizes
  have F_told_within := fun_mk (st := s_told_within) l_told_within c_told_within k_told_within
  have F__law_within := fun_mk (st := s__law_within) l__law_within c__law_within k__law_within
  have F_told_by := fun_mk (st := s_told_by) l_told_by c_told_by k_told_by
  have F__law_line_tells := fun_mk (st := s__law_line_tells) l__law_line_tells c__law_line_tells k__law_line_tells
  have F_borne := fun_mk (st := s_borne) l_borne c_borne k_borne
  have F__law_due := fun_mk (st := s__law_due) l__law_due c__law_due k__law_due
  have F__law_right := fun_mk (st := s__law_right) l__law_right c__law_right k__law_right
  have F__law_take := fun_mk (st := s__law_take) l__law_take c__law_take k__law_take
  have F__law_pick := fun_mk (st := s__law_pick) l__law_pick c__law_pick k__law_pick
  have F__law_pot := fun_mk (st := s__law_pot) l__law_pot c__law_pot k__law_pot
  have F__law_names := fun_mk (st := s__law_names) l__law_names c__law_names k__law_names
  have F__law_term := fun_mk (st := s__law_term) l__law_term c__law_term k__law_term
  have F__law_good_line := fun_mk (st := s__law_good_line) l__law_good_line c__law_good_line k__law_good_line
  have F__law_other := fun_mk (st := s__law_other) l__law_other c__law_other k__law_other
  have F__law_spoilt := fun_mk (st := s__law_spoilt) l__law_spoilt c__law_spoilt k__law_spoilt
  have F_law := fun_mk (st := s_law) l_law c_law k_law
  have b_is_whole := F_is_whole.binds (ps := ["thing"]) fun _ _ _ _ _ _ us hl => match us, hl with | [_], _ => rfl
  have b__law_whole := F__law_whole.binds (ps := ["thing"]) fun _ _ _ _ _ _ us hl => match us, hl with | [_], _ => rfl
  have b_is_name := F_is_name.binds (ps := ["thing"]) fun _ _ _ _ _ _ us hl => match us, hl with | [_], _ => rfl
  have b__law_is_name := F__law_is_name.binds (ps := ["thing"]) fun _ _ _ _ _ _ us hl => match us, hl with | [_], _ => rfl
  have b_parts_within := F_parts_within.binds (ps := ["thing", "room"]) fun _ _ _ _ _ _ us hl => match us, hl with | [_, _], _ => rfl
  have b_is_term := F_is_term.binds (ps := ["thing"]) fun _ _ _ _ _ _ us hl => match us, hl with | [_], _ => rfl
  have b_are_lines := F_are_lines.binds (ps := ["numbers", "many"]) fun _ _ _ _ _ _ us hl => match us, hl with | [_, _], _ => rfl
  have b__law_are_lines := F__law_are_lines.binds (ps := ["some", "many"]) fun _ _ _ _ _ _ us hl => match us, hl with | [_, _], _ => rfl
  have b__law_sizes := F__law_sizes.binds (ps := ["thing"]) fun _ _ _ _ _ _ us hl => match us, hl with | [_], _ => rfl
  have b_told_within := F_told_within.binds (ps := ["line", "told"]) fun _ _ _ _ _ _ us hl => match us, hl with | [_, _], _ => rfl
  have b__law_within := F__law_within.binds (ps := ["line", "told"]) fun _ _ _ _ _ _ us hl => match us, hl with | [_, _], _ => rfl
  have b_told_by := F_told_by.binds (ps := ["line", "told", "pairs"]) fun _ _ _ _ _ _ us hl => match us, hl with | [_, _, _], _ => rfl
  have b__law_line_tells := F__law_line_tells.binds (ps := ["line", "told", "pairs"]) fun _ _ _ _ _ _ us hl => match us, hl with | [_, _, _], _ => rfl
  have b_borne := F_borne.binds (ps := ["lines", "pairs"]) fun _ _ _ _ _ _ us hl => match us, hl with | [_, _], _ => rfl
  have b__law_due := F__law_due.binds (ps := ["lines", "pairs"]) fun _ _ _ _ _ _ us hl => match us, hl with | [_, _], _ => rfl
  have b__law_right := F__law_right.binds (ps := ["lines", "pairs"]) fun _ _ _ _ _ _ us hl => match us, hl with | [_, _], _ => rfl
  have b__law_take := F__law_take.binds (ps := ["pot", "many"]) fun _ _ _ _ _ _ us hl => match us, hl with | [_, _], _ => rfl
  have b__law_pick := F__law_pick.binds (ps := ["pot", "some"]) fun _ _ _ _ _ _ us hl => match us, hl with | [_, _], _ => rfl
  have b__law_pot := F__law_pot.binds (ps := ["script"]) fun _ _ _ _ _ _ us hl => match us, hl with | [_], _ => rfl
  have b__law_names := F__law_names.binds (ps := ["pot", "many"]) fun _ _ _ _ _ _ us hl => match us, hl with | [_, _], _ => rfl
  have b__law_term := F__law_term.binds (ps := ["pot", "names", "deep", "blank"]) fun _ _ _ _ _ _ us hl => match us, hl with | [_, _, _, _], _ => rfl
  have b__law_good_line := F__law_good_line.binds (ps := ["pot", "names", "told", "pairs"]) fun _ _ _ _ _ _ us hl => match us, hl with | [_, _, _, _], _ => rfl
  have b__law_other := F__law_other.binds (ps := ["pot", "piece", "many"]) fun _ _ _ _ _ _ us hl => match us, hl with | [_, _, _], _ => rfl
  have b__law_spoilt := F__law_spoilt.binds (ps := ["pot", "lines"]) fun _ _ _ _ _ _ us hl => match us, hl with | [_, _], _ => rfl
  have b_law := F_law.binds (ps := ["script"]) fun _ _ _ _ _ _ us hl => match us, hl with | [_], _ => rfl
  refine ⟨PySem.W.fnOf "law" "law" (defArgs s_law) (defBody s_law) (defScope s_law) .none kV_law dc_law pm_law an_law cd_law ct_law, fun s v => .of_eq rfl, fun base _ _ => ?_⟩
  have C_is_whole := ok_is_whole (P := l.prog) (w := w) (base := base) F_is_whole (PySem.W.mg_of X G a_is_whole) b_is_whole B
  have C__law_whole := ok__law_whole (P := l.prog) (w := w) (base := base) F__law_whole (PySem.W.mg_of X G a__law_whole) b__law_whole B
  have C_is_name := ok_is_name (P := l.prog) (w := w) (base := base) F_is_name (PySem.W.mg_of X G a_is_name) b_is_name B GB
  have C__law_is_name := ok__law_is_name (P := l.prog) (w := w) (base := base) F__law_is_name (PySem.W.mg_of X G a__law_is_name) b__law_is_name B GB
  have C_parts_within := ok_parts_within (P := l.prog) (w := w) (base := base) F_parts_within (PySem.W.mg_of X G a_parts_within) b_parts_within B GB C_is_whole C_is_name 60
  have C_is_term := ok_is_term (P := l.prog) (w := w) (base := base) F_is_term (PySem.W.mg_of X G a_is_term) b_is_term B GB C_parts_within
  have C_are_lines := ok_are_lines (P := l.prog) (w := w) (base := base) F_are_lines (PySem.W.mg_of X G a_are_lines) b_are_lines B GB C_is_whole
  have C__law_are_lines := ok__law_are_lines (P := l.prog) (w := w) (base := base) F__law_are_lines (PySem.W.mg_of X G a__law_are_lines) b__law_are_lines B GB C__law_whole
  have C__law_sizes := ok__law_sizes (P := l.prog) (w := w) (base := base) F__law_sizes (PySem.W.mg_of X G a__law_sizes) b__law_sizes B GB C__law_whole C__law_is_name 61
  have C_told_within := ok_told_within (P := l.prog) (w := w) (base := base) F_told_within (PySem.W.mg_of X G a_told_within) b_told_within B GB C_is_name C_are_lines C_is_term
  have C__law_within := ok__law_within (P := l.prog) (w := w) (base := base) F__law_within (PySem.W.mg_of X G a__law_within) b__law_within B GB C__law_is_name C__law_are_lines C__law_sizes
  have C_told_by := ok_told_by (P := l.prog) (w := w) (base := base) F_told_by (PySem.W.mg_of X G a_told_by) b_told_by B GB C_told_within C_are_lines C_is_term
  have C__law_line_tells := ok__law_line_tells (P := l.prog) (w := w) (base := base) F__law_line_tells (PySem.W.mg_of X G a__law_line_tells) b__law_line_tells B GB C__law_within C__law_are_lines C__law_sizes
  have C_borne := ok_borne (P := l.prog) (w := w) (base := base) F_borne (PySem.W.mg_of X G a_borne) b_borne B GB R C_told_by
  have C__law_due := ok__law_due (P := l.prog) (w := w) (base := base) F__law_due (PySem.W.mg_of X G a__law_due) b__law_due B GB C__law_line_tells
  have C__law_right := ok__law_right (P := l.prog) (w := w) (base := base) F__law_right (PySem.W.mg_of X G a__law_right) b__law_right B GB R C__law_due C_borne
  have C__law_take := ok__law_take (P := l.prog) (w := w) (base := base) F__law_take (PySem.W.mg_of X G a__law_take) b__law_take B
  have C__law_pick := ok__law_pick (P := l.prog) (w := w) (base := base) F__law_pick (PySem.W.mg_of X G a__law_pick) b__law_pick B C__law_take
  have C__law_pot := ok__law_pot (P := l.prog) (w := w) (base := base) F__law_pot (PySem.W.mg_of X G a__law_pot) b__law_pot B
  have C__law_names := ok__law_names (P := l.prog) (w := w) (base := base) F__law_names (PySem.W.mg_of X G a__law_names) b__law_names B C__law_take C__law_pick
  have C__law_term := ok__law_term (P := l.prog) (w := w) (base := base) F__law_term (PySem.W.mg_of X G a__law_term) b__law_term B C__law_take C__law_pick 2
  have C__law_good_line := ok__law_good_line (P := l.prog) (w := w) (base := base) F__law_good_line (PySem.W.mg_of X G a__law_good_line) b__law_good_line B C__law_take C__law_pick C__law_term
  have C__law_other := ok__law_other (P := l.prog) (w := w) (base := base) F__law_other (PySem.W.mg_of X G a__law_other) b__law_other B C__law_take C__law_pick
  have C__law_spoilt := ok__law_spoilt (P := l.prog) (w := w) (base := base) F__law_spoilt (PySem.W.mg_of X G a__law_spoilt) b__law_spoilt B C__law_take C__law_pick C__law_other
  exact ok_law (P := l.prog) (w := w) (base := base) F_law b_law B C__law_pot C__law_take C__law_names C__law_term C__law_line_tells C__law_good_line C__law_sizes C__law_right C__law_spoilt
theorem walk {l : PySem.W.OpenLaw} {q : Program} {loose : List Str} {XP : (Str → Option Value) → Heap → Prop} {YP : World → Heap → Prop} {d : DefRec} {K : Params → PySem.W.Frag} (hn : l.most = some 63) (hdf : d.params.defaults = [])
    (hY : ∀ (w : World) (h : Heap), YP w h → (K w.params).In h)
    (F : ∀ (w : World) (mg : Str → Option Value) (fa : Addr) (h : Heap), (K w.params).In h → h.Ns mainGlobals mg → mg d.name = some (.ref fa) →
      ∃ fd : FuncData, (∀ (s : Shared) (u : Value), BindsTo s fd ⟨[u], []⟩ [("script", u)]) ∧ ∀ base : Heap, (K w.params).In base → base.Ns mainGlobals mg → FnOkG l.prog w (K w.params) mg base 68 fa fd ["script"] (spQ (K w.params) cLaw)) :
    PySem.W.WalkO q loose XP YP l.row.toRowW d [] (fun f vs => PySem.call f vs) :=
  walkG (n := 63) (k := 68) (x := "script") (sp := fun w => spQ (K w.params) cLaw) hn (by decide) hdf ⟨rfl, by decide, by decide⟩ hY F fun w H a ns hl ho hs => sp_scr hl ho hs
end K78
open PySem PySem.W PyProof.Rows
set_option maxRecDepth 100000 in
set_option maxHeartbeats 0 in
theorem PySem.Challenge.cw_endwise_k78_borne_anywhere_holds : PySem.Challenge.rw_endwise_k78_borne_anywhere.Holds := by
  w_on; o_law; k_head; (case hw => w_witness2)
  k_fill
  refine K78.walk (l := PySem.Challenge.rw_endwise_k78_borne_anywhere) rfl rfl (fun w h Y => PySem.W.kIn_of Y) ?F
  case F =>
    intro w mg fa h KX G hmg
    refine' K78.all_mk KX G hmg ?a_is_whole ?l_is_whole ?c_is_whole ?k_is_whole ?a__law_whole ?l__law_whole ?c__law_whole ?k__law_whole ?a_is_name ?l_is_name ?c_is_name ?k_is_name ?a__law_is_name ?l__law_is_name ?c__law_is_name ?k__law_is_name ?a_parts_within ?l_parts_within ?c_parts_within ?k_parts_within ?a_is_term ?l_is_term ?c_is_term ?k_is_term ?a_are_lines ?l_are_lines ?c_are_lines ?k_are_lines ?a__law_are_lines ?l__law_are_lines ?c__law_are_lines ?k__law_are_lines ?a__law_sizes ?l__law_sizes ?c__law_sizes ?k__law_sizes ?a_told_within ?l_told_within ?c_told_within ?k_told_within ?a__law_within ?l__law_within ?c__law_within ?k__law_within ?a_told_by ?l_told_by ?c_told_by ?k_told_by ?a__law_line_tells ?l__law_line_tells ?c__law_line_tells ?k__law_line_tells ?a_borne ?l_borne ?c_borne ?k_borne ?a__law_due ?l__law_due ?c__law_due ?k__law_due ?a__law_right ?l__law_right ?c__law_right ?k__law_right ?a__law_take ?l__law_take ?c__law_take ?k__law_take ?a__law_pick ?l__law_pick ?c__law_pick ?k__law_pick ?a__law_pot ?l__law_pot ?c__law_pot ?k__law_pot ?a__law_names ?l__law_names ?c__law_names ?k__law_names ?a__law_term ?l__law_term ?c__law_term ?k__law_term ?a__law_good_line ?l__law_good_line ?c__law_good_line ?k__law_good_line ?a__law_other ?l__law_other ?c__law_other ?k__law_other ?a__law_spoilt ?l__law_spoilt ?c__law_spoilt ?k__law_spoilt ?a_law ?l_law ?c_law ?k_law ?z_isinstance ?z_int ?z_bool ?z_str ?z_tuple ?z_list ?z_len ?z_all ?z_abs ?z_min ?z_max ?z_sum ?z_range ?z_enumerate ?z_repr ?z_ValueError ?g_LETTERS ?g_LONGEST_NAME ?g_MOST_BLANK ?g_MOST_PLACES_terms ?g_MOST_LEVELS ?g_MOST_PARTS ?g_MOST_PLACES_reasons ?e_g ?e_gE ?e_k ?e_x ?e_b ?e_t ?e_eb ?e_ed ?e_et ?e_ee ?e_v ?e_hg ?e_hk ?e_hd ?e_ha ?e_hn ?e_ht ?e_hm
    (case a_is_whole => k_is)
    (case l_is_whole => k_is)
    (case c_is_whole => k_is)
    (case k_is_whole => k_is)
    (case a__law_whole => k_is)
    (case l__law_whole => k_is)
    (case c__law_whole => k_is)
    (case k__law_whole => k_is)
    (case a_is_name => k_is)
    (case l_is_name => k_is)
    (case c_is_name => k_is)
    (case k_is_name => k_is)
    (case a__law_is_name => k_is)
    (case l__law_is_name => k_is)
    (case c__law_is_name => k_is)
    (case k__law_is_name => k_is)
    (case a_parts_within => k_is)
    (case l_parts_within => k_is)
    (case c_parts_within => k_is)
    (case k_parts_within => k_is)
    (case a_is_term => k_is)
    (case l_is_term => k_is)
    (case c_is_term => k_is)
    (case k_is_term => k_is)
    (case a_are_lines => k_is)
    (case l_are_lines => k_is)
    (case c_are_lines => k_is)
    (case k_are_lines => k_is)
    (case a__law_are_lines => k_is)
    (case l__law_are_lines => k_is)
    (case c__law_are_lines => k_is)
    (case k__law_are_lines => k_is)
    (case a__law_sizes => k_is)
    (case l__law_sizes => k_is)
    (case c__law_sizes => k_is)
    (case k__law_sizes => k_is)
    (case a_told_within => k_is)
    (case l_told_within => k_is)
    (case c_told_within => k_is)
    (case k_told_within => k_is)
    (case a__law_within => k_is)
    (case l__law_within => k_is)
    (case c__law_within => k_is)
    (case k__law_within => k_is)
    (case a_told_by => k_is)
    (case l_told_by => k_is)
    (case c_told_by => k_is)
    (case k_told_by => k_is)
    (case a__law_line_tells => k_is)
    (case l__law_line_tells => k_is)
    (case c__law_line_tells => k_is)
    (case k__law_line_tells => k_is)
    (case a_borne => k_is)
    (case l_borne => k_is)
    (case c_borne => k_is)
    (case k_borne => k_is)
    (case a__law_due => k_is)
    (case l__law_due => k_is)
    (case c__law_due => k_is)
    (case k__law_due => k_is)
    (case a__law_right => k_is)
    (case l__law_right => k_is)
    (case c__law_right => k_is)
    (case k__law_right => k_is)
    (case a__law_take => k_is)
    (case l__law_take => k_is)
    (case c__law_take => k_is)
    (case k__law_take => k_is)
    (case a__law_pick => k_is)
    (case l__law_pick => k_is)
    (case c__law_pick => k_is)
    (case k__law_pick => k_is)
    (case a__law_pot => k_is)
    (case l__law_pot => k_is)
    (case c__law_pot => k_is)
    (case k__law_pot => k_is)
    (case a__law_names => k_is)
    (case l__law_names => k_is)
    (case c__law_names => k_is)
    (case k__law_names => k_is)
    (case a__law_term => k_is)
    (case l__law_term => k_is)
    (case c__law_term => k_is)
    (case k__law_term => k_is)
    (case a__law_good_line => k_is)
    (case l__law_good_line => k_is)
    (case c__law_good_line => k_is)
    (case k__law_good_line => k_is)
    (case a__law_other => k_is)
    (case l__law_other => k_is)
    (case c__law_other => k_is)
    (case k__law_other => k_is)
    (case a__law_spoilt => k_is)
    (case l__law_spoilt => k_is)
    (case c__law_spoilt => k_is)
    (case k__law_spoilt => k_is)
    (case a_law => k_is)
    (case l_law => k_is)
    (case c_law => k_is)
    (case k_law => k_is)
    (case z_isinstance => k_is)
    (case z_int => k_is)
    (case z_bool => k_is)
    (case z_str => k_is)
    (case z_tuple => k_is)
    (case z_list => k_is)
    (case z_len => k_is)
    (case z_all => k_is)
    (case z_abs => k_is)
    (case z_min => k_is)
    (case z_max => k_is)
    (case z_sum => k_is)
    (case z_range => k_is)
    (case z_enumerate => k_is)
    (case z_repr => k_is)
    (case z_ValueError => k_is)
    (case g_LETTERS => k_is)
    (case g_LONGEST_NAME => k_is)
    (case g_MOST_BLANK => k_is)
    (case g_MOST_PLACES_terms => k_is)
    (case g_MOST_LEVELS => k_is)
    (case g_MOST_PARTS => k_is)
    (case g_MOST_PLACES_reasons => k_is)
    (case e_g => k_is)
    (case e_gE => k_is)
    (case e_k => k_is)
    (case e_x => k_exc)
    (case e_b => k_is)
    (case e_t => k_is)
    (case e_eb => k_is)
    (case e_ed => k_is)
    (case e_et => k_is)
    (case e_ee => k_is)
    (case e_v => k_is)
    (case e_hg => k_is)
    (case e_hk => k_is)
    (case e_hd => k_is)
    (case e_ha => k_is)
    (case e_hn => k_is)
    (case e_ht => k_is)
    (case e_hm => k_is)
