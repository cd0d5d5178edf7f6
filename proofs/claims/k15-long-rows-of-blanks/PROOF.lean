import PyProof.Rows.All
import Wide.All
import OpenK.AllK
import Wide.FinOn
import HandS.ForMost
import HandS.Exc
import HandS.TryOnly
import HandS.ExcOwn
import HandS.WordsExc
import HandS.Codes
import HandS.Flow
import HandS.Style
import HandS.IsInst
import HandS.Conv
import HandS.SortKw
import HandS.Wide
import HandS.TupAny
import HandS.Deep
import KE.KeyNested
import KE.KDictKeyed
import PyProof.StrBlock2
import KE.DatumOrd
import PyProof.ReprRoads
import HandS.ExcIs
import HandS.Ends
import HandS.Iter
import HandS.More
import HandS.WordsDict
import HandS.Finally
import HandS.Zip
import KE.KDictZip
import KE.KEqDict
import KE.GoesMore
import PyProof.EnumMake
import PySem.Challenge.RW_endwise_k15_long_rows_of_blanks
set_option Elab.async false
set_option linter.all false
set_option maxRecDepth 100000
/-! Layer Q: plain data over the hand layer. D: a value without addresses (tuples as they are, lists and dicts by their number in a store); each rule of the hand layer is told over (slots as data, store). -/
namespace Qd
open PySem PySem.Spec PyProof.Rows L2
inductive D where
  | non | bl (b : Bool) | int (i : Int) | str (x : Str) | tup (ds : List D) | loc (n : Nat) | adr (a : Addr) | scr (is : List Int)
/-- what stands at a number of the store -/
inductive Cell where
  | lst (w : Bool) (ds : List D)
  | dK (w : Bool) (kvs : List (Key × D))
  | dT (w : Bool) (kvs : List (List Key × D))
  | ins (C : Addr) (fs : List (Str × D))
  /-- a dict whose keys are tuples of any depth to eight -/
  | dN (P : Program) (w : World) (kvs : List (NestedKey × D))
abbrev Store := List Cell
abbrev Slots := List (Option D)
/-- a list that is never written, no cell of the store -/
def Scr (K : PySem.W.Frag) (φ : List Addr) (H : Hp) (a : Addr) (xs : List V) : Prop :=
  (a ∉ φ ∧ ∃ o, H a = some (.frz o (.lst xs))) ∨ ∃ (o : Obj) (its : Array Value) (n : Nat), K.lookup a = some o ∧ o.cls = .type "list" ∧ o.dict = none ∧ o.data = .seq its n ∧ its.size ≤ sizeLine ∧ Vals xs its.toList
mutual
def RV (K : PySem.W.Frag) (φ : List Addr) (H : Hp) : D → V → Prop
  | .non, v => v = .non
  | .bl b, v => v = .bl b
  | .int i, v => v = .int i
  | .str x, v => v = .str x
  | .tup ds, v => ∃ a xs, v = .ref a ∧ H a = some (.tup xs) ∧ RVs K φ H ds xs
  | .loc n, v => ∃ a, φ[n]? = some a ∧ v = .ref a
  | .adr a, v => v = .ref a
  | .scr is, v => ∃ a, v = .ref a ∧ Scr K φ H a (is.map V.int)
def RVs (K : PySem.W.Frag) (φ : List Addr) (H : Hp) : List D → List V → Prop
  | [], xs => xs = []
  | d :: ds, xs => ∃ x r, xs = x :: r ∧ RV K φ H d x ∧ RVs K φ H ds r
end
def RK {κ : Type} (K : PySem.W.Frag) (φ : List Addr) (H : Hp) : List (κ × D) → List (κ × V) → Prop
  | [], ys => ys = []
  | (k, d) :: r, ys => ∃ v q, ys = (k, v) :: q ∧ RV K φ H d v ∧ RK K φ H r q
mutual
/-- a key as a datum -/
def kD : NestedKey → D
  | .none => .non
  | .num i => .int i
  | .text x => .str x
  | .tup ks => .tup (kDs ks)
def kDs : List NestedKey → List D
  | [] => []
  | k :: ks => kD k :: kDs ks
end
/-- the dict's own object -/
def NdO (P : Program) (w : World) (a : Addr) (xs : List (NestedKey × Addr × Value)) : HO := .ext fun h => ∃ o es ep, h.get? a = some o ∧ o.ExactDict ∧ o.data = .dict es ep ∧ es.toList = xs.map (entryOfKey (nestedKind P w)) ∧ (xs.map (·.1)).Nodup
def NRs (K : PySem.W.Frag) (φ : List Addr) (H : Hp) : List (NestedKey × D) → List (NestedKey × Addr × Value) → Prop
  | [], xs => xs = []
  | (k, d) :: r, xs => ∃ b v u q, xs = (k, b, u) :: q ∧ k.depth ≤ 8 ∧ (∃ ks, k = .tup ks) ∧ RV K φ H (kD k) (.ref b) ∧ RV K φ H d v ∧ RelV v u ∧ NRs K φ H r q
def RC (K : PySem.W.Frag) (φ : List Addr) (H : Hp) (a : Addr) : Cell → Prop
  | .lst w ds => ∃ xs, (if w = true then H a = some (.lst xs) else SqL K H a xs) ∧ RVs K φ H ds xs
  | .dK w kvs => ∃ ys, (if w = true then H a = some (.dK ys) else ∃ o, H a = some (.frz o (.dK ys))) ∧ RK K φ H kvs ys
  | .dT w kvs => ∃ ys, (if w = true then H a = some (.dT ys) else ∃ o, H a = some (.frz o (.dT ys))) ∧ RK K φ H kvs ys
  | .ins C fs => ∃ dx gs, H a = some (.ins C dx gs) ∧ RK K φ H fs gs
  | .dN P w kvs => ∃ xs, H a = some (NdO P w a xs) ∧ (a == sysModules) = false ∧ xs.length ≤ sizeLine ∧ NRs K φ H kvs xs
/-- the store is held at the addresses φ -/
structure RS (K : PySem.W.Frag) (φ : List Addr) (S : Store) (H : Hp) : Prop where
  len : φ.length = S.length
  nd : φ.Nodup
  dom : ∀ a ∈ φ, H a ≠ none
  here : ∀ (n : Nat) (a : Addr) (c : Cell), φ[n]? = some a → S[n]? = some c → RC K φ H a c
/-- the slots are held -/
structure RE (K : PySem.W.Frag) (φ : List Addr) (H : Hp) (env : Slots) (σ : L2.St) : Prop where
  len : env.length = σ.length
  here : ∀ (i : Nat) (d : D), env[i]? = some (some d) → ∃ v, σ[i]? = some (some v) ∧ RV K φ H d v
/-- from one heap to a later one -/
structure Ext (φ : List Addr) (H : Hp) (φ' : List Addr) (H' : Hp) : Prop where
  pre : ∃ ψ, φ' = φ ++ ψ ∧ ∀ a ∈ ψ, H a = none
  keep : ∀ a o, a ∉ φ → H a = some o → H' a = some o
  tups : ∀ a xs, H a = some (.tup xs) → H' a = some (.tup xs)
  dom : ∀ a ∈ φ', H' a ≠ none
  frzs : ∀ a o u, H a = some (.frz o u) → H' a = some (.frz o u)
section
variable {K : PySem.W.Frag} {φ φ' φ'' : List Addr} {H H' H'' : Hp} {S : Store}
theorem Ext.refl (d : ∀ a ∈ φ, H a ≠ none) : Ext φ H φ H := ⟨⟨[], by simp, fun a h => by simp at h⟩, fun _ _ _ h => h, fun _ _ h => h, d, fun _ _ _ h => h⟩
theorem RS.ext (r : RS K φ S H) : Ext φ H φ H := Ext.refl r.dom
theorem Ext.get (e : Ext φ H φ' H') {n : Nat} {a : Addr} (h : φ[n]? = some a) : φ'[n]? = some a := by
  obtain ⟨ψ, rfl, _⟩ := e.pre
  rw [List.getElem?_append_left (List.getElem?_eq_some_iff.mp h).1]
  exact h
theorem Ext.mem (e : Ext φ H φ' H') {a : Addr} (h : a ∈ φ) : a ∈ φ' := by
  obtain ⟨ψ, rfl, _⟩ := e.pre
  exact List.mem_append_left _ h
theorem Ext.trans (e : Ext φ H φ' H') (f : Ext φ' H' φ'' H'') : Ext φ H φ'' H'' := by
  obtain ⟨ψ, e1, e2⟩ := e.pre
  obtain ⟨χ, f1, f2⟩ := f.pre
  refine ⟨⟨ψ ++ χ, ?_, fun a ha => ?_⟩, fun a o na h => ?_, fun a xs h => f.tups a xs (e.tups a xs h), f.dom, fun a o u h => f.frzs a o u (e.frzs a o u h)⟩
  · rw [f1, e1, List.append_assoc]
  · rcases List.mem_append.mp ha with h | h
    · exact e2 a h
    · cases q : H a with
      | none => rfl
      | some o =>
        by_cases hm : a ∈ φ
        · exact absurd (f2 a h) (e.dom a (e.mem hm))
        · have := f2 a h
          rw [e.keep a o hm q] at this
          cases this
  · refine f.keep a o ?_ (e.keep a o na h)
    rw [e1]
    intro hm
    rcases List.mem_append.mp hm with z | z
    · exact na z
    · rw [e2 a z] at h
      cases h
/-- what a value leans on -/
structure Mn (φ : List Addr) (H : Hp) (φ' : List Addr) (H' : Hp) : Prop where
  get : ∀ {n : Nat} {a : Addr}, φ[n]? = some a → φ'[n]? = some a
  tups : ∀ a xs, H a = some (.tup xs) → H' a = some (.tup xs)
  scr : ∀ a o xs, a ∉ φ → H a = some (.frz o (.lst xs)) → a ∉ φ' ∧ H' a = some (.frz o (.lst xs))
theorem Ext.scr (e : Ext φ H φ' H') (a : Addr) (o : Obj) (xs : List V) (n : a ∉ φ) (h : H a = some (.frz o (.lst xs))) : a ∉ φ' ∧ H' a = some (.frz o (.lst xs)) := by
  refine ⟨fun z => ?_, e.keep a _ n h⟩
  obtain ⟨ψ, rfl, e2⟩ := e.pre
  rcases List.mem_append.mp z with q | q
  · exact n q
  · rw [e2 a q] at h; cases h
theorem Ext.mn (e : Ext φ H φ' H') : Mn φ H φ' H' := ⟨e.get, e.tups, e.scr⟩
theorem Mn.sqT (e : Mn φ H φ' H') {a : Addr} {xs : List V} (h : H a = some (.tup xs)) : H' a = some (.tup xs) := e.tups a xs h
theorem Ext.sqT (e : Ext φ H φ' H') {a : Addr} {xs : List V} (h : H a = some (.tup xs)) : H' a = some (.tup xs) := e.tups a xs h
mutual
theorem RV.mn (e : Mn φ H φ' H') : ∀ {d : D} {v : V}, RV K φ H d v → RV K φ' H' d v
  | .non, _, h => h
  | .bl _, _, h => h
  | .int _, _, h => h
  | .str _, _, h => h
  | .tup ds, _, ⟨a, xs, e1, e2, e3⟩ => ⟨a, xs, e1, e.sqT e2, RVs.mn e e3⟩
  | .loc n, _, ⟨a, e1, e2⟩ => ⟨a, e.get e1, e2⟩
  | .adr _, _, h => h
  | .scr _, _, ⟨a, e1, e2⟩ => ⟨a, e1, e2.elim (fun ⟨n, o, h⟩ => .inl (let z := e.scr a o _ n h; ⟨z.1, o, z.2⟩)) .inr⟩
theorem RVs.mn (e : Mn φ H φ' H') : ∀ {ds : List D} {vs : List V}, RVs K φ H ds vs → RVs K φ' H' ds vs
  | [], _, h => h
  | _ :: _, _, ⟨x, r, e1, e2, e3⟩ => ⟨x, r, e1, RV.mn e e2, RVs.mn e e3⟩
end
theorem RK.mn {κ : Type} (e : Mn φ H φ' H') : ∀ {ds : List (κ × D)} {vs : List (κ × V)}, RK K φ H ds vs → RK K φ' H' ds vs
  | [], _, h => h
  | (_, _) :: _, _, ⟨x, r, e1, e2, e3⟩ => ⟨x, r, e1, e2.mn e, RK.mn e e3⟩
theorem NRs.mn (e : Mn φ H φ' H') : ∀ {ds : List (NestedKey × D)} {xs : List (NestedKey × Addr × Value)}, NRs K φ H ds xs → NRs K φ' H' ds xs
  | [], _, h => h
  | (_, _) :: _, _, ⟨b, v, u, q, e1, e2, e3, h1, h2, h3, h4⟩ => ⟨b, v, u, q, e1, e2, e3, h1.mn e, h2.mn e, h3, h4.mn e⟩
theorem RV.mono {d : D} {v : V} (h : RV K φ H d v) (e : Ext φ H φ' H') : RV K φ' H' d v := h.mn e.mn
theorem RVs.mono {d : List D} {v : List V} (h : RVs K φ H d v) (e : Ext φ H φ' H') : RVs K φ' H' d v := h.mn e.mn
theorem RK.mono {κ : Type} {ds : List (κ × D)} {vs : List (κ × V)} (h : RK K φ H ds vs) (e : Ext φ H φ' H') : RK K φ' H' ds vs := h.mn e.mn
theorem RE.mono {env : Slots} {σ : L2.St} (r : RE K φ H env σ) (e : Ext φ H φ' H') : RE K φ' H' env σ :=
  ⟨r.len, fun i d h => let ⟨v, a, b⟩ := r.here i d h; ⟨v, a, b.mono e⟩⟩
theorem RVs.len : ∀ {ds : List D} {vs : List V}, RVs K φ H ds vs → ds.length = vs.length
  | [], _, h => by subst h; rfl
  | _ :: _, _, ⟨x, r, e1, _, e3⟩ => by subst e1; simp [RVs.len e3]
theorem RVs.get : ∀ {ds : List D} {vs : List V} {i : Nat} {d : D}, RVs K φ H ds vs → ds[i]? = some d → ∃ v, vs[i]? = some v ∧ RV K φ H d v
  | [], _, _, _, _, e => by simp at e
  | d :: ds, _, 0, _, ⟨x, r, e1, e2, e3⟩, e => by
    subst e1
    simp at e
    subst e
    exact ⟨x, rfl, e2⟩
  | d :: ds, _, i + 1, _, ⟨x, r, e1, e2, e3⟩, e => by
    subst e1
    obtain ⟨v, h1, h2⟩ := RVs.get (i := i) e3 (by simpa using e)
    exact ⟨v, by simpa using h1, h2⟩
theorem RVs.append : ∀ {ds es : List D} {vs us : List V}, RVs K φ H ds vs → RVs K φ H es us → RVs K φ H (ds ++ es) (vs ++ us)
  | [], _, _, _, h, g => by subst h; exact g
  | _ :: _, _, _, _, ⟨x, r, e1, e2, e3⟩, g => by subst e1; exact ⟨x, _, rfl, e2, RVs.append e3 g⟩
theorem RVs.take : ∀ {ds : List D} {vs : List V} (n : Nat), RVs K φ H ds vs → RVs K φ H (ds.take n) (vs.take n)
  | _, _, 0, _ => rfl
  | [], _, _ + 1, h => by subst h; rfl
  | _ :: _, _, n + 1, ⟨x, r, e1, e2, e3⟩ => by subst e1; exact ⟨x, _, rfl, e2, RVs.take n e3⟩
theorem RVs.drop : ∀ {ds : List D} {vs : List V} (n : Nat), RVs K φ H ds vs → RVs K φ H (ds.drop n) (vs.drop n)
  | _, _, 0, h => h
  | [], _, _ + 1, h => by subst h; rfl
  | _ :: _, _, n + 1, ⟨x, r, e1, e2, e3⟩ => by subst e1; exact RVs.drop n e3
theorem RVs.set : ∀ {ds : List D} {vs : List V} {d : D} {v : V} (n : Nat), RVs K φ H ds vs → RV K φ H d v → RVs K φ H (ds.set n d) (vs.set n v)
  | [], _, _, _, _, h, _ => by subst h; rfl
  | _ :: _, _, _, _, 0, ⟨x, r, e1, e2, e3⟩, g => by subst e1; exact ⟨_, _, rfl, g, e3⟩
  | _ :: _, _, _, _, n + 1, ⟨x, r, e1, e2, e3⟩, g => by subst e1; exact ⟨x, _, rfl, e2, RVs.set n e3 g⟩
theorem RVs.reverse : ∀ {ds : List D} {vs : List V}, RVs K φ H ds vs → RVs K φ H ds.reverse vs.reverse
  | [], _, h => by subst h; rfl
  | d :: ds, _, ⟨x, r, e1, e2, e3⟩ => by
    subst e1
    rw [List.reverse_cons, List.reverse_cons]
    exact (RVs.reverse e3).append ⟨x, [], rfl, e2, rfl⟩
theorem RVs.ints : ∀ {is : List Int}, RVs K φ H (is.map D.int) (is.map V.int)
  | [] => rfl
  | i :: is => ⟨_, _, rfl, rfl, RVs.ints⟩
theorem RVs.nil_iff {ds : List D} {vs : List V} (h : RVs K φ H ds vs) : ds.isEmpty = vs.isEmpty := by
  have e := h.len
  cases ds <;> cases vs <;> simp_all
/-- a new object that is no cell of the store -/
theorem Ext.fresh {p : Addr} {o : HO} (r : RS K φ S H) (h : H p = none) : Ext φ H φ (upd H p o) := by
  refine ⟨⟨[], by simp, fun a z => by simp at z⟩, fun a u _ e => ?_, fun a xs e => ?_, fun a ha => ?_, fun a ob u e => by rw [upd_ne (ne_of_none e h)]; exact e⟩
  · rw [upd_ne (ne_of_none e h)]; exact e
  · rw [upd_ne (ne_of_none e h)]; exact e
  · by_cases e : a = p
    · subst e; rw [upd_same]; exact fun z => by cases z
    · rw [upd_ne e]; exact r.dom a ha
theorem RC.mono {a : Addr} {c : Cell} (e : Mn φ H φ' H') (ha : H' a = H a) (h : RC K φ H a c) : RC K φ' H' a c := by
  cases c with
  | lst w ds =>
    obtain ⟨xs, h1, h2⟩ := h
    refine ⟨xs, ?_, h2.mn e⟩
    cases w with
    | true => rw [if_pos rfl] at h1 ⊢; rw [ha]; exact h1
    | false =>
      rw [if_neg (by decide)] at h1 ⊢
      rcases h1 with (h1 | ⟨o, h1⟩) | h1
      · exact .inl (.inl (by rw [ha]; exact h1))
      · exact .inl (.inr ⟨o, by rw [ha]; exact h1⟩)
      · exact .inr h1
  | dK w kvs =>
    obtain ⟨xs, h1, h2⟩ := h
    exact ⟨xs, by rw [ha]; exact h1, h2.mn e⟩
  | dT w kvs =>
    obtain ⟨xs, h1, h2⟩ := h
    exact ⟨xs, by rw [ha]; exact h1, h2.mn e⟩
  | ins C fs =>
    obtain ⟨dx, xs, h1, h2⟩ := h
    exact ⟨dx, xs, by rw [ha]; exact h1, h2.mn e⟩
  | dN P w kvs =>
    obtain ⟨xs, h1, h2, h3, h4⟩ := h
    exact ⟨xs, by rw [ha]; exact h1, h2, h3, h4.mn e⟩
/-- the store as it was, at a later heap that keeps its objects -/
theorem RS.later (r : RS K φ S H) (e : Mn φ H φ H') (k : ∀ a ∈ φ, H' a = H a) : RS K φ S H' :=
  ⟨r.len, r.nd, fun a h => by rw [k a h]; exact r.dom a h, fun n a c h1 h2 => (r.here n a c h1 h2).mono e (k a (List.mem_of_getElem? h1))⟩
theorem RS.fresh {p : Addr} {o : HO} (r : RS K φ S H) (h : H p = none) : RS K φ S (upd H p o) :=
  r.later (Ext.fresh r h).mn fun a ha => upd_ne fun e => r.dom a ha (e ▸ h)
/-- a new cell -/
theorem Ext.push {p : Addr} {o : HO} (r : RS K φ S H) (h : H p = none) : Ext φ H (φ ++ [p]) (upd H p o) := by
  have e := Ext.fresh (o := o) r h
  refine ⟨⟨[p], rfl, fun a z => ?_⟩, e.keep, e.tups, fun a ha => ?_, e.frzs⟩
  · rw [List.mem_singleton.mp z]; exact h
  · rcases List.mem_append.mp ha with z | z
    · exact e.dom a z
    · rw [List.mem_singleton.mp z, upd_same]; exact fun z => by cases z
theorem RS.push {p : Addr} {o : HO} {c : Cell} (r : RS K φ S H) (h : H p = none) (hc : RC K (φ ++ [p]) (upd H p o) p c) : RS K (φ ++ [p]) (S ++ [c]) (upd H p o) := by
  have e := Ext.push (o := o) r h
  have np : p ∉ φ := fun z => r.dom p z h
  refine ⟨by simp [r.len], ?_, e.dom, fun n a c' h1 h2 => ?_⟩
  · rw [List.nodup_append]
    refine ⟨r.nd, by simp, fun a ha b hb => ?_⟩
    rw [List.mem_singleton.mp hb]
    rintro rfl
    exact np ha
  · by_cases hn : n < φ.length
    · rw [List.getElem?_append_left hn] at h1
      rw [List.getElem?_append_left (by rw [← r.len]; exact hn)] at h2
      exact (r.here n a c' h1 h2).mono e.mn (upd_ne fun z => np (z ▸ List.mem_of_getElem? h1))
    · rw [List.getElem?_append_right (by omega)] at h1
      rw [List.getElem?_append_right (by rw [← r.len]; omega)] at h2
      rw [← r.len] at h2
      have hz : n - φ.length = 0 := by
        have := (List.getElem?_eq_some_iff.mp h1).1
        simp at this
        omega
      rw [hz] at h1 h2
      simp at h1 h2
      subst h1 h2
      exact hc
/-- a cell is changed -/
def Nt (H : Hp) (p : Addr) : Prop := (∀ xs, ¬ H p = some (.tup xs)) ∧ ∀ o u, ¬ H p = some (.frz o u)
theorem Ext.write {n : Nat} {p : Addr} {o : HO} (r : RS K φ S H) (h : φ[n]? = some p) (nt : Nt H p) : Ext φ H φ (upd H p o) := by
  refine ⟨⟨[], by simp, fun a z => by simp at z⟩, fun a u na e => ?_, fun a xs e => ?_, fun a ha => ?_, fun a ob u e => ?_⟩
  · rw [upd_ne]; exact e
    rintro rfl
    exact na (List.mem_of_getElem? h)
  · have ne : a ≠ p := fun z => nt.1 xs (z ▸ e)
    rw [upd_ne ne]; exact e
  · by_cases e : a = p
    · subst e; rw [upd_same]; exact fun z => by cases z
    · rw [upd_ne e]; exact r.dom a ha
  · have ne : a ≠ p := fun z => nt.2 ob u (z ▸ e)
    rw [upd_ne ne]; exact e
theorem Mn.write {n : Nat} {p : Addr} {o : HO} (h : φ[n]? = some p) (nt : ∀ xs, ¬ H p = some (.tup xs)) : Mn φ H φ (upd H p o) := by
  refine ⟨fun h => h, fun a xs e => ?_, fun a ob xs na e => ⟨na, ?_⟩⟩
  · have ne : a ≠ p := fun z => nt xs (z ▸ e)
    rw [upd_ne ne]; exact e
  · rw [upd_ne]; exact e
    rintro rfl
    exact na (List.mem_of_getElem? h)
theorem RS.write' {n : Nat} {p : Addr} {o : HO} {c : Cell} (r : RS K φ S H) (h : φ[n]? = some p) (nt : ∀ xs, ¬ H p = some (.tup xs)) (hc : RC K φ (upd H p o) p c) : RS K φ (S.set n c) (upd H p o) := by
  have mn := Mn.write (o := o) h nt
  have hn : n < φ.length := (List.getElem?_eq_some_iff.mp h).1
  refine ⟨by simp [r.len], r.nd, fun a ha => ?_, fun m a c' h1 h2 => ?_⟩
  · by_cases e : a = p
    · subst e; rw [upd_same]; exact fun z => by cases z
    · rw [upd_ne e]; exact r.dom a ha
  by_cases hm : m = n
  · subst hm
    rw [h] at h1
    cases h1
    rw [List.getElem?_set_self (by rw [← r.len]; exact hn)] at h2
    cases h2
    exact hc
  · rw [List.getElem?_set_ne (Ne.symm hm)] at h2
    refine (r.here m a c' h1 h2).mono mn (upd_ne ?_)
    rintro rfl
    exact hm ((List.getElem?_inj (List.getElem?_eq_some_iff.mp h1).1 r.nd).mp (h1.trans h.symm))
theorem RS.write {n : Nat} {p : Addr} {o : HO} {c : Cell} (r : RS K φ S H) (h : φ[n]? = some p) (nt : Nt H p) (hc : RC K φ (upd H p o) p c) : RS K φ (S.set n c) (upd H p o) := r.write' h nt.1 hc
theorem nt_lst {p : Addr} {xs : List V} (h : H p = some (.lst xs)) : Nt H p := ⟨fun ys z => (by rw [h] at z; cases z), fun o u z => (by rw [h] at z; cases z)⟩
theorem nt_dK {p : Addr} {xs : List (Key × V)} (h : H p = some (.dK xs)) : Nt H p := ⟨fun ys z => (by rw [h] at z; cases z), fun o u z => (by rw [h] at z; cases z)⟩
theorem nt_dT {p : Addr} {xs : List (List Key × V)} (h : H p = some (.dT xs)) : Nt H p := ⟨fun ys z => (by rw [h] at z; cases z), fun o u z => (by rw [h] at z; cases z)⟩
theorem nt_ins {p C dx : Addr} {fs : List (Str × V)} (h : H p = some (.ins C dx fs)) : Nt H p := ⟨fun ys z => (by rw [h] at z; cases z), fun o u z => (by rw [h] at z; cases z)⟩
end
/-! ### the readings over data -/
abbrev XQ := Addr → Store → Prop
abbrev WE := Slots → Store → (D → Store → Prop) → XQ → Prop
abbrev WT := Slots → Store → (Bool → Store → Prop) → XQ → Prop
abbrev WA := Slots → Store → (List D → Store → Prop) → XQ → Prop
structure Go where
  nx : Slots → Store → Prop
  rt : D → Store → Prop
  bk : Slots → Store → Prop := fun _ _ => False
  ct : Slots → Store → Prop := fun _ _ => False
abbrev WS := Go → Slots → Store → XQ → Prop
/-- what an exception's end asks -/
def XOk (K : PySem.W.Frag) (φ : List Addr) (H : Hp) (X' : XQ) (E : XK) : Prop := ∀ c S' φ' H', Ext φ H φ' H' → RS K φ' S' H' → X' c S' → E (.ref c) none H'
def VOk (K : PySem.W.Frag) (φ : List Addr) (H : Hp) (Q' : D → Store → Prop) (Q : VK) : Prop := ∀ d S' φ' v H', Ext φ H φ' H' → RS K φ' S' H' → RV K φ' H' d v → Q' d S' → Q v H'
def SOk (K : PySem.W.Frag) (φ : List Addr) (H : Hp) (Q' : Slots → Store → Prop) (Q : L2.St → Hp → Prop) : Prop := ∀ env S' φ' σ H', Ext φ H φ' H' → RS K φ' S' H' → RE K φ' H' env σ → Q' env S' → Q σ H'
structure GOk (K : PySem.W.Frag) (φ : List Addr) (H : Hp) (G : Go) (D : Ends) : Prop where
  nx : SOk K φ H G.nx D.nx
  rt : VOk K φ H G.rt D.rt
  bk : SOk K φ H G.bk D.bk
  ct : SOk K φ H G.ct D.ct
def LE (K : PySem.W.Frag) (E : XK) (w : WE) : TE := fun σ H Q => ∃ φ env S Q' X', RS K φ S H ∧ RE K φ H env σ ∧ w env S Q' X' ∧ VOk K φ H Q' Q ∧ XOk K φ H X' E
def LT (K : PySem.W.Frag) (E : XK) (w : WT) : TT := fun σ H Q => ∃ φ env S Q' X', RS K φ S H ∧ RE K φ H env σ ∧ w env S Q' X' ∧ (∀ b S' φ' H', Ext φ H φ' H' → RS K φ' S' H' → Q' b S' → Q b H') ∧ XOk K φ H X' E
def LA (K : PySem.W.Frag) (E : XK) (w : WA) : TA := fun σ H Q => ∃ φ env S Q' X', RS K φ S H ∧ RE K φ H env σ ∧ w env S Q' X' ∧ (∀ ds S' φ' vs H', Ext φ H φ' H' → RS K φ' S' H' → RVs K φ' H' ds vs → Q' ds S' → Q vs H') ∧ XOk K φ H X' E
def LS (K : PySem.W.Frag) (E : XK) (w : WS) : TS := fun D σ H => ∃ φ env S G X', RS K φ S H ∧ RE K φ H env σ ∧ w G env S X' ∧ GOk K φ H G D ∧ XOk K φ H X' E
section
variable {K : PySem.W.Frag} {φ φ' : List Addr} {H H' : Hp} {S : Store} {X' : XQ} {E : XK} {Q' : D → Store → Prop} {Q : VK} {P' : Slots → Store → Prop} {P : L2.St → Hp → Prop}
theorem XOk.mono (h : XOk K φ H X' E) (e : Ext φ H φ' H') : XOk K φ' H' X' E := fun c S' φ2 H2 f r x => h c S' φ2 H2 (e.trans f) r x
theorem VOk.mono (h : VOk K φ H Q' Q) (e : Ext φ H φ' H') : VOk K φ' H' Q' Q := fun d S' φ2 v H2 f r x q => h d S' φ2 v H2 (e.trans f) r x q
theorem SOk.mono (h : SOk K φ H P' P) (e : Ext φ H φ' H') : SOk K φ' H' P' P := fun d S' φ2 v H2 f r x q => h d S' φ2 v H2 (e.trans f) r x q
theorem GOk.mono {G : Go} {D : Ends} (h : GOk K φ H G D) (e : Ext φ H φ' H') : GOk K φ' H' G D := ⟨h.nx.mono e, h.rt.mono e, h.bk.mono e, h.ct.mono e⟩
end
/-! ### the judgements over data -/
section
variable {X : Cx}
theorem _root_.L2.PE.imp {e : Expr} {t u : TE} (h : PE X e t) (f : ∀ σ H Q, u σ H Q → t σ H Q) : PE X e u := ⟨fun pins s σ H Q I q => h.run pins s σ H Q I (f σ H Q q)⟩
theorem _root_.L2.PT.imp {e : Expr} {t u : TT} (h : PT X e t) (f : ∀ σ H Q, u σ H Q → t σ H Q) : PT X e u := ⟨fun pins s σ H Q I q => h.run pins s σ H Q I (f σ H Q q)⟩
theorem _root_.L2.PA.imp {e : List Expr} {t u : TA} (h : PA X e t) (f : ∀ σ H Q, u σ H Q → t σ H Q) : PA X e u := ⟨fun pos pins s σ H Q I q => h.run pos pins s σ H Q I (f σ H Q q)⟩
theorem _root_.L2.PS.imp {e : Stmt} {t u : TS} (h : PS X e t) (f : ∀ D σ H, u D σ H → t D σ H) : PS X e u := ⟨fun pins s σ H D I q => h.run pins s σ H D I (f D σ H q)⟩
theorem _root_.L2.PSs.imp {e : List Stmt} {t u : TS} (h : PSs X e t) (f : ∀ D σ H, u D σ H → t D σ H) : PSs X e u := ⟨fun pins s σ H D I q => h.run pins s σ H D I (f D σ H q)⟩
end
abbrev QE (X : Cx) (E : XK) (e : Expr) (w : WE) : Prop := PE X e (LE X.K E w)
abbrev QT (X : Cx) (E : XK) (e : Expr) (w : WT) : Prop := PT X e (LT X.K E w)
abbrev QA (X : Cx) (E : XK) (e : List Expr) (w : WA) : Prop := PA X e (LA X.K E w)
abbrev QS (X : Cx) (E : XK) (e : Stmt) (w : WS) : Prop := PS X e (LS X.K E w)
abbrev QSs (X : Cx) (E : XK) (e : List Stmt) (w : WS) : Prop := PSs X e (LS X.K E w)
/-! ### names, constants -/
def wVar (i : Nat) : WE := fun env S Q _ => ∃ d, env[i]? = some (some d) ∧ Q d S
def wC (d : D) : WE := fun _ S Q _ => Q d S
section
variable {X : Cx} {E : XK}
theorem qv (i : Nat) {x : Str} {pos : Pos} (hN : X.N[i]? = some x := by rfl) (hv : Vis X.env.scope x := by first | exact Or.inl rfl | exact Or.inr (Or.inl rfl) | exact Or.inr (Or.inr rfl)) (hd : (x == ("__debug__" : Str)) = false := by decide)
    (hcd : (x == ("__classdict__" : Str)) = false := by decide) : QE X E (.Name x pos) (wVar i) :=
  (pe_var hN hv hd hcd).imp fun σ H Q ⟨φ, env, S, Q', X', rs, re, ⟨d, e, q⟩, k, _⟩ =>
    let ⟨v, h1, h2⟩ := re.here i d e
    ⟨v, h1, k d S φ v H rs.ext rs h2 q⟩
theorem q_int {i j pos} : QE X E (.Constant (.int i) j pos) (wC (.int i)) := pe_int.imp fun σ H Q ⟨φ, env, S, Q', X', rs, re, q, k, _⟩ => k (.int i) S φ _ H rs.ext rs rfl q
theorem q_bl {i j pos} : QE X E (.Constant (.bool i) j pos) (wC (.bl i)) := pe_bl.imp fun σ H Q ⟨φ, env, S, Q', X', rs, re, q, k, _⟩ => k (.bl i) S φ _ H rs.ext rs rfl q
theorem q_non {j pos} : QE X E (.Constant .none j pos) (wC .non) := pe_non.imp fun σ H Q ⟨φ, env, S, Q', X', rs, re, q, k, _⟩ => k (.non) S φ _ H rs.ext rs rfl q
theorem q_str {i j pos} : QE X E (.Constant (.str i) j pos) (wC (.str i)) := pe_str.imp fun σ H Q ⟨φ, env, S, Q', X', rs, re, q, k, _⟩ => k (.str i) S φ _ H rs.ext rs rfl q
/-- a module's constant: an int, a text -/
theorem q_globI {x : Str} {i : Int} {pos : Pos} (hg : Gl X x) (hm : ∃ t, X.mg x = some (.int i t)) (hd : (x == ("__debug__" : Str)) = false := by decide) : QE X E (.Name x pos) (wC (.int i)) :=
  let ⟨t, hm⟩ := hm
  (pe_glob (v := .int i) hg hm ⟨t, rfl⟩ hd).imp fun σ H Q ⟨φ, env, S, Q', X', rs, re, q, k, _⟩ => k (.int i) S φ _ H rs.ext rs rfl q
theorem q_globS {x : Str} {i : Str} {pos : Pos} (hg : Gl X x) (hm : ∃ t, X.mg x = some (.str i t)) (hd : (x == ("__debug__" : Str)) = false := by decide) : QE X E (.Name x pos) (wC (.str i)) :=
  let ⟨t, hm⟩ := hm
  (pe_glob (v := .str i) hg hm ⟨t, rfl⟩ hd).imp fun σ H Q ⟨φ, env, S, Q', X', rs, re, q, k, _⟩ => k (.str i) S φ _ H rs.ext rs rfl q
end
/-! ### two operands -/
/-- an operation on data: what it asks of the operands, the store, what follows -/
abbrev WO2 := D → D → Store → (D → Store → Prop) → Prop
def RO2 (K : PySem.W.Frag) (r : R2) (f : WO2) : Prop := ∀ φ S H x y v u (Q : VK) Q', RS K φ S H → RV K φ H x v → RV K φ H y u → f x y S Q' → VOk K φ H Q' Q → r v u H Q
def wOp (f : WO2) (a b : WE) : WE := fun env S Q X => a env S (fun x S1 => b env S1 (fun y S2 => f x y S2 Q) X) X
theorem op_lift {K : PySem.W.Frag} {E : XK} {r : R2} {f : WO2} {a b : WE} (h : RO2 K r f) : ∀ σ H Q, LE K E (wOp f a b) σ H Q → tOp r (LE K E a) (LE K E b) σ H Q :=
  fun σ H Q ⟨φ, env, S, Q', X', rs, re, q, k, x⟩ =>
    ⟨φ, env, S, _, X', rs, re, q, fun d S1 φ1 v H1 e1 rs1 rv1 q1 =>
      ⟨φ1, env, S1, _, X', rs1, re.mono e1, q1, fun d2 S2 φ2 u H2 e2 rs2 rv2 q2 => h φ2 S2 H2 d d2 v u Q Q' rs2 (rv1.mono e2) rv2 q2 (k.mono (e1.trans e2)), x.mono e1⟩, x⟩
abbrev WO1 := D → Store → (D → Store → Prop) → Prop
def RO1 (K : PySem.W.Frag) (r : V → Hp → VK → Prop) (f : WO1) : Prop := ∀ φ S H x v (Q : VK) Q', RS K φ S H → RV K φ H x v → f x S Q' → VOk K φ H Q' Q → r v H Q
def wUn (f : WO1) (a : WE) : WE := fun env S Q X => a env S (fun x S1 => f x S1 Q) X
theorem un_lift {K : PySem.W.Frag} {E : XK} {r : V → Hp → VK → Prop} {f : WO1} {a : WE} (h : RO1 K r f) : ∀ σ H Q, LE K E (wUn f a) σ H Q → tUn r (LE K E a) σ H Q :=
  fun σ H Q ⟨φ, env, S, Q', X', rs, re, q, k, x⟩ =>
    ⟨φ, env, S, _, X', rs, re, q, fun d S1 φ1 v H1 e1 rs1 rv1 q1 => h φ1 S1 H1 d v Q Q' rs1 rv1 q1 (k.mono e1), x⟩
section
variable {X : Cx} {E : XK} {a b : Expr} {wa wb : WE} {pos : Pos}
theorem q_op {op : Operator} {r : R2} {f : WO2} (ho : OpR X (binaryOp op) r) (h : RO2 X.K r f) (ha : QE X E a wa) (hb : QE X E b wb) : QE X E (.BinOp a op b pos) (wOp f wa wb) :=
  (pe_op ho ha hb).imp (op_lift h)
theorem q_un {op : UnaryOp} {r : V → Hp → VK → Prop} {f : WO1} (ho : UnR X (unaryOp op) r) (h : RO1 X.K r f) (ha : QE X E a wa) : QE X E (.UnaryOp op a pos) (wUn f wa) :=
  (pe_un ho ha).imp (un_lift h)
theorem q_cmp {op : CmpOp} {r : R2} {f : WO2} (ho : OpR X (compareOp op) r) (h : RO2 X.K r f) (ha : QE X E a wa) (hb : QE X E b wb) (hm : behindInMarks op b = false) : QE X E (.Compare a [op] [b] pos) (wOp f wa wb) :=
  (pe_cmpR ho ha hb hm).imp (op_lift h)
theorem q_ix {r : R2} {f : WO2} (ho : IxR X r) (h : RO2 X.K r f) (ha : QE X E a wa) (hb : QE X E b wb) (hs : PlainIx b := by exact fun _ _ => rfl) : QE X E (.Subscript a b pos) (wOp f wa wb) :=
  (pe_ix ho ha hb hs).imp (op_lift h)
end
end Qd
set_option Elab.async false
set_option linter.all false
set_option maxRecDepth 100000
/-! Layer Q, operators and built-ins over data. -/
namespace Qd
open PySem PySem.Spec PyProof.Rows L2
theorem OpR.orr {X : Cx} {f : Value → Value → Sem Value} {r r' : R2} (h : OpR X f r) (h' : OpR X f r') : OpR X f (fun x y H Q => r x y H Q ∨ r' x y H Q) := fun pins s σ H x y v u Q I rx ry q => q.elim (h pins s σ H x y v u Q I rx ry) (h' pins s σ H x y v u Q I rx ry)
def lineD : Nat := 16777216
theorem lineD_eq : lineD = sizeLine := by decide
section
variable {K : PySem.W.Frag} {φ : List Addr} {H : Hp} {S : Store} {Q : VK} {Q' : D → Store → Prop}
theorem VOk.same (k : VOk K φ H Q' Q) (r : RS K φ S H) {d : D} {v : V} (rv : RV K φ H d v) (q : Q' d S) : Q v H := k d S φ v H r.ext r rv q
/-- a new tuple -/
theorem VOk.tup (k : VOk K φ H Q' Q) (r : RS K φ S H) {ds : List D} {xs : List V} (rv : RVs K φ H ds xs) (q : Q' (.tup ds) S) {p : Addr} (hp : H p = none) : Q (.ref p) (upd H p (.tup xs)) :=
  k (.tup ds) S φ _ _ (Ext.fresh r hp) (r.fresh hp) ⟨p, xs, rfl, upd_same, rv.mono (Ext.fresh r hp)⟩ q
/-- a new list -/
theorem VOk.lst (k : VOk K φ H Q' Q) (r : RS K φ S H) {ds : List D} {xs : List V} (rv : RVs K φ H ds xs) (q : Q' (.loc S.length) (S ++ [.lst true ds])) {p : Addr} (hp : H p = none) : Q (.ref p) (upd H p (.lst xs)) := by
  have e := Ext.push (o := .lst xs) r hp
  refine k (.loc S.length) (S ++ [.lst true ds]) (φ ++ [p]) _ _ e (r.push (c := .lst true ds) hp ⟨xs, by rw [if_pos rfl]; exact upd_same, rv.mono e⟩) ⟨p, ?_, rfl⟩ q
  rw [← r.len, List.getElem?_append_right (Nat.le_refl _), Nat.sub_self]
  rfl
theorem RS.lst (r : RS K φ S H) {n : Nat} {w : Bool} {ds : List D} {v : V} (rv : RV K φ H (.loc n) v) (h : S[n]? = some (.lst w ds)) : ∃ a xs, v = .ref a ∧ φ[n]? = some a ∧ SqL K H a xs ∧ RVs K φ H ds xs ∧ (w = true → H a = some (.lst xs)) := by
  obtain ⟨a, h1, rfl⟩ := rv
  obtain ⟨xs, h2, h3⟩ := r.here n a _ h1 h
  cases w with
  | true => rw [if_pos rfl] at h2; exact ⟨a, xs, rfl, h1, .inl (.inl h2), h3, fun _ => h2⟩
  | false => rw [if_neg (by decide)] at h2; exact ⟨a, xs, rfl, h1, h2, h3, fun z => by cases z⟩
end
/-! ### + - * // % ** -/
def fAdd : WO2 := fun x y S Q => match x, y with
  | .int i, .int j => Q (.int (i + j)) S
  | .str a, .str b => a.length + b.length ≤ lineD ∧ Q (.str (a ++ b)) S
  | .tup a, .tup b => a.length + b.length ≤ lineD ∧ Q (.tup (a ++ b)) S
  | .loc m, .loc n => ∃ ds es, S[m]? = some (.lst true ds) ∧ S[n]? = some (.lst true es) ∧ ds.length + es.length ≤ lineD ∧ Q (.loc S.length) (S ++ [.lst true (ds ++ es)])
  | _, _ => False
def rAdd4 (K : PySem.W.Frag) : R2 := fun x y H Q => rI0 (fun i j => .int (i + j)) x y H Q ∨ (∃ i j, x = .str i ∧ y = .str j ∧ i.length + j.length ≤ sizeLine ∧ Q (.str (i ++ j)) H) ∨ rCatA K x y H Q ∨ rCat x y H Q
theorem op_add4 {X : Cx} : OpR X (binaryOp .Add) (rAdd4 X.K) := OpR.orr op_add (OpR.orr op_add_str (OpR.orr op_catA op_cat))
theorem ro_add {K : PySem.W.Frag} : RO2 K (rAdd4 K) fAdd := by
  intro φ S H x y v u Q Q' r hx hy h k
  cases x <;> cases y <;> first
    | exact False.elim h
    | skip
  case int.int i j =>
    cases hx; cases hy
    exact .inl ⟨i, j, rfl, rfl, k.same r (d := .int (i + j)) rfl h⟩
  case str.str i j =>
    cases hx; cases hy
    exact .inr (.inl ⟨i, j, rfl, rfl, h.1, k.same r (d := .str (i ++ j)) rfl h.2⟩)
  case tup.tup a b =>
    obtain ⟨p, xs, rfl, h1, h2⟩ := id hx
    obtain ⟨q, ys, rfl, g1, g2⟩ := id hy
    obtain ⟨hl, h⟩ := h
    refine .inr (.inr (.inl ⟨p, q, xs, ys, rfl, rfl, SqT.of h1, SqT.of g1, by rw [← h2.len, ← g2.len]; exact hl, fun e => ?_, fun _ e => ?_, fun _ _ p' hp => k.tup r (h2.append g2) h hp⟩))
    · subst e
      cases a with
      | nil => exact k.same r hy h
      | cons _ _ => obtain ⟨_, _, z, _⟩ := h2; cases z
    · subst e
      cases b with
      | nil => rw [List.append_nil] at h; exact k.same r hx h
      | cons _ _ => obtain ⟨_, _, z, _⟩ := g2; cases z
  case loc.loc m n =>
    obtain ⟨ds, es, e1, e2, hl, h⟩ := h
    obtain ⟨a, xs, rfl, _, _, h2, h3⟩ := r.lst hx e1
    obtain ⟨b, ys, rfl, _, _, g2, g3⟩ := r.lst hy e2
    exact .inr (.inr (.inr ⟨a, b, xs, ys, rfl, rfl, h3 rfl, g3 rfl, by rw [← h2.len, ← g2.len]; exact hl, fun p hp => k.lst r (h2.append g2) h hp⟩))
def fSub : WO2 := fun x y S Q => match x, y with
  | .int i, .int j => Q (.int (i - j)) S
  | _, _ => False
theorem ro_sub {K : PySem.W.Frag} : RO2 K (rI0 fun i j => .int (i - j)) fSub := by
  intro φ S H x y v u Q Q' r hx hy h k
  cases x <;> cases y <;> first
    | exact False.elim h
    | skip
  case int.int i j =>
    cases hx; cases hy
    exact ⟨i, j, rfl, rfl, k.same r (d := .int (i - j)) rfl h⟩
def fMul : WO2 := fun x y S Q => match x, y with
  | .int i, .int j => CMulW i j ∧ Q (.int (i * j)) S
  | _, _ => False
theorem ro_mul {K : PySem.W.Frag} : RO2 K (rI CMulW fun i j => .int (i * j)) fMul := by
  intro φ S H x y v u Q Q' r hx hy h k
  cases x <;> cases y <;> first
    | exact False.elim h
    | skip
  case int.int i j =>
    cases hx; cases hy
    exact ⟨i, j, rfl, rfl, h.1, k.same r (d := .int (i * j)) rfl h.2⟩
def fDiv : WO2 := fun x y S Q => match x, y with
  | .int i, .int j => CDivW i j ∧ Q (.int (i / j)) S
  | _, _ => False
theorem ro_div {K : PySem.W.Frag} : RO2 K (rI CDivW fun i j => .int (i / j)) fDiv := by
  intro φ S H x y v u Q Q' r hx hy h k
  cases x <;> cases y <;> first
    | exact False.elim h
    | skip
  case int.int i j =>
    cases hx; cases hy
    exact ⟨i, j, rfl, rfl, h.1, k.same r (d := .int (i / j)) rfl h.2⟩
def fMod : WO2 := fun x y S Q => match x, y with
  | .int i, .int j => 0 < j ∧ Q (.int (i % j)) S
  | _, _ => False
theorem ro_mod {K : PySem.W.Frag} : RO2 K (rI (fun _ j => 0 < j) fun i j => .int (i % j)) fMod := by
  intro φ S H x y v u Q Q' r hx hy h k
  cases x <;> cases y <;> first
    | exact False.elim h
    | skip
  case int.int i j =>
    cases hx; cases hy
    exact ⟨i, j, rfl, rfl, h.1, k.same r (d := .int (i % j)) rfl h.2⟩
def fPow : WO2 := fun x y S Q => match x, y with
  | .int i, .int j => CPow i j ∧ Q (.int (i ^ j.toNat)) S
  | _, _ => False
theorem ro_pow {K : PySem.W.Frag} : RO2 K (rI CPow fun i j => .int (i ^ j.toNat)) fPow := by
  intro φ S H x y v u Q Q' r hx hy h k
  cases x <;> cases y <;> first
    | exact False.elim h
    | skip
  case int.int i j =>
    cases hx; cases hy
    exact ⟨i, j, rfl, rfl, h.1, k.same r (d := .int (i ^ j.toNat)) rfl h.2⟩
/-- [..] * n -/
def fRep : WO2 := fun x y S Q => match x, y with
  | .loc m, .int k => ∃ ds, S[m]? = some (.lst true ds) ∧ -(2 ^ 63) ≤ k ∧ k < 2 ^ 63 ∧ ds.length * k.toNat ≤ lineD ∧ Q (.loc S.length) (S ++ [.lst true (List.replicate k.toNat ds).flatten])
  | _, _ => False
theorem RVs.rep {K : PySem.W.Frag} {φ : List Addr} {H : Hp} {ds : List D} {xs : List V} (h : RVs K φ H ds xs) : ∀ n : Nat, RVs K φ H (List.replicate n ds).flatten (List.replicate n xs).flatten
  | 0 => rfl
  | n + 1 => by
    rw [List.replicate_succ, List.replicate_succ, List.flatten_cons, List.flatten_cons]
    exact h.append (RVs.rep h n)
theorem ro_rep {K : PySem.W.Frag} : RO2 K rRep fRep := by
  intro φ S H x y v u Q Q' r hx hy h k
  cases x <;> cases y <;> first
    | exact False.elim h
    | skip
  case loc.int m i =>
    obtain ⟨ds, e1, h1, h2, h3, h⟩ := h
    obtain ⟨a, xs, rfl, _, _, g2, g3⟩ := r.lst hx e1
    cases hy
    exact ⟨a, i, xs, rfl, rfl, g3 rfl, h1, h2, by rw [← g2.len]; exact h3, fun p hp => k.lst r (g2.rep _) h hp⟩
def fNeg : WO1 := fun x S Q => match x with
  | .int i => Q (.int (-i)) S
  | _ => False
theorem ro_neg {K : PySem.W.Frag} : RO1 K (rU fun i => .int (-i)) fNeg := by
  intro φ S H x v Q Q' r hx h k
  cases x <;> first
    | exact False.elim h
    | skip
  case int i =>
    cases hx
    exact ⟨i, rfl, k.same r (d := .int (-i)) rfl h⟩
/-! ### comparisons -/
def fCmp (f : Int → Int → Bool) : WO2 := fun x y S Q => match x, y with
  | .int i, .int j => Q (.bl (f i j)) S
  | _, _ => False
theorem ro_cmp {K : PySem.W.Frag} {f : Int → Int → Bool} : RO2 K (rI0 fun i j => .bl (f i j)) (fCmp f) := by
  intro φ S H x y v u Q Q' r hx hy h k
  cases x <;> cases y <;> first
    | exact False.elim h
    | skip
  case int.int i j =>
    cases hx; cases hy
    exact ⟨i, j, rfl, rfl, k.same r (d := .bl (f i j)) rfl h⟩
mutual
/-- the plain data that stands for d in the store S -/
inductive Py (S : Store) : D → PyData → Prop
  | non : Py S .non .none
  | bl (b : Bool) : Py S (.bl b) (.bool b)
  | int (i : Int) : Py S (.int i) (.int i)
  | str (x : Str) : Py S (.str x) (.str x)
  | tup {ds : List D} {ps : List PyData} : Pys S ds ps → Py S (.tup ds) (.tuple ps)
  | lst {n : Nat} {w : Bool} {ds : List D} {ps : List PyData} : S[n]? = some (.lst w ds) → Pys S ds ps → Py S (.loc n) (.list ps)
inductive Pys (S : Store) : List D → List PyData → Prop
  | nil : Pys S [] []
  | cons {d : D} {ds : List D} {p : PyData} {ps : List PyData} : Py S d p → Pys S ds ps → Pys S (d :: ds) (p :: ps)
end
mutual
theorem Py.dp {K : PySem.W.Frag} {φ : List Addr} {H : Hp} {S : Store} (r : RS K φ S H) : ∀ {d : D} {p : PyData} {v : V}, Py S d p → RV K φ H d v → Dp K H v p
  | _, _, _, .non, h => by cases h; exact .non
  | _, _, _, .bl b, h => by cases h; exact .bl b
  | _, _, _, .int b, h => by cases h; exact .int b
  | _, _, _, .str b, h => by cases h; exact .str b
  | _, _, _, .tup hs, h => by
    obtain ⟨a, xs, rfl, h1, h2⟩ := h
    exact .tup (SqT.of h1) (Pys.dp r hs h2)
  | _, _, _, .lst e hs, h => by
    obtain ⟨a, xs, rfl, _, h1, h2, _⟩ := r.lst h e
    exact .lst h1 (Pys.dp r hs h2)
theorem Pys.dp {K : PySem.W.Frag} {φ : List Addr} {H : Hp} {S : Store} (r : RS K φ S H) : ∀ {d : List D} {p : List PyData} {v : List V}, Pys S d p → RVs K φ H d v → DpAll K H v p
  | _, _, _, .nil, h => by subst h; exact .nil
  | _, _, _, .cons a b, h => by
    obtain ⟨x, q, rfl, h1, h2⟩ := h
    exact .cons (Py.dp r a h1) (Pys.dp r b h2)
end
def fEqD (neg : Bool) : WO2 := fun x y S Q => ∃ p q, Py S x p ∧ Py S y q ∧ SeqAt.shaped p = true ∧ SeqAt.shaped q = true ∧ Q (.bl (if neg then !PyData.eqv p q else PyData.eqv p q)) S
theorem ro_eqD {K : PySem.W.Frag} : RO2 K (rEqD K) (fEqD false) := by
  intro φ S H x y v u Q Q' r hx hy ⟨p, q, h1, h2, h3, h4, h⟩ k
  exact ⟨p, q, h1.dp r hx, h2.dp r hy, h3, h4, k.same r (d := .bl _) rfl h⟩
theorem ro_neD {K : PySem.W.Frag} : RO2 K (rNeD K) (fEqD true) := by
  intro φ S H x y v u Q Q' r hx hy ⟨p, q, h1, h2, h3, h4, h⟩ k
  exact ⟨p, q, h1.dp r hx, h2.dp r hy, h3, h4, k.same r (d := .bl _) rfl h⟩
/-- == and != : scalars at once; else by the data -/
def scD : D → D → Option Bool
  | .int i, .int j => some (decide (i = j))
  | .str i, .str j => some (decide (i = j))
  | .bl i, .bl j => some (decide (i = j))
  | .non, .non => some true
  | .non, .int _ => some false | .int _, .non => some false | .non, .bl _ => some false | .bl _, .non => some false | .non, .str _ => some false | .str _, .non => some false
  | .int _, .str _ => some false | .str _, .int _ => some false | .bl _, .str _ => some false | .str _, .bl _ => some false
  | _, _ => none
def fEq (neg : Bool) : WO2 := fun x y S Q => match scD x y with
  | some b => Q (.bl (if neg then !b else b)) S
  | none => fEqD neg x y S Q
theorem scD_eq {K : PySem.W.Frag} {φ : List Addr} {H : Hp} {x y : D} {v u : V} {b : Bool} (h : scD x y = some b) (hx : RV K φ H x v) (hy : RV K φ H y u) : scal v u = true ∧ decide (v = u) = b := by
  cases x <;> cases y <;> simp only [scD, Option.some.injEq] at h <;> first
    | contradiction
    | (cases hx; cases hy; subst h; exact ⟨rfl, by simp⟩)
def rEq2 (K : PySem.W.Frag) : R2 := fun x y H Q => rEq x y H Q ∨ rEqD K x y H Q
def rNe2 (K : PySem.W.Frag) : R2 := fun x y H Q => rNe x y H Q ∨ rNeD K x y H Q
theorem ro_eq {K : PySem.W.Frag} : RO2 K (rEq2 K) (fEq false) := fun φ S H x y v u Q Q' r hx hy h k => by
  unfold fEq at h
  split at h
  · rename_i b e
    obtain ⟨h1, h2⟩ := scD_eq e hx hy
    exact .inl ⟨h1, k.same r (d := .bl _) (by rw [h2]; rfl) h⟩
  · exact .inr (ro_eqD φ S H x y v u Q Q' r hx hy h k)
theorem ro_ne {K : PySem.W.Frag} : RO2 K (rNe2 K) (fEq true) := fun φ S H x y v u Q Q' r hx hy h k => by
  unfold fEq at h
  split at h
  · rename_i b e
    obtain ⟨h1, h2⟩ := scD_eq e hx hy
    exact .inl ⟨h1, k.same r (d := .bl _) (by rw [h2]; rfl) h⟩
  · exact .inr (ro_neD φ S H x y v u Q Q' r hx hy h k)
theorem op_eq2 {X : Cx} (hu : X.A.units + 64 < cLine) : OpR X (compareOp .Eq) (rEq2 X.K) := OpR.orr op_eq (op_eqD hu)
theorem op_ne2 {X : Cx} (hu : X.A.units + 64 < cLine) : OpR X (compareOp .NotEq) (rNe2 X.K) := OpR.orr op_ne (op_neD hu)
/-- x is None -/
def isNon : D → Bool
  | .non => true
  | _ => false
def fIs (neg : Bool) : WO1 := fun x S Q => Q (.bl (if neg then !isNon x else isNon x)) S
theorem RV.non_iff {K : PySem.W.Frag} {φ : List Addr} {H : Hp} {d : D} {v : V} (h : RV K φ H d v) : decide (v = .non) = isNon d := by
  cases d with
  | non => cases h; rfl
  | bl _ => cases h; rfl
  | int _ => cases h; rfl
  | str _ => cases h; rfl
  | tup _ => obtain ⟨_, _, rfl, _⟩ := h; rfl
  | loc _ => obtain ⟨_, _, rfl⟩ := h; rfl
  | adr _ => cases h; rfl
  | scr _ => obtain ⟨_, rfl, _⟩ := h; rfl
/-! ### items, slices, len -/
def fIx : WO2 := fun x y S Q => match x, y with
  | .tup ds, .int i => ∃ d, atI ds i = some d ∧ Q d S
  | .str z, .int i => ∃ c, z.length ≤ lineD ∧ atI z.cps.toList i = some c ∧ Q (.str ⟨#[c]⟩) S
  | .loc n, .int i => ∃ w ds d, S[n]? = some (.lst w ds) ∧ atI ds i = some d ∧ Q d S
  | _, _ => False
theorem RVs.atI {K : PySem.W.Frag} {φ : List Addr} {H : Hp} {ds : List D} {vs : List V} {i : Int} {d : D} (h : RVs K φ H ds vs) (e : atI ds i = some d) : ∃ v, L2.atI vs i = some v ∧ RV K φ H d v := by
  unfold L2.atI at e ⊢
  rw [← h.len]
  cases q : ixN ds.length i with
  | none => rw [q] at e; cases e
  | some j =>
    rw [q] at e
    exact h.get e
theorem ro_ix {K : PySem.W.Frag} : RO2 K (rIx K) fIx := by
  intro φ S H x y v u Q Q' r hx hy h k
  cases x <;> cases y <;> first
    | exact False.elim h
    | skip
  case tup.int ds i =>
    obtain ⟨d, e, h⟩ := h
    obtain ⟨p, xs, rfl, h1, h2⟩ := hx
    cases hy
    obtain ⟨z, e2, rz⟩ := h2.atI e
    exact .inr (.inl ⟨p, xs, i, z, rfl, rfl, SqT.of h1, e2, k.same r rz h⟩)
  case str.int z i =>
    obtain ⟨c, hz, e, h⟩ := h
    cases hx; cases hy
    exact .inr (.inr ⟨z, i, c, rfl, rfl, hz, e, k.same r (d := .str ⟨#[c]⟩) rfl h⟩)
  case loc.int n i =>
    obtain ⟨w, ds, d, e1, e, h⟩ := h
    obtain ⟨p, xs, rfl, _, h1, h2, _⟩ := r.lst hx e1
    cases hy
    obtain ⟨z, e2, rz⟩ := h2.atI e
    exact .inl ⟨p, xs, i, z, rfl, rfl, h1, e2, k.same r rz h⟩
def cutD (xs : List D) (lo hi : Option Int) : List D := (xs.drop (HT.sIx xs.length 0 lo)).take (HT.sIx xs.length xs.length hi - HT.sIx xs.length 0 lo)
theorem RVs.cut {K : PySem.W.Frag} {φ : List Addr} {H : Hp} {ds : List D} {vs : List V} (lo hi : Option Int) (h : RVs K φ H ds vs) : RVs K φ H (cutD ds lo hi) (cutV vs lo hi) := by
  unfold cutD cutV
  rw [← h.len]
  exact (h.drop _).take _
abbrev WP := Slots → Store → (Option Int → Store → Prop) → XQ → Prop
def LO (K : PySem.W.Frag) (E : XK) (w : WP) : TO := fun σ H Q => ∃ φ env S Q' X', RS K φ S H ∧ RE K φ H env σ ∧ w env S Q' X' ∧ (∀ o S' φ' H', Ext φ H φ' H' → RS K φ' S' H' → Q' o S' → Q o H') ∧ XOk K φ H X' E
def wNoPart : WP := fun _ S Q _ => Q none S
def wPart (a : WE) : WP := fun env S Q X => a env S (fun x S1 => match x with | .int i => Q (some i) S1 | _ => False) X
abbrev WSl := D → Option Int → Option Int → Store → (D → Store → Prop) → Prop
def RSl (K : PySem.W.Frag) (r : V → Option Int → Option Int → Hp → VK → Prop) (f : WSl) : Prop := ∀ φ S H x lo hi v (Q : VK) Q', RS K φ S H → RV K φ H x v → f x lo hi S Q' → VOk K φ H Q' Q → r v lo hi H Q
def wSl (f : WSl) (a : WE) (l h : WP) : WE := fun env S Q X => a env S (fun x S1 => l env S1 (fun i S2 => h env S2 (fun j S3 => f x i j S3 Q) X) X) X
def fSl : WSl := fun x lo hi S Q => match x with
  | .tup ds => Q (.tup (cutD ds lo hi)) S
  | .str z => z.length ≤ lineD ∧ Q (.str (cutS z lo hi)) S
  | .loc n => ∃ w ds, S[n]? = some (.lst w ds) ∧ Q (.loc S.length) (S ++ [.lst true (cutD ds lo hi)])
  | .scr is => Q (.loc S.length) (S ++ [.lst true (cutD (is.map D.int) lo hi)])
  | _ => False
theorem Scr.sq {K : PySem.W.Frag} {φ : List Addr} {H : Hp} {a : Addr} {xs : List V} (h : Scr K φ H a xs) : SqL K H a xs := h.elim (fun ⟨_, o, g⟩ => .inl (.inr ⟨o, g⟩)) .inr
theorem SlR.orr {X : Cx} {r r' : V → Option Int → Option Int → Hp → VK → Prop} (h : SlR X r) (h' : SlR X r') : SlR X (fun x l u H Q => r x l u H Q ∨ r' x l u H Q) :=
  fun pins s σ H x v vl vu lo hi sl Q I rx hs pl pu q => q.elim (h pins s σ H x v vl vu lo hi sl Q I rx hs pl pu) (h' pins s σ H x v vl vu lo hi sl Q I rx hs pl pu)
def rSl3 (K : PySem.W.Frag) : V → Option Int → Option Int → Hp → VK → Prop := fun x l u H Q => rSlA K x l u H Q ∨ rSlS x l u H Q ∨ rSlL K x l u H Q
theorem sl_3 {X : Cx} : SlR X (rSl3 X.K) := SlR.orr sl_tupA (SlR.orr sl_str sl_list)
theorem ro_sl {K : PySem.W.Frag} : RSl K (rSl3 K) fSl := by
  intro φ S H x lo hi v Q Q' r hx h k
  cases x <;> first
    | exact False.elim h
    | skip
  case tup ds =>
    obtain ⟨p, xs, rfl, h1, h2⟩ := id hx
    refine .inl ⟨p, xs, rfl, SqT.of h1, fun ⟨e1, e2⟩ => ?_, fun _ q hq => k.tup r (h2.cut lo hi) h hq⟩
    have e : cutD ds lo hi = ds := by
      unfold cutD
      rw [h2.len, e1, e2]
      simp [← h2.len]
    have h' : Q' (.tup (cutD ds lo hi)) S := h
    rw [e] at h'
    exact k.same r hx h'
  case str z =>
    cases hx
    exact .inr (.inl ⟨z, rfl, h.1, k.same r (d := .str _) rfl h.2⟩)
  case loc n =>
    obtain ⟨w, ds, e1, h⟩ := h
    obtain ⟨p, xs, rfl, _, h1, h2, _⟩ := r.lst hx e1
    exact .inr (.inr ⟨p, xs, rfl, h1, fun q hq => k.lst r (h2.cut lo hi) h hq⟩)
  case scr is =>
    obtain ⟨p, rfl, h1⟩ := hx
    exact .inr (.inr ⟨p, _, rfl, h1.sq, fun q hq => k.lst r ((RVs.ints (is := is)).cut lo hi) h hq⟩)
section
variable {X : Cx} {E : XK} {a b : Expr} {wa wb : WE} {pos p2 : Pos}
theorem qo_none : PO X none (LO X.K E wNoPart) := ⟨fun pins s σ H Q I ⟨φ, env, S, Q', X', rs, re, q, k, _⟩ => po_none.run pins s σ H Q I (k _ S φ H rs.ext rs q)⟩
theorem qo_some (ha : QE X E a wa) : PO X (some a) (LO X.K E (wPart wa)) := ⟨fun pins s σ H Q I ⟨φ, env, S, Q', X', rs, re, q, k, x⟩ =>
  (po_some ha).run pins s σ H Q I ⟨φ, env, S, _, X', rs, re, q, fun d S1 φ1 v H1 e1 rs1 rv1 q1 => by
    cases d <;> first
      | exact False.elim q1
      | skip
    case int i =>
      cases rv1
      exact ⟨i, rfl, k _ S1 φ1 H1 e1 rs1 q1⟩, x⟩⟩
theorem q_sl {r : V → Option Int → Option Int → Hp → VK → Prop} {f : WSl} {lo hi : Option Expr} {wl wh : WP} (hr : SlR X r) (h : RSl X.K r f) (ha : QE X E a wa) (hl : PO X lo (LO X.K E wl)) (hh : PO X hi (LO X.K E wh)) : QE X E (.Subscript a (.Slice lo hi none p2) pos) (wSl f wa wl wh) :=
  (pe_slice hr ha hl hh).imp fun σ H Q ⟨φ, env, S, Q', X', rs, re, q, k, x⟩ =>
    ⟨φ, env, S, _, X', rs, re, q, fun d S1 φ1 v H1 e1 rs1 rv1 q1 =>
      ⟨φ1, env, S1, _, X', rs1, re.mono e1, q1, fun o S2 φ2 H2 e2 rs2 q2 =>
        ⟨φ2, env, S2, _, X', rs2, re.mono (e1.trans e2), q2, fun o2 S3 φ3 H3 e3 rs3 q3 => h φ3 S3 H3 d o o2 v Q Q' rs3 (rv1.mono (e2.trans e3)) q3 (k.mono ((e1.trans e2).trans e3)), x.mono (e1.trans e2)⟩, x.mono e1⟩, x⟩
end
/-! ### calls of built-ins -/
abbrev WOn := List D → Store → (D → Store → Prop) → Prop
def ROn (K : PySem.W.Frag) (r : List V → Hp → VK → Prop) (f : WOn) : Prop := ∀ φ S H ds vs (Q : VK) Q', RS K φ S H → RVs K φ H ds vs → f ds S Q' → VOk K φ H Q' Q → r vs H Q
def wCB (f : WOn) (a : WA) : WE := fun env S Q X => a env S (fun ds S1 => f ds S1 Q) X
def wNil : WA := fun _ S Q _ => Q [] S
def wCons (a : WE) (r : WA) : WA := fun env S Q X => a env S (fun d S1 => r env S1 (fun ds S2 => Q (d :: ds) S2) X) X
section
variable {X : Cx} {E : XK} {a : Expr} {wa : WE} {es : List Expr} {wr : WA} {pos : Pos}
theorem qa_nil : QA X E [] wNil := pa_nil.imp fun σ H Q ⟨φ, env, S, Q', X', rs, re, q, k, _⟩ => k [] S φ [] H rs.ext rs rfl q
theorem qa_cons (ha : QE X E a wa) (hr : QA X E es wr) (hs : starEach (a :: es) X.env = (false, eval a X.env) :: starEach es X.env := by rfl) : QA X E (a :: es) (wCons wa wr) :=
  (pa_cons ha hr hs).imp fun σ H Q ⟨φ, env, S, Q', X', rs, re, q, k, x⟩ =>
    ⟨φ, env, S, _, X', rs, re, q, fun d S1 φ1 v H1 e1 rs1 rv1 q1 =>
      ⟨φ1, env, S1, _, X', rs1, re.mono e1, q1, fun ds S2 φ2 vs H2 e2 rs2 rv2 q2 => k (d :: ds) S2 φ2 _ H2 (e1.trans e2) rs2 ⟨v, vs, rfl, rv1.mono e2, rv2⟩ q2, x.mono e1⟩, x⟩
theorem cb_lift {r : List V → Hp → VK → Prop} {f : WOn} (h : ROn X.K r f) : ∀ σ H Q, LE X.K E (wCB f wr) σ H Q → tCB r (LA X.K E wr) σ H Q :=
  fun σ H Q ⟨φ, env, S, Q', X', rs, re, q, k, x⟩ => ⟨φ, env, S, _, X', rs, re, q, fun ds S1 φ1 vs H1 e1 rs1 rv1 q1 => h φ1 S1 H1 ds vs Q Q' rs1 rv1 q1 (k.mono e1), x⟩
/-- f(a, ..), f a built-in function -/
theorem q_cb {x : Str} {id : String} {p : Pos} {r : List V → Hp → VK → Prop} {f : WOn} (hc : CallR X (.builtin id) r) (h : ROn X.K r f) (hg : Gl X x) (hm : X.mg x = none) (hv : bootBuiltins x = some (.builtin id)) (ha : QA X E (a :: es) wr)
    (hn : x ≠ "__name__" := by decide) (hdb : (x == ("__debug__" : Str)) = false := by decide) (he : starEach (a :: es) X.env = (false, eval a X.env) :: starEach es X.env := by rfl) (hpl : (backTo pos (starEach es X.env)).any (·.1) = false := by rfl) : QE X E (.Call (.Name x p) (a :: es) [] pos) (wCB f wr) :=
  (pe_callB hc hg hm hv ha hn hdb he hpl).imp (cb_lift h)
theorem q_ct {x : Str} {T : String} {p : Pos} {r : List V → Hp → VK → Prop} {f : WOn} (hc : CallR X (.type T) r) (h : ROn X.K r f) (hg : Gl X x) (hm : X.mg x = none) (hv : bootBuiltins x = some (.type T)) (ha : QA X E (a :: es) wr)
    (hn : x ≠ "__name__" := by decide) (hdb : (x == ("__debug__" : Str)) = false := by decide) (he : starEach (a :: es) X.env = (false, eval a X.env) :: starEach es X.env := by rfl) (hpl : (backTo pos (starEach es X.env)).any (·.1) = false := by rfl) : QE X E (.Call (.Name x p) (a :: es) [] pos) (wCB f wr) :=
  (pe_callTy hc hg hm hv ha hn hdb he hpl).imp (cb_lift h)
/-- displays -/
def wTup (a : WA) : WE := fun env S Q X => a env S (fun ds S1 => ds.length ≤ lineD ∧ Q (.tup ds) S1) X
def wLst (a : WA) : WE := fun env S Q X => a env S (fun ds S1 => ds.length ≤ lineD ∧ Q (.loc S1.length) (S1 ++ [.lst true ds])) X
theorem q_tup {x1} (ha : QA X E es wr) : QE X E (.Tuple es x1 pos) (wTup wr) := (pe_tup ha).imp fun σ H Q ⟨φ, env, S, Q', X', rs, re, q, k, x⟩ =>
  ⟨φ, env, S, _, X', rs, re, q, fun ds S1 φ1 vs H1 e1 rs1 rv1 q1 => ⟨by rw [← rv1.len]; exact q1.1, fun p hp => (k.mono e1).tup rs1 rv1 q1.2 hp⟩, x⟩
theorem q_lst (ha : QA X E es wr) : QE X E (.List es pos) (wLst wr) := (pe_lst ha).imp fun σ H Q ⟨φ, env, S, Q', X', rs, re, q, k, x⟩ =>
  ⟨φ, env, S, _, X', rs, re, q, fun ds S1 φ1 vs H1 e1 rs1 rv1 q1 => ⟨by rw [← rv1.len]; exact q1.1, fun p hp => (k.mono e1).lst rs1 rv1 q1.2 hp⟩, x⟩
end
def fLen : WOn := fun ds S Q => match ds with
  | [.tup xs] => Q (.int xs.length) S
  | [.str z] => z.length ≤ lineD ∧ Q (.int z.length) S
  | [.loc n] => ∃ w xs, S[n]? = some (.lst w xs) ∧ Q (.int xs.length) S
  | [.scr is] => Q (.int is.length) S
  | _ => False
def rLen (K : PySem.W.Frag) : List V → Hp → VK → Prop := fun xs H Q => ∃ x n, xs = [x] ∧ LenV K x H n ∧ Q (.int n) H
theorem RVs.one {K : PySem.W.Frag} {φ : List Addr} {H : Hp} {d : D} {vs : List V} (h : RVs K φ H [d] vs) : ∃ v, vs = [v] ∧ RV K φ H d v := by
  obtain ⟨x, r, rfl, h1, h2⟩ := h
  cases h2
  exact ⟨x, rfl, h1⟩
theorem RVs.two {K : PySem.W.Frag} {φ : List Addr} {H : Hp} {d e : D} {vs : List V} (h : RVs K φ H [d, e] vs) : ∃ v u, vs = [v, u] ∧ RV K φ H d v ∧ RV K φ H e u := by
  obtain ⟨x, r, rfl, h1, h2⟩ := h
  obtain ⟨u, rfl, h3⟩ := RVs.one h2
  exact ⟨x, u, rfl, h1, h3⟩
theorem ro_len {K : PySem.W.Frag} : ROn K (rLen K) fLen := by
  intro φ S H ds vs Q Q' r hv h k
  unfold fLen at h
  split at h
  · rename_i xs
    obtain ⟨v, rfl, hv2⟩ := hv.one
    obtain ⟨p, ys, rfl, h1, h2⟩ := hv2
    exact ⟨_, xs.length, rfl, .inr ⟨ys, SqT.of h1, h2.len⟩, k.same r (d := .int _) rfl h⟩
  · rename_i z
    obtain ⟨v, rfl, hv2⟩ := hv.one
    cases hv2
    exact ⟨.str z, z.length, rfl, (show z.length ≤ sizeLine ∧ z.length = z.length from ⟨h.1, rfl⟩), k.same r (d := .int _) rfl h.2⟩
  · rename_i n
    obtain ⟨v, rfl, hv2⟩ := hv.one
    obtain ⟨w, xs, e, h⟩ := h
    obtain ⟨p, ys, rfl, _, h1, h2, _⟩ := r.lst hv2 e
    exact ⟨_, xs.length, rfl, .inl ⟨ys, h1, h2.len⟩, k.same r (d := .int _) rfl h⟩
  · rename_i is
    obtain ⟨v, rfl, hv2⟩ := hv.one
    obtain ⟨p, rfl, h1⟩ := hv2
    exact ⟨_, is.length, rfl, .inl ⟨_, h1.sq, by simp⟩, k.same r (d := .int _) rfl h⟩
  · exact h.elim
/-- isinstance -/
def tyD (S : Store) : D → Option String
  | .non => some "NoneType"
  | .bl _ => some "bool"
  | .int _ => some "int"
  | .str _ => some "str"
  | .tup _ => some "tuple"
  | .loc n => match S[n]? with
    | some (.lst true _) => some "list"
    | some (.dK true _) => some "dict"
    | some (.dT true _) => some "dict"
    | _ => none
  | .adr _ => none
  | .scr _ => none
end Qd
set_option Elab.async false
set_option linter.all false
set_option maxRecDepth 100000
/-! Layer Q: tests, statements, targets, loops, comprehensions, calls of defs. -/
namespace Qd
open PySem PySem.Spec PyProof.Rows L2
theorem ofT {A B : Prop} (h : if true = true then A else B) : A := by rw [if_pos rfl] at h; exact h
theorem ofF {A B : Prop} (h : if false = true then A else B) : B := by rw [if_neg Bool.false_ne_true] at h; exact h
/-! ### tests -/
def wTest (a : WE) : WT := fun env S Q X => a env S (fun x S1 => match x with | .bl b => Q b S1 | _ => False) X
theorem test_lift {K : PySem.W.Frag} {E : XK} {a : WE} : ∀ σ H Q, LT K E (wTest a) σ H Q → LE K E a σ H fun x H1 => ∃ c, x = .bl c ∧ Q c H1 :=
  fun σ H Q ⟨φ, env, S, Q', X', rs, re, q, k, x⟩ => ⟨φ, env, S, _, X', rs, re, q, fun d S1 φ1 v H1 e1 rs1 rv1 q1 => by
    cases d <;> first
      | exact False.elim q1
      | skip
    case bl b =>
      cases rv1
      exact ⟨b, rfl, k b S1 φ1 H1 e1 rs1 q1⟩, x⟩
def wAndT (a b : WT) : WT := fun env S Q X => a env S (fun c S1 => if c = true then b env S1 Q X else Q false S1) X
def wOrT (a b : WT) : WT := fun env S Q X => a env S (fun c S1 => if c = true then Q true S1 else b env S1 Q X) X
def wNotT (a : WT) : WT := fun env S Q X => a env S (fun c S1 => Q (!c) S1) X
def wAndV (a b : WE) : WE := fun env S Q X => a env S (fun x S1 => match x with | .bl c => if c = true then b env S1 Q X else Q (.bl false) S1 | _ => False) X
def wOrV (a b : WE) : WE := fun env S Q X => a env S (fun x S1 => match x with | .bl c => if c = true then Q (.bl true) S1 else b env S1 Q X | _ => False) X
def wNotV (a : WE) : WE := fun env S Q X => a env S (fun x S1 => match x with | .bl c => Q (.bl (!c)) S1 | _ => False) X
def wIfE (t : WT) (a b : WE) : WE := fun env S Q X => t env S (fun c S1 => if c = true then a env S1 Q X else b env S1 Q X) X
section
variable {X : Cx} {E : XK} {e a b c : Expr} {wa wb : WE} {ta tb : WT} {pos : Pos} {rest : List Expr}
/-- an expression whose value is a bool, as a test -/
theorem qt_val (h : QE X E e wa) (he : ∀ whole, isTrue e X.env whole = (do let v ← whole; standAt e.pos; holding [v] (truthy v)) := by intro _; rfl) : QT X E e (wTest wa) := (pt_val h he).imp test_lift
theorem qt_cmp {op : CmpOp} {r : R2} {f : WO2} (ho : OpR X (compareOp op) r) (h : RO2 X.K r f) (ha : QE X E a wa) (hb : QE X E b wb) (hm : behindInMarks op b = false) : QT X E (.Compare a [op] [b] pos) (wTest (wOp f wa wb)) :=
  (pt_cmpR ho ha hb hm).imp fun σ H Q q => op_lift h σ H _ (test_lift' q)
where test_lift' {K : PySem.W.Frag} {E : XK} {a : WE} {σ H} {Q : Bool → Hp → Prop} (h : LT K E (wTest a) σ H Q) : LE K E a σ H fun x H1 => ∃ c, x = .bl c ∧ Q c H1 := test_lift σ H Q h
theorem isn_lift {K : PySem.W.Frag} {neg : Bool} : ∀ σ H Q, LE K E (wUn (fIs neg) wa) σ H Q → tOp (fun x y H Q => y = .non ∧ Q (.bl (if neg then !decide (x = .non) else decide (x = .non))) H) (LE K E wa) (tC .non) σ H Q :=
  fun σ H Q ⟨φ, env, S, Q', X', rs, re, q, k, x⟩ => ⟨φ, env, S, _, X', rs, re, q, fun d S1 φ1 v H1 e1 rs1 rv1 q1 => ⟨rfl, by
    rw [rv1.non_iff]
    exact (k.mono e1).same rs1 (d := .bl _) rfl q1⟩, x⟩
theorem q_isN {j pos'} (ha : QE X E a wa) : QE X E (.Compare a [.Is] [.Constant .none j pos'] pos) (wUn (fIs false) wa) := (pe_cmpR op_isN ha pe_non (nomark _)).imp (isn_lift (neg := false))
theorem q_notN {j pos'} (ha : QE X E a wa) : QE X E (.Compare a [.IsNot] [.Constant .none j pos'] pos) (wUn (fIs true) wa) := (pe_cmpR op_notN ha pe_non (nomark _)).imp (isn_lift (neg := true))
theorem qt_isN {j pos'} (ha : QE X E a wa) : QT X E (.Compare a [.Is] [.Constant .none j pos'] pos) (wTest (wUn (fIs false) wa)) := (pt_cmpR op_isN ha pe_non (nomark _)).imp fun σ H Q q => isn_lift (neg := false) σ H _ (test_lift σ H Q q)
theorem qt_notN {j pos'} (ha : QE X E a wa) : QT X E (.Compare a [.IsNot] [.Constant .none j pos'] pos) (wTest (wUn (fIs true) wa)) := (pt_cmpR op_notN ha pe_non (nomark _)).imp fun σ H Q q => isn_lift (neg := true) σ H _ (test_lift σ H Q q)
theorem qt_not (h : QT X E a ta) : QT X E (.UnaryOp .Not a pos) (wNotT ta) := (pt_not h).imp fun σ H Q ⟨φ, env, S, Q', X', rs, re, q, k, x⟩ => ⟨φ, env, S, _, X', rs, re, q, fun b S1 φ1 H1 e1 rs1 q1 => k _ S1 φ1 H1 e1 rs1 q1, x⟩
/-- and, or as tests -/
abbrev QW (X : Cx) (E : XK) (e : Expr) (w : WT) : Prop := PW X e (LT X.K E w)
theorem _root_.L2.PW.imp {X : Cx} {e : Expr} {t u : TT} (h : PW X e t) (f : ∀ σ H Q, u σ H Q → t σ H Q) : PW X e u := ⟨fun wh pins s σ H Q I q => h.run wh pins s σ H Q I (f σ H Q q)⟩
theorem qw_and1 (h : QT X E a ta) : QW X E (.BoolOp .And [a] pos) ta := pw_and1 h
theorem qw_or1 (h : QT X E a ta) : QW X E (.BoolOp .Or [a] pos) ta := pw_or1 h
theorem qw_and (h : QT X E a ta) (g : QW X E (.BoolOp .And (b :: rest) pos) tb) : QW X E (.BoolOp .And (a :: b :: rest) pos) (wAndT ta tb) := (pw_and h g).imp fun σ H Q ⟨φ, env, S, Q', X', rs, re, q, k, x⟩ =>
  ⟨φ, env, S, _, X', rs, re, q, fun c S1 φ1 H1 e1 rs1 q1 => by
    cases c with
    | true => exact iteT <| have q1 := ofT q1; ⟨φ1, env, S1, Q', X', rs1, re.mono e1, q1, fun b S2 φ2 H2 e2 => k b S2 φ2 H2 (e1.trans e2), x.mono e1⟩
    | false => exact iteF <| have q1 := ofF q1; k _ S1 φ1 H1 e1 rs1 q1, x⟩
theorem qw_or (h : QT X E a ta) (g : QW X E (.BoolOp .Or (b :: rest) pos) tb) : QW X E (.BoolOp .Or (a :: b :: rest) pos) (wOrT ta tb) := (pw_or h g).imp fun σ H Q ⟨φ, env, S, Q', X', rs, re, q, k, x⟩ =>
  ⟨φ, env, S, _, X', rs, re, q, fun c S1 φ1 H1 e1 rs1 q1 => by
    cases c with
    | false => exact iteF <| have q1 := ofF q1; ⟨φ1, env, S1, Q', X', rs1, re.mono e1, q1, fun b S2 φ2 H2 e2 => k b S2 φ2 H2 (e1.trans e2), x.mono e1⟩
    | true => exact iteT <| have q1 := ofT q1; k _ S1 φ1 H1 e1 rs1 q1, x⟩
theorem qt_w (h : QW X E e ta) : QT X E e ta := h.pt
theorem q_one {op} (h : QE X E a wa) : QE X E (.BoolOp op [a] pos) wa := pe_one h
theorem q_and (ha : QE X E a wa) (hb : QE X E (.BoolOp .And (b :: rest) pos) wb) : QE X E (.BoolOp .And (a :: b :: rest) pos) (wAndV wa wb) := (pe_and ha hb).imp fun σ H Q ⟨φ, env, S, Q', X', rs, re, q, k, x⟩ =>
  ⟨φ, env, S, _, X', rs, re, q, fun d S1 φ1 v H1 e1 rs1 rv1 q1 => by
    cases d <;> first
      | exact False.elim q1
      | skip
    case bl c =>
      cases rv1
      refine ⟨c, rfl, ?_⟩
      cases c with
      | true => exact iteT <| have q1 := ofT q1; ⟨φ1, env, S1, Q', X', rs1, re.mono e1, q1, k.mono e1, x.mono e1⟩
      | false => exact iteF <| have q1 := ofF q1; (k.mono e1).same rs1 (d := .bl false) rfl q1, x⟩
theorem q_or (ha : QE X E a wa) (hb : QE X E (.BoolOp .Or (b :: rest) pos) wb) : QE X E (.BoolOp .Or (a :: b :: rest) pos) (wOrV wa wb) := (pe_or ha hb).imp fun σ H Q ⟨φ, env, S, Q', X', rs, re, q, k, x⟩ =>
  ⟨φ, env, S, _, X', rs, re, q, fun d S1 φ1 v H1 e1 rs1 rv1 q1 => by
    cases d <;> first
      | exact False.elim q1
      | skip
    case bl c =>
      cases rv1
      refine ⟨c, rfl, ?_⟩
      cases c with
      | false => exact iteF <| have q1 := ofF q1; ⟨φ1, env, S1, Q', X', rs1, re.mono e1, q1, k.mono e1, x.mono e1⟩
      | true => exact iteT <| have q1 := ofT q1; (k.mono e1).same rs1 (d := .bl true) rfl q1, x⟩
theorem q_not (ha : QE X E a wa) : QE X E (.UnaryOp .Not a pos) (wNotV wa) := (pe_not ha).imp fun σ H Q ⟨φ, env, S, Q', X', rs, re, q, k, x⟩ =>
  ⟨φ, env, S, _, X', rs, re, q, fun d S1 φ1 v H1 e1 rs1 rv1 q1 => by
    cases d <;> first
      | exact False.elim q1
      | skip
    case bl c =>
      cases rv1
      exact ⟨c, rfl, (k.mono e1).same rs1 (d := .bl (!c)) rfl q1⟩, x⟩
theorem q_ifE (hc : QT X E c ta) (ha : QE X E a wa) (hb : QE X E b wb) : QE X E (.IfExp c a b pos) (wIfE ta wa wb) := (pe_ifExp hc ha hb).imp fun σ H Q ⟨φ, env, S, Q', X', rs, re, q, k, x⟩ =>
  ⟨φ, env, S, _, X', rs, re, q, fun c S1 φ1 H1 e1 rs1 q1 => by
    cases c with
    | true => exact iteT <| have q1 := ofT q1; ⟨φ1, env, S1, Q', X', rs1, re.mono e1, q1, k.mono e1, x.mono e1⟩
    | false => exact iteF <| have q1 := ofF q1; ⟨φ1, env, S1, Q', X', rs1, re.mono e1, q1, k.mono e1, x.mono e1⟩, x⟩
/-- a < b < c -/
def wChain (f g : WO2) (a b c : WE) : WE := fun env S Q X => a env S (fun x S1 => b env S1 (fun y S2 => f x y S2 fun r S3 => match r with | .bl k => if k = true then c env S3 (fun z S4 => g y z S4 Q) X else Q (.bl false) S3 | _ => False) X) X
end
/-! ### statements -/
section
variable {X : Cx} {E : XK} {st : Stmt} {rest : List Stmt} {w u : WS} {e : Expr} {wa : WE} {t : WT} {pos : Pos}
def wSeq (w u : WS) : WS := fun G env S X => w ⟨fun e s => u G e s X, G.rt, G.bk, G.ct⟩ env S X
def wSkip : WS := fun G env S _ => G.nx env S
def wBreak : WS := fun G env S _ => G.bk env S
def wCont : WS := fun G env S _ => G.ct env S
def wNever : WS := fun _ _ _ _ => False
def wRet (a : WE) : WS := fun G env S X => a env S G.rt X
def wDrop (a : WE) : WS := fun G env S X => a env S (fun _ S1 => G.nx env S1) X
def wIf (t : WT) (w u : WS) : WS := fun G env S X => t env S (fun c S1 => if c = true then w G env S1 X else u G env S1 X) X
theorem qs_nil : QSs X E [] wSkip := pss_nil.imp fun D σ H ⟨φ, env, S, G, X', rs, re, q, k, _⟩ => k.nx env S φ σ H rs.ext rs re q
theorem qs_cons (h : QS X E st w) (g : QSs X E rest u) : QSs X E (st :: rest) (wSeq w u) := (pss_cons h g).imp fun D σ H ⟨φ, env, S, G, X', rs, re, q, k, x⟩ =>
  ⟨φ, env, S, ⟨fun e s => u G e s X', G.rt, G.bk, G.ct⟩, X', rs, re, q, ⟨fun env' S' φ' σ' H' e1 rs1 re1 q1 => ⟨φ', env', S', G, X', rs1, re1, q1, k.mono e1, x.mono e1⟩, k.rt, k.bk, k.ct⟩, x⟩
theorem qs_one (h : QS X E st w) : QSs X E [st] w := pss_one h
theorem q_pass : QS X E (.Pass pos) wSkip := ps_pass.imp fun D σ H ⟨φ, env, S, G, X', rs, re, q, k, _⟩ => k.nx env S φ σ H rs.ext rs re q
theorem q_break : QS X E (.Break pos) wBreak := ps_break.imp fun D σ H ⟨φ, env, S, G, X', rs, re, q, k, _⟩ => k.bk env S φ σ H rs.ext rs re q
theorem q_continue : QS X E (.Continue pos) wCont := ps_continue.imp fun D σ H ⟨φ, env, S, G, X', rs, re, q, k, _⟩ => k.ct env S φ σ H rs.ext rs re q
theorem q_never : QS X E st wNever := ps_never.imp fun D σ H ⟨φ, env, S, G, X', rs, re, q, k, _⟩ => q.elim
theorem q_ret (h : QE X E e wa) : QS X E (.Return (some e) pos) (wRet wa) := (ps_ret h).imp fun D σ H ⟨φ, env, S, G, X', rs, re, q, k, x⟩ => ⟨φ, env, S, G.rt, X', rs, re, q, k.rt, x⟩
theorem q_expr (h : QE X E e wa) (hs : swapsWith e none pos.line X.env = pure false := by rfl) : QS X E (.Expr e pos) (wDrop wa) := (ps_expr h hs).imp fun D σ H ⟨φ, env, S, G, X', rs, re, q, k, x⟩ =>
  ⟨φ, env, S, _, X', rs, re, q, fun d S1 φ1 v H1 e1 rs1 rv1 q1 => k.nx env S1 φ1 σ H1 e1 rs1 (re.mono e1) q1, x⟩
theorem q_if {a b : List Stmt} (hc : QT X E e t) (ha : QSs X E a w) (hb : QSs X E b u) : QS X E (.If e a b pos) (wIf t w u) := (ps_if hc ha hb).imp fun D σ H ⟨φ, env, S, G, X', rs, re, q, k, x⟩ =>
  ⟨φ, env, S, _, X', rs, re, q, fun c S1 φ1 H1 e1 rs1 q1 => by
    cases c with
    | true => exact iteT <| have q1 := ofT q1; ⟨φ1, env, S1, G, X', rs1, re.mono e1, q1, k.mono e1, x.mono e1⟩
    | false => exact iteF <| have q1 := ofF q1; ⟨φ1, env, S1, G, X', rs1, re.mono e1, q1, k.mono e1, x.mono e1⟩, x⟩
end
/-! ### targets -/
abbrev WG := D → Slots → Store → (Slots → Store → Prop) → Prop
abbrev WGs := List D → Slots → Store → (Slots → Store → Prop) → Prop
/-- the slots that a target stores lie in vs -/
def LG (K : PySem.W.Frag) (vs : List Nat) (g : WG) : TG := fun v σ H Q => ∃ φ env S d Q', RS K φ S H ∧ RE K φ H env σ ∧ RV K φ H d v ∧ g d env S Q' ∧
  ∀ env' S' φ' σ' H', Ext φ H φ' H' → RS K φ' S' H' → RE K φ' H' env' σ' → wipe σ' vs = wipe σ vs → Q' env' S' → Q σ' H'
def LGs (K : PySem.W.Frag) (vs : List Nat) (g : WGs) : TGs := fun v σ H Q => ∃ φ env S d Q', RS K φ S H ∧ RE K φ H env σ ∧ RVs K φ H d v ∧ g d env S Q' ∧
  ∀ env' S' φ' σ' H', Ext φ H φ' H' → RS K φ' S' H' → RE K φ' H' env' σ' → wipe σ' vs = wipe σ vs → Q' env' S' → Q σ' H'
theorem _root_.L2.PG.imp {X : Cx} {e : Expr} {t u : TG} (h : PG X e t) (f : ∀ v σ H Q, u v σ H Q → t v σ H Q) : PG X e u := ⟨fun pins s σ H v w Q I r q => h.run pins s σ H v w Q I r (f v σ H Q q)⟩
theorem _root_.L2.PGs.imp {X : Cx} {e : List Expr} {t u : TGs} (h : PGs X e t) (f : ∀ v σ H Q, u v σ H Q → t v σ H Q) : PGs X e u := ⟨fun pins s σ H v w Q I r q => h.run pins s σ H v w Q I r (f v σ H Q q)⟩
abbrev QG (X : Cx) (vs : List Nat) (e : Expr) (g : WG) : Prop := PG X e (LG X.K vs g)
abbrev QGs (X : Cx) (vs : List Nat) (e : List Expr) (g : WGs) : Prop := PGs X e (LGs X.K vs g)
theorem wipe_set {α : L2.St} {i : Nat} {v : Option V} : ∀ {vs : List Nat}, i ∈ vs → wipe (α.set i v) vs = wipe α vs
  | j :: vs, h => by
    unfold wipe
    by_cases e : i ∈ vs
    · rw [wipe_set e]
    · have : i = j := by simpa [e] using h
      subst this
      have : ∀ vs : List Nat, i ∉ vs → wipe (α.set i v) vs = (wipe α vs).set i v := by
        intro vs
        induction vs with
        | nil => intro _; rfl
        | cons k r ih =>
          intro h
          simp only [List.mem_cons, not_or] at h
          unfold wipe
          rw [ih h.2, List.set_comm _ _ h.1]
      rw [this vs e, List.set_set]
theorem RE.set {K : PySem.W.Frag} {φ : List Addr} {H : Hp} {env : Slots} {σ : L2.St} (r : RE K φ H env σ) {i : Nat} {d : D} {v : V} (h : RV K φ H d v) : RE K φ H (env.set i (some d)) (σ.set i (some v)) := by
  refine ⟨by simp [r.len], fun j e hj => ?_⟩
  by_cases e1 : i = j
  · subst e1
    by_cases hi : i < env.length
    · rw [List.getElem?_set_self hi] at hj
      cases hj
      exact ⟨v, by rw [List.getElem?_set_self (by rw [← r.len]; exact hi)], h⟩
    · rw [List.getElem?_eq_none (by simpa using hi)] at hj
      cases hj
  · rw [List.getElem?_set_ne e1] at hj ⊢
    exact r.here j e hj
theorem RE.drop {K : PySem.W.Frag} {φ : List Addr} {H : Hp} {env : Slots} {σ : L2.St} (r : RE K φ H env σ) {i : Nat} {v : Option V} : RE K φ H (env.set i none) (σ.set i v) := by
  refine ⟨by simp [r.len], fun j e hj => ?_⟩
  by_cases e1 : i = j
  · subst e1
    by_cases hi : i < env.length
    · rw [List.getElem?_set_self hi] at hj; cases hj
    · rw [List.getElem?_eq_none (by simpa using hi)] at hj; cases hj
  · rw [List.getElem?_set_ne e1] at hj ⊢
    exact r.here j e hj
def gNm (i : Nat) : WG := fun d env S Q => Q (env.set i (some d)) S
def gTp (gs : WGs) : WG := fun d env S Q => match d with | .tup ds => gs ds env S Q | _ => False
def gNone : WGs := fun ds env S Q => match ds with | [] => Q env S | _ :: _ => False
def gMore (g : WG) (gs : WGs) : WGs := fun ds env S Q => match ds with | d :: r => g d env S (fun e s => gs r e s Q) | [] => False
section
variable {X : Cx} {vs : List Nat} {e : Expr} {es : List Expr} {g : WG} {gs : WGs} {pos : Pos}
theorem qg_name {i : Nat} {x : Str} (hN : X.N.Nodup) (hi : X.N[i]? = some x) (hx : Loc X.env.scope x) (hf : X.fn x = true ∨ X.env.scope.names.lookup x = some .local := by first | exact .inl rfl | exact .inr rfl | assumption) (hv : i ∈ vs := by decide) : QG X vs (.Name x pos) (gNm i) :=
  (pg_name hN hi hx hf).imp fun v σ H Q ⟨φ, env, S, d, Q', rs, re, rv, q, k⟩ => k _ S φ _ H rs.ext rs (re.set rv) (wipe_set hv) q
theorem qg_nil : QGs X vs [] gNone := pgs_nil.imp fun v σ H Q ⟨φ, env, S, d, Q', rs, re, rv, q, k⟩ => by
  cases d with
  | nil => exact ⟨rv, k env S φ σ H rs.ext rs re rfl q⟩
  | cons _ _ => exact q.elim
theorem qg_cons (h1 : QG X vs e g) (h2 : QGs X vs es gs) (hs : (assignEach (e :: es) X.env).map (·.2) = assign e X.env :: (assignEach es X.env).map (·.2) := by rfl) : QGs X vs (e :: es) (gMore g gs) := (pgs_cons h1 h2 hs).imp fun v σ H Q ⟨φ, env, S, d, Q', rs, re, rv, q, k⟩ => by
  cases d with
  | nil => exact q.elim
  | cons d r =>
    obtain ⟨x, xr, rfl, r1, r2⟩ := rv
    exact ⟨x, xr, rfl, φ, env, S, d, _, rs, re, r1, q, fun env1 S1 φ1 σ1 H1 e1 rs1 re1 w1 q1 => ⟨φ1, env1, S1, r, Q', rs1, re1, r2.mono e1, q1, fun env2 S2 φ2 σ2 H2 e2 rs2 re2 w2 q2 => k env2 S2 φ2 σ2 H2 (e1.trans e2) rs2 re2 (w2.trans w1) q2⟩⟩
/-- as many things as targets -/
structure GLen (gs : WGs) (n : Nat) : Prop where
  len : ∀ {ds env S Q}, gs ds env S Q → ds.length = n ∨ False
theorem qg_tup {k : Nat} {n : Nat} (hc : X.calm = true) (h : QGs X vs es gs) (hl : ∀ {ds : List D} {env : Slots} {S : Store} {Q : Slots → Store → Prop}, gs ds env S Q → ds.length = n) (hn : (assignEach es X.env).length = n := by rfl) (hst : (assignEach es X.env).findIdx? (·.1) = none := by rfl) : QG X vs (.Tuple es k pos) (gTp gs) :=
  (pg_tup hc h hn hst).imp fun v σ H Q ⟨φ, env, S, d, Q', rs, re, rv, q, k⟩ => by
    cases d <;> first
      | exact False.elim q
      | skip
    case tup ds =>
      obtain ⟨a, xs, rfl, h1, h2⟩ := rv
      exact ⟨a, xs, rfl, SqT.of h1, by rw [← h2.len]; exact hl q, φ, env, S, ds, Q', rs, re, h2, q, k⟩
end
/-- a, b as targets, each a name -/
def g2 (i j : Nat) : WGs := fun ds env S Q => match ds with | [a, b] => Q ((env.set i (some a)).set j (some b)) S | _ => False
def g3 (i j k : Nat) : WGs := fun ds env S Q => match ds with | [a, b, c] => Q (((env.set i (some a)).set j (some b)).set k (some c)) S | _ => False
section
variable {X : Cx} {vs : List Nat} {pos p1 p2 p3 : Pos} {x y z : Str} {i j l : Nat}
theorem qg_2 {k : Nat} (hc : X.calm = true) (hN : X.N.Nodup) (hi : X.N[i]? = some x) (hx : Loc X.env.scope x) (hj : X.N[j]? = some y) (hy : Loc X.env.scope y)
    (hf : X.fn x = true ∨ X.env.scope.names.lookup x = some .local := by first | exact .inl rfl | exact .inr rfl | assumption) (hf2 : X.fn y = true ∨ X.env.scope.names.lookup y = some .local := by first | exact .inl rfl | exact .inr rfl | assumption)
    (hv : i ∈ vs := by decide) (hv2 : j ∈ vs := by decide) (hn : (assignEach [.Name x p1, .Name y p2] X.env).length = 2 := by rfl) (hst : (assignEach [.Name x p1, .Name y p2] X.env).findIdx? (·.1) = none := by rfl) : QG X vs (.Tuple [.Name x p1, .Name y p2] k pos) (gTp (g2 i j)) := by
  have h : QGs X vs [.Name x p1, .Name y p2] (gMore (gNm i) (gMore (gNm j) gNone)) := qg_cons (qg_name hN hi hx hf hv) (qg_cons (qg_name hN hj hy hf2 hv2) qg_nil)
  refine qg_tup hc (h.imp fun v σ H Q ⟨φ, env, S, d, Q', rs, re, rv, q, k⟩ => ⟨φ, env, S, d, Q', rs, re, rv, ?_, k⟩) (fun {ds env S Q} q => ?_) hn hst
  · unfold g2 at q
    split at q
    · exact q
    · exact q.elim
  · unfold g2 at q
    split at q
    · rfl
    · exact q.elim
theorem qg_3 {k : Nat} (hc : X.calm = true) (hN : X.N.Nodup) (hi : X.N[i]? = some x) (hx : Loc X.env.scope x) (hj : X.N[j]? = some y) (hy : Loc X.env.scope y) (hl : X.N[l]? = some z) (hz : Loc X.env.scope z)
    (hf : X.fn x = true ∨ X.env.scope.names.lookup x = some .local := by first | exact .inl rfl | exact .inr rfl | assumption) (hf2 : X.fn y = true ∨ X.env.scope.names.lookup y = some .local := by first | exact .inl rfl | exact .inr rfl | assumption)
    (hf3 : X.fn z = true ∨ X.env.scope.names.lookup z = some .local := by first | exact .inl rfl | exact .inr rfl | assumption)
    (hv : i ∈ vs := by decide) (hv2 : j ∈ vs := by decide) (hv3 : l ∈ vs := by decide) (hn : (assignEach [.Name x p1, .Name y p2, .Name z p3] X.env).length = 3 := by rfl) (hst : (assignEach [.Name x p1, .Name y p2, .Name z p3] X.env).findIdx? (·.1) = none := by rfl) : QG X vs (.Tuple [.Name x p1, .Name y p2, .Name z p3] k pos) (gTp (g3 i j l)) := by
  have h : QGs X vs [.Name x p1, .Name y p2, .Name z p3] (gMore (gNm i) (gMore (gNm j) (gMore (gNm l) gNone))) := qg_cons (qg_name hN hi hx hf hv) (qg_cons (qg_name hN hj hy hf2 hv2) (qg_cons (qg_name hN hl hz hf3 hv3) qg_nil))
  refine qg_tup hc (h.imp fun v σ H Q ⟨φ, env, S, d, Q', rs, re, rv, q, k⟩ => ⟨φ, env, S, d, Q', rs, re, rv, ?_, k⟩) (fun {ds env S Q} q => ?_) hn hst
  · unfold g3 at q
    split at q
    · exact q
    · exact q.elim
  · unfold g3 at q
    split at q
    · rfl
    · exact q.elim
end
/-- target = e -/
def wAsg (a : WE) (g : WG) : WS := fun G env S X => a env S (fun d S1 => g d env S1 G.nx) X
def wSet (i : Nat) (a : WE) : WS := fun G env S X => a env S (fun d S1 => G.nx (env.set i (some d)) S1) X
def wAug (i : Nat) (f : WO2) (a : WE) : WS := fun G env S X => ∃ d, env[i]? = some (some d) ∧ a env S (fun y S1 => f d y S1 (fun z S2 => G.nx (env.set i (some z)) S2)) X
def wPar (i j : Nat) (a b : WE) : WS := fun G env S X => a env S (fun d S1 => b env S1 (fun e S2 => G.nx ((env.set i (some d)).set j (some e)) S2) X) X
section
variable {X : Cx} {E : XK} {e tg : Expr} {wa : WE} {g : WG} {pos pos' : Pos} {vs : List Nat}
theorem q_asg (h : QE X E e wa) (hg : QG X vs tg g) (hs : swapsWithSole [tg] e pos.line X.env = pure false := by rfl) (hw : swappedStores [tg] e X.env = pure none := by rfl) (h1 : (assignEach [tg] X.env).map (·.2) = [assign tg X.env] := by rfl) : QS X E (.Assign [tg] e pos) (wAsg wa g) :=
  (ps_asg h hg hs hw h1).imp fun D σ H ⟨φ, env, S, G, X', rs, re, q, k, x⟩ => ⟨φ, env, S, _, X', rs, re, q, fun d S1 φ1 v H1 e1 rs1 rv1 q1 => ⟨φ1, env, S1, d, G.nx, rs1, re.mono e1, rv1, q1, fun env' S' φ' σ' H' e2 rs2 re2 _ q2 => k.nx env' S' φ' σ' H' (e1.trans e2) rs2 re2 q2⟩, x⟩
theorem q_set {i : Nat} {x : Str} (hN : X.N.Nodup) (hi : X.N[i]? = some x) (hx : Loc X.env.scope x) (h : QE X E e wa) (hs : swapsWith e (some (.Name x pos')) pos.line X.env = pure false := by rfl) (hf : X.fn x = true ∨ X.env.scope.names.lookup x = some .local := by first | exact .inl rfl | exact .inr rfl | assumption) :
    QS X E (.Assign [.Name x pos'] e pos) (wSet i wa) :=
  (ps_set hN hi hx h hs hf).imp fun D σ H ⟨φ, env, S, G, X', rs, re, q, k, x⟩ => ⟨φ, env, S, _, X', rs, re, q, fun d S1 φ1 v H1 e1 rs1 rv1 q1 => k.nx _ S1 φ1 _ H1 e1 rs1 ((re.mono e1).set rv1) q1, x⟩
theorem q_aug {i : Nat} {x : Str} {op : Operator} {r : R2} {f : WO2} (hN : X.N.Nodup) (hi : X.N[i]? = some x) (hx : Loc X.env.scope x) (ho : PIp X op r) (hr : RO2 X.K r f) (h : QE X E e wa) (hf : X.fn x = true ∨ X.env.scope.names.lookup x = some .local := by first | exact .inl rfl | exact .inr rfl | assumption) :
    QS X E (.AugAssign (.Name x pos') op e pos) (wAug i f wa) :=
  (ps_aug hN hi hx h ho hf).imp fun D σ H ⟨φ, env, S, G, X', rs, re, ⟨d, ed, q⟩, k, x⟩ =>
    let ⟨v, hv, rv⟩ := re.here i d ed
    ⟨v, hv, φ, env, S, _, X', rs, re, q, fun y S1 φ1 u H1 e1 rs1 rv1 q1 => hr φ1 S1 H1 d y v u _ _ rs1 (rv.mono e1) rv1 q1 fun z S2 φ2 vz H2 e2 rs2 rv2 q2 => k.nx _ S2 φ2 _ H2 (e1.trans e2) rs2 ((re.mono (e1.trans e2)).set rv2) q2, x⟩
theorem q_par {i j : Nat} {x y : Str} {a b : Expr} {wa wb : WE} {px py pt : Pos} {kt k2 pt2} (hc : X.calm = true) (hN : X.N.Nodup) (hi : X.N[i]? = some x) (hj : X.N[j]? = some y) (hij : i ≠ j)
    (hx : X.env.scope.names.lookup x = some .local) (hy : X.env.scope.names.lookup y = some .local) (ha : QE X E a wa) (hb : QE X E b wb)
    (hw : swappedStores [.Tuple [.Name x px, .Name y py] kt pt] (.Tuple [a, b] k2 pt2) X.env = pure (some [x, y]))
    (hs : swapsWithSole [.Tuple [.Name x px, .Name y py] kt pt] (.Tuple [a, b] k2 pt2) pos.line X.env = pure false := by rfl) (he : starEach (a :: [b]) X.env = (false, eval a X.env) :: starEach [b] X.env := by rfl) (he2 : starEach (b :: []) X.env = (false, eval b X.env) :: starEach [] X.env := by rfl) :
    QS X E (.Assign [.Tuple [.Name x px, .Name y py] kt pt] (.Tuple [a, b] k2 pt2) pos) (wPar i j wa wb) :=
  (ps_par hc hN hi hj hij hx hy (pa_cons ha (pa_cons hb pa_nil he2) he) hw hs).imp fun D σ H ⟨φ, env, S, G, X', rs, re, q, k, x⟩ =>
    ⟨φ, env, S, _, X', rs, re, q, fun d S1 φ1 v H1 e1 rs1 rv1 q1 => ⟨φ1, env, S1, _, X', rs1, re.mono e1, q1, fun d2 S2 φ2 u H2 e2 rs2 rv2 q2 =>
      ⟨v, u, rfl, k.nx _ S2 φ2 _ H2 (e1.trans e2) rs2 (((re.mono (e1.trans e2)).set (rv1.mono e2)).set rv2) q2⟩, x.mono e1⟩, x⟩
end
/-! ### what a for walks -/
def JOk (K : PySem.W.Frag) (φ0 : List Addr) (H0 : Hp) (J : It) (items : List D) (still : Store → Prop) : Prop := ∀ φ S H (i : Nat), Ext φ0 H0 φ H → RS K φ S H → still S →
  (items.length ≤ i → J.stop i H) ∧ ∀ d, items[i]? = some d → J.go i H ∧ ∀ x H', J.yld i H x H' → Ext φ H φ H' ∧ RS K φ S H' ∧ RV K φ H' d x
abbrev WI := Slots → Store → (List D → (Store → Prop) → Store → Prop) → XQ → Prop
def LI (K : PySem.W.Frag) (E : XK) (wi : WI) : TI := fun σ H R => ∃ φ env S R' X', RS K φ S H ∧ RE K φ H env σ ∧ wi env S R' X' ∧
  (∀ items still S' φ' H' J, Ext φ H φ' H' → RS K φ' S' H' → JOk K φ' H' J items still → R' items still S' → R J H') ∧ XOk K φ H X' E
abbrev QI (X : Cx) (E : XK) (tg iter : Expr) (wi : WI) : Prop := PI X tg iter (LI X.K E wi)
theorem _root_.L2.PI.imp {X : Cx} {tg e : Expr} {t u : TI} (h : PI X tg e t) (f : ∀ σ H Q, u σ H Q → t σ H Q) : PI X tg e u := ⟨fun pins s σ H Q I q => h.run pins s σ H Q I (f σ H Q q)⟩
/-- a loop over items, one after another -/
def wLoop (g : WG) (w : WS) (still : Store → Prop) (G : Go) (X : XQ) : List D → Slots → Store → Prop
  | [], env, S => still S ∧ G.nx env S
  | d :: ds, env, S => still S ∧ g d env S fun e s => w ⟨wLoop g w still G X ds, G.rt, G.nx, wLoop g w still G X ds⟩ e s X
def wFor (wi : WI) (g : WG) (w : WS) : WS := fun G env S X => wi env S (fun items still S1 => wLoop g w still G X items env S1) X
def iLst (a : WE) : WI := fun env S R X => a env S (fun d S1 => match d with
  | .loc n => ∃ w ds, S1[n]? = some (.lst w ds) ∧ R ds (fun s => ∃ w, s[n]? = some (.lst w ds)) S1
  | _ => False) X
def iTp (a : WE) : WI := fun env S R X => a env S (fun d S1 => match d with
  | .tup ds => R ds (fun _ => True) S1
  | _ => False) X
def iRng (a : WE) : WI := fun env S R X => a env S (fun d S1 => match d with
  | .int j => -(2 ^ 62) ≤ j ∧ j < 2 ^ 62 ∧ R ((List.range j.toNat).map fun i => .int (i : Nat)) (fun _ => True) S1
  | _ => False) X
def iEn (a : WE) : WI := fun env S R X => a env S (fun d S1 => match d with
  | .loc n => ∃ w ds, S1[n]? = some (.lst w ds) ∧ R (ds.mapIdx fun i d => .tup [.int (i : Nat), d]) (fun s => ∃ w, s[n]? = some (.lst w ds)) S1
  | _ => False) X
section
variable {X : Cx} {E : XK} {tg e : Expr} {wa : WE} {pos p : Pos}
theorem RS.inj {K : PySem.W.Frag} {φ : List Addr} {S : Store} {H : Hp} (I : ∀ xs ys a, SqL K H a xs → SqL K H a ys → xs = ys) : True := trivial
theorem Rd.lst_inj {H : Hp} {a : Addr} {xs ys : List V} (h : Rd H a (.lst xs)) (g : Rd H a (.lst ys)) : xs = ys := by
  rcases h with h | ⟨o, h⟩ <;> rcases g with g | ⟨o', g⟩ <;> rw [h] at g <;> cases g <;> rfl
theorem qi_list (h : QE X E e wa) : QI X E tg e (iLst wa) := (pi_list h).imp fun σ H R ⟨φ, env, S, R', X', rs, re, q, k, x⟩ =>
  ⟨φ, env, S, _, X', rs, re, q, fun d S1 φ1 v H1 e1 rs1 rv1 q1 => by
    cases d <;> first
      | exact False.elim q1
      | skip
    case loc n =>
      obtain ⟨w, ds, e2, q2⟩ := q1
      obtain ⟨a, xs, rfl, h1, h2, h3, _⟩ := rs1.lst rv1 e2
      refine ⟨a, rfl, ⟨xs, h2⟩, k ds _ S1 φ1 H1 _ e1 rs1 (fun φ2 S2 H2 i e3 rs2 st => ?_) q2⟩
      obtain ⟨w2, st⟩ := st
      obtain ⟨a', ys, e', g1, g2, g3, _⟩ := rs2.lst (v := .ref a) ⟨a, e3.get h1, rfl⟩ st
      cases e'
      refine ⟨fun hl => ⟨ys, g2, by rw [← g3.len]; exact hl⟩, fun d hd => ?_⟩
      obtain ⟨z, hz, rz⟩ := g3.get hd
      exact ⟨⟨ys, z, g2, hz⟩, fun x H' ⟨e4, y⟩ => by
        subst e4
        have := (y ys g2).symm.trans hz
        cases this
        exact ⟨rs2.ext, rs2, rz⟩⟩, x⟩
theorem qi_tup (h : QE X E e wa) : QI X E tg e (iTp wa) := (pi_tup h).imp fun σ H R ⟨φ, env, S, R', X', rs, re, q, k, x⟩ =>
  ⟨φ, env, S, _, X', rs, re, q, fun d S1 φ1 v H1 e1 rs1 rv1 q1 => by
    cases d <;> first
      | exact False.elim q1
      | skip
    case tup ds =>
      obtain ⟨a, xs, rfl, h2, h3⟩ := rv1
      refine ⟨a, rfl, ⟨xs, SqT.of h2⟩, k ds _ S1 φ1 H1 _ e1 rs1 (fun φ2 S2 H2 i e3 rs2 st => ?_) q1⟩
      have g2 : SqT X.K H2 a xs := SqT.of (e3.sqT h2)
      have g3 := h3.mono e3
      refine ⟨fun hl => ⟨xs, g2, by rw [← g3.len]; exact hl⟩, fun d hd => ?_⟩
      obtain ⟨z, hz, rz⟩ := g3.get hd
      exact ⟨⟨xs, z, g2, hz⟩, fun x H' ⟨e4, y⟩ => by
        subst e4
        have := (y xs g2).symm.trans hz
        cases this
        exact ⟨rs2.ext, rs2, rz⟩⟩, x⟩
theorem qi_range {p2 : Pos} (hg : Gl X "range") (hm : X.mg "range" = none) (h : QE X E e wa) (hs : starEach [e] X.env = [(false, eval e X.env)] := by rfl) : QI X E tg (.Call (.Name "range" p2) [e] [] pos) (iRng wa) := (pi_range1 hg hm (pa_cons h pa_nil hs) hs).imp fun σ H R ⟨φ, env, S, R', X', rs, re, q, k, x⟩ =>
  ⟨φ, env, S, _, X', rs, re, q, fun d S1 φ1 v H1 e1 rs1 rv1 q1 => by
    cases d <;> first
      | exact False.elim q1
      | skip
    case int j =>
      cases rv1
      obtain ⟨q2, q3, q4⟩ := q1
      refine ⟨j, rfl, q2, q3, k _ _ S1 φ1 H1 _ e1 rs1 (fun φ2 S2 H2 i e3 rs2 st => ⟨fun hl => ?_, fun d hd => ?_⟩) q4⟩
      · show j.toNat ≤ i
        simp at hl
        omega
      · rw [List.getElem?_map] at hd
        cases hr : (List.range j.toNat)[i]? with
        | none => rw [hr] at hd; cases hd
        | some m =>
          rw [hr] at hd
          cases hd
          obtain ⟨h1, h2⟩ := List.getElem?_eq_some_iff.mp hr
          simp at h1 h2
          subst h2
          exact ⟨show i < j.toNat by omega, fun x H' ⟨e4, e5⟩ => by
            subst e4 e5
            exact ⟨rs2.ext, rs2, by simp [RV]⟩⟩, x⟩
theorem qi_enum {elts : List Expr} {kk : Nat} {tpos p2 : Pos} (hg : Gl X "enumerate") (hm : X.mg "enumerate" = none) (h : QE X E e wa) (hs : starEach [e] X.env = [(false, eval e X.env)] := by rfl) : QI X E (.Tuple elts kk tpos) (.Call (.Name "enumerate" p2) [e] [] pos) (iEn wa) := (pi_enum hg hm (pa_cons h pa_nil hs) hs).imp fun σ H R ⟨φ, env, S, R', X', rs, re, q, k, x⟩ =>
  ⟨φ, env, S, _, X', rs, re, q, fun d S1 φ1 v H1 e1 rs1 rv1 q1 => by
    cases d <;> first
      | exact False.elim q1
      | skip
    case loc n =>
      obtain ⟨w, ds, e2, q2⟩ := q1
      obtain ⟨a, xs, rfl, h1, h2, h3, _⟩ := rs1.lst rv1 e2
      refine ⟨a, xs, rfl, h2, k _ _ S1 φ1 H1 _ e1 rs1 (fun φ2 S2 H2 i e3 rs2 st => ?_) q2⟩
      obtain ⟨w2, st⟩ := st
      obtain ⟨a', ys, e', g1, g2, g3, _⟩ := rs2.lst (v := .ref a) ⟨a, e3.get h1, rfl⟩ st
      cases e'
      refine ⟨fun hl => ⟨ys, g2, by rw [← g3.len]; simpa using hl⟩, fun d hd => ?_⟩
      rw [List.getElem?_mapIdx] at hd
      cases hr : ds[i]? with
      | none => rw [hr] at hd; cases hd
      | some d0 =>
        rw [hr] at hd
        cases hd
        obtain ⟨z, hz, rz⟩ := g3.get hr
        exact ⟨⟨ys, z, g2, hz⟩, fun x H' ⟨T, x0, e4, hT, e5, y⟩ => by
          subst e4 e5
          have ez : x0 = z := Option.some.inj ((y ys g2).symm.trans hz)
          subst ez
          have ex := Ext.fresh (o := .tup [.int (i : Nat), x0]) rs2 hT
          exact ⟨ex, rs2.fresh hT, T, _, rfl, upd_same, _, _, rfl, rfl, _, _, rfl, rz.mono ex, rfl⟩⟩, x⟩
theorem q_for {iter : Expr} {body : List Stmt} {wi : WI} {g : WG} {w : WS} {vs : List Nat} (hp : PassesOwn (model X.prog X.w) X.A X.env X.xe) (hc : X.calm = true) (hi : QI X E tg iter wi) (hg : QG X vs tg g) (hb : QSs X E body w) (hs : ∀ x, foldedSetIterable iter X.env x = pure x := by intro _; rfl) :
    QS X E (.For tg iter body [] pos) (wFor wi g w) := (ps_for hp hc hi hg hb hs).imp fun Dn σ H ⟨φ, env, S, G, X', rs, re, q, k, x⟩ =>
  ⟨φ, env, S, _, X', rs, re, q, fun items still S1 φ1 H1 J e1 rs1 jok q1 => by
    refine ⟨fun i m σ H => ∃ φ2 env2 S2, Ext φ1 H1 φ2 H ∧ RS X.K φ2 S2 H ∧ RE X.K φ2 H env2 σ ∧ m = items.length - i ∧ wLoop g w still G X' (items.drop i) env2 S2, ⟨items.length, φ1, env, S1, rs1.ext, rs1, re.mono e1, by simp, by simpa using q1⟩, ?_⟩
    rintro i m σ2 H2 ⟨φ2, env2, S2, e2, rs2, re2, hm, lp⟩
    by_cases hi : i < items.length
    · rw [List.drop_eq_getElem_cons hi] at lp
      obtain ⟨st, lp⟩ := lp
      obtain ⟨_, jg⟩ := jok φ2 S2 H2 i e2 rs2 st
      obtain ⟨go, yl⟩ := jg items[i] (List.getElem?_eq_getElem hi)
      refine .inr ⟨go, fun σ' H' => ∃ φ3 env3 S3, Ext φ1 H1 φ3 H' ∧ RS X.K φ3 S3 H' ∧ RE X.K φ3 H' env3 σ' ∧ wLoop g w still G X' (items.drop (i + 1)) env3 S3, fun σ' H' ⟨φ3, env3, S3, e3, rs3, re3, l3⟩ => ⟨items.length - (i + 1), by omega, φ3, env3, S3, e3, rs3, re3, rfl, l3⟩, fun y H' hy => ?_⟩
      obtain ⟨e3, rs3, rv3⟩ := yl y H' hy
      refine ⟨φ2, env2, S2, items[i], _, rs3, re2.mono e3, rv3, lp, fun env4 S4 φ4 σ4 H4 e4 rs4 re4 _ q4 => ?_⟩
      have e14 : Ext φ1 H1 φ4 H4 := e2.trans (e3.trans e4)
      exact ⟨φ4, env4, S4, _, X', rs4, re4, q4, ⟨fun env5 S5 φ5 σ5 H5 e5 rs5 re5 q5 => ⟨φ5, env5, S5, e14.trans e5, rs5, re5, q5⟩, (k.mono (e1.trans e14)).rt, (k.mono (e1.trans e14)).nx, fun env5 S5 φ5 σ5 H5 e5 rs5 re5 q5 => ⟨φ5, env5, S5, e14.trans e5, rs5, re5, q5⟩⟩, x.mono (e1.trans e14)⟩
    · rw [List.drop_of_length_le (by omega)] at lp
      obtain ⟨st, lp⟩ := lp
      exact .inl ⟨(jok φ2 S2 H2 i e2 rs2 st).1 (by omega), k.nx env2 S2 φ2 σ2 H2 (e1.trans e2) rs2 re2 lp⟩, x⟩
def wWhile (c : WT) (w : WS) : WS := fun G env S X => ∃ I : Nat → Slots → Store → Prop, (∃ m, I m env S) ∧ ∀ m env S, I m env S →
  c env S (fun b S1 => if b = true then w ⟨fun e s => ∃ m', m' < m ∧ I m' e s, G.rt, G.nx, fun e s => ∃ m', m' < m ∧ I m' e s⟩ env S1 X else G.nx env S1) X
theorem q_while {c : Expr} {body : List Stmt} {t : WT} {w : WS} (hp : PassesOwn (model X.prog X.w) X.A X.env X.xe) (hc : QT X E c t) (hb : QSs X E body w) : QS X E (.While c body [] pos) (wWhile t w) := (ps_while hp hc hb).imp fun Dn σ H ⟨φ, env, S, G, X', rs, re, ⟨I, ⟨m0, i0⟩, turn⟩, k, x⟩ => by
  refine ⟨fun m σ H' => ∃ φ2 env2 S2, Ext φ H φ2 H' ∧ RS X.K φ2 S2 H' ∧ RE X.K φ2 H' env2 σ ∧ I m env2 S2, ⟨m0, φ, env, S, rs.ext, rs, re, i0⟩, ?_⟩
  rintro m σ2 H2 ⟨φ2, env2, S2, e2, rs2, re2, i2⟩
  refine ⟨φ2, env2, S2, _, X', rs2, re2, turn m env2 S2 i2, fun b S3 φ3 H3 e3 rs3 q3 => ?_, x.mono e2⟩
  have e13 := e2.trans e3
  cases b with
  | true =>
    have q3 := ofT q3
    refine iteT ⟨fun σ' H' => ∃ m', m' < m ∧ ∃ φ4 env4 S4, Ext φ H φ4 H' ∧ RS X.K φ4 S4 H' ∧ RE X.K φ4 H' env4 σ' ∧ I m' env4 S4, fun σ' H' q => q, ?_⟩
    have step : ∀ env5 S5 φ5 σ5 H5, Ext φ3 H3 φ5 H5 → RS X.K φ5 S5 H5 → RE X.K φ5 H5 env5 σ5 → (∃ m', m' < m ∧ I m' env5 S5) → ∃ m', m' < m ∧ ∃ φ4 env4 S4, Ext φ H φ4 H5 ∧ RS X.K φ4 S4 H5 ∧ RE X.K φ4 H5 env4 σ5 ∧ I m' env4 S4 :=
      fun env5 S5 φ5 σ5 H5 e5 rs5 re5 ⟨m', h1, h2⟩ => ⟨m', h1, φ5, env5, S5, e13.trans e5, rs5, re5, h2⟩
    exact ⟨φ3, env2, S3, _, X', rs3, re2.mono e3, q3, ⟨step, (k.mono e13).rt, (k.mono e13).nx, step⟩, x.mono e13⟩
  | false =>
    have q3 := ofF q3
    refine iteF ?_
    exact k.nx env2 S3 φ3 σ2 H3 e13 rs3 (re2.mono e3) q3
end
end Qd
set_option Elab.async false
set_option linter.all false
set_option maxRecDepth 100000
/-! Layer Q: comprehensions. -/
namespace Qd
open PySem PySem.Spec PyProof.Rows L2
/-! ### comprehensions -/
def wipeD (env : Slots) : List Nat → Slots
  | [] => env
  | v :: vs => (wipeD env vs).set v none
theorem RE.wipe {K : PySem.W.Frag} {φ : List Addr} {H : Hp} {env : Slots} {σ : L2.St} (r : RE K φ H env σ) : ∀ vs, RE K φ H (wipeD env vs) (L2.wipe σ vs)
  | [] => r
  | v :: vs => (RE.wipe r vs).drop
/-- the items in turn, what is kept so far in acc -/
def wLcL (g : WG) (t : WT) (a : WE) (env : Slots) (still : Store → Prop) (Q : List D → Store → Prop) (X : XQ) : List D → List D → Store → Prop
  | [], acc, S => still S ∧ Q acc S
  | d :: ds, acc, S => still S ∧ g d env S fun e s => t e s (fun b s2 => if b = true then a e s2 (fun y s3 => acc.length < lineD ∧ wLcL g t a env still Q X ds (acc ++ [y]) s3) X else wLcL g t a env still Q X ds acc s2) X
def wLc (wi : WI) (g : WG) (t : WT) (a : WE) (vs : List Nat) : WE := fun env S Q X => wi env S (fun items still S1 => wLcL g t a (wipeD env vs) still (fun acc S2 => Q (.loc S2.length) (S2 ++ [.lst true acc])) X items [] S1) X
def wYes : WT := fun _ S Q _ => Q true S
theorem qts_nil {X : Cx} {E : XK} : PTs X [] (LT X.K E wYes) := ⟨fun pins s σ H Q I ⟨φ, env, S, Q', X', rs, re, q, k, _⟩ => pts_nil.run pins s σ H Q I (k true S φ H rs.ext rs q)⟩
theorem qts_one {X : Cx} {E : XK} {c : Expr} {t : WT} (h : QT X E c t) : PTs X [c] (LT X.K E t) := pts_one h
section
variable {K : PySem.W.Frag} {φ φ' : List Addr} {H H' : Hp} {S : Store} {Dl : Addr} {xs ys : List V}
/-- the list that a comprehension fills, no cell of the store yet -/
theorem lc_upd (e : Ext φ H φ' H') (r : RS K φ' S H') (n0 : H Dl = none) (nd : Dl ∉ φ') (h : H' Dl = some (.lst xs)) : Ext φ H φ' (upd H' Dl (.lst ys)) ∧ RS K φ' S (upd H' Dl (.lst ys)) := by
  have tp : ∀ a zs, H' a = some (.tup zs) → (upd H' Dl (.lst ys)) a = some (.tup zs) := fun a zs z => by
    have ne : a ≠ Dl := fun q => (nt_lst h).1 zs (q ▸ z)
    rw [upd_ne ne]; exact z
  have ne : ∀ a ∈ φ', a ≠ Dl := fun a ha q => nd (q ▸ ha)
  refine ⟨⟨e.pre, fun a o na z => ?_, fun a zs z => tp a zs (e.tups a zs z), fun a ha => ?_, fun a o u z => by rw [upd_ne (ne_of_none z n0)]; exact e.frzs a o u z⟩, r.later ⟨fun h => h, tp, fun a o ys n g => ⟨n, by rw [upd_ne (fun z => by rw [z, h] at g; cases g)]; exact g⟩⟩ fun a ha => upd_ne (ne a ha)⟩
  · rw [upd_ne (ne_of_none z n0)]; exact e.keep a o na z
  · rw [upd_ne (ne a ha)]; exact e.dom a ha
theorem lc_end (e : Ext φ H φ' H') (r : RS K φ' S H') (n0 : H Dl = none) (nd : Dl ∉ φ') (h : H' Dl = some (.lst xs)) {ds : List D} (rv : RVs K φ' H' ds xs) : Ext φ H (φ' ++ [Dl]) H' ∧ RS K (φ' ++ [Dl]) (S ++ [.lst true ds]) H' ∧ RV K (φ' ++ [Dl]) H' (.loc S.length) (.ref Dl) := by
  have m : Mn φ' H' (φ' ++ [Dl]) H' := ⟨fun {n a} q => by rw [List.getElem?_append_left (List.getElem?_eq_some_iff.mp q).1]; exact q, fun _ _ z => z, fun a o ys n g => ⟨fun z => (List.mem_append.mp z).elim n fun z => (by rw [List.mem_singleton.mp z, h] at g; cases g), g⟩⟩
  have dom : ∀ a ∈ φ' ++ [Dl], H' a ≠ none := fun a ha => by
    rcases List.mem_append.mp ha with z | z
    · exact r.dom a z
    · rw [List.mem_singleton.mp z, h]; exact fun q => by cases q
  have last : (φ' ++ [Dl])[S.length]? = some Dl := by rw [← r.len, List.getElem?_append_right (Nat.le_refl _), Nat.sub_self]; rfl
  refine ⟨⟨?_, e.keep, e.tups, dom, e.frzs⟩, ⟨by simp [r.len], ?_, dom, fun n a c h1 h2 => ?_⟩, Dl, last, rfl⟩
  · obtain ⟨ψ, e1, e2⟩ := e.pre
    refine ⟨ψ ++ [Dl], by rw [e1, List.append_assoc], fun a ha => ?_⟩
    rcases List.mem_append.mp ha with z | z
    · exact e2 a z
    · rw [List.mem_singleton.mp z]; exact n0
  · rw [List.nodup_append]
    refine ⟨r.nd, by simp, fun a ha b hb => ?_⟩
    rw [List.mem_singleton.mp hb]
    rintro rfl
    exact nd ha
  · by_cases hn : n < φ'.length
    · rw [List.getElem?_append_left hn] at h1
      rw [List.getElem?_append_left (by rw [← r.len]; exact hn)] at h2
      exact (r.here n a c h1 h2).mono m rfl
    · have hn1 := (List.getElem?_eq_some_iff.mp h1).1
      have hn2 : n = S.length := by
        simp at hn1
        have := r.len
        omega
      subst hn2
      rw [last] at h1
      cases h1
      rw [List.getElem?_append_right (Nat.le_refl _), Nat.sub_self] at h2
      cases h2
      exact ⟨xs, by rw [if_pos rfl]; exact h, rv.mn m⟩
theorem Ext.notin (e : Ext φ H φ' H') {a : Addr} {o : HO} (h : H a = some o) (n : a ∉ φ) : a ∉ φ' := fun z => by
  obtain ⟨ψ, rfl, e2⟩ := e.pre
  rcases List.mem_append.mp z with q | q
  · exact n q
  · rw [e2 a q] at h; cases h
end
section
variable {X : Cx} {E : XK}
theorem lc_lift {wi : WI} {g : WG} {t : WT} {a : WE} {vs : List Nat} : ∀ σ H Q, LE X.K E (wLc wi g t a vs) σ H Q → tLc (LI X.K E wi) (LG X.K vs g) (LT X.K E t) (LE X.K E a) vs σ H Q :=
  fun σ H Q ⟨φ, env, S, Q', X', rs, re, q, k, x⟩ => ⟨φ, env, S, _, X', rs, re, q, fun items still S1 φ1 H1 J e1 rs1 jok q1 => by
    intro Dl n0
    have nd1 : Dl ∉ φ1 := fun z => rs1.dom Dl z n0
    -- the invariant
    refine ⟨fun i m H => ∃ φ2 S2 acc xs, Ext φ1 H1 φ2 H ∧ RS X.K φ2 S2 H ∧ RE X.K φ2 H env σ ∧ Dl ∉ φ2 ∧ H Dl = some (.lst xs) ∧ RVs X.K φ2 H acc xs ∧ m = items.length - i ∧
      wLcL g t a (wipeD env vs) still (fun acc S2 => Q' (.loc S2.length) (S2 ++ [.lst true acc])) X' (items.drop i) acc S2, ⟨items.length, φ1, S1, [], [], Ext.fresh rs1 n0, rs1.fresh n0, re.mono (e1.trans (Ext.fresh rs1 n0)), nd1, upd_same, rfl, by simp, by simpa using q1⟩, ?_⟩
    rintro i m H2 ⟨φ2, S2, acc, xs, e2, rs2, re2, nd2, hD, rva, hm, lp⟩
    by_cases hi : i < items.length
    · rw [List.drop_eq_getElem_cons hi] at lp
      obtain ⟨st, lp⟩ := lp
      obtain ⟨_, jg⟩ := jok φ2 S2 H2 i e2 rs2 st
      obtain ⟨go, yl⟩ := jg items[i] (List.getElem?_eq_getElem hi)
      refine .inr ⟨go, fun H' => ∃ φ3 S3 acc xs, Ext φ1 H1 φ3 H' ∧ RS X.K φ3 S3 H' ∧ RE X.K φ3 H' env σ ∧ Dl ∉ φ3 ∧ H' Dl = some (.lst xs) ∧ RVs X.K φ3 H' acc xs ∧
        wLcL g t a (wipeD env vs) still (fun acc S2 => Q' (.loc S2.length) (S2 ++ [.lst true acc])) X' (items.drop (i + 1)) acc S3, fun H' ⟨φ3, S3, acc, xs, h1, h2, h3, h4, h5, h6, h7⟩ => ⟨items.length - (i + 1), by omega, φ3, S3, acc, xs, h1, h2, h3, h4, h5, h6, rfl, h7⟩, fun y H' hy => ?_⟩
      obtain ⟨e3, rs3, rv3⟩ := yl y H' hy
      have hD3 := e3.keep Dl _ nd2 hD
      refine ⟨φ2, wipeD env vs, S2, items[i], _, rs3, (re2.mono e3).wipe vs, rv3, lp, fun env4 S4 φ4 σ4 H4 e4 rs4 re4 w4 q4 => ⟨?_, ?_⟩⟩
      · rw [w4]
        have ww : ∀ (σ : L2.St) (vs us : List Nat), (∀ v ∈ vs, v ∈ us) → wipe (wipe σ vs) us = wipe σ us := by
          intro σ vs us h
          induction vs with
          | nil => rfl
          | cons v r ih =>
            show wipe ((wipe σ r).set v none) us = _
            rw [wipe_set (h v (by simp)), ih fun u hu => h u (by simp [hu])]
        exact ww σ vs vs fun v h => h
      have e24 := e3.trans e4
      have e14 := e2.trans e24
      have nd4 : Dl ∉ φ4 := e4.notin hD3 nd2
      have hD4 := e4.keep Dl _ nd2 hD3
      refine ⟨φ4, env4, S4, _, X', rs4, re4, q4, fun b S5 φ5 H5 e5 rs5 q5 => ?_, (x.mono e1).mono e14⟩
      have nd5 : Dl ∉ φ5 := e5.notin hD4 nd4
      have hD5 := e5.keep Dl _ nd4 hD4
      have e15 := e14.trans e5
      cases b with
      | false =>
        have q5 := ofF q5
        refine iteF ?_
        exact ⟨φ5, S5, acc, xs, e15, rs5, re2.mono (e24.trans e5), nd5, hD5, rva.mono (e24.trans e5), q5⟩
      | true =>
        have q5 := ofT q5
        refine iteT ⟨φ5, env4, S5, _, X', rs5, re4.mono e5, q5, fun d S6 φ6 v H6 e6 rs6 rv6 ⟨hl, q6⟩ => ?_, (x.mono e1).mono e15⟩
        have nd6 : Dl ∉ φ6 := e6.notin hD5 nd5
        have hD6 := e6.keep Dl _ nd5 hD5
        have rva6 := rva.mono (e24.trans (e5.trans e6))
        obtain ⟨u1, u2⟩ := lc_upd (ys := xs ++ [v]) (e15.trans e6) rs6 n0 nd6 hD6
        have mm : Mn φ6 H6 φ6 (upd H6 Dl (.lst (xs ++ [v]))) := ⟨fun h => h, fun a zs z => by
          have ne : a ≠ Dl := fun q => (nt_lst hD6).1 zs (q ▸ z)
          rw [upd_ne ne]; exact z, fun a o ys n g => ⟨n, by rw [upd_ne (fun z => by rw [z, hD6] at g; cases g)]; exact g⟩⟩
        have re6 := re2.mono (e24.trans (e5.trans e6))
        exact ⟨xs, hD6, by rw [← rva.len]; exact hl, φ6, S6, acc ++ [d], xs ++ [v], u1, u2, ⟨re6.len, fun i d h => let ⟨v, p1, p2⟩ := re6.here i d h; ⟨v, p1, p2.mn mm⟩⟩, nd6, upd_same, (rva6.append (es := [d]) (us := [v]) ⟨v, [], rfl, rv6, rfl⟩).mn mm, q6⟩
    · rw [List.drop_of_length_le (by omega)] at lp
      obtain ⟨st, lp⟩ := lp
      obtain ⟨f1, f2, f3⟩ := lc_end e2 rs2 n0 nd2 hD rva
      exact .inl ⟨(jok φ2 S2 H2 i e2 rs2 st).1 (by omega), k _ _ _ _ _ (e1.trans f1) f2 f3 lp⟩, x⟩
theorem q_lc {elt tg iter : Expr} {ifs : List Expr} {scope : Scope} {own : List (Str × Nat)} {pos : Pos} {wi : WI} {g : WG} {t : WT} {a : WE} (hc : X.calm = true) (hN : X.N.Nodup) (hi : QI X E tg iter wi) (ok : BlkOk X.N X.env.scope scope own)
    (hg : ∀ (s : Shared) (H : Hp) (C : Addr) (cl : List (Str × Addr)) (fp : List Addr), QG (X.blk s H scope (compEnvC scope cl C X.env) fp) (own.map (·.2)) tg g)
    (ht : ∀ (s : Shared) (H : Hp) (C : Addr) (cl : List (Str × Addr)) (fp : List Addr), PTs (X.blk s H scope (compEnvC scope cl C X.env) fp) ifs (LT X.K E t))
    (he : ∀ (s : Shared) (H : Hp) (C : Addr) (cl : List (Str × Addr)) (fp : List Addr), QE (X.blk s H scope (compEnvC scope cl C X.env) fp) E elt a) (hs : ∀ x, foldedSetIterable iter X.env x = pure x := by intro _; rfl) :
    QE X E (.ListComp elt [⟨tg, iter, ifs, 0⟩] scope pos) (wLc wi g t a (own.map (·.2))) := (pe_lc hc hN hi ok hg ht he hs).imp lc_lift
theorem q_setLc {i : Nat} {y : Str} {py : Pos} {elt tg iter : Expr} {ifs : List Expr} {scope : Scope} {own : List (Str × Nat)} {pos spos : Pos} {wi : WI} {g : WG} {t : WT} {a : WE} (hc : X.calm = true) (hN : X.N.Nodup) (hy : X.N[i]? = some y) (hyl : X.env.scope.names.lookup y = some .local)
    (hsw : swapsWith (.ListComp elt [⟨tg, iter, ifs, 0⟩] scope pos) (some (.Name y py)) spos.line X.env = pure true) (hi : QI X E tg iter wi) (ok : BlkOk X.N X.env.scope scope own)
    (hg : ∀ (s : Shared) (H : Hp) (C : Addr) (cl : List (Str × Addr)) (fp : List Addr), QG (X.blk s H scope (compEnvC scope cl C X.env) fp) (own.map (·.2)) tg g)
    (ht : ∀ (s : Shared) (H : Hp) (C : Addr) (cl : List (Str × Addr)) (fp : List Addr), PTs (X.blk s H scope (compEnvC scope cl C X.env) fp) ifs (LT X.K E t))
    (he : ∀ (s : Shared) (H : Hp) (C : Addr) (cl : List (Str × Addr)) (fp : List Addr), QE (X.blk s H scope (compEnvC scope cl C X.env) fp) E elt a) (hs : ∀ x, foldedSetIterable iter X.env x = pure x := by intro _; rfl) :
    QS X E (.Assign [.Name y py] (.ListComp elt [⟨tg, iter, ifs, 0⟩] scope pos) spos) (wSet i (wLc wi g t a (own.map (·.2)))) := (ps_setLc hc hN hy hyl hsw hi ok hg ht he hs).imp fun Dn σ H ⟨φ, env, S, G, X', rs, re, q, k, x⟩ =>
  lc_lift σ H _ ⟨φ, env, S, _, X', rs, re, q, fun d S1 φ1 v H1 e1 rs1 rv1 q1 => k.nx _ S1 φ1 _ H1 e1 rs1 ((re.mono e1).set rv1) q1, x⟩
end
end Qd
set_option Elab.async false
set_option linter.all false
set_option maxRecDepth 100000
/-! Layer Q: defs. -/
namespace Qd
open PySem PySem.Spec PyProof.Rows L2
/-! ### defs -/
abbrev Con := List D → Store → (D → Store → Prop) → XQ → Prop
def spQ (K : PySem.W.Frag) (c : Con) : Sp := fun vs H Q E => ∃ φ S ds Q' X', RS K φ S H ∧ RVs K φ H ds vs ∧ c ds S Q' X' ∧ VOk K φ H Q' Q ∧ XOk K φ H X' E
def noX : XQ := fun _ _ => False
theorem XOk.noX {K : PySem.W.Frag} {φ : List Addr} {H : Hp} {E : XK} : XOk K φ H noX E := fun _ _ _ _ _ _ z => z.elim
def wCall (c : Con) (dds : List D) (a : WA) : WE := fun env S Q X => a env S (fun ds S1 => c (ds ++ dds) S1 Q noX) X
def wCallX (c : Con) (dds : List D) (a : WA) : WE := fun env S Q X => a env S (fun ds S1 => c (ds ++ dds) S1 Q X) X
/-- the defaults as data -/
def flatV (d : D) : Option V := match d with
  | .non => some .non | .bl b => some (.bl b) | .int i => some (.int i) | .str x => some (.str x) | _ => none
def startD (n : Nat) (ds : List D) : Slots := ds.map some ++ List.replicate (n - ds.length) none
/-- a def of the module, by its contract: nothing leaves it but its value -/
structure Fn (P : Program) (w : World) (K : PySem.W.Frag) (mg : Str → Option Value) (base : Heap) (k : Nat) (x : Str) (c : Con) (dvs : List V) : Prop where
  ex : ∃ (f : Addr) (fd : FuncData) (ps : List Str) (ds : List Value), FnOk P w K mg base CX0 k f fd ps (spQ K c) ∧ mg x = some (.ref f) ∧ PySem.W.keepIn K (.ref f) = true ∧ Binds K fd ps ds ∧ Vals dvs ds
section
variable {X : Cx} {E : XK} {c : Con} {a : Expr} {es : List Expr} {wr : WA} {pos p : Pos} {x : Str} {k j : Nat}
theorem call_lift {K : PySem.W.Frag} {dvs : List V} {dds : List D} (hd : ∀ φ H, RVs K φ H dds dvs) : ∀ σ H Q, LE K E (wCall c dds wr) σ H Q → tCall (spQ K c) dvs E0 (LA K E wr) σ H Q :=
  fun σ H Q ⟨φ, env, S, Q', X', rs, re, q, k, x⟩ => ⟨φ, env, S, _, X', rs, re, q, fun ds S1 φ1 vs H1 e1 rs1 rv1 q1 => ⟨φ1, S1, ds ++ dds, Q', noX, rs1, rv1.append (hd _ _), q1, k.mono e1, XOk.noX⟩, x⟩
/-- f(a, ..), f a def that lets nothing out -/
theorem q_c {dvs : List V} {dds : List D} (C : Fn X.prog X.w X.K X.mg X.base k x c dvs) (hr : Room j X.A) (hk : k ≤ j) (hg : Gl X x) (ha : QA X E (a :: es) wr) (hd : ∀ φ H, RVs X.K φ H dds dvs := by exact fun _ _ => rfl)
    (hdb : (x == ("__debug__" : Str)) = false := by decide) (he : starEach (a :: es) X.env = (false, eval a X.env) :: starEach es X.env := by rfl) (hpl : (backTo pos (starEach es X.env)).any (·.1) = false := by rfl) : QE X E (.Call (.Name x p) (a :: es) [] pos) (wCall c dds wr) :=
  let ⟨f, fd, ps, ds, F, hm, kp, b, d⟩ := C.ex
  (pe_call F (hr.mono hk) hg hm kp b d pass0 ha hdb he hpl).imp (call_lift hd)
end
theorem RE.start {K : PySem.W.Frag} {φ : List Addr} {H : Hp} {ds : List D} {vs : List V} (N : List Str) (r : RVs K φ H ds vs) : RE K φ H (startD N.length ds) (L2.start N vs) := by
  have hl := r.len
  refine ⟨by simp [startD, L2.start, hl], fun i d h => ?_⟩
  unfold startD at h
  unfold L2.start
  by_cases hi : i < ds.length
  · rw [List.getElem?_append_left (by simpa using hi), List.getElem?_map] at h
    cases e : ds[i]? with
    | none => rw [e] at h; cases h
    | some d' =>
      rw [e] at h
      cases h
      obtain ⟨v, h1, h2⟩ := r.get e
      exact ⟨v, by rw [List.getElem?_append_left (by simpa [← hl] using hi), List.getElem?_map, h1]; rfl, h2⟩
  · rw [List.getElem?_append_right (by simpa using hi), List.getElem?_replicate] at h
    split at h <;> cases h
section
variable {P : Program} {w : World} {K : PySem.W.Frag} {mg : Str → Option Value} {base : Heap}
/-- THE RULE for a def that lets nothing out: its body's term, then plain data -/
theorem defQ {x : Str} {st : Stmt} {f : Addr} {fd : FuncData} {N ps : List Str} {k : Nat} {c : Con} {ds : List Value} {dvs : List V} (F : Fun K x x st f fd) (hm : mg x = some (.ref f)) (hb : Binds K fd ps ds) (hd : Vals dvs ds) (S : FnScope N ps (defScope st)) (len : ∀ ds S Q X, c ds S Q X → ds.length = ps.length)
    (body : ∀ (cdv : Value) (A : Around) (outer : List Env) (s : Shared) (H : Hp), Room k (A.deeper (envOfC x (defScope st) s.heap.objs.size f cdv)) →
      ∃ u, QSs (cxOf CX0 P w K mg base N x (defScope st) f cdv A outer s H E0).nox E0 (defBody st) u ∧ ∀ ds S Q X', c ds S Q X' → u ⟨fun _ S => Q .non S, Q, fun _ _ => False, fun _ _ => False⟩ (startD N.length ds) S noX) :
    Fn P w K mg base (k + 1) x c dvs := by
  refine ⟨f, fd, ps, ds, F.ok S (fun vs H Q E ⟨φ, S, ds, Q', X', rs, rv, q, _⟩ => ?_) (fun cdv A outer s H vs Q E hr ⟨φ, S, ds, Q', X', rs, rv, q, k, x⟩ => ?_), hm, F.kp, hb, hd⟩
  · rw [← rv.len]; exact len _ _ _ _ q
  · obtain ⟨u, hu, hv⟩ := body cdv A outer s H hr
    refine ⟨LS K E0 u, ?_, φ, startD N.length ds, S, ⟨fun _ S => Q' .non S, Q', fun _ _ => False, fun _ _ => False⟩, noX, rs, RE.start N rv, hv ds S Q' X' q, ⟨fun env S' φ' σ' H' e rs' re' q' => k .non S' φ' .non H' e rs' rfl q', k, fun _ _ _ _ _ _ _ _ z => z.elim, fun _ _ _ _ _ _ _ _ z => z.elim⟩, XOk.noX⟩
    exact hu
end
end Qd
set_option Elab.async false
set_option linter.all false
set_option maxRecDepth 100000
/-! Layer Q: methods of lists, dicts, texts; built-ins over lists. -/
namespace Qd
open PySem PySem.Spec PyProof.Rows L2
/-! ### methods of lists -/
abbrev WM := D → List D → Store → (D → Store → Prop) → Prop
def ROm (K : PySem.W.Frag) (r : V → List V → Hp → VK → Prop) (f : WM) : Prop := ∀ φ S H x ds v vs (Q : VK) Q', RS K φ S H → RV K φ H x v → RVs K φ H ds vs → f x ds S Q' → VOk K φ H Q' Q → r v vs H Q
/-- a list's method -/
def wLm (f : WM) (o : WE) (a : WA) : WE := fun env S Q X => o env S (fun x S1 => match x with
  | .loc n => (∃ w ds, S1[n]? = some (.lst w ds)) ∧ a env S1 (fun ds S2 => f (.loc n) ds S2 Q) X
  | _ => False) X
section
variable {X : Cx} {E : XK} {o e : Expr} {es : List Expr} {wo : WE} {wr : WA} {apos cpos : Pos} {name : Str} {id : String} {r : V → List V → Hp → VK → Prop} {f : WM}
theorem q_lm (slot : Slot "list" name id) (hty : typeOf (.builtin id) = pure (.type "method_descriptor")) (hm : MtR X id r) (h : ROm X.K r f) (ho : QE X E o wo) (ha : QA X E (e :: es) wr)
    (hbase : attributeBase o name X.env (eval o X.env) = eval o X.env := by rfl) (hline : (apos.endLine == cpos.line) = true := by rfl)
    (hfew : ((backTo cpos (starEach (e :: es) X.env)).all (fun x => !x.1) && (backToKw cpos (keywordEach [] X.env)).all (fun x => x.1.isSome) && decide ((e :: es).length + ([] : List Keyword).length + (if ([] : List Keyword).isEmpty then 0 else 1) < 30)) = true := by rfl)
    (hst : starEach (e :: es) X.env = (false, eval e X.env) :: starEach es X.env := by rfl) (hpl : (backTo cpos (starEach es X.env)).any (·.1) = false := by rfl) : QE X E (.Call (.Attribute o name apos) (e :: es) [] cpos) (wLm f wo wr) :=
  (pe_bm (X := X) (apos := apos) (cpos := cpos) PySem.F.plainAttrs_list slot hty hm ho ha (hbase := hbase) (hfew := hfew) (hline := hline) (hs := hst) (hplain := hpl)).imp fun σ H Q ⟨φ, env, S, Q', X', rs, re, q, k, x⟩ =>
    ⟨φ, env, S, _, X', rs, re, q, fun d S1 φ1 v H1 e1 rs1 rv1 q1 => by
      cases d <;> first
        | exact False.elim q1
        | skip
      case loc n =>
        obtain ⟨⟨w, ds, hs⟩, q1⟩ := q1
        obtain ⟨a, xs, rfl, _, h2, _⟩ := rs1.lst rv1 hs
        exact ⟨.inl ⟨rfl, _, h2⟩, φ1, env, S1, _, X', rs1, re.mono e1, q1, fun ds S2 φ2 vs H2 e2 rs2 rv2 q2 => h φ2 S2 H2 (.loc n) ds _ vs Q Q' rs2 (rv1.mono e2) rv2 q2 (k.mono (e1.trans e2)), x.mono e1⟩, x⟩
theorem q_lm0 (slot : Slot "list" name id) (hty : typeOf (.builtin id) = pure (.type "method_descriptor")) (hm : MtR X id r) (h : ROm X.K r f) (ho : QE X E o wo)
    (hbase : attributeBase o name X.env (eval o X.env) = eval o X.env := by rfl) (hline : (apos.endLine == cpos.line) = true := by rfl) : QE X E (.Call (.Attribute o name apos) [] [] cpos) (wLm f wo wNil) :=
  (pe_bm0 PySem.F.plainAttrs_list slot hty hm ho hbase hline).imp fun σ H Q ⟨φ, env, S, Q', X', rs, re, q, k, x⟩ =>
    ⟨φ, env, S, _, X', rs, re, q, fun d S1 φ1 v H1 e1 rs1 rv1 q1 => by
      cases d <;> first
        | exact False.elim q1
        | skip
      case loc n =>
        obtain ⟨⟨w, ds, hs⟩, q1⟩ := q1
        obtain ⟨a, xs, rfl, _, h2, _⟩ := rs1.lst rv1 hs
        exact ⟨.inl ⟨rfl, _, h2⟩, h φ1 S1 H1 (.loc n) [] _ [] Q Q' rs1 rv1 rfl q1 (k.mono e1)⟩, x⟩
end
section
variable {K : PySem.W.Frag} {φ : List Addr} {H : Hp} {S : Store} {Q : VK} {Q' : D → Store → Prop}
/-- a list is changed -/
theorem VOk.wr (k : VOk K φ H Q' Q) (r : RS K φ S H) {n : Nat} {a : Addr} {xs ys : List V} {es : List D} {d : D} {v : V} (h : φ[n]? = some a) (h2 : H a = some (.lst xs)) (rv : RVs K φ H es ys) (rd : RV K φ H d v) (q : Q' d (S.set n (.lst true es))) : Q v (upd H a (.lst ys)) := by
  have e := Ext.write (o := .lst ys) r h (nt_lst h2)
  exact k d _ φ v _ e (r.write (c := .lst true es) h (nt_lst h2) ⟨ys, by rw [if_pos rfl]; exact upd_same, rv.mono e⟩) (rd.mono e) q
end
def fAppend : WM := fun x ds S Q => match x, ds with
  | .loc n, [d] => ∃ xs, S[n]? = some (.lst true xs) ∧ xs.length < lineD ∧ Q .non (S.set n (.lst true (xs ++ [d])))
  | _, _ => False
theorem ro_append {K : PySem.W.Frag} : ROm K rAppend fAppend := by
  intro φ S H x ds v vs Q Q' r hx hv h k
  unfold fAppend at h
  split at h
  · rename_i n d
    obtain ⟨xs, e, hl, h⟩ := h
    obtain ⟨u, rfl, hu⟩ := hv.one
    obtain ⟨a, ys, rfl, h1, _, h3, h4⟩ := r.lst hx e
    exact ⟨a, ys, u, rfl, rfl, h4 rfl, by rw [← h3.len]; exact hl, k.wr r h1 (h4 rfl) (h3.append (es := [d]) ⟨u, [], rfl, hu, rfl⟩) (d := .non) rfl h⟩
  · exact h.elim
def fExtend : WM := fun x ds S Q => match x, ds with
  | .loc n, [.loc m] => ∃ xs ys, S[n]? = some (.lst true xs) ∧ S[m]? = some (.lst true ys) ∧ xs.length + ys.length ≤ lineD ∧ Q .non (S.set n (.lst true (xs ++ ys)))
  | _, _ => False
theorem ro_extend {K : PySem.W.Frag} : ROm K rExtend fExtend := by
  intro φ S H x ds v vs Q Q' r hx hv h k
  unfold fExtend at h
  split at h
  · rename_i n m
    obtain ⟨xs, ys, e, e2, hl, h⟩ := h
    obtain ⟨u, rfl, hu⟩ := hv.one
    obtain ⟨a, us, rfl, h1, _, h3, h4⟩ := r.lst hx e
    obtain ⟨b, ws, rfl, g1, _, g3, g4⟩ := r.lst hu e2
    exact ⟨a, b, us, ws, rfl, rfl, h4 rfl, g4 rfl, by rw [← h3.len, ← g3.len]; exact hl, k.wr r h1 (h4 rfl) (h3.append g3) (d := .non) rfl h⟩
  · exact h.elim
theorem RVs.erase {K : PySem.W.Frag} {φ : List Addr} {H : Hp} : ∀ {ds : List D} {vs : List V} (n : Nat), RVs K φ H ds vs → RVs K φ H (ds.eraseIdx n) (vs.eraseIdx n)
  | [], _, _, h => by subst h; rfl
  | _ :: _, _, 0, ⟨x, r, e1, e2, e3⟩ => by subst e1; exact e3
  | _ :: _, _, n + 1, ⟨x, r, e1, e2, e3⟩ => by subst e1; exact ⟨x, _, rfl, e2, RVs.erase n e3⟩
/-- xs.pop(i), i from 0 on -/
def fPopAt : WM := fun x ds S Q => match x, ds with
  | .loc n, [.int i] => ∃ xs d, S[n]? = some (.lst true xs) ∧ 0 ≤ i ∧ i < 2 ^ 63 ∧ xs[i.toNat]? = some d ∧ Q d (S.set n (.lst true (xs.eraseIdx i.toNat)))
  | _, _ => False
theorem ro_popAt {K : PySem.W.Frag} : ROm K rPopAt fPopAt := by
  intro φ S H x ds v vs Q Q' r hx hv h k
  unfold fPopAt at h
  split at h
  · rename_i n i
    obtain ⟨xs, d, e, h0, h9, hd, h⟩ := h
    obtain ⟨u, rfl, hu⟩ := hv.one
    obtain ⟨a, ys, rfl, h1, _, h3, h4⟩ := r.lst hx e
    cases hu
    obtain ⟨z, hz, rz⟩ := h3.get hd
    have hl := (List.getElem?_eq_some_iff.mp hz).1
    refine ⟨a, ys, i, i.toNat, z, rfl, rfl, h4 rfl, by omega, h9, ?_, hz, k.wr r h1 (h4 rfl) (h3.erase _) rz h⟩
    exact seqIndex_of h0 (by omega)
  · exact h.elim
def fPop : WM := fun x ds S Q => match x, ds with
  | .loc n, [] => ∃ xs d, S[n]? = some (.lst true xs) ∧ xs[xs.length - 1]? = some d ∧ Q d (S.set n (.lst true xs.dropLast))
  | _, _ => False
theorem RVs.dropLast {K : PySem.W.Frag} {φ : List Addr} {H : Hp} {ds : List D} {vs : List V} (h : RVs K φ H ds vs) : RVs K φ H ds.dropLast vs.dropLast := by
  rw [List.dropLast_eq_take, List.dropLast_eq_take, h.len]
  exact h.take _
theorem ro_pop {K : PySem.W.Frag} : ROm K rPop fPop := by
  intro φ S H x ds v vs Q Q' r hx hv h k
  unfold fPop at h
  split at h
  · rename_i n
    obtain ⟨xs, d, e, hd, h⟩ := h
    obtain ⟨a, ys, rfl, h1, _, h3, h4⟩ := r.lst hx e
    obtain ⟨z, hz, rz⟩ := h3.get hd
    cases hv
    exact ⟨a, ys, z, rfl, rfl, h4 rfl, by rw [← h3.len]; exact hz, k.wr r h1 (h4 rfl) h3.dropLast rz h⟩
  · exact h.elim
def rInsert : V → List V → Hp → VK → Prop := fun x vs H Q => ∃ (l : Addr) (xs : List V) (i : Int) (y : V), x = .ref l ∧ vs = [.int i, y] ∧ H l = some (.lst xs) ∧ xs.length < sizeLine ∧ 0 ≤ i ∧ i < 2 ^ 63 ∧ Q .non (upd H l (.lst (xs.take i.toNat ++ [y] ++ xs.drop i.toNat)))
def fInsert : WM := fun x ds S Q => match x, ds with
  | .loc n, [.int i, d] => ∃ xs, S[n]? = some (.lst true xs) ∧ xs.length < lineD ∧ 0 ≤ i ∧ i < 2 ^ 63 ∧ Q .non (S.set n (.lst true (xs.take i.toNat ++ [d] ++ xs.drop i.toNat)))
  | _, _ => False
theorem ro_insert {K : PySem.W.Frag} : ROm K rInsert fInsert := by
  intro φ S H x ds v vs Q Q' r hx hv h k
  unfold fInsert at h
  split at h
  · rename_i n i d
    obtain ⟨xs, e, hl, h0, h9, h⟩ := h
    obtain ⟨u, w, rfl, hu, hw⟩ := hv.two
    obtain ⟨a, ys, rfl, h1, _, h3, h4⟩ := r.lst hx e
    cases hu
    exact ⟨a, ys, i, w, rfl, rfl, h4 rfl, by rw [← h3.len]; exact hl, h0, h9, k.wr r h1 (h4 rfl) (((h3.take _).append (es := [d]) ⟨w, [], rfl, hw, rfl⟩).append (h3.drop _)) (d := .non) rfl h⟩
  · exact h.elim
def fClear : WM := fun x ds S Q => match x, ds with
  | .loc n, [] => ∃ xs, S[n]? = some (.lst true xs) ∧ Q .non (S.set n (.lst true []))
  | _, _ => False
theorem ro_clear {K : PySem.W.Frag} : ROm K rClear fClear := by
  intro φ S H x ds v vs Q Q' r hx hv h k
  unfold fClear at h
  split at h
  · rename_i n
    obtain ⟨xs, e, h⟩ := h
    obtain ⟨a, ys, rfl, h1, _, h3, h4⟩ := r.lst hx e
    cases hv
    exact ⟨a, ys, rfl, rfl, h4 rfl, k.wr (es := []) r h1 (h4 rfl) rfl (d := .non) rfl h⟩
  · exact h.elim
/-! ### xs[i] = v -/
def gSet (o i : WE) (X : XQ) : WG := fun d env S Q => o env S (fun x S1 => i env S1 (fun y S2 => match x, y with
  | .loc n, .int k => ∃ xs j, S2[n]? = some (.lst true xs) ∧ ixN xs.length k = some j ∧ Q env (S2.set n (.lst true (xs.set j d)))
  | _, _ => False) X) X
section
variable {X : Cx} {o i e : Expr} {wo wi wa : WE} {pos spos : Pos}
theorem qg_set {vs : List Nat} (ho : QE X E0 o wo) (hi : QE X E0 i wi)
    (ha : ∀ v, assign (.Subscript o i pos) X.env v = (do
      let ov ← holding [v] (eval o X.env)
      let iv ← holding [v, ov] (eval i X.env)
      standAt pos
      holding [v, ov, iv] (setItem ov iv v)
      release [v, ov, iv] []) := by intro _; rfl) : QG X vs (.Subscript o i pos) (gSet wo wi noX) :=
  (pg_sub ho hi set_list ha).imp fun v σ H Q ⟨φ, env, S, d, Q', rs, re, rv, q, k⟩ =>
    ⟨φ, env, S, _, noX, rs, re, q, fun x S1 φ1 u H1 e1 rs1 rv1 q1 => ⟨φ1, env, S1, _, noX, rs1, re.mono e1, q1, fun y S2 φ2 w H2 e2 rs2 rv2 q2 => by
      cases x <;> cases y <;> first
        | exact False.elim q2
        | skip
      case loc.int n m =>
        obtain ⟨xs, j, hs, hj, q2⟩ := q2
        obtain ⟨a, ys, rfl, h1, _, h3, h4⟩ := rs2.lst (rv1.mono e2) hs
        cases rv2
        have e12 := e1.trans e2
        have e3 := Ext.write (o := .lst (ys.set j v)) rs2 h1 (nt_lst (h4 rfl))
        have r3 := rs2.write (c := .lst true (xs.set j d)) h1 (nt_lst (h4 rfl)) ⟨_, by rw [if_pos rfl]; exact upd_same, (h3.set j (rv.mono e12)).mono e3⟩
        exact ⟨a, ys, m, j, rfl, rfl, h4 rfl, by rw [← h3.len]; exact hj, k env _ φ2 σ _ (e12.trans e3) r3 (re.mono (e12.trans e3)) rfl q2⟩, XOk.noX⟩, XOk.noX⟩
end
/-! ### dicts by ints and texts -/
section
variable {κ α β : Type} [DecidableEq κ]
def val (kvs : List (κ × α)) (k : κ) : Option α := (kvs.find? fun kv => decide (kv.1 = k)).map (·.2)
def put (kvs : List (κ × α)) (k : κ) (v : α) : List (κ × α) := if (kvs.any fun kv => decide (kv.1 = k)) = true then kvs.map (fun kv => if kv.1 = k then (kv.1, v) else kv) else kvs ++ [(k, v)]
def cut (kvs : List (κ × α)) (k : κ) : List (κ × α) := kvs.filter fun kv => decide (kv.1 ≠ k)
end
section
variable {κ : Type} [DecidableEq κ] {K : PySem.W.Frag} {φ : List Addr} {H : Hp}
theorem RK.len : ∀ {kvs : List (κ × D)} {ys : List (κ × V)}, RK K φ H kvs ys → kvs.length = ys.length
  | [], _, h => by subst h; rfl
  | (_, _) :: _, _, ⟨_, _, e, _, h⟩ => by subst e; simp [RK.len h]
theorem RK.append : ∀ {kvs ls : List (κ × D)} {ys zs : List (κ × V)}, RK K φ H kvs ys → RK K φ H ls zs → RK K φ H (kvs ++ ls) (ys ++ zs)
  | [], _, _, _, h, g => by subst h; exact g
  | (_, _) :: _, _, _, _, ⟨v, q, e, e2, h⟩, g => by subst e; exact ⟨v, _, rfl, e2, RK.append h g⟩
theorem RK.val : ∀ {kvs : List (κ × D)} {ys : List (κ × V)} (k : κ), RK K φ H kvs ys → match val kvs k with | some d => ∃ v, valV ys k = some v ∧ RV K φ H d v | none => valV ys k = none
  | [], _, _, h => by subst h; rfl
  | (a, d) :: r, _, k, ⟨v, q, e, e2, h⟩ => by
    subst e
    by_cases ha : a = k
    · have e1 : Qd.val ((a, d) :: r) k = some d := by simp [Qd.val, List.find?_cons, ha]
      rw [e1]
      exact ⟨v, valV_pos ha, e2⟩
    · have e1 : Qd.val ((a, d) :: r) k = Qd.val r k := by simp [Qd.val, List.find?_cons, ha]
      rw [e1, valV_neg (p := (a, v)) ha]
      exact RK.val k h
theorem RK.any : ∀ {kvs : List (κ × D)} {ys : List (κ × V)} (f : κ → Bool), RK K φ H kvs ys → (kvs.any fun p => f p.1) = ys.any fun p => f p.1
  | [], _, _, h => by subst h; rfl
  | (_, _) :: _, _, f, ⟨v, q, e, e2, h⟩ => by subst e; simp only [List.any_cons]; rw [RK.any f h]
theorem RK.map : ∀ {kvs : List (κ × D)} {ys : List (κ × V)} {d : D} {v : V} (k : κ), RK K φ H kvs ys → RV K φ H d v → RK K φ H (kvs.map fun kv => if kv.1 = k then (kv.1, d) else kv) (ys.map fun kv => if kv.1 = k then (kv.1, v) else kv)
  | [], _, _, _, _, h, _ => by subst h; rfl
  | (a, x) :: r, _, d, v, k, ⟨u, q, e, e2, h⟩, g => by
    subst e
    show RK K φ H ((if a = k then (a, d) else (a, x)) :: _) ((if a = k then (a, v) else (a, u)) :: _)
    by_cases ha : a = k
    · rw [if_pos ha, if_pos ha]
      exact ⟨v, _, rfl, g, RK.map k h g⟩
    · rw [if_neg ha, if_neg ha]
      exact ⟨u, _, rfl, e2, RK.map k h g⟩
end
end Qd
set_option Elab.async false
set_option linter.all false
set_option maxRecDepth 100000
/-! Layer Q: dicts (keys ints and texts, or tuples of such). -/
namespace Qd
open PySem PySem.Spec PyProof.Rows L2
def keyD : D → Option Key
  | .int i => some (.inl i)
  | .str x => some (.inr x)
  | _ => none
def keysD : List D → Option (List Key)
  | [] => some []
  | d :: ds => match keyD d, keysD ds with
    | some k, some ks => some (k :: ks)
    | _, _ => none
def keyT : D → Option (List Key)
  | .tup ds => keysD ds
  | _ => none
section
variable {K : PySem.W.Frag} {φ : List Addr} {H : Hp} {S : Store} {Q : VK} {Q' : D → Store → Prop}
theorem RV.key {d : D} {v : V} {k : Key} (h : RV K φ H d v) (e : keyD d = some k) : v = kV k := by
  cases d <;> simp only [keyD, Option.some.injEq] at e <;> first
    | contradiction
    | (subst e; cases h; rfl)
theorem RVs.keys : ∀ {ds : List D} {vs : List V} {ks : List Key}, RVs K φ H ds vs → keysD ds = some ks → vs = ks.map kV
  | [], _, _, h, e => by subst h; cases e; rfl
  | d :: ds, _, ks, ⟨x, r, e1, e2, e3⟩, e => by
    subst e1
    unfold keysD at e
    split at e
    · rename_i k ks' e4 e5
      cases e
      rw [e2.key e4, RVs.keys e3 e5]
      rfl
    · cases e
theorem RV.keyT {d : D} {v : V} {ks : List Key} (h : RV K φ H d v) (e : Qd.keyT d = some ks) : ∃ b, v = .ref b ∧ H b = some (.tup (ks.map kV)) := by
  cases d <;> first
    | (simp [Qd.keyT] at e; done)
    | skip
  case tup ds =>
    obtain ⟨a, xs, rfl, h1, h2⟩ := h
    exact ⟨a, rfl, by rw [h1, h2.keys e]⟩
theorem RK.put {κ : Type} [DecidableEq κ] {kvs : List (κ × D)} {ys : List (κ × V)} {d : D} {v : V} (k : κ) (h : RK K φ H kvs ys) (g : RV K φ H d v) : RK K φ H (put kvs k d) (putK ys k v) := by
  unfold Qd.put putK
  have e := h.any fun x => decide (x = k)
  rw [show (kvs.any fun kv => decide (kv.1 = k)) = (ys.any fun kv => decide (kv.1 = k)) from e]
  split
  · exact h.map k g
  · exact h.append (ls := [(k, d)]) ⟨v, [], rfl, g, rfl⟩
theorem RK.cut {κ : Type} [DecidableEq κ] : ∀ {kvs : List (κ × D)} {ys : List (κ × V)} (k : κ), RK K φ H kvs ys → RK K φ H (cut kvs k) (dropK ys k)
  | [], _, _, h => by subst h; rfl
  | (a, x) :: r, _, k, ⟨u, q, e, e2, h⟩ => by
    subst e
    have ih := RK.cut k h
    unfold Qd.cut dropK at ih ⊢
    by_cases ha : a = k
    · simp only [List.filter_cons, ha, ne_eq, not_true, decide_false, Bool.false_eq_true, if_false]
      simpa using ih
    · simp only [List.filter_cons, ha, ne_eq, not_false_eq_true, decide_true, if_true]
      exact ⟨u, _, rfl, e2, by simpa using ih⟩
theorem RS.dK (r : RS K φ S H) {n : Nat} {w : Bool} {kvs : List (Key × D)} {v : V} (rv : RV K φ H (.loc n) v) (h : S[n]? = some (.dK w kvs)) : ∃ a ys, v = .ref a ∧ φ[n]? = some a ∧ Rd H a (.dK ys) ∧ RK K φ H kvs ys ∧ (w = true → H a = some (.dK ys)) := by
  obtain ⟨a, h1, rfl⟩ := rv
  obtain ⟨ys, h2, h3⟩ := r.here n a _ h1 h
  cases w with
  | true => rw [if_pos rfl] at h2; exact ⟨a, ys, rfl, h1, .inl h2, h3, fun _ => h2⟩
  | false => rw [if_neg (by decide)] at h2; exact ⟨a, ys, rfl, h1, .inr h2, h3, fun z => by cases z⟩
theorem RS.dT (r : RS K φ S H) {n : Nat} {w : Bool} {kvs : List (List Key × D)} {v : V} (rv : RV K φ H (.loc n) v) (h : S[n]? = some (.dT w kvs)) : ∃ a ys, v = .ref a ∧ φ[n]? = some a ∧ Rd H a (.dT ys) ∧ RK K φ H kvs ys ∧ (w = true → H a = some (.dT ys)) := by
  obtain ⟨a, h1, rfl⟩ := rv
  obtain ⟨ys, h2, h3⟩ := r.here n a _ h1 h
  cases w with
  | true => rw [if_pos rfl] at h2; exact ⟨a, ys, rfl, h1, .inl h2, h3, fun _ => h2⟩
  | false => rw [if_neg (by decide)] at h2; exact ⟨a, ys, rfl, h1, .inr h2, h3, fun z => by cases z⟩
/-- what stands in the dict x at the key y: of each kind -/
def look (x y : D) (S : Store) (P : Option D → Prop) : Prop := match x with
  | .loc n => match S[n]? with
    | some (.dK _ kvs) => ∃ k, keyD y = some k ∧ P (val kvs k)
    | some (.dT _ kvs) => ∃ k, keyT y = some k ∧ P (val kvs k)
    | _ => False
  | _ => False
theorem look_get {x y : D} {v u : V} {P : Option D → Prop} (r : RS K φ S H) (hx : RV K φ H x v) (hy : RV K φ H y u) (h : look x y S P) : ∃ a o, v = .ref a ∧ IsD H a ∧ DGet H a u o ∧ ((∃ d z, o = some z ∧ RV K φ H d z ∧ P (some d)) ∨ (o = none ∧ P none)) := by
  unfold look at h
  cases x <;> first
    | exact False.elim h
    | skip
  case loc n =>
    dsimp only at h
    cases e : S[n]? with
    | none => rw [e] at h; exact h.elim
    | some c =>
      rw [e] at h
      cases c with
      | lst _ _ => exact h.elim
      | ins _ _ => exact h.elim
      | dN _ _ _ => exact h.elim
      | dK w kvs =>
        obtain ⟨k, hk, p⟩ := h
        obtain ⟨a, ys, rfl, _, h1, h2, _⟩ := r.dK hx e
        have hv := h2.val k
        refine ⟨a, valV ys k, rfl, .inl ⟨ys, h1⟩, .inl ⟨ys, k, h1, hy.key hk, rfl⟩, ?_⟩
        cases q : val kvs k with
        | none => rw [q] at hv p; exact .inr ⟨hv, p⟩
        | some d => rw [q] at hv p; obtain ⟨z, h3, h4⟩ := hv; exact .inl ⟨d, z, h3, h4, p⟩
      | dT w kvs =>
        obtain ⟨k, hk, p⟩ := h
        obtain ⟨a, ys, rfl, _, h1, h2, _⟩ := r.dT hx e
        obtain ⟨b, rfl, hb⟩ := hy.keyT hk
        have hv := h2.val k
        refine ⟨a, valV ys k, rfl, .inr ⟨ys, h1⟩, .inr ⟨ys, k, b, h1, rfl, hb, rfl⟩, ?_⟩
        cases q : val kvs k with
        | none => rw [q] at hv p; exact .inr ⟨hv, p⟩
        | some d => rw [q] at hv p; obtain ⟨z, h3, h4⟩ := hv; exact .inl ⟨d, z, h3, h4, p⟩
/-- the store behind x[y] = d -/
def putD (x y d : D) (S : Store) (P : Store → Prop) : Prop := match x with
  | .loc n => match S[n]? with
    | some (.dK true kvs) => ∃ k, keyD y = some k ∧ kvs.length < lineD ∧ P (S.set n (.dK true (put kvs k d)))
    | some (.dT true kvs) => ∃ k, keyT y = some k ∧ kvs.length < lineD ∧ P (S.set n (.dT true (put kvs k d)))
    | _ => False
  | _ => False
theorem putD_ok {x y d : D} {v u z : V} {P : Store → Prop} (r : RS K φ S H) (hx : RV K φ H x v) (hy : RV K φ H y u) (hd : RV K φ H d z) (h : putD x y d S P) : ∃ a H' S', v = .ref a ∧ DPut H a u z H' ∧ Ext φ H φ H' ∧ RS K φ S' H' ∧ P S' := by
  unfold putD at h
  cases x <;> first
    | exact False.elim h
    | skip
  case loc n =>
    dsimp only at h
    cases e : S[n]? with
    | none => rw [e] at h; exact h.elim
    | some c =>
      rw [e] at h
      cases c with
      | lst _ _ => exact h.elim
      | ins _ _ => exact h.elim
      | dN _ _ _ => exact h.elim
      | dK w kvs =>
        cases w with
        | false => exact h.elim
        | true =>
          obtain ⟨k, hk, hl, p⟩ := h
          obtain ⟨a, ys, rfl, h0, h1, h2, h3⟩ := r.dK hx e
          have ew := Ext.write (o := .dK (putK ys k z)) r h0 (nt_dK (h3 rfl))
          exact ⟨a, _, _, rfl, .inl ⟨ys, k, h3 rfl, hy.key hk, by rw [← h2.len]; exact hl, rfl⟩, ew, r.write (c := .dK true (put kvs k d)) h0 (nt_dK (h3 rfl)) ⟨_, by rw [if_pos rfl]; exact upd_same, (h2.put k hd).mono ew⟩, p⟩
      | dT w kvs =>
        cases w with
        | false => exact h.elim
        | true =>
          obtain ⟨k, hk, hl, p⟩ := h
          obtain ⟨a, ys, rfl, h0, h1, h2, h3⟩ := r.dT hx e
          obtain ⟨b, rfl, hb⟩ := hy.keyT hk
          have ew := Ext.write (o := .dT (putK ys k z)) r h0 (nt_dT (h3 rfl))
          exact ⟨a, _, _, rfl, .inr ⟨ys, k, b, h3 rfl, rfl, hb, by rw [← h2.len]; exact hl, rfl⟩, ew, r.write (c := .dT true (put kvs k d)) h0 (nt_dT (h3 rfl)) ⟨_, by rw [if_pos rfl]; exact upd_same, (h2.put k hd).mono ew⟩, p⟩
end
def wDGet (a b : WE) : WE := fun env S Q X => a env S (fun x S1 => b env S1 (fun y S2 => look x y S2 fun o => match o with | some d => Q d S2 | none => False) X) X
def wDIn (neg : Bool) (b a : WE) : WE := fun env S Q X => b env S (fun y S1 => a env S1 (fun x S2 => look x y S2 fun o => Q (.bl (if neg then !o.isSome else o.isSome)) S2) X) X
/-- d.get(k, e) -/
def wDGet2 (a b c : WE) : WE := fun env S Q X => a env S (fun x S1 => (∃ n, x = .loc n ∧ ((∃ w kvs, S1[n]? = some (.dK w kvs)) ∨ ∃ w kvs, S1[n]? = some (.dT w kvs))) ∧ b env S1 (fun y S2 => c env S2 (fun z S3 => look x y S3 fun o => Q (o.getD z) S3) X) X) X
def wDPut (d k v : WE) : WS := fun G env S X => v env S (fun z S1 => d env S1 (fun x S2 => k env S2 (fun y S3 => putD x y z S3 fun S4 => G.nx env S4) X) X) X
def wDNew (c : Cell) : WE := fun _ S Q _ => Q (.loc S.length) (S ++ [c])
section
variable {X : Cx} {E : XK} {o i e f value : Expr} {wo wi we wv : WE} {pos pos' apos cpos : Pos}
theorem q_dget (hu : X.A.units + 1 < cLine) (ho : QE X E o wo) (hi : QE X E i wi) (hs : NoSl i := by exact fun _ _ => rfl) : QE X E (.Subscript o i pos) (wDGet wo wi) := (pe_dget hu ho hi hs).imp fun σ H Q ⟨φ, env, S, Q', X', rs, re, q, k, x⟩ =>
  ⟨φ, env, S, _, X', rs, re, q, fun d S1 φ1 v H1 e1 rs1 rv1 q1 => ⟨φ1, env, S1, _, X', rs1, re.mono e1, q1, fun y S2 φ2 u H2 e2 rs2 rv2 q2 => by
    obtain ⟨a, o, rfl, _, g, ⟨d, z, rfl, rz, q3⟩ | ⟨rfl, q3⟩⟩ := look_get rs2 (rv1.mono e2) rv2 q2
    · exact ⟨a, z, rfl, g, (k.mono (e1.trans e2)).same rs2 rz q3⟩
    · exact q3.elim, x.mono e1⟩, x⟩
theorem din_lift {neg : Bool} : ∀ σ H Q, LE X.K E (wDIn neg wi wo) σ H Q → (LE X.K E wi) σ H fun y H1 => (LE X.K E wo) σ H1 fun x H2 => ∃ a o, x = .ref a ∧ DGet H2 a y o ∧ Q (.bl (if neg then !o.isSome else o.isSome)) H2 := fun σ H Q ⟨φ, env, S, Q', X', rs, re, q, k, x⟩ =>
  ⟨φ, env, S, _, X', rs, re, q, fun y S1 φ1 u H1 e1 rs1 rv1 q1 => ⟨φ1, env, S1, _, X', rs1, re.mono e1, q1, fun d S2 φ2 v H2 e2 rs2 rv2 q2 => by
    obtain ⟨a, o, rfl, _, g, ⟨d, z, rfl, rz, q3⟩ | ⟨rfl, q3⟩⟩ := look_get rs2 rv2 (rv1.mono e2) q2
    · exact ⟨a, _, rfl, g, (k.mono (e1.trans e2)).same rs2 (d := .bl _) rfl q3⟩
    · exact ⟨a, _, rfl, g, (k.mono (e1.trans e2)).same rs2 (d := .bl _) rfl q3⟩, x.mono e1⟩, x⟩
theorem q_din (hu : X.A.units + 1 < cLine) (hi : QE X E i wi) (ho : QE X E o wo) (h1 : behindInMarks .In o = false := by rfl) : QE X E (.Compare i [.In] [o] pos) (wDIn false wi wo) := (pe_cmp (pc_din hu hi ho) h1).imp (din_lift (neg := false))
theorem q_dnin (hu : X.A.units + 1 < cLine) (hi : QE X E i wi) (ho : QE X E o wo) (h1 : behindInMarks .NotIn o = false := by rfl) : QE X E (.Compare i [.NotIn] [o] pos) (wDIn true wi wo) := (pe_cmp (pc_dnotin hu hi ho) h1).imp (din_lift (neg := true))
theorem qt_din (hu : X.A.units + 1 < cLine) (hi : QE X E i wi) (ho : QE X E o wo) (h1 : behindInMarks .In o = false := by rfl) : QT X E (.Compare i [.In] [o] pos) (wTest (wDIn false wi wo)) := (pt_cmp (pc_din hu hi ho) h1).imp fun σ H Q q => din_lift (neg := false) σ H _ (test_lift σ H Q q)
theorem qt_dnin (hu : X.A.units + 1 < cLine) (hi : QE X E i wi) (ho : QE X E o wo) (h1 : behindInMarks .NotIn o = false := by rfl) : QT X E (.Compare i [.NotIn] [o] pos) (wTest (wDIn true wi wo)) := (pt_cmp (pc_dnotin hu hi ho) h1).imp fun σ H Q q => din_lift (neg := true) σ H _ (test_lift σ H Q q)
theorem isD_of {K : PySem.W.Frag} {φ : List Addr} {H : Hp} {S : Store} {x : D} {v : V} (r : RS K φ S H) (hx : RV K φ H x v) (h : ∃ n, x = .loc n ∧ ((∃ w kvs, S[n]? = some (.dK w kvs)) ∨ ∃ w kvs, S[n]? = some (.dT w kvs))) : ∃ a, v = .ref a ∧ IsD H a := by
  obtain ⟨n, rfl, ⟨w, kvs, e⟩ | ⟨w, kvs, e⟩⟩ := h
  · obtain ⟨a, ys, rfl, _, h1, _⟩ := r.dK hx e
    exact ⟨a, rfl, .inl ⟨ys, h1⟩⟩
  · obtain ⟨a, ys, rfl, _, h1, _⟩ := r.dT hx e
    exact ⟨a, rfl, .inr ⟨ys, h1⟩⟩
theorem q_dget2 (hu : X.A.units + 1 < cLine) (ho : QE X E o wo) (he : QE X E e wi) (hf : QE X E f we) (m : M2 X o "get" apos e f cpos := by exact ⟨rfl, rfl, rfl, rfl⟩) : QE X E (.Call (.Attribute o "get" apos) [e, f] [] cpos) (wDGet2 wo wi we) := (pe_dget2 hu ho he hf m).imp fun σ H Q ⟨φ, env, S, Q', X', rs, re, q, k, x⟩ =>
  ⟨φ, env, S, _, X', rs, re, q, fun d S1 φ1 v H1 e1 rs1 rv1 ⟨hd, q1⟩ => by
    obtain ⟨a, rfl, ia⟩ := isD_of rs1 rv1 hd
    refine ⟨a, rfl, ia, φ1, env, S1, _, X', rs1, re.mono e1, q1, fun y S2 φ2 u H2 e2 rs2 rv2 q2 => ⟨φ2, env, S2, _, X', rs2, re.mono (e1.trans e2), q2, fun z S3 φ3 w H3 e3 rs3 rv3 q3 => ?_, x.mono (e1.trans e2)⟩, x.mono e1⟩
    have e13 := (e1.trans e2).trans e3
    obtain ⟨a', o, e', _, g, ⟨d, z, rfl, rz, q4⟩ | ⟨rfl, q4⟩⟩ := look_get rs3 (rv1.mono (e2.trans e3)) (rv2.mono e3) q3
    · cases e'; exact ⟨_, g, (k.mono e13).same rs3 rz q4⟩
    · cases e'; exact ⟨_, g, (k.mono e13).same rs3 rv3 q4⟩, x⟩
theorem q_dput (hu : X.A.units + 1 < cLine) (ho : QE X E o wo) (hi : QE X E i wi) (hv : QE X E value wv) (hs : swapsWith value (some (.Subscript o i pos')) pos.line X.env = pure false := by rfl) : QS X E (.Assign [.Subscript o i pos'] value pos) (wDPut wo wi wv) := (ps_dput hu ho hi hv hs).imp fun Dn σ H ⟨φ, env, S, G, X', rs, re, q, k, x⟩ =>
  ⟨φ, env, S, _, X', rs, re, q, fun z S1 φ1 w H1 e1 rs1 rv1 q1 => ⟨φ1, env, S1, _, X', rs1, re.mono e1, q1, fun d S2 φ2 v H2 e2 rs2 rv2 q2 => ⟨φ2, env, S2, _, X', rs2, re.mono (e1.trans e2), q2, fun y S3 φ3 u H3 e3 rs3 rv3 q3 => by
    obtain ⟨a, H4, S4, rfl, hp, e4, rs4, q4⟩ := putD_ok rs3 (rv2.mono e3) rv3 (rv1.mono (e2.trans e3)) q3
    have e14 := ((e1.trans e2).trans e3).trans e4
    exact ⟨a, H4, rfl, hp, k.nx env S4 φ3 σ H4 e14 rs4 (re.mono e14) q4⟩, x.mono (e1.trans e2)⟩, x.mono e1⟩, x⟩
theorem new_ok {K : PySem.W.Frag} {φ : List Addr} {H : Hp} {S : Store} {Q : VK} {Q' : D → Store → Prop} {u : HO} {c : Cell} (k : VOk K φ H Q' Q) (r : RS K φ S H) {p : Addr} (hp : H p = none) (hc : RC K (φ ++ [p]) (upd H p u) p c) (q : Q' (.loc S.length) (S ++ [c])) : Q (.ref p) (upd H p u) := by
  refine k (.loc S.length) _ (φ ++ [p]) _ _ (Ext.push r hp) (r.push hp hc) ⟨p, ?_, rfl⟩ q
  rw [← r.len, List.getElem?_append_right (Nat.le_refl _), Nat.sub_self]
  rfl
theorem q_dnewK : QE X E (.Dict [] [] pos) (wDNew (.dK true [])) := pe_dnewK.imp fun σ H Q ⟨φ, env, S, Q', X', rs, re, q, k, x⟩ p hp => new_ok (c := .dK true []) k rs hp ⟨[], by rw [if_pos rfl]; exact upd_same, rfl⟩ q
theorem q_dnewT : QE X E (.Dict [] [] pos) (wDNew (.dT true [])) := pe_dnewT.imp fun σ H Q ⟨φ, env, S, Q', X', rs, re, q, k, x⟩ p hp => new_ok (c := .dT true []) k rs hp ⟨[], by rw [if_pos rfl]; exact upd_same, rfl⟩ q
end
/-- a display with written texts as keys -/
def wPs : List (Str × WE) → Slots → Store → (List (Key × D) → Store → Prop) → XQ → Prop
  | [], _, S, Q, _ => Q [] S
  | (s, a) :: r, env, S, Q, X => a env S (fun d S1 => wPs r env S1 (fun ps S2 => Q ((.inr s, d) :: ps) S2) X) X
def mergeD (kvs : List (Key × D)) (more : List (Key × D)) : List (Key × D) := more.foldl (fun acc kv => put acc kv.1 kv.2) kvs
def wDisp (ps : List (Str × WE)) : WE := fun env S Q X => wPs ps env S (fun kvs S1 => kvs.length ≤ 15 ∧ Q (.loc S1.length) (S1 ++ [.dK true (mergeD [] kvs)])) X
theorem RK.merge {K : PySem.W.Frag} {φ : List Addr} {H : Hp} : ∀ {more : List (Key × D)} {zs : List (Key × V)} {kvs : List (Key × D)} {ys : List (Key × V)}, RK K φ H more zs → RK K φ H kvs ys → RK K φ H (mergeD kvs more) (mergeK ys zs)
  | [], _, _, _, h, g => by subst h; exact g
  | (k, d) :: r, _, kvs, ys, ⟨v, q, e, e2, h⟩, g => by
    subst e
    exact RK.merge (more := r) (zs := q) (kvs := Qd.put kvs k d) (ys := putK ys k v) h (g.put k e2)
section
variable {X : Cx} {E : XK} {pos : Pos}
theorem wPs_lift {p : Addr} : ∀ (ps : List (Str × WE)) (φ : List Addr) (env : Slots) (S : Store) (X' : XQ) (σ : L2.St) (H : Hp) (R : List (V × V) → Hp → Prop) (Q' : List (Key × D) → Store → Prop),
    RS X.K φ S H → RE X.K φ H env σ → H p = some (.dK []) → p ∉ φ → wPs ps env S Q' X' → XOk X.K φ H X' E →
    (∀ kvs S' φ' ys H', Ext φ H φ' H' → RS X.K φ' S' H' → H' p = some (.dK []) → p ∉ φ' → RK X.K φ' H' kvs ys → Q' kvs S' → R (ys.map fun kv => (kV kv.1, kv.2)) H') →
    tPairs (ps.map fun x => (tC (.str x.1), LE X.K E x.2)) σ H R
  | [], φ, env, S, X', σ, H, R, Q', rs, re, hp, np, q, x, k => k [] S φ [] H rs.ext rs hp np rfl q
  | (s, a) :: r, φ, env, S, X', σ, H, R, Q', rs, re, hp, np, q, x, k => by
    refine ⟨φ, env, S, _, X', rs, re, q, fun d S1 φ1 v H1 e1 rs1 rv1 q1 => ?_, x⟩
    refine wPs_lift r φ1 env S1 X' σ H1 _ _ rs1 (re.mono e1) (e1.keep p _ np hp) (e1.notin hp np) q1 (x.mono e1) fun kvs S2 φ2 ys H2 e2 rs2 hp2 np2 rk q2 => ?_
    exact k ((.inr s, d) :: kvs) S2 φ2 ((.inr s, v) :: ys) H2 (e1.trans e2) rs2 hp2 np2 ⟨v, ys, rfl, rv1.mono e2, rk⟩ q2
theorem q_disp {keys : List (Option Expr)} {values : List Expr} {ps : List (Str × WE)} (h : PPs X pos keys values (ps.map fun x => (tC (.str x.1), LE X.K E x.2))) (hall : keys.all (·.isSome) = true := by rfl) (hl : keys.length = values.length := by rfl) (h0 : keys ≠ [] := by exact fun z => nomatch z) (h15 : keys.length ≤ 15 := by decide) :
    QE X E (.Dict keys values pos) (wDisp ps) := (pe_disp h hall hl h0 h15).imp fun σ H Q ⟨φ, env, S, Q', X', rs, re, q, k, x⟩ p hp => by
  have e0 := Ext.fresh (o := .dK []) rs hp
  have np : p ∉ φ := fun z => rs.dom p z hp
  refine wPs_lift ps φ env S X' σ _ _ _ (rs.fresh hp) (re.mono e0) upd_same np q (x.mono e0) fun kvs S1 φ1 ys H1 e1 rs1 hp1 np1 rk ⟨h15, q1⟩ => ⟨hp1, ys, rfl, by rw [← rk.len]; exact h15, ?_⟩
  have hm := rk.merge (kvs := []) (ys := []) rfl
  -- the dict becomes a cell
  have e01 := e0.trans e1
  have tp : ∀ a zs, H1 a = some (.tup zs) → (upd H1 p (.dK (mergeK [] ys))) a = some (.tup zs) := fun a zs z => by
    have ne : a ≠ p := fun q => (nt_dK hp1).1 zs (by rw [← q]; exact z)
    rw [upd_ne ne]; exact z
  have ne : ∀ a ∈ φ1, a ≠ p := fun a ha q => np1 (q ▸ ha)
  have m1 : Mn φ1 H1 φ1 (upd H1 p (.dK (mergeK [] ys))) := ⟨fun h => h, tp, fun a o zs n g => ⟨n, by rw [upd_ne (fun z => by rw [z, hp1] at g; cases g)]; exact g⟩⟩
  have rs2 : RS X.K φ1 S1 (upd H1 p (.dK (mergeK [] ys))) := rs1.later m1 fun a ha => upd_ne (ne a ha)
  have m2 : Mn φ1 (upd H1 p (.dK (mergeK [] ys))) (φ1 ++ [p]) (upd H1 p (.dK (mergeK [] ys))) := ⟨fun {n a} q => by rw [List.getElem?_append_left (List.getElem?_eq_some_iff.mp q).1]; exact q, fun _ _ z => z, fun a o zs n g => ⟨fun z => (List.mem_append.mp z).elim n fun z => (by rw [List.mem_singleton.mp z, upd_same] at g; cases g), g⟩⟩
  have dom : ∀ a ∈ φ1 ++ [p], (upd H1 p (.dK (mergeK [] ys))) a ≠ none := fun a ha => by
    rcases List.mem_append.mp ha with z | z
    · exact rs2.dom a z
    · rw [List.mem_singleton.mp z, upd_same]; exact fun q => by cases q
  have last : (φ1 ++ [p])[S1.length]? = some p := by rw [← rs1.len, List.getElem?_append_right (Nat.le_refl _), Nat.sub_self]; rfl
  refine k (.loc S1.length) _ (φ1 ++ [p]) _ _ ⟨?_, fun a o na z => ?_, fun a zs z => tp a zs (e01.tups a zs z), dom, fun a o u z => by rw [upd_ne (ne_of_none z hp)]; exact e01.frzs a o u z⟩ ⟨by simp [rs1.len], ?_, dom, fun n a c h1 h2 => ?_⟩ ⟨p, last, rfl⟩ q1
  · obtain ⟨ψ, f1, f2⟩ := e01.pre
    refine ⟨ψ ++ [p], by rw [f1, List.append_assoc], fun a ha => ?_⟩
    rcases List.mem_append.mp ha with z | z
    · exact f2 a z
    · rw [List.mem_singleton.mp z]; exact hp
  · rw [upd_ne (ne_of_none z hp)]; exact e01.keep a o na z
  · rw [List.nodup_append]
    refine ⟨rs1.nd, by simp, fun a ha b hb => ?_⟩
    rw [List.mem_singleton.mp hb]
    rintro rfl
    exact np1 ha
  · by_cases hn : n < φ1.length
    · rw [List.getElem?_append_left hn] at h1
      rw [List.getElem?_append_left (by rw [← rs1.len]; exact hn)] at h2
      exact (rs2.here n a c h1 h2).mono m2 rfl
    · have hn1 := (List.getElem?_eq_some_iff.mp h1).1
      have hn2 : n = S1.length := by
        simp at hn1
        have := rs1.len
        omega
      subst hn2
      rw [last] at h1
      cases h1
      rw [List.getElem?_append_right (Nat.le_refl _), Nat.sub_self] at h2
      cases h2
      exact ⟨_, by rw [if_pos rfl]; exact upd_same, (hm.mn m1).mn m2⟩
end
end Qd
set_option Elab.async false
set_option linter.all false
set_option maxRecDepth 100000
/-! Layer Q: texts, built-ins. -/
namespace Qd
open PySem PySem.Spec PyProof.Rows L2
/-! ### texts -/
def wSm0 (f : WO1) (o : WE) : WE := fun env S Q X => o env S (fun x S1 => match x with | .str z => f (.str z) S1 Q | _ => False) X
def wSm1 (f : WO2) (o a : WE) : WE := fun env S Q X => o env S (fun x S1 => match x with | .str z => a env S1 (fun y S2 => f (.str z) y S2 Q) X | _ => False) X
def fUpper : WO1 := fun x S Q => match x with | .str a => a.length ≤ 5592405 ∧ Q (.str (Txt.upper a)) S | _ => False
def fJoin : WO2 := fun x y S Q => match x, y with
  | .str a, .loc n => ∃ w ys, S[n]? = some (.lst w (ys.map D.str)) ∧ (ys.map (·.length)).sum + ys.length * a.length ≤ 16777216 ∧ Q (.str (Txt.join a ys)) S
  | _, _ => False
theorem RVs.strs {K : PySem.W.Frag} {φ : List Addr} {H : Hp} : ∀ {ys : List Str} {vs : List V}, RVs K φ H (ys.map D.str) vs → vs = ys.map V.str
  | [], _, h => h
  | y :: ys, _, ⟨x, r, e1, e2, e3⟩ => by subst e1; cases e2; rw [RVs.strs e3]; rfl
theorem RVs.toInts {K : PySem.W.Frag} {φ : List Addr} {H : Hp} : ∀ {ys : List Int} {vs : List V}, RVs K φ H (ys.map D.int) vs → vs = ys.map V.int
  | [], _, h => h
  | y :: ys, _, ⟨x, r, e1, e2, e3⟩ => by subst e1; cases e2; rw [RVs.toInts e3]; rfl
theorem RVs.toBls {K : PySem.W.Frag} {φ : List Addr} {H : Hp} : ∀ {ys : List Bool} {vs : List V}, RVs K φ H (ys.map D.bl) vs → vs = ys.map V.bl
  | [], _, h => h
  | y :: ys, _, ⟨x, r, e1, e2, e3⟩ => by subst e1; cases e2; rw [RVs.toBls e3]; rfl
section
variable {X : Cx} {E : XK} {o e a b : Expr} {wo wa wb : WE} {pos apos p : Pos}
theorem q_upper (ho : QE X E o wo) (hbase : attributeBase o "upper" X.env (eval o X.env) = eval o X.env := by rfl) (hline : (apos.endLine == pos.line) = true := by rfl) : QE X E (.Call (.Attribute o "upper" apos) [] [] pos) (wSm0 fUpper wo) := (pe_upper ho hbase hline).imp fun σ H Q ⟨φ, env, S, Q', X', rs, re, q, k, x⟩ =>
  ⟨φ, env, S, _, X', rs, re, q, fun d S1 φ1 v H1 e1 rs1 rv1 q1 => by
    cases d <;> first
      | exact False.elim q1
      | skip
    case str z =>
      cases rv1
      exact ⟨⟨z, rfl⟩, z, rfl, rfl, q1.1, (k.mono e1).same rs1 (d := .str _) rfl q1.2⟩, x⟩
theorem q_join (ho : QE X E o wo) (he : QE X E e wa) (hs : starEach [e] X.env = [(false, eval e X.env)] := by rfl) (hbase : attributeBase o "join" X.env (eval o X.env) = eval o X.env := by rfl) (hline : (apos.endLine == pos.line) = true := by rfl) : QE X E (.Call (.Attribute o "join" apos) [e] [] pos) (wSm1 fJoin wo wa) := (pe_join ho he hs hbase hline).imp fun σ H Q ⟨φ, env, S, Q', X', rs, re, q, k, x⟩ =>
  ⟨φ, env, S, _, X', rs, re, q, fun d S1 φ1 v H1 e1 rs1 rv1 q1 => by
    cases d <;> first
      | exact False.elim q1
      | skip
    case str z =>
      cases rv1
      refine ⟨⟨z, rfl⟩, φ1, env, S1, _, X', rs1, re.mono e1, q1, fun y S2 φ2 u H2 e2 rs2 rv2 q2 => ?_, x.mono e1⟩
      cases y <;> first
        | exact False.elim q2
        | skip
      case loc n =>
        obtain ⟨w, ys, h1, h2, q2⟩ := q2
        obtain ⟨p, us, rfl, _, g2, g3, _⟩ := rs2.lst rv2 h1
        rw [g3.strs] at g2
        exact ⟨z, p, ys, rfl, rfl, .inl g2, h2, (k.mono (e1.trans e2)).same rs2 (d := .str _) rfl q2⟩, x⟩
end
/-- one sign in a text -/
def fInS (neg : Bool) : WO2 := fun x y S Q => match x, y with
  | .str a, .str z => ∃ c : Nat, a = ⟨#[c]⟩ ∧ Q (.bl (if neg then !decide (c ∈ z.cps.toList) else decide (c ∈ z.cps.toList))) S
  | _, _ => False
def rInS (neg : Bool) : R2 := fun x y H Q => ∃ (c : Nat) (z : Str), x = .str ⟨#[c]⟩ ∧ y = .str z ∧ Q (.bl (if neg then !decide (c ∈ z.cps.toList) else decide (c ∈ z.cps.toList))) H
theorem ro_inS {K : PySem.W.Frag} {neg : Bool} : RO2 K (rInS neg) (fInS neg) := by
  intro φ S H x y v u Q Q' r hx hy h k
  cases x <;> cases y <;> first
    | exact False.elim h
    | skip
  case str.str a z =>
    obtain ⟨c, rfl, h⟩ := h
    cases hx; cases hy
    exact ⟨c, z, rfl, rfl, k.same r (d := .bl _) rfl h⟩
/-- text * n -/
def rMulS : R2 := fun x y H Q => ∃ (a : Str) (n : Int), x = .str a ∧ y = .int n ∧ MulOk a n ∧ Q (.str (Txt.mul a n)) H
theorem op_mulS {X : Cx} : OpR X (binaryOp .Mult) rMulS := by
  intro pins s σ H x y v u Q I rx ry h
  obtain ⟨a, n, rfl, rfl, ok, q⟩ := h
  obtain ⟨t, rfl⟩ := rx
  obtain ⟨t', rfl⟩ := ry
  exact SB.mul ok fun t' k => ⟨.str _, H, I.tok _, ⟨_, rfl⟩, q⟩
/-- * of any kind: ints, a text by a number, a list by a number -/
def fMul3 : WO2 := fun x y S Q => match x, y with
  | .int i, .int j => CMulW i j ∧ Q (.int (i * j)) S
  | .str a, .int n => MulOk a n ∧ Q (.str (Txt.mul a n)) S
  | .loc m, .int k => ∃ ds, S[m]? = some (.lst true ds) ∧ -(2 ^ 63) ≤ k ∧ k < 2 ^ 63 ∧ ds.length * k.toNat ≤ lineD ∧ Q (.loc S.length) (S ++ [.lst true (List.replicate k.toNat ds).flatten])
  | _, _ => False
def rMul3 : R2 := fun x y H Q => rI CMulW (fun i j => .int (i * j)) x y H Q ∨ rMulS x y H Q ∨ rRep x y H Q
theorem op_mul3 {X : Cx} : OpR X (binaryOp .Mult) rMul3 := OpR.orr op_mulW (OpR.orr op_mulS op_rep)
theorem ro_mul3 {K : PySem.W.Frag} : RO2 K rMul3 fMul3 := by
  intro φ S H x y v u Q Q' r hx hy h k
  cases x <;> cases y <;> first
    | exact False.elim h
    | skip
  case int.int i j =>
    cases hx; cases hy
    exact .inl ⟨i, j, rfl, rfl, h.1, k.same r (d := .int (i * j)) rfl h.2⟩
  case str.int a n =>
    cases hx; cases hy
    exact .inr (.inl ⟨a, n, rfl, rfl, h.1, k.same r (d := .str _) rfl h.2⟩)
  case loc.int m i =>
    exact .inr (.inr (ro_rep φ S H (.loc m) (.int i) v u Q Q' r hx hy h k))
/-! ### built-ins -/
def fAbs : WOn := fun ds S Q => match ds with | [.int i] => Q (.int (if i < 0 then -i else i)) S | _ => False
theorem ro_abs {K : PySem.W.Frag} : ROn K (fun xs H Q => ∃ i, xs = [.int i] ∧ Q (.int (if i < 0 then -i else i)) H) fAbs := by
  intro φ S H ds vs Q Q' r hv h k
  unfold fAbs at h
  split at h
  · obtain ⟨v, rfl, hv2⟩ := hv.one
    cases hv2
    exact ⟨_, rfl, k.same r (d := .int _) rfl h⟩
  · exact h.elim
def fInt : WOn := fun ds S Q => match ds with | [.int i] => Q (.int i) S | [.bl b] => Q (.int (if b then 1 else 0)) S | _ => False
theorem ro_int {K : PySem.W.Frag} : ROn K (fun xs H Q => (∃ i, xs = [.int i] ∧ Q (.int i) H) ∨ ∃ k, xs = [.bl k] ∧ Q (.int (if k then 1 else 0)) H) fInt := by
  intro φ S H ds vs Q Q' r hv h k
  unfold fInt at h
  split at h
  · obtain ⟨v, rfl, hv2⟩ := hv.one
    cases hv2
    exact .inl ⟨_, rfl, k.same r (d := .int _) rfl h⟩
  · obtain ⟨v, rfl, hv2⟩ := hv.one
    cases hv2
    exact .inr ⟨_, rfl, k.same r (d := .int _) rfl h⟩
  · exact h.elim
def fMax2 : WOn := fun ds S Q => match ds with | [.int i, .int j] => Q (.int (if j > i then j else i)) S | _ => False
theorem ro_max2 {K : PySem.W.Frag} : ROn K (fun xs H Q => ∃ i j, xs = [.int i, .int j] ∧ Q (.int (if j > i then j else i)) H) fMax2 := by
  intro φ S H ds vs Q Q' r hv h k
  unfold fMax2 at h
  split at h
  · obtain ⟨v, u, rfl, h1, h2⟩ := hv.two
    cases h1; cases h2
    exact ⟨_, _, rfl, k.same r (d := .int _) rfl h⟩
  · exact h.elim
def fMin2 : WOn := fun ds S Q => match ds with | [.int i, .int j] => Q (.int (if j < i then j else i)) S | _ => False
theorem ro_min2 {K : PySem.W.Frag} : ROn K (fun xs H Q => ∃ i j, xs = [.int i, .int j] ∧ Q (.int (if j < i then j else i)) H) fMin2 := by
  intro φ S H ds vs Q Q' r hv h k
  unfold fMin2 at h
  split at h
  · obtain ⟨v, u, rfl, h1, h2⟩ := hv.two
    cases h1; cases h2
    exact ⟨_, _, rfl, k.same r (d := .int _) rfl h⟩
  · exact h.elim
/-- of a list -/
def fOfL (P : List D → (D → Prop) → Prop) : WOn := fun ds S Q => match ds with | [.loc n] => ∃ w xs, S[n]? = some (.lst w xs) ∧ P xs fun d => Q d S | _ => False
def fSum : WOn := fOfL fun xs Q => ∃ ns : List Int, xs = ns.map D.int ∧ Q (.int ns.sum)
def fAll : WOn := fOfL fun xs Q => ∃ bs : List Bool, xs = bs.map D.bl ∧ Q (.bl (bs.all id))
def fAny : WOn := fOfL fun xs Q => ∃ bs : List Bool, xs = bs.map D.bl ∧ Q (.bl (bs.any id))
def fMaxL : WOn := fOfL fun xs Q => ∃ ns : List Int, xs = ns.map D.int ∧ 0 < ns.length ∧ ∀ m, m ∈ ns → (∀ y, y ∈ ns → y ≤ m) → Q (.int m)
def fMinL : WOn := fOfL fun xs Q => ∃ ns : List Int, xs = ns.map D.int ∧ 0 < ns.length ∧ ∀ m, m ∈ ns → (∀ y, y ∈ ns → m ≤ y) → Q (.int m)
theorem ofL {K : PySem.W.Frag} {φ : List Addr} {S : Store} {H : Hp} {ds : List D} {vs : List V} {P : List D → (D → Prop) → Prop} {Q' : D → Store → Prop} (r : RS K φ S H) (hv : RVs K φ H ds vs) (h : fOfL P ds S Q') : ∃ a xs ys, vs = [.ref a] ∧ SqL K H a ys ∧ RVs K φ H xs ys ∧ P xs fun d => Q' d S := by
  unfold fOfL at h
  split at h
  · rename_i n
    obtain ⟨w, xs, e, p⟩ := h
    obtain ⟨v, rfl, h1⟩ := hv.one
    obtain ⟨a, ys, rfl, _, h2, h3, _⟩ := r.lst h1 e
    exact ⟨a, xs, ys, rfl, h2, h3, p⟩
  · exact h.elim
theorem ro_sum {K : PySem.W.Frag} : ROn K (rSum K) fSum := by
  intro φ S H ds vs Q Q' r hv h k
  obtain ⟨a, xs, ys, rfl, h1, h2, ns, rfl, q⟩ := ofL r hv h
  rw [h2.toInts] at h1
  exact ⟨a, ns, rfl, h1, k.same r (d := .int _) rfl q⟩
theorem ro_all {K : PySem.W.Frag} : ROn K (rAll K) fAll := by
  intro φ S H ds vs Q Q' r hv h k
  obtain ⟨a, xs, ys, rfl, h1, h2, ns, rfl, q⟩ := ofL r hv h
  rw [h2.toBls] at h1
  exact ⟨a, ns, rfl, h1, k.same r (d := .bl _) rfl q⟩
theorem ro_any {K : PySem.W.Frag} : ROn K (rAny K) fAny := by
  intro φ S H ds vs Q Q' r hv h k
  obtain ⟨a, xs, ys, rfl, h1, h2, ns, rfl, q⟩ := ofL r hv h
  rw [h2.toBls] at h1
  exact ⟨a, ns, rfl, h1, k.same r (d := .bl _) rfl q⟩
theorem ro_maxL {K : PySem.W.Frag} : ROn K (rMax K) fMaxL := by
  intro φ S H ds vs Q Q' r hv h k
  obtain ⟨a, xs, ys, rfl, h1, h2, ns, rfl, hl, q⟩ := ofL r hv h
  rw [h2.toInts] at h1
  exact ⟨a, ns, rfl, h1, hl, fun m hm hy => k.same r (d := .int m) rfl (q m hm hy)⟩
theorem ro_minL {K : PySem.W.Frag} : ROn K (rMin K) fMinL := by
  intro φ S H ds vs Q Q' r hv h k
  obtain ⟨a, xs, ys, rfl, h1, h2, ns, rfl, hl, q⟩ := ofL r hv h
  rw [h2.toInts] at h1
  exact ⟨a, ns, rfl, h1, hl, fun m hm hy => k.same r (d := .int m) rfl (q m hm hy)⟩
/-- list(x), tuple(x) of a list or a tuple -/
def fList : WOn := fun ds S Q => match ds with
  | [.loc n] => ∃ w xs, S[n]? = some (.lst w xs) ∧ Q (.loc S.length) (S ++ [.lst true xs])
  | [.tup xs] => Q (.loc S.length) (S ++ [.lst true xs])
  | _ => False
theorem ro_list {K : PySem.W.Frag} : ROn K (fun xs H Q => ∃ p ys, xs = [.ref p] ∧ (SqL K H p ys ∨ SqT K H p ys) ∧ ∀ l, H l = none → Q (.ref l) (upd H l (.lst ys))) fList := by
  intro φ S H ds vs Q Q' r hv h k
  unfold fList at h
  split at h
  · obtain ⟨v, rfl, h1⟩ := hv.one
    obtain ⟨w, xs, e, q⟩ := h
    obtain ⟨a, ys, rfl, _, h2, h3, _⟩ := r.lst h1 e
    exact ⟨a, ys, rfl, .inl h2, fun l hl => k.lst r h3 q hl⟩
  · obtain ⟨v, rfl, h1⟩ := hv.one
    obtain ⟨a, ys, rfl, h2, h3⟩ := h1
    exact ⟨a, ys, rfl, .inr (SqT.of h2), fun l hl => k.lst r h3 h hl⟩
  · exact h.elim
def fTuple : WOn := fun ds S Q => match ds with
  | [.loc n] => ∃ w xs, S[n]? = some (.lst w xs) ∧ Q (.tup xs) S
  | [.tup xs] => Q (.tup xs) S
  | _ => False
theorem ro_tuple {K : PySem.W.Frag} : ROn K (fun xs H Q => ∃ p ys, xs = [.ref p] ∧ ((SqL K H p ys ∧ ∀ l, H l = none → Q (.ref l) (upd H l (.tup ys))) ∨ (SqT K H p ys ∧ Q (.ref p) H))) fTuple := by
  intro φ S H ds vs Q Q' r hv h k
  unfold fTuple at h
  split at h
  · obtain ⟨v, rfl, h1⟩ := hv.one
    obtain ⟨w, xs, e, q⟩ := h
    obtain ⟨a, ys, rfl, _, h2, h3, _⟩ := r.lst h1 e
    exact ⟨a, ys, rfl, .inl ⟨h2, fun l hl => k.tup r h3 q hl⟩⟩
  · obtain ⟨v, rfl, h1⟩ := hv.one
    obtain ⟨a, ys, rfl, h2, h3⟩ := id h1
    exact ⟨a, ys, rfl, .inr ⟨SqT.of h2, k.same r h1 h⟩⟩
  · exact h.elim
/-- xs[::-1] -/
def wRev (a : WE) : WE := fun env S Q X => a env S (fun x S1 => match x with | .loc n => ∃ w xs, S1[n]? = some (.lst w xs) ∧ Q (.loc S1.length) (S1 ++ [.lst true xs.reverse]) | _ => False) X
theorem q_rev {X : Cx} {E : XK} {e : Expr} {wa : WE} {k : Nat} {p1 p2 p3 pos : Pos} (h : QE X E e wa) : QE X E (.Subscript e (.Slice none none (some (.UnaryOp .USub (.Constant (.int 1) k p1) p2)) p3) pos) (wRev wa) := (pe_revL h).imp fun σ H Q ⟨φ, env, S, Q', X', rs, re, q, k, x⟩ =>
  ⟨φ, env, S, _, X', rs, re, q, fun d S1 φ1 v H1 e1 rs1 rv1 q1 => by
    cases d <;> first
      | exact False.elim q1
      | skip
    case loc n =>
      obtain ⟨w, xs, h1, q2⟩ := q1
      obtain ⟨a, ys, rfl, _, g2, g3, _⟩ := rs1.lst rv1 h1
      exact ⟨a, ys, rfl, g2, fun p hp => (k.mono e1).lst rs1 g3.reverse q2 hp⟩, x⟩
/-! ### isinstance -/
def isTy (S : Store) (T : String) (x : D) : Option Bool := (tyD S x).bind fun t => kitB t T
def fIsi (T : String) : WO1 := fun x S Q => ∃ b, isTy S T x = some b ∧ Q (.bl b) S
theorem tyD_ok {K : PySem.W.Frag} {φ : List Addr} {S : Store} {H : Hp} {x : D} {v : V} {t : String} (r : RS K φ S H) (hx : RV K φ H x v) (h : tyD S x = some t) : TyX K H v (.type t) := by
  cases x with
  | non => cases h; cases hx; exact .base .non
  | bl b => cases h; cases hx; exact .base (.bl b)
  | int b => cases h; cases hx; exact .base (.int b)
  | str b => cases h; cases hx; exact .base (.str b)
  | tup ds => cases h; obtain ⟨a, xs, rfl, h1, _⟩ := hx; exact .base (.tup h1)
  | loc n =>
    unfold tyD at h
    dsimp only at h
    split at h <;> first
      | (cases h; done)
      | skip
    · rename_i ds e
      cases h
      obtain ⟨a, xs, rfl, _, _, _, h2⟩ := r.lst hx e
      exact .base (.lst (h2 rfl))
    · rename_i kvs e
      cases h
      obtain ⟨a, ys, rfl, _, h1, _, h2⟩ := r.dK hx e
      exact .base (.dK (h2 rfl))
    · rename_i kvs e
      cases h
      obtain ⟨a, ys, rfl, _, h1, _, h2⟩ := r.dT hx e
      exact .base (.dT (h2 rfl))
  | adr a => cases h
  | scr a => cases h
section
variable {X : Cx} {E : XK} {e : Expr} {wa : WE} {pos p p2 : Pos}
theorem q_isi {x : Str} (T : String) (hgi : Gl X "isinstance") (hmi : X.mg "isinstance" = none) (hg : Gl X x) (hm : X.mg x = none) (hv : bootBuiltins x = some (.type T)) (ha : QE X E e wa) (hn : x ≠ "__name__" := by decide) (hdb : (x == ("__debug__" : Str)) = false := by decide)
    (he : starEach (e :: [.Name x p2]) X.env = (false, eval e X.env) :: starEach [.Name x p2] X.env := by rfl) (he2 : starEach (.Name x p2 :: []) X.env = (false, eval (.Name x p2) X.env) :: starEach [] X.env := by rfl) (hpl : (backTo pos (starEach [.Name x p2] X.env)).any (·.1) = false := by rfl) :
    QE X E (.Call (.Name "isinstance" p) [e, .Name x p2] [] pos) (wUn (fIsi T) wa) :=
  (pe_callB call_isi hgi hmi (by decide +kernel) (pa_cons ha (pa_cons (pe_bltn (v := .ty T) hg hm hv rfl hn hdb) pa_nil he2) he) (by decide) (by decide) he hpl).imp fun σ H Q ⟨φ, env, S, Q', X', rs, re, q, k, xx⟩ =>
    ⟨φ, env, S, _, X', rs, re, q, fun d S1 φ1 v H1 e1 rs1 rv1 ⟨b, hb, q1⟩ => by
      unfold isTy at hb
      cases ht : tyD S1 d with
      | none => rw [ht] at hb; cases hb
      | some t =>
        rw [ht] at hb
        exact ⟨v, .ty T, .type t, .type T, b, rfl, .ty T, tyD_ok rs1 rv1 ht, kit_ty hb, (k.mono e1).same rs1 (d := .bl b) rfl q1⟩, xx⟩
end
end Qd
set_option Elab.async false
set_option linter.all false
set_option maxRecDepth 100000
/-! Layer Q: chains, == [], in over data, max with a default, walks of texts, returns without a value, raise. -/
namespace Qd
open PySem PySem.Spec PyProof.Rows L2
section
variable {X : Cx} {E : XK} {a b c : Expr} {wa wb wc : WE} {pos : Pos}
theorem chain_lift {K : PySem.W.Frag} {r r' : R2} {f g : WO2} (h : RO2 K r f) (h' : RO2 K r' g) : ∀ σ H Q, LE K E (wChain f g wa wb wc) σ H Q → tChain r r' (LE K E wa) (LE K E wb) (LE K E wc) σ H Q :=
  fun σ H Q ⟨φ, env, S, Q', X', rs, re, q, k, x⟩ => ⟨φ, env, S, _, X', rs, re, q, fun d S1 φ1 v H1 e1 rs1 rv1 q1 => ⟨φ1, env, S1, _, X', rs1, re.mono e1, q1, fun d2 S2 φ2 u H2 e2 rs2 rv2 q2 =>
    h φ2 S2 H2 d d2 v u _ _ rs2 (rv1.mono e2) rv2 q2 fun r S3 φ3 z H3 e3 rs3 rv3 q3 => by
      cases r <;> first
        | exact False.elim q3
        | skip
      case bl k' =>
        cases rv3
        have e13 := (e1.trans e2).trans e3
        refine ⟨k', rfl, ?_⟩
        cases k' with
        | false => exact iteF ((k.mono e13).same rs3 (d := .bl false) rfl (ofF q3))
        | true => exact iteT ⟨φ3, env, S3, _, X', rs3, re.mono e13, ofT q3, fun d4 S4 φ4 y H4 e4 rs4 rv4 q4 => h' φ4 S4 H4 d2 d4 u y Q Q' rs4 (rv2.mono (e3.trans e4)) rv4 q4 (k.mono (e13.trans e4)), x.mono e13⟩, x.mono e1⟩, x⟩
theorem q_chain {op op' : CmpOp} {r r' : R2} {f g : WO2} (ho : OpR X (compareOp op) r) (h : RO2 X.K r f) (ho' : OpR X (compareOp op') r') (h' : RO2 X.K r' g) (ha : QE X E a wa) (hb : QE X E b wb) (hc : QE X E c wc) (hm : lastMarks [op, op'] [b, c] = false := by with_unfolding_all rfl) :
    QE X E (.Compare a [op, op'] [b, c] pos) (wChain f g wa wb wc) := (pe_chain ho ho' ha hb hc hm).imp (chain_lift h h')
theorem qt_chain {op op' : CmpOp} {r r' : R2} {f g : WO2} (ho : OpR X (compareOp op) r) (h : RO2 X.K r f) (ho' : OpR X (compareOp op') r') (h' : RO2 X.K r' g) (ha : QE X E a wa) (hb : QE X E b wb) (hc : QE X E c wc) (hm : lastMarks [op, op'] [b, c] = false := by with_unfolding_all rfl) :
    QT X E (.Compare a [op, op'] [b, c] pos) (wTest (wChain f g wa wb wc)) := (pt_chain ho ho' ha hb hc hm).imp fun σ H Q q => chain_lift h h' σ H _ (test_lift σ H Q q)
def wRetN : WS := fun G _ S _ => G.rt .non S
theorem q_retN : QS X E (.Return none pos) wRetN := ps_retN.imp fun D σ H ⟨φ, env, S, G, X', rs, re, q, k, _⟩ => k.rt .non S φ .non H rs.ext rs rfl q
def fIp (f : Int → Int → Int) : WO2 := fun x y S Q => match x, y with
  | .int i, .int j => Q (.int (f i j)) S
  | _, _ => False
theorem ro_ip {K : PySem.W.Frag} {f : Int → Int → Int} : RO2 K (ipI f) (fIp f) := by
  intro φ S H x y v u Q Q' r hx hy h k
  cases x <;> cases y <;> first
    | exact False.elim h
    | skip
  case int.int i j =>
    cases hx; cases hy
    exact ⟨i, j, rfl, rfl, k.same r (d := .int (f i j)) rfl h⟩
theorem ro_ipadd {K : PySem.W.Frag} : RO2 K (ipI fun i j => i + j) (fIp fun i j => i + j) := ro_ip
theorem ro_ipsub {K : PySem.W.Frag} : RO2 K (ipI fun i j => i - j) (fIp fun i j => i - j) := ro_ip
end
/-! ### xs == [], xs != [] -/
def rEqN (K : PySem.W.Frag) : R2 := fun x y H Q => ∃ a b xs, x = .ref a ∧ y = .ref b ∧ SqL K H a xs ∧ SqL K H b [] ∧ Q (.bl xs.isEmpty) H
theorem op_eqN {X : Cx} (hu : X.A.units + 64 < cLine) : OpR X (compareOp .Eq) (rEqN X.K) := by
  intro pins s σ H x y v u Q I rx ry h
  obtain ⟨a, b, xs, rfl, rfl, ha, hb, q⟩ := h
  cases xs with
  | nil => exact op_eqD hu pins s σ H _ _ v u Q I rx ry ⟨.list [], .list [], .lst ha .nil, .lst hb .nil, by decide, by decide, by simpa [PyData.eqv, PyData.eqvAll] using q⟩
  | cons z zs =>
    cases rx
    cases ry
    obtain ⟨its, r1, p1, _⟩ := I.list ha
    obtain ⟨its2, r2, p2, _⟩ := I.list hb
    cases r2
    cases r1
    exact SeqAt.eq_list_lengthsAt p1.isList p2.isList (by simp) (by omega) ⟨.bl false, H, I, rfl, q⟩
def fEqN : WO2 := fun x y S Q => match x, y with
  | .loc n, .loc m => ∃ w xs w', S[n]? = some (.lst w xs) ∧ S[m]? = some (.lst w' []) ∧ Q (.bl xs.isEmpty) S
  | _, _ => False
theorem ro_eqN {K : PySem.W.Frag} : RO2 K (rEqN K) fEqN := by
  intro φ S H x y v u Q Q' r hx hy h k
  cases x <;> cases y <;> first
    | exact False.elim h
    | skip
  case loc.loc n m =>
    obtain ⟨w, xs, w', h1, h2, h⟩ := h
    obtain ⟨a, us, rfl, _, g1, g2, _⟩ := r.lst hx h1
    obtain ⟨b, ws, rfl, _, g3, g4, _⟩ := r.lst hy h2
    cases g4
    exact ⟨a, b, us, rfl, rfl, g1, g3, by rw [← g2.nil_iff]; exact k.same r (d := .bl _) rfl h⟩
theorem op_neN {X : Cx} (hu : X.A.units + 64 < cLine) : OpR X (compareOp .NotEq) (rNeD X.K) := op_neD hu
def fNeN : WO2 := fun x y S Q => match x, y with
  | .loc n, .loc m => ∃ w xs w' ps, S[n]? = some (.lst w xs) ∧ S[m]? = some (.lst w' []) ∧ Pys S xs ps ∧ SeqAt.shaped (.list ps) = true ∧ Q (.bl (!xs.isEmpty)) S
  | _, _ => False
theorem Pys.nil_iff {S : Store} {ds : List D} {ps : List PyData} (h : Pys S ds ps) : ds.isEmpty = ps.isEmpty := by cases h <;> rfl
theorem ro_neN {K : PySem.W.Frag} : RO2 K (rNeD K) fNeN := by
  intro φ S H x y v u Q Q' r hx hy h k
  cases x <;> cases y <;> first
    | exact False.elim h
    | skip
  case loc.loc n m =>
    obtain ⟨w, xs, w', ps, h1, h2, h3, h4, h⟩ := h
    refine ⟨.list ps, .list [], (Py.lst h1 h3).dp r hx, (Py.lst h2 .nil).dp r hy, h4, by decide, k.same r (d := .bl _) ?_ h⟩
    rw [h3.nil_iff]
    cases ps <;> simp [PyData.eqv, PyData.eqvAll, RV]
/-! ### in over data -/
def rInA (K : PySem.W.Frag) (neg : Bool) : R2 := fun x y H Q => ∃ d ds, Dp K H x d ∧ (Dp K H y (.list ds) ∨ Dp K H y (.tuple ds)) ∧ SeqAt.shaped d = true ∧ SeqAt.shaped (.list ds) = true ∧ Q (.bl (if neg then !(ds.any fun z => PyData.eqv z d) else ds.any fun z => PyData.eqv z d)) H
theorem op_inA {X : Cx} (hu : X.A.units + 65 < cLine) : OpR X (compareOp .In) (rInA X.K false) := by
  intro pins s σ H x y v u Q I rx ry h
  obtain ⟨d, ds, hd, he | he, sd, se, q⟩ := h
  · exact op_inD hu pins s σ H x y v u Q I rx ry ⟨d, ds, hd, he, sd, se, q⟩
  · obtain ⟨as, r1⟩ := Dp.reads I d x v hd rx
    obtain ⟨bs, r2⟩ := Dp.reads I (.tuple ds) y u he ry
    exact SeqAt.in_tuple_reads r2 r1 (SeqAt.canLay_of_shaped se) (SeqAt.canLay_of_shaped sd) (room_in_shaped sd hu) ⟨.bl _, H, I, rfl, q⟩
theorem op_notInA {X : Cx} (hu : X.A.units + 65 < cLine) : OpR X (compareOp .NotIn) (rInA X.K true) := by
  intro pins s σ H x y v u Q I rx ry h
  obtain ⟨d, ds, hd, he | he, sd, se, q⟩ := h
  · exact op_notInD hu pins s σ H x y v u Q I rx ry ⟨d, ds, hd, he, sd, se, q⟩
  · obtain ⟨as, r1⟩ := Dp.reads I d x v hd rx
    obtain ⟨bs, r2⟩ := Dp.reads I (.tuple ds) y u he ry
    exact SeqAt.notIn_tuple_reads r2 r1 (SeqAt.canLay_of_shaped se) (SeqAt.canLay_of_shaped sd) (room_in_shaped sd hu) ⟨.bl _, H, I, rfl, q⟩
def fInA (neg : Bool) : WO2 := fun x y S Q => ∃ d ds, Py S x d ∧ (Py S y (.list ds) ∨ Py S y (.tuple ds)) ∧ SeqAt.shaped d = true ∧ SeqAt.shaped (.list ds) = true ∧ Q (.bl (if neg then !(ds.any fun z => PyData.eqv z d) else ds.any fun z => PyData.eqv z d)) S
theorem ro_inAn {K : PySem.W.Frag} {neg : Bool} : RO2 K (rInA K neg) (fInA neg) := by
  intro φ S H x y v u Q Q' r hx hy ⟨d, ds, h1, h2, h3, h4, h⟩ k
  exact ⟨d, ds, h1.dp r hx, h2.imp (fun z => z.dp r hy) fun z => z.dp r hy, h3, h4, k.same r (d := .bl _) rfl h⟩
theorem ro_inA {K : PySem.W.Frag} : RO2 K (rInA K false) (fInA false) := ro_inAn
theorem ro_notInA {K : PySem.W.Frag} : RO2 K (rInA K true) (fInA true) := ro_inAn
/-! ### max(xs, default=d) -/
def maxDf (ns : List Int) (d : Int) : Int := match ns with
  | [] => d
  | y :: ys => ys.foldl (fun a y => if a < y then y else a) y
def rMaxD (K : PySem.W.Frag) : List V → List V → Hp → VK → Prop := fun vs zs H Q => ∃ (a : Addr) (ns : List Int) (d : Int), vs = [.ref a] ∧ zs = [.int d] ∧ SqL K H a (ns.map V.int) ∧ Q (.int (maxDf ns d)) H
theorem cr_maxD {X : Cx} (hc : X.calm = true) (hu : X.A.units + 65 < cLine) : CallRK X (.builtin "max") [Str.ofString "default"] (rMaxD X.K) := by
  intro pins s σ H vs zs us ws Q I r rz h
  obtain ⟨a, ns, d, rfl, rfl, hs, q⟩ := h
  obtain rfl := Vals.ref1 r
  obtain ⟨w1, rfl, e1⟩ := vals1 rz
  obtain ⟨its, rv, p, _⟩ := I.list hs
  refine PySem.W.max_list_datum_default (α := Int) (I.ok.hd hc) p.isList (xs := ns) (.of_ints (intsAre_of rv)) ?_ (fun e h' tk hk => ?_) (fun y ys i v h' tk e hv hh hk => ?_)
  · have : PySem.W.Datum.depth Int = 0 := rfl
    rw [this]; omega
  · subst e
    exact ⟨.int d, H, I.kept (t' := tk) hk, e1, q⟩
  · subst e
    obtain ⟨as, rr⟩ := hh
    have : ∃ t, v = Value.int (maxDf (y :: ys) d) t := by
      have e : PySem.W.Datum.toD (PySem.W.maxOf y ys) = PyData.int (maxDf (y :: ys) d) := by
        show PyData.int (PySem.W.maxOf y ys) = _
        congr 1
        unfold PySem.W.maxOf maxDf
        congr 1
        funext a y
        show (if decide (a < y) = true then y else a) = _
        simp
      rw [e] at rr
      cases rr
      exact ⟨_, rfl⟩
    exact ⟨.int _, H, I.kept (t' := tk) hk, this, q⟩
def wMaxD (a b : WE) : WE := fun env S Q X => a env S (fun x S1 => b env S1 (fun y S2 => match x, y with | .loc n, .int d => ∃ w ns, S2[n]? = some (.lst w (ns.map D.int)) ∧ Q (.int (maxDf ns d)) S2 | _, _ => False) X) X
section
variable {X : Cx} {E : XK} {a b : Expr} {wa wb : WE} {pos p kpos : Pos}
theorem q_maxD (hc : X.calm = true) (hu : X.A.units + 65 < cLine) (hg : Gl X "max") (hm : X.mg "max" = none) (ha : QE X E a wa) (hb : QE X E b wb)
    (hs : starEach (a :: []) X.env = (false, eval a X.env) :: starEach [] X.env := by rfl) (he : backTo pos (starEach (a :: []) X.env) = (false, eval a X.env) :: backTo pos (starEach [] X.env) := by rfl) (hpl : (backTo pos (starEach (a :: []) X.env)).any (·.1) = false := by rfl)
    (hall : (backToKw pos (keywordEach [⟨some "default", b, kpos⟩] X.env)).all (·.1.isSome) = true := by rfl) (hnone : (backToKw pos (keywordEach [⟨some "default", b, kpos⟩] X.env)).any (·.1.isNone) = false := by rfl) (hks : (backToKw pos (keywordEach [⟨some "default", b, kpos⟩] X.env)).filterMap (·.1) = [Str.ofString "default"] := by rfl) :
    QE X E (.Call (.Name "max" p) [a] [⟨some "default", b, kpos⟩] pos) (wMaxD wa wb) :=
  (pe_callBK (cr_maxD hc hu) hg hm (by decide +kernel) (pa_cons ha pa_nil hs) (pk_cons hb pk_nil) (by decide) (by decide) he hpl hall hnone hks).imp fun σ H Q ⟨φ, env, S, Q', X', rs, re, q, k, x⟩ =>
    ⟨φ, env, S, _, X', rs, re, q, fun d S1 φ1 v H1 e1 rs1 rv1 q1 => ⟨φ1, env, S1, _, X', rs1, re.mono e1, q1, fun y S2 φ2 u H2 e2 rs2 rv2 q2 => by
      cases d <;> cases y <;> first
        | exact False.elim q2
        | skip
      case loc.int n d =>
        obtain ⟨w, ns, h1, q2⟩ := q2
        obtain ⟨a', us, rfl, _, g1, g2, _⟩ := rs2.lst (rv1.mono e2) h1
        cases rv2
        rw [g2.toInts] at g1
        exact ⟨a', ns, d, rfl, rfl, g1, (k.mono (e1.trans e2)).same rs2 (d := .int _) rfl q2⟩, x.mono e1⟩, x⟩
end
/-! ### for c in text -/
def iSt (a : WE) : WI := fun env S R X => a env S (fun d S1 => match d with
  | .str z => R (z.cps.toList.map fun c => .str ⟨#[c]⟩) (fun _ => True) S1
  | _ => False) X
theorem qi_str {X : Cx} {E : XK} {tg e : Expr} {wa : WE} (h : QE X E e wa) : QI X E tg e (iSt wa) := (pi_str h).imp fun σ H R ⟨φ, env, S, R', X', rs, re, q, k, x⟩ =>
  ⟨φ, env, S, _, X', rs, re, q, fun d S1 φ1 v H1 e1 rs1 rv1 q1 => by
    cases d <;> first
      | exact False.elim q1
      | skip
    case str z =>
      cases rv1
      refine ⟨z, rfl, k _ _ S1 φ1 H1 _ e1 rs1 (fun φ2 S2 H2 i e3 rs2 st => ⟨fun hl => ?_, fun d hd => ?_⟩) q1⟩
      · show z.cps.size ≤ i
        simpa using hl
      · rw [List.getElem?_map] at hd
        cases hr : z.cps.toList[i]? with
        | none => rw [hr] at hd; cases hd
        | some c =>
          rw [hr] at hd
          cases hd
          have hc : z.cps[i]? = some c := by simpa using hr
          refine ⟨(Array.getElem?_eq_some_iff.mp hc).1, fun x H' ⟨e4, c', e5, e6⟩ => ?_⟩
          subst e4 e6
          rw [hc] at e5
          cases e5
          exact ⟨rs2.ext, rs2, rfl⟩, x⟩
end Qd
set_option Elab.async false
set_option linter.all false
set_option maxRecDepth 100000
/-! Layer Q: what types are of one another; plain facts for the readings. -/
namespace Qd
open PySem PySem.Spec PyProof.Rows L2
theorem kitB_tab : (["NoneType", "bool", "int", "str", "tuple", "list", "dict"].all fun a => ["int", "bool", "str", "tuple", "list", "dict"].all fun b => kitB a b == some (a == b || (a == "bool" && b == "int"))) = true := by decide +kernel
theorem kitB_of {a b : String} (ha : a ∈ ["NoneType", "bool", "int", "str", "tuple", "list", "dict"]) (hb : b ∈ ["int", "bool", "str", "tuple", "list", "dict"]) : kitB a b = some (a == b || (a == "bool" && b == "int")) := by
  have h := List.all_eq_true.mp (List.all_eq_true.mp kitB_tab a ha) b hb
  exact eq_of_beq h
theorem tyD_mem {S : Store} {d : D} {t : String} (h : tyD S d = some t) : t ∈ ["NoneType", "bool", "int", "str", "tuple", "list", "dict"] := by
  cases d <;> simp only [tyD] at h <;> first
    | (cases h <;> done)
    | (cases h; decide)
    | (split at h <;> first | (cases h; decide) | cases h)
theorem isTy_of {S : Store} {d : D} {t T : String} (h : tyD S d = some t) (hb : T ∈ ["int", "bool", "str", "tuple", "list", "dict"]) : isTy S T d = some (t == T || (t == "bool" && T == "int")) := by
  unfold isTy
  rw [h]
  exact kitB_of (tyD_mem h) hb
/-- a value whose type is known -/
def Ty (S : Store) (d : D) : Prop := (tyD S d).isSome = true
theorem Ty.get {S : Store} {d : D} (h : Ty S d) : ∃ t, tyD S d = some t := Option.isSome_iff_exists.mp h
def isI : D → Bool | .int _ => true | _ => false
def isB : D → Bool | .bl _ => true | _ => false
def isS : D → Bool | .str _ => true | _ => false
def isT : D → Bool | .tup _ => true | _ => false
def isLc : Option Cell → Bool | some (.lst _ _) => true | _ => false
def isL (S : Store) : D → Bool | .loc n => isLc S[n]? | _ => false
section
variable {S : Store} {d : D} {Q : D → Store → Prop}
theorem isi_int (h : Ty S d) (q : Q (.bl (isI d || isB d)) S) : fIsi "int" d S Q := by
  obtain ⟨t, ht⟩ := h.get
  refine ⟨_, isTy_of ht (by decide), ?_⟩
  cases d <;> simp only [tyD] at ht <;> first
    | (cases ht <;> done)
    | (cases ht; exact q)
    | (split at ht <;> first | (cases ht; exact q) | cases ht)
theorem isi_bool (h : Ty S d) (q : Q (.bl (isB d)) S) : fIsi "bool" d S Q := by
  obtain ⟨t, ht⟩ := h.get
  refine ⟨_, isTy_of ht (by decide), ?_⟩
  cases d <;> simp only [tyD] at ht <;> first
    | (cases ht <;> done)
    | (cases ht; exact q)
    | (split at ht <;> first | (cases ht; exact q) | cases ht)
theorem isi_str (h : Ty S d) (q : Q (.bl (isS d)) S) : fIsi "str" d S Q := by
  obtain ⟨t, ht⟩ := h.get
  refine ⟨_, isTy_of ht (by decide), ?_⟩
  cases d <;> simp only [tyD] at ht <;> first
    | (cases ht <;> done)
    | (cases ht; exact q)
    | (split at ht <;> first | (cases ht; exact q) | cases ht)
theorem isi_tup (h : Ty S d) (q : Q (.bl (isT d)) S) : fIsi "tuple" d S Q := by
  obtain ⟨t, ht⟩ := h.get
  refine ⟨_, isTy_of ht (by decide), ?_⟩
  cases d <;> simp only [tyD] at ht <;> first
    | (cases ht <;> done)
    | (cases ht; exact q)
    | (split at ht <;> first | (cases ht; exact q) | cases ht)
theorem isi_lst (h : Ty S d) (q : Q (.bl (isL S d)) S) : fIsi "list" d S Q := by
  obtain ⟨t, ht⟩ := h.get
  refine ⟨_, isTy_of ht (by decide), ?_⟩
  cases d <;> simp only [tyD] at ht <;> first
    | (cases ht <;> done)
    | (cases ht; exact q)
    | (split at ht <;> first | (cases ht; rename_i e; simp only [isL, e, isLc] at q; exact q) | cases ht)
end
end Qd
set_option Elab.async false
set_option linter.all false
set_option maxRecDepth 100000
/-! Layer Q: repr of a list. -/
namespace Qd
open PySem PySem.Spec PyProof.Rows L2
mutual
/-- the datum as the library's data, for repr -/
inductive Sh (S : Store) : D → PyData → Prop
  | non : Sh S .non .none
  | bl (b : Bool) : Sh S (.bl b) (.bool b)
  | int (i : Int) : Sh S (.int i) (.int i)
  | str (x : Str) : Sh S (.str x) (.str x)
  | tup {ds : List D} {ps : List PyData} : Shs S ds ps → Sh S (.tup ds) (.tuple ps)
  | lst {n : Nat} {ds : List D} {ps : List PyData} : S[n]? = some (.lst true ds) → Shs S ds ps → Sh S (.loc n) (.list ps)
  | dict {n : Nat} : S[n]? = some (.dK true []) → Sh S (.loc n) (.dict [])
inductive Shs (S : Store) : List D → List PyData → Prop
  | nil : Shs S [] []
  | cons {d : D} {p : PyData} {ds : List D} {ps : List PyData} : Sh S d p → Shs S ds ps → Shs S (d :: ds) (p :: ps)
end
section
variable {P : Program} {w : World} {K : PySem.W.Frag} {φ : List Addr} {S : Store} {H : Hp} {h : Heap}
mutual
theorem Sh.reads (ok : HOk P w H h) (r : RS K φ S H) : ∀ {d : D} {p : PyData} {v : V} {u : Value}, Sh S d p → RV K φ H d v → RelV v u → ∃ as, Reads h u p as ∧ (p = .dict [] → sysModules ∉ as)
  | _, _, _, _, .non, hv, rv => by cases hv; cases rv; exact ⟨_, .none, fun z => by cases z⟩
  | _, _, _, _, .bl b, hv, rv => by cases hv; cases rv; exact ⟨_, .bool b, fun z => by cases z⟩
  | _, _, _, _, .int b, hv, rv => by cases hv; obtain ⟨t, rfl⟩ := rv; exact ⟨_, .int b t, fun z => by cases z⟩
  | _, _, _, _, .str b, hv, rv => by cases hv; obtain ⟨t, rfl⟩ := rv; exact ⟨_, .str b t, fun z => by cases z⟩
  | _, _, _, _, .tup ss, hv, rv => by
    obtain ⟨a, xs, rfl, ha, hx⟩ := hv
    cases rv
    obtain ⟨_, its, r2, o, ho, hc, n, hd⟩ := ok a _ ha
    obtain ⟨as, ra⟩ := Shs.reads ok r ss hx r2
    exact ⟨as, .tuple ho hc hd (by rw [List.toList_toArray]; exact ra), fun z => by cases z⟩
  | _, _, _, _, .lst e ss, hv, rv => by
    obtain ⟨a, xs, rfl, _, _, hx, h2⟩ := r.lst hv e
    cases rv
    obtain ⟨_, its, n, r2, ho⟩ := ok a _ (h2 rfl)
    obtain ⟨as, ra⟩ := Shs.reads ok r ss hx r2
    exact ⟨a :: as, .list ho rfl rfl (by rw [List.toList_toArray]; exact ra), fun z => by cases z⟩
  | _, _, _, _, .dict e, hv, rv => by
    obtain ⟨a, ys, rfl, _, h1, hk, h2⟩ := r.dK hv e
    cases rv
    have hy : ys = [] := hk
    subst hy
    obtain ⟨_, hs, vs, kv, o, es, ep, ho, hx, hd, _, hp, _⟩ := ok a _ (h2 rfl)
    cases kv
    have he : es.toList = [] := by cases hp' : es.toList with
      | nil => rfl
      | cons _ _ => rw [hp'] at hp; cases hp
    refine ⟨_, Reads.dict (kvs := []) (as := []) (bs := []) ho hx.1 hd (by rw [he]; exact .nil) (by rw [he]; exact .nil), fun _ hm => ?_⟩
    have : sysModules = a := by simpa using hm
    rw [← this] at hs
    cases hs
theorem Shs.reads (ok : HOk P w H h) (r : RS K φ S H) : ∀ {ds : List D} {ps : List PyData} {vs : List V} {us : List Value}, Shs S ds ps → RVs K φ H ds vs → Vals vs us → ∃ as, ReadsAll h us ps as
  | _, _, _, _, .nil, hv, rv => by cases hv; cases rv; exact ⟨_, .nil⟩
  | _, _, _, _, .cons s ss, hv, rv => by
    obtain ⟨x, q, rfl, h1, h2⟩ := hv
    cases rv with
    | cons a b =>
      obtain ⟨as, ra, _⟩ := Sh.reads ok r s h1 a
      obtain ⟨bs, rb⟩ := Shs.reads ok r ss h2 b
      exact ⟨_, .cons ra rb⟩
end
end
theorem shown_le_of_mem {p : PyData} {ps : List PyData} (h : p ∈ ps) : p.shown ∈ PyData.shownAll ps := by
  induction ps with
  | nil => cases h
  | cons q qs ih =>
    rw [PyData.shownAll]
    rcases List.mem_cons.mp h with e | e
    · subst e; exact List.mem_cons_self
    · exact List.mem_cons_of_mem _ (ih e)
/-- the items of a list, one after the other -/
theorem repr_items {P : Program} {w : World} {K : PySem.W.Frag} {φ : List Addr} {S : Store} {H : Hp} {h : Heap} (ok : HOk P w H h) (r : RS K φ S H) : ∀ {ds : List D} {ps : List PyData} {vs : List V} {us : List Value}, Shs S ds ps → RVs K φ H ds vs → Vals vs us →
    PyData.showableAll ps = true → (∀ p ∈ ps, p.hasDict = true → p = .dict []) → (∀ t ∈ PyData.shownAll ps, t.length ≤ sizeLine) → ∃ bs, ReadAtMost h (PyData.depthAll ps) bs ∧ ReprAllK P w bs h (PyData.depthAll ps) us (PyData.shownAll ps)
  | _, _, _, _, .nil, hv, rv, _, _, _ => by
    cases hv; cases rv
    exact ⟨[], fun b hb => absurd hb (by simp), .nil⟩
  | _, _, _, _, .cons (p := p) (ps := ps) s ss, hv, rv, hs, hd, hz => by
    obtain ⟨x, q, rfl, h1, h2⟩ := hv
    cases rv with
    | cons a b =>
      obtain ⟨as, ra, sm⟩ := Sh.reads ok r s h1 a
      have hs2 : p.showable = true ∧ PyData.showableAll ps = true := by simpa [PyData.showableAll] using hs
      obtain ⟨b2, hb2, k2⟩ := repr_items ok r ss h2 b hs2.2 (fun p hp => hd p (List.mem_cons_of_mem _ hp)) (fun t ht => hz t (by rw [PyData.shownAll]; exact List.mem_cons_of_mem _ ht))
      obtain ⟨b1, hb1, k1⟩ := ReprK.of_reads (prog := P) (w := w) ra hs2.1 (fun z => sm (hd _ List.mem_cons_self z)) (hz _ (by rw [PyData.shownAll]; exact List.mem_cons_self))
      have d1 : p.depth ≤ PyData.depthAll (p :: ps) := by rw [PyData.depthAll]; omega
      have d2 : PyData.depthAll ps ≤ PyData.depthAll (p :: ps) := by rw [PyData.depthAll]; omega
      refine ⟨b1 ++ b2, (hb1.mono d1).append (hb2.mono d2), ?_⟩
      rw [PyData.shownAll]
      exact (ReprAllK.cons k1 .nil : ReprAllK P w b1 h p.depth [_] [_]).more_le (fun b hb => List.mem_append_left _ hb) d1 |> fun q => by
        cases q with
        | cons q1 _ => exact .cons q1 (k2.more_le (fun b hb => List.mem_append_right _ hb) d2)
/-- repr of a list of the store -/
def fRepr : WOn := fun ds S Q => match ds with
  | [.loc n] => ∃ xs ps, S[n]? = some (.lst true xs) ∧ Shs S xs ps ∧ PyData.showableAll ps = true ∧ (∀ p ∈ ps, p.hasDict = true → p = .dict []) ∧ PyData.depthAll ps ≤ 150 ∧ (listText (PyData.shownAll ps)).length ≤ lineD ∧ Q (.str (listText (PyData.shownAll ps))) S
  | _ => False
section
variable {X : Cx} {E : XK} {es : List Expr} {e : Expr} {wr : WA} {pos p : Pos}
theorem q_repr (hgd : X.A.guards = some []) (hu : X.A.units + 200 < cLine) (hg : Gl X "repr") (hm : X.mg "repr" = none) (ha : QA X E [e] wr)
    (he : starEach [e] X.env = (false, eval e X.env) :: starEach [] X.env := by rfl) (hpl : (backTo pos (starEach [] X.env)).any (·.1) = false := by rfl) : QE X E (.Call (.Name "repr" p) [e] [] pos) (wCB fRepr wr) := by
  refine ⟨fun pins s σ H Q I ⟨φ, env, S, Q', X', rs, re, q, k, _⟩ => ?_⟩
  refine wpAny_Call_Name_kw (ld_blt I hg hm (u := .builtin "repr") (by decide +kernel) ?_ (by decide) (by decide))
  refine PyProof.Rows.callWith_builtin1 (thn (ha.run pos pins s σ H (fun vs H1 => ∃ φ1 S1 ds, Ext φ H φ1 H1 ∧ RS X.K φ1 S1 H1 ∧ RVs X.K φ1 H1 ds vs ∧ fRepr ds S1 Q') I ⟨φ, env, S, _, X', rs, re, q, fun ds S1 φ1 vs H1 e1 rs1 rv1 q1 => ⟨φ1, S1, ds, e1, rs1, rv1, q1⟩, by assumption⟩) fun us s1 ⟨vs, H1, I1, r1, φ1, S1, ds, e1, rs1, rv1, q1⟩ => ?_) he hpl
  unfold fRepr at q1
  split at q1
  · rename_i n
    obtain ⟨xs, ps, hc, ss, hs, hd, hdp, hz, q1⟩ := q1
    obtain ⟨v, rfl, hv⟩ := rv1.one
    obtain ⟨a, ys, rfl, _, _, hx, h2⟩ := rs1.lst hv hc
    cases r1 with
    | cons ra rn =>
      cases rn
      cases ra
      obtain ⟨_, its, m, r2, ho⟩ := I1.hok a _ (h2 rfl)
      have hz' : (listText (PyData.shownAll ps)).length ≤ sizeLine := hz
      obtain ⟨bs, hb, hk⟩ := repr_items I1.hok rs1 ss hx r2 hs hd fun t ht => Nat.le_trans (listText_mem_le ht) hz'
      obtain ⟨as, ra⟩ := Shs.reads I1.hok rs1 ss hx r2
      have R : Reads s1.heap (.ref a) (.list ps) (a :: as) := .list ho rfl rfl (by rw [List.toList_toArray]; exact ra)
      have hna : a ∉ bs := not_mem_of_deeper R (by simp only [PyData.depth]; omega) hb
      have fin : ∀ h' u tk, (∀ b o, s1.heap.get? b = some o → h'.get? b = some o) → ∃ x t, Value.str (listText (PyData.shownAll ps)) u = .str x t ∧ EP X pins σ Q (Value.str (listText (PyData.shownAll ps)) u) { s1 with heap := h', toks := tk } := fun h' u tk hk' =>
        ⟨_, _, rfl, .str (listText (PyData.shownAll ps)), H1, I1.kept (t' := tk) hk', ⟨u, rfl⟩, k (.str _) S1 φ1 _ H1 e1 rs1 rfl q1⟩
      refine call_repr_slot (by omega) ⟨_, ho, rfl⟩ F.slot_list_repr.toG ?_
      cases its with
      | nil =>
        cases r2
        have : xs = [] := List.length_eq_zero_iff.mp hx.len
        subst this
        cases ss
        exact call_list_repr_empty ⟨_, ho, rfl⟩ ho rfl (fin s1.heap _ _ fun _ _ z => z)
      | cons y l =>
        exact call_list_reprK ho rfl rfl hna (by simpa using hk.length_eq) (fun i y e => hk.item i y (by simpa using e)) (g := []) hgd (fun b _ => Clear.nil b) (by show X.A.units + 1 + (PyData.depthAll ps + 1) < cLine; omega) (fun _ _ z => z) fin hz'
  · exact q1.elim
end
end Qd
set_option Elab.async false
set_option linter.all false
set_option maxRecDepth 100000
/-! Layer Q: errors of own classes: raise, a try whose caught error is kept, defs that may raise. -/
namespace Qd
open PySem PySem.Spec PyProof.Rows L2
/-- what a clause that keeps its error asks: the suite, then the rest with the error known -/
def wKept (K : PySem.W.Frag) (c : Value) (i : Nat) (ts rest : Addr → Value → Option Addr → TS) (Wo : WX) (D : Ends) : WX := fun cls d σ H =>
  ∃ b, PySem.W.exmOne K cls c = some b ∧ (b = true → ∀ a, H a = none → ts a cls d { nx := fun σ' H' => rest a cls d D (σ'.set i none) H', rt := D.rt, bk := fun _ _ => False, ct := fun _ _ => False } (σ.set i (some (.ref a))) H) ∧ (b = false → Wo cls d σ H)
theorem outOfTry {X : Cx} {pn : List (Addr × Obj)} {xe : Value → Shared → Prop} {pins : List (Addr × Obj)} {D : Ends} {f : Flow} {s : Shared} (ok : X.Ok) (h : SP (X.tr pn xe) [] D f s) (sub : ∀ p ∈ X.pn ++ pins, p ∈ pn) : SP X pins D f s := by
  have go : ∀ {σ : L2.St} {H : Hp}, Inv (X.tr pn xe) [] σ H s → Inv X pins σ H s := fun J => ⟨ok, J.os, J.bare, J.base, J.loc, J.cell, J.free, J.freeC, fun p hp => J.pin p (List.mem_append_left _ (sub p hp)), J.hok, J.len⟩
  cases f with
  | next => exact let ⟨σ, H, J, q⟩ := h; ⟨σ, H, go J, q⟩
  | brk => exact let ⟨σ, H, J, q⟩ := h; ⟨σ, H, go J, q⟩
  | cont => exact let ⟨σ, H, J, q⟩ := h; ⟨σ, H, go J, q⟩
  | ret u => exact let ⟨v, σ, H, J, r, q⟩ := h; ⟨v, σ, H, go J, r, q⟩
section
variable {X : Cx} {x n : Str} {c : Value} {i : Nat} {body suite rest : List Stmt} {b0 : Stmt} {np p1 p2 : Pos} {tb : WX → TS} {ts t1 : Addr → Value → Option Addr → TS} {t0 : TS} {Wo : WX}
/-- try: body / except x as n: suite; then the rest, which is judged twice: behind the body, and with the caught error known -/
theorem pss_kept (stk : X.stack = X.env :: X.outer) (frm : X.env.frame = some X.env.locals) (nd : X.N.Nodup) (hi : X.N[i]? = some n) (loc : X.env.kindOf n = some .local) (nm : Names X x c) (tk : Takes X Wo)
    (hb : ∀ (W : WX) (pn : List (Addr × Obj)) (xe : Value → Shared → Prop), Takes (X.tr pn xe) W → PassesOwn (model X.prog X.w) X.A X.env xe → PSs (X.tr pn xe) body (tb W))
    (hs : ∀ (a : Addr) (oe : Obj) (cls : Value) (d : Option Addr) (pn : List (Addr × Obj)), Zc cls d oe → (∃ vs, oe.data = .fields vs) → PSs (X.suite a ((a, oe) :: pn)) (b0 :: suite) (ts a cls d))
    (h0 : PSs X rest t0) (h1 : ∀ (a : Addr) (oe : Obj) (cls : Value) (d : Option Addr) (pn : List (Addr × Obj)), Zc cls d oe → (∃ vs, oe.data = .fields vs) → PSs (X.tr ((a, oe) :: pn) X.xe) rest (t1 a cls d)) :
    PSs X (.Try body [.ExceptHandler (some (.Name x np)) (some n) (b0 :: suite) p1] [] [] p2 :: rest) (fun D σ H => tb (wKept X.K c i ts t1 Wo D) { D with nx := t0 D } σ H) := by
  refine ⟨fun pins s σ H D I want => wpAny_execs_cons (wpAny_Try_except ?_)⟩
  have ok := I.ok
  have afr : X.A.frames = some (X.env :: X.outer) := ok.frames.trans (congrArg some stk)
  refine wpAny_mono ((hb (wKept X.K c i ts t1 Wo D) (X.pn ++ pins) _ (fun u t' xx => ?_) PassesOwn.looking).run [] s σ H { D with nx := t0 D } (I.toTry _) want) (fun f s1 done => ?_) (fun _ _ z => z)
  · obtain ⟨a, B, sI, qs, τ, G, cls, d, rfl, Jt, hnb, hup, hsky, hna, hos, hag, b, heq, yes, no⟩ := xx
    have J : Inv X pins τ G sI := Jt.ofTry ok
    rw [show (X.tr (X.pn ++ pins) _).stack = X.env :: X.outer from stk] at hsky
    show wpAny (model X.prog X.w) X.A (noteFrame (.ref a) X.env) _ _ _
    refine Sky.land Zc.steady afr frm hsky fun k3 fly hup3 => ?_
    have J3 : Inv X pins τ G { t' with heap := k3 } := J.landed hnb fly.1 (hup.trans hup3) hos hag
    obtain ⟨o3, w3, g3, z3, f3⟩ := fly.there
    have away : a ∉ frs (X.env :: X.outer) := fun hm => let ⟨_, _, e', no'⟩ := fly.2.2.1.mem hm; no' _ (by rw [g3] at e'; cases e'; exact f3)
    have neL : a ≠ X.env.locals := fun z => away (List.mem_filterMap.mpr ⟨_, List.mem_cons_self, frm.trans (congrArg some z.symm)⟩)
    have neF : a ∉ X.fs := fun hm => let ⟨e, h1, h2⟩ := List.mem_filterMap.mp hm; away (List.mem_filterMap.mpr ⟨e, List.mem_cons_of_mem _ h1, h2⟩)
    have S3 := J3.suite g3 f3 hna neL neF
    refine wpAny_handleBy_cons (codeAny_handlers_test ?_) (fun z => by cases z)
    have ty3 : PySem.W.Looks (model X.prog X.w) k3 (typeOf (.ref a)) cls := fun _ _ _ _ keep q => wpAny_typeOf_ref (keep _ _ g3) (by rw [z3.1]; exact q)
    have asks := PySem.W.exm_one (M := model X.prog X.w) J3.kIn ty3 heq
    have named : ∀ {Q E : Value → Shared → Prop}, Q c { t' with heap := k3 } → wpAny (model X.prog X.w) (X.A.mark (some (.ref a))) (eval (.Name x np) X.env) Q E { t' with heap := k3 } := fun q => by
      obtain ⟨gl, dbg, m | ⟨m, v, nn⟩⟩ := nm
      · exact ld_glob (X := X.suite a ((a, o3) :: (X.pn ++ pins))) S3 gl m q dbg
      · exact ld_blt (X := X.suite a ((a, o3) :: (X.pn ++ pins))) S3 gl m v q nn dbg
    refine named (asks.here ?_)
    cases b with
    | false =>
      show wpAny _ X.A (handleBy (.ref a) X.env []) _ _ _
      refine wpAny_handleBy_nil ?_
      obtain ⟨_, _, _, oe, vs, T, oT, ts', he, hz, hd, hv1, _⟩ := id fly
      unfold PySem.passOn
      refine wpAny_bind (wpAny_field he hd hv1 ?_)
      rw [if_neg (show ¬ ((Value.ref T == Value.none) = true) from by simp)]
      have out : wpAny (model X.prog X.w) X.A (setFlight (.ref a) X.env.frame) (fun _ s4 => wpAny (model X.prog X.w) X.A (throw (.ref a) : Sem Flow) (fun f s' => match f with | .next => wpAny (model X.prog X.w) X.A (execs rest X.env) (SP X pins D) X.xe s' | f => SP X pins D f s') X.xe s4) X.xe { t' with heap := k3 } := by
        rw [frm]
        exact HandSPX.setFlight_upZ fly fun k4 held up4 => wpAny_throw (tk _ _ ⟨a, B, sI, pins, τ, G, cls, d, rfl, J, hnb, (hup.trans hup3).trans up4, .inr (.inr (by rw [stk]; exact held)), hna, hos, hag, no rfl⟩)
      first
        | exact wpAny_bind (wpAny_pure (wpAny_bind out))
        | exact wpAny_bind out
    | true =>
      refine codeAny_handlers_suite_as (HandSPX.lands_againZ fly fun k4 fly4 hup4 => ?_)
      have J4 : Inv X pins τ G { t' with heap := k4 } := J.landed hnb fly4.1 ((hup.trans hup3).trans hup4) hos hag
      obtain ⟨o4, w4, g4, z4, f4⟩ := fly4.there
      refine store_ok (X := X.suite a ((a, o4) :: (X.pn ++ pins))) (v := .ref a) (J4.suite g4 f4 hna neL neF) nd hi (.inl loc) rfl (fun s5 S5 => ?_) (.inr loc)
      refine wpAny_mono ((hs a o4 cls d (X.pn ++ pins) z4 ⟨_, f4⟩).run [] s5 _ G _ S5 (yes rfl a hna)) (fun f s6 hsp => ?_) (fun _ _ z => False.elim z)
      -- the context behind the suite: as before, the error still known
      have ok' : (X.tr ((a, o4) :: (X.pn ++ pins)) X.xe).Ok := ok.toTry _ _
      have goes : ∀ {τ6 : L2.St} {G6 : Hp} {R : Shared → Prop}, Inv (X.suite a ((a, o4) :: (X.pn ++ pins))) [] τ6 G6 s6 → (∀ s7, Inv (X.tr ((a, o4) :: (X.pn ++ pins)) X.xe) [] (τ6.set i none) G6 s7 → R s7) →
          wpAny (model X.prog X.w) X.A (do bindName X.env n .none; unbindBehindTheSuite X.env n p1) (fun _ s7 => R s7) X.xe s6 := fun S6 hR =>
        gone_ok (X := X.tr ((a, o4) :: (X.pn ++ pins)) X.xe) ⟨ok', S6.os, S6.bare, S6.base, S6.loc, S6.cell, S6.free, S6.freeC, S6.pin, S6.hok, S6.len⟩ nd hi loc hR
      cases f with
      | next =>
        obtain ⟨τ6, G6, S6, q6⟩ := hsp
        exact goes S6 fun s7 J7 => wpAny_mono ((h1 a o4 cls d (X.pn ++ pins) z4 ⟨_, f4⟩).run [] s7 _ G6 D J7 q6) (fun f s8 h8 => outOfTry ok h8 fun p hp => List.mem_cons_of_mem _ hp) fun _ _ z => z
      | brk => exact let ⟨_, _, _, q6⟩ := hsp; False.elim q6
      | cont => exact let ⟨_, _, _, q6⟩ := hsp; False.elim q6
      | ret u =>
        obtain ⟨v6, τ6, G6, S6, r6, q6⟩ := hsp
        exact goes S6 fun s7 J7 => outOfTry (pn := (a, o4) :: (X.pn ++ pins)) (xe := X.xe) (f := .ret u) ok ⟨v6, _, G6, J7, r6, q6⟩ fun p hp => List.mem_cons_of_mem _ hp
  · have q := outOfTry ok done fun p hp => hp
    cases f with
    | next => exact let ⟨τ, G, J, q2⟩ := q; wpAny_execs_nil (h0.run pins s1 τ G D J q2)
    | brk => exact q
    | cont => exact q
    | ret u => exact q
end
end Qd
set_option Elab.async false
set_option linter.all false
set_option maxRecDepth 100000
/-! Layer Q: defs that may raise, defs that need to know the guards, the law's end. -/
namespace Qd
open PySem PySem.Spec PyProof.Rows L2
theorem q_no {X : Cx} {E : XK} {e : Expr} : QE X E e (fun _ _ _ _ => False) := ⟨fun _ _ _ _ _ _ ⟨_, _, _, _, _, _, _, z, _⟩ => z.elim⟩
/-! ### raise -/
def wRaise (C : Addr) : WS := fun _ _ S X => X C S
theorem q_raise {X : Cx} {E : XK} {e : Expr} {C : Addr} {pos : Pos} (hc : X.calm = true) (tk : Takes X (fun cls d _ H => E cls d H)) (mk : PMk X e (fun _ H Q => Q (.ref C) none H)) : QS X E (.Raise (some e) none pos) (wRaise C) :=
  (ps_raise hc tk mk).imp fun D σ H ⟨φ, env, S, G, X', rs, re, q, k, x⟩ => x C S φ H rs.ext rs q
/-- a def of the module that may raise, by its contract -/
structure FnX (P : Program) (w : World) (K : PySem.W.Frag) (mg : Str → Option Value) (base : Heap) (k : Nat) (x : Str) (c : Con) : Prop where
  ex : ∃ (f : Addr) (fd : FuncData) (ps : List Str), FnOk P w K mg base (L2.CX P w) k f fd ps (spQ K c) ∧ mg x = some (.ref f) ∧ PySem.W.keepIn K (.ref f) = true ∧ Binds K fd ps []
section
variable {P : Program} {w : World} {K : PySem.W.Frag} {mg : Str → Option Value} {base : Heap}
theorem defX {x : Str} {st : Stmt} {f : Addr} {fd : FuncData} {N ps : List Str} {k : Nat} {c : Con} (F : Fun K x x st f fd) (hm : mg x = some (.ref f)) (hb : Binds K fd ps []) (S : FnScope N ps (defScope st)) (len : ∀ ds S Q X, c ds S Q X → ds.length = ps.length)
    (body : ∀ (cdv : Value) (A : Around) (outer : List Env) (s : Shared) (H : Hp) (E : XK), Room k (A.deeper (envOfC x (defScope st) s.heap.objs.size f cdv)) →
      ∃ u, QSs (cxOf (L2.CX P w) P w K mg base N x (defScope st) f cdv A outer s H E) E (defBody st) u ∧ ∀ ds S Q X', c ds S Q X' → u ⟨fun _ S => Q .non S, Q, fun _ _ => False, fun _ _ => False⟩ (startD N.length ds) S X') :
    FnX P w K mg base (k + 1) x c := by
  refine ⟨f, fd, ps, F.okX S (fun vs H Q E ⟨φ, S, ds, Q', X', rs, rv, q, _⟩ => ?_) (fun cdv A outer s H vs Q E hr ⟨φ, S, ds, Q', X', rs, rv, q, k, x⟩ => ?_), hm, F.kp, hb⟩
  · rw [← rv.len]; exact len _ _ _ _ q
  · obtain ⟨u, hu, hv⟩ := body cdv A outer s H E hr
    exact ⟨LS K E u, hu, φ, startD N.length ds, S, ⟨fun _ S => Q' .non S, Q', fun _ _ => False, fun _ _ => False⟩, X', rs, RE.start N rv, hv ds S Q' X' q, ⟨fun env S' φ' σ' H' e rs' re' q' => k .non S' φ' .non H' e rs' rfl q', k, fun _ _ _ _ _ _ _ _ z => z.elim, fun _ _ _ _ _ _ _ _ z => z.elim⟩, x⟩
end
/-! ### isinstance of a kept error -/
theorem isKept {X : Cx} {a D : Addr} {oe : Obj} {pn : List (Addr × Obj)} {xe : Value → Shared → Prop} (C : ExcC X.K D) (hz : Zc (.ref D) none oe) (hf : ∃ vs, oe.data = .fields vs) : CallR (X.tr ((a, oe) :: pn) xe) (.builtin "isinstance") (rIsE X.K D a) := by
  intro qs s σ H xs us Q I r ⟨c, cv, b, e0, same, e, q⟩
  subst e0
  cases r with
  | cons r1 r2 =>
    cases r2 with
    | cons r3 r4 =>
      cases r4; cases r1
      cases same _ r3
      have there := (I.pin (a, oe) (List.mem_append_left _ List.mem_cons_self)).1
      have inst : PySem.W.InstAt s.heap a oe D none := by
        obtain ⟨vs, hv⟩ := hf
        cases oe with
        | mk oc od oda osl => cases hz.1; cases hz.2; cases hv; exact ⟨there, rfl, rfl, trivial⟩
      refine PySem.W.kia_one (PySem.W.handS_kitx_exc C.hg C.hk C.hs C.hd C.ha C.hn C.ht C.hm) I.kIn inst e (fun z => by cases z) fun tk => ?_
      exact ⟨.bl b, H, I.kept (t' := tk) fun _ _ z => z, rfl, q⟩
def fIsE (a : Addr) : WO1 := fun x S Q => x = .adr a ∧ Q (.bl true) S
section
variable {X : Cx} {E : XK} {a D : Addr} {oe : Obj} {pn : List (Addr × Obj)} {xe : Value → Shared → Prop} {e ce : Expr} {wa : WE} {c : V} {cv : Value} {pos p : Pos}
theorem q_isE (C : ExcC X.K D) (hz : Zc (.ref D) none oe) (hf : ∃ vs, oe.data = .fields vs) (hgi : Gl X "isinstance") (hmi : X.mg "isinstance" = none) (ha : QE (X.tr ((a, oe) :: pn) xe) E e wa) (hc : PE (X.tr ((a, oe) :: pn) xe) ce (tC c)) (same : ∀ u, RelV c u → u = cv) (hk : PySem.W.kitOne X.K (.ref D) cv = some true)
    (he : starEach [e, ce] X.env = (false, eval e X.env) :: starEach [ce] X.env := by rfl) (he2 : starEach [ce] X.env = (false, eval ce X.env) :: starEach [] X.env := by rfl) (hpl : (backTo pos (starEach [ce] X.env)).any (·.1) = false := by rfl) :
    QE (X.tr ((a, oe) :: pn) xe) E (.Call (.Name "isinstance" p) [e, ce] [] pos) (wUn (fIsE a) wa) :=
  (pe_callB (X := X.tr ((a, oe) :: pn) xe) (isKept C hz hf) hgi hmi (by decide +kernel) (pa_cons ha (pa_cons hc pa_nil he2) he) (by decide) (by decide) he hpl).imp fun σ H Q ⟨φ, env, S, Q', X', rs, re, q, k, xx⟩ =>
    ⟨φ, env, S, _, X', rs, re, q, fun d S1 φ1 v H1 e1 rs1 rv1 ⟨hd, q1⟩ => by
      subst hd
      cases rv1
      exact ⟨c, cv, true, rfl, same, hk, (k.mono e1).same rs1 (d := .bl true) rfl q1⟩, xx⟩
end
/-! ### try: y = f(..) except x as n: z = n; the rest -/
section
variable {X : Cx} {E : XK}
def wKeep (CN : Addr) (c : Con) (wa : WA) (y z n : Nat) (w0 : WS) (w1 : Addr → WS) : WS := fun G env S X => n < env.length ∧ wa env S (fun ds S1 => c ds S1 (fun d S2 => w0 G (env.set y (some d)) S2 X) fun C S2 => C = CN ∧ ∀ a, w1 a G (((env.set n (some (.adr a))).set z (some (.adr a))).set n none) S2 X) noX
open Classical in
theorem qss_try {CN : Addr} {c0 : Value} {c : Con} {x xf yn zn nn : Str} {y z n k j : Nat} {a0 : Expr} {args : List Expr} {rest : List Stmt} {wa : WA} {w0 : WS} {w1 : Addr → WS} {np p1 p2 p3 p4 p5 p6 p7 p8 p9 : Pos}
    (stk : X.stack = X.env :: X.outer) (frm : X.env.frame = some X.env.locals) (nd : X.N.Nodup) (hn : X.N[n]? = some nn) (hy : X.N[y]? = some yn) (hz : X.N[z]? = some zn) (ln : X.env.kindOf nn = some .local) (ly : X.env.scope.names.lookup yn = some .local) (lz : X.env.scope.names.lookup zn = some .local) (ln' : X.env.scope.names.lookup nn = some .local)
    (nm : Names X x c0) (eE : PySem.W.exmOne X.K (.ref CN) c0 = some true) (C : FnX X.prog X.w X.K X.mg X.base k xf c) (hr : Room j X.A) (hk : k ≤ j) (gf : Gl X xf) (ha : ∀ pn xe, QA (X.tr pn xe) E (a0 :: args) wa)
    (h0 : QSs X E rest w0) (h1 : ∀ (a : Addr) (oe : Obj) (pn : List (Addr × Obj)), Zc (.ref CN) none oe → (∃ vs, oe.data = .fields vs) → QSs (X.tr ((a, oe) :: pn) X.xe) E rest (w1 a))
    (dbf : (xf == ("__debug__" : Str)) = false := by decide) (dbn : (nn == ("__debug__" : Str)) = false := by decide) (dcn : (nn == ("__classdict__" : Str)) = false := by decide)
    (he : starEach (a0 :: args) X.env = (false, eval a0 X.env) :: starEach args X.env := by rfl) (hpl : (backTo p4 (starEach args X.env)).any (·.1) = false := by rfl) (sw1 : swapsWith (.Call (.Name xf p3) (a0 :: args) [] p4) (some (.Name yn p5)) p6.line X.env = pure false := by rfl) (sw2 : swapsWith (.Name nn p7) (some (.Name zn p8)) p9.line X.env = pure false := by rfl) :
    QSs X E (.Try [.Assign [.Name yn p5] (.Call (.Name xf p3) (a0 :: args) [] p4) p6] [.ExceptHandler (some (.Name x np)) (some nn) [.Assign [.Name zn p8] (.Name nn p7) p9] p1] [] [] p2 :: rest) (wKeep CN c wa y z n w0 w1) := by
  obtain ⟨f, fd, ps, F, hm, kp, b⟩ := C.ex
  have key := pss_kept (tb := fun W => tAsg (tCallS (spQ X.K c) (L2.WE W) (LA X.K E wa)) (gName y)) (np := np) (p1 := p1) (p2 := p2) (X := X) (c := c0) (i := n) (rest := rest) (t0 := LS X.K E w0) (t1 := fun a cls d => if cls = Value.ref CN ∧ d = none then LS X.K E (w1 a) else fun _ _ _ => False) stk frm nd hn ln nm (Wo := fun _ _ _ _ => False) (b0 := .Assign [.Name zn p8] (.Name nn p7) p9) (suite := []) (ts := fun _ _ _ => LS X.K E (wSet z (wVar n))) takes0
    (fun W pn xe tk _ => pss_one (ps_set (X := X.tr pn xe) nd hy (Or.inl ly) (pe_callS (X := X.tr pn xe) (p := p3) (pos := p4) F (hr.mono hk) gf hm kp b (fun σ => passAt tk σ) (ha pn xe) dbf he hpl) sw1 (Or.inr ly)))
    (fun a oe cls d pn hZ hF => qs_one (q_set (X := X.suite a ((a, oe) :: pn)) (E := E) nd hz (Or.inl lz) (qv (X := X.suite a ((a, oe) :: pn)) n hn (Or.inl ln') dbn dcn) sw2 (Or.inr lz)))
    h0 (fun a oe cls d pn hZ hF => by
      by_cases q : cls = Value.ref CN ∧ d = none
      · rw [if_pos q]
        obtain ⟨rfl, rfl⟩ := q
        exact h1 a oe pn hZ hF
      · rw [if_neg q]
        exact ⟨fun _ _ _ _ _ _ z => z.elim⟩)
  refine key.imp fun D σ H ⟨φ, env, S, G, X', rs, re, ⟨hl, q⟩, k, xx⟩ => ?_
  refine ⟨φ, env, S, _, noX, rs, re, q, fun ds S1 φ1 vs H1 e1 rs1 rv1 q1 => ⟨φ1, S1, ds, _, _, rs1, rv1, q1, fun d S2 φ2 v H2 e2 rs2 rv2 q2 => ?_, fun Cc S2 φ2 H2 e2 rs2 ⟨hC, q2⟩ => ?_⟩, XOk.noX⟩
  · exact ⟨φ2, _, S2, G, X', rs2, (re.mono (e1.trans e2)).set rv2, q2, k.mono (e1.trans e2), xx.mono (e1.trans e2)⟩
  · subst hC
    refine ⟨true, eE, fun _ a _ => ?_, fun z => by cases z⟩
    refine ⟨φ2, env.set n (some (.adr a)), S2, ⟨fun e s => w1 a G (e.set n none) s X', G.rt, fun _ _ => False, fun _ _ => False⟩, X', rs2, (re.mono (e1.trans e2)).set rfl, ?_, ⟨fun e S3 φ3 τ H3 e3 rs3 re3 q3 => ?_, k.rt.mono (e1.trans e2), fun _ _ _ _ _ _ _ _ z => z.elim, fun _ _ _ _ _ _ _ _ z => z.elim⟩, xx.mono (e1.trans e2)⟩
    · exact ⟨.adr a, by rw [List.getElem?_set_self hl], q2 a⟩
    · show (if _ then _ else _ : TS) _ _ _
      rw [if_pos ⟨rfl, rfl⟩]
      exact ⟨φ3, _, S3, G, X', rs3, re3.drop, q3, k.mono ((e1.trans e2).trans e3), xx.mono ((e1.trans e2).trans e3)⟩
end
end Qd
set_option Elab.async false
set_option linter.all false
set_option maxRecDepth 100000
/-! Layer Q: defs that need to know that no repr is under way; the law's end. -/
namespace Qd
open PySem PySem.Spec PyProof.Rows L2
/-- a def that is entered with no repr under way -/
structure FnOkG (P : Program) (w : World) (K : PySem.W.Frag) (mg : Str → Option Value) (base : Heap) (k : Nat) (f : Addr) (fd : FuncData) (ps : List Str) (sp : Sp) : Prop where
  len : ∀ vs H Q E, sp vs H Q E → vs.length = ps.length
  run : ∀ (A : Around) (outer : List Env) (s : Shared) (H : Hp) (args : Args) (us : List Value) (vs : List V) (Q : VK), Room k A → A.guards = some [] → Env0 P w K mg base A outer s H → BindsTo s fd args (ps.zip us) → Vals vs us → sp vs H Q E0 →
    codeAny (model P w) A (.call (.ref f) args) (CR CX0 outer P w H s Q E0) s
structure FnG (P : Program) (w : World) (K : PySem.W.Frag) (mg : Str → Option Value) (base : Heap) (k : Nat) (x : Str) (c : Con) : Prop where
  ex : ∃ (f : Addr) (fd : FuncData) (ps : List Str), FnOkG P w K mg base k f fd ps (spQ K c) ∧ mg x = some (.ref f) ∧ PySem.W.keepIn K (.ref f) = true ∧ Binds K fd ps []
section
variable {P : Program} {w : World} {K : PySem.W.Frag} {mg : Str → Option Value} {base : Heap}
theorem okG {x : Str} {st : Stmt} {f : Addr} {fd : FuncData} {N ps : List Str} {k : Nat} {c : Con} (F : Fun K x x st f fd) (S : FnScope N ps (defScope st)) (len : ∀ ds S Q X, c ds S Q X → ds.length = ps.length)
    (body : ∀ (cdv : Value) (A : Around) (outer : List Env) (s : Shared) (H : Hp), Room k (A.deeper (envOfC x (defScope st) s.heap.objs.size f cdv)) → (A.deeper (envOfC x (defScope st) s.heap.objs.size f cdv)).guards = some [] →
      ∃ u, QSs (cxOf CX0 P w K mg base N x (defScope st) f cdv A outer s H E0).nox E0 (defBody st) u ∧ ∀ ds S Q X', c ds S Q X' → u ⟨fun _ S => Q .non S, Q, fun _ _ => False, fun _ _ => False⟩ (startD N.length ds) S noX) :
    FnOkG P w K mg base (k + 1) f fd ps (spQ K c) := by
  obtain ⟨oc, od, kV, doc, pm, an, cdv, ct, osl, rfl, lk, hcd⟩ := F.ex
  have ln : ∀ vs H Q E, spQ K c vs H Q E → vs.length = ps.length := fun vs H Q E ⟨φ, S, ds, Q', X', rs, rv, q, _⟩ => by rw [← rv.len]; exact len _ _ _ _ q
  refine ⟨ln, fun A outer s H args us vs Q room noG start0 binds vals promise => ?_⟩
  have seen : ∀ {b : Addr} {o : Obj}, base.get? b = some o → s.heap.get? b = some o := fun e => (start0.bs _ _ e).1
  have kinS : K.In s.heap := start0.mod.kin.keeps fun _ _ e => seen e
  have ofL : s.heap.NoLimit := start0.mod.nolimit.keeps fun _ _ e => seen e
  have kinds : ∀ y ∈ ps.zip us, (defScope st).names.lookup y.1 = some .local ∨ ((defScope st).names.lookup y.1 = some .cell ∧ ((cellsFrom (s.heap.objs.size + 1) (defScope st).names []).lookup y.1).isSome = true) := fun y hy =>
    (S.par y.1 (List.of_mem_zip hy).1).elim .inl fun q => .inr ⟨q, PySem.W.cellsFrom_some _ _ _ (.inl q)⟩
  refine codeAny_call_function room.depth (kinS _ _ lk) rfl S.co S.gen rfl (PySem.W.codeRec_of kinS hcd) (binds _ _ _ _ (wpAny_newFunctionEnv_cells S.kind kinds fun env he s1 inside => ?_))
  subst he
  refine ⟨ofL.keeps inside.toInCall.keep, codeAny_func ?_⟩
  obtain ⟨u, hu, hv⟩ := body cdv A outer s H (room.deeper _) noG
  obtain ⟨φ, T, ds, Q', X', rs, rv, q, k1, x1⟩ := id promise
  have at1 : Inv (cxOf CX0 P w K mg base N x (defScope st) f cdv A outer s H E0) [] (L2.start N vs) H s1 := inv_start S room.hd start0 (ln _ _ _ _ promise) vals inside
  have run := (PSs.nox hu).run [] s1 (L2.start N vs) H { nx := fun _ H' => Q .non H', rt := Q } at1 ⟨φ, startD N.length ds, T, ⟨fun _ S => Q' .non S, Q', fun _ _ => False, fun _ _ => False⟩, noX, rs, RE.start N rv, hv ds T Q' X' q, ⟨fun _ S' φ' _ H' e rs' _ q' => k1 .non S' φ' .non H' e rs' rfl q', k1, fun _ _ _ _ _ _ _ _ z => z.elim, fun _ _ _ _ _ _ _ _ z => z.elim⟩, XOk.noX⟩
  refine wpAny_mono run (fun fl s' hs => ?_) fun _ _ z => z
  cases fl with
  | brk => exact let ⟨_, _, _, z⟩ := hs; z.elim
  | cont => exact let ⟨_, _, _, z⟩ := hs; z.elim
  | next => exact let ⟨τ, G, J, z⟩ := hs; (⟨V.non, G, J.os, J.bare, J.base, J.hok, rfl, z⟩ : CE outer P w H s Q .none s')
  | ret v => exact let ⟨y, τ, G, J, r, z⟩ := hs; (⟨y, G, J.os, J.bare, J.base, J.hok, r, z⟩ : CE outer P w H s Q v s')
theorem defG {x : Str} {st : Stmt} {f : Addr} {fd : FuncData} {N ps : List Str} {k : Nat} {c : Con} (F : Fun K x x st f fd) (hm : mg x = some (.ref f)) (hb : Binds K fd ps []) (S : FnScope N ps (defScope st)) (len : ∀ ds S Q X, c ds S Q X → ds.length = ps.length)
    (body : ∀ (cdv : Value) (A : Around) (outer : List Env) (s : Shared) (H : Hp), Room k (A.deeper (envOfC x (defScope st) s.heap.objs.size f cdv)) → (A.deeper (envOfC x (defScope st) s.heap.objs.size f cdv)).guards = some [] →
      ∃ u, QSs (cxOf CX0 P w K mg base N x (defScope st) f cdv A outer s H E0).nox E0 (defBody st) u ∧ ∀ ds S Q X', c ds S Q X' → u ⟨fun _ S => Q .non S, Q, fun _ _ => False, fun _ _ => False⟩ (startD N.length ds) S noX) :
    FnG P w K mg base (k + 1) x c := ⟨f, fd, ps, okG F S len body, hm, F.kp, hb⟩
end
section
variable {X : Cx} {E : XK} {c : Con} {a : Expr} {es : List Expr} {wr : WA} {pos p : Pos} {x : Str} {k j : Nat}
/-- a call of such a def -/
theorem q_cG (C : FnG X.prog X.w X.K X.mg X.base k x c) (hgd : X.A.guards = some []) (hr : Room j X.A) (hk : k ≤ j) (hg : Gl X x) (ha : QA X E (a :: es) wr)
    (hdb : (x == ("__debug__" : Str)) = false := by decide) (he : starEach (a :: es) X.env = (false, eval a X.env) :: starEach es X.env := by rfl) (hpl : (backTo pos (starEach es X.env)).any (·.1) = false := by rfl) : QE X E (.Call (.Name x p) (a :: es) [] pos) (wCall c [] wr) := by
  obtain ⟨f, fd, ps, F, hm, kp, b⟩ := C.ex
  refine ⟨fun pins s σ H Q I ⟨φ, env, S, Q', X', rs, re, q, k0, xx⟩ => wpAny_Call_Name_kw (ld_glob I hg hm ?_ hdb)⟩
  refine PySem.W.callWith_K (h₀ := X.base) I.ok.mod.kin kp (thn (ha.run pos pins s σ H (fun vs H1 => spQ X.K c vs H1 Q E0) I ⟨φ, env, S, _, X', rs, re, q, fun ds S1 φ1 vs H1 e1 rs1 rv1 q1 => ⟨φ1, S1, ds, Q', noX, rs1, rv1, (by simpa using q1), k0.mono e1, XOk.noX⟩, xx⟩) fun us s1 ⟨vs, H1, I1, r, q1⟩ => ⟨I1.kIn, ?_⟩) he hpl
  have hl : us.length = ps.length := by rw [← r.length]; exact F.len _ _ _ _ q1
  have b1 := b s1 us I1.kIn (by simpa using hl)
  rw [List.append_nil] at b1
  refine wpAny_call (codeAny_mono (F.run X.A X.stack s1 H1 ⟨us, []⟩ us vs Q (hr.mono hk) hgd I1.env0 b1 r q1) fun res s' hq => ?_)
  cases res with
  | error e => exact False.elim hq
  | ok fl =>
    cases fl with
    | ret u => exact I1.after hq
    | next => exact False.elim hq
    | brk => exact False.elim hq
    | cont => exact False.elim hq
end
/-- the law's own call -/
theorem law_run {P : Program} {w : World} {K : PySem.W.Frag} {mg mb : Str → Option Value} {k : Nat} {fa a : Addr} {fd : FuncData} {x : Str} {sp : Sp} {s1 : Shared} {vs : List Value} {ns : List Int}
    (KX : K.In s1.heap) (hns : s1.heap.Ns mainGlobals mg) (hbl : s1.heap.Ns builtinsNs mb) (hbb : ∀ x : Str, x ≠ "__name__" → mb x = bootBuiltins x) (hlim : s1.heap.NoLimit) (hgn : s1.gens = #[])
    (there : s1.heap.get? a = some { cls := .type "list", data := .seq vs.toArray }) (hi : IntsAre vs ns) (hl : ns.length ≤ sizeLine) (room : Room k callerA)
    (F : ∀ base : Heap, K.In base → base.Ns mainGlobals mg → FnOkG P w K mg base k fa fd [x] sp) (hbind : ∀ (s : Shared) (u : Value), BindsTo s fd ⟨[u], []⟩ [(x, u)])
    (hsp : ∀ H : Hp, Only H → SqL K H a (ns.map V.int) → sp [.ref a] H (fun v _ => v = .bl true) E0) :
    codeAny (model P w) callerA (.call (.ref fa) ⟨[.ref a], []⟩) (fun r s' => r = .ok (.ret (.bool true)) ∧ OldK s1.heap s'.heap ∧ s'.os = s1.os ∧ AllBare s'.gens) s1 := by
  have vals := vals_ints hi
  have main : ∀ H : Hp, Only H → SqL K H a (ns.map V.int) → HOk P w H s1.heap → (∀ b, H b ≠ none → b = a ∧ K.lookup a = none) →
      codeAny (model P w) callerA (.call (.ref fa) ⟨[.ref a], []⟩) (fun r s' => r = .ok (.ret (.bool true)) ∧ OldK s1.heap s'.heap ∧ s'.os = s1.os ∧ AllBare s'.gens) s1 := by
    intro H only sq ok one
    have shown : ∀ {b : Addr} {o : Obj}, s1.heap.get? b = some o → H b = none → (hidT s1.heap H).get? b = some o := fun e n => hidT_get e n
    have dictFree : ∀ {b : Addr} {o : Obj} {es : Array DictEntry} {ep : Nat}, s1.heap.get? b = some o → o.data = .dict es ep → H b = none := fun {b o es ep} e d => Classical.byContradiction fun n => by
      obtain ⟨rfl, _⟩ := one b n
      rw [there] at e
      cases e
      cases d
    have nsT : ∀ {b : Addr} {m : Str → Option Value}, s1.heap.Ns b m → (hidT s1.heap H).Ns b m := fun {b m} ⟨o, es, ep, e, d, r⟩ => ⟨o, es, ep, shown e (dictFree e d), d, r⟩
    have kT : K.In (hidT s1.heap H) := fun b o e => shown (KX b o e) (Classical.byContradiction fun n => by
      obtain ⟨rfl, q⟩ := one b n
      rw [q] at e
      cases e)
    have mT : Mod K mg (hidT s1.heap H) := ⟨kT, nsT hns, ⟨mb, nsT hbl, hbb⟩, let ⟨mc, h1, h2⟩ := hlim; ⟨mc, nsT h1, h2⟩⟩
    have nil : ∀ (b : Addr), b ∉ frs [] := fun b z => absurd (show b ∈ ([] : List Addr) from z) (by simp)
    refine codeAny_mono ((F _ kT (nsT hns)).run callerA [] s1 H ⟨[.ref a], []⟩ [.ref a] [.ref a] _ room rfl ⟨rfl, mT, fun _ _ e => of_hidT e, Nat.le_of_eq (hidT_size _ _), trivial, fun b z => absurd z (nil b), ok, .of_eq hgn⟩ (hbind s1 (.ref a)) (.cons rfl .nil) (hsp H only sq)) fun r s' h => ?_
    match r, h with
    | .ok (.ret u), ⟨v, G, os, bare, un, ok', rv, q⟩ =>
      have q' : v = .bl true := q
      subst q'
      obtain rfl : u = Value.bool true := rv
      refine ⟨rfl, OldK.of_keep fun b o e => ?_, os, bare⟩
      cases hb : H b with
      | none => exact un.keep b o e hb (nil b) (by simp)
      | some u =>
        rcases only b with z | ⟨ob, xs, z⟩
        · rw [hb] at z; cases z
        · have e1 := (ok b _ z).1
          have e2 := (ok' b _ (un.frzs b ob _ z)).1
          rw [e] at e1; cases e1
          exact e2
  cases hk : K.lookup a with
  | some o =>
    have e := KX a o hk
    rw [there] at e
    cases e
    exact main (fun _ => none) (fun _ => .inl rfl) (.inr ⟨_, vs.toArray, _, hk, rfl, rfl, rfl, by rw [List.size_toArray, hi.length]; exact hl, by simpa using vals⟩) (fun b u z => by cases (show (none : Option HO) = some u from z)) fun b z => absurd rfl z
  | none =>
    obtain ⟨T, hT⟩ : ∃ T : Hp, T = fun b => if b = a then some (.frz { cls := .type "list", data := .seq vs.toArray } (.lst (ns.map V.int))) else none := ⟨_, rfl⟩
    have Ta : T a = some (.frz { cls := .type "list", data := .seq vs.toArray } (.lst (ns.map V.int))) := by rw [hT]; exact if_pos rfl
    have Tn : ∀ b, b ≠ a → T b = none := fun b n => by rw [hT]; exact if_neg n
    refine main T (fun b => (Classical.em (b = a)).elim (fun q => .inr ⟨_, _, q ▸ Ta⟩) fun q => .inl (Tn b q)) (.inl (.inr ⟨_, Ta⟩)) (fun b u z => ?_) fun b z => ⟨Classical.byContradiction fun n => z (Tn b n), hk⟩
    by_cases q : b = a
    · subst q
      rw [Ta] at z
      cases z
      exact ⟨there, by rw [List.length_map]; exact hl, vs, _, vals, there⟩
    · rw [Tn b q] at z; cases z
/-- the goal that k_head leaves, from the law's promise -/
theorem walkG {l : PySem.W.OpenLaw} {n k : Nat} {q : Program} {loose : List Str} {XP : (Str → Option Value) → Heap → Prop} {YP : World → Heap → Prop} {d : DefRec} {K : Params → PySem.W.Frag} {sp : World → Sp} {x : Str}
    (hn : l.most = some n) (hn2 : n ≤ sizeLine) (hdf : d.params.defaults = []) (room : Room k callerA) (hY : ∀ (w : World) (h : Heap), YP w h → (K w.params).In h)
    (F : ∀ (w : World) (mg : Str → Option Value) (fa : Addr) (h : Heap), (K w.params).In h → h.Ns mainGlobals mg → mg d.name = some (.ref fa) →
      ∃ fd : FuncData, (∀ (s : Shared) (u : Value), BindsTo s fd ⟨[u], []⟩ [(x, u)]) ∧ ∀ base : Heap, (K w.params).In base → base.Ns mainGlobals mg → FnOkG l.prog w (K w.params) mg base k fa fd [x] (sp w))
    (hsp : ∀ (w : World) (H : Hp) (a : Addr) (ns : List Int), ns.length ≤ n → Only H → SqL (K w.params) H a (ns.map V.int) → sp w [.ref a] H (fun v _ => v = .bl true) E0) :
    PySem.W.WalkO q loose XP YP l.row.toRowW d [] (fun f vs => PySem.call f vs) :=
  Att.attach_call hn hdf fun w s0 s1 mg mb fa o pm cd doc a vs ns G Y ho hd hcd hmg hobj hints hlen hg =>
    let ⟨fd, hb, hF⟩ := F w mg fa _ (hY w _ Y) G.T.g hmg
    law_run (hY w _ Y) G.T.g G.T.b G.T.builtins G.T.nolimit hg hobj hints (Nat.le_trans hlen hn2) room hF hb fun H only sq => hsp w H a ns hlen only sq
end Qd
set_option Elab.async false
set_option linter.all false
set_option maxRecDepth 100000
/-! Layer Q: stores that grow, data as plain data, loops by an invariant. -/
namespace Qd
open PySem PySem.Spec PyProof.Rows L2
def Sub (S T : Store) : Prop := ∀ (n : Nat) (c : Cell), S[n]? = some c → T[n]? = some c
theorem Sub.refl {S : Store} : Sub S S := fun _ _ h => h
theorem Sub.trans {S T U : Store} (h : Sub S T) (g : Sub T U) : Sub S U := fun n c e => g n c (h n c e)
theorem Sub.nil {S : Store} : Sub [] S := fun n c e => by simp at e
theorem Sub.push {S : Store} {T : List Cell} : Sub S (S ++ T) := fun n c e => by
  rw [List.getElem?_append_left (List.getElem?_eq_some_iff.mp e).1]; exact e
theorem Sub.to {S T : Store} {U : List Cell} (h : Sub S T) : Sub S (T ++ U) := h.trans Sub.push
theorem last_get {S : Store} {c : Cell} : (S ++ [c])[S.length]? = some c := by simp
mutual
theorem sh_mono {S T : Store} (m : Sub S T) : ∀ {d : D} {p : PyData}, Sh S d p → Sh T d p
  | _, _, .non => .non
  | _, _, .bl b => .bl b
  | _, _, .int b => .int b
  | _, _, .str b => .str b
  | _, _, .tup h => .tup (shs_mono m h)
  | _, _, .lst e h => .lst (m _ _ e) (shs_mono m h)
  | _, _, .dict e => .dict (m _ _ e)
theorem shs_mono {S T : Store} (m : Sub S T) : ∀ {d : List D} {p : List PyData}, Shs S d p → Shs T d p
  | _, _, .nil => .nil
  | _, _, .cons a b => .cons (sh_mono m a) (shs_mono m b)
end
theorem Shs.len {S : Store} : ∀ {ds : List D} {ps : List PyData}, Shs S ds ps → ds.length = ps.length
  | _, _, .nil => rfl
  | _, _, .cons _ b => by simp [b.len]
theorem Shs.get {S : Store} : ∀ {ds : List D} {ps : List PyData} {i : Nat} {p : PyData}, Shs S ds ps → ps[i]? = some p → ∃ d, ds[i]? = some d ∧ Sh S d p
  | _, _, _, _, .nil, e => by simp at e
  | _, _, 0, _, .cons a _, e => by simp at e; subst e; exact ⟨_, rfl, a⟩
  | _, _, i + 1, _, .cons _ b, e => by
    obtain ⟨d, h1, h2⟩ := b.get (i := i) (by simpa using e)
    exact ⟨d, by simpa using h1, h2⟩
theorem Shs.getD {S : Store} : ∀ {ds : List D} {ps : List PyData} {i : Nat} {d : D}, Shs S ds ps → ds[i]? = some d → ∃ p, ps[i]? = some p ∧ Sh S d p
  | _, _, _, _, .nil, e => by simp at e
  | _, _, 0, _, .cons a _, e => by simp at e; subst e; exact ⟨_, rfl, a⟩
  | _, _, i + 1, _, .cons _ b, e => by
    obtain ⟨d, h1, h2⟩ := b.getD (i := i) (by simpa using e)
    exact ⟨d, by simpa using h1, h2⟩
theorem Shs.append {S : Store} : ∀ {ds es : List D} {ps qs : List PyData}, Shs S ds ps → Shs S es qs → Shs S (ds ++ es) (ps ++ qs)
  | _, _, _, _, .nil, h => h
  | _, _, _, _, .cons a b, h => .cons a (b.append h)
theorem Shs.take {S : Store} : ∀ {ds : List D} {ps : List PyData} (n : Nat), Shs S ds ps → Shs S (ds.take n) (ps.take n)
  | _, _, 0, _ => by simpa using Shs.nil
  | _, _, _ + 1, .nil => .nil
  | _, _, n + 1, .cons a b => .cons a (b.take n)
theorem Shs.drop {S : Store} : ∀ {ds : List D} {ps : List PyData} (n : Nat), Shs S ds ps → Shs S (ds.drop n) (ps.drop n)
  | _, _, 0, h => h
  | _, _, _ + 1, .nil => .nil
  | _, _, n + 1, .cons _ b => b.drop n
theorem Shs.reverse {S : Store} : ∀ {ds : List D} {ps : List PyData}, Shs S ds ps → Shs S ds.reverse ps.reverse
  | _, _, .nil => .nil
  | _, _, .cons a b => by
    rw [List.reverse_cons, List.reverse_cons]
    exact b.reverse.append (.cons a .nil)
def cutP (xs : List PyData) (lo hi : Option Int) : List PyData := (xs.drop (HT.sIx xs.length 0 lo)).take (HT.sIx xs.length xs.length hi - HT.sIx xs.length 0 lo)
theorem Shs.cut {S : Store} {ds : List D} {ps : List PyData} (h : Shs S ds ps) (lo hi : Option Int) : Shs S (cutD ds lo hi) (cutP ps lo hi) := by
  unfold cutD cutP
  rw [h.len]
  exact (h.drop _).take _
mutual
/-- the data that == may look at -/
theorem Sh.py {S : Store} : ∀ {d : D} {p : PyData}, Sh S d p → p.hasDict = false → Py S d p
  | _, _, .non, _ => .non
  | _, _, .bl b, _ => .bl b
  | _, _, .int b, _ => .int b
  | _, _, .str b, _ => .str b
  | _, _, .tup h, n => .tup (Shs.py h (by simpa [PyData.hasDict] using n))
  | _, _, .lst e h, n => .lst e (Shs.py h (by simpa [PyData.hasDict] using n))
  | _, _, .dict _, n => by simp [PyData.hasDict] at n
theorem Shs.py {S : Store} : ∀ {d : List D} {p : List PyData}, Shs S d p → PyData.hasDictAll p = false → Pys S d p
  | _, _, .nil, _ => .nil
  | _, _, .cons a b, n => by
    rw [PyData.hasDictAll, Bool.or_eq_false_iff] at n
    exact .cons (Sh.py a n.1) (Shs.py b n.2)
end
def pI : PyData → Bool | .int _ => true | _ => false
def pB : PyData → Bool | .bool _ => true | _ => false
def pS : PyData → Bool | .str _ => true | _ => false
def pT : PyData → Bool | .tuple _ => true | _ => false
def pL : PyData → Bool | .list _ => true | _ => false
section
variable {S : Store} {d : D} {p : PyData} {Q : D → Store → Prop}
theorem sh_ty (h : Sh S d p) : Qd.Ty S d := by
  unfold Qd.Ty
  cases h <;> simp only [tyD] <;> first
    | rfl
    | (rename_i e; rw [e]; rfl)
    | (rename_i e _; rw [e]; rfl)
theorem shi_int (h : Sh S d p) (q : Q (.bl (pI p || pB p)) S) : fIsi "int" d S Q := isi_int (sh_ty h) (by cases h <;> exact q)
theorem shi_bool (h : Sh S d p) (q : Q (.bl (pB p)) S) : fIsi "bool" d S Q := isi_bool (sh_ty h) (by cases h <;> exact q)
theorem shi_str (h : Sh S d p) (q : Q (.bl (pS p)) S) : fIsi "str" d S Q := isi_str (sh_ty h) (by cases h <;> exact q)
theorem shi_tup (h : Sh S d p) (q : Q (.bl (pT p)) S) : fIsi "tuple" d S Q := isi_tup (sh_ty h) (by cases h <;> exact q)
theorem shi_lst (h : Sh S d p) (q : Q (.bl (pL p)) S) : fIsi "list" d S Q := isi_lst (sh_ty h) (by
  cases h <;> first
    | exact q
    | (rename_i e; simp only [isL, e, isLc]; exact q)
    | (rename_i e _; simp only [isL, e, isLc]; exact q))
theorem shi_ret {T : String} {b : Bool} (h : fIsi T d S fun x S1 => x = .bl b ∧ S1 = S) : isTy S T d = some b := by
  obtain ⟨c, hc, e, _⟩ := h
  cases e
  exact hc
end
/-- a list or a tuple -/
theorem qi_or {X : Cx} {E : XK} {tg e : Expr} {w1 w2 : WI} (h1 : QI X E tg e w1) (h2 : QI X E tg e w2) : QI X E tg e (fun env S R Y => w1 env S R Y ∨ w2 env S R Y) :=
  ⟨fun pins s σ H R I ⟨φ, env, S, R', X', rs, re, q, k, x⟩ => q.elim (fun q => h1.run pins s σ H R I ⟨φ, env, S, R', X', rs, re, q, k, x⟩) fun q => h2.run pins s σ H R I ⟨φ, env, S, R', X', rs, re, q, k, x⟩⟩
/-! ### loops -/
section
variable {g : WG} {a : WE} {t : WT} {w : WS} {env : Slots} {still : Store → Prop} {X : XQ}
/-- a comprehension without a test -/
theorem lc_yes {Q : List D → Store → Prop} {items : List D} {S : Store} (J : Nat → Store → Prop) (Pr : Nat → D → D → Prop) (h0 : J 0 S) (hl : items.length ≤ lineD) (hs : ∀ i S, J i S → still S)
    (step : ∀ i d, items[i]? = some d → ∀ S, J i S → ∀ R : D → Store → Prop, (∀ y S', Pr i d y → J (i + 1) S' → R y S') → g d env S fun e s => a e s R X)
    (fin : ∀ ys S, ys.length = items.length → (∀ (i : Nat) d y, items[i]? = some d → ys[i]? = some y → Pr i d y) → J items.length S → Q ys S) : wLcL g wYes a env still Q X items [] S := by
  have main : ∀ (rest done acc : List D) (S : Store), items = done ++ rest → acc.length = done.length → (∀ (i : Nat) d y, done[i]? = some d → acc[i]? = some y → Pr i d y) → J done.length S → wLcL g wYes a env still Q X rest acc S := by
    intro rest
    induction rest with
    | nil =>
      intro done acc S e le hp hj
      rw [List.append_nil] at e
      subst e
      exact ⟨hs _ _ hj, fin acc S le hp hj⟩
    | cons d ds ih =>
      intro done acc S e le hp hj
      refine ⟨hs _ _ hj, step done.length d (by rw [e]; simp) S hj _ fun y S' py hj' => ⟨?_, ?_⟩⟩
      · rw [le]
        have := congrArg List.length e
        simp at this
        omega
      · refine ih (done ++ [d]) (acc ++ [y]) S' (by simp [e]) (by simp [le]) (fun i d' y' h1 h2 => ?_) (by simpa using hj')
        by_cases hi : i < done.length
        · rw [List.getElem?_append_left hi] at h1
          rw [List.getElem?_append_left (by omega)] at h2
          exact hp i d' y' h1 h2
        · rw [List.getElem?_append_right (by omega)] at h1
          rw [List.getElem?_append_right (by omega)] at h2
          have hz : i - done.length = 0 := by
            have := (List.getElem?_eq_some_iff.mp h1).1
            simp at this
            omega
          rw [hz] at h1
          rw [le, hz] at h2
          cases h1; cases h2
          rw [show i = done.length by omega]
          exact py
  exact main items [] [] S rfl rfl (fun i d y h => by simp at h) h0
/-- the items' values known ahead -/
theorem lc_map {Q : List D → Store → Prop} {items : List D} {S : Store} (J : Nat → Store → Prop) (f : D → D) (h0 : J 0 S) (hl : items.length ≤ lineD) (hs : ∀ i S, J i S → still S)
    (step : ∀ i d, items[i]? = some d → ∀ S, J i S → ∀ R : D → Store → Prop, (∀ S', J (i + 1) S' → R (f d) S') → g d env S fun e s => a e s R X)
    (fin : ∀ S, J items.length S → Q (items.map f) S) : wLcL g wYes a env still Q X items [] S :=
  lc_yes J (fun _ d y => y = f d) h0 hl hs (fun i d hi S hj R hR => step i d hi S hj R fun S' hj' => hR _ S' rfl hj') fun ys S hl hp hj => by
    have e : ys = items.map f := by
      refine List.ext_getElem? fun i => ?_
      rw [List.getElem?_map]
      cases h : items[i]? with
      | none =>
        have := List.getElem?_eq_none_iff.mp h
        simp only [Option.map_none]
        exact List.getElem?_eq_none_iff.mpr (by omega)
      | some d =>
        have hi := (List.getElem?_eq_some_iff.mp h).1
        have hy : ys[i]? = some ys[i] := List.getElem?_eq_getElem (by omega)
        rw [hy, hp i d _ h hy]
        rfl
    rw [e]
    exact fin S hj
/-- a comprehension with a test -/
theorem lc_if {Q : List D → Store → Prop} {items : List D} {S : Store} (J : Nat → Store → Prop) (Pr : D → Prop) (h0 : J 0 S) (hl : items.length ≤ lineD) (hs : ∀ i S, J i S → still S)
    (step : ∀ i d, items[i]? = some d → ∀ S, J i S → ∀ R0 : Store → Prop, ∀ R : D → Store → Prop, (∀ S', J (i + 1) S' → R0 S') → (∀ y S', Pr y → J (i + 1) S' → R y S') → g d env S fun e s => t e s (fun b s2 => if b = true then a e s2 R X else R0 s2) X)
    (fin : ∀ ys S, ys.length ≤ items.length → (∀ y ∈ ys, Pr y) → J items.length S → Q ys S) : wLcL g t a env still Q X items [] S := by
  have main : ∀ (rest done acc : List D) (S : Store), items = done ++ rest → acc.length ≤ done.length → (∀ y ∈ acc, Pr y) → J done.length S → wLcL g t a env still Q X rest acc S := by
    intro rest
    induction rest with
    | nil =>
      intro done acc S e le hp hj
      rw [List.append_nil] at e
      subst e
      exact ⟨hs _ _ hj, fin acc S le hp hj⟩
    | cons d ds ih =>
      intro done acc S e le hp hj
      refine ⟨hs _ _ hj, step done.length d (by rw [e]; simp) S hj _ _ (fun S' hj' => ?_) fun y S' py hj' => ⟨?_, ?_⟩⟩
      · exact ih (done ++ [d]) acc S' (by simp [e]) (by simp; omega) hp (by simpa using hj')
      · have := congrArg List.length e
        simp at this
        omega
      · refine ih (done ++ [d]) (acc ++ [y]) S' (by simp [e]) (by simp; omega) (fun z hz => ?_) (by simpa using hj')
        rcases List.mem_append.mp hz with h | h
        · exact hp z h
        · rw [List.mem_singleton.mp h]; exact py
  exact main items [] [] S rfl (Nat.le_refl _) (fun y h => by simp at h) h0
theorem loop_by {G : Go} {items : List D} {S : Store} (J : Nat → Slots → Store → Prop) (h0 : J 0 env S) (hs : ∀ i e S, J i e S → still S)
    (step : ∀ i d, items[i]? = some d → ∀ e S, J i e S → ∀ R : Slots → Store → Prop, (∀ e' S', J (i + 1) e' S' → R e' S') → g d e S fun e1 s1 => w ⟨R, G.rt, G.nx, R⟩ e1 s1 X)
    (fin : ∀ e S, J items.length e S → G.nx e S) : wLoop g w still G X items env S := by
  have main : ∀ (rest done : List D) (e : Slots) (S : Store), items = done ++ rest → J done.length e S → wLoop g w still G X rest e S := by
    intro rest
    induction rest with
    | nil =>
      intro done e S he hj
      rw [List.append_nil] at he
      subst he
      exact ⟨hs _ _ _ hj, fin e S hj⟩
    | cons d ds ih =>
      intro done e S he hj
      exact ⟨hs _ _ _ hj, step done.length d (by rw [he]; simp) e S hj _ fun e' S' hj' => ih (done ++ [d]) e' S' (by simp [he]) (by simpa using hj')⟩
  exact main items [] env S rfl h0
end
end Qd
set_option Elab.async false
set_option linter.all false
set_option maxRecDepth 100000
/-! Layer Q: instances of own classes: fields, methods, making. -/
namespace Qd
open PySem PySem.Spec PyProof.Rows L2
section
variable {K : PySem.W.Frag} {φ : List Addr} {H : Hp} {S : Store}
theorem RS.ins (r : RS K φ S H) {n : Nat} {C : Addr} {fs : List (Str × D)} {v : V} (rv : RV K φ H (.loc n) v) (h : S[n]? = some (.ins C fs)) : ∃ a dx gs, v = .ref a ∧ φ[n]? = some a ∧ H a = some (.ins C dx gs) ∧ RK K φ H fs gs := by
  obtain ⟨a, h1, rfl⟩ := rv
  obtain ⟨dx, gs, h2, h3⟩ := r.here n a _ h1 h
  exact ⟨a, dx, gs, rfl, h1, h2, h3⟩
theorem RK.look : ∀ {fs : List (Str × D)} {gs : List (Str × V)} {f : Str} {d : D}, RK K φ H fs gs → fs.lookup f = some d → ∃ v, gs.lookup f = some v ∧ RV K φ H d v
  | [], _, _, _, _, e => by cases e
  | (g, x) :: r, _, f, d, ⟨u, q, e, e2, h⟩, l => by
    subst e
    unfold List.lookup at l ⊢
    cases hb : f == g with
    | true => rw [hb] at l; cases l; exact ⟨u, rfl, e2⟩
    | false => rw [hb] at l; exact RK.look h l
theorem RK.lookN : ∀ {fs : List (Str × D)} {gs : List (Str × V)} {f : Str}, RK K φ H fs gs → fs.lookup f = none → gs.lookup f = none
  | [], _, _, h, _ => by subst h; rfl
  | (g, x) :: r, _, f, ⟨u, q, e, e2, h⟩, l => by
    subst e
    unfold List.lookup at l ⊢
    cases hb : f == g with
    | true => rw [hb] at l; cases l
    | false => rw [hb] at l; exact RK.lookN h l
/-- a field is set -/
def fput (f : Str) (d : D) : List (Str × D) → List (Str × D)
  | [] => [(f, d)]
  | (g, x) :: r => if g = f then (g, d) :: r else (g, x) :: fput f d r
theorem RK.fput {f : Str} {d : D} {v : V} (hd : RV K φ H d v) : ∀ {fs : List (Str × D)} {gs : List (Str × V)}, RK K φ H fs gs → RK K φ H (fput f d fs) (putF f v gs)
  | [], _, h => by subst h; exact ⟨v, [], rfl, hd, rfl⟩
  | (g, x) :: r, _, ⟨u, q, e, e2, h⟩ => by
    subst e
    unfold Qd.fput putF
    by_cases hg : g = f
    · rw [if_pos hg, if_pos hg]; exact ⟨v, q, rfl, hd, h⟩
    · rw [if_neg hg, if_neg hg]; exact ⟨u, _, rfl, e2, RK.fput hd h⟩
theorem RK.len2 {κ : Type} : ∀ {fs : List (κ × D)} {gs : List (κ × V)}, RK K φ H fs gs → fs.length = gs.length
  | [], _, h => by subst h; rfl
  | (_, _) :: r, _, ⟨u, q, e, _, h⟩ => by subst e; simp [RK.len2 h]
end
/-- o.f -/
def wFld (C : Addr) (f : Str) (o : WE) : WE := fun env S Q X => o env S (fun x S1 => match x with
  | .loc n => ∃ fs d, S1[n]? = some (.ins C fs) ∧ fs.lookup f = some d ∧ Q d S1
  | _ => False) X
/-- o.f = e -/
def wSFld (C : Addr) (f : Str) (o v : WE) : WS := fun G env S X => v env S (fun d S1 => o env S1 (fun x S2 => match x with
  | .loc n => ∃ fs, S2[n]? = some (.ins C fs) ∧ fs.length < 1000 ∧ G.nx env (S2.set n (.ins C (fput f d fs)))
  | _ => False) X) X
/-- o.m(a, ..) -/
def wMeth (C : Addr) (m : Str) (c : Con) (o : WE) (a : WA) : WE := fun env S Q X => o env S (fun x S1 => ∃ n fs, x = .loc n ∧ S1[n]? = some (.ins C fs) ∧ fs.lookup m = none ∧ a env S1 (fun ds S2 => c (x :: ds) S2 Q noX) X) X
/-- C(a, ..) -/
def wMake (C : Addr) (c : Con) (a : WA) : WE := fun env S Q X => a env S (fun ds S1 => c (.loc S1.length :: ds) (S1 ++ [.ins C []]) (fun d S2 => d = .non ∧ Q (.loc S1.length) S2) noX) X
/-- a method, by its contract -/
structure FnM (P : Program) (w : World) (K : PySem.W.Frag) (mg : Str → Option Value) (base : Heap) (k : Nat) (C : Addr) (m : Str) (c : Con) : Prop where
  ex : ∃ (f : Addr) (fd : FuncData) (ps : List Str), FnOk P w K mg base CX0 k f fd ps (spQ K c) ∧ Meth K C m f ∧ Binds K fd ps []
/-- a class that makes instances, by its __init__ -/
structure FnI (P : Program) (w : World) (K : PySem.W.Frag) (mg : Str → Option Value) (base : Heap) (k : Nat) (C : Addr) (x : Str) (c : Con) : Prop where
  ex : ∃ (f : Addr) (fd : FuncData) (ps : List Str), FnOk P w K mg base CX0 k f fd ps (spQ K c) ∧ Mk K C f ∧ mg x = some (.ref C) ∧ Binds K fd ps []
section
variable {X : Cx} {E : XK} {o e value a : Expr} {es : List Expr} {wo wv : WE} {wr : WA} {pos pos' apos p : Pos} {f m x : Str} {C : Addr} {c : Con} {k j : Nat}
theorem q_fld (hc : Cls X.K C) (hn : NoAttr X.K C f) (h : QE X E o wo) (hb : attributeBase o f X.env (eval o X.env) = eval o X.env := by rfl) : QE X E (.Attribute o f pos) (wFld C f wo) := (pe_fld h hb).imp fun σ H Q ⟨φ, env, S, Q', X', rs, re, q, k, x⟩ =>
  ⟨φ, env, S, _, X', rs, re, q, fun d S1 φ1 v H1 e1 rs1 rv1 q1 => by
    cases d <;> first
      | exact False.elim q1
      | skip
    case loc n =>
      obtain ⟨fs, d, hs, hl, q2⟩ := q1
      obtain ⟨a, dx, gs, rfl, _, h2, h3⟩ := rs1.ins rv1 hs
      obtain ⟨u, g1, g2⟩ := h3.look hl
      exact ⟨a, C, dx, gs, u, rfl, h2, hc, hn, g1, (k.mono e1).same rs1 g2 q2⟩, x⟩
theorem q_sfld (hc : Cls X.K C) (hn : NoAttr X.K C f) (h : QE X E o wo) (hv : QE X E value wv) (hs : swapsWith value (some (.Attribute o f pos')) pos.line X.env = pure false := by rfl) : QS X E (.Assign [.Attribute o f pos'] value pos) (wSFld C f wo wv) := (ps_fld h hv hs).imp fun Dn σ H ⟨φ, env, S, G, X', rs, re, q, k, x⟩ =>
  ⟨φ, env, S, _, X', rs, re, q, fun z S1 φ1 w H1 e1 rs1 rv1 q1 => ⟨φ1, env, S1, _, X', rs1, re.mono e1, q1, fun d S2 φ2 v H2 e2 rs2 rv2 q2 => by
    cases d <;> first
      | exact False.elim q2
      | skip
    case loc n =>
      obtain ⟨fs, hs, hl, q3⟩ := q2
      obtain ⟨a, dx, gs, rfl, h1, h2, h3⟩ := rs2.ins rv2 hs
      have e3 := Ext.write (o := .ins C dx (putF f w gs)) rs2 h1 (nt_ins h2)
      have e13 := (e1.trans e2).trans e3
      refine ⟨a, C, dx, gs, rfl, h2, hc, hn, by rw [← h3.len2]; exact hl, k.nx env _ φ2 σ _ e13 (rs2.write (c := .ins C (fput f z fs)) h1 (nt_ins h2) ⟨dx, _, upd_same, ?_⟩) (re.mono e13) q3⟩
      exact (RK.fput (rv1.mono e2) h3).mono e3, x.mono e1⟩, x⟩
theorem meth_lift : ∀ σ H Q, LE X.K E (wMeth C m c wo wr) σ H Q → tMeth C m (spQ X.K c) [] E0 (LE X.K E wo) (LA X.K E wr) σ H Q := fun σ H Q ⟨φ, env, S, Q', X', rs, re, q, k, x⟩ =>
  ⟨φ, env, S, _, X', rs, re, q, fun d S1 φ1 v H1 e1 rs1 rv1 ⟨n, fs, ed, hs, hl, q1⟩ => by
    subst ed
    obtain ⟨a, dx, gs, rfl, h1, h2, h3⟩ := rs1.ins rv1 hs
    refine ⟨a, dx, gs, rfl, h2, h3.lookN hl, φ1, env, S1, _, X', rs1, re.mono e1, q1, fun ds S2 φ2 vs H2 e2 rs2 rv2 q2 => ?_, x.mono e1⟩
    show spQ X.K c (.ref a :: (vs ++ [])) H2 Q E0
    rw [List.append_nil]
    exact ⟨φ2, S2, .loc n :: ds, Q', noX, rs2, ⟨.ref a, vs, rfl, rv1.mono e2, rv2⟩, q2, k.mono (e1.trans e2), XOk.noX⟩, x⟩
theorem q_m {pl : Sem Bool} (hc : Cls X.K C) (F : FnM X.prog X.w X.K X.mg X.base k C m c) (hr : Room j X.A) (hk : k ≤ j) (ho : QE X E o wo) (ha : QA X E (e :: es) wr)
    (hst : starEach (e :: es) X.env = (false, eval e X.env) :: starEach es X.env := by rfl) (hpl : (backTo pos (starEach es X.env)).any (·.1) = false := by rfl)
    (ht : eval (.Call (.Attribute o m apos) (e :: es) [] pos) X.env = (do
      let ov ← eval o X.env
      standAt apos.atName
      let (f, first) ← holding [ov] (getMethod ov m pl)
      callWith pos f first (backTo pos (starEach (e :: es) X.env)) (backToKw pos (keywordEach [] X.env))) := by rfl) : QE X E (.Call (.Attribute o m apos) (e :: es) [] pos) (wMeth C m c wo wr) :=
  let ⟨_, _, _, F, hm, b⟩ := F.ex
  (pe_meth ho hc hm F (hr.mono hk) b .nil pass0 ha hst hpl ht).imp meth_lift
theorem q_m0 {pl : Sem Bool} (hc : Cls X.K C) (F : FnM X.prog X.w X.K X.mg X.base k C m c) (hr : Room j X.A) (hk : k ≤ j) (ho : QE X E o wo)
    (ht : eval (.Call (.Attribute o m apos) [] [] pos) X.env = (do
      let ov ← eval o X.env
      standAt apos.atName
      let (f, first) ← holding [ov] (getMethod ov m pl)
      callWith pos f first (backTo pos (starEach [] X.env)) (backToKw pos (keywordEach [] X.env))) := by rfl) : QE X E (.Call (.Attribute o m apos) [] [] pos) (wMeth C m c wo wNil) :=
  let ⟨_, _, _, F, hm, b⟩ := F.ex
  (pe_meth0 ho hc hm F (hr.mono hk) b .nil pass0 ht).imp fun σ H Q h =>
    let ⟨φ, env, S, Q1, X', rs, re, q, k, x⟩ := meth_lift (m := m) (c := c) σ H Q h
    ⟨φ, env, S, Q1, X', rs, re, q, fun d S1 φ1 v H1 e1 rs1 rv1 q1 =>
      let ⟨a, dx, fs, ea, h1, h2, φ2, env2, S2, Q2, X2, rs2, re2, q2, k2, x2⟩ := k d S1 φ1 v H1 e1 rs1 rv1 q1
      ⟨a, dx, fs, ea, h1, h2, k2 [] S2 φ2 [] H1 rs2.ext rs2 rfl q2⟩, x⟩
theorem make_ok {φ : List Addr} {S : Store} {H : Hp} {K : PySem.W.Frag} (rs : RS K φ S H) {y dx : Addr} (nx : H y = none) (nd : H dx = none) (ne : dx ≠ y) : Ext φ H (φ ++ [y]) (upd (upd H dx (.own y)) y (.ins C dx [])) ∧ RS K (φ ++ [y]) (S ++ [.ins C []]) (upd (upd H dx (.own y)) y (.ins C dx [])) := by
  have n1 : (upd H dx (.own y)) y = none := by rw [upd_ne (Ne.symm ne)]; exact nx
  exact ⟨(Ext.fresh rs nd).trans (Ext.push (rs.fresh nd) n1), (rs.fresh nd).push n1 ⟨dx, [], upd_same, rfl⟩⟩
theorem make_lift : ∀ σ H Q, LE X.K E (wMake C c wr) σ H Q → tMake C (spQ X.K c) [] E0 (LA X.K E wr) σ H Q := fun σ H Q ⟨φ, env, S, Q', X', rs, re, q, k, x⟩ =>
  ⟨φ, env, S, _, X', rs, re, q, fun ds S1 φ1 vs H1 e1 rs1 rv1 q1 y dx nx nd ne => by
    obtain ⟨e2, rs2⟩ := make_ok (C := C) rs1 nx nd ne
    have last : (φ1 ++ [y])[S1.length]? = some y := by rw [← rs1.len, List.getElem?_append_right (Nat.le_refl _), Nat.sub_self]; rfl
    rw [List.append_nil]
    refine ⟨φ1 ++ [y], _, .loc S1.length :: ds, _, noX, rs2, ⟨.ref y, vs, rfl, ⟨y, last, rfl⟩, rv1.mono e2⟩, q1, fun d S3 φ3 v H3 e3 rs3 rv3 ⟨ed, q3⟩ => ?_, XOk.noX⟩
    subst ed
    exact ⟨rv3, k (.loc S1.length) _ φ3 (.ref y) _ ((e1.trans e2).trans e3) rs3 ⟨y, e3.get last, rfl⟩ q3⟩, x⟩
theorem q_mk (F : FnI X.prog X.w X.K X.mg X.base k C x c) (hr : Room j X.A) (hk : k + 1 ≤ j) (hg : Gl X x) (ha : QA X E (e :: es) wr)
    (hdb : (x == ("__debug__" : Str)) = false := by decide) (he : starEach (e :: es) X.env = (false, eval e X.env) :: starEach es X.env := by rfl) (hpl : (backTo pos (starEach es X.env)).any (·.1) = false := by rfl) : QE X E (.Call (.Name x p) (e :: es) [] pos) (wMake C c wr) :=
  let ⟨_, _, _, F, M, hm, b⟩ := F.ex
  (pe_make M F (hr.mono hk) hg hm b .nil pass0 ha hdb he hpl).imp make_lift
theorem q_mk0 (F : FnI X.prog X.w X.K X.mg X.base k C x c) (hr : Room j X.A) (hk : k + 1 ≤ j) (hg : Gl X x) (hdb : (x == ("__debug__" : Str)) = false := by decide) : QE X E (.Call (.Name x p) [] [] pos) (wMake C c wNil) :=
  let ⟨_, _, _, F, M, hm, b⟩ := F.ex
  (pe_make0 M F (hr.mono hk) hg hm b .nil pass0 hdb).imp fun σ H Q h =>
    let ⟨φ, env, S, Q1, X', rs, re, q, k, x⟩ := make_lift (C := C) (c := c) σ H Q h
    k [] S φ [] H rs.ext rs rfl q
end
section
variable {P : Program} {w : World} {K : PySem.W.Frag} {mg : Str → Option Value} {base : Heap}
/-- a method's own rule: as defQ -/
theorem okQ {x qual : Str} {st : Stmt} {f : Addr} {fd : FuncData} {N ps : List Str} {k : Nat} {c : Con} (F : Fun K x qual st f fd) (S : FnScope N ps (defScope st)) (len : ∀ ds S Q X, c ds S Q X → ds.length = ps.length)
    (body : ∀ (cdv : Value) (A : Around) (outer : List Env) (s : Shared) (H : Hp), Room k (A.deeper (envOfC qual (defScope st) s.heap.objs.size f cdv)) →
      ∃ u, QSs (cxOf CX0 P w K mg base N qual (defScope st) f cdv A outer s H E0).nox E0 (defBody st) u ∧ ∀ ds S Q X', c ds S Q X' → u ⟨fun _ S => Q .non S, Q, fun _ _ => False, fun _ _ => False⟩ (startD N.length ds) S noX) :
    FnOk P w K mg base CX0 (k + 1) f fd ps (spQ K c) := by
  refine F.ok S (fun vs H Q E ⟨φ, S, ds, Q', X', rs, rv, q, _⟩ => ?_) (fun cdv A outer s H vs Q E hr ⟨φ, S, ds, Q', X', rs, rv, q, k, x⟩ => ?_)
  · rw [← rv.len]; exact len _ _ _ _ q
  · obtain ⟨u, hu, hv⟩ := body cdv A outer s H hr
    refine ⟨LS K E0 u, ?_, φ, startD N.length ds, S, ⟨fun _ S => Q' .non S, Q', fun _ _ => False, fun _ _ => False⟩, noX, rs, RE.start N rv, hv ds S Q' X' q, ⟨fun env S' φ' σ' H' e rs' re' q' => k .non S' φ' .non H' e rs' rfl q', k, fun _ _ _ _ _ _ _ _ z => z.elim, fun _ _ _ _ _ _ _ _ z => z.elim⟩, XOk.noX⟩
    exact hu
/-- a method that is never called -/
theorem FnM.of {x qual : Str} {st : Stmt} {f : Addr} {fd : FuncData} {ps : List Str} {k : Nat} {C : Addr} {c : Con} (h : FnOk P w K mg base CX0 k f fd ps (spQ K c)) (m : Meth K C x f) (b : Binds K fd ps []) : FnM P w K mg base k C x c := ⟨f, fd, ps, h, m, b⟩
/-- a def that is never called there -/
theorem Fn.never {x : Str} {st : Stmt} {f : Addr} {fd : FuncData} {ps : List Str} (F : Fun K x x st f fd) (hm : mg x = some (.ref f)) (hb : Binds K fd ps []) {k : Nat} : Fn P w K mg base k x (fun _ _ _ _ => False) [] :=
  ⟨f, fd, ps, [], ⟨fun vs H Q E ⟨_, _, _, _, _, _, _, q, _⟩ => q.elim, fun _ _ _ _ _ _ _ _ _ _ _ _ _ ⟨_, _, _, _, _, _, _, q, _⟩ => q.elim⟩, hm, F.kp, hb, .nil⟩
end
end Qd
set_option Elab.async false
set_option linter.all false
set_option maxRecDepth 100000
/-! Layer Q: dicts whose keys are nested tuples. -/
namespace Qd
open PySem PySem.Spec PyProof.Rows L2
section
variable {P : Program} {w : World} {K : PySem.W.Frag} {φ : List Addr} {H : Hp} {h : Heap} {S : Store}
mutual
theorem nestIs (ok : HOk P w H h) : ∀ (k : NestedKey) {v : V} {u : Value}, RV K φ H (kD k) v → RelV v u → NestedIs h k u
  | .none, _, _, hv, ru => by cases hv; cases ru; exact .none
  | .num i, _, _, hv, ru => by cases hv; obtain ⟨t, rfl⟩ := ru; exact .int i t
  | .text x, _, _, hv, ru => by cases hv; obtain ⟨t, rfl⟩ := ru; exact .text x t
  | .tup ks, _, _, hv, ru => by
    obtain ⟨a, xs, rfl, ha, hx⟩ := hv
    cases ru
    obtain ⟨_, its, r2, o, ho, hc, n, hd⟩ := ok a _ ha
    exact .tup ho hc hd (by rw [List.toList_toArray]; exact nestAll ok ks hx r2)
theorem nestAll (ok : HOk P w H h) : ∀ (ks : List NestedKey) {vs : List V} {us : List Value}, RVs K φ H (kDs ks) vs → Vals vs us → NestedAll h ks us
  | [], _, _, hv, ru => by cases hv; cases ru; exact .nil
  | k :: ks, _, _, hv, ru => by
    obtain ⟨x, q, rfl, h1, h2⟩ := hv
    cases ru with
    | cons r1 r2 => exact .cons (nestIs ok k h1 r1) (nestAll ok ks h2 r2)
end
theorem NRs.keys : ∀ {kvs : List (NestedKey × D)} {xs : List (NestedKey × Addr × Value)}, NRs K φ H kvs xs → kvs.map (·.1) = xs.map (·.1)
  | [], _, e => by subst e; rfl
  | (k, d) :: r, _, ⟨b, v, u, q, e, _, _, _, _, _, h⟩ => by subst e; simp [NRs.keys h]
theorem NRs.len {kvs : List (NestedKey × D)} {xs : List (NestedKey × Addr × Value)} (h : NRs K φ H kvs xs) : kvs.length = xs.length := by
  have := congrArg List.length h.keys
  simpa using this
theorem NRs.is (ok : HOk P w H h) : ∀ {kvs : List (NestedKey × D)} {xs : List (NestedKey × Addr × Value)}, NRs K φ H kvs xs → ∀ x ∈ xs, (nestedKind P w).is h x.1 x.2.1
  | [], _, e, x, hx => by subst e; cases hx
  | (k, d) :: r, _, ⟨b, v, u, q, e, e1, _, h1, _, _, hr⟩, x, hx => by
    subst e
    rcases List.mem_cons.mp hx with z | z
    · subst z; exact ⟨nestIs ok k h1 rfl, e1⟩
    · exact NRs.is ok hr x z
theorem NRs.add : ∀ {kvs : List (NestedKey × D)} {xs : List (NestedKey × Addr × Value)} {k : NestedKey} {d : D} {b : Addr} {v : V} {u : Value}, NRs K φ H kvs xs → k.depth ≤ 8 → (∃ ks, k = .tup ks) → RV K φ H (kD k) (.ref b) → RV K φ H d v → RelV v u → NRs K φ H (kvs ++ [(k, d)]) (xs ++ [(k, b, u)])
  | [], _, k, d, b, v, u, e, h1, h2, h3, h4, h5 => by subst e; exact ⟨b, v, u, [], rfl, h1, h2, h3, h4, h5, rfl⟩
  | (_, _) :: r, _, k, d, b, v, u, ⟨b', v', u', q, e, f1, f2, f3, f4, f5, hr⟩, h1, h2, h3, h4, h5 => by
    subst e
    exact ⟨b', v', u', _, rfl, f1, f2, f3, f4, f5, NRs.add hr h1 h2 h3 h4 h5⟩
theorem atKey_mem {xs : List (NestedKey × Addr × Value)} {k : NestedKey} : (atKey xs k).isSome = true ↔ k ∈ xs.map (·.1) := by
  induction xs with
  | nil => simp [atKey]
  | cons x xs ih =>
    by_cases hk : x.1 = k
    · simp [atKey, hk]
    · have : k ≠ x.1 := fun e => hk e.symm
      simpa [atKey, hk, this] using ih
theorem stored_new {xs : List (NestedKey × Addr × Value)} {k : NestedKey} {a : Addr} {v : Value} (h : k ∉ xs.map (·.1)) : storedH xs k a v = xs ++ [(k, a, v)] := by
  unfold storedH
  rw [if_neg]
  intro z
  exact h (atKey_mem.mp z)
theorem ndo_new {a : Addr} {xs : List (NestedKey × Addr × Value)} (x : h.DictOfH (nestedKind P w) a xs) : ObjOk P w H h a (NdO P w a xs) := by
  obtain ⟨o, es, ep, h1, h2, h3, h4, _, h5⟩ := x
  exact ⟨⟨o, es, ep, h1, h2, h3, h4, h5⟩, ⟨o, h1⟩, fun h1 h2 ⟨o, es, ep, g1, g2⟩ k => ⟨o, es, ep, k o g1, g2⟩⟩
theorem RS.dN (r : RS K φ S H) {n : Nat} {kvs : List (NestedKey × D)} {v : V} (rv : RV K φ H (.loc n) v) (e : S[n]? = some (.dN P w kvs)) : ∃ a xs, v = .ref a ∧ φ[n]? = some a ∧ H a = some (NdO P w a xs) ∧ (a == sysModules) = false ∧ xs.length ≤ sizeLine ∧ NRs K φ H kvs xs := by
  obtain ⟨a, h1, rfl⟩ := rv
  obtain ⟨xs, h2, h3, h4, h5⟩ := r.here n a _ h1 e
  exact ⟨a, xs, rfl, h1, h2, h3, h4, h5⟩
theorem nt_nd {p a : Addr} {xs : List (NestedKey × Addr × Value)} (e : H p = some (NdO P w a xs)) : Nt H p := by
  unfold NdO at e
  exact ⟨fun ys z => (by rw [e] at z; cases z), fun o u z => (by rw [e] at z; cases z)⟩
end
/-- k not in d -/
def wNNin (P : Program) (w : World) (b a : WE) : WE := fun env S Q X => b env S (fun y S1 => a env S1 (fun x S2 => ∃ n kvs k, x = .loc n ∧ S2[n]? = some (.dN P w kvs) ∧ y = kD k ∧ k.depth ≤ 8 ∧ (∃ ks, k = .tup ks) ∧ Q (.bl (!decide (k ∈ kvs.map (·.1)))) S2) X) X
/-- d[k] = v, k not in d -/
def wNPut (P : Program) (w : World) (d k v : WE) : WS := fun G env S X => v env S (fun z S1 => d env S1 (fun x S2 => k env S2 (fun y S3 => ∃ n kvs k, x = .loc n ∧ S3[n]? = some (.dN P w kvs) ∧ y = kD k ∧ k.depth ≤ 8 ∧ (∃ ks, k = .tup ks) ∧ k ∉ kvs.map (·.1) ∧ kvs.length < lineD ∧ G.nx env (S3.set n (.dN P w (kvs ++ [(k, z)])))) X) X) X
section
variable {X : Cx} {E : XK} {o i value : Expr} {wo wi wv : WE} {pos pos' : Pos} {td ty tv : TE}
/-- what the rules ask of dict and key -/
def NAt (X : Cx) (H : Hp) (a b : Addr) (k : NestedKey) (xs : List (NestedKey × Addr × Value)) : Prop := H a = some (NdO X.prog X.w a xs) ∧ (a == sysModules) = false ∧ xs.length ≤ sizeLine ∧ ∀ h, HOk X.prog X.w H h → (nestedKind X.prog X.w).is h k b ∧ ∀ x ∈ xs, (nestedKind X.prog X.w).is h x.1 x.2.1
theorem NAt.dict {pins : List (Addr × Obj)} {σ : L2.St} {H : Hp} {s : Shared} {a b : Addr} {k : NestedKey} {xs : List (NestedKey × Addr × Value)} (I : Inv X pins σ H s) (n : NAt X H a b k xs) : s.heap.DictOfH (nestedKind X.prog X.w) a xs := by
  obtain ⟨⟨o, es, ep, h1, h2, h3, h4, h5⟩, _⟩ := I.hok a _ n.1
  exact ⟨o, es, ep, h1, h2, h3, h4, (n.2.2.2 _ I.hok).2, h5⟩
def tNNin (X : Cx) (ty td : TE) : TE := fun σ H Q => ty σ H fun y H1 => td σ H1 fun x H2 => ∃ a b k xs, x = .ref a ∧ y = .ref b ∧ NAt X H2 a b k xs ∧ Q (.bl (!(atKey xs k).isSome)) H2
theorem pc_nnin (hu : X.A.units + 64 < cLine) (hi : PE X i ty) (ho : PE X o td) : PC X .NotIn i o (tNNin X ty td) := by
  refine ⟨fun pins s σ H Q I h => ?_⟩
  refine thn (hi.run pins s σ H _ I h) fun iv s1 ⟨y, H1, I1, ry, q1⟩ => thn (ho.run pins s1 σ H1 _ I1 q1) fun u s2 ⟨x, H2, I2, rx, a, b, k, xs, ex, ey, n, q2⟩ => ?_
  subst ex ey
  obtain rfl : u = Value.ref a := rx
  obtain rfl : iv = Value.ref b := ry
  refine wpAny_notIn_heap (knd := nestedKind X.prog X.w) (by show X.A.units + 1 + 8 < cLine; omega) (n.2.2.2 _ I2.hok).1 n.2.1 (n.dict I2) ?_
  exact ⟨.bl (!(atKey xs k).isSome), H2, I2.tok _, rfl, q2⟩
def tNPut (X : Cx) (td ty tv : TE) : TS := fun D σ H => tv σ H fun v H1 => td σ H1 fun x H2 => ty σ H2 fun y H3 => ∃ a b k xs, x = .ref a ∧ y = .ref b ∧ NAt X H3 a b k xs ∧ k ∉ xs.map (·.1) ∧ ∀ r, RelV v r → D.nx σ (upd H3 a (NdO X.prog X.w a (xs ++ [(k, b, r)])))
theorem ps_nput (hu : X.A.units + 64 < cLine) (ho : PE X o td) (hi : PE X i ty) (hv : PE X value tv) (hs : swapsWith value (some (.Subscript o i pos')) pos.line X.env = pure false) : PS X (.Assign [.Subscript o i pos'] value pos) (tNPut X td ty tv) := by
  refine ⟨fun pins s σ H D I h => ?_⟩
  refine wpAny_Assign_Subscript (thn (hv.run pins s σ H _ I h) fun r s1 ⟨v, H1, I1, rv, q1⟩ => thn (ho.run pins s1 σ H1 _ I1 q1) fun u s2 ⟨x, H2, I2, rx, q2⟩ => thn (hi.run pins s2 σ H2 _ I2 q2) fun iv s3 ⟨y, H3, I3, ry, a, b, k, xs, ex, ey, n, nk, q3⟩ => ?_) hs
  subst ex ey
  obtain rfl : u = Value.ref a := rx
  obtain rfl : iv = Value.ref b := ry
  refine wpAny_setItem_heap (hsz := n.2.2.1) (knd := nestedKind X.prog X.w) (by show X.A.units + 1 + 8 < cLine; omega) (n.2.2.2 _ I3.hok).1 (n.dict I3) fun h' dd' hs' => ?_
  rw [stored_new nk] at dd'
  refine ⟨σ, _, d_write I3 (by rw [n.1]; exact True.intro) hs' (let ⟨o, _, _, ho, _⟩ := dd'; ⟨o, ho⟩) (ndo_new dd'), q3 r rv⟩
theorem nat_of {K : PySem.W.Frag} {φ : List Addr} {H : Hp} {S : Store} {d y : D} {v u : V} {n : Nat} {kvs : List (NestedKey × D)} {k : NestedKey} (hK : X.K = K) (rs : RS K φ S H) (rd : RV K φ H d v) (ry : RV K φ H y u) (ed : d = .loc n) (e : S[n]? = some (.dN X.prog X.w kvs)) (ey : y = kD k) (h8 : k.depth ≤ 8) (hk : ∃ ks, k = .tup ks) :
    ∃ a b xs, v = .ref a ∧ u = .ref b ∧ φ[n]? = some a ∧ NAt X H a b k xs ∧ NRs K φ H kvs xs ∧ RV K φ H (kD k) (.ref b) := by
  subst ed ey
  obtain ⟨a, xs, rfl, h1, h2, h3, h4, h5⟩ := rs.dN rd e
  obtain ⟨ks, rfl⟩ := hk
  obtain ⟨b, ys, rfl, _⟩ := id ry
  exact ⟨a, b, xs, rfl, rfl, h1, ⟨h2, h3, h4, fun h ok => ⟨⟨nestIs ok _ ry rfl, h8⟩, h5.is ok⟩⟩, h5, ry⟩
theorem nnin_lift : ∀ σ H Q, LE X.K E (wNNin X.prog X.w wi wo) σ H Q → tNNin X (LE X.K E wi) (LE X.K E wo) σ H Q := fun σ H Q ⟨φ, env, S, Q', X', rs, re, q, k, x⟩ =>
  ⟨φ, env, S, _, X', rs, re, q, fun y S1 φ1 u H1 e1 rs1 rv1 q1 => ⟨φ1, env, S1, _, X', rs1, re.mono e1, q1, fun d S2 φ2 v H2 e2 rs2 rv2 ⟨n, kvs, key, ed, hs, ey, h8, hk, q3⟩ => by
    obtain ⟨a, b, xs, rfl, rfl, h1, na, nr, _⟩ := nat_of rfl rs2 rv2 (rv1.mono e2) ed hs ey h8 hk
    refine ⟨a, b, key, xs, rfl, rfl, na, (k.mono (e1.trans e2)).same rs2 (d := .bl _) rfl ?_⟩
    have e : (atKey xs key).isSome = decide (key ∈ kvs.map (·.1)) := by
      rw [nr.keys]
      by_cases hm : key ∈ xs.map (·.1)
      · rw [decide_eq_true hm]; exact atKey_mem.mpr hm
      · rw [decide_eq_false hm]
        cases z : (atKey xs key).isSome with
        | false => rfl
        | true => exact absurd (atKey_mem.mp z) hm
    rw [e]
    exact q3, x.mono e1⟩, x⟩
theorem q_nnin (hu : X.A.units + 64 < cLine) (hi : QE X E i wi) (ho : QE X E o wo) (h1 : behindInMarks .NotIn o = false := by rfl) : QE X E (.Compare i [.NotIn] [o] pos) (wNNin X.prog X.w wi wo) := (pe_cmp (pc_nnin hu hi ho) h1).imp nnin_lift
theorem qt_nnin (hu : X.A.units + 64 < cLine) (hi : QE X E i wi) (ho : QE X E o wo) (h1 : behindInMarks .NotIn o = false := by rfl) : QT X E (.Compare i [.NotIn] [o] pos) (wTest (wNNin X.prog X.w wi wo)) := (pt_cmp (pc_nnin hu hi ho) h1).imp fun σ H Q q => nnin_lift σ H _ (test_lift σ H Q q)
theorem q_nput (hu : X.A.units + 64 < cLine) (ho : QE X E o wo) (hi : QE X E i wi) (hv : QE X E value wv) (hs : swapsWith value (some (.Subscript o i pos')) pos.line X.env = pure false := by rfl) : QS X E (.Assign [.Subscript o i pos'] value pos) (wNPut X.prog X.w wo wi wv) := (ps_nput hu ho hi hv hs).imp fun Dn σ H ⟨φ, env, S, G, X', rs, re, q, k, x⟩ =>
  ⟨φ, env, S, _, X', rs, re, q, fun z S1 φ1 w H1 e1 rs1 rv1 q1 => ⟨φ1, env, S1, _, X', rs1, re.mono e1, q1, fun d S2 φ2 v H2 e2 rs2 rv2 q2 => ⟨φ2, env, S2, _, X', rs2, re.mono (e1.trans e2), q2, fun y S3 φ3 u H3 e3 rs3 rv3 ⟨n, kvs, key, ed, hs', ey, h8, hk, nk, hl, q4⟩ => by
    obtain ⟨a, b, xs, rfl, rfl, h1, na, nr, rk⟩ := nat_of rfl rs3 (rv2.mono e3) rv3 ed hs' ey h8 hk
    refine ⟨a, b, key, xs, rfl, rfl, na, by rw [← nr.keys]; exact nk, fun r rr => ?_⟩
    have nt := nt_nd na.1
    have e4 := Ext.write (o := NdO X.prog X.w a (xs ++ [(key, b, r)])) rs3 h1 nt
    have e14 := ((e1.trans e2).trans e3).trans e4
    have hz : xs.length < lineD := by rw [← nr.len]; exact hl
    refine k.nx env _ φ3 σ _ e14 (rs3.write (c := .dN X.prog X.w (kvs ++ [(key, z)])) h1 nt ⟨_, upd_same, na.2.1, ?_, ?_⟩) (re.mono e14) q4
    · rw [List.length_append, ← lineD_eq]; exact hz
    · exact (nr.add h8 hk rk (rv1.mono (e2.trans e3)) rr).mn e4.mn, x.mono (e1.trans e2)⟩, x.mono e1⟩, x⟩
/-- {}, to be such a dict -/
theorem q_dnewN : QE X E (.Dict [] [] pos) (wDNew (.dN X.prog X.w [])) := by
  refine ⟨fun pins s σ H Q I ⟨φ, env, S, Q', X', rs, re, q, k, x⟩ => ?_⟩
  refine wpAny_Dict_empty ⟨.ref s.heap.objs.size, _, I.laid (a := s.heap.objs.size) (o := NdO X.prog X.w s.heap.objs.size []) (t' := s.toks) (fun _ _ q => Heap.get?_push_of_some _ q) (Nat.le_refl _) (ndo_new (Heap.DictOfH.new s.heap)), rfl, ?_⟩
  refine new_ok (c := .dN X.prog X.w []) k rs (I.hok.fresh (Nat.le_refl _)) ⟨[], upd_same, beq_eq_false_iff_ne.mpr (Ne.symm (Nat.ne_of_lt I.big)), Nat.zero_le _, rfl⟩ q
end
end Qd
set_option Elab.async false
set_option linter.all false
set_option maxRecDepth 100000
/-! Layer Q: walks over dicts, and their methods. -/
namespace Qd
open PySem PySem.Spec PyProof.Rows L2
def keyKD : Key → D
  | .inl i => .int i
  | .inr x => .str x
section
variable {K : PySem.W.Frag} {φ φ' : List Addr} {H H' : Hp} {S : Store}
theorem RV.keyKD (k : Key) : RV K φ H (Qd.keyKD k) (kV k) := by cases k <;> rfl
theorem RVs.keyKD : ∀ {kvs : List (Key × D)} {ys : List (Key × V)}, RK K φ H kvs ys → RVs K φ H (kvs.map fun p => Qd.keyKD p.1) (ys.map fun p => kV p.1)
  | [], _, h => by subst h; rfl
  | (k, d) :: r, _, ⟨v, q, e, _, h⟩ => by subst e; exact ⟨kV k, _, rfl, RV.keyKD k, RVs.keyKD h⟩
theorem RK.get {κ : Type} : ∀ {kvs : List (κ × D)} {ys : List (κ × V)} {i : Nat} {k : κ} {d : D}, RK K φ H kvs ys → kvs[i]? = some (k, d) → ∃ v, ys[i]? = some (k, v) ∧ RV K φ H d v
  | [], _, _, _, _, _, e => by simp at e
  | (a, x) :: r, _, 0, k, d, ⟨v, q, e, e2, h⟩, g => by subst e; cases g; exact ⟨v, rfl, e2⟩
  | (a, x) :: r, _, i + 1, k, d, ⟨v, q, e, e2, h⟩, g => by
    subst e
    have g' : r[i]? = some (k, d) := by simpa using g
    obtain ⟨v', h1, h2⟩ := RK.get h g'
    exact ⟨v', by simpa using h1, h2⟩
theorem Ext.unlock {n : Nat} {a : Addr} {od : Obj} {u : HO} (h1 : φ[n]? = some a) (h2 : H a = some u) (nt : Nt H a) (e : Ext φ (upd H a (.frz od u)) φ' H') : Ext φ H φ' (upd H' a u) := by
  refine ⟨?_, fun b o nb hb => ?_, fun b xs hb => ?_, fun b hb => ?_, fun b o w hb => ?_⟩
  · obtain ⟨ψ, e1, e2⟩ := e.pre
    refine ⟨ψ, e1, fun b hb => ?_⟩
    have z := e2 b hb
    by_cases q : b = a
    · subst q; rw [upd_same] at z; cases z
    · rw [upd_ne q] at z; exact z
  · have q : b ≠ a := fun z => nb (z ▸ List.mem_of_getElem? h1)
    rw [upd_ne q]; exact e.keep b o nb (by rw [upd_ne q]; exact hb)
  · have q : b ≠ a := fun z => nt.1 xs (z ▸ hb)
    rw [upd_ne q]; exact e.tups b xs (by rw [upd_ne q]; exact hb)
  · by_cases q : b = a
    · subst q; rw [upd_same]; exact fun z => by cases z
    · rw [upd_ne q]; exact e.dom b hb
  · have q : b ≠ a := fun z => nt.2 o w (z ▸ hb)
    rw [upd_ne q]; exact e.frzs b o w (by rw [upd_ne q]; exact hb)
theorem RE.mn {env : Slots} {σ : L2.St} (r : RE K φ H env σ) (e : Mn φ H φ' H') : RE K φ' H' env σ := ⟨r.len, fun i d h => let ⟨v, p1, p2⟩ := r.here i d h; ⟨v, p1, p2.mn e⟩⟩
end
/-- the statement runs while the dict is locked -/
def wLock (w : WS) : WS := fun G env S _ => ∃ n kvs, S[n]? = some (.dK true kvs) ∧
  w ⟨fun e s => s[n]? = some (.dK false kvs) ∧ G.nx e (s.set n (.dK true kvs)), fun d s => s[n]? = some (.dK false kvs) ∧ G.rt d (s.set n (.dK true kvs)), fun e s => s[n]? = some (.dK false kvs) ∧ G.bk e (s.set n (.dK true kvs)), fun e s => s[n]? = some (.dK false kvs) ∧ G.ct e (s.set n (.dK true kvs))⟩ env (S.set n (.dK false kvs)) noX
/-- d.items(), d locked -/
def iItm (a : WE) : WI := fun env S R X => a env S (fun d S1 => match d with
  | .loc n => ∃ kvs, S1[n]? = some (.dK false kvs) ∧ R (kvs.map fun p => .tup [keyKD p.1, p.2]) (fun s => s[n]? = some (.dK false kvs)) S1
  | _ => False) X
/-- len(d) -/
def fLenD : WOn := fun ds S Q => match ds with
  | [.loc n] => ∃ kvs, S[n]? = some (.dK true kvs) ∧ Q (.int kvs.length) S
  | _ => False
/-- list(d) -/
def fListD : WOn := fun ds S Q => match ds with
  | [.loc n] => ∃ w kvs, S[n]? = some (.dK w kvs) ∧ Q (.loc S.length) (S ++ [.lst true (kvs.map fun p => keyKD p.1)])
  | _ => False
/-- d.pop(k), k there -/
def wDPop (o a : WE) : WE := fun env S Q X => o env S (fun x S1 => ∃ n w kvs0, x = .loc n ∧ S1[n]? = some (.dK w kvs0) ∧ a env S1 (fun y S2 => ∃ kvs k d, S2[n]? = some (.dK true kvs) ∧ keyD y = some k ∧ val kvs k = some d ∧ Q d (S2.set n (.dK true (cut kvs k)))) X) X
/-- d.clear() -/
def wDClr (o : WE) : WE := fun env S Q X => o env S (fun x S1 => ∃ n kvs, x = .loc n ∧ S1[n]? = some (.dK true kvs) ∧ Q .non (S1.set n (.dK true []))) X
theorem ro_lenD {K : PySem.W.Frag} : ROn K (fun xs H Q => ∃ a kvs, xs = [V.ref a] ∧ H a = some (.dK kvs) ∧ Q (.int kvs.length) H) fLenD := by
  intro φ S H ds vs Q Q' r hv h k
  unfold fLenD at h
  split at h
  · obtain ⟨v, rfl, h1⟩ := hv.one
    obtain ⟨kvs, e, q⟩ := h
    obtain ⟨a, ys, rfl, _, _, h3, h4⟩ := r.dK h1 e
    refine ⟨a, ys, rfl, h4 rfl, k.same r (d := .int kvs.length) ?_ q⟩
    show V.int _ = V.int _
    rw [h3.len]
  · exact h.elim
theorem ro_listD {K : PySem.W.Frag} : ROn K (fun xs H Q => ∃ (a : Addr) (kvs : List (Key × V)), xs = [.ref a] ∧ Rd H a (.dK kvs) ∧ ∀ p, H p = none → Q (.ref p) (upd H p (.lst (kvs.map fun kv => kV kv.1)))) fListD := by
  intro φ S H ds vs Q Q' r hv h k
  unfold fListD at h
  split at h
  · obtain ⟨v, rfl, h1⟩ := hv.one
    obtain ⟨w, kvs, e, q⟩ := h
    obtain ⟨a, ys, rfl, _, h2, h3, _⟩ := r.dK h1 e
    exact ⟨a, ys, rfl, h2, fun p hp => k.lst r (RVs.keyKD h3) q hp⟩
  · exact h.elim
section
variable {X : Cx} {E : XK} {o e tg : Expr} {st : Stmt} {wo wa : WE} {w : WS} {apos cpos : Pos}
theorem q_lock (h : QS X E st w) : QS X E st (wLock w) := (ps_lock h).imp fun Dn σ H ⟨φ, env, S, G, X', rs, re, ⟨n, kvs, hs, q⟩, k, x⟩ => by
  have hn : n < φ.length := by rw [rs.len]; exact (List.getElem?_eq_some_iff.mp hs).1
  have h1 : φ[n]? = some φ[n] := List.getElem?_eq_getElem hn
  obtain ⟨a, ha⟩ : ∃ a, a = φ[n] := ⟨_, rfl⟩
  rw [← ha] at h1
  obtain ⟨ys, h2, h3⟩ := rs.here n a _ h1 hs
  rw [if_pos rfl] at h2
  have nt := nt_dK h2
  refine ⟨a, _, h2, True.intro, fun od => ?_⟩
  have ew := Ext.write (o := .frz od (.dK ys)) rs h1 nt
  have back : ∀ {S' φ' H'}, Ext φ (upd H a (.frz od (.dK ys))) φ' H' → RS X.K φ' S' H' → H' a = some (.frz od (.dK ys)) ∧ Ext φ H φ' (upd H' a (.dK ys)) ∧ RS X.K φ' (S'.set n (.dK true kvs)) (upd H' a (.dK ys)) ∧ Mn φ' H' φ' (upd H' a (.dK ys)) := fun {S' φ' H'} e r => by
    have z := e.frzs a od _ upd_same
    have eu := e.unlock h1 h2 nt
    have nt' : ∀ xs, ¬ H' a = some (.tup xs) := fun xs q => by rw [z] at q; cases q
    exact ⟨z, eu, r.write' (c := .dK true kvs) (e.get h1) nt' ⟨ys, by rw [if_pos rfl]; exact upd_same, h3.mono eu⟩, Mn.write (e.get h1) nt'⟩
  refine ⟨φ, env, _, _, noX, rs.write (c := .dK false kvs) h1 nt ⟨ys, by rw [if_neg (by decide)]; exact ⟨od, upd_same⟩, h3.mono ew⟩, re.mono ew, q, ⟨?_, ?_, ?_, ?_⟩, XOk.noX⟩
  · intro env' S' φ' σ' H' e' rs' re' ⟨_, q'⟩
    obtain ⟨b1, b2, b3, b4⟩ := back e' rs'
    exact ⟨b1, k.nx env' _ φ' σ' _ b2 b3 (re'.mn b4) q'⟩
  · intro d S' φ' v H' e' rs' rv' ⟨_, q'⟩
    obtain ⟨b1, b2, b3, b4⟩ := back e' rs'
    exact ⟨b1, k.rt d _ φ' v _ b2 b3 (rv'.mn b4) q'⟩
  · intro env' S' φ' σ' H' e' rs' re' ⟨_, q'⟩
    obtain ⟨b1, b2, b3, b4⟩ := back e' rs'
    exact ⟨b1, k.bk env' _ φ' σ' _ b2 b3 (re'.mn b4) q'⟩
  · intro env' S' φ' σ' H' e' rs' re' ⟨_, q'⟩
    obtain ⟨b1, b2, b3, b4⟩ := back e' rs'
    exact ⟨b1, k.ct env' _ φ' σ' _ b2 b3 (re'.mn b4) q'⟩
theorem qi_items {elts : List Expr} {kk : Nat} {tpos : Pos} (h : QE X E e wa) (hbase : attributeBase e "items" X.env (eval e X.env) = eval e X.env := by rfl) (hline : (apos.endLine == cpos.line) = true := by rfl) :
    QI X E (.Tuple elts kk tpos) (.Call (.Attribute e "items" apos) [] [] cpos) (iItm wa) := (pi_items h hbase hline).imp fun σ H R ⟨φ, env, S, R', X', rs, re, q, k, x⟩ =>
  ⟨φ, env, S, _, X', rs, re, q, fun d S1 φ1 v H1 e1 rs1 rv1 q1 => by
    cases d <;> first
      | exact False.elim q1
      | skip
    case loc n =>
      obtain ⟨kvs, hs, q2⟩ := q1
      obtain ⟨a, h1, rfl⟩ := rv1
      obtain ⟨ys, h2, h3⟩ := rs1.here n a _ h1 hs
      rw [if_neg (by decide)] at h2
      obtain ⟨od, h2⟩ := h2
      refine ⟨a, od, ys, rfl, h2, k _ _ S1 φ1 H1 (Iti a od ys) e1 rs1 (fun φ2 S2 H2 i e2 rs2 st => ?_) q2⟩
      have h4 := e2.frzs a od _ h2
      have hl := h3.len2
      refine ⟨fun hi => ⟨h4, by rw [← hl]; simpa using hi⟩, fun d hd => ?_⟩
      rw [List.getElem?_map] at hd
      cases hr : kvs[i]? with
      | none => rw [hr] at hd; cases hd
      | some p =>
        rw [hr] at hd
        cases hd
        obtain ⟨key, d0⟩ := p
        obtain ⟨z, hz, rz⟩ := h3.get hr
        refine ⟨⟨h4, (List.getElem?_eq_some_iff.mp hz).1⟩, fun y H' ⟨T, key', v', hkv, ey, hT, eH⟩ => ?_⟩
        rw [hz] at hkv
        cases hkv
        subst ey eH
        have ex := Ext.fresh (o := .tup [kV key, z]) rs2 hT
        exact ⟨ex, rs2.fresh hT, T, _, rfl, upd_same, _, _, rfl, RV.keyKD key, _, _, rfl, (rz.mono e2).mono ex, rfl⟩, x⟩
theorem q_dpop1 (ho : QE X E o wo) (he : QE X E e wa) (m : M1 X o "pop" apos e cpos := by exact ⟨rfl, rfl, rfl, rfl⟩) : QE X E (.Call (.Attribute o "pop" apos) [e] [] cpos) (wDPop wo wa) := (pe_dpop1 ho he m).imp fun σ H Q ⟨φ, env, S, Q', X', rs, re, q, k, x⟩ =>
  ⟨φ, env, S, _, X', rs, re, q, fun d S1 φ1 v H1 e1 rs1 rv1 ⟨n, w0, kvs0, ed, hs, q1⟩ => by
    subst ed
    obtain ⟨a, ys, rfl, g0, g1, _, _⟩ := rs1.dK rv1 hs
    refine ⟨a, rfl, .inl ⟨ys, g1⟩, φ1, env, S1, _, X', rs1, re.mono e1, q1, fun y S2 φ2 u H2 e2 rs2 rv2 ⟨kvs, key, d, hs2, hk, hv, q2⟩ => ?_, x.mono e1⟩
    obtain ⟨a', zs, ea, h0, h1, h2, h3⟩ := rs2.dK (rv1.mono e2) hs2
    cases ea
    have hv2 := h2.val key
    rw [hv] at hv2
    obtain ⟨z, hz, rz⟩ := hv2
    refine ⟨zs, key, z, h3 rfl, rv2.key hk, hz, ?_⟩
    have e3 := Ext.write (o := .dK (dropK zs key)) rs2 h0 (nt_dK (h3 rfl))
    exact k d _ φ2 z _ ((e1.trans e2).trans e3) (rs2.write (c := .dK true (cut kvs key)) h0 (nt_dK (h3 rfl)) ⟨_, by rw [if_pos rfl]; exact upd_same, (h2.cut key).mono e3⟩) (rz.mono e3) q2, x⟩
theorem q_dclear (ho : QE X E o wo) (hbase : attributeBase o "clear" X.env (eval o X.env) = eval o X.env := by rfl) (hline : (apos.endLine == cpos.line) = true := by rfl) : QE X E (.Call (.Attribute o "clear" apos) [] [] cpos) (wDClr wo) := (pe_dclear ho hbase hline).imp fun σ H Q ⟨φ, env, S, Q', X', rs, re, q, k, x⟩ =>
  ⟨φ, env, S, _, X', rs, re, q, fun d S1 φ1 v H1 e1 rs1 rv1 ⟨n, kvs, ed, hs, q1⟩ => by
    subst ed
    obtain ⟨a, ys, rfl, h0, h1, h2, h3⟩ := rs1.dK rv1 hs
    have e3 := Ext.write (o := .dK []) rs1 h0 (nt_dK (h3 rfl))
    exact ⟨.inr (.inr (.inl ⟨rfl, .inl ⟨ys, h3 rfl⟩⟩)), a, ys, rfl, rfl, h3 rfl, k .non _ φ1 .non _ (e1.trans e3) (rs1.write (c := .dK true []) h0 (nt_dK (h3 rfl)) ⟨[], by rw [if_pos rfl]; exact upd_same, rfl⟩) rfl q1⟩, x⟩
end
end Qd
set_option Elab.async false
set_option linter.all false
set_option maxRecDepth 100000
set_option maxHeartbeats 1000000
/-! Layer Q: a pair turned about; list(zip(t, u)) of two tuples. -/
namespace Qd
open PySem PySem.Spec PyProof.Rows L2 HT
section
variable {prog : Program} {w : World} {A : Around} {E : Value → Shared → Prop} {s : Shared}
theorem pair_back {t sl : Addr} {a b vl vu vs : Value} {Q : Value → Shared → Prop} (ht : IsTup s.heap t #[a, b]) (hs : s.heap.IsSliceOf sl vl vu vs) (pl : IsPart vl none) (pu : IsPart vu none) (ps : IsPart vs (some (-1)))
    (h : Q (.ref s.heap.objs.size) { s with heap := s.heap.push { cls := .type "tuple", data := .seq #[b, a] } }) : wpAny (model prog w) A (getItem (.ref t) (.ref sl)) Q E s := by
  obtain ⟨os, hos, hcs, hds⟩ := id hs
  have hTs : s.TypeIs (.ref sl) "slice" := ⟨os, hos, hcs⟩
  unfold getItem
  try with_reducible refine wpAny_holding ?_
  first | refine wpAny_bind (wpAny_pure ?_) | skip
  refine wpAny_bind (wpAny_sequenceKey ht.typeIs (by decide) ?_)
  refine wpAny_bind (wpAny_callSpecial?_slot (name := Str.ofString "__getitem__") ht.typeIs PyProof.Rows.slot_tuple_getitem
    (wpAny_call_entry PyProof.Rows.slot_tuple_getitem ht.typeIs entry_tuple_getitem ?_ (args_tuple_getitem _ _)))
  show wpAny _ _ (Builtin.Tuple.tupleItemsOf (.ref t) >>= _) _ _ s
  refine wpAny_bind (tupleItemsOf_ ht ?_)
  refine wpAny_bind (wpAny_typeOf hTs ?_)
  rw [if_pos (by decide)]
  have sa : ∀ {Q : Int × Int × Nat → Shared → Prop} {E : Value → Shared → Prop} {A : Around}, Q (1, -1, 2) s → wpAny (model prog w) A (Builtin.Slice.sliceApplied (.ref sl) (pure ((#[a, b] : Array Value).size : Int))) Q E s := fun {Q E A} q => by
    unfold Builtin.Slice.sliceApplied Builtin.Slice.sliceFields
    refine wpAny_bind (wpAny_bind (wpAny_field hos hds (x := vl) rfl (wpAny_bind (wpAny_field hos hds (x := vu) rfl (wpAny_bind (wpAny_field hos hds (x := vs) rfl (wpAny_pure ?_)))))))
    refine wpAny_bind (slicePart_ ps ?_)
    show wpAny _ _ (if ((-1 : Int) == 0) = true then _ else _) _ _ s
    rw [if_neg (by decide)]
    refine wpAny_bind (slicePart_ pl (wpAny_bind (slicePart_ pu (wpAny_bind (wpAny_pure ?_)))))
    show wpAny _ _ (match Builtin.Slice.sliceAdjust none none (-1) (2 : Int) with | (lo, hi) => pure (lo, (-1 : Int), Builtin.Slice.slicePlaces lo hi (-1))) _ _ s
    rw [show Builtin.Slice.sliceAdjust none none (-1) (2 : Int) = (1, -1) by decide]
    show wpAny _ _ (pure ((1 : Int), (-1 : Int), Builtin.Slice.slicePlaces 1 (-1) (-1))) _ _ s
    rw [show Builtin.Slice.slicePlaces 1 (-1) (-1) = 2 by decide]
    exact wpAny_pure q
  refine wpAny_bind (sa ?_)
  show wpAny _ _ (if ((1 : Int) == 0 && (-1 : Int) == 1 && (2 : Nat) == (#[a, b] : Array Value).size) = true then _ else _) _ _ s
  rw [if_neg (by simp)]
  have pk : ((List.range 2).filterMap fun (k : Nat) => (#[a, b] : Array Value)[((1 : Int) + (k : Int) * (-1)).toNat]?).toArray = #[b, a] := rfl
  rw [pk]
  have ok : sizeOk (.seq #[b, a]) := by show (2 : Nat) ≤ sizeLine; rw [sizeLine_eq]; decide
  first
    | exact wpAny_bind (m := Builtin.Tuple.tupleExact _) (wpAny_newObj_type (wpAny_pure ⟨_, rfl, wpAny_pure h⟩) ok)
    | exact wpAny_bind (m := Builtin.Tuple.tupleExact _) (wpAny_newObj_type (wpAny_bind (wpAny_pure (wpAny_pure ⟨_, rfl, wpAny_pure h⟩))) ok)
    | exact wpAny_bind (wpAny_bind (m := Builtin.Tuple.tupleExact _) (wpAny_newObj_type (wpAny_pure (wpAny_pure ⟨_, rfl, wpAny_pure h⟩)) ok))
    | exact wpAny_bind (wpAny_bind (m := Builtin.Tuple.tupleExact _) (wpAny_newObj_type (wpAny_pure ⟨_, rfl, wpAny_pure h⟩) ok))
end
/-- p[::-1], p a pair -/
def tRevP (K : PySem.W.Frag) (te : TE) : TE := fun σ H Q => te σ H fun x H1 => ∃ a y z, x = .ref a ∧ SqT K H1 a [y, z] ∧ ∀ p, H1 p = none → Q (.ref p) (upd H1 p (.tup [z, y]))
theorem pe_revP {X : Cx} {e : Expr} {te : TE} {k : Nat} {p1 p2 p3 pos : Pos} (he : PE X e te) : PE X (.Subscript e (.Slice none none (some (.UnaryOp .USub (.Constant (.int 1) k p1) p2)) p3) pos) (tRevP X.K te) := by
  refine ⟨fun pins s σ H Q I h => ?_⟩
  refine Subscript_ (thn (he.run pins s σ H _ I h) fun v s1 ⟨x, H1, I1, r1, q1⟩ => ?_)
  obtain ⟨a, y, z, ex, hx, q⟩ := q1
  subst ex
  cases r1
  have hst : PO X (some (.UnaryOp .USub (.Constant (.int 1) k p1) p2)) (tPart (tUn (rU fun i => .int (-i)) (tC (.int 1)))) := po_some (pe_un un_neg pe_int)
  refine wpAny_Slice (thn (po_none.run pins s1 σ H1 (fun o H2 => o = none ∧ H2 = H1) I1 ⟨rfl, rfl⟩) fun vl s2 ⟨l, H2, I2, pl, el, e2⟩ => ?_)
  subst el e2
  refine thn (po_none.run pins s2 σ H2 (fun o H3 => o = none ∧ H3 = H2) I2 ⟨rfl, rfl⟩) fun vu s3 ⟨u, H3, I3, pu, eu, e3⟩ => ?_
  subst eu e3
  refine thn (hst.run pins s3 σ H3 (fun o H4 => o = some (-1) ∧ H4 = H3) I3 ⟨1, rfl, -1, rfl, rfl, rfl⟩) fun vs s4 ⟨o, H4, I4, ps, eo, e4⟩ => ?_
  subst eo e4
  have I5 : Inv X pins σ H4 { s4 with heap := s4.heap.push { cls := .type "slice", data := .fields #[vl, vu, vs] } } := I4.kept (t' := s4.toks) fun b ob q => Heap.get?_push_of_some _ q
  obtain ⟨its, r, ht, hz⟩ := I5.tuple hx
  cases r with
  | cons r1 rr =>
    cases rr with
    | cons r2 rr =>
      cases rr
      rename_i u1 u2
      show wpAny (model X.prog X.w) X.A (subscriptTail e (.Slice none none (some (.UnaryOp .USub (.Constant (.int 1) k p1) p2)) p3) (.ref a) (.ref s4.heap.objs.size)) (EP X pins σ Q) X.xe { s4 with heap := s4.heap.push { cls := .type "slice", data := .fields #[vl, vu, vs] } }
      refine tail_any (ops := [.ref a, .ref s4.heap.objs.size]) ht.typeIs (PyProof.Rows.slot_tuple_getitem.lookup) ?_ (by with_unfolding_all rfl)
      refine pair_back ht (Heap.IsSliceOf.new _ vl vu vs) pl pu ps ?_
      refine ⟨.ref _, _, I5.laid (t' := s4.toks) (o := .tup [z, y]) (fun b ob q => Heap.get?_push_of_some _ q) (Nat.le_refl _) ?_, rfl, q _ (I5.hok.fresh (Nat.le_refl _))⟩
      exact ⟨by show (2 : Nat) ≤ sizeLine; rw [sizeLine_eq]; decide, [_, _], .cons r2 (.cons r1 .nil), _, Heap.get?_push_size _ rfl, rfl, 0, rfl⟩
def wRevP (a : WE) : WE := fun env S Q X => a env S (fun x S1 => match x with | .tup [y, z] => Q (.tup [z, y]) S1 | _ => False) X
theorem q_revP {X : Cx} {E : XK} {e : Expr} {wa : WE} {k : Nat} {p1 p2 p3 pos : Pos} (h : QE X E e wa) : QE X E (.Subscript e (.Slice none none (some (.UnaryOp .USub (.Constant (.int 1) k p1) p2)) p3) pos) (wRevP wa) := (pe_revP h).imp fun σ H Q ⟨φ, env, S, Q', X', rs, re, q, k, x⟩ =>
  ⟨φ, env, S, _, X', rs, re, q, fun d S1 φ1 v H1 e1 rs1 rv1 q1 => by
    cases d <;> first
      | exact False.elim q1
      | skip
    case tup ds =>
      match ds, q1 with
      | [y, z], q1 =>
        obtain ⟨a, xs, rfl, h1, u1, r1, rfl, g1, u2, r2, rfl, g2, rfl⟩ := rv1
        have rv2 : RVs X.K φ1 H1 [z, y] [u2, u1] := ⟨u2, _, rfl, g2, u1, _, rfl, g1, rfl⟩
        exact ⟨a, u1, u2, rfl, SqT.of h1, fun p hp => (k.mono e1).tup rs1 rv2 q1 hp⟩, x⟩
end Qd
set_option Elab.async false
set_option linter.all false
set_option maxRecDepth 100000
set_option maxHeartbeats 2000000
/-! Layer Q: list(zip(t, u)) of two tuples of one length. -/
namespace Qd
open PySem PySem.Spec PyProof.Rows L2 PySem.W
section
variable {prog : Program} {w : World} {A : Around} {E : Value → Shared → Prop} {s : Shared}
/-- the zip's next pair while the last one is still held -/
theorem zh_item {z TI TO T i1 i2 l1 l2 : Addr} {f : Bool} {oT : Obj} {k : Nat} {xs ys : Array Value} {x y : Value} {Q : Value → Shared → Prop} (D : ZipApart z TI TO i1 i2 l1 l2)
    (hz : IsZipHeld s.heap z TI TO T f) (hT : s.heap.get? T = some oT) (hTI : PySem.IsPair s.heap TI (.ref i1) (.ref i2))
    (h1 : s.heap.IsTupleIter i1 l1 k) (h2 : s.heap.IsTupleIter i2 l2 k) (hl1 : s.heap.IsTuple l1 xs) (hl2 : s.heap.IsTuple l2 ys) (hx : xs[k]? = some x) (hy : ys[k]? = some y)
    (hQ : ∀ h', IsZipHeld h' z TI TO T true → h'.IsTupleIter i1 l1 (k + 1) → h'.IsTupleIter i2 l2 (k + 1) → PySem.IsPair h' s.heap.objs.size x y → h'.objs.size = s.heap.objs.size + 1 →
      (∀ c o, c ≠ z → c ≠ i1 → c ≠ i2 → s.heap.get? c = some o → h'.get? c = some o) → Q (.ref s.heap.objs.size) { s with heap := h' }) :
    wpAny (model prog w) A (Builtin.«zip.__next__» ⟨[.ref z], []⟩) (fun fin s' => ∃ v, fin = .done (.ret v) ∧ Q v s') E s := by
  show wpAny _ _ (field (.ref z) 2 >>= _) _ _ _
  refine wpAny_bind (wpAny_field hz rfl (x := .bool false) rfl ?_)
  show wpAny _ _ (field (.ref z) 3 >>= _) _ _ _
  refine wpAny_bind (wpAny_field hz rfl (x := .ref TI) rfl ?_)
  refine wpAny_bind (wpAny_seqItems hTI rfl ?_)
  show wpAny _ _ (Builtin.SmallTypes.ownedTupleIsFree (.ref z) >>= _) _ _ _
  refine wpAny_bind (wpAny_tupleHeld_zip hz hT fun g1 hz1 hs1 => ?_)
  simp only [Bool.false_eq_true, if_false]
  refine wpAny_bind ?_
  rw [← Array.forIn_toList]
  simp only [List.forIn_cons, List.forIn_nil]
  refine wpAny_bind (wpAny_bind (wpAny_holding ?_))
  show wpAny _ _ (Builtin.SmallTypes.nextOf (.ref i1) >>= _) _ _ _
  refine wpAny_bind (RZ.nextOf_tuple_item (s := { s with heap := g1 }) (h1.extBut hs1.extBut D.i1z) (hl1.extBut hs1.extBut D.l1z) hx fun g2 p1 hs2 => wpAny_pure ?_)
  refine wpAny_pure ?_
  refine wpAny_bind (wpAny_bind (wpAny_holding ?_))
  show wpAny _ _ (Builtin.SmallTypes.nextOf (.ref i2) >>= _) _ _ _
  refine wpAny_bind (RZ.nextOf_tuple_item (s := { s with heap := g2 }) ((h2.extBut hs1.extBut D.i2z).extBut hs2.extBut D.i12.symm) ((hl2.extBut hs1.extBut D.l2z).extBut hs2.extBut D.l2i1) hy fun g3 p2 hs3 => wpAny_pure ?_)
  refine wpAny_pure (wpAny_pure ?_)
  show wpAny _ _ (newTuple [x, y] >>= _) _ _ _
  refine wpAny_bind (wpAny_newTuple ?_)
  have hsz : g3.objs.size = s.heap.objs.size := by rw [hs3.1, hs2.1, hs1.1]
  have hz3 : IsZipHeld g3 z TI TO T true := hs3.extBut _ _ D.i2z.symm (hs2.extBut _ _ D.i1z.symm hz1)
  have hk : ∀ c o, c ≠ z → c ≠ i1 → c ≠ i2 → s.heap.get? c = some o → g3.get? c = some o := fun c o c1 c2 c3 e => hs3.extBut _ _ c3 (hs2.extBut _ _ c2 (hs1.extBut _ _ c1 e))
  have p1' : g3.IsTupleIter i1 l1 (k + 1) := p1.extBut hs3.extBut D.i12
  refine wpAny_pure ⟨_, rfl, ?_⟩
  show Q (.ref g3.objs.size) _
  have hp : PySem.IsPair (g3.push { cls := .type "tuple", data := .seq #[x, y] }) g3.objs.size x y := Heap.get?_push_size _ rfl
  have hz4 : (g3.push { cls := .type "tuple", data := .seq #[x, y] }).objs.size = g3.objs.size + 1 := Heap.size_push ..
  rw [hsz] at hp hz4 ⊢
  exact hQ _ (Heap.get?_push_of_some _ hz3) (p1'.at fun o e => Heap.get?_push_of_some _ e) (p2.at fun o e => Heap.get?_push_of_some _ e) hp hz4 fun c o c1 c2 c3 e => Heap.get?_push_of_some _ (hk c o c1 c2 c3 e)
theorem zh_end {z TI TO T i1 i2 l1 l2 : Addr} {f : Bool} {oT : Obj} {k : Nat} {xs : Array Value} {Q : Fin → Shared → Prop} (hh : A.handled = none) (D : ZipApart z TI TO i1 i2 l1 l2)
    (hz : IsZipHeld s.heap z TI TO T f) (hT : s.heap.get? T = some oT) (hTI : PySem.IsPair s.heap TI (.ref i1) (.ref i2)) (h1 : s.heap.IsTupleIter i1 l1 k) (hl1 : s.heap.IsTuple l1 xs) (hx : xs[k]? = none)
    (hE : ∀ h' e, (∀ c o, c ≠ z → c ≠ i1 → s.heap.get? c = some o → h'.get? c = some o) → (∃ o, h'.get? e = some o ∧ o.cls = .type "StopIteration") → E (.ref e) { s with heap := h' }) :
    wpAny (model prog w) A (Builtin.«zip.__next__» ⟨[.ref z], []⟩) Q E s := by
  show wpAny _ _ (field (.ref z) 2 >>= _) _ _ _
  refine wpAny_bind (wpAny_field hz rfl (x := .bool false) rfl ?_)
  show wpAny _ _ (field (.ref z) 3 >>= _) _ _ _
  refine wpAny_bind (wpAny_field hz rfl (x := .ref TI) rfl ?_)
  refine wpAny_bind (wpAny_seqItems hTI rfl ?_)
  show wpAny _ _ (Builtin.SmallTypes.ownedTupleIsFree (.ref z) >>= _) _ _ _
  refine wpAny_bind (wpAny_tupleHeld_zip hz hT fun g1 hz1 hs1 => ?_)
  simp only [Bool.false_eq_true, if_false]
  refine wpAny_bind ?_
  rw [← Array.forIn_toList]
  simp only [List.forIn_cons, List.forIn_nil]
  refine wpAny_bind (wpAny_bind (wpAny_holding ?_))
  show wpAny _ _ (Builtin.SmallTypes.nextOf (.ref i1) >>= _) _ _ _
  refine wpAny_bind (RZ.nextOf_tuple_end (s := { s with heap := g1 }) hh (h1.extBut hs1.extBut D.i1z) (hl1.extBut hs1.extBut D.l1z) hx fun g2 e hs2 he => ?_)
  exact hE g2 e (fun c o c1 c2 q => hs2 _ _ c2 (hs1.extBut _ _ c1 q)) he
/-- where the zip stands, k items drawn -/
structure ZAt (h : Heap) (z TI TO i1 i2 l1 l2 : Addr) (xs ys : Array Value) (k : Nat) : Prop where
  ti : PySem.IsPair h TI (.ref i1) (.ref i2)
  h1 : h.IsTupleIter i1 l1 k
  h2 : h.IsTupleIter i2 l2 k
  l1 : h.IsTuple l1 xs
  l2 : h.IsTuple l2 ys
  z : (IsZip h z TI TO .none ∧ ∃ a b, PySem.IsPair h TO a b) ∨ ∃ T f oT, IsZipHeld h z TI TO T f ∧ h.get? T = some oT ∧ T ≠ z ∧ T ≠ i1 ∧ T ≠ i2
theorem ZAt.typeIs {z TI TO i1 i2 l1 l2 : Addr} {xs ys : Array Value} {k : Nat} (Z : ZAt s.heap z TI TO i1 i2 l1 l2 xs ys k) : s.TypeIs (.ref z) "zip" := by
  rcases Z.z with ⟨q, _⟩ | ⟨_, _, _, q, _⟩
  · exact ⟨_, q, rfl⟩
  · exact ⟨_, q, rfl⟩
theorem ZAt.at {h h' : Heap} {z TI TO i1 i2 l1 l2 : Addr} {xs ys : Array Value} {k : Nat} (Z : ZAt h z TI TO i1 i2 l1 l2 xs ys k) (kp : ∀ c o, h.get? c = some o → h'.get? c = some o) : ZAt h' z TI TO i1 i2 l1 l2 xs ys k :=
  ⟨kp _ _ Z.ti, Z.h1.at fun o e => kp _ _ e, Z.h2.at fun o e => kp _ _ e, let ⟨o, a, b⟩ := Z.l1; ⟨o, kp _ _ a, b⟩, let ⟨o, a, b⟩ := Z.l2; ⟨o, kp _ _ a, b⟩, Z.z.imp (fun ⟨q, a, b, e⟩ => ⟨kp _ _ q, a, b, kp _ _ e⟩) fun ⟨T, f, oT, q, e, n⟩ => ⟨T, f, oT, kp _ _ q, kp _ _ e, n⟩⟩
theorem znext_item {z TI TO i1 i2 l1 l2 : Addr} {k : Nat} {xs ys : Array Value} {x y : Value} {Q : Option Value → Shared → Prop} (D : ZipApart z TI TO i1 i2 l1 l2) (Z : ZAt s.heap z TI TO i1 i2 l1 l2 xs ys k) (hx : xs[k]? = some x) (hy : ys[k]? = some y)
    (hQ : ∀ h', ZAt h' z TI TO i1 i2 l1 l2 xs ys (k + 1) → PySem.IsPair h' s.heap.objs.size x y → (∀ c o, c ≠ z → c ≠ TO → c ≠ i1 → c ≠ i2 → s.heap.get? c = some o → h'.get? c = some o) → Q (some (.ref s.heap.objs.size)) { s with heap := h' }) :
    wpAny (model prog w) A (pyNext (.ref z)) Q E s := by
  have lt : ∀ {c o}, s.heap.get? c = some o → c ≠ s.heap.objs.size := fun e => Nat.ne_of_lt (Heap.lt_size e)
  have tup : ∀ {h' : Heap} {c : Addr} {ws : Array Value}, s.heap.IsTuple c ws → c ≠ z → c ≠ TO → c ≠ i1 → c ≠ i2 → (∀ c o, c ≠ z → c ≠ TO → c ≠ i1 → c ≠ i2 → s.heap.get? c = some o → h'.get? c = some o) → h'.IsTuple c ws := fun ⟨o, a, b⟩ n1 n2 n3 n4 kp => ⟨o, kp _ _ n1 n2 n3 n4 a, b⟩
  obtain ⟨o1, f1, _⟩ := id Z.h1
  obtain ⟨o2, f2, _⟩ := id Z.h2
  rcases Z.z with ⟨q, a, b, e⟩ | ⟨T, f, oT, q, e, n1, n2, n3⟩
  · refine RZ.pyNext_zipT_item D q Z.ti e Z.h1 Z.h2 Z.l1 Z.l2 hx hy fun h' a1 a2 a3 a4 a5 a6 a7 => hQ h' ⟨a7 _ _ D.TIz D.TITO D.TIi1 D.TIi2 Z.ti, a3, a4, tup Z.l1 D.l1z D.l1TO D.l1i1 D.l1i2 a7, tup Z.l2 D.l2z D.l2TO D.l2i1 D.l2i2 a7, .inr ⟨s.heap.objs.size, false, _, a1, a5, (lt q).symm, (lt f1).symm, (lt f2).symm⟩⟩ a5 a7
  · have hTy : s.TypeIs (.ref z) "zip" := ⟨_, q, rfl⟩
    unfold pyNext
    refine wpAny_bind (wpAny_attempt (wpAny_callSpecial?_slot (name := Str.ofString "__next__") hTy PySem.F.slot_zip_next (wpAny_call_entry PySem.F.slot_zip_next hTy PySem.F.entry_zip_next
      (zh_item D q e Z.ti Z.h1 Z.h2 Z.l1 Z.l2 hx hy fun h' a1 a3 a4 a5 a6 a7 => wpAny_pure ?_) (PySem.F.args_zip_next_1 _))))
    have a8 : ∀ c o, c ≠ z → c ≠ TO → c ≠ i1 → c ≠ i2 → s.heap.get? c = some o → h'.get? c = some o := fun c o c1 _ c3 c4 g => a7 c o c1 c3 c4 g
    exact hQ h' ⟨a8 _ _ D.TIz D.TITO D.TIi1 D.TIi2 Z.ti, a3, a4, tup Z.l1 D.l1z D.l1TO D.l1i1 D.l1i2 a8, tup Z.l2 D.l2z D.l2TO D.l2i1 D.l2i2 a8, .inr ⟨T, true, oT, a1, a7 _ _ n1 n2 n3 e, n1, n2, n3⟩⟩ a5 a8
theorem znext_end {z TI TO i1 i2 l1 l2 : Addr} {k : Nat} {xs ys : Array Value} {Q : Option Value → Shared → Prop} (hh : A.handled = none) (D : ZipApart z TI TO i1 i2 l1 l2) (Z : ZAt s.heap z TI TO i1 i2 l1 l2 xs ys k) (hx : xs[k]? = none)
    (hQ : ∀ h', (∀ c o, c ≠ z → c ≠ TO → c ≠ i1 → c ≠ i2 → s.heap.get? c = some o → h'.get? c = some o) → Q none { s with heap := h' }) : wpAny (model prog w) A (pyNext (.ref z)) Q E s := by
  rcases Z.z with ⟨q, a, b, e⟩ | ⟨T, f, oT, q, e, n1, n2, n3⟩
  · exact RZ.pyNext_zipT_end hh D q Z.ti e Z.h1 Z.h2 Z.l1 Z.l2 (.inl hx) hQ
  · have hTy : s.TypeIs (.ref z) "zip" := ⟨_, q, rfl⟩
    unfold pyNext
    refine wpAny_bind (wpAny_attempt (wpAny_callSpecial?_slot (name := Str.ofString "__next__") hTy PySem.F.slot_zip_next (wpAny_call_entry PySem.F.slot_zip_next hTy PySem.F.entry_zip_next
      (zh_end hh D q e Z.ti Z.h1 Z.l1 hx fun h' e hk he => ?_) (PySem.F.args_zip_next_1 _))))
    obtain ⟨o, ho, hc⟩ := he
    refine wpAny_bind (wpAny_isInstance (T := "StopIteration") (b := true) ⟨o, ho, hc⟩ isSubtype_stop ?_)
    exact wpAny_pure (hQ _ fun c o c1 _ c3 _ g => hk c o c1 c3 g)
/-- the pairs that were laid -/
structure ZG (xs ys : Array Value) (lo : Addr) (h : Heap) (as : List Addr) : Prop where
  rise : as.Pairwise (· < ·)
  above : ∀ a ∈ as, lo < a
  pairs : ∀ (j : Nat) (a : Addr), as[j]? = some a → ∃ x y, xs[j]? = some x ∧ ys[j]? = some y ∧ PySem.IsPair h a x y
end
section
variable {prog : Program} {w : World} {A : Around} {s : Shared} {R : Result → Shared → Prop} {xs ys : Array Value}
theorem zloop {S z TI TO i1 i2 l1 l2 : Addr} (hh : A.handled = none) (D : ZipApart z TI TO i1 i2 l1 l2) (hS4 : S ≠ z ∧ S ≠ TO ∧ S ≠ i1 ∧ S ≠ i2) (hlt : z < S ∧ TO < S ∧ i1 < S ∧ i2 < S ∧ TI < S ∧ l1 < S ∧ l2 < S) (hn : xs.size ≤ sizeLine) (he : ys.size = xs.size) (res : Value) {h1 : Heap}
    (hR : ∀ h' tk acc c as, (∀ b o, b ≠ S → b ≠ z → b ≠ TO → b ≠ i1 → b ≠ i2 → h1.get? b = some o → h'.get? b = some o) → h'.get? S = some { cls := .type "list", dict := none, data := .seq acc c, slots := #[] } → as.length = xs.size → ZG xs ys S h' as →
      acc.toList = as.map Value.ref → R (.ok (.ret res)) { s with heap := h', toks := tk }) :
    ∀ (k i : Nat) (h : Heap) (tk c : Nat) (acc : Array Value) (as : List Addr), xs.size - i = k → i ≤ xs.size → ZAt h z TI TO i1 i2 l1 l2 xs ys i → (∀ b o, b ≠ S → b ≠ z → b ≠ TO → b ≠ i1 → b ≠ i2 → h1.get? b = some o → h.get? b = some o) →
      h.get? S = some { cls := .type "list", dict := none, data := .seq acc c, slots := #[] } → acc.toList = as.map Value.ref → as.length = i → ZG xs ys S h as →
      codeAny (model prog w) A (.builtin "list.extend.loop" ⟨[.ref S, .ref z, res], []⟩) R { s with heap := h, toks := tk } := by
  have off : ∀ {c}, S < c → c ≠ z ∧ c ≠ TO ∧ c ≠ i1 ∧ c ≠ i2 := fun h => ⟨Nat.ne_of_gt (Nat.lt_trans hlt.1 h), Nat.ne_of_gt (Nat.lt_trans hlt.2.1 h), Nat.ne_of_gt (Nat.lt_trans hlt.2.2.1 h), Nat.ne_of_gt (Nat.lt_trans hlt.2.2.2.1 h)⟩
  intro k
  induction k with
  | zero =>
    intro i h tk c acc as hk hi hst hkeep hS hacc hal hG
    refine codeAny_builtin PySem.F.entry_extend_loop ?_
    rw [Around.under_plainId PySem.F.plain_extend_loop _]
    show wpAny _ A.in1 (pyNext (.ref z) >>= _) _ _ _
    refine wpAny_bind (znext_end (s := { s with heap := h, toks := tk }) (A := A.in1) hh D hst (Array.getElem?_eq_none (by omega)) fun h' kp => ?_)
    refine wpAny_pure (hR h' tk acc c as (fun b o b1 b2 b3 b4 b5 e => kp b o b2 b3 b4 b5 (hkeep b o b1 b2 b3 b4 b5 e)) (kp S _ hS4.1 hS4.2.1 hS4.2.2.1 hS4.2.2.2 hS) (by omega) ⟨hG.rise, hG.above, fun j a hj => ?_⟩ hacc)
    obtain ⟨x, y, e1, e2, e3⟩ := hG.pairs j a hj
    obtain ⟨n1, n2, n3, n4⟩ := off (hG.above a (List.mem_of_getElem? hj))
    exact ⟨x, y, e1, e2, kp _ _ n1 n2 n3 n4 e3⟩
  | succ k ih =>
    intro i h tk c acc as hk hi hst hkeep hS hacc hal hG
    have hlt' : i < xs.size := by omega
    have hsz : acc.size = i := by rw [← Array.length_toList, hacc, List.length_map, hal]
    refine codeAny_builtin PySem.F.entry_extend_loop ?_
    rw [Around.under_plainId PySem.F.plain_extend_loop _]
    show wpAny _ A.in1 (pyNext (.ref z) >>= _) _ _ _
    have ex : xs[i]? = some xs[i] := Array.getElem?_eq_getElem hlt'
    have ey : ys[i]? = some ys[i] := Array.getElem?_eq_getElem (by omega)
    refine wpAny_bind (znext_item (s := { s with heap := h, toks := tk }) D hst ex ey fun h' hst' ht kp => ?_)
    dsimp only at ht kp ⊢
    have hS' := kp S _ hS4.1 hS4.2.1 hS4.2.2.1 hS4.2.2.2 hS
    have hSl : S < h.objs.size := Heap.lt_size hS
    have up : ∀ b o, b ≠ S → h'.get? b = some o → (h'.update S (Obj.mapSeq (·.push (Value.ref h.objs.size)))).get? b = some o := fun b o hb e => (Heap.get?_update_other _ _ (Ne.symm hb)).trans e
    have z' : ZAt (h'.update S (Obj.mapSeq (·.push (Value.ref h.objs.size)))) z TI TO i1 i2 l1 l2 xs ys (i + 1) := by
      refine ⟨up _ _ (Nat.ne_of_lt hlt.2.2.2.2.1) hst'.ti, hst'.h1.at fun o e => up _ o (Nat.ne_of_lt hlt.2.2.1) e, hst'.h2.at fun o e => up _ o (Nat.ne_of_lt hlt.2.2.2.1) e, let ⟨o, a, b⟩ := hst'.l1; ⟨o, up _ _ (Nat.ne_of_lt hlt.2.2.2.2.2.1) a, b⟩, let ⟨o, a, b⟩ := hst'.l2; ⟨o, up _ _ (Nat.ne_of_lt hlt.2.2.2.2.2.2) a, b⟩, ?_⟩
      rcases hst'.z with ⟨q, a, b, e⟩ | ⟨T, f, oT, q, e, n⟩
      · exact .inl ⟨up _ _ (Nat.ne_of_lt hlt.1) q, a, b, up _ _ (Nat.ne_of_lt hlt.2.1) e⟩
      · by_cases hTS : T = S
        · subst hTS
          exact .inr ⟨T, f, _, up _ _ (Nat.ne_of_lt hlt.1) q, Heap.get?_update_self _ hS' rfl, n⟩
        · exact .inr ⟨T, f, oT, up _ _ (Nat.ne_of_lt hlt.1) q, up _ _ hTS e, n⟩
    show wpAny _ A.in1 (updateSeq S (·.push (Value.ref h.objs.size)) >>= _) _ _ _
    refine wpAny_bind ?_
    refine wpAny_updateSeq hS' rfl (wpAny_pure ⟨plainId_quiet PySem.F.plain_extend_loop _, ih (i + 1) _ tk _ (acc.push (Value.ref h.objs.size)) (as ++ [h.objs.size]) (by omega) hlt' z'
      (fun b o b1 b2 b3 b4 b5 e => up b o b1 (kp b o b2 b3 b4 b5 (hkeep b o b1 b2 b3 b4 b5 e))) (Heap.get?_update_self _ hS' rfl) (by rw [Array.toList_push, hacc, List.map_append]; rfl) (by rw [List.length_append, hal]; rfl) ⟨?_, ?_, ?_⟩⟩) (by rw [hsz]; omega) (by show (acc.push _).size ≤ sizeLine + 1; rw [Array.size_push, hsz]; omega)
    · refine List.pairwise_append.mpr ⟨hG.rise, List.pairwise_singleton _ _, fun a ha b hb => ?_⟩
      rw [List.mem_singleton.mp hb]
      obtain ⟨j, hj⟩ := List.mem_iff_getElem?.mp ha
      obtain ⟨_, _, _, _, e⟩ := hG.pairs j a hj
      exact Heap.lt_size e
    · intro a ha
      rcases List.mem_append.mp ha with ha | ha
      · exact hG.above a ha
      · rw [List.mem_singleton.mp ha]; exact hSl
    · intro j b hj
      by_cases hj' : j < as.length
      · rw [List.getElem?_append_left hj'] at hj
        obtain ⟨x, y, e1, e2, e3⟩ := hG.pairs j b hj
        have hb := hG.above b (List.mem_of_getElem? hj)
        obtain ⟨n1, n2, n3, n4⟩ := off hb
        exact ⟨x, y, e1, e2, up b _ (Nat.ne_of_gt hb) (kp b _ n1 n2 n3 n4 e3)⟩
      · rw [List.getElem?_append_right (by omega)] at hj
        have hl := (List.getElem?_eq_some_iff.mp hj).1
        simp only [List.length_singleton] at hl
        have ej : j = i := by omega
        subst ej
        rw [hal, Nat.sub_self] at hj
        cases hj
        exact ⟨_, _, ex, ey, up _ _ (Nat.ne_of_gt hSl) ht⟩
end
end Qd
set_option Elab.async false
set_option linter.all false
set_option maxRecDepth 100000
set_option maxHeartbeats 2000000
namespace Qd
open PySem PySem.Spec PyProof.Rows L2 PySem.W
theorem zip_len0 : typeLookup (.type "zip") "__len__" = pure none := am_miss_of_fast (by decide +kernel)
theorem zip_hint0 : typeLookup (.type "zip") "__length_hint__" = pure none := am_miss_of_fast (by decide +kernel)
section
variable {prog : Program} {w : World} {A : Around} {s : Shared} {R : Result → Shared → Prop} {xs ys : Array Value}
/-- what a list is that a zip filled -/
abbrev ZEnd (xs ys : Array Value) (S z TO i1 i2 : Addr) (h0 h' : Heap) (acc : Array Value) (c : Nat) (as : List Addr) : Prop := (∀ b o, b ≠ S → b ≠ z → b ≠ TO → b ≠ i1 → b ≠ i2 → h0.get? b = some o → h'.get? b = some o) ∧ h'.get? S = some { cls := .type "list", dict := none, data := .seq acc c, slots := #[] } ∧ as.length = xs.size ∧ ZG xs ys S h' as ∧ acc.toList = as.map Value.ref
theorem zextend {S z TI TO i1 i2 l1 l2 : Addr} (hh : A.handled = none) (D : ZipApart z TI TO i1 i2 l1 l2) (hS4 : S ≠ z ∧ S ≠ TO ∧ S ≠ i1 ∧ S ≠ i2) (hlt : z < S ∧ TO < S ∧ i1 < S ∧ i2 < S ∧ TI < S ∧ l1 < S ∧ l2 < S) (hn : xs.size ≤ sizeLine) (he : ys.size = xs.size) (res : Value) (c0 : Nat)
    (Z : ZAt s.heap z TI TO i1 i2 l1 l2 xs ys 0) (hz : IsZip s.heap z TI TO .none) (hS : s.heap.get? S = some { cls := .type "list", data := .seq #[] c0 })
    (hR : ∀ h' tk acc c as, ZEnd xs ys S z TO i1 i2 s.heap h' acc c as → R (.ok (.ret res)) { s with heap := h', toks := tk }) :
    wpAny (model prog w) A.in1 (Builtin.List.listExtendWith (.ref S) (.ref z) res)
      (fun fin s' => match fin with | .done f => R (.ok f) s' | .again c' => c'.quiet = true ∧ codeAny (model prog w) A c' R s') (fun e s' => R (.error e) s') s := by
  have hT : s.TypeIs (.ref z) "zip" := ⟨_, hz, rfl⟩
  unfold Builtin.List.listExtendWith
  refine wpAny_bind (wpAny_typeOf hT ?_)
  have e1 : Builtin.List.listSameRef (.ref S) (.ref z) = false := by simp [Builtin.List.listSameRef, hS4.1]
  have e2 : (Value.type "zip" == Value.type "list") = false := by decide
  have e3 : (Value.type "zip" == Value.type "tuple") = false := by decide
  simp only [e1, e2, e3, Bool.or_false, Bool.false_eq_true, if_false]
  refine wpAny_bind (wpAny_pyIter_zip hz ?_)
  refine wpAny_bind (wpAny_holding ?_)
  unfold Builtin.List.listLengthHint
  refine wpAny_bind (wpAny_specialOf hT zip_len0 ?_)
  show wpAny _ A.in1 (specialOf (Value.ref z) (Str.ofString "__length_hint__") >>= _) _ _ _
  refine wpAny_bind (wpAny_specialOf hT zip_hint0 ?_)
  refine wpAny_pure ?_
  show wpAny _ A.in1 (rule "list.extend.makes-room" >>= fun _ => Builtin.List.listTouch (.ref S) >>= fun _ =>
    again (.builtin "list.extend.loop" ⟨[.ref S, .ref z, res], []⟩)) _ _ _
  refine wpAny_bind (wpAny_rule ?_)
  refine wpAny_bind ?_
  show wpAny _ A.in1 (updateSeq S (·.push .none) >>= fun _ => updateSeq S (·.pop)) _ _ _
  refine wpAny_bind (wpAny_updateSeq hS rfl ?_)
  have hS2 := Heap.get?_update_self (Obj.mapSeq (·.push Value.none)) hS rfl
  refine wpAny_updateSeq (hz := by seq_fits) hS2 rfl ?_
  have hS3 := Heap.get?_update_self (Obj.mapSeq (·.pop)) hS2 rfl
  have oth : ∀ b o, b ≠ S → s.heap.get? b = some o → ((s.heap.update S (Obj.mapSeq (·.push Value.none))).update S (Obj.mapSeq (·.pop))).get? b = some o :=
    fun b o hb e => (Heap.get?_update_other _ _ (Ne.symm hb)).trans ((Heap.get?_update_other _ _ (Ne.symm hb)).trans e)
  have Z' : ZAt ((s.heap.update S (Obj.mapSeq (·.push Value.none))).update S (Obj.mapSeq (·.pop))) z TI TO i1 i2 l1 l2 xs ys 0 := by
    refine ⟨oth _ _ (Nat.ne_of_lt hlt.2.2.2.2.1) Z.ti, Z.h1.at fun o e => oth _ o (Nat.ne_of_lt hlt.2.2.1) e, Z.h2.at fun o e => oth _ o (Nat.ne_of_lt hlt.2.2.2.1) e, let ⟨o, a, b⟩ := Z.l1; ⟨o, oth _ _ (Nat.ne_of_lt hlt.2.2.2.2.2.1) a, b⟩, let ⟨o, a, b⟩ := Z.l2; ⟨o, oth _ _ (Nat.ne_of_lt hlt.2.2.2.2.2.2) a, b⟩, .inl ⟨oth _ _ (Nat.ne_of_lt hlt.1) hz, ?_⟩⟩
    rcases Z.z with ⟨_, a, b, e⟩ | ⟨T, f, oT, q, _⟩
    · exact ⟨a, b, oth _ _ (Nat.ne_of_lt hlt.2.1) e⟩
    · have := hz.symm.trans q
      simp [rawInt] at this
  refine wpAny_pure ⟨plainId_quiet PySem.F.plain_extend_loop _, ?_⟩
  exact zloop (s := s) (h1 := s.heap) hh D hS4 hlt hn he res (fun h' tk acc c as k1 k2 k3 k4 k5 => hR h' tk acc c as ⟨k1, k2, k3, k4, k5⟩) xs.size 0 _ _ _ #[] [] (Nat.sub_zero _) (Nat.zero_le _) Z' (fun b o b1 _ _ _ _ e => oth b o b1 e) hS3 rfl rfl ⟨List.Pairwise.nil, (fun _ ha => nomatch ha), fun j a hj => by simp at hj⟩
end
section
variable {prog : Program} {w : World} {A : Around} {E : Value → Shared → Prop} {s : Shared} {xs ys : Array Value}
/-- list(z), z a zip of two tuples just made -/
theorem zlist {z TI TO i1 i2 l1 l2 : Addr} {Q : Value → Shared → Prop} (hh : A.handled = none) (D : ZipApart z TI TO i1 i2 l1 l2) (hn : xs.size ≤ sizeLine) (he : ys.size = xs.size) (Z : ZAt s.heap z TI TO i1 i2 l1 l2 xs ys 0) (hz : IsZip s.heap z TI TO .none) (hto : TO < s.heap.objs.size)
    (hQ : ∀ h' tk acc c as, ZEnd xs ys s.heap.objs.size z TO i1 i2 s.heap h' acc c as → Q (.ref s.heap.objs.size) { s with heap := h', toks := tk }) : wpAny (model prog w) A (call (.type "list") [.ref z]) Q E s := by
  obtain ⟨o1, f1, _⟩ := id Z.h1
  obtain ⟨o2, f2, _⟩ := id Z.h2
  obtain ⟨o3, f3, _⟩ := id Z.l1
  obtain ⟨o4, f4, _⟩ := id Z.l2
  have lz := Heap.lt_size hz
  have l1 := Heap.lt_size f1
  have l2 := Heap.lt_size f2
  have l3 := Heap.lt_size f3
  have l4 := Heap.lt_size f4
  have l5 := Heap.lt_size Z.ti
  refine callType_codes (Q₁ := fun obj s1 => obj = .ref s.heap.objs.size ∧ s1 = { s with heap := s.heap.push { cls := .type "list", data := .seq #[] } }) PySem.F.called_list (PySem.F.typeCall_list_1 _) PySem.F.entry_list_init
    (code_list_new _ ⟨rfl, rfl⟩) fun obj s1 h1 => ?_
  obtain ⟨rfl, rfl⟩ := h1
  have hS : (s.heap.push { cls := .type "list", data := .seq #[] }).get? s.heap.objs.size = some { cls := .type "list", data := .seq #[] } := Heap.get?_push_size _ rfl
  refine ⟨⟨_, hS, rfl⟩, PySem.F.args_list_init_2 _ _, ?_⟩
  show wpAny _ _ (do let old ← Builtin.List.listItems (.ref s.heap.objs.size); Builtin.List.listUpdate (.ref s.heap.objs.size) (fun _ => #[]); letGo old.toList.reverse; Builtin.List.listExtendWith (.ref s.heap.objs.size) (.ref z) .none) _ _ _
  refine wpAny_bind ?_
  unfold Builtin.List.listItems
  refine wpAny_bind (wpAny_seqItems hS rfl (wpAny_pure ?_))
  show wpAny _ _ (updateSeq s.heap.objs.size (fun _ => #[]) >>= fun _ => letGo (#[] : Array Value).toList.reverse >>= fun _ => Builtin.List.listExtendWith (.ref s.heap.objs.size) (.ref z) .none) _ _ _
  refine wpAny_bind (wpAny_updateSeq hS rfl ?_)
  have hS2 := Heap.get?_update_self (Obj.mapSeq (fun _ => (#[] : Array Value))) hS rfl
  have up : ∀ b o, s.heap.get? b = some o → ((s.heap.push { cls := .type "list", data := .seq #[] }).update s.heap.objs.size (Obj.mapSeq (fun _ => (#[] : Array Value)))).get? b = some o :=
    fun b o e => (Heap.get?_update_other _ _ (Nat.ne_of_gt (Heap.lt_size e))).trans (Heap.get?_push_of_some _ e)
  refine wpAny_bind (wpAny_letGo ?_)
  refine zextend (A := A.in1) (xs := xs) (ys := ys) hh D ⟨Nat.ne_of_gt lz, Nat.ne_of_gt hto, Nat.ne_of_gt l1, Nat.ne_of_gt l2⟩ ⟨lz, hto, l1, l2, l5, l3, l4⟩ hn he .none _ (Z.at up) (up _ _ hz) hS2 fun h' tk acc c as ⟨k1, k2, k3, k4, k5⟩ => ?_
  exact ⟨rfl, hQ h' tk acc c as ⟨fun b o b1 b2 b3 b4 b5 e => k1 b o b1 b2 b3 b4 b5 (up b o e), k2, k3, k4, k5⟩⟩
end
/-- the pairs tracked at their addresses -/
def putP : Hp → List Addr → List V → List V → Hp
  | H, a :: as, x :: xs, y :: ys => putP (upd H a (.tup [x, y])) as xs ys
  | H, _, _, _ => H
theorem putP_off {b : Addr} : ∀ (as : List Addr) (xs ys : List V) (H : Hp), b ∉ as → putP H as xs ys b = H b
  | [], _, _, _, _ => rfl
  | _ :: _, [], _, _, _ => rfl
  | _ :: _, _ :: _, [], _, _ => rfl
  | a :: as, x :: xs, y :: ys, H, h => by
    show putP (upd H a (.tup [x, y])) as xs ys b = H b
    rw [putP_off as xs ys _ (fun z => h (List.mem_cons_of_mem _ z)), upd_ne (fun z => h (by rw [z]; exact List.mem_cons_self))]
theorem putP_at : ∀ (as : List Addr) (xs ys : List V) (H : Hp) (j : Nat) (a : Addr) (x y : V), as.Nodup → as[j]? = some a → xs[j]? = some x → ys[j]? = some y → putP H as xs ys a = some (.tup [x, y])
  | [], _, _, _, j, a, x, y, _, h, _, _ => by simp at h
  | _ :: _, [], _, _, j, a, x, y, _, _, h, _ => by simp at h
  | _ :: _, _ :: _, [], _, j, a, x, y, _, _, _, h => by simp at h
  | b :: as, x0 :: xs, y0 :: ys, H, j, a, x, y, nd, h1, h2, h3 => by
    have nd' := List.nodup_cons.mp nd
    show putP (upd H b (.tup [x0, y0])) as xs ys a = some (.tup [x, y])
    cases j with
    | zero =>
      cases h1; cases h2; cases h3
      rw [putP_off as xs ys _ nd'.1, upd_same]
    | succ j => exact putP_at as xs ys _ j a x y nd'.2 (by simpa using h1) (by simpa using h2) (by simpa using h3)
def tListZip (K : PySem.W.Frag) (ta : TA) : TE := fun σ H Q => ta σ H fun vs H1 => ∃ a b xs ys, vs = [.ref a, .ref b] ∧ SqT K H1 a xs ∧ SqT K H1 b ys ∧ ys.length = xs.length ∧
  ∀ (H' : Hp) (p : Addr) (as : List Addr), H1 p = none → (∀ t ∈ as, H1 t = none) → p ∉ as → as.Nodup → as.length = xs.length → H' = putP (upd H1 p (.lst (as.map V.ref))) as xs ys → Q (.ref p) H'
section
variable {X : Cx} {e e2 : Expr} {ta : TA} {p p2 zpos pos : Pos}
theorem vals_get : ∀ {xs : List V} {us : List Value} {j : Nat} {u : Value}, Vals xs us → us[j]? = some u → ∃ x, xs[j]? = some x ∧ RelV x u
  | _, _, _, _, .nil, h => by simp at h
  | _, _, 0, _, .cons r _, h => by cases h; exact ⟨_, rfl, r⟩
  | x :: xs, v :: us, j + 1, u, .cons _ t, h => by
    have h' : us[j]? = some u := by simpa using h
    obtain ⟨y, e1, e2⟩ := vals_get t h'
    exact ⟨y, by simpa using e1, e2⟩
theorem pe_listZip (hc : X.calm = true) (hg : Gl X "list") (hm : X.mg "list" = none) (hg2 : Gl X "zip") (hm2 : X.mg "zip" = none) (ha : PA X [e, e2] ta)
    (hs : starEach [.Call (.Name "zip" p2) [e, e2] [] zpos] X.env = (false, eval (.Call (.Name "zip" p2) [e, e2] [] zpos) X.env) :: starEach [] X.env := by rfl)
    (hs2 : starEach [e, e2] X.env = (false, eval e X.env) :: starEach [e2] X.env := by rfl) (hpl2 : (backTo zpos (starEach [e2] X.env)).any (·.1) = false := by rfl) :
    PE X (.Call (.Name "list" p) [.Call (.Name "zip" p2) [e, e2] [] zpos] [] pos) (tListZip X.K ta) := by
  refine ⟨fun pins s σ H Q I h => ?_⟩
  refine wpAny_Call_Name_kw (ld_blt I hg hm (u := .type "list") (by decide +kernel) ?_)
  refine PyProof.Rows.callWith_type1 ?_ hs rfl
  rw [hs]
  show wpAny _ _ (spliced ((false, eval (.Call (.Name "zip" p2) [e, e2] [] zpos) X.env) :: backTo pos (starEach [] X.env))) _ _ s
  refine Calls.spliced_cons ?_
  refine Call_ (ld_blt I hg2 hm2 PyProof.Rows.boot_zip (PyProof.Rows.callWith_type1 (thn (ha.run zpos pins s σ H _ I h) fun us s1 ⟨vs, H1, I1, r1, q1⟩ => ?_) hs2 hpl2))
  obtain ⟨a, b, xs, ys, ex, hqx, hqy, hl, q⟩ := q1
  subst ex
  cases r1 with
  | cons r rr =>
    cases rr with
    | cons r' rr =>
      cases rr
      cases r
      cases r'
      obtain ⟨its, rv, p1, hz1⟩ := I1.tuple hqx
      obtain ⟨its2, rv2, p2, _⟩ := I1.tuple hqy
      obtain ⟨o1, ho1, _⟩ := id p1
      obtain ⟨o2, ho2, _⟩ := id p2
      have t1 : s1.heap.IsTuple a its.toArray := p1
      have t2 : s1.heap.IsTuple b its2.toArray := p2
      have la := Heap.lt_size ho1
      have lb := Heap.lt_size ho2
      refine RZ.call_zipT t1 t2 fun h' hz hTI hTO h1 h2 hsz hk => ?_
      refine Calls.spliced_nil ?_
      have D := PySem.W.ktu_apart s1.heap.objs.size a b la lb
      have Z : ZAt h' (s1.heap.objs.size + 4) (s1.heap.objs.size + 2) (s1.heap.objs.size + 3) s1.heap.objs.size (s1.heap.objs.size + 1) a b its.toArray its2.toArray 0 := ⟨hTI, h1, h2, let ⟨o, a, b⟩ := t1; ⟨o, hk _ _ a, b⟩, let ⟨o, a, b⟩ := t2; ⟨o, hk _ _ a, b⟩, .inl ⟨hz, _, _, hTO⟩⟩
      have L1 : xs.length = its.length := rv.length
      have L2 : ys.length = its2.length := rv2.length
      have I2 : Inv X pins σ H1 { s1 with heap := h' } := I1.kept (t' := s1.toks) hk
      refine zlist (s := { s1 with heap := h' }) (I2.ok.hd hc) D (by rw [List.size_toArray]; omega) (by rw [List.size_toArray, List.size_toArray]; omega) Z hz (by show _ < h'.objs.size; rw [hsz]; exact Nat.lt_succ_of_lt (Nat.lt_succ_self _)) fun h'' tk acc c as ⟨k1, k2, k3, k4, k5⟩ => ?_
      have big : ∀ b o, s1.heap.get? b = some o → h''.get? b = some o := fun b o e => by
        have lt := Heap.lt_size e
        exact k1 b o (by show b ≠ h'.objs.size; rw [hsz]; exact Nat.ne_of_lt (Nat.lt_of_lt_of_le lt (Nat.le_add_right _ _))) (Nat.ne_of_lt (Nat.lt_of_lt_of_le lt (Nat.le_add_right _ _))) (Nat.ne_of_lt (Nat.lt_of_lt_of_le lt (Nat.le_add_right _ _))) (Nat.ne_of_lt lt) (Nat.ne_of_lt (Nat.lt_succ_of_lt lt)) (hk b o e)
      obtain ⟨S, hS⟩ : ∃ S, S = h'.objs.size := ⟨_, rfl⟩
      have hSge : s1.heap.objs.size ≤ S := by rw [hS, hsz]; exact Nat.le_add_right _ _
      rw [← hS] at k2 k4
      show ∃ x H', Inv X pins σ H' { s1 with heap := h'', toks := tk } ∧ RelV x (.ref h'.objs.size) ∧ Q x H'
      rw [← hS]
      have nd : as.Nodup := List.Pairwise.imp (fun {a b} (h : a < b) => Nat.ne_of_lt h) k4.rise
      have newT : ∀ t ∈ as, H1 t = none := fun t ht => I1.hok.fresh (Nat.le_trans hSge (Nat.le_of_lt (k4.above t ht)))
      have newS : H1 S = none := I1.hok.fresh hSge
      have hSn : S ∉ as := fun z => Nat.lt_irrefl _ (k4.above _ z)
      have la2 : as.length = xs.length := by rw [k3, List.size_toArray]; omega
      obtain ⟨G, hG⟩ : ∃ G, G = putP (upd H1 S (.lst (as.map V.ref))) as xs ys := ⟨_, rfl⟩
      have off : ∀ b, b ∉ as → b ≠ S → G b = H1 b := fun b h1 h2 => by rw [hG, putP_off as xs ys _ h1, upd_ne h2]
      have kp : ∀ b u, H1 b = some u → G b = some u := fun b u e => by
        rw [off b (fun z => by rw [newT b z] at e; cases e) (fun z => by rw [z, newS] at e; cases e)]
        exact e
      have eS : G S = some (.lst (as.map V.ref)) := by rw [hG, putP_off as xs ys _ hSn, upd_same]
      have low : ∀ b o, s1.heap.get? b = some o → b ∉ as ∧ b ≠ S := fun b o e => ⟨fun z => absurd (Heap.lt_size e) (Nat.not_lt.mpr (Nat.le_trans hSge (Nat.le_of_lt (k4.above b z)))), Nat.ne_of_lt (Nat.lt_of_lt_of_le (Heap.lt_size e) hSge)⟩
      refine ⟨.ref S, G, ?_, rfl, q G S as newS newT hSn nd la2 hG⟩
      refine I1.call' (ch := []) rfl ⟨fun b o q _ _ _ => big b o q, fun b o q _ _ _ => ⟨o.slots, big b o q⟩, fun b o q n _ => ?_, fun b o q _ => ⟨o, big b o q⟩, fun b xs q => kp b _ q, fun b o u q => kp b _ q, fun b ps q => ⟨#[], by rw [kp b _ q]; simp⟩⟩ (fun b u q => ?_) I1.bare fun b z => by simp at z
      · obtain ⟨z1, z2⟩ := low b o q
        rw [off b z1 z2]
        exact n
      · by_cases hb : b ∈ as
        · obtain ⟨j, hj⟩ := List.mem_iff_getElem?.mp hb
          obtain ⟨x, y, e1, e2, e3⟩ := k4.pairs j b hj
          obtain ⟨vx, g1, g2⟩ := vals_get (j := j) (u := x) rv (by simpa using e1)
          obtain ⟨vy, g3, g4⟩ := vals_get (j := j) (u := y) rv2 (by simpa using e2)
          have z := putP_at as xs ys (upd H1 S (.lst (as.map V.ref))) j b vx vy nd hj g1 g3
          rw [hG, z] at q
          cases q
          exact ⟨by show 2 ≤ sizeLine; rw [sizeLine_eq]; decide, [x, y], .cons g2 (.cons g4 .nil), ⟨_, e3, rfl, _, rfl⟩⟩
        · by_cases hb2 : b = S
          · rw [hb2] at q ⊢
            rw [eS] at q
            cases q
            refine ⟨by rw [List.length_map, la2]; exact hz1, acc.toList, c, by rw [k5]; exact vals_rr as, ?_⟩
            rw [Array.toArray_toList]
            exact k2
          · rw [off b hb hb2] at q
            exact (I1.hok b u q).stay (fun d v _ y => big d v y) (fun d y => kp d _ y) fun d xs y => kp d _ y
where
  vals_rr : ∀ as : List Addr, Vals (as.map V.ref) (as.map Value.ref)
    | [] => .nil
    | _ :: as => .cons rfl (vals_rr as)
end
end Qd
set_option Elab.async false
set_option linter.all false
set_option maxRecDepth 100000
set_option maxHeartbeats 2000000
/-! Layer Q: list(zip(t, u)), d != e of equal dicts, over data. -/
namespace Qd
open PySem PySem.Spec PyProof.Rows L2 PySem.W
theorem putP_upd {p : Addr} {o : HO} : ∀ (as : List Addr) (xs ys : List V) (H : Hp), p ∉ as → putP (upd H p o) as xs ys = upd (putP H as xs ys) p o
  | [], _, _, _, _ => rfl
  | _ :: _, [], _, _, _ => rfl
  | _ :: _, _ :: _, [], _, _ => rfl
  | a :: as, x :: xs, y :: ys, H, h => by
    have ne : a ≠ p := fun z => h (by rw [z]; exact List.mem_cons_self)
    show putP (upd (upd H p o) a (.tup [x, y])) as xs ys = upd (putP (upd H a (.tup [x, y])) as xs ys) p o
    have e : upd (upd H p o) a (.tup [x, y]) = upd (upd H a (.tup [x, y])) p o := by
      funext b
      by_cases h1 : b = a
      · subst h1; rw [upd_same, upd_ne ne, upd_same]
      · by_cases h2 : b = p
        · subst h2; rw [upd_ne h1, upd_same, upd_same]
        · rw [upd_ne h1, upd_ne h2, upd_ne h2, upd_ne h1]
    rw [e]
    exact putP_upd as xs ys _ fun z => h (List.mem_cons_of_mem _ z)
section
variable {K : PySem.W.Frag} {φ : List Addr} {S : Store} {H : Hp}
theorem putP_ext : ∀ (as : List Addr) (xs ys : List V) {H : Hp}, RS K φ S H → (∀ t ∈ as, H t = none) → as.Nodup → Ext φ H φ (putP H as xs ys) ∧ RS K φ S (putP H as xs ys)
  | [], _, _, _, r, _, _ => ⟨r.ext, r⟩
  | _ :: _, [], _, _, r, _, _ => ⟨r.ext, r⟩
  | _ :: _, _ :: _, [], _, r, _, _ => ⟨r.ext, r⟩
  | a :: as, x :: xs, y :: ys, H, r, h, nd => by
    have nd' := List.nodup_cons.mp nd
    have ha := h a List.mem_cons_self
    obtain ⟨e, r2⟩ := putP_ext as xs ys (r.fresh (o := .tup [x, y]) ha) (fun t ht => by
      have tn : t ≠ a := fun z => nd'.1 (z ▸ ht)
      rw [upd_ne tn]; exact h t (List.mem_cons_of_mem _ ht)) nd'.2
    exact ⟨(Ext.fresh r ha).trans e, r2⟩
/-- the pairs as data -/
def zipD : List D → List D → List D
  | x :: xs, y :: ys => .tup [x, y] :: zipD xs ys
  | _, _ => []
theorem zipD_rv : ∀ {ds es : List D} {xs ys : List V} {as : List Addr}, RVs K φ H ds xs → RVs K φ H es ys → as.length = xs.length → ys.length = xs.length → (∀ (j : Nat) (a : Addr) (x y : V), as[j]? = some a → xs[j]? = some x → ys[j]? = some y → H a = some (.tup [x, y])) → RVs K φ H (zipD ds es) (as.map V.ref)
  | [], es, _, ys, as, h1, h2, e1, e2, _ => by
    subst h1
    have : as = [] := List.length_eq_zero_iff.mp (by simpa using e1)
    subst this
    cases es <;> rfl
  | d :: ds, [], _, ys, as, ⟨x, q, e, _, _⟩, h2, e1, e2, _ => by
    subst e h2
    simp at e2
  | d :: ds, e :: es, _, _, as, ⟨x, q, ex, g1, h1⟩, ⟨y, r, ey, g2, h2⟩, e1, e2, k => by
    subst ex ey
    match as, e1 with
    | a :: as, e1 =>
      refine ⟨.ref a, as.map V.ref, rfl, ⟨a, [x, y], rfl, k 0 a x y rfl rfl rfl, x, _, rfl, g1, y, _, rfl, g2, rfl⟩, ?_⟩
      exact zipD_rv h1 h2 (by simpa using e1) (by simpa using e2) fun j b u v p1 p2 p3 => k (j + 1) b u v (by simpa using p1) (by simpa using p2) (by simpa using p3)
end
def wLZip (a : WA) : WE := fun env S Q X => a env S (fun ds S1 => ∃ xs ys, ds = [.tup xs, .tup ys] ∧ ys.length = xs.length ∧ Q (.loc S1.length) (S1 ++ [.lst true (zipD xs ys)])) X
section
variable {X : Cx} {E : XK} {e e2 : Expr} {wr : WA} {p p2 zpos pos : Pos}
theorem q_lzip (hc : X.calm = true) (hg : Gl X "list") (hm : X.mg "list" = none) (hg2 : Gl X "zip") (hm2 : X.mg "zip" = none) (ha : QA X E [e, e2] wr)
    (hs : starEach [.Call (.Name "zip" p2) [e, e2] [] zpos] X.env = (false, eval (.Call (.Name "zip" p2) [e, e2] [] zpos) X.env) :: starEach [] X.env := by rfl)
    (hs2 : starEach [e, e2] X.env = (false, eval e X.env) :: starEach [e2] X.env := by rfl) (hpl2 : (backTo zpos (starEach [e2] X.env)).any (·.1) = false := by rfl) :
    QE X E (.Call (.Name "list" p) [.Call (.Name "zip" p2) [e, e2] [] zpos] [] pos) (wLZip wr) := (pe_listZip hc hg hm hg2 hm2 ha hs hs2 hpl2).imp fun σ H Q ⟨φ, env, S, Q', X', rs, re, q, k, x⟩ =>
  ⟨φ, env, S, _, X', rs, re, q, fun ds S1 φ1 vs H1 e1 rs1 rv1 ⟨xs, ys, ed, hl, q1⟩ => by
    subst ed
    obtain ⟨u, r, rfl, ⟨a, us, rfl, h1, g1⟩, v, r2, rfl, ⟨b, ws, rfl, h2, g2⟩, rfl⟩ := rv1
    have l1 := g1.len
    have l2 := g2.len
    refine ⟨a, b, us, ws, rfl, SqT.of h1, SqT.of h2, by omega, fun H' y as ny nt nm nd hn eH => ?_⟩
    obtain ⟨e2, rs2⟩ := putP_ext as us ws rs1 nt nd
    have np : putP H1 as us ws y = none := by rw [putP_off as us ws _ nm]; exact ny
    rw [putP_upd as us ws _ nm] at eH
    subst eH
    have at' : ∀ (j : Nat) (c : Addr) (x y : V), as[j]? = some c → us[j]? = some x → ws[j]? = some y → putP H1 as us ws c = some (.tup [x, y]) := fun j c x y p1 p2 p3 => putP_at as us ws H1 j c x y nd p1 p2 p3
    have rvz := zipD_rv (g1.mono e2) (g2.mono e2) (as := as) hn (by omega) at'
    exact (k.mono (e1.trans e2)).lst rs2 rvz q1 np, x⟩
end
/-! d != e, equal -/
def rNeK (K : PySem.W.Frag) : R2 := fun x y H Q => ∃ a b ks ls, x = .ref a ∧ y = .ref b ∧ H a = some (.dK ks) ∧ H b = some (.dK ls) ∧ ks.length = ls.length ∧
  (∀ p ∈ ks, ∃ u d e, valV ls p.1 = some u ∧ Dp K H p.2 d ∧ Dp K H u e ∧ SeqAt.shaped d = true ∧ SeqAt.shaped e = true ∧ PyData.eqv d e = true) ∧ Q (.bl false) H
theorem hits_ne {X : Cx} {pins : List (Addr × Obj)} {σ : L2.St} {H : Hp} {s : Shared} {A : Around} (I : Inv X pins σ H s) (hu : A.in1.units + 64 < cLine) {ls : List (Key × V)} {vb : List (Key × Value)} (rb : KV ls vb) {ks : List (Key × V)} {va : List (Key × Value)} (ra : KV ks va) :
    (∀ p ∈ ks, ∃ u d e, valV ls p.1 = some u ∧ Dp X.K H p.2 d ∧ Dp X.K H u e ∧ SeqAt.shaped d = true ∧ SeqAt.shaped e = true ∧ PyData.eqv d e = true) → KeqHits A.in1 s vb va true := by
  unfold KV at ra
  induction ra with
  | nil => intro _; exact .nil
  | @cons p q ps qs h t k =>
    intro hp
    obtain ⟨h1, h2⟩ := h
    obtain ⟨u, d, e, g1, g2, g3, g4, g5, g6⟩ := hp p List.mem_cons_self
    have rr : RelO (some u) (valueAt vb p.1) := by rw [← g1]; exact rb.val p.1
    obtain ⟨y, hy, ry⟩ := rr.some_of
    obtain ⟨key, v⟩ := q
    have h1' : p.1 = key := h1
    rw [h1'] at hy
    obtain ⟨as, r1⟩ := Dp.reads I d _ _ g2 h2
    obtain ⟨bs, r2⟩ := Dp.reads I e _ _ g3 ry
    have at1 := keq_at (A := A) (s := s) r1 r2 g4 g5 hu
    rw [g6] at at1
    show KeqHits A.in1 s vb ((key, v) :: qs) (true && true)
    exact .hit hy at1 (k fun p' hm => hp p' (List.mem_cons_of_mem _ hm))
theorem op_neK {X : Cx} (hu : X.A.units + 65 < cLine) : OpR X (compareOp .NotEq) (rNeK X.K) := by
  intro pins s σ H x y v u Q I rx ry h
  obtain ⟨a, b, ks, ls, rfl, rfl, ha, hb, hl, hp, q⟩ := h
  cases (show v = Value.ref a from rx)
  cases (show u = Value.ref b from ry)
  obtain ⟨_, ya, va, ra, da⟩ := (show ObjOk X.prog X.w H s.heap a (.dK ks) from I.hok a _ ha)
  obtain ⟨_, yb, vb, rb, db⟩ := (show ObjOk X.prog X.w H s.heap b (.dK ls) from I.hok b _ hb)
  refine keq_ne (knd := mixKind X.prog X.w) (r := true) ya yb da db (by omega) (fun _ => hits_ne (A := X.A) I (by show X.A.units + 1 + 64 < cLine; omega) rb ra hp) ?_
  have e : va.length = vb.length := by rw [← ra.length, ← rb.length]; exact hl
  rw [show (va.length == vb.length && true) = true from by rw [e]; simp]
  exact ⟨.bl false, H, I, rfl, q⟩
def fNeK : WO2 := fun x y S Q => ∃ n m ks ls, x = .loc n ∧ y = .loc m ∧ S[n]? = some (.dK true ks) ∧ S[m]? = some (.dK true ls) ∧ ks.length = ls.length ∧
  (∀ k d, (k, d) ∈ ks → ∃ e p q, val ls k = some e ∧ Py S d p ∧ Py S e q ∧ SeqAt.shaped p = true ∧ SeqAt.shaped q = true ∧ PyData.eqv p q = true) ∧ Q (.bl false) S
theorem RK.mem {κ : Type} {K : PySem.W.Frag} {φ : List Addr} {H : Hp} : ∀ {kvs : List (κ × D)} {ys : List (κ × V)} {k : κ} {v : V}, RK K φ H kvs ys → (k, v) ∈ ys → ∃ d, (k, d) ∈ kvs ∧ RV K φ H d v
  | [], _, _, _, h, m => by subst h; cases m
  | (a, d) :: r, _, k, v, ⟨u, q, e, e2, h⟩, m => by
    subst e
    rcases List.mem_cons.mp m with z | z
    · cases z; exact ⟨d, List.mem_cons_self, e2⟩
    · obtain ⟨d', h1, h2⟩ := RK.mem h z
      exact ⟨d', List.mem_cons_of_mem _ h1, h2⟩
theorem ro_neK {K : PySem.W.Frag} : RO2 K (rNeK K) fNeK := by
  intro φ S H x y v u Q Q' r hx hy h k
  obtain ⟨n, m, ks, ls, rfl, rfl, h1, h2, hl, hp, q⟩ := h
  obtain ⟨a, ys, rfl, _, _, g1, g2⟩ := r.dK hx h1
  obtain ⟨b, zs, rfl, _, _, g3, g4⟩ := r.dK hy h2
  refine ⟨a, b, ys, zs, rfl, rfl, g2 rfl, g4 rfl, by rw [← g1.len2, ← g3.len2]; exact hl, fun p hm => ?_, k.same r (d := .bl false) rfl q⟩
  obtain ⟨key, w⟩ := p
  obtain ⟨d, h5, h6⟩ := g1.mem hm
  obtain ⟨e, p, q, f1, f2, f3, f4, f5, f6⟩ := hp key d h5
  have hv := g3.val key
  rw [f1] at hv
  obtain ⟨z, hz, rz⟩ := hv
  exact ⟨z, p, q, hz, f2.dp r h6, f3.dp r rz, f4, f5, f6⟩
end Qd
set_option Elab.async false
set_option linter.all false
set_option maxRecDepth 100000
set_option maxHeartbeats 2000000
/-! Layer Q: enumerate(t), t a tuple. -/
namespace Qd
open PySem PySem.Spec PyProof.Rows L2
/-- a new enumerate over a tuple -/
theorem enum_newT (t : Addr) (items : Array Value) :
    Meets (Builtin.«enumerate.__new__» ⟨[.type "enumerate", .ref t], []⟩) (fun _ R s => s.heap.IsTuple t items ∧ R (.ok (.ret (.ref (s.heap.push { cls := .type "tuple_iterator", data := .fields #[.ref t, .int 0 0] }).objs.size)))
        { s with heap := (s.heap.push { cls := .type "tuple_iterator", data := .fields #[.ref t, .int 0 0] }).push { cls := .type "enumerate", data := .fields #[.none, .bool false, .ref s.heap.objs.size, rawInt 0, .none, .none] } }) :=
  .of_wp fun prog w A R s h => by
    obtain ⟨hp, g, d, tk, os⟩ := s; obtain ⟨hl, h⟩ := h
    have hsub := sub_enumerate
    have hL : Heap.IsTuple (Shared.heap ⟨hp, g, d, tk, os⟩) t items := hl
    obtain ⟨⟨oc, od, odt, osl⟩, hget, hcls, nn, hdat⟩ := id hl
    simp only at hcls hdat
    subst hcls hdat
    wp_walk using AutoSeq1.wpAny_loadPart' hget
    refine wpAny_stack_any fun st => wpAny_pure ?_
    split
    · rename_i c _ _ _ _ _
      cases (c == Value.type "enumerate")
      · wp_walk using AutoSeq1.wpAny_loadPart' hget, wpAny_pyIter_tuple hL
        exact ⟨_, rfl, h⟩
      · wp_walk using AutoSeq1.wpAny_loadPart' hget, wpAny_pyIter_tuple hL
        exact ⟨_, rfl, h⟩
    · wp_walk using AutoSeq1.wpAny_loadPart' hget, wpAny_pyIter_tuple hL
      exact ⟨_, rfl, h⟩
theorem call_enumT {prog : Program} {w : World} {A : Around} {E : Value → Shared → Prop} {s : Shared} {t : Addr} {items : Array Value} {Q : Value → Shared → Prop} (ht : s.heap.IsTuple t items)
    (h : ∀ h', IsEnum h' (s.heap.objs.size + 1) s.heap.objs.size 0 .none → h'.IsTupleIter s.heap.objs.size t 0 → h'.objs.size = s.heap.objs.size + 2 → (∀ b o, s.heap.get? b = some o → h'.get? b = some o) → Q (.ref (s.heap.objs.size + 1)) { s with heap := h' }) :
    wpAny (model prog w) A (call (.type "enumerate") [.ref t]) Q E s := by
  refine callType_new PySem.F.called_enumerate (by decide) (PySem.F.typeCall_enumerate_1 _) (PySem.F.newCall_enumerate_1 _) (fun obj => PySem.F.args_object_init_2 obj _) PySem.F.entry_enumerate_new (enum_newT t items) ⟨ht, ?_⟩
  have hz : (s.heap.push { cls := .type "tuple_iterator", data := .fields #[.ref t, .int 0 0] }).objs.size = s.heap.objs.size + 1 := Heap.size_push ..
  show _ ∧ _
  rw [hz]
  have he : IsEnum ((s.heap.push { cls := .type "tuple_iterator", data := .fields #[.ref t, .int 0 0] }).push
      { cls := .type "enumerate", data := .fields #[.none, .bool false, .ref s.heap.objs.size, rawInt 0, .none, .none] }) (s.heap.objs.size + 1) s.heap.objs.size 0 .none := by
    have := Heap.get?_push_size (s.heap.push { cls := .type "tuple_iterator", data := .fields #[.ref t, .int 0 0] })
      (o := { cls := .type "enumerate", data := .fields #[.none, .bool false, .ref s.heap.objs.size, rawInt 0, .none, .none] }) rfl
    rw [hz] at this; exact this
  exact ⟨⟨_, he, rfl⟩, h _ he ⟨_, Heap.get?_push_of_some _ (Heap.get?_push_size _ rfl), rfl, rfl⟩ (by rw [Heap.size_push, hz]) fun b o y => Heap.get?_push_of_some _ (Heap.get?_push_of_some _ y)⟩
/-- each item of the tuple at a in a new pair -/
def IteT (K : PySem.W.Frag) (a : Addr) : It :=
  ⟨fun i H => ∃ (xs : List V) (x : V), SqT K H a xs ∧ xs[i]? = some x, fun i H v H' => ∃ T x, v = .ref T ∧ H T = none ∧ H' = upd H T (.tup [.int (i : Nat), x]) ∧ ∀ xs, SqT K H a xs → xs[i]? = some x, fun i H => ∃ xs : List V, SqT K H a xs ∧ xs.length ≤ i⟩
theorem tup_inj {X : Cx} {pins : List (Addr × Obj)} {σ : L2.St} {H : Hp} {s : Shared} {a : Addr} {xs ys : List V} (I : Inv X pins σ H s) (h : H a = some (.tup xs)) (g : SqT X.K H a ys) : ys = xs := by
  rcases g with (g | ⟨o, g⟩) | ⟨o, its, n, hk, hc, hd, hz, hv⟩
  · rw [h] at g; cases g; rfl
  · rw [h] at g; cases g
  · exact I.tuple_inj (.inr ⟨o, its, n, hk, hc, hd, hz, hv⟩) (SqT.of h)
theorem turn_enumT {P : Program} {w : World} {K : PySem.W.Frag} {elts : List Expr} {kk : Nat} {tpos : Pos} (a e it : Addr) :
    Turn P w K (.Tuple elts kk tpos) (IteT K a) [e, it] e (fun i h => (∃ old, IsEnum h e it ((i : Nat) : Int) old) ∧ h.IsTupleIter it a i ∧ e ≠ it ∧ a ≠ it ∧ a ≠ e) where
  mem := by simp
  obj := fun i h st b hb => by
    obtain ⟨⟨old, he⟩, ⟨o, ho, hc, hd⟩, _⟩ := st
    have e' : b = e ∨ b = it := by simpa using hb
    rcases e' with z | z
    · rw [z]; exact ⟨_, he, fun v q => nomatch q⟩
    · rw [z]; exact ⟨o, ho, fun v q => by rw [hd] at q; cases q⟩
  keep := fun i h h' st k => let ⟨⟨old, he⟩, hi, hne⟩ := st; ⟨⟨old, k e (by simp) _ he⟩, hi.at fun o q => k it (by simp) o q, hne⟩
  item := by
    intro X hP hw hK hc i pins s σ H E I hf st hg
    subst hP hw hK
    obtain ⟨⟨old, he⟩, hit, hne, hai, hae⟩ := st
    obtain ⟨xs, x, hq, hx⟩ := hg
    obtain ⟨its, rv, p, hz⟩ := I.tuple hq
    obtain ⟨u, hu, ru⟩ := rv.get hx
    have hel : e < s.heap.objs.size := Heap.lt_size he
    have hil : it < s.heap.objs.size := by obtain ⟨_, q, _⟩ := hit; exact Heap.lt_size q
    have hlt : i < its.toArray.size := by rw [List.size_toArray]; exact (List.getElem?_eq_some_iff.mp hu).1
    have pt : s.heap.IsTuple a its.toArray := p
    refine wpAny_pyNext_enum_itemD (Draws.tuple (prog := X.prog) (w := X.w) (A := X.A.in1) (I.ok.hd hc) it a hai its.toArray) he ⟨hit, pt⟩ hlt hne (by simp [hne, Ne.symm hae]) fun y h' tk hy ho hst' hT hsz hk => ?_
    obtain ⟨hit', _⟩ := hst'
    have ey : y = u := by
      have : its[i]? = some y := by simpa using hy
      rw [hu] at this
      exact (Option.some.inj this).symm
    subst ey
    refine ⟨_, rfl, wpAny_letOwnedTupleGo_enum (s := { s with heap := h', toks := tk + 1 }) ho fun h'' he' sb => ?_⟩
    have hT2 : h''.get? s.heap.objs.size = some { cls := .type "tuple", data := .seq #[.int i tk, y] } := (sb.2 _ (Nat.ne_of_gt hel)).trans hT
    have new : ObjOk X.prog X.w (upd H s.heap.objs.size (.tup [.int (i : Nat), x])) h'' s.heap.objs.size (.tup [.int (i : Nat), x]) :=
      ⟨by show 2 ≤ sizeLine; decide, [.int i tk, y], .cons ⟨_, rfl⟩ (.cons ru .nil), ⟨_, hT2, rfl, _, rfl⟩⟩
    have I1 : Inv X pins σ (upd H s.heap.objs.size (.tup [.int (i : Nat), x])) { s with heap := h'', toks := tk + 1 } :=
      I.turnedNew (ch := [e, it]) (fun b ob hb q => (sb.2 b (fun z => hb (by simp [z]))).trans (hk b ob (fun z => hb (by simp [z])) (fun z => hb (by simp [z])) q)) hf (Nat.le_refl _) new
    refine ⟨.ref s.heap.objs.size, _, I1, rfl, ⟨_, x, rfl, I.hok.fresh (Nat.le_refl _), rfl, fun ys hy => by rw [I.tuple_inj hy hq]; exact hx⟩, ⟨⟨y, ?_⟩, hit'.at fun o q => (sb.2 it (Ne.symm hne)).trans q, hne, hai, hae⟩, fun b hb => ?_⟩
    · have e1 : ((i + 1 : Nat) : Int) = (i : Int) + 1 := by omega
      rw [e1]; exact he'
    · have hb' : b < s.heap.objs.size := by
        have e' : b = e ∨ b = it := by simpa using hb
        rcases e' with z | z
        · rw [z]; exact hel
        · rw [z]; exact hil
      rw [upd_ne (Nat.ne_of_lt hb')]
      exact (hf b hb).1
  done := by
    intro X hP hw hK hc i pins s σ H E I hf st hg
    subst hP hw hK
    obtain ⟨⟨old, he⟩, hit, hne, hai, hae⟩ := st
    obtain ⟨xs, hq, hx⟩ := hg
    obtain ⟨its, rv, p, hz⟩ := I.tuple hq
    obtain ⟨f0, f1, f2, f3, f4, f5⟩ := hf it (by simp)
    have hl := rv.length
    have pt : s.heap.IsTuple a its.toArray := p
    have hT : s.TypeIs (.ref e) "enumerate" := ⟨_, he, rfl⟩
    unfold pyNext
    refine wpAny_bind (wpAny_attempt (wpAny_callSpecial?_slot (name := Str.ofString "__next__") hT PySem.F.slot_enumerate_next
      (wpAny_call_entry PySem.F.slot_enumerate_next hT PySem.F.entry_enumerate_next ?_ (PySem.F.args_enumerate_next_1 _))))
    show wpAny _ _ (field (.ref e) 2 >>= _) _ _ _
    refine wpAny_bind (wpAny_field he rfl (x := .ref it) rfl ?_)
    refine wpAny_bind (RZ.nextOf_tuple_end (I.ok.hd hc) hit pt (Array.getElem?_eq_none (by rw [List.size_toArray]; omega)) fun h' x he' hx' => ?_)
    obtain ⟨o, ho, hcx⟩ := hx'
    refine wpAny_bind (wpAny_isInstance (T := "StopIteration") (b := true) ⟨o, ho, hcx⟩ isSubtype_stop ?_)
    exact wpAny_pure ⟨rfl, I.turned (t' := s.toks) (fun b o hb q => he' b o hb q) f0 f1 f3 f4 f5⟩
  self := fun A i s Q E st h => let ⟨⟨_, he⟩, _⟩ := st; wpAny_pyIter_enum he h
def iEnumT (K : PySem.W.Frag) (ta : TA) : TI := fun σ H R => ta σ H fun vs H1 => ∃ a xs, vs = [.ref a] ∧ SqT K H1 a xs ∧ R (IteT K a) H1
theorem pi_enumT {X : Cx} {e : Expr} {ta : TA} {p pos tpos : Pos} {elts : List Expr} {kk : Nat} (hg : Gl X "enumerate") (hm : X.mg "enumerate" = none) (ha : PA X [e] ta) (hs : starEach [e] X.env = [(false, eval e X.env)] := by rfl) :
    PI X (.Tuple elts kk tpos) (.Call (.Name "enumerate" p) [e] [] pos) (iEnumT X.K ta) := by
  refine ⟨fun pins s σ H R I h => ?_⟩
  refine Call_ (ld_blt I hg hm boot_enumerate (PyProof.Rows.callWith_type1 (thn (ha.run pos pins s σ H _ I h) fun us s1 ⟨vs, H1, I1, r1, q1⟩ => ?_) hs rfl))
  obtain ⟨a, xs, ex, hq, q⟩ := q1
  subst ex
  cases r1 with
  | cons r rr =>
    cases rr
    cases r
    obtain ⟨its, rv, p', hz⟩ := I1.tuple hq
    have pt : s1.heap.IsTuple a its.toArray := p'
    obtain ⟨oa, hoa, _⟩ := id pt
    have la := Heap.lt_size hoa
    refine call_enumT pt fun h' he hit hsz hk => wpAny_pyIter_enum he ?_
    have I2 : Inv X pins σ H1 { s1 with heap := h' } := I1.kept (t' := s1.toks) hk
    refine ⟨s1.heap.objs.size + 1, [s1.heap.objs.size + 1, s1.heap.objs.size], _, _, H1, rfl, I2, turn_enumT a (s1.heap.objs.size + 1) s1.heap.objs.size, ⟨⟨.none, he⟩, hit, Nat.succ_ne_self _, Nat.ne_of_lt la, Nat.ne_of_lt (Nat.lt_succ_of_lt la)⟩, fun b hb => ?_, q⟩
    have e' : b = s1.heap.objs.size + 1 ∨ b = s1.heap.objs.size := by simpa using hb
    have hle : s1.heap.objs.size ≤ b := by
      rcases e' with z | z
      · rw [z]; exact Nat.le_add_right _ _
      · rw [z]; exact Nat.le_refl _
    exact I1.fpOk hle (I1.hok.fresh hle)
def iEnT (a : WE) : WI := fun env S R X => a env S (fun d S1 => match d with
  | .tup ds => R (ds.mapIdx fun i d => .tup [.int (i : Nat), d]) (fun _ => True) S1
  | _ => False) X
theorem qi_enumT {X : Cx} {E : XK} {e : Expr} {wa : WE} {pos : Pos} {elts : List Expr} {kk : Nat} {tpos p2 : Pos} (hg : Gl X "enumerate") (hm : X.mg "enumerate" = none) (h : QE X E e wa) (hs : starEach [e] X.env = [(false, eval e X.env)] := by rfl) : QI X E (.Tuple elts kk tpos) (.Call (.Name "enumerate" p2) [e] [] pos) (iEnT wa) := (pi_enumT hg hm (pa_cons h pa_nil hs) hs).imp fun σ H R ⟨φ, env, S, R', X', rs, re, q, k, x⟩ =>
  ⟨φ, env, S, _, X', rs, re, q, fun d S1 φ1 v H1 e1 rs1 rv1 q1 => by
    cases d <;> first
      | exact False.elim q1
      | skip
    case tup ds =>
      obtain ⟨a, xs, rfl, h1, h3⟩ := rv1
      refine ⟨a, xs, rfl, SqT.of h1, k _ _ S1 φ1 H1 _ e1 rs1 (fun φ2 S2 H2 i e3 rs2 st => ?_) q1⟩
      have h2 := e3.tups a xs h1
      refine ⟨fun hl => ⟨xs, SqT.of h2, by rw [← h3.len]; simpa using hl⟩, fun d hd => ?_⟩
      rw [List.getElem?_mapIdx] at hd
      cases hr : ds[i]? with
      | none => rw [hr] at hd; cases hd
      | some d0 =>
        rw [hr] at hd
        cases hd
        obtain ⟨z, hz, rz⟩ := (h3.mono e3).get hr
        exact ⟨⟨xs, z, SqT.of h2, hz⟩, fun x H' ⟨T, x0, e4, hT, e5, y⟩ => by
          subst e4 e5
          have ez : x0 = z := Option.some.inj ((y xs (SqT.of h2)).symm.trans hz)
          subst ez
          have ex := Ext.fresh (o := .tup [.int (i : Nat), x0]) rs2 hT
          exact ⟨ex, rs2.fresh hT, T, _, rfl, upd_same, _, _, rfl, rfl, _, _, rfl, rz.mono ex, rfl⟩⟩, x⟩
end Qd
set_option linter.all false
/-! k15, the plain law: classes of blanks by least ones, tasks in any order. -/
namespace P15
/-- a term: a blank, or a name over terms -/
inductive Tm (α : Type) where
  | bl (n : Nat)
  | nd (x : α) (ts : List (Tm α))
section
variable {α : Type}
/-- a leaf: a blank or a name alone -/
def Tm.leaf : Tm α → Prop
  | .bl _ => True
  | .nd _ ts => ts = []
structure Cl (α : Type) where
  lesser : List (Nat × Nat)
  termOf : List (Nat × α)
  laid : List (Tm α × Tm α)
  tasks : List (Tm α × Tm α)
/-- the blank's least one, as the links lead -/
inductive Root (l : List (Nat × Nat)) : Nat → Nat → Prop
  | here {b : Nat} : l.lookup b = none → Root l b b
  | next {b c r : Nat} : l.lookup b = some c → Root l c r → Root l b r
def Down (l : List (Nat × Nat)) : Prop := ∀ b c, l.lookup b = some c → c < b
theorem Root.top {l : List (Nat × Nat)} {b r : Nat} (h : Root l b r) : l.lookup r = none := by
  induction h with
  | here e => exact e
  | next _ _ ih => exact ih
theorem Root.le {l : List (Nat × Nat)} (d : Down l) {b r : Nat} (h : Root l b r) : r ≤ b := by
  induction h with
  | here e => exact Nat.le_refl _
  | next e _ ih => exact Nat.le_trans ih (Nat.le_of_lt (d _ _ e))
theorem Root.uniq {l : List (Nat × Nat)} {b r s : Nat} (h : Root l b r) (g : Root l b s) : r = s := by
  induction h with
  | here e => cases g with
    | here => rfl
    | next e' _ => rw [e] at e'; cases e'
  | next e _ ih => cases g with
    | here e' => rw [e] at e'; cases e'
    | next e' g' => rw [e] at e'; cases e'; exact ih g'
theorem Root.ex {l : List (Nat × Nat)} (d : Down l) (b : Nat) : ∃ r, Root l b r := by
  induction b using Nat.strongRecOn with
  | ind b ih =>
    cases e : l.lookup b with
    | none => exact ⟨b, .here e⟩
    | some c =>
      obtain ⟨r, h⟩ := ih c (d _ _ e)
      exact ⟨r, .next e h⟩
/-- one link more, from a root -/
theorem lookup_add {l : List (Nat × Nat)} {h lo b : Nat} (e : l.lookup h = none) : (l ++ [(h, lo)]).lookup b = if b = h then some lo else l.lookup b := by
  induction l with
  | nil =>
    by_cases q : b = h
    · subst q; simp [List.lookup]
    · have : (b == h) = false := by simpa using q
      simp [List.lookup, this, q]
  | cons p l ih =>
    obtain ⟨k, v⟩ := p
    have ne : (h == k) = false := by
      cases z : h == k with
      | false => rfl
      | true => simp [List.lookup, z] at e
    have e' : l.lookup h = none := by simpa [List.lookup, ne] using e
    by_cases q : b = k
    · subst q
      have nb : ¬ b = h := by intro z; subst z; simp at ne
      simp [List.lookup, nb]
    · have qb : (b == k) = false := by simpa using q
      simp only [List.cons_append, List.lookup, qb]
      exact ih e'
theorem Down.add {l : List (Nat × Nat)} (d : Down l) {h lo : Nat} (e : l.lookup h = none) (lt : lo < h) : Down (l ++ [(h, lo)]) := by
  intro b c z
  rw [lookup_add e] at z
  by_cases q : b = h
  · rw [if_pos q] at z; cases z; subst q; exact lt
  · rw [if_neg q] at z; exact d _ _ z
theorem Root.add {l : List (Nat × Nat)} {h lo b r : Nat} (e : l.lookup h = none) (e2 : l.lookup lo = none) (ne : lo ≠ h) (g : Root l b r) : Root (l ++ [(h, lo)]) b (if r = h then lo else r) := by
  have top : Root (l ++ [(h, lo)]) lo lo := .here (by rw [lookup_add e, if_neg ne]; exact e2)
  induction g with
  | @here b eb =>
    by_cases q : b = h
    · rw [if_pos q]
      exact .next (by rw [lookup_add e, if_pos q]) top
    · rw [if_neg q]
      exact .here (by rw [lookup_add e, if_neg q]; exact eb)
  | @next b c r eb _ ih =>
    have q : ¬ b = h := by intro z; subst z; rw [e] at eb; cases eb
    exact .next (by rw [lookup_add e, if_neg q]; exact eb) ih
/-- likeness of blanks by pairs -/
inductive Con (P : List (Tm α × Tm α)) : Nat → Nat → Prop
  | rfl (a : Nat) : Con P a a
  | pair {a b : Nat} : (Tm.bl a, Tm.bl b) ∈ P → Con P a b
  | symm {a b : Nat} : Con P a b → Con P b a
  | trans {a b c : Nat} : Con P a b → Con P b c → Con P a c
/-- the name is told of the blank -/
def End (P : List (Tm α × Tm α)) (b : Nat) (x : α) : Prop := (Tm.bl b, Tm.nd x []) ∈ P ∨ (Tm.nd x [], Tm.bl b) ∈ P
/-- of one likeness: the name is told of one that is like the blank -/
def Named (P : List (Tm α × Tm α)) (b : Nat) (x : α) : Prop := ∃ a, Con P b a ∧ End P a x
/-- pairs that come of tasks -/
inductive From (P : List (Tm α × Tm α)) : Tm α × Tm α → Prop
  | leaf {p : Tm α × Tm α} : p ∈ P → From P p
  | names {x y : α} {b : Nat} : Named P b x → Named P b y → From P (.nd x [], .nd y [])
  | node {x : α} {ts us : List (Tm α)} : ts.length = us.length → (∀ p ∈ ts.zip us, From P p) → From P (.nd x ts, .nd x us)
/-- names that are told to be the same, by the tasks still to come -/
inductive Lk (T : List (Tm α × Tm α)) : α → α → Prop
  | rfl (a : α) : Lk T a a
  | link {a b : α} : (Tm.nd a [], Tm.nd b []) ∈ T → Lk T a b
  | symm {a b : α} : Lk T a b → Lk T b a
  | trans {a b c : α} : Lk T a b → Lk T b c → Lk T a c
theorem Lk.to {T U : List (Tm α × Tm α)} (h : ∀ a b, (Tm.nd a [], Tm.nd b []) ∈ T → Lk U a b) {a b : α} (g : Lk T a b) : Lk U a b := by
  induction g with
  | rfl a => exact .rfl a
  | link e => exact h _ _ e
  | symm _ ih => exact .symm ih
  | trans _ _ ih1 ih2 => exact .trans ih1 ih2
theorem Lk.nil {a b : α} (g : Lk (α := α) [] a b) : a = b := by
  induction g with
  | rfl a => rfl
  | link e => cases e
  | symm _ ih => exact ih.symm
  | trans _ _ ih1 ih2 => exact ih1.trans ih2
/-- the blank's class has a name that is, by what is still to come, this one -/
def Held (s : Cl α) (b : Nat) (x : α) : Prop := ∃ r t, Root s.lesser b r ∧ (r, t) ∈ s.termOf ∧ Lk s.tasks t x
/-- the pair is done -/
def Done (s : Cl α) : Tm α × Tm α → Prop
  | (.bl a, .bl b) => ∃ r, Root s.lesser a r ∧ Root s.lesser b r
  | (.bl a, .nd x _) => Held s a x
  | (.nd x _, .bl b) => Held s b x
  | (.nd x ts, .nd y us) => (Tm.nd x ts, Tm.nd y us) ∈ s.laid
def Cov (s : Cl α) (p : Tm α × Tm α) : Prop := p ∈ s.tasks ∨ Done s p
/-- the pairs are of blanks, or of a blank and a name -/
def Flat (P : List (Tm α × Tm α)) : Prop := ∀ p ∈ P, (∃ a b, p = (.bl a, .bl b)) ∨ (∃ a x, p = (.bl a, .nd x [])) ∨ ∃ a x, p = (.nd x [], .bl a)
/-- what the task comes down to -/
inductive Reach (R : Tm α × Tm α) : Tm α × Tm α → Prop
  | self : Reach R R
  | child {x : α} {ts us : List (Tm α)} {p : Tm α × Tm α} : Reach R (.nd x ts, .nd x us) → p ∈ ts.zip us → Reach R p
structure Inv (P : List (Tm α × Tm α)) (R : Tm α × Tm α) (s : Cl α) : Prop where
  down : Down s.lesser
  sound : ∀ b r, Root s.lesser b r → Con P b r
  term : ∀ r x, (r, x) ∈ s.termOf → s.lesser.lookup r = none ∧ Named P r x
  nd : (s.termOf.map (·.1)).Nodup
  tasks : ∀ t ∈ s.tasks, From P t
  top : Cov s R
  kids : ∀ x ts us, (Tm.nd x ts, Tm.nd x us) ∈ s.laid → ∀ p ∈ ts.zip us, Cov s p
theorem Con.ends {P : List (Tm α × Tm α)} {a b : Nat} {x : α} (h : Con P a b) (g : Named P b x) : Named P a x := by
  obtain ⟨c, h1, h2⟩ := g
  exact ⟨c, h.trans h1, h2⟩
theorem End.named {P : List (Tm α × Tm α)} {b : Nat} {x : α} (g : End P b x) : Named P b x := ⟨b, .rfl b, g⟩
def keep (s : Cl α) (b : Nat) (x : α) : Cl α := match s.termOf.lookup b with
  | some u => { s with tasks := s.tasks ++ [(.nd u [], .nd x [])] }
  | none => { s with termOf := s.termOf ++ [(b, x)] }
def join (s : Cl α) (hi lo : Nat) : Cl α := match s.termOf.lookup hi with
  | some x => keep { s with lesser := s.lesser ++ [(hi, lo)], termOf := s.termOf.filter fun p => p.1 != hi } lo x
  | none => { s with lesser := s.lesser ++ [(hi, lo)] }
theorem mem_lookup {k : Nat} {v : α} : ∀ {l : List (Nat × α)}, (l.map (·.1)).Nodup → ((k, v) ∈ l ↔ l.lookup k = some v)
  | [], _ => by simp
  | (a, b) :: l, h => by
    simp only [List.map_cons, List.nodup_cons] at h
    by_cases q : k = a
    · subst q
      simp only [List.mem_cons, List.lookup, beq_self_eq_true]
      constructor
      · rintro (z | z)
        · cases z; rfl
        · exact absurd (List.mem_map.mpr ⟨_, z, rfl⟩) h.1
      · intro z; cases z; exact .inl rfl
    · have qb : (k == a) = false := by simpa using q
      simp only [List.mem_cons, List.lookup, qb, mem_lookup h.2]
      constructor
      · rintro (z | z)
        · cases z; exact absurd rfl q
        · exact z
      · intro z; exact .inr z
theorem not_lookup {k : Nat} : ∀ {l : List (Nat × α)}, l.lookup k = none ↔ ∀ v, (k, v) ∉ l
  | [] => by simp
  | (a, b) :: l => by
    by_cases q : k = a
    · subst q
      simp only [List.lookup, beq_self_eq_true]
      constructor
      · intro z; cases z
      · intro z; exact absurd List.mem_cons_self (z b)
    · have qb : (k == a) = false := by simpa using q
      simp only [List.lookup, qb, not_lookup (l := l), List.mem_cons, not_or]
      constructor
      · intro z v; exact ⟨fun e => q (by cases e; rfl), z v⟩
      · intro z v; exact (z v).2
theorem cov_to {s s' : Cl α} {t p : Tm α × Tm α} (ht : ∀ p ∈ s.tasks, p ∈ s'.tasks ∨ p = t) (hd : Done s' t) (hr : ∀ a b r, Root s.lesser a r → Root s.lesser b r → ∃ r', Root s'.lesser a r' ∧ Root s'.lesser b r') (hh : ∀ a x, Held s a x → Held s' a x)
    (hl : ∀ q ∈ s.laid, q ∈ s'.laid) (h : Cov s p) : Cov s' p := by
  rcases h with h | h
  · rcases ht p h with q | q
    · exact .inl q
    · exact .inr (q ▸ hd)
  · refine .inr ?_
    match p, h with
    | (.bl a, .bl b), ⟨r, h1, h2⟩ => exact hr a b r h1 h2
    | (.bl a, .nd x _), h => exact hh a x h
    | (.nd x _, .bl b), h => exact hh b x h
    | (.nd x ts, .nd y us), h => exact hl _ h
theorem Root.fun {l : List (Nat × Nat)} {a b r s : Nat} (h : Root l a r) (g : Root l a s) (e : Root l b s) : Root l b r := by
  rw [h.uniq g]; exact e
variable {P : List (Tm α × Tm α)} {R : Tm α × Tm α} {s : Cl α} {T : List (Tm α × Tm α)}
theorem flat_nd {x y : α} {ts us : List (Tm α)} (hP : Flat P) : (Tm.nd x ts, Tm.nd y us) ∉ P := by
  intro z
  rcases hP _ z with ⟨a, b, e⟩ | ⟨a, b, e⟩ | ⟨a, b, e⟩ <;> cases e
theorem from_bl {a : Nat} {v : Tm α} (h : From P (.bl a, v)) : (Tm.bl a, v) ∈ P := by
  cases h with
  | leaf h => exact h
theorem from_lb {a : Nat} {v : Tm α} (h : From P (v, .bl a)) : (v, Tm.bl a) ∈ P := by
  cases h with
  | leaf h => exact h
/-- a task of two blanks of one class -/
theorem Inv.same {a b r : Nat} (I : Inv P R s) (hT : s.tasks = T ++ [(.bl a, .bl b)]) (ha : Root s.lesser a r) (hb : Root s.lesser b r) : Inv P R { s with tasks := T } := by
  have lk : ∀ {x y : α}, Lk s.tasks x y → Lk T x y := fun h => h.to fun u v e => by
    rw [hT] at e
    rcases List.mem_append.mp e with z | z
    · exact .link z
    · cases List.mem_singleton.mp z
  have cv : ∀ p, Cov s p → Cov { s with tasks := T } p := fun p => cov_to (t := (.bl a, .bl b)) (fun p h => by
      rw [hT] at h
      rcases List.mem_append.mp h with z | z
      · exact .inl z
      · exact .inr (List.mem_singleton.mp z)) ⟨r, ha, hb⟩ (fun _ _ r h1 h2 => ⟨r, h1, h2⟩) (fun c x ⟨r, t, h1, h2, h3⟩ => ⟨r, t, h1, h2, lk h3⟩) fun _ h => h
  exact ⟨I.down, I.sound, I.term, I.nd, fun t h => I.tasks t (by rw [hT]; exact List.mem_append_left _ h), cv _ I.top, fun x ts us h p hp => cv _ (I.kids x ts us h p hp)⟩
theorem keep_lesser (s : Cl α) (b : Nat) (x : α) : (keep s b x).lesser = s.lesser := by unfold keep; split <;> rfl
theorem keep_laid (s : Cl α) (b : Nat) (x : α) : (keep s b x).laid = s.laid := by unfold keep; split <;> rfl
theorem keep_tasks (s : Cl α) (b : Nat) (x : α) : ∀ p ∈ s.tasks, p ∈ (keep s b x).tasks := by
  intro p h
  unfold keep
  split
  · exact List.mem_append_left _ h
  · exact h
theorem keep_terms (s : Cl α) (b : Nat) (x : α) : ∀ p ∈ s.termOf, p ∈ (keep s b x).termOf := by
  intro p h
  unfold keep
  split
  · exact h
  · exact List.mem_append_left _ h
theorem keep_held (s : Cl α) (b : Nat) (x : α) (nd : (s.termOf.map (·.1)).Nodup) : ∃ t, (b, t) ∈ (keep s b x).termOf ∧ Lk (keep s b x).tasks t x := by
  unfold keep
  split
  · rename_i u e
    exact ⟨u, (mem_lookup nd).mpr e, .link (List.mem_append_right _ (List.mem_singleton.mpr rfl))⟩
  · exact ⟨x, List.mem_append_right _ (List.mem_singleton.mpr rfl), .rfl _⟩
theorem keep_nd (s : Cl α) (b : Nat) (x : α) (nd : (s.termOf.map (·.1)).Nodup) : ((keep s b x).termOf.map (·.1)).Nodup := by
  unfold keep
  split
  · exact nd
  · rename_i e
    show ((s.termOf ++ [(b, x)]).map (·.1)).Nodup
    rw [List.map_append, List.nodup_append]
    refine ⟨nd, by simp, fun c hc d hd => ?_⟩
    simp only [List.map_cons, List.map_nil, List.mem_singleton] at hd
    subst hd
    intro z
    subst z
    obtain ⟨⟨k, v⟩, h1, h2⟩ := List.mem_map.mp hc
    subst h2
    exact not_lookup.mp e v h1
theorem keep_term (s : Cl α) (b : Nat) (x : α) : ∀ r y, (r, y) ∈ (keep s b x).termOf → (r, y) ∈ s.termOf ∨ (r = b ∧ y = x) := by
  intro r y
  unfold keep
  split
  · exact .inl
  · intro h
    rcases List.mem_append.mp h with z | z
    · exact .inl z
    · cases List.mem_singleton.mp z; exact .inr ⟨rfl, rfl⟩
theorem keep_from (s : Cl α) (b : Nat) (x : α) (h : ∀ t ∈ s.tasks, From P t) (nd : (s.termOf.map (·.1)).Nodup) (ht : ∀ r y, (r, y) ∈ s.termOf → Named P r y) (hx : Named P b x) : ∀ t ∈ (keep s b x).tasks, From P t := by
  intro t
  unfold keep
  split
  · rename_i u e
    intro h'
    rcases List.mem_append.mp h' with z | z
    · exact h t z
    · rw [List.mem_singleton.mp z]
      exact .names (ht _ _ ((mem_lookup nd).mpr e)) hx
  · exact h t
/-- the state behind a kept name, from one in which the task t is gone -/
theorem Inv.kept {b r : Nat} {x : α} {t : Tm α × Tm α} (I : Inv P R s) (hT : s.tasks = T ++ [t]) (hb : Root s.lesser b r) (hx : Named P b x) (hn : ∀ u v, t ≠ (.nd u [], .nd v [])) (hd : ∀ s' : Cl α, Held s' b x → Done s' t) : Inv P R (keep { s with tasks := T } r x) := by
  have hr : s.lesser.lookup r = none := hb.top
  have lk : ∀ {x y : α}, Lk s.tasks x y → Lk T x y := fun h => h.to fun u v e => by
    rw [hT] at e
    rcases List.mem_append.mp e with z | z
    · exact .link z
    · exact absurd (List.mem_singleton.mp z).symm (hn _ _)
  have lk2 : ∀ {y z : α}, Lk T y z → Lk (keep { s with tasks := T } r x).tasks y z := fun h => h.to fun u v e => .link (keep_tasks { s with tasks := T } r x _ e)
  have hxr : Named P r x := (I.sound _ _ hb).symm.ends hx
  have here : Held (keep { s with tasks := T } r x) b x := by
    obtain ⟨t, h1, h2⟩ := keep_held { s with tasks := T } r x I.nd
    exact ⟨r, t, by rw [keep_lesser]; exact hb, h1, h2⟩
  have cv : ∀ p, Cov s p → Cov (keep { s with tasks := T } r x) p := fun p => cov_to (t := t) (fun p h => by
      rw [hT] at h
      rcases List.mem_append.mp h with z | z
      · exact .inl (keep_tasks { s with tasks := T } r x _ z)
      · exact .inr (List.mem_singleton.mp z)) (hd _ here) (fun _ _ r h1 h2 => ⟨r, by rw [keep_lesser]; exact h1, by rw [keep_lesser]; exact h2⟩)
      (fun c y ⟨r', t, h1, h2, h3⟩ => ⟨r', t, by rw [keep_lesser]; exact h1, keep_terms { s with tasks := T } _ _ _ h2, lk2 (lk h3)⟩) fun _ h => by rw [keep_laid]; exact h
  refine ⟨by rw [keep_lesser]; exact I.down, by rw [keep_lesser]; exact I.sound, fun r' y h => ?_, keep_nd _ _ _ I.nd, keep_from _ _ _ (fun t h => I.tasks t (by rw [hT]; exact List.mem_append_left _ h)) I.nd (fun _ _ h => (I.term _ _ h).2) hxr, cv _ I.top, fun x ts us h p hp => cv _ (I.kids x ts us (by rw [keep_laid] at h; exact h) p hp)⟩
  rw [keep_lesser]
  rcases keep_term { s with tasks := T } r x r' y h with z | ⟨z1, z2⟩
  · exact I.term _ _ z
  · subst z1 z2
    exact ⟨hr, hxr⟩
theorem filter_nd {hi : Nat} {l : List (Nat × α)} (nd : (l.map (·.1)).Nodup) : ((l.filter fun p => p.1 != hi).map (·.1)).Nodup :=
  nd.sublist (List.Sublist.map _ List.filter_sublist)
theorem mem_not {hi r : Nat} {y : α} {l : List (Nat × α)} : (r, y) ∈ (l.filter fun p => p.1 != hi) ↔ (r, y) ∈ l ∧ r ≠ hi := by
  rw [List.mem_filter]; simp
/-- two classes become one -/
theorem Inv.joined {a b ra rb hi lo : Nat} (I : Inv P R s) (hT : s.tasks = T ++ [(.bl a, .bl b)]) (ha : Root s.lesser a ra) (hb : Root s.lesser b rb) (hlt : lo < hi) (hw : (hi = ra ∧ lo = rb) ∨ (hi = rb ∧ lo = ra)) : Inv P R (join { s with tasks := T } hi lo) := by
  have ab : (Tm.bl a, Tm.bl b) ∈ P := from_bl (I.tasks _ (by rw [hT]; simp))
  have chl : Con P hi lo := by
    have h1 : Con P ra rb := ((I.sound _ _ ha).symm.trans (.pair ab)).trans (I.sound _ _ hb)
    rcases hw with ⟨e1, e2⟩ | ⟨e1, e2⟩
    · rw [e1, e2]; exact h1
    · rw [e1, e2]; exact h1.symm
  have e1 : s.lesser.lookup hi = none := by rcases hw with ⟨e, _⟩ | ⟨e, _⟩ <;> rw [e]; exact ha.top; exact hb.top
  have e2 : s.lesser.lookup lo = none := by rcases hw with ⟨_, e⟩ | ⟨_, e⟩ <;> rw [e]; exact hb.top; exact ha.top
  have ne : lo ≠ hi := Nat.ne_of_lt hlt
  have lk : ∀ {x y : α}, Lk s.tasks x y → Lk T x y := fun h => h.to fun u v e => by
    rw [hT] at e
    rcases List.mem_append.mp e with z | z
    · exact .link z
    · cases List.mem_singleton.mp z
  have root : ∀ c r, Root s.lesser c r → Root (s.lesser ++ [(hi, lo)]) c (if r = hi then lo else r) := fun c r h => h.add e1 e2 ne
  have sound : ∀ c r, Root (s.lesser ++ [(hi, lo)]) c r → Con P c r := fun c r h => by
    obtain ⟨r0, h0⟩ := Root.ex I.down c
    have e := h.uniq (root _ _ h0)
    subst e
    by_cases q : r0 = hi
    · rw [if_pos q]; subst q; exact (I.sound _ _ h0).trans chl
    · rw [if_neg q]; exact I.sound _ _ h0
  have down : Down (s.lesser ++ [(hi, lo)]) := I.down.add e1 hlt
  have doneN : Root (s.lesser ++ [(hi, lo)]) a lo ∧ Root (s.lesser ++ [(hi, lo)]) b lo := by
    have h1 := root _ _ ha
    have h2 := root _ _ hb
    rcases hw with ⟨q1, q2⟩ | ⟨q1, q2⟩
    · rw [if_pos q1.symm] at h1
      rw [if_neg (by rw [← q2]; exact ne), ← q2] at h2
      exact ⟨h1, h2⟩
    · rw [if_neg (by rw [← q2]; exact ne), ← q2] at h1
      rw [if_pos q1.symm] at h2
      exact ⟨h1, h2⟩
  have two : ∀ c d r, Root s.lesser c r → Root s.lesser d r → ∃ r', Root (s.lesser ++ [(hi, lo)]) c r' ∧ Root (s.lesser ++ [(hi, lo)]) d r' := fun c d r h1 h2 => ⟨_, root _ _ h1, root _ _ h2⟩
  have split : ∀ p ∈ s.tasks, p ∈ T ∨ p = (Tm.bl a, Tm.bl b) := fun p h => by
    rw [hT] at h
    rcases List.mem_append.mp h with z | z
    · exact .inl z
    · exact .inr (List.mem_singleton.mp z)
  have tasksT : ∀ t ∈ T, From P t := fun t h => I.tasks t (by rw [hT]; exact List.mem_append_left _ h)
  unfold join
  split
  · rename_i x ex
    have ex : s.termOf.lookup hi = some x := ex
    obtain ⟨M, hM⟩ : ∃ M : Cl α, M = { s with lesser := s.lesser ++ [(hi, lo)], termOf := s.termOf.filter fun p => p.1 != hi, tasks := T } := ⟨_, rfl⟩
    have Ml : M.lesser = s.lesser ++ [(hi, lo)] := by rw [hM]
    have Mt : M.termOf = s.termOf.filter fun p => p.1 != hi := by rw [hM]
    have MT : M.tasks = T := by rw [hM]
    have Md : M.laid = s.laid := by rw [hM]
    show Inv P R (keep { s with lesser := s.lesser ++ [(hi, lo)], termOf := s.termOf.filter fun p => p.1 != hi, tasks := T } lo x)
    rw [← hM]
    have nd : (M.termOf.map (·.1)).Nodup := by rw [Mt]; exact filter_nd I.nd
    have hx : (hi, x) ∈ s.termOf := (mem_lookup I.nd).mpr ex
    have hxn : Named P lo x := chl.symm.ends (I.term _ _ hx).2
    have lk2 : ∀ {y z : α}, Lk T y z → Lk (keep M lo x).tasks y z := fun h => h.to fun u v e => .link (keep_tasks M lo x _ (by rw [MT]; exact e))
    have held : ∀ c y, Held s c y → Held (keep M lo x) c y := fun c y ⟨r, t, h1, h2, h3⟩ => by
      by_cases q : r = hi
      · subst q
        have et : t = x := by
          have z := (mem_lookup I.nd).mp h2
          rw [ex] at z; cases z; rfl
        subst et
        obtain ⟨t', g1, g2⟩ := keep_held M lo t nd
        refine ⟨lo, t', ?_, g1, g2.trans (lk2 (lk h3))⟩
        rw [keep_lesser, Ml]
        have z := root _ _ h1
        rw [if_pos rfl] at z
        exact z
      · refine ⟨r, t, ?_, keep_terms _ _ _ _ (by rw [Mt]; exact mem_not.mpr ⟨h2, q⟩), lk2 (lk h3)⟩
        rw [keep_lesser, Ml]
        have z := root _ _ h1
        rw [if_neg q] at z
        exact z
    have cv : ∀ p, Cov s p → Cov (keep M lo x) p := fun p => cov_to (t := (.bl a, .bl b)) (fun p h => (split p h).imp (fun z => keep_tasks M lo x _ (by rw [MT]; exact z)) id)
      ⟨lo, by rw [keep_lesser, Ml]; exact doneN.1, by rw [keep_lesser, Ml]; exact doneN.2⟩ (fun c d r h1 h2 => by rw [keep_lesser, Ml]; exact two c d r h1 h2) held fun _ h => by rw [keep_laid, Md]; exact h
    have termM : ∀ r y, (r, y) ∈ M.termOf → Named P r y := fun r y h => by
      rw [Mt] at h
      exact (I.term _ _ (mem_not.mp h).1).2
    refine ⟨by rw [keep_lesser, Ml]; exact down, by rw [keep_lesser, Ml]; exact sound, fun r y h => ?_, keep_nd _ _ _ nd, keep_from _ _ _ (by rw [MT]; exact tasksT) nd termM hxn, cv _ I.top, fun x ts us h p hp => cv _ (I.kids x ts us (by rw [keep_laid, Md] at h; exact h) p hp)⟩
    rw [keep_lesser, Ml]
    rcases keep_term M lo x r y h with z | ⟨z1, z2⟩
    · refine ⟨?_, termM _ _ z⟩
      rw [Mt] at z
      obtain ⟨z1, z2⟩ := mem_not.mp z
      rw [lookup_add e1, if_neg z2]
      exact (I.term _ _ z1).1
    · subst z1 z2
      refine ⟨?_, hxn⟩
      rw [lookup_add e1, if_neg ne]
      exact e2
  · rename_i ex
    have ex : s.termOf.lookup hi = none := ex
    have held : ∀ c y, Held s c y → Held { s with lesser := s.lesser ++ [(hi, lo)], tasks := T } c y := fun c y ⟨r, t, h1, h2, h3⟩ => by
      have q : r ≠ hi := fun z => not_lookup.mp ex t (z ▸ h2)
      have z := root _ _ h1
      rw [if_neg q] at z
      exact ⟨r, t, z, h2, lk h3⟩
    have cv : ∀ p, Cov s p → Cov { s with lesser := s.lesser ++ [(hi, lo)], tasks := T } p := fun p => cov_to (t := (.bl a, .bl b)) split ⟨lo, doneN.1, doneN.2⟩ two held fun _ h => h
    refine ⟨down, sound, fun r y h => ⟨?_, (I.term _ _ h).2⟩, I.nd, tasksT, cv _ I.top, fun x ts us h p hp => cv _ (I.kids x ts us h p hp)⟩
    show (s.lesser ++ [(hi, lo)]).lookup r = none
    have q : r ≠ hi := fun z => not_lookup.mp ex y (z ▸ h)
    rw [lookup_add e1, if_neg q]
    exact (I.term _ _ h).1
/-- a pair of names that is laid, or is laid now -/
theorem lk_names {x : α} {ts us : List (Tm α)} (hT : s.tasks = T ++ [(.nd x ts, .nd x us)]) {U : List (Tm α × Tm α)} (hU : ∀ p ∈ T, p ∈ U) {y z : α} (h : Lk s.tasks y z) : Lk U y z := h.to fun u v e => by
  rw [hT] at e
  rcases List.mem_append.mp e with q | q
  · exact .link (hU _ q)
  · cases List.mem_singleton.mp q; exact .rfl _
theorem Inv.skip {x : α} {ts us : List (Tm α)} (I : Inv P R s) (hT : s.tasks = T ++ [(.nd x ts, .nd x us)]) (hl : (Tm.nd x ts, Tm.nd x us) ∈ s.laid) : Inv P R { s with tasks := T } := by
  have cv : ∀ p, Cov s p → Cov { s with tasks := T } p := fun p => cov_to (t := (.nd x ts, .nd x us)) (fun p h => by
      rw [hT] at h
      rcases List.mem_append.mp h with z | z
      · exact .inl z
      · exact .inr (List.mem_singleton.mp z)) hl (fun _ _ r h1 h2 => ⟨r, h1, h2⟩) (fun c y ⟨r, t, h1, h2, h3⟩ => ⟨r, t, h1, h2, lk_names hT (fun _ z => z) h3⟩) fun _ h => h
  exact ⟨I.down, I.sound, I.term, I.nd, fun t h => I.tasks t (by rw [hT]; exact List.mem_append_left _ h), cv _ I.top, fun x ts us h p hp => cv _ (I.kids x ts us h p hp)⟩
theorem Inv.lay {x : α} {ts us : List (Tm α)} (hP : Flat P) (I : Inv P R s) (hT : s.tasks = T ++ [(.nd x ts, .nd x us)]) : Inv P R { s with laid := s.laid ++ [(.nd x ts, .nd x us)], tasks := T ++ ts.zip us } := by
  have cv : ∀ p, Cov s p → Cov { s with laid := s.laid ++ [(.nd x ts, .nd x us)], tasks := T ++ ts.zip us } p := fun p => cov_to (t := (.nd x ts, .nd x us)) (fun p h => by
      rw [hT] at h
      rcases List.mem_append.mp h with z | z
      · exact .inl (List.mem_append_left _ z)
      · exact .inr (List.mem_singleton.mp z)) (List.mem_append_right _ (List.mem_singleton.mpr rfl)) (fun _ _ r h1 h2 => ⟨r, h1, h2⟩) (fun c y ⟨r, t, h1, h2, h3⟩ => ⟨r, t, h1, h2, lk_names hT (fun _ z => List.mem_append_left _ z) h3⟩) fun _ h => List.mem_append_left _ h
  have kid : ∀ p ∈ ts.zip us, From P p := fun p hp => by
    have h : From P (.nd x ts, .nd x us) := I.tasks _ (by rw [hT]; simp)
    cases h with
    | leaf h => exact absurd h (flat_nd hP)
    | names => cases hp
    | node _ k => exact k p hp
  refine ⟨I.down, I.sound, I.term, I.nd, fun t h => ?_, cv _ I.top, fun y vs ws h p hp => ?_⟩
  · rcases List.mem_append.mp h with z | z
    · exact I.tasks t (by rw [hT]; exact List.mem_append_left _ z)
    · exact kid _ z
  · rcases List.mem_append.mp h with z | z
    · exact cv _ (I.kids _ _ _ z p hp)
    · cases List.mem_singleton.mp z
      exact .inl (List.mem_append_right _ hp)
/-- two names that are told of one class and are not the same -/
def Clash (P : List (Tm α × Tm α)) : Prop := ∃ b x y, Named P b x ∧ Named P b y ∧ x ≠ y
theorem Inv.clash {x y : α} {ts us : List (Tm α)} (hP : Flat P) (I : Inv P R s) (hT : s.tasks = T ++ [(.nd x ts, .nd y us)]) (h : x ≠ y ∨ ts.length ≠ us.length) : Clash P := by
  have f : From P (.nd x ts, .nd y us) := I.tasks _ (by rw [hT]; simp)
  cases f with
  | leaf f => exact absurd f (flat_nd hP)
  | names h1 h2 =>
    rcases h with h | h
    · exact ⟨_, _, _, h1, h2, h⟩
    · exact absurd rfl h
  | node e _ =>
    rcases h with h | h
    · exact absurd rfl h
    · exact absurd e h
/-! ### behind the last task -/
theorem Inv.all (I : Inv P R s) (h0 : s.tasks = []) {p : Tm α × Tm α} (h : Reach R p) : Done s p := by
  have out : ∀ {p}, Cov s p → Done s p := fun h => h.elim (fun z => by rw [h0] at z; cases z) id
  induction h with
  | self => exact out I.top
  | child _ hp ih => exact out (I.kids _ _ _ ih _ hp)
theorem Inv.con (I : Inv P R s) (h0 : s.tasks = []) (hR : ∀ p ∈ P, Reach R p) {a b r : Nat} (h : Con P a b) (g : Root s.lesser b r) : Root s.lesser a r := by
  have key : ∀ a b, Con P a b → ∃ r, Root s.lesser a r ∧ Root s.lesser b r := fun a b h => by
    induction h with
    | rfl a => obtain ⟨r, h⟩ := Root.ex I.down a; exact ⟨r, h, h⟩
    | pair e => exact I.all h0 (hR _ e)
    | symm _ ih => obtain ⟨r, h1, h2⟩ := ih; exact ⟨r, h2, h1⟩
    | trans _ _ ih1 ih2 =>
      obtain ⟨r, h1, h2⟩ := ih1
      obtain ⟨t, h3, h4⟩ := ih2
      exact ⟨r, h1, (h3.uniq h2) ▸ h4⟩
  obtain ⟨t, h1, h2⟩ := key a b h
  exact (h2.uniq g) ▸ h1
theorem Inv.name (I : Inv P R s) (h0 : s.tasks = []) (hR : ∀ p ∈ P, Reach R p) {b r : Nat} {x : α} (h : Named P b x) (g : Root s.lesser b r) : s.termOf.lookup r = some x := by
  obtain ⟨a, hc, he⟩ := h
  have ha := I.con h0 hR hc.symm g
  have hh : Held s a x := by
    rcases he with e | e
    · exact I.all h0 (hR _ e)
    · exact I.all h0 (hR _ e)
  obtain ⟨r', t, h1, h2, h3⟩ := hh
  rw [h0] at h3
  have e1 := h1.uniq ha
  have e2 := h3.nil
  subst e1 e2
  exact (mem_lookup I.nd).mp h2
/-- each class's least blank; its name, where it has one -/
theorem Inv.least (I : Inv P R s) (h0 : s.tasks = []) (hR : ∀ p ∈ P, Reach R p) {b r : Nat} (g : Root s.lesser b r) : Con P b r ∧ ∀ a, Con P b a → r ≤ a :=
  ⟨I.sound _ _ g, fun a h => (I.con h0 hR h.symm g).le I.down⟩
theorem Inv.noClash (I : Inv P R s) (h0 : s.tasks = []) (hR : ∀ p ∈ P, Reach R p) : ¬ Clash P := by
  rintro ⟨b, x, y, h1, h2, ne⟩
  obtain ⟨r, g⟩ := Root.ex I.down b
  have e1 := I.name h0 hR h1 g
  have e2 := I.name h0 hR h2 g
  rw [e1] at e2
  cases e2
  exact ne rfl
end
end P15
set_option Elab.async false
set_option linter.all false
set_option maxRecDepth 100000
set_option maxHeartbeats 4000000
namespace K15
open PySem PySem.Spec PyProof.Rows L2 Qd
def topS (i : Nat) : Stmt := PySem.Challenge.pw_endwise_k15_long_rows_of_blanks.main.body.getD i (.Pass ⟨0, 0, 0, 0⟩)
structure Blt (mg : Str → Option Value) : Prop where
  isinstance : mg "isinstance" = none
  int : mg "int" = none
  bool : mg "bool" = none
  dict : mg "dict" = none
  tuple : mg "tuple" = none
  list : mg "list" = none
  len : mg "len" = none
  any : mg "any" = none
  abs : mg "abs" = none
  min : mg "min" = none
  max : mg "max" = none
  sum : mg "sum" = none
  range : mg "range" = none
  enumerate : mg "enumerate" = none
  zip : mg "zip" = none
structure Glb (mg : Str → Option Value) : Prop where
  MOST_LEVELS : ∃ t, mg "MOST_LEVELS" = some (.int 60 t)
  MOST_PARTS : ∃ t, mg "MOST_PARTS" = some (.int 1000 t)
/-! ### plain facts -/
theorem iteB {c : Bool} {A B : Prop} (h1 : c = true → A) (h2 : c = false → B) : if c = true then A else B := by
  cases c
  · rw [if_neg Bool.false_ne_true]; exact h2 rfl
  · rw [if_pos rfl]; exact h1 rfl
theorem qc {Q : D → Store → Prop} {x y : D} {S : Store} (q : Q y S) (e : x = y) : Q x S := e ▸ q
theorem qb {Q : D → Store → Prop} {x y : Bool} {S : Store} (q : Q (.bl y) S) (e : x = y) : Q (.bl x) S := e ▸ q
theorem cut1 {x : D} {xs : List D} : Qd.cutD (x :: xs) (some 1) none = xs := by
  have h : HT.sIx (x :: xs).length 0 (some 1) = 1 := by
    rw [show (1 : Int) = ((1 : Nat) : Int) from rfl, HT.sIx_nat]
    simp
  unfold Qd.cutD
  rw [h, HT.sIx_none]
  simp
theorem atN {α : Type} {xs : List α} {k : Nat} {d : α} (h : xs[k]? = some d) : atI xs ((k : Nat) : Int) = some d := by
  have hk := (List.getElem?_eq_some_iff.mp h).1
  unfold L2.atI L2.ixN
  rw [if_pos (by omega), if_pos (by omega)]
  simpa using h
def letters : Str := "abcdefghijklmnopqrstuvwxyz"
def nameP : PyData → Bool
  | .str x => decide (1 ≤ x.length) && decide (x.length ≤ 8) && x.cps.toList.all fun c => decide (c ∈ letters.cps.toList)
  | _ => false
def fine : Nat → PyData → Bool
  | _, .none => true
  | _, .bool _ => true
  | _, .int i => decide (i.natAbs.log2 < 1900)
  | _, .str x => decide (x.length ≤ 100) && PyData.strOk x
  | n + 1, .tuple ps => decide (ps.length ≤ 1000) && ps.all (fine n)
  | n + 1, .list ps => decide (ps.length ≤ 1000) && ps.all (fine n)
  | _, _ => false
theorem fine_str {n : Nat} {x : Str} (h : fine n (.str x) = true) : x.length ≤ 100 ∧ PyData.strOk x = true := by
  cases n <;> simpa [fine] using h
theorem fine_tup {n : Nat} {ps : List PyData} (h : fine n (.tuple ps) = true) : ∃ m, n = m + 1 ∧ ps.length ≤ 1000 ∧ ∀ p ∈ ps, fine m p = true := by
  cases n with
  | zero => simp [fine] at h
  | succ m =>
    simp only [fine, Bool.and_eq_true, decide_eq_true_eq, List.all_eq_true] at h
    exact ⟨m, rfl, h.1, h.2⟩
theorem fine_lst {n : Nat} {ps : List PyData} (h : fine n (.list ps) = true) : ∃ m, n = m + 1 ∧ ps.length ≤ 1000 ∧ ∀ p ∈ ps, fine m p = true := by
  cases n with
  | zero => simp [fine] at h
  | succ m =>
    simp only [fine, Bool.and_eq_true, decide_eq_true_eq, List.all_eq_true] at h
    exact ⟨m, rfl, h.1, h.2⟩
theorem fine_dict {n : Nat} {k} (h : fine n (.dict k) = true) : False := by
  cases n <;> simp [fine] at h
theorem len_lineD {x : Str} (h : x.length ≤ 100) : x.length ≤ lineD := Nat.le_trans h (by decide)
/-- a def's contract that asks nothing and gives nothing -/
theorem fnFalse {P : Program} {w : World} {K : PySem.W.Frag} {mg : Str → Option Value} {base : Heap} {x : Str} {f : Addr} {fd : FuncData} {ps : List Str} {k : Nat} (hm : mg x = some (.ref f)) (kp : PySem.W.keepIn K (.ref f) = true) (hb : Binds K fd ps []) : Fn P w K mg base k x (fun _ _ _ _ => False) [] :=
  ⟨f, fd, ps, [], ⟨fun _ _ _ _ ⟨_, _, _, _, _, _, _, z, _⟩ => z.elim, fun _ _ _ _ _ _ _ _ _ _ _ _ _ ⟨_, _, _, _, _, _, _, z, _⟩ => z.elim⟩, hm, kp, hb, .nil⟩
section
variable {a b c d4 : WE} {env : Slots} {S : Store} {Q : D → Store → Prop} {X : XQ} {G : Go} {u : WS} {i : Nat} {f : WO2} {x : D}
theorem seq_set (h : a env S (fun d S1 => u G (env.set i (some d)) S1 X) X) : wSeq (wSet i a) u G env S X := h
theorem seq_if {tt : WT} {w : WS} (h : tt env S (fun c S1 => if c = true then w ⟨fun e s => u G e s X, G.rt, G.bk, G.ct⟩ env S1 X else u G env S1 X) X) : wSeq (wIf tt w wSkip) u G env S X := h
theorem set_by (h : a env S (fun d S1 => G.nx (env.set i (some d)) S1) X) : wSet i a G env S X := h
theorem lst3 (h : a env S (fun d1 S1 => b env S1 (fun d2 S2 => c env S2 (fun d3 S3 => 3 ≤ lineD ∧ Q (.loc S3.length) (S3 ++ [.lst true [d1, d2, d3]])) X) X) X) : wLst (wCons a (wCons b (wCons c wNil))) env S Q X := h
theorem lst4 (h : a env S (fun d1 S1 => b env S1 (fun d2 S2 => c env S2 (fun d3 S3 => d4 env S3 (fun e4 S4 => 4 ≤ lineD ∧ Q (.loc S4.length) (S4 ++ [.lst true [d1, d2, d3, e4]])) X) X) X) X) : wLst (wCons a (wCons b (wCons c (wCons d4 wNil)))) env S Q X := h
theorem op_var (h : env[i]? = some (some x)) (q : b env S (fun y S2 => f x y S2 Q) X) : wOp f (wVar i) b env S Q X := ⟨_, h, q⟩
end
theorem layAll {ps : List PyData} : (∀ p ∈ ps, PyData.canLay0 p = true) → PyData.canLayAll0 ps = true := by
  induction ps with
  | nil => intro _; rfl
  | cons p ps ih =>
    intro h
    rw [PyData.canLayAll0, h p List.mem_cons_self, ih fun q hq => h q (List.mem_cons_of_mem _ hq)]
    rfl
theorem depAll {ps : List PyData} {n : Nat} : (∀ p ∈ ps, PyData.depth p ≤ n) → PyData.depthAll ps ≤ n := by
  induction ps with
  | nil => intro _; simp [PyData.depthAll]
  | cons p ps ih =>
    intro h
    rw [PyData.depthAll]
    have h1 := h p List.mem_cons_self
    have h2 := ih fun q hq => h q (List.mem_cons_of_mem _ hq)
    omega
theorem Sub_setN {S T : Store} {n : Nat} {c : Cell} (h : Sub S T) (hn : S.length ≤ n) : Sub S (T.set n c) := fun m d e => by
  have hm := (List.getElem?_eq_some_iff.mp e).1
  rw [List.getElem?_set_ne (by omega)]
  exact h m d e
theorem fmin2_int {i j v : Int} {S : Store} {Q : D → Store → Prop} (e : (if j < i then j else i) = v) (q : Q (.int v) S) : fMin2 [.int i, .int j] S Q := by
  subst e
  exact q
theorem ret_op {a b : WE} {f : WO2} {G : Go} {env : Slots} {S : Store} {X : XQ} (h : a env S (fun x S1 => b env S1 (fun y S2 => f x y S2 G.rt) X) X) : wRet (wOp f a b) G env S X := h
theorem seq_for {wi : WI} {g : WG} {w u : WS} {G : Go} {env : Slots} {S : Store} {X : XQ} (h : wi env S (fun items still S1 => wLoop g w still ⟨fun e s => u G e s X, G.rt, G.bk, G.ct⟩ X items env S1) X) : wSeq (wFor wi g w) u G env S X := h
theorem for_by {wi : WI} {g : WG} {w : WS} {G : Go} {env : Slots} {S : Store} {X : XQ} (h : wi env S (fun items still S1 => wLoop g w still G X items env S1) X) : wFor wi g w G env S X := h
end K15
set_option Elab.async false
set_option linter.all false
set_option maxRecDepth 100000
set_option maxHeartbeats 4000000
namespace K15
open PySem PySem.Spec PyProof.Rows L2 Qd
/-! ### the pot -/
def dead : Cell := .ins 0 []
def hide (p o : Nat) (S : Store) : Store := (S.set p dead).set o dead
theorem hide_get {p o n : Nat} {S : Store} (h1 : n ≠ p) (h2 : n ≠ o) : (hide p o S)[n]? = S[n]? := by
  unfold hide
  rw [List.getElem?_set_ne (Ne.symm h2), List.getElem?_set_ne (Ne.symm h1)]
theorem hide_len {p o : Nat} {S : Store} : (hide p o S).length = S.length := by simp [hide]
theorem hide_p {p o : Nat} {S : Store} (h : p < S.length) : (hide p o S)[p]? = some dead := by
  unfold hide
  by_cases e : p = o
  · subst e; rw [List.getElem?_set_self (by simpa using h)]
  · rw [List.getElem?_set_ne (Ne.symm e), List.getElem?_set_self h]
theorem hide_o {p o : Nat} {S : Store} (h : o < S.length) : (hide p o S)[o]? = some dead := by
  unfold hide
  rw [List.getElem?_set_self (by simpa using h)]
theorem hide_data {p o n : Nat} {S : Store} {c : Cell} (h : (hide p o S)[n]? = some c) (hc : c ≠ dead) : S[n]? = some c ∧ n ≠ p ∧ n ≠ o := by
  have hn := (List.getElem?_eq_some_iff.mp h).1
  rw [hide_len] at hn
  have h1 : n ≠ p := fun e => by
    subst e
    rw [hide_p hn] at h
    cases h
    exact hc rfl
  have h2 : n ≠ o := fun e => by
    subst e
    rw [hide_o hn] at h
    cases h
    exact hc rfl
  rw [hide_get h1 h2] at h
  exact ⟨h, h1, h2⟩
/-- all cells but the pot's stay -/
def Kp (p o : Nat) (S T : Store) : Prop := Sub (hide p o S) (hide p o T)
theorem Kp.refl {p o : Nat} {S : Store} : Kp p o S S := Sub.refl
theorem Kp.trans {p o : Nat} {S T U : Store} (h : Kp p o S T) (g : Kp p o T U) : Kp p o S U := Sub.trans h g
theorem Sub.len {S T : Store} (h : Sub S T) : S.length ≤ T.length := by
  cases e : S.length with
  | zero => omega
  | succ n =>
    have hn : n < S.length := by omega
    have := h n S[n] (List.getElem?_eq_getElem hn)
    have := (List.getElem?_eq_some_iff.mp this).1
    omega
theorem Kp.len {p o : Nat} {S T : Store} (h : Kp p o S T) : S.length ≤ T.length := by
  have := Sub.len h
  rw [hide_len, hide_len] at this
  exact this
theorem Kp.of {p o : Nat} {S T : Store} (hp : p < S.length) (ho : o < S.length) (hl : S.length ≤ T.length) (h : ∀ n c, n ≠ p → n ≠ o → S[n]? = some c → T[n]? = some c) : Kp p o S T := fun n c e => by
  by_cases e1 : n = p
  · subst e1
    rw [hide_p hp] at e
    rw [hide_p (by omega)]
    exact e
  · by_cases e2 : n = o
    · subst e2
      rw [hide_o ho] at e
      rw [hide_o (by omega)]
      exact e
    · rw [hide_get e1 e2] at e ⊢
      exact h n c e1 e2 e
theorem Kp.sub {p o : Nat} {S T : Store} (hp : p < S.length) (ho : o < S.length) (h : Sub S T) : Kp p o S T := Kp.of hp ho (Sub.len h) fun n c _ _ e => h n c e
theorem Kp.set_p {p o : Nat} {S : Store} {c : Cell} : Kp p o S (S.set p c) := fun n d e => by
  by_cases e1 : n = p
  · subst e1
    have hn := (List.getElem?_eq_some_iff.mp e).1
    rw [hide_len] at hn
    rw [hide_p hn] at e
    rw [hide_p (by simpa using hn)]
    exact e
  · by_cases e2 : n = o
    · subst e2
      have hn := (List.getElem?_eq_some_iff.mp e).1
      rw [hide_len] at hn
      rw [hide_o hn] at e
      rw [hide_o (by simpa using hn)]
      exact e
    · rw [hide_get e1 e2] at e ⊢
      rw [List.getElem?_set_ne (Ne.symm e1)]
      exact e
theorem Kp.set_o {p o : Nat} {S : Store} {c : Cell} : Kp p o S (S.set o c) := fun n d e => by
  by_cases e1 : n = p
  · subst e1
    have hn := (List.getElem?_eq_some_iff.mp e).1
    rw [hide_len] at hn
    rw [hide_p hn] at e
    rw [hide_p (by simpa using hn)]
    exact e
  · by_cases e2 : n = o
    · subst e2
      have hn := (List.getElem?_eq_some_iff.mp e).1
      rw [hide_len] at hn
      rw [hide_o hn] at e
      rw [hide_o (by simpa using hn)]
      exact e
    · rw [hide_get e1 e2] at e ⊢
      rw [List.getElem?_set_ne (Ne.symm e2)]
      exact e
def potK (o : Nat) (a b : Int) : Cell := .dK true [(.inr "own", .loc o), (.inr "seed", .int a), (.inr "turn", .int b)]
structure Pot (S : Store) (p o t : Nat) : Prop where
  ex : ∃ (a b : Int) (ns : List Int), S[p]? = some (potK o a b) ∧ S[o]? = some (.lst true (ns.map D.int)) ∧ 0 ≤ a ∧ a < 2 ^ 62 ∧ 0 ≤ b ∧ b ≤ (t : Int) ∧ (∀ n ∈ ns, 0 ≤ n) ∧ ns.length ≤ 63
theorem Pot.ne {S : Store} {p o t : Nat} (h : Pot S p o t) : p ≠ o := fun e => by
  obtain ⟨a, b, ns, h1, h2, _⟩ := h.ex
  rw [e] at h1
  rw [h1] at h2
  cases h2
theorem Pot.lt {S : Store} {p o t : Nat} (h : Pot S p o t) : p < S.length ∧ o < S.length := by
  obtain ⟨a, b, ns, h1, h2, _⟩ := h.ex
  exact ⟨(List.getElem?_eq_some_iff.mp h1).1, (List.getElem?_eq_some_iff.mp h2).1⟩
theorem Pot.sub {S T : Store} {p o t : Nat} (h : Pot S p o t) (m : Sub S T) : Pot T p o t := by
  obtain ⟨a, b, ns, h1, h2, r⟩ := h.ex
  exact ⟨a, b, ns, m _ _ h1, m _ _ h2, r⟩
theorem Pot.up {S : Store} {p o t u : Nat} (h : Pot S p o t) (l : t ≤ u) : Pot S p o u := by
  obtain ⟨a, b, ns, h1, h2, h3, h4, h5, h6, r⟩ := h.ex
  exact ⟨a, b, ns, h1, h2, h3, h4, h5, by omega, r⟩
theorem look_own {S : Store} {p o : Nat} {a b : Int} {P : Option D → Prop} (h : S[p]? = some (potK o a b)) (q : P (some (.loc o))) : look (.loc p) (.str "own") S P := by
  unfold look
  dsimp only
  rw [h]
  exact ⟨.inr "own", rfl, q⟩
theorem look_seed {S : Store} {p o : Nat} {a b : Int} {P : Option D → Prop} (h : S[p]? = some (potK o a b)) (q : P (some (.int a))) : look (.loc p) (.str "seed") S P := by
  unfold look
  dsimp only
  rw [h]
  exact ⟨.inr "seed", rfl, q⟩
theorem look_turn {S : Store} {p o : Nat} {a b : Int} {P : Option D → Prop} (h : S[p]? = some (potK o a b)) (q : P (some (.int b))) : look (.loc p) (.str "turn") S P := by
  unfold look
  dsimp only
  rw [h]
  exact ⟨.inr "turn", rfl, q⟩
theorem put_turn {S : Store} {p o : Nat} {a b c : Int} {P : Store → Prop} (h : S[p]? = some (potK o a b)) (q : P (S.set p (potK o a c))) : putD (.loc p) (.str "turn") (.int c) S P := by
  unfold putD
  dsimp only
  rw [h]
  exact ⟨.inr "turn", rfl, (show 3 < lineD by decide), q⟩
theorem pys_ints {S : Store} : ∀ ns : List Int, Pys S (ns.map D.int) (ns.map PyData.int)
  | [] => .nil
  | n :: ns => .cons (.int n) (pys_ints ns)
theorem shaped_ints (ns : List Int) : SeqAt.shaped (.list (ns.map PyData.int)) = true := by
  have h1 : PyData.canLayAll0 (ns.map PyData.int) = true := layAll fun p hp => by
    obtain ⟨n, _, rfl⟩ := List.mem_map.mp hp
    rfl
  have h2 : PyData.depthAll (ns.map PyData.int) ≤ 0 := depAll fun p hp => by
    obtain ⟨n, _, rfl⟩ := List.mem_map.mp hp
    exact Nat.le_refl _
  unfold SeqAt.shaped
  rw [PyData.canLay0, h1, PyData.depth]
  simp
  omega
theorem ne_nil {S : Store} {o : Nat} {ns : List Int} {Q : D → Store → Prop} (h : S[o]? = some (.lst true (ns.map D.int))) (q : Q (.bl (!ns.isEmpty)) (S ++ [.lst true []])) : fNeN (.loc o) (.loc S.length) (S ++ [.lst true []]) Q :=
  ⟨true, _, true, _, Sub.push _ _ h, last_get, pys_ints ns, shaped_ints ns, by rw [show (ns.map D.int).isEmpty = ns.isEmpty by cases ns <;> rfl]; exact q⟩
theorem ix0 {k : Nat} (h : 0 < k) : L2.ixN k 0 = some 0 := by
  unfold L2.ixN
  rw [if_pos (by decide), if_pos (by omega)]
  rfl
theorem cmul {i j : Int} (hi : i.natAbs < 2 ^ 400) (hj : j.natAbs < 2 ^ 400) : CMulW i j := by
  have lg : ∀ n : Nat, n < 2 ^ 400 → n.log2 ≤ 400 := fun n h => by
    by_cases h0 : n = 0
    · rw [h0]; decide
    · exact Nat.le_of_lt ((Nat.log2_lt h0).mpr h)
  have h1 := lg _ hi
  have h2 := lg _ hj
  unfold CMulW
  omega
section
variable {P : Program} {w : World} {K : PySem.W.Frag} {mg : Str → Option Value} {base : Heap}
def cTake : Con := fun ds S Q _ => ∃ (p o t m : Nat), ds = [.loc p, .int ((m : Nat) : Int)] ∧ 0 < m ∧ m < 2 ^ 60 ∧ Pot S p o t ∧ t ≤ 10 ^ 9 ∧ ∀ (r : Nat) T, r < m → Pot T p o (t + 1) → Kp p o S T → Q (.int ((r : Nat) : Int)) T
abbrev s__law_take : Stmt := topS 21
theorem sc__law_take : FnScope ["pot", "many", "digit", "turn", "mixed"] ["pot", "many"] (defScope s__law_take) := ⟨rfl, rfl, rfl, by decide +kernel, rfl, by decide +kernel, by decide +kernel⟩
theorem ok__law_take {f : Addr} {fd : FuncData} (F : Fun K "_law_take" "_law_take" s__law_take f fd) (hm : mg "_law_take" = some (.ref f)) (hb : Binds K fd ["pot", "many"] []) (B : Blt mg) : Fn P w K mg base 1 "_law_take" cTake [] := by
  refine defQ F hm hb .nil sc__law_take (fun ds S Q X ⟨_, _, _, _, e, _⟩ => by rw [e]; rfl) fun cdv A outer s H hr => ?_
  have hu1 := hu_of hr; have hu64 := hr.units
  refine ⟨_, (qs_cons (q_while PassesOwn.never (qt_w (qw_and (qt_cmp (op_neN hu64) ro_neN (q_dget hu1 (qv 0) q_str) (q_lst qa_nil) (nomark _)) (qw_and1 (qt_cmp (op_eq2 hu64) ro_eq (q_ix ix_seq ro_ix (q_dget hu1 (qv 0) q_str) q_int) q_int (nomark _))))) (qs_one (q_expr (q_lm PySem.F.slot_list_pop PySem.F.type_list_pop mt_popAt ro_popAt (q_dget hu1 (qv 0) q_str) (qa_cons q_int qa_nil)))))
      (qs_cons (q_if (qt_cmp (op_neN hu64) ro_neN (q_dget hu1 (qv 0) q_str) (q_lst qa_nil) (nomark _)) (qs_cons (q_set (i := 2) sc__law_take.nd rfl (.inl rfl) (q_op op_mod ro_mod (q_ix ix_seq ro_ix (q_dget hu1 (qv 0) q_str) q_int) (qv 1)))
      (qs_cons (q_asg (vs := []) (q_op op_fdivW ro_div (q_ix ix_seq ro_ix (q_dget hu1 (qv 0) q_str) q_int) (qv 1)) (qg_set (q_dget hu1 (qv 0) q_str) q_int))
      (qs_one (q_ret (qv 2))))) qs_nil)
      (qs_cons (q_set (i := 3) sc__law_take.nd rfl (.inl rfl) (q_op op_add4 ro_add (q_dget hu1 (qv 0) q_str) q_int))
      (qs_cons (q_dput hu1 (qv 0) q_str (qv 3))
      (qs_cons (q_set (i := 4) sc__law_take.nd rfl (.inl rfl) (q_op op_mod ro_mod (q_op op_mul3 ro_mul3 (q_op op_add4 ro_add (q_op op_add4 ro_add (q_dget hu1 (qv 0) q_str) (q_op op_mul3 ro_mul3 (q_op op_mul3 ro_mul3 q_int (qv 3)) (qv 3))) q_int) q_int) q_int))
      (qs_cons (q_set (i := 4) sc__law_take.nd rfl (.inl rfl) (q_op op_mod ro_mod (q_op op_mul3 ro_mul3 (qv 4) (q_op op_add4 ro_add (q_op op_mod ro_mod (qv 4) q_int) (q_op op_mul3 ro_mul3 q_int (qv 3)))) q_int))
      (qs_one (q_ret (q_op op_mod ro_mod (q_op op_add4 ro_add (q_op op_fdivW ro_div (qv 4) q_int) (q_op op_fdivW ro_div (qv 4) q_int)) (qv 1)))))))))), fun ds S Q X h => ?_⟩
  obtain ⟨p, o, t, m, rfl, hm0, hm1, hp, ht, q⟩ := h
  simp only [wRet, wRetN, wIf, wSeq, wSkip, wBreak, wCont, wNever, wDrop, wAndV, wOrV, wNotV, wIfE, wTest, wAndT, wOrT, wNotT, wUn, wOp, wVar, wC, wCB, wNil, wCons, wTup, wLst, wCall, wCallX, wSl, wNoPart, wPart, wChain, wAsg, wSet, wAug, wPar, wFor, iLst, iTp, iRng, iEn, iEnT, iItm, iSt, gNm, gTp, gNone, gMore, g2, g3, wLc, wYes, wLm, wDGet, wDIn, wDGet2, wDPut, wDNew, wDisp, wPs, wSm0, wSm1, wRev, wMaxD, wRaise, wKeep, gSet, wFld, wSFld, wMeth, wMake, wNNin, wNPut, wLock, wDPop, wDClr, wRevP, wLZip]
  have hlt := hp.lt
  have hne := hp.ne
  refine ⟨fun k e S' => e = [some (.loc p), some (.int ((m : Nat) : Int)), none, none, none] ∧ Kp p o S S' ∧ ∃ (a b : Int) (ns : List Int), S'[p]? = some (potK o a b) ∧ S'[o]? = some (.lst true (ns.map D.int)) ∧ 0 ≤ a ∧ a < 2 ^ 62 ∧ 0 ≤ b ∧ b ≤ (t : Int) ∧ (∀ n ∈ ns, 0 ≤ n) ∧ ns.length ≤ 63 ∧ k = ns.length, ?_, fun k e S' ⟨he, hk, a, b, ns, h1, h2, h3, h4, h5, h6, h7, h8, h9⟩ => ?_⟩
  · obtain ⟨a, b, ns, h1, h2, h3, h4, h5, h6, h7, h8⟩ := hp.ex
    exact ⟨ns.length, rfl, Kp.refl, a, b, ns, h1, h2, h3, h4, h5, h6, h7, h8, rfl⟩
  · subst he
    simp only [wRet, wRetN, wIf, wSeq, wSkip, wBreak, wCont, wNever, wDrop, wAndV, wOrV, wNotV, wIfE, wTest, wAndT, wOrT, wNotT, wUn, wOp, wVar, wC, wCB, wNil, wCons, wTup, wLst, wCall, wCallX, wSl, wNoPart, wPart, wChain, wAsg, wSet, wAug, wPar, wFor, iLst, iTp, iRng, iEn, iEnT, iItm, iSt, gNm, gTp, gNone, gMore, g2, g3, wLc, wYes, wLm, wDGet, wDIn, wDGet2, wDPut, wDNew, wDisp, wPs, wSm0, wSm1, wRev, wMaxD, wRaise, wKeep, gSet, wFld, wSFld, wMeth, wMake, wNNin, wNPut, wLock, wDPop, wDClr, wRevP, wLZip]
    refine ⟨_, rfl, look_own h1 ⟨(show 0 ≤ lineD by decide), ?_⟩⟩
    refine ne_nil h2 ?_
    have hA1 : (S' ++ [Cell.lst true []])[p]? = some (potK o a b) := Sub.push _ _ h1
    have hA2 : (S' ++ [Cell.lst true []])[o]? = some (.lst true (ns.map D.int)) := Sub.push _ _ h2
    have hp' : p < S'.length := (List.getElem?_eq_some_iff.mp h1).1
    have ho' : o < S'.length := (List.getElem?_eq_some_iff.mp h2).1
    have kA : Kp p o S (S' ++ [Cell.lst true []]) := hk.trans (Kp.sub hp' ho' Sub.push)
    have kB : Kp p o S ((S' ++ [Cell.lst true []]) ++ [Cell.lst true []]) := kA.trans (Kp.sub (by simp; omega) (by simp; omega) Sub.push)
    cases ns with
    | nil =>
      refine iteB (fun z => Bool.noConfusion z) fun _ => ?_
      rw [if_neg (by simp)]
      refine ⟨_, rfl, look_own hA1 ⟨(show 0 ≤ lineD by decide), ne_nil hA2 ?_⟩⟩
      refine iteB (fun z => Bool.noConfusion z) fun _ => ?_
      have hB1 : ((S' ++ [Cell.lst true []]) ++ [Cell.lst true []])[p]? = some (potK o a b) := Sub.push _ _ hA1
      have hB2 : ((S' ++ [Cell.lst true []]) ++ [Cell.lst true []])[o]? = some (.lst true (([] : List Int).map D.int)) := Sub.push _ _ hA2
      have hpB := (List.getElem?_eq_some_iff.mp hB1).1
      refine ⟨_, rfl, look_turn hB1 ⟨_, rfl, _, rfl, put_turn hB1 ?_⟩⟩
      have hC1 : (((S' ++ [Cell.lst true []]) ++ [Cell.lst true []]).set p (potK o a (b + 1)))[p]? = some (potK o a (b + 1)) := List.getElem?_set_self hpB
      have hC2 : (((S' ++ [Cell.lst true []]) ++ [Cell.lst true []]).set p (potK o a (b + 1)))[o]? = some (.lst true (([] : List Int).map D.int)) := by rw [List.getElem?_set_ne hne]; exact hB2
      have hb : b + 1 ≤ 10 ^ 9 + 1 := by omega
      obtain ⟨u, hu⟩ : ∃ u, u = b + 1 := ⟨_, rfl⟩
      have hu0 : 0 ≤ u := by omega
      have hu1' : u ≤ 10 ^ 9 + 1 := by omega
      show ∃ d, _ ∧ _
      rw [← hu] at hC1 hC2 ⊢
      refine ⟨_, rfl, look_seed hC1 ⟨_, rfl, cmul (by decide) (by omega), _, rfl, ?_⟩⟩
      have hv0 : 0 ≤ 65537 * u * u := Int.mul_nonneg (by omega) hu0
      have hv1 : 65537 * u * u ≤ (65537 * (10 ^ 9 + 1)) * (10 ^ 9 + 1) := Int.mul_le_mul (by omega) hu1' hu0 (by omega)
      obtain ⟨v, hv⟩ : ∃ v, v = 65537 * u * u := ⟨_, rfl⟩
      rw [← hv] at hv0 hv1
      refine ⟨cmul (by omega) (by omega), ?_⟩
      rw [← hv]
      refine ⟨cmul (by omega) (by decide), (by decide : (0 : Int) < 2305843009213693921), ?_⟩
      obtain ⟨x, hx⟩ : ∃ x, x = (a + v + 11) * 48271 % 2305843009213693921 := ⟨_, rfl⟩
      have hx0 : 0 ≤ x := by rw [hx]; exact Int.emod_nonneg _ (by decide)
      have hx1 : x < 2305843009213693921 := by rw [hx]; exact Int.emod_lt_of_pos _ (by decide)
      rw [← hx]
      have hy0 : 0 ≤ x % 1000003 := Int.emod_nonneg _ (by decide)
      have hy1 : x % 1000003 < 1000003 := Int.emod_lt_of_pos _ (by decide)
      refine ⟨_, rfl, _, rfl, (by decide : (0 : Int) < 1000003), _, rfl, cmul (by decide) (by omega), cmul (by omega) (by omega), (by decide : (0 : Int) < 2305843009213693907), ?_⟩
      obtain ⟨z, hz⟩ : ∃ z, z = x * (x % 1000003 + 99991 * u) % 2305843009213693907 := ⟨_, rfl⟩
      rw [← hz]
      refine ⟨_, rfl, ⟨by decide, by decide⟩, _, rfl, ⟨by decide, by decide⟩, _, rfl, (by omega : (0 : Int) < (m : Int)), ?_⟩
      have hr0 : 0 ≤ (z / 97 + z / 1000033) % (m : Int) := Int.emod_nonneg _ (by omega)
      have hr1 : (z / 97 + z / 1000033) % (m : Int) < (m : Int) := Int.emod_lt_of_pos _ (by omega)
      refine qc (q ((z / 97 + z / 1000033) % (m : Int)).toNat _ (by omega) ⟨a, u, [], hC1, hC2, h3, h4, hu0, by omega, fun n hn => by simp at hn, by simp⟩ (kB.trans Kp.set_p)) ?_
      rw [Int.toNat_of_nonneg hr0]
    | cons n ns =>
      have hn0 := h7 n List.mem_cons_self
      refine iteB (fun _ => ?_) fun z => Bool.noConfusion z
      refine ⟨_, rfl, look_own hA1 ⟨true, _, .int n, hA2, atN (k := 0) rfl, ?_⟩⟩
      show if decide (n = 0) = true then _ else _
      refine iteB (fun h10 => ?_) fun h10 => ?_
      · have hoA := (List.getElem?_eq_some_iff.mp hA2).1
        refine ⟨_, rfl, look_own hA1 ⟨⟨true, _, hA2⟩, _, .int n, hA2, by decide, by decide, rfl, ?_⟩⟩
        refine ⟨ns.length, by rw [h9]; simp, trivial, kA.trans Kp.set_o, a, b, ns, ?_, ?_, h3, h4, h5, h6, fun k hk => h7 k (List.mem_cons_of_mem _ hk), by simp at h8; omega, rfl⟩
        · rw [List.getElem?_set_ne (Ne.symm hne)]; exact hA1
        · rw [List.getElem?_set_self hoA]; rfl
      · refine ⟨_, rfl, look_own hA1 ⟨(show 0 ≤ lineD by decide), ne_nil hA2 ?_⟩⟩
        refine iteB (fun _ => ?_) fun z => Bool.noConfusion z
        have hB1 : ((S' ++ [Cell.lst true []]) ++ [Cell.lst true []])[p]? = some (potK o a b) := Sub.push _ _ hA1
        have hB2 : ((S' ++ [Cell.lst true []]) ++ [Cell.lst true []])[o]? = some (.lst true ((n :: ns).map D.int)) := Sub.push _ _ hA2
        have hoB := (List.getElem?_eq_some_iff.mp hB2).1
        refine ⟨_, rfl, look_own hB1 ⟨true, _, .int n, hB2, atN (k := 0) rfl, _, rfl, (by omega : (0 : Int) < (m : Int)), ?_⟩⟩
        refine ⟨_, rfl, look_own hB1 ⟨true, _, .int n, hB2, atN (k := 0) rfl, _, rfl, ⟨by omega, ?_⟩, ?_⟩⟩
        · show ((m : Nat) : Int).natAbs.log2 < 9000
          rw [Int.natAbs_natCast]
          have : m.log2 < 60 := (Nat.log2_lt (by omega)).mpr hm1
          omega
        · refine ⟨_, rfl, look_own hB1 ⟨_, 0, hB2, ix0 (by simp), _, rfl, ?_⟩⟩
          have hr0 : 0 ≤ n % (m : Int) := Int.emod_nonneg _ (by omega)
          have hr1 : n % (m : Int) < (m : Int) := Int.emod_lt_of_pos _ (by omega)
          refine qc (q (n % (m : Int)).toNat _ (by omega) ⟨a, b, n / (m : Int) :: ns, ?_, ?_, h3, h4, h5, by omega, fun k hk => ?_, by simpa using h8⟩ (kB.trans Kp.set_o)) ?_
          · rw [List.getElem?_set_ne (Ne.symm hne)]; exact hB1
          · rw [List.getElem?_set_self hoB]; rfl
          · rcases List.mem_cons.mp hk with rfl | hk
            · exact Int.ediv_nonneg hn0 (by omega)
            · exact h7 k (List.mem_cons_of_mem _ hk)
          · rw [Int.toNat_of_nonneg hr0]
end
end K15
set_option Elab.async false
set_option linter.all false
set_option maxRecDepth 100000
set_option maxHeartbeats 4000000
namespace K15
open PySem PySem.Spec PyProof.Rows L2 Qd
theorem cmul2 {i j : Int} (hi : i.natAbs < 2 ^ 4000) (hj : j.natAbs < 2 ^ 4000) : CMulW i j := by
  have lg : ∀ n : Nat, n < 2 ^ 4000 → n.log2 ≤ 4000 := fun n h => by
    by_cases h0 : n = 0
    · rw [h0]; decide
    · exact Nat.le_of_lt ((Nat.log2_lt h0).mpr h)
  have h1 := lg _ hi
  have h2 := lg _ hj
  unfold CMulW
  omega
section
variable {P : Program} {w : World} {K : PySem.W.Frag} {mg : Str → Option Value} {base : Heap}
/-- the sequence that _law_pick chooses from -/
def Some_ (p o : Nat) (S : Store) (d : D) (xs : List D) : Prop := (∃ n, d = .loc n ∧ (hide p o S)[n]? = some (.lst true xs)) ∨ ∃ z : Str, d = .str z ∧ z.length ≤ 100 ∧ xs = z.cps.toList.map fun c => .str ⟨#[c]⟩
def cPick : Con := fun ds S Q _ => ∃ (p o t : Nat) (d : D) (xs : List D), ds = [.loc p, d] ∧ Some_ p o S d xs ∧ 0 < xs.length ∧ xs.length ≤ 100000 ∧ Pot S p o t ∧ t ≤ 10 ^ 9 ∧ ∀ (i : Nat) (x : D) T, xs[i]? = some x → Pot T p o (t + 1) → Kp p o S T → Q x T
abbrev s__law_pick : Stmt := topS 22
theorem sc__law_pick : FnScope ["pot", "some"] ["pot", "some"] (defScope s__law_pick) := ⟨rfl, rfl, rfl, by decide +kernel, rfl, by decide +kernel, by decide +kernel⟩
theorem ok__law_pick {f : Addr} {fd : FuncData} (F : Fun K "_law_pick" "_law_pick" s__law_pick f fd) (hm : mg "_law_pick" = some (.ref f)) (hb : Binds K fd ["pot", "some"] []) (B : Blt mg) (C__law_take : Fn P w K mg base 1 "_law_take" cTake []) : Fn P w K mg base 2 "_law_pick" cPick [] := by
  refine defQ F hm hb .nil sc__law_pick (fun ds S Q X ⟨_, _, _, _, _, e, _⟩ => by rw [e]; rfl) fun cdv A outer s H hr => ?_
  have hu1 := hu_of hr; have hu64 := hr.units
  refine ⟨_, (qs_one (q_ret (q_ix ix_seq ro_ix (qv 1) (q_c (dds := []) C__law_take hr (by first | decide | omega) (by rfl) (qa_cons (qv 0) (qa_cons (q_cb call_len ro_len (by rfl) B.len (by decide +kernel) (qa_cons (qv 1) qa_nil)) qa_nil)))))), fun ds S Q X h => ?_⟩
  obtain ⟨p, o, t, d, xs, rfl, hs, h0, h1, hp, ht, q⟩ := h
  simp only [wRet, wRetN, wIf, wSeq, wSkip, wBreak, wCont, wNever, wDrop, wAndV, wOrV, wNotV, wIfE, wTest, wAndT, wOrT, wNotT, wUn, wOp, wVar, wC, wCB, wNil, wCons, wTup, wLst, wCall, wCallX, wSl, wNoPart, wPart, wChain, wAsg, wSet, wAug, wPar, wFor, iLst, iTp, iRng, iEn, iEnT, iItm, iSt, gNm, gTp, gNone, gMore, g2, g3, wLc, wYes, wLm, wDGet, wDIn, wDGet2, wDPut, wDNew, wDisp, wPs, wSm0, wSm1, wRev, wMaxD, wRaise, wKeep, gSet, wFld, wSFld, wMeth, wMake, wNNin, wNPut, wLock, wDPop, wDClr, wRevP, wLZip]
  rcases hs with ⟨n, rfl, hn⟩ | ⟨z, rfl, hz, rfl⟩
  · obtain ⟨hn', n1, n2⟩ := hide_data hn (by unfold dead; exact fun z => Cell.noConfusion z)
    refine ⟨_, rfl, _, rfl, _, rfl, true, xs, hn', p, o, t, xs.length, rfl, h0, by omega, hp, ht, fun r T hr hpT hk => ?_⟩
    obtain ⟨hT, _, _⟩ := hide_data (hk _ _ hn) (by unfold dead; exact fun z => Cell.noConfusion z)
    exact ⟨true, xs, xs[r], hT, atN (List.getElem?_eq_getElem hr), q r _ T (List.getElem?_eq_getElem hr) hpT hk⟩
  · have hl : (z.cps.toList.map fun c => D.str ⟨#[c]⟩).length = z.length := by simp; rfl
    rw [hl] at h0 h1
    refine ⟨_, rfl, _, rfl, _, rfl, len_lineD hz, p, o, t, z.length, rfl, h0, by omega, hp, ht, fun r T hr hpT hk => ?_⟩
    have hr' : r < z.cps.toList.length := hr
    exact ⟨z.cps.toList[r], len_lineD hz, atN (List.getElem?_eq_getElem hr'), q r _ T (by rw [List.getElem?_map, List.getElem?_eq_getElem hr']; rfl) hpT hk⟩
def cPot : Con := fun ds S Q _ => ∃ (ns : List Int), ds = [.scr ns] ∧ ns.length ≤ 63 ∧ ∀ p o T, S.length ≤ p → S.length ≤ o → Pot T p o 0 → Sub S T → Q (.loc p) T
abbrev s__law_pot : Stmt := topS 20
theorem sc__law_pot : FnScope ["script", "far", "seed", "own", "k", "cell"] ["script"] (defScope s__law_pot) := ⟨rfl, rfl, rfl, by decide +kernel, rfl, by decide +kernel, by decide +kernel⟩
theorem ok__law_pot {f : Addr} {fd : FuncData} (F : Fun K "_law_pot" "_law_pot" s__law_pot f fd) (hm : mg "_law_pot" = some (.ref f)) (hb : Binds K fd ["script"] []) (B : Blt mg) : Fn P w K mg base 1 "_law_pot" cPot [] := by
  refine defQ F hm hb .nil sc__law_pot (fun ds S Q X ⟨_, e, _⟩ => by rw [e]; rfl) fun cdv A outer s H hr => ?_
  have hu1 := hu_of hr; have hu64 := hr.units
  refine ⟨_, (qs_cons (q_set (i := 1) sc__law_pot.nd rfl (.inl rfl) (q_op op_mul3 ro_mul3 (q_op op_mul3 ro_mul3 (q_op op_mul3 ro_mul3 (q_op op_mul3 ro_mul3 (q_op op_pow ro_pow q_int q_int) (q_op op_pow ro_pow q_int q_int)) (q_op op_pow ro_pow q_int q_int)) (q_op op_pow ro_pow q_int q_int)) (q_op op_pow ro_pow q_int q_int)))
      (qs_cons (q_par (i := 2) (j := 3) rfl sc__law_pot.nd rfl rfl (by decide) rfl rfl q_int (q_lst qa_nil) (by rfl))
      (qs_cons (q_for (vs := [4, 5]) PassesOwn.never rfl (qi_enum (by rfl) B.enumerate (q_sl sl_3 ro_sl (qv 0) qo_none (qo_some q_int))) (qg_2 (i := 4) (j := 5) rfl sc__law_pot.nd rfl (.inl rfl) rfl (.inl rfl)) (qs_cons (q_set (i := 2) sc__law_pot.nd rfl (.inl rfl) (q_op op_mod ro_mod (q_op op_add4 ro_add (q_op op_add4 ro_add (q_op op_add4 ro_add (q_op op_mul3 ro_mul3 (qv 2) q_int) (q_op op_mod ro_mod (qv 5) q_int)) (q_op op_mul3 ro_mul3 q_int (qv 4))) q_int) q_int))
      (qs_one (q_if (qt_cmp op_ge ro_cmp (q_cb call_abs ro_abs (by rfl) B.abs (by decide +kernel) (qa_cons (qv 5) qa_nil)) (q_op op_pow ro_pow q_int q_int) (nomark _)) (qs_one (q_expr (q_lm PySem.F.slot_list_append PySem.F.type_list_append mt_append ro_append (qv 3) (qa_cons (q_op op_mod ro_mod (q_cb call_abs ro_abs (by rfl) B.abs (by decide +kernel) (qa_cons (qv 5) qa_nil)) (qv 1)) qa_nil)))) qs_nil))))
      (qs_one (q_ret (q_disp (ps := [("own", _), ("seed", _), ("turn", _)]) (pps_cons pe_str (qv 3) (pps_cons pe_str (qv 2) (pps_cons pe_str q_int pps_nil))))))))), fun ds S Q X h => ?_⟩
  obtain ⟨ns, rfl, hl, q⟩ := h
  simp only [wRet, wRetN, wIf, wSeq, wSkip, wBreak, wCont, wNever, wDrop, wAndV, wOrV, wNotV, wIfE, wTest, wAndT, wOrT, wNotT, wUn, wOp, wVar, wC, wCB, wNil, wCons, wTup, wLst, wCall, wCallX, wSl, wNoPart, wPart, wChain, wAsg, wSet, wAug, wPar, wFor, iLst, iTp, iRng, iEn, iEnT, iItm, iSt, gNm, gTp, gNone, gMore, g2, g3, wLc, wYes, wLm, wDGet, wDIn, wDGet2, wDPut, wDNew, wDisp, wPs, wSm0, wSm1, wRev, wMaxD, wRaise, wKeep, gSet, wFld, wSFld, wMeth, wMake, wNNin, wNPut, wLock, wDPop, wDClr, wRevP, wLZip]
  have cp : CPow 10 60 := ⟨by decide, by decide, by decide⟩
  have ten : ((10 : Int) ^ (60 : Int).toNat) = 10 ^ 60 := rfl
  refine ⟨cp, cp, cmul2 (by decide +kernel) (by decide +kernel), cp, cmul2 (by decide +kernel) (by decide +kernel), cp, cmul2 (by decide +kernel) (by decide +kernel), cp, cmul2 (by decide +kernel) (by decide +kernel), (show 0 ≤ lineD by decide), _, rfl, ?_⟩
  refine ⟨true, _, last_get, ?_⟩
  have cut : Qd.cutD (ns.map D.int) none (some 63) = ns.map D.int := by
    unfold Qd.cutD
    rw [HT.sIx_none, show (63 : Int) = ((63 : Nat) : Int) from rfl, HT.sIx_nat, List.length_map, List.drop_zero, Nat.sub_zero, Nat.min_eq_right hl]
    exact List.take_of_length_le (by simp)
  rw [cut]
  obtain ⟨far, hfar⟩ : ∃ far : Int, far = (10 : Int) ^ (60 : Int).toNat * 10 ^ (60 : Int).toNat * 10 ^ (60 : Int).toNat * 10 ^ (60 : Int).toNat * 10 ^ (60 : Int).toNat := ⟨_, rfl⟩
  have far0 : 0 < far := by rw [hfar]; decide
  rw [← hfar]
  refine loop_by (fun i e S' => ∃ (a : Int) (vs : List Int) (x4 x5 : Option D), e = [some (.scr ns), some (.int far), some (.int a), some (.loc S.length), x4, x5] ∧ Sub S S' ∧ S'[(S ++ [Cell.lst true []]).length]? = some (.lst true (ns.map D.int)) ∧ S'[S.length]? = some (.lst true (vs.map D.int)) ∧ 0 ≤ a ∧ a < 2 ^ 62 ∧ (∀ v ∈ vs, 0 ≤ v) ∧ vs.length ≤ i) ?_ (fun i e S' h => ?_) (fun i d hd e S' h R hR => ?_) (fun e S' h => ?_)
  · exact ⟨17, [], none, none, rfl, Sub.push.to, last_get, Sub.push _ _ last_get, by decide, by decide, fun v hv => by simp at hv, by simp⟩
  · obtain ⟨a, vs, x4, x5, he, hS, h1, _⟩ := h
    exact ⟨true, h1⟩
  · obtain ⟨a, vs, x4, x5, rfl, hS, h1, h2, h3, h4, h5, h6⟩ := h
    rw [List.getElem?_mapIdx, List.getElem?_map] at hd
    cases hc : ns[i]? with
    | none => rw [hc] at hd; cases hd
    | some v =>
      rw [hc] at hd
      cases hd
      have hi := (List.getElem?_eq_some_iff.mp hc).1
      simp only [wRet, wRetN, wIf, wSeq, wSkip, wBreak, wCont, wNever, wDrop, wAndV, wOrV, wNotV, wIfE, wTest, wAndT, wOrT, wNotT, wUn, wOp, wVar, wC, wCB, wNil, wCons, wTup, wLst, wCall, wCallX, wSl, wNoPart, wPart, wChain, wAsg, wSet, wAug, wPar, wFor, iLst, iTp, iRng, iEn, iEnT, iItm, iSt, gNm, gTp, gNone, gMore, g2, g3, wLc, wYes, wLm, wDGet, wDIn, wDGet2, wDPut, wDNew, wDisp, wPs, wSm0, wSm1, wRev, wMaxD, wRaise, wKeep, gSet, wFld, wSFld, wMeth, wMake, wNNin, wNPut, wLock, wDPop, wDClr, wRevP, wLZip]
      have hv0 : 0 ≤ v % 2305843009213693951 := Int.emod_nonneg _ (by decide)
      have hv1 : v % 2305843009213693951 < 2305843009213693951 := Int.emod_lt_of_pos _ (by decide)
      refine ⟨_, rfl, cmul (by omega) (by decide), _, rfl, (by decide : (0 : Int) < 2305843009213693951), _, rfl, cmul (by decide) (by omega), (by decide : (0 : Int) < 2305843009213693951), ?_⟩
      obtain ⟨c, hcc⟩ : ∃ c, c = (a * 48271 + v % 2305843009213693951 + 7919 * ((i : Nat) : Int) + 5) % 2305843009213693951 := ⟨_, rfl⟩
      have hc0 : 0 ≤ c := by rw [hcc]; exact Int.emod_nonneg _ (by decide)
      have hc1 : c < 2305843009213693951 := by rw [hcc]; exact Int.emod_lt_of_pos _ (by decide)
      rw [← hcc]
      refine ⟨_, rfl, ⟨by decide, by decide, by decide⟩, ?_⟩
      show if decide ((10 : Int) ^ (18 : Int).toNat ≤ (if v < 0 then -v else v)) = true then _ else _
      refine iteB (fun _ => ?_) fun _ => ?_
      · have hab : 0 ≤ (if v < 0 then -v else v) := by split <;> omega
        refine ⟨_, rfl, ⟨true, _, h2⟩, _, rfl, _, rfl, far0, _, h2, by rw [List.length_map]; exact Nat.lt_of_le_of_lt (by omega : vs.length ≤ 63) (by decide), ?_⟩
        have hlo : S.length < S'.length := (List.getElem?_eq_some_iff.mp h2).1
        refine hR _ _ ⟨c, vs ++ [(if v < 0 then -v else v) % far], some (.int ((i : Nat) : Int)), some (.int v), rfl, Sub_setN hS (Nat.le_refl _), ?_, ?_, hc0, by omega, fun z hz => ?_, by simp; omega⟩
        · rw [List.getElem?_set_ne (by simp)]; exact h1
        · rw [List.getElem?_set_self hlo, List.map_append]; rfl
        · rcases List.mem_append.mp hz with z1 | z1
          · exact h5 z z1
          · rw [List.mem_singleton.mp z1]; exact Int.emod_nonneg _ (by omega)
      · exact hR _ _ ⟨c, vs, some (.int ((i : Nat) : Int)), some (.int v), rfl, hS, h1, h2, hc0, by omega, h5, by omega⟩
  · obtain ⟨a, vs, x4, x5, rfl, hS, h1, h2, h3, h4, h5, h6⟩ := h
    simp only [List.length_mapIdx, List.length_map] at h6
    have hlo : S.length < S'.length := (List.getElem?_eq_some_iff.mp h2).1
    refine ⟨_, rfl, _, rfl, (show 3 ≤ 15 by decide), ?_⟩
    refine q S'.length S.length _ (by omega) (Nat.le_refl _) ⟨a, 0, vs, last_get, Sub.push _ _ h2, h3, h4, by decide, by decide, h5, by omega⟩ hS.to
end
end K15
set_option Elab.async false
set_option linter.all false
set_option maxRecDepth 100000
set_option maxHeartbeats 4000000
namespace K15
open PySem PySem.Spec PyProof.Rows L2 Qd
def NameS (x : Str) : Prop := nameP (.str x) = true ∧ PyData.strOk x = true
theorem join_signs (cs : List Nat) : (Txt.join "" (cs.map fun c => (⟨#[c]⟩ : Str))).cps.toList = cs := by
  have main : ∀ (cs : List Nat) (acc : Array Nat), ((cs.map fun c => (⟨#[c]⟩ : Str)).foldl (fun acc p => acc ++ (Str.ofString "").cps ++ p.cps) acc).toList = acc.toList ++ cs := by
    intro cs
    induction cs with
    | nil => intro acc; simp
    | cons c cs ih =>
      intro acc
      rw [List.map_cons, List.foldl_cons, ih]
      simp [show (Str.ofString "").cps = #[] from rfl]
  show (Builtin.Str.glued _ _).cps.toList = _
  unfold Builtin.Str.glued
  cases cs with
  | nil => rfl
  | cons c cs =>
    exact main cs #[c]
def Low (x : Str) : Prop := ∀ c ∈ x.cps.toList, c ∈ letters.cps.toList
theorem low_app {x y : Str} (h : Low x) (g : Low y) : Low (x ++ y) := fun c hc => by
  have e : (x ++ y).cps.toList = x.cps.toList ++ y.cps.toList := by
    show (x.cps ++ y.cps).toList = _
    simp
  rw [e] at hc
  rcases List.mem_append.mp hc with z | z
  · exact h c z
  · exact g c z
theorem low_cut {x : Str} (h : Low x) (lo hi : Option Int) : Low (cutS x lo hi) := fun c hc => by
  unfold cutS at hc
  simp only [List.toList_toArray] at hc
  exact h c (List.mem_of_mem_drop (List.mem_of_mem_take hc))
theorem low_one {c : Nat} (h : c ∈ letters.cps.toList) : Low ⟨#[c]⟩ := fun d hd => by
  have : d = c := by simpa using hd
  rw [this]; exact h
theorem len_app {x y : Str} : (x ++ y).length = x.length + y.length := by
  show (x.cps ++ y.cps).size = _
  simp
  rfl
theorem len_cut {x : Str} {k : Nat} (h : k ≤ x.length) : (cutS x none (some ((k : Nat) : Int))).length = k ∧ (cutS x (some ((k : Nat) : Int)) none).length = x.length - k := by
  have hx : x.cps.toList.length = x.length := rfl
  constructor
  · unfold cutS
    rw [HT.sIx_none, HT.sIx_nat]
    show (List.toArray _).size = _
    rw [List.size_toArray, List.length_take, List.drop_zero, hx]
    omega
  · unfold cutS
    rw [HT.sIx_none, HT.sIx_nat]
    show (List.toArray _).size = _
    rw [List.size_toArray, List.length_take, List.length_drop, hx]
    omega
theorem name_of {x : Str} (h : Low x) (h1 : 1 ≤ x.length) (h8 : x.length ≤ 8) : NameS x := by
  refine ⟨?_, ?_⟩
  · simp only [nameP, h1, h8, decide_true, Bool.true_and, List.all_eq_true, decide_eq_true_eq]
    exact h
  · unfold PyData.strOk
    rw [← Array.all_toList, List.all_eq_true]
    intro c hc
    have hb : ∀ d ∈ letters.cps.toList, d < 0x110000 := by decide
    exact decide_eq_true (hb c (h c hc))
theorem letter_at {i : Int} (h0 : 0 ≤ i) (h1 : i < 26) : ∃ c, c ∈ letters.cps.toList ∧ atI letters.cps.toList i = some c := by
  obtain ⟨k, rfl⟩ : ∃ k : Nat, i = (k : Int) := ⟨i.toNat, by omega⟩
  have hl : letters.cps.toList.length = 26 := by decide
  have hk : k < letters.cps.toList.length := by omega
  exact ⟨_, List.getElem_mem hk, atN (List.getElem?_eq_getElem hk)⟩
theorem fcmp_int {f : Int → Int → Bool} {i j : Int} {b : Bool} {S : Store} {Q : D → Store → Prop} (e : f i j = b) (q : Q (.bl b) S) : fCmp f (.int i) (.int j) S Q := by
  subst e
  exact q
theorem hide_set {p o n : Nat} {S : Store} {c : Cell} (h1 : n ≠ p) (h2 : n ≠ o) : hide p o (S.set n c) = (hide p o S).set n c := by
  unfold hide
  rw [List.set_comm _ _ h1, List.set_comm _ _ h2]
theorem Kp_set {p o n : Nat} {S T : Store} {c : Cell} (h : Kp p o S T) (hn : S.length ≤ n) (h1 : n ≠ p) (h2 : n ≠ o) : Kp p o S (T.set n c) := by
  unfold Kp
  rw [hide_set h1 h2]
  exact Sub_setN h (by rw [hide_len]; exact hn)
theorem Pot.setN {p o t n : Nat} {S : Store} {c : Cell} (h : Pot S p o t) (h1 : n ≠ p) (h2 : n ≠ o) : Pot (S.set n c) p o t := by
  obtain ⟨a, b, ns, g1, g2, r⟩ := h.ex
  exact ⟨a, b, ns, by rw [List.getElem?_set_ne h1]; exact g1, by rw [List.getElem?_set_ne h2]; exact g2, r⟩
theorem hide_last {p o : Nat} {S : Store} {c : Cell} (hp : p < S.length) (ho : o < S.length) : (hide p o (S ++ [c]))[S.length]? = some c := by
  rw [hide_get (by omega) (by omega)]
  exact last_get
section
variable {P : Program} {w : World} {K : PySem.W.Frag} {mg : Str → Option Value} {base : Heap}
def cNames : Con := fun ds S Q _ => ∃ (p o t : Nat), ds = [.loc p, .int 3] ∧ Pot S p o t ∧ t ≤ 10 ^ 8 ∧ ∀ nn (names : List Str) T, Pot T p o (t + 20) → Kp p o S T → (hide p o T)[nn]? = some (.lst true (names.map D.str)) → names.length = 3 → (∀ x ∈ names, NameS x) → Q (.loc nn) T
abbrev s__law_names : Stmt := topS 23
theorem sc__law_names : FnScope ["pot", "many", "letters", "first", "stride", "base", "at", "tail", "names", "k", "name"] ["pot", "many"] (defScope s__law_names) := ⟨rfl, rfl, rfl, by decide +kernel, rfl, by decide +kernel, by decide +kernel⟩
theorem ok__law_names {f : Addr} {fd : FuncData} (F : Fun K "_law_names" "_law_names" s__law_names f fd) (hm : mg "_law_names" = some (.ref f)) (hb : Binds K fd ["pot", "many"] []) (B : Blt mg) (C__law_take : Fn P w K mg base 1 "_law_take" cTake []) (C__law_pick : Fn P w K mg base 2 "_law_pick" cPick []) : Fn P w K mg base 3 "_law_names" cNames [] := by
  refine defQ F hm hb .nil sc__law_names (fun ds S Q X ⟨_, _, _, e, _⟩ => by rw [e]; rfl) fun cdv A outer s H hr => ?_
  have hu1 := hu_of hr; have hu64 := hr.units
  refine ⟨_, (qs_cons (q_set (i := 2) sc__law_names.nd rfl (.inr rfl) q_str)
      (qs_cons (q_set (i := 3) sc__law_names.nd rfl (.inl rfl) (q_c (dds := []) C__law_take hr (by first | decide | omega) (by rfl) (qa_cons (qv 0) (qa_cons q_int qa_nil))))
      (qs_cons (q_set (i := 4) sc__law_names.nd rfl (.inl rfl) (q_c (dds := []) C__law_pick hr (by first | decide | omega) (by rfl) (qa_cons (qv 0) (qa_cons (q_lst (qa_cons q_int (qa_cons q_int (qa_cons q_int (qa_cons q_int (qa_cons q_int (qa_cons q_int (qa_cons q_int (qa_cons q_int qa_nil))))))))) qa_nil))))
      (qs_cons (q_set (i := 5) sc__law_names.nd rfl (.inl rfl) (q_join q_str (q_lc (own := [("k", 9)]) rfl sc__law_names.nd (qi_range (by rfl) B.range (q_c (dds := []) C__law_take hr (by first | decide | omega) (by rfl) (qa_cons (qv 0) (qa_cons q_int qa_nil)))) (blkOk_by (N := ["pot", "many", "letters", "first", "stride", "base", "at", "tail", "names", "k", "name"]) (sc := defScope s__law_names) (by decide +kernel)) (fun _ _ _ _ _ => (qg_name (i := 9) sc__law_names.nd rfl (.inl rfl))) (fun _ _ _ _ _ => qts_nil) (fun _ _ _ _ _ => (q_c (dds := []) C__law_pick hr (by first | decide | omega) (by rfl) (qa_cons (qv 0) (qa_cons (qv 2) qa_nil)))))))
      (qs_cons (q_par (i := 6) (j := 7) rfl sc__law_names.nd rfl rfl (by decide) rfl rfl (q_c (dds := []) C__law_take hr (by first | decide | omega) (by rfl) (qa_cons (qv 0) (qa_cons (q_op op_add4 ro_add (q_cb call_len ro_len (by rfl) B.len (by decide +kernel) (qa_cons (qv 5) qa_nil)) q_int) qa_nil))) (q_c (dds := []) C__law_take hr (by first | decide | omega) (by rfl) (qa_cons (qv 0) (qa_cons q_int qa_nil))) (by rfl))
      (qs_cons (q_set (i := 8) sc__law_names.nd rfl (.inl rfl) (q_lst qa_nil))
      (qs_cons (q_for (vs := [9]) PassesOwn.never rfl (qi_range (by rfl) B.range (qv 1)) (qg_name (i := 9) sc__law_names.nd rfl (.inl rfl)) (qs_cons (q_set (i := 10) sc__law_names.nd rfl (.inl rfl) (q_op op_add4 ro_add (q_op op_add4 ro_add (q_sl sl_3 ro_sl (qv 5) qo_none (qo_some (qv 6))) (q_ix ix_seq ro_ix (qv 2) (q_op op_mod ro_mod (q_op op_add4 ro_add (qv 3) (q_op op_mul3 ro_mul3 (qv 4) (qv 9))) q_int))) (q_sl sl_3 ro_sl (qv 5) (qo_some (qv 6)) qo_none)))
      (qs_one (q_expr (q_lm PySem.F.slot_list_append PySem.F.type_list_append mt_append ro_append (qv 8) (qa_cons (q_op op_add4 ro_add (qv 10) (q_op op_mul3 ro_mul3 (q_ix ix_seq ro_ix (qv 2) (q_op op_mod ro_mod (q_op op_add4 ro_add (qv 7) (q_op op_fdivW ro_div (qv 9) q_int)) q_int)) (q_ct call_int1 ro_int (by rfl) B.int (by decide +kernel) (qa_cons (q_cmp op_gt ro_cmp (qv 9) q_int (nomark _)) qa_nil)))) qa_nil))))))
      (qs_one (q_ret (qv 8)))))))))), fun ds S Q X h => ?_⟩
  obtain ⟨p, o, t, rfl, hp, ht, q⟩ := h
  simp only [wRet, wRetN, wIf, wSeq, wSkip, wBreak, wCont, wNever, wDrop, wAndV, wOrV, wNotV, wIfE, wTest, wAndT, wOrT, wNotT, wUn, wOp, wVar, wC, wCB, wNil, wCons, wTup, wLst, wCall, wCallX, wSl, wNoPart, wPart, wChain, wAsg, wSet, wAug, wPar, wFor, iLst, iTp, iRng, iEn, iEnT, iItm, iSt, gNm, gTp, gNone, gMore, g2, g3, wLc, wYes, wLm, wDGet, wDIn, wDGet2, wDPut, wDNew, wDisp, wPs, wSm0, wSm1, wRev, wMaxD, wRaise, wKeep, gSet, wFld, wSFld, wMeth, wMake, wNNin, wNPut, wLock, wDPop, wDClr, wRevP, wLZip]
  refine ⟨_, rfl, p, o, t, 26, rfl, by decide, by decide, hp, by omega, fun first T1 hf1 hp1 hk1 => ?_⟩
  have hl1 := hp1.lt
  refine ⟨_, rfl, (show 8 ≤ lineD by decide), p, o, t + 1, _, _, rfl, .inl ⟨_, rfl, hide_last hl1.1 hl1.2⟩, by decide, by decide, hp1.sub Sub.push, by omega, fun i x T2 hx hp2 hk2 => ?_⟩
  obtain ⟨st, hst, rfl⟩ : ∃ st : Nat, st ≤ 25 ∧ x = .int ((st : Nat) : Int) := by
    have hx' : (([1, 3, 5, 7, 9, 11, 15, 25] : List Nat).map fun n : Nat => D.int ((n : Nat) : Int))[i]? = some x := hx
    rw [List.getElem?_map] at hx'
    cases hn : ([1, 3, 5, 7, 9, 11, 15, 25] : List Nat)[i]? with
    | none => rw [hn] at hx'; cases hx'
    | some n =>
      rw [hn] at hx'
      cases hx'
      have hm := List.mem_of_getElem? hn
      have hb : ∀ n ∈ ([1, 3, 5, 7, 9, 11, 15, 25] : List Nat), n ≤ 25 := by decide
      exact ⟨n, hb n hm, rfl⟩
  have hk02 : Kp p o S T2 := (hk1.trans (Kp.sub hl1.1 hl1.2 Sub.push)).trans hk2
  refine ⟨_, rfl, p, o, t + 2, 7, rfl, by decide, by decide, hp2, by omega, fun n7 T3 hn7 hp3 hk3 => ⟨by omega, by omega, ?_⟩⟩
  have hk03 := hk02.trans hk3
  have r7 : (((n7 : Nat) : Int)).toNat = n7 := Int.toNat_natCast n7
  refine lc_yes (fun i S' => Pot S' p o (t + 3 + i) ∧ Kp p o S S') (fun i d y => ∃ c, c ∈ letters.cps.toList ∧ y = .str ⟨#[c]⟩) ⟨hp3, hk03⟩ (by simp; exact Nat.le_trans (Nat.le_of_lt hn7) (by decide)) (fun _ _ _ => trivial) (fun i d hd S' ⟨hpS, hkS⟩ R hR => ?_) (fun ys S4 hl4 hy ⟨hp4, hk4⟩ => ?_)
  · have hi : i < 7 := by
      have := (List.getElem?_eq_some_iff.mp hd).1
      simp at this
      omega
    simp only [wRet, wRetN, wIf, wSeq, wSkip, wBreak, wCont, wNever, wDrop, wAndV, wOrV, wNotV, wIfE, wTest, wAndT, wOrT, wNotT, wUn, wOp, wVar, wC, wCB, wNil, wCons, wTup, wLst, wCall, wCallX, wSl, wNoPart, wPart, wChain, wAsg, wSet, wAug, wPar, wFor, iLst, iTp, iRng, iEn, iEnT, iItm, iSt, gNm, gTp, gNone, gMore, g2, g3, wLc, wYes, wLm, wDGet, wDIn, wDGet2, wDPut, wDNew, wDisp, wPs, wSm0, wSm1, wRev, wMaxD, wRaise, wKeep, gSet, wFld, wSFld, wMeth, wMake, wNNin, wNPut, wLock, wDPop, wDClr, wRevP, wLZip]
    refine ⟨_, rfl, _, rfl, p, o, t + 3 + i, .str letters, _, rfl, .inr ⟨letters, rfl, by decide, rfl⟩, by decide, by decide, hpS, by omega, fun j x T hx hpT hkT => ?_⟩
    rw [List.getElem?_map] at hx
    cases hc : letters.cps.toList[j]? with
    | none => rw [hc] at hx; cases hx
    | some c =>
      rw [hc] at hx
      cases hx
      exact hR _ _ ⟨c, List.mem_of_getElem? hc, rfl⟩ ⟨hpT, hkS.trans hkT⟩
  · simp only [List.length_map, List.length_range, r7] at hl4 hp4
    have hp4 : Pot S4 p o (t + 10) := hp4.up (by omega)
    -- the base
    obtain ⟨cs, hcs, rfl⟩ : ∃ cs : List Nat, (∀ c ∈ cs, c ∈ letters.cps.toList) ∧ ys = (cs.map fun c => (⟨#[c]⟩ : Str)).map D.str := by
      have main : ∀ (l : List D), (∀ y ∈ l, ∃ c, c ∈ letters.cps.toList ∧ y = D.str ⟨#[c]⟩) → ∃ cs : List Nat, (∀ c ∈ cs, c ∈ letters.cps.toList) ∧ l = (cs.map fun c => (⟨#[c]⟩ : Str)).map D.str := by
        intro l
        induction l with
        | nil => intro _; exact ⟨[], by simp, rfl⟩
        | cons y l ih =>
          intro h
          obtain ⟨c, hc, rfl⟩ := h y List.mem_cons_self
          obtain ⟨cs, h1, h2⟩ := ih fun z hz => h z (List.mem_cons_of_mem _ hz)
          refine ⟨c :: cs, fun d hd => ?_, by rw [h2]; rfl⟩
          rcases List.mem_cons.mp hd with rfl | hd
          · exact hc
          · exact h1 d hd
      refine main ys fun y hy' => ?_
      obtain ⟨j, hj, hj'⟩ := List.getElem_of_mem hy'
      have hj2 : ys[j]? = some y := by rw [List.getElem?_eq_getElem hj, hj']
      exact hy j _ y (List.getElem?_eq_getElem (by simp; omega)) hj2
    have hcl : cs.length = n7 := by simpa using hl4
    obtain ⟨bs, hbs⟩ : ∃ bs, bs = Txt.join "" (cs.map fun c => (⟨#[c]⟩ : Str)) := ⟨_, rfl⟩
    have hbl : bs.length = n7 := by
      show bs.cps.toList.length = _
      rw [hbs, join_signs, hcl]
    have hlow : Low bs := fun c hc => by
      rw [hbs, join_signs] at hc
      exact hcs c hc
    have hl4' := hp4.lt
    refine ⟨true, _, last_get, ?_, ?_⟩
    · have : ((cs.map fun c => (⟨#[c]⟩ : Str)).map (·.length)).sum = cs.length := by
        clear hcs hl4 hy hcl hbs
        induction cs with
        | nil => rfl
        | cons c cs ih => simp at ih ⊢; rw [ih]; show 1 + _ = _; omega
      rw [this, List.length_map]
      show _ + _ * 0 ≤ _
      omega
    · rw [← hbs]
      refine ⟨_, rfl, _, rfl, len_lineD (by omega), p, o, t + 10, n7 + 1, ?_, by omega, by omega, hp4.sub Sub.push, by omega, fun at_ T5 hat hp5 hk5 => ?_⟩
      · rw [hbl]; simp
      · refine ⟨_, rfl, p, o, t + 11, 26, rfl, by decide, by decide, hp5, by omega, fun tl T6 htl hp6 hk6 => ?_⟩
        have hk06 : Kp p o S T6 := ((hk4.trans (Kp.sub hl4'.1 hl4'.2 Sub.push)).trans hk5).trans hk6
        have hl6 := hp6.lt
        refine ⟨(show 0 ≤ lineD by decide), _, rfl, by decide, by decide, ?_⟩
        have hSl : S.length ≤ T6.length := hk06.len
        have np : T6.length ≠ p := by omega
        have no : T6.length ≠ o := by omega
        refine loop_by (fun i e S' => ∃ (names : List Str) (x9 x10 : Option D), e = [some (.loc p), some (.int 3), some (.str letters), some (.int ((first : Nat) : Int)), some (.int ((st : Nat) : Int)), some (.str bs), some (.int ((at_ : Nat) : Int)), some (.int ((tl : Nat) : Int)), some (.loc T6.length), x9, x10] ∧ Pot S' p o (t + 12) ∧ Kp p o S S' ∧ S'[T6.length]? = some (.lst true (names.map D.str)) ∧ names.length = i ∧ ∀ x ∈ names, NameS x) ?_ (fun _ _ _ _ => trivial) (fun i d hd e S' h R hR => ?_) (fun e S' h => ?_)
        · exact ⟨[], none, none, rfl, hp6.sub Sub.push, hk06.trans (Kp.sub hl6.1 hl6.2 Sub.push), last_get, rfl, by simp⟩
        · obtain ⟨names, x9, x10, rfl, hpS, hkS, hg, hn, hns⟩ := h
          have hd' : ((List.range 3).map fun k => D.int ((k : Nat) : Int))[i]? = some d := hd
          rw [List.getElem?_map] at hd'
          cases hr : (List.range 3)[i]? with
          | none => rw [hr] at hd'; cases hd'
          | some k =>
            rw [hr] at hd'
            cases hd'
            have hi4 : i < 3 := by
              have := (List.getElem?_eq_some_iff.mp hr).1
              simpa using this
            have hk4 : k = i := by
              have := (List.getElem?_eq_some_iff.mp hr).2
              simpa using this.symm
            subst hk4
            simp only [wRet, wRetN, wIf, wSeq, wSkip, wBreak, wCont, wNever, wDrop, wAndV, wOrV, wNotV, wIfE, wTest, wAndT, wOrT, wNotT, wUn, wOp, wVar, wC, wCB, wNil, wCons, wTup, wLst, wCall, wCallX, wSl, wNoPart, wPart, wChain, wAsg, wSet, wAug, wPar, wFor, iLst, iTp, iRng, iEn, iEnT, iItm, iSt, gNm, gTp, gNone, gMore, g2, g3, wLc, wYes, wLm, wDGet, wDIn, wDGet2, wDPut, wDNew, wDisp, wPs, wSm0, wSm1, wRev, wMaxD, wRaise, wKeep, gSet, wFld, wSFld, wMeth, wMake, wNNin, wNPut, wLock, wDPop, wDClr, wRevP, wLZip]
            have hg0 : 0 ≤ (((first : Nat) : Int) + ((st : Nat) : Int) * ((k : Nat) : Int)) % 26 := Int.emod_nonneg _ (by decide)
            have hg1 : (((first : Nat) : Int) + ((st : Nat) : Int) * ((k : Nat) : Int)) % 26 < 26 := Int.emod_lt_of_pos _ (by decide)
            obtain ⟨c1, hc1, ha1⟩ := letter_at hg0 hg1
            have hm0 : 0 ≤ (((tl : Nat) : Int) + ((k : Nat) : Int) / 26) % 26 := Int.emod_nonneg _ (by decide)
            have hm1 : (((tl : Nat) : Int) + ((k : Nat) : Int) / 26) % 26 < 26 := Int.emod_lt_of_pos _ (by decide)
            obtain ⟨c2, hc2, ha2⟩ := letter_at hm0 hm1
            have hat' : at_ ≤ bs.length := by omega
            have lc := len_cut hat'
            have hbb : bs.length ≤ 100 := by omega
            refine ⟨_, rfl, _, rfl, len_lineD hbb, _, rfl, _, rfl, _, rfl, _, rfl, cmul (by omega) (by omega), (by decide : (0 : Int) < 26), c1, by decide, ha1, ?_⟩
            refine ⟨Nat.le_trans (by rw [lc.1]; show at_ + 1 ≤ 100; omega) (by decide : (100 : Nat) ≤ lineD), _, rfl, _, rfl, len_lineD hbb, ?_⟩
            refine ⟨Nat.le_trans (by rw [len_app, lc.1, lc.2]; show at_ + 1 + (bs.length - at_) ≤ 100; omega) (by decide : (100 : Nat) ≤ lineD), ?_⟩
            refine ⟨_, rfl, ⟨true, _, hg⟩, _, rfl, _, rfl, _, rfl, _, rfl, ⟨by decide, by decide⟩, (by decide : (0 : Int) < 26), c2, by decide, ha2, _, rfl, ?_⟩
            have e25 : decide ((25 : Int) < ((k : Nat) : Int)) = false := decide_eq_false (by omega)
            refine fcmp_int e25 ?_
            obtain ⟨nm, hnm⟩ : ∃ nm : Str, nm = cutS bs none (some ((at_ : Nat) : Int)) ++ ⟨#[c1]⟩ ++ cutS bs (some ((at_ : Nat) : Int)) none := ⟨_, rfl⟩
            rw [← hnm]
            have hnl : nm.length = bs.length + 1 := by
              rw [hnm, len_app, len_app, lc.1, lc.2]
              show at_ + 1 + (bs.length - at_) = _
              omega
            have hlow2 : Low nm := hnm ▸ low_app (low_app (low_cut hlow _ _) (low_one hc1)) (low_cut hlow _ _)
            have hnm2 : NameS (nm ++ Str.empty) := name_of (low_app hlow2 fun c hc => by cases hc) (by rw [len_app]; omega) (by rw [len_app, hnl]; show _ + 0 ≤ 8; omega)
            refine ⟨⟨by decide, fun z => absurd (by decide) z, fun z => absurd (by decide) z⟩, ?_⟩
            show nm.length + (Str.empty).length ≤ lineD ∧ _
            refine ⟨Nat.le_trans (by rw [hnl]; show _ + 0 ≤ 100; omega : _ ≤ 100) (by decide : (100 : Nat) ≤ lineD), names.map D.str, hg, by rw [List.length_map]; exact Nat.lt_of_le_of_lt (by omega : names.length ≤ 3) (by decide), ?_⟩
            have ho : T6.length < S'.length := (List.getElem?_eq_some_iff.mp hg).1
            refine hR _ _ ⟨names ++ [nm ++ Str.empty], some (.int ((k : Nat) : Int)), some (.str nm), rfl, hpS.setN np no, Kp_set hkS hSl np no, ?_, by simp [hn], fun x hx => ?_⟩
            · rw [List.getElem?_set_self ho, List.map_append]; rfl
            · rcases List.mem_append.mp hx with z | z
              · exact hns x z
              · rw [List.mem_singleton.mp z]; exact hnm2
        · obtain ⟨names, x9, x10, rfl, hpS, hkS, hg, hn, hns⟩ := h
          have hn4 : names.length = 3 := by rw [hn]; rfl
          refine ⟨_, rfl, q _ names S' (hpS.up (by omega)) hkS ?_ hn4 hns⟩
          rw [hide_get np no]
          exact hg
end
end K15
set_option Elab.async false
set_option linter.all false
set_option maxRecDepth 100000
set_option maxHeartbeats 4000000
namespace K15
open PySem PySem.Spec PyProof.Rows L2 Qd
/-! ### terms -/
abbrev Tm := P15.Tm Str
mutual
def toD : Tm → D
  | .bl n => .int ((n : Nat) : Int)
  | .nd x ts => .tup (.str x :: toDs ts)
def toDs : List Tm → List D
  | [] => []
  | t :: ts => toD t :: toDs ts
end
theorem toDs_map : ∀ ts : List Tm, toDs ts = ts.map toD
  | [] => rfl
  | t :: ts => by rw [toDs, toDs_map ts]; rfl
def isBl : Tm → Bool
  | .bl _ => true
  | .nd _ _ => false
mutual
def dep : Tm → Nat
  | .bl _ => 0
  | .nd _ ts => deps ts + 1
def deps : List Tm → Nat
  | [] => 0
  | t :: ts => max (dep t) (deps ts)
end
mutual
def siz : Tm → Nat
  | .bl _ => 1
  | .nd _ ts => sizs ts + 1
def sizs : List Tm → Nat
  | [] => 0
  | t :: ts => siz t + sizs ts
end
theorem dep_le {t : Tm} {ts : List Tm} (h : t ∈ ts) : dep t ≤ deps ts := by
  induction ts with
  | nil => cases h
  | cons u us ih =>
    rw [deps]
    rcases List.mem_cons.mp h with z | z
    · subst z; omega
    · have := ih z; omega
theorem siz_le {t : Tm} {ts : List Tm} (h : t ∈ ts) : siz t ≤ sizs ts := by
  induction ts with
  | nil => cases h
  | cons u us ih =>
    rw [sizs]
    rcases List.mem_cons.mp h with z | z
    · subst z; omega
    · have := ih z; omega
mutual
def partsF (p : List Nat) : Tm → List (List Nat × Tm)
  | .bl n => [(p, .bl n)]
  | .nd x ts => (p, .nd x ts) :: partsL p 0 ts
def partsL (p : List Nat) (k : Nat) : List Tm → List (List Nat × Tm)
  | [] => []
  | t :: ts => partsF (p ++ [k]) t ++ partsL p (k + 1) ts
end
mutual
theorem parts_len : ∀ (t : Tm) (p : List Nat), (partsF p t).length = siz t
  | .bl n, p => rfl
  | .nd x ts, p => by rw [partsF, siz, List.length_cons, partsL_len ts p 0]
theorem partsL_len : ∀ (ts : List Tm) (p : List Nat) (k : Nat), (partsL p k ts).length = sizs ts
  | [], p, k => rfl
  | t :: ts, p, k => by rw [partsL, sizs, List.length_append, parts_len t, partsL_len ts]
end
theorem sizs_take : ∀ (ts : List Tm) (i : Nat), sizs (ts.take i) ≤ sizs ts
  | [], i => by simp
  | t :: ts, 0 => by simp [sizs]
  | t :: ts, i + 1 => by rw [List.take_succ_cons, sizs, sizs]; have := sizs_take ts i; omega
theorem partsL_take : ∀ (ts : List Tm) (p : List Nat) (k i : Nat) (t : Tm), ts[i]? = some t → partsL p k (ts.take (i + 1)) = partsL p k (ts.take i) ++ partsF (p ++ [k + i]) t
  | [], p, k, i, t, h => by simp at h
  | u :: us, p, k, 0, t, h => by cases h; simp [partsL]
  | u :: us, p, k, i + 1, t, h => by
    rw [List.take_succ_cons, List.take_succ_cons, partsL, partsL, partsL_take us p (k + 1) i t (by simpa using h), List.append_assoc, Nat.add_right_comm, Nat.add_assoc]
def pathD (p : List Nat) : D := .tup (p.map fun n : Nat => .int ((n : Nat) : Int))
def partD (q : List Nat × Tm) : D := .tup [pathD q.1, toD q.2]
def blOf : List Nat × Tm → Option Nat
  | (_, .bl n) => some n
  | _ => none
/-- the blank stands in the term -/
inductive Occ (b : Nat) : Tm → Prop
  | here : Occ b (.bl b)
  | sub {x : Str} {ts : List Tm} {t : Tm} : t ∈ ts → Occ b t → Occ b (.nd x ts)
mutual
theorem occ_parts (b : Nat) : ∀ (t : Tm) (p : List Nat), (∃ q, (q, P15.Tm.bl b) ∈ partsF p t) ↔ Occ b t
  | .bl n, p => by
    rw [partsF]
    constructor
    · rintro ⟨q, h⟩; cases List.mem_singleton.mp h; exact .here
    · intro h; cases h; exact ⟨p, List.mem_singleton.mpr rfl⟩
  | .nd x ts, p => by
    rw [partsF]
    constructor
    · rintro ⟨q, h⟩
      rcases List.mem_cons.mp h with z | z
      · cases z
      · obtain ⟨t, h1, h2⟩ := (occ_partsL b ts p 0).mp ⟨q, z⟩
        exact .sub h1 h2
    · intro h
      cases h with
      | sub h1 h2 =>
        obtain ⟨q, h3⟩ := (occ_partsL b ts p 0).mpr ⟨_, h1, h2⟩
        exact ⟨q, List.mem_cons_of_mem _ h3⟩
theorem occ_partsL (b : Nat) : ∀ (ts : List Tm) (p : List Nat) (k : Nat), (∃ q, (q, P15.Tm.bl b) ∈ partsL p k ts) ↔ ∃ t ∈ ts, Occ b t
  | [], p, k => by simp [partsL]
  | t :: ts, p, k => by
    rw [partsL]
    constructor
    · rintro ⟨q, h⟩
      rcases List.mem_append.mp h with z | z
      · exact ⟨t, List.mem_cons_self, (occ_parts b t _).mp ⟨q, z⟩⟩
      · obtain ⟨u, h1, h2⟩ := (occ_partsL b ts p (k + 1)).mp ⟨q, z⟩
        exact ⟨u, List.mem_cons_of_mem _ h1, h2⟩
    · rintro ⟨u, h1, h2⟩
      rcases List.mem_cons.mp h1 with z | z
      · obtain ⟨q, h⟩ := (occ_parts b t (p ++ [k])).mpr (z ▸ h2)
        exact ⟨q, List.mem_append_left _ h⟩
      · obtain ⟨q, h⟩ := (occ_partsL b ts p (k + 1)).mpr ⟨u, z, h2⟩
        exact ⟨q, List.mem_append_right _ h⟩
end
/-- one after another, each once -/
def ddup (acc : List Nat) (b : Nat) : List Nat := if b ∈ acc then acc else acc ++ [b]
def onceF (acc : List Nat) : List (List Nat × Tm) → List Nat
  | [] => acc
  | q :: r => onceF (match blOf q with | some b => ddup acc b | none => acc) r
def onD (ks : List Nat) : List (Key × D) := ks.map fun b : Nat => (Sum.inl ((b : Nat) : Int), .bl true)
theorem put_on (ks : List Nat) (b : Nat) : Qd.put (onD ks) (.inl ((b : Nat) : Int)) (.bl true) = onD (ddup ks b) := by
  have ha : ((onD ks).any fun kv => decide (kv.1 = .inl ((b : Nat) : Int))) = decide (b ∈ ks) := by
    unfold onD
    induction ks with
    | nil => rfl
    | cons k ks ih =>
      simp only [List.map_cons, List.any_cons, ih]
      by_cases h : k = b
      · subst h; simp
      · have h1 : ¬ b = k := fun e => h e.symm
        have h2 : ¬ ((Sum.inl ((k : Nat) : Int) : Key) = .inl ((b : Nat) : Int)) := fun e => h (by cases e; rfl)
        simp [h1, h2]
  unfold Qd.put ddup
  rw [ha]
  by_cases h : b ∈ ks
  · rw [if_pos (decide_eq_true h), if_pos h]
    unfold onD
    rw [List.map_map]
    refine List.map_congr_left fun k _ => ?_
    show (if (Sum.inl ((k : Nat) : Int) : Key) = .inl ((b : Nat) : Int) then ((Sum.inl ((k : Nat) : Int) : Key), D.bl true) else ((Sum.inl ((k : Nat) : Int) : Key), D.bl true)) = _
    split <;> rfl
  · rw [if_neg (by simpa using h), if_neg h]
    unfold onD
    rw [List.map_append]; rfl
theorem ddup_nd {ks : List Nat} (h : ks.Nodup) (b : Nat) : (ddup ks b).Nodup := by
  unfold ddup
  by_cases hb : b ∈ ks
  · rw [if_pos hb]; exact h
  · rw [if_neg hb, List.nodup_append]
    exact ⟨h, by simp, fun a ha c hc => by rw [List.mem_singleton.mp hc]; rintro rfl; exact hb ha⟩
theorem ddup_mem {ks : List Nat} {b c : Nat} : c ∈ ddup ks b ↔ c ∈ ks ∨ c = b := by
  unfold ddup
  by_cases hb : b ∈ ks
  · rw [if_pos hb]; exact ⟨.inl, fun h => h.elim id fun e => e ▸ hb⟩
  · rw [if_neg hb]; simp
theorem ddup_len {ks : List Nat} {b : Nat} : (ddup ks b).length ≤ ks.length + 1 := by
  unfold ddup; split <;> simp
theorem onceF_snoc : ∀ (l : List (List Nat × Tm)) (acc : List Nat) (q : List Nat × Tm), onceF acc (l ++ [q]) = (match blOf q with | some b => ddup (onceF acc l) b | none => onceF acc l)
  | [], acc, q => rfl
  | r :: l, acc, q => by rw [List.cons_append, onceF, onceF_snoc l]; rfl
theorem onceF_nd : ∀ (l : List (List Nat × Tm)) (acc : List Nat), acc.Nodup → (onceF acc l).Nodup
  | [], acc, h => h
  | q :: l, acc, h => by
    rw [onceF]
    refine onceF_nd l _ ?_
    split
    · exact ddup_nd h _
    · exact h
theorem onceF_mem : ∀ (l : List (List Nat × Tm)) (acc : List Nat) (c : Nat), c ∈ onceF acc l ↔ c ∈ acc ∨ ∃ q, (q, P15.Tm.bl c) ∈ l
  | [], acc, c => by simp [onceF]
  | (p, .bl n) :: l, acc, c => by
    rw [onceF, onceF_mem l]
    show c ∈ ddup acc n ∨ _ ↔ _
    rw [ddup_mem]
    constructor
    · rintro ((h | h) | ⟨q, h⟩)
      · exact .inl h
      · subst h; exact .inr ⟨p, List.mem_cons_self⟩
      · exact .inr ⟨q, List.mem_cons_of_mem _ h⟩
    · rintro (h | ⟨q, h⟩)
      · exact .inl (.inl h)
      · rcases List.mem_cons.mp h with z | z
        · cases z; exact .inl (.inr rfl)
        · exact .inr ⟨q, z⟩
  | (p, .nd x ts) :: l, acc, c => by
    rw [onceF, onceF_mem l]
    show c ∈ acc ∨ _ ↔ _
    constructor
    · rintro (h | ⟨q, h⟩)
      · exact .inl h
      · exact .inr ⟨q, List.mem_cons_of_mem _ h⟩
    · rintro (h | ⟨q, h⟩)
      · exact .inl h
      · rcases List.mem_cons.mp h with z | z
        · cases z
        · exact .inr ⟨q, z⟩
theorem onceF_len : ∀ (l : List (List Nat × Tm)) (acc : List Nat), (onceF acc l).length ≤ acc.length + l.length
  | [], acc => by simp [onceF]
  | q :: l, acc => by
    rw [onceF, List.length_cons]
    refine Nat.le_trans (onceF_len l _) ?_
    split
    · have := @ddup_len acc ‹Nat›; omega
    · omega
def blanksF (t : Tm) : List Nat := onceF [] (partsF [] t)
theorem blanksF_nd (t : Tm) : (blanksF t).Nodup := onceF_nd _ _ .nil
theorem blanksF_mem (t : Tm) (b : Nat) : b ∈ blanksF t ↔ Occ b t := by
  unfold blanksF
  rw [onceF_mem, ← occ_parts b t []]
  simp
/-! ### defs -/
section
variable {P : Program} {w : World} {K : PySem.W.Frag} {mg : Str → Option Value} {base : Heap}
def cWh : Con := fun ds S Q _ => ∃ t, ds = [toD t] ∧ Q (.bl (isBl t)) S
theorem isi_tm (T : String) (t : Tm) {S : Store} {Q : D → Store → Prop} (q : ∀ b, isTy S T (toD t) = some b → Q (.bl b) S) (h : (isTy S T (toD t)).isSome = true) : fIsi T (toD t) S Q := by
  obtain ⟨b, hb⟩ := Option.isSome_iff_exists.mp h
  exact ⟨b, hb, q b hb⟩
abbrev s_is_whole : Stmt := topS 6
theorem sc_is_whole : FnScope ["thing"] ["thing"] (defScope s_is_whole) := ⟨rfl, rfl, rfl, by decide +kernel, rfl, by decide +kernel, by decide +kernel⟩
theorem ok_is_whole {f : Addr} {fd : FuncData} (F : Fun K "is_whole" "is_whole" s_is_whole f fd) (hm : mg "is_whole" = some (.ref f)) (hb : Binds K fd ["thing"] []) (B : Blt mg) : Fn P w K mg base 1 "is_whole" cWh [] := by
  refine defQ F hm hb .nil sc_is_whole (fun ds S Q X ⟨d, e, _⟩ => by rw [e]; rfl) fun cdv A outer s H hr => ?_
  have hu1 := hu_of hr; have hu64 := hr.units
  refine ⟨_, (qs_one (q_ret (q_and (q_isi "int" (by rfl) B.isinstance (by rfl) B.int (by decide +kernel) (qv 0)) (q_one (q_not (q_isi "bool" (by rfl) B.isinstance (by rfl) B.bool (by decide +kernel) (qv 0))))))), fun ds S Q X h => ?_⟩
  obtain ⟨t, rfl, q⟩ := h
  simp only [wRet, wRetN, wIf, wSeq, wSkip, wBreak, wCont, wNever, wDrop, wAndV, wOrV, wNotV, wIfE, wTest, wAndT, wOrT, wNotT, wUn, wOp, wVar, wC, wCB, wNil, wCons, wTup, wLst, wCall, wCallX, wSl, wNoPart, wPart, wChain, wAsg, wSet, wAug, wPar, wFor, iLst, iTp, iRng, iEn, iEnT, iItm, iSt, gNm, gTp, gNone, gMore, g2, g3, wLc, wYes, wLm, wDGet, wDIn, wDGet2, wDPut, wDNew, wDisp, wPs, wSm0, wSm1, wRev, wMaxD, wRaise, wKeep, gSet, wFld, wSFld, wMeth, wMake, wNNin, wNPut, wLock, wDPop, wDClr, wRevP, wLZip]
  cases t with
  | bl n =>
    have sh : Sh S (toD (.bl n)) (.int n) := .int _
    refine ⟨_, rfl, shi_int sh (iteB (fun h => ⟨_, rfl, shi_bool sh ?_⟩) fun h => ?_)⟩
    · exact qb q rfl
    · simp [pI] at h
  | nd x ts =>
    have sh : Sh S (toD (.nd x [])) (.tuple [.str x]) := .tup (.cons (.str x) .nil)
    refine ⟨_, rfl, ?_⟩
    have e : ∀ T, isTy S T (toD (.nd x ts)) = isTy S T (toD (.nd x [])) := fun T => rfl
    have g := shi_int (Q := fun d S' => d = .bl false ∧ S' = S) sh ⟨rfl, rfl⟩
    obtain ⟨b, hb, h1, _⟩ := g
    cases h1
    refine ⟨false, by rw [e]; exact hb, iteB (fun h => by cases h) fun _ => ?_⟩
    exact q
def hdD : Tm → D
  | .bl _ => .non
  | .nd x ts => .tup [.str x, .int ((ts.length : Nat) : Int)]
def cHead : Con := fun ds S Q _ => ∃ t, ds = [toD t] ∧ Q (hdD t) S
abbrev s_head : Stmt := topS 7
theorem sc_head : FnScope ["term"] ["term"] (defScope s_head) := ⟨rfl, rfl, rfl, by decide +kernel, rfl, by decide +kernel, by decide +kernel⟩
theorem toDs_len (ts : List Tm) : (toDs ts).length = ts.length := by rw [toDs_map, List.length_map]
theorem ok_head {f : Addr} {fd : FuncData} (F : Fun K "head" "head" s_head f fd) (hm : mg "head" = some (.ref f)) (hb : Binds K fd ["term"] []) (B : Blt mg) (C_is_whole : Fn P w K mg base 1 "is_whole" cWh []) : Fn P w K mg base 2 "head" cHead [] := by
  refine defQ F hm hb .nil sc_head (fun ds S Q X ⟨d, e, _⟩ => by rw [e]; rfl) fun cdv A outer s H hr => ?_
  have hu1 := hu_of hr; have hu64 := hr.units
  refine ⟨_, (qs_cons (q_if (qt_val (q_c (dds := []) C_is_whole hr (by first | decide | omega) (by rfl) (qa_cons (qv 0) qa_nil))) (qs_one (q_ret q_non)) qs_nil)
      (qs_one (q_ret (q_tup (qa_cons (q_ix ix_seq ro_ix (qv 0) q_int) (qa_cons (q_op op_sub ro_sub (q_cb call_len ro_len (by rfl) B.len (by decide +kernel) (qa_cons (qv 0) qa_nil)) q_int) qa_nil)))))), fun ds S Q X h => ?_⟩
  obtain ⟨t, rfl, q⟩ := h
  simp only [wRet, wRetN, wIf, wSeq, wSkip, wBreak, wCont, wNever, wDrop, wAndV, wOrV, wNotV, wIfE, wTest, wAndT, wOrT, wNotT, wUn, wOp, wVar, wC, wCB, wNil, wCons, wTup, wLst, wCall, wCallX, wSl, wNoPart, wPart, wChain, wAsg, wSet, wAug, wPar, wFor, iLst, iTp, iRng, iEn, iEnT, iItm, iSt, gNm, gTp, gNone, gMore, g2, g3, wLc, wYes, wLm, wDGet, wDIn, wDGet2, wDPut, wDNew, wDisp, wPs, wSm0, wSm1, wRev, wMaxD, wRaise, wKeep, gSet, wFld, wSFld, wMeth, wMake, wNNin, wNPut, wLock, wDPop, wDClr, wRevP, wLZip]
  refine ⟨_, rfl, t, rfl, ?_⟩
  cases t with
  | bl n => exact iteB (fun _ => q) fun h => by cases h
  | nd x ts =>
    refine iteB (fun h => by cases h) fun _ => ?_
    refine ⟨_, rfl, .str x, atN (k := 0) rfl, _, rfl, ?_⟩
    refine ⟨(show 2 ≤ lineD by decide), qc q ?_⟩
    have e : (((toDs ts).length + 1 : Nat) : Int) - 1 = ((ts.length : Nat) : Int) := by rw [toDs_len]; omega
    show D.tup [.str x, .int ((((toDs ts).length + 1 : Nat) : Int) - 1)] = D.tup [.str x, .int ((ts.length : Nat) : Int)]
    rw [e]
def cPF (r : Nat) : Con := fun ds S Q _ => ∃ t p, ds = [toD t, pathD p] ∧ dep t ≤ r ∧ siz t ≤ 10 ^ 6 ∧ p.length + dep t ≤ 100 ∧ ∀ T n, Sub S T → S.length ≤ n → T[n]? = some (.lst true ((partsF p t).map partD)) → Q (.loc n) T
abbrev s_parts_from : Stmt := topS 10
theorem sc_parts_from : FnScope ["term", "path", "found", "k", "place"] ["term", "path"] (defScope s_parts_from) := ⟨rfl, rfl, rfl, by decide +kernel, rfl, by decide +kernel, by decide +kernel⟩
theorem ok_parts_from {f : Addr} {fd : FuncData} (F : Fun K "parts_from" "parts_from" s_parts_from f fd) (hm : mg "parts_from" = some (.ref f)) (hb : Binds K fd ["term", "path"] []) (B : Blt mg) (C_is_whole : Fn P w K mg base 1 "is_whole" cWh []) : ∀ r, Fn P w K mg base (r + 2) "parts_from" (cPF r) [] := by
  have main : ∀ r, (∃ c, Fn P w K mg base (r + 1) "parts_from" c [] ∧ ∀ r', r = r' + 1 → c = cPF r') → Fn P w K mg base (r + 2) "parts_from" (cPF r) [] := by
    intro r ⟨c, C_parts_from, hc⟩
    refine defQ F hm hb .nil sc_parts_from (fun ds S Q X ⟨d, p, e, _⟩ => by rw [e]; rfl) fun cdv A outer s H hr => ?_
    have hu1 := hu_of hr; have hu64 := hr.units
    refine ⟨_, (qs_cons (q_set (i := 2) sc_parts_from.nd rfl (.inl rfl) (q_lst (qa_cons (q_tup (qa_cons (qv 1) (qa_cons (qv 0) qa_nil))) qa_nil)))
      (qs_cons (q_if (qt_not (qt_val (q_c (dds := []) C_is_whole hr (by first | decide | omega) (by rfl) (qa_cons (qv 0) qa_nil)))) (qs_one (q_for (vs := [3, 4]) PassesOwn.never rfl (qi_enumT (by rfl) B.enumerate (q_sl sl_3 ro_sl (qv 0) (qo_some q_int) qo_none)) (qg_2 (i := 3) (j := 4) rfl sc_parts_from.nd rfl (.inl rfl) rfl (.inl rfl)) (qs_one (q_expr (q_lm PySem.F.slot_list_extend PySem.F.type_list_extend mt_extend ro_extend (qv 2) (qa_cons (q_c (dds := []) C_parts_from hr (by first | decide | omega) (by rfl) (qa_cons (qv 4) (qa_cons (q_op op_add4 ro_add (qv 1) (q_tup (qa_cons (qv 3) qa_nil))) qa_nil))) qa_nil)))))) qs_nil)
      (qs_one (q_ret (qv 2))))), fun ds S Q X h => ?_⟩
    obtain ⟨t, p, rfl, hd, hz, hpl, q⟩ := h
    simp only [wRet, wRetN, wIf, wSeq, wSkip, wBreak, wCont, wNever, wDrop, wAndV, wOrV, wNotV, wIfE, wTest, wAndT, wOrT, wNotT, wUn, wOp, wVar, wC, wCB, wNil, wCons, wTup, wLst, wCall, wCallX, wSl, wNoPart, wPart, wChain, wAsg, wSet, wAug, wPar, wFor, iLst, iTp, iRng, iEn, iEnT, iItm, iSt, gNm, gTp, gNone, gMore, g2, g3, wLc, wYes, wLm, wDGet, wDIn, wDGet2, wDPut, wDNew, wDisp, wPs, wSm0, wSm1, wRev, wMaxD, wRaise, wKeep, gSet, wFld, wSFld, wMeth, wMake, wNNin, wNPut, wLock, wDPop, wDClr, wRevP, wLZip]
    refine ⟨_, rfl, _, rfl, (show 2 ≤ lineD by decide), (show 1 ≤ lineD by decide), ?_⟩
    refine ⟨_, rfl, t, rfl, ?_⟩
    cases t with
    | bl n =>
      refine iteB (fun h => by cases h) fun _ => ?_
      exact ⟨_, rfl, q _ _ Sub.push (Nat.le_refl _) last_get⟩
    | nd x ts =>
      rw [dep] at hd hpl
      rw [siz] at hz
      obtain ⟨r', rfl⟩ : ∃ r', r = r' + 1 := ⟨r - 1, by omega⟩
      have := hc r' rfl
      subst this
      refine iteB (fun _ => ?_) fun h => by cases h
      refine ⟨_, rfl, ?_⟩
      show wLoop _ _ _ _ _ (List.mapIdx _ (Qd.cutD (.str x :: toDs ts) (some 1) none)) _ _
      rw [cut1]
      refine loop_by (fun i e S' => ∃ x3 x4, e = [some (toD (.nd x ts)), some (pathD p), some (.loc S.length), x3, x4] ∧ Sub S S' ∧ S'[S.length]? = some (.lst true (((p, P15.Tm.nd x ts) :: partsL p 0 (ts.take i)).map partD))) ⟨none, none, rfl, Sub.push, last_get⟩ (fun _ _ _ _ => trivial) (fun i d hd e S' h R hR => ?_) (fun e S' h => ?_)
      · obtain ⟨x3, x4, rfl, hS, hg⟩ := h
        rw [List.getElem?_mapIdx, toDs_map, List.getElem?_map] at hd
        cases ht : ts[i]? with
        | none => rw [ht] at hd; cases hd
        | some u =>
          rw [ht] at hd
          cases hd
          have hm := List.mem_of_getElem? ht
          have h1 := dep_le hm
          have h2 := siz_le hm
          simp only [wRet, wRetN, wIf, wSeq, wSkip, wBreak, wCont, wNever, wDrop, wAndV, wOrV, wNotV, wIfE, wTest, wAndT, wOrT, wNotT, wUn, wOp, wVar, wC, wCB, wNil, wCons, wTup, wLst, wCall, wCallX, wSl, wNoPart, wPart, wChain, wAsg, wSet, wAug, wPar, wFor, iLst, iTp, iRng, iEn, iEnT, iItm, iSt, gNm, gTp, gNone, gMore, g2, g3, wLc, wYes, wLm, wDGet, wDIn, wDGet2, wDPut, wDNew, wDisp, wPs, wSm0, wSm1, wRev, wMaxD, wRaise, wKeep, gSet, wFld, wSFld, wMeth, wMake, wNNin, wNPut, wLock, wDPop, wDClr, wRevP, wLZip]
          refine ⟨_, rfl, ⟨true, _, hg⟩, _, rfl, _, rfl, _, rfl, (show 1 ≤ lineD by decide), ?_⟩
          refine ⟨by rw [List.length_map]; exact Nat.le_trans (by show p.length + 1 ≤ 101; omega) (by decide), ?_⟩
          refine ⟨u, p ++ [i], by unfold pathD; rw [List.map_append]; rfl, by omega, by omega, by rw [List.length_append]; show p.length + 1 + dep u ≤ 100; omega, fun T n hT hn hg2 => ?_⟩
          have hlt := (List.getElem?_eq_some_iff.mp hg).1
          refine ⟨_, _, hT _ _ hg, hg2, ?_, ?_⟩
          · rw [List.length_map, List.length_map, List.length_cons, partsL_len, parts_len]
            have : sizs (ts.take i) + siz u ≤ sizs ts := by rw [← partsL_len _ p 0, ← parts_len u (p ++ [0 + i]), ← List.length_append, ← partsL_take ts p 0 i u ht, partsL_len]; exact sizs_take ts (i + 1)
            exact Nat.le_trans (by omega : _ ≤ 10 ^ 6) (by decide)
          · refine hR _ _ ⟨_, _, rfl, Sub_setN (hS.trans hT) (Nat.le_refl _), ?_⟩
            rw [List.getElem?_set_self (by have := Sub.len hT; omega), partsL_take ts p 0 i u ht, Nat.zero_add]
            simp
      · obtain ⟨x3, x4, rfl, hS, hg⟩ := h
        rw [List.length_mapIdx, toDs_len, List.take_length] at hg
        exact ⟨_, rfl, q _ _ hS (Nat.le_refl _) (by rw [partsF]; exact hg)⟩
  intro r
  induction r with
  | zero => exact main 0 ⟨_, fnFalse hm F.kp hb, fun r' e => by cases e⟩
  | succ r ih => exact main (r + 1) ⟨_, ih, fun r' e => by cases e; rfl⟩
def cPO : Con := fun ds S Q _ => ∃ t, ds = [toD t] ∧ dep t ≤ 10 ∧ siz t ≤ 10 ^ 6 ∧ ∀ T n, Sub S T → S.length ≤ n → T[n]? = some (.lst true ((partsF [] t).map partD)) → Q (.loc n) T
abbrev s_parts_of : Stmt := topS 11
theorem sc_parts_of : FnScope ["term"] ["term"] (defScope s_parts_of) := ⟨rfl, rfl, rfl, by decide +kernel, rfl, by decide +kernel, by decide +kernel⟩
theorem ok_parts_of {f : Addr} {fd : FuncData} (F : Fun K "parts_of" "parts_of" s_parts_of f fd) (hm : mg "parts_of" = some (.ref f)) (hb : Binds K fd ["term"] []) (B : Blt mg) (C_parts_from : Fn P w K mg base 12 "parts_from" (cPF 10) []) : Fn P w K mg base 13 "parts_of" cPO [] := by
  refine defQ F hm hb .nil sc_parts_of (fun ds S Q X ⟨d, e, _⟩ => by rw [e]; rfl) fun cdv A outer s H hr => ?_
  have hu1 := hu_of hr; have hu64 := hr.units
  refine ⟨_, (qs_one (q_ret (q_c (dds := []) C_parts_from hr (by first | decide | omega) (by rfl) (qa_cons (qv 0) (qa_cons (q_tup qa_nil) qa_nil))))), fun ds S Q X h => ?_⟩
  obtain ⟨t, rfl, hd, hz, q⟩ := h
  simp only [wRet, wRetN, wIf, wSeq, wSkip, wBreak, wCont, wNever, wDrop, wAndV, wOrV, wNotV, wIfE, wTest, wAndT, wOrT, wNotT, wUn, wOp, wVar, wC, wCB, wNil, wCons, wTup, wLst, wCall, wCallX, wSl, wNoPart, wPart, wChain, wAsg, wSet, wAug, wPar, wFor, iLst, iTp, iRng, iEn, iEnT, iItm, iSt, gNm, gTp, gNone, gMore, g2, g3, wLc, wYes, wLm, wDGet, wDIn, wDGet2, wDPut, wDNew, wDisp, wPs, wSm0, wSm1, wRev, wMaxD, wRaise, wKeep, gSet, wFld, wSFld, wMeth, wMake, wNNin, wNPut, wLock, wDPop, wDClr, wRevP, wLZip]
  exact ⟨_, rfl, (show 0 ≤ lineD by decide), t, [], rfl, hd, hz, by show 0 + dep t ≤ 100; omega, fun T n h1 h2 h3 => q T n h1 h2 h3⟩
def cBlanks : Con := fun ds S Q _ => ∃ t, ds = [toD t] ∧ dep t ≤ 10 ∧ siz t ≤ 10 ^ 6 ∧ ∀ T n, Sub S T → S.length ≤ n → T[n]? = some (.lst true ((blanksF t).map fun b : Nat => .int ((b : Nat) : Int))) → Q (.loc n) T
abbrev s_blanks : Stmt := topS 12
theorem sc_blanks : FnScope ["term", "found", "path", "place"] ["term"] (defScope s_blanks) := ⟨rfl, rfl, rfl, by decide +kernel, rfl, by decide +kernel, by decide +kernel⟩
theorem ok_blanks {f : Addr} {fd : FuncData} (F : Fun K "blanks" "blanks" s_blanks f fd) (hm : mg "blanks" = some (.ref f)) (hb : Binds K fd ["term"] []) (B : Blt mg) (C_is_whole : Fn P w K mg base 1 "is_whole" cWh []) (C_parts_of : Fn P w K mg base 13 "parts_of" cPO []) : Fn P w K mg base 14 "blanks" cBlanks [] := by
  refine defQ F hm hb .nil sc_blanks (fun ds S Q X ⟨d, e, _⟩ => by rw [e]; rfl) fun cdv A outer s H hr => ?_
  have hu1 := hu_of hr; have hu64 := hr.units
  refine ⟨_, (qs_cons (q_set (i := 1) sc_blanks.nd rfl (.inl rfl) q_dnewK)
      (qs_cons (q_for (vs := [2, 3]) PassesOwn.never rfl (qi_list (q_c (dds := []) C_parts_of hr (by first | decide | omega) (by rfl) (qa_cons (qv 0) qa_nil))) (qg_2 (i := 2) (j := 3) rfl sc_blanks.nd rfl (.inl rfl) rfl (.inl rfl)) (qs_one (q_if (qt_val (q_c (dds := []) C_is_whole hr (by first | decide | omega) (by rfl) (qa_cons (qv 3) qa_nil))) (qs_one (q_dput hu1 (qv 1) (qv 3) q_bl)) qs_nil)))
      (qs_one (q_ret (q_ct (call_listD rfl) ro_listD (by rfl) B.list (by decide +kernel) (qa_cons (qv 1) qa_nil)))))), fun ds S Q X h => ?_⟩
  obtain ⟨t, rfl, hd, hz, q⟩ := h
  refine seq_set ?_
  refine seq_for ⟨_, rfl, t, rfl, hd, hz, fun T0 n0 hT0 hn0 hg0 => ⟨true, _, hg0, ?_⟩⟩
  have hS0 : T0[S.length]? = some (.dK true (onD [])) := hT0 _ _ last_get
  simp only [List.length_append, List.length_singleton] at hn0
  refine loop_by (fun i e S' => ∃ x2 x3, e = [some (toD t), some (.loc S.length), x2, x3] ∧ Sub S S' ∧ S'[n0]? = some (.lst true ((partsF [] t).map partD)) ∧ S'[S.length]? = some (.dK true (onD (onceF [] ((partsF [] t).take i))))) ⟨none, none, rfl, Sub.push.trans hT0, hg0, hS0⟩ (fun i e S' ⟨_, _, _, _, h, _⟩ => ⟨true, h⟩) (fun i d hdi e S' h R hR => ?_) (fun e S' h => ?_)
  · obtain ⟨x2, x3, rfl, hS, hl, hk⟩ := h
    rw [List.getElem?_map] at hdi
    cases ht : (partsF [] t)[i]? with
    | none => rw [ht] at hdi; cases hdi
    | some u =>
      rw [ht] at hdi
      cases hdi
      have hi := (List.getElem?_eq_some_iff.mp ht).1
      have hs1 : (partsF [] t).take (i + 1) = (partsF [] t).take i ++ [u] := by rw [List.take_add_one, ht]; rfl
      have ho : onceF [] ((partsF [] t).take (i + 1)) = (match blOf u with | some b => ddup (onceF [] ((partsF [] t).take i)) b | none => onceF [] ((partsF [] t).take i)) := by rw [hs1, onceF_snoc]
      obtain ⟨p, u⟩ := u
      simp only [wRet, wRetN, wIf, wSeq, wSkip, wBreak, wCont, wNever, wDrop, wAndV, wOrV, wNotV, wIfE, wTest, wAndT, wOrT, wNotT, wUn, wOp, wVar, wC, wCB, wNil, wCons, wTup, wLst, wCall, wCallX, wSl, wNoPart, wPart, wChain, wAsg, wSet, wAug, wPar, wFor, iLst, iTp, iRng, iEn, iEnT, iItm, iSt, gNm, gTp, gNone, gMore, g2, g3, wLc, wYes, wLm, wDGet, wDIn, wDGet2, wDPut, wDNew, wDisp, wPs, wSm0, wSm1, wRev, wMaxD, wRaise, wKeep, gSet, wFld, wSFld, wMeth, wMake, wNNin, wNPut, wLock, wDPop, wDClr, wRevP, wLZip]
      refine ⟨_, rfl, u, rfl, ?_⟩
      cases u with
      | bl n =>
        refine iteB (fun _ => ?_) fun h => by cases h
        refine ⟨_, rfl, _, rfl, ?_⟩
        show putD (.loc S.length) (.int ((n : Nat) : Int)) (.bl true) S' _
        unfold putD
        dsimp only
        rw [hk]
        refine ⟨_, rfl, ?_, ?_⟩
        · unfold onD
          rw [List.length_map]
          have h1 := onceF_len ((partsF [] t).take i) []
          have h2 : ((partsF [] t).take i).length ≤ siz t := by rw [List.length_take, parts_len]; omega
          simp only [List.length_nil] at h1
          exact Nat.lt_of_le_of_lt (by omega : _ ≤ 10 ^ 6) (by decide)
        · rw [put_on]
          have hne : n0 ≠ S.length := by omega
          refine hR _ _ ⟨_, _, rfl, Sub_setN hS (Nat.le_refl _), by rw [List.getElem?_set_ne hne.symm]; exact hl, ?_⟩
          rw [List.getElem?_set_self (List.getElem?_eq_some_iff.mp hk).1, ho]
          rfl
      | nd x ts =>
        refine iteB (fun h => by cases h) fun _ => ?_
        exact hR _ _ ⟨_, _, rfl, hS, hl, by rw [ho]; exact hk⟩
  · obtain ⟨x2, x3, rfl, hS, hl, hk⟩ := h
    rw [List.length_map, List.take_length] at hk
    simp only [wRet, wRetN, wIf, wSeq, wSkip, wBreak, wCont, wNever, wDrop, wAndV, wOrV, wNotV, wIfE, wTest, wAndT, wOrT, wNotT, wUn, wOp, wVar, wC, wCB, wNil, wCons, wTup, wLst, wCall, wCallX, wSl, wNoPart, wPart, wChain, wAsg, wSet, wAug, wPar, wFor, iLst, iTp, iRng, iEn, iEnT, iItm, iSt, gNm, gTp, gNone, gMore, g2, g3, wLc, wYes, wLm, wDGet, wDIn, wDGet2, wDPut, wDNew, wDisp, wPs, wSm0, wSm1, wRev, wMaxD, wRaise, wKeep, gSet, wFld, wSFld, wMeth, wMake, wNNin, wNPut, wLock, wDPop, wDClr, wRevP, wLZip]
    refine ⟨_, rfl, _, _, hk, q _ _ hS.to ?_ ?_⟩
    · exact Sub.len hS
    · rw [last_get]
      unfold onD blanksF
      rw [List.map_map]; rfl
end
end K15
set_option Elab.async false
set_option linter.all false
set_option maxRecDepth 100000
set_option maxHeartbeats 4000000
namespace K15
open PySem PySem.Spec PyProof.Rows L2 Qd
section
variable {P : Program} {w : World} {K : PySem.W.Frag} {mg : Str → Option Value} {base : Heap}
abbrev nam (x : Str) : Tm := .nd x []
theorem Sub_same {S T : Store} {m : Nat} {c : Cell} (h : Sub S T) (e : S[m]? = some c) : Sub S (T.set m c) := fun n d g => by
  by_cases hn : n = m
  · subst hn
    have := h _ _ e
    rw [List.getElem?_set_self (List.getElem?_eq_some_iff.mp this).1, ← e]
    exact g
  · rw [List.getElem?_set_ne (Ne.symm hn)]; exact h n d g
theorem Sub_lock {S T : Store} {m : Nat} {c c' : Cell} (h : Sub S T) (e : S[m]? = some c) : Sub S ((T.set m c').set m c) := by
  rw [List.set_set]
  exact Sub_same h e
theorem toD_nam (x : Str) : toD (nam x) = .tup [.str x] := rfl
def cNever : Con := fun _ _ _ _ => False
def cMeas : Con := fun ds S Q _ => ∃ x d, ds = [toD (nam x), d] ∧ Q (.tup [.int 1, .int 1]) S
abbrev s_measures : Stmt := topS 13
theorem sc_measures : FnScope ["term", "sizes", "high", "many", "place", "more"] ["term", "sizes"] (defScope s_measures) := ⟨rfl, rfl, rfl, by decide +kernel, rfl, by decide +kernel, by decide +kernel⟩
theorem ok_measures {f : Addr} {fd : FuncData} (F : Fun K "measures" "measures" s_measures f fd) (hm : mg "measures" = some (.ref f)) (hb : Binds K fd ["term", "sizes"] []) (B : Blt mg) (C_is_whole : Fn P w K mg base 1 "is_whole" cWh []) : Fn P w K mg base 2 "measures" cMeas [] := by
  have C_measures : Fn P w K mg base 1 "measures" (fun _ _ _ _ => False) [] := fnFalse hm F.kp hb
  refine defQ F hm hb .nil sc_measures (fun ds S Q X ⟨_, d, e, _⟩ => by rw [e]; rfl) fun cdv A outer s H hr => ?_
  have hu1 := hu_of hr; have hu64 := hr.units
  refine ⟨_, (qs_cons (q_if (qt_val (q_c (dds := []) C_is_whole hr (by first | decide | omega) (by rfl) (qa_cons (qv 0) qa_nil))) (qs_one (q_ret (q_dget2 hu1 (qv 1) (qv 0) (q_tup (qa_cons q_int (qa_cons q_int qa_nil)))))) qs_nil)
      (qs_cons (q_set (i := 2) sc_measures.nd rfl (.inl rfl) q_int)
      (qs_cons (q_set (i := 3) sc_measures.nd rfl (.inl rfl) q_int)
      (qs_cons (q_for (vs := [4]) PassesOwn.never rfl (qi_tup (q_sl sl_3 ro_sl (qv 0) (qo_some q_int) qo_none)) (qg_name (i := 4) sc_measures.nd rfl (.inl rfl)) (qs_cons (q_set (i := 5) sc_measures.nd rfl (.inl rfl) (q_c (dds := []) C_measures hr (by first | decide | omega) (by rfl) (qa_cons (qv 4) (qa_cons (qv 1) qa_nil))))
      (qs_cons (q_set (i := 2) sc_measures.nd rfl (.inl rfl) (q_cb (call_max2 rfl) ro_max2 (by rfl) B.max (by decide +kernel) (qa_cons (qv 2) (qa_cons (q_ix ix_seq ro_ix (qv 5) q_int) qa_nil))))
      (qs_one (q_aug (i := 3) sc_measures.nd rfl (.inl rfl) ip_add ro_ipadd (q_ix ix_seq ro_ix (qv 5) q_int))))))
      (qs_one (q_ret (q_tup (qa_cons (q_op op_add4 ro_add q_int (qv 2)) (qa_cons (qv 3) qa_nil))))))))), fun ds S Q X h => ?_⟩
  obtain ⟨x, d, rfl, q⟩ := h
  simp only [wRet, wRetN, wIf, wSeq, wSkip, wBreak, wCont, wNever, wDrop, wAndV, wOrV, wNotV, wIfE, wTest, wAndT, wOrT, wNotT, wUn, wOp, wVar, wC, wCB, wNil, wCons, wTup, wLst, wCall, wCallX, wSl, wNoPart, wPart, wChain, wAsg, wSet, wAug, wPar, wFor, iLst, iTp, iRng, iEn, iEnT, iItm, iSt, gNm, gTp, gNone, gMore, g2, g3, wLc, wYes, wLm, wDGet, wDIn, wDGet2, wDPut, wDNew, wDisp, wPs, wSm0, wSm1, wRev, wMaxD, wRaise, wKeep, gSet, wFld, wSFld, wMeth, wMake, wNNin, wNPut, wLock, wDPop, wDClr, wRevP, wLZip]
  refine ⟨_, rfl, nam x, rfl, ?_⟩
  refine iteB (fun h => by cases h) fun _ => ?_
  refine ⟨_, rfl, ?_⟩
  rw [toD_nam]
  simp only [fSl, cut1]
  refine ⟨trivial, ?_⟩
  exact ⟨_, rfl, _, rfl, (show 2 ≤ lineD by decide), q⟩
def cFin : Con := fun ds S Q _ => ∃ x d, ds = [toD (nam x), d] ∧ ∀ T, Sub S T → Q (toD (nam x)) T
abbrev s_filled_in : Stmt := topS 14
theorem sc_filled_in : FnScope ["term", "filling", "place"] ["term", "filling"] (defScope s_filled_in) := ⟨rfl, rfl, rfl, by decide +kernel, rfl, by decide +kernel, by decide +kernel⟩
theorem ok_filled_in {f : Addr} {fd : FuncData} (F : Fun K "filled_in" "filled_in" s_filled_in f fd) (hm : mg "filled_in" = some (.ref f)) (hb : Binds K fd ["term", "filling"] []) (B : Blt mg) (C_is_whole : Fn P w K mg base 1 "is_whole" cWh []) : Fn P w K mg base 2 "filled_in" cFin [] := by
  have C_filled_in : Fn P w K mg base 1 "filled_in" (fun _ _ _ _ => False) [] := fnFalse hm F.kp hb
  refine defQ F hm hb .nil sc_filled_in (fun ds S Q X ⟨_, d, e, _⟩ => by rw [e]; rfl) fun cdv A outer s H hr => ?_
  have hu1 := hu_of hr; have hu64 := hr.units
  refine ⟨_, (qs_cons (q_if (qt_val (q_c (dds := []) C_is_whole hr (by first | decide | omega) (by rfl) (qa_cons (qv 0) qa_nil))) (qs_one (q_ret (q_dget2 hu1 (qv 1) (qv 0) (qv 0)))) qs_nil)
      (qs_one (q_ret (q_ct call_tuple_of ro_tuple (by rfl) B.tuple (by decide +kernel) (qa_cons (q_op op_add4 ro_add (q_lst (qa_cons (q_ix ix_seq ro_ix (qv 0) q_int) qa_nil)) (q_lc (own := [("place", 2)]) rfl sc_filled_in.nd (qi_tup (q_sl sl_3 ro_sl (qv 0) (qo_some q_int) qo_none)) (blkOk_by (N := ["term", "filling", "place"]) (sc := defScope s_filled_in) (by decide +kernel)) (fun _ _ _ _ _ => (qg_name (i := 2) sc_filled_in.nd rfl (.inl rfl))) (fun _ _ _ _ _ => qts_nil) (fun _ _ _ _ _ => (q_c (dds := []) C_filled_in hr (by first | decide | omega) (by rfl) (qa_cons (qv 2) (qa_cons (qv 1) qa_nil)))))) qa_nil))))), fun ds S Q X h => ?_⟩
  obtain ⟨x, d, rfl, q⟩ := h
  simp only [wRet, wRetN, wIf, wSeq, wSkip, wBreak, wCont, wNever, wDrop, wAndV, wOrV, wNotV, wIfE, wTest, wAndT, wOrT, wNotT, wUn, wOp, wVar, wC, wCB, wNil, wCons, wTup, wLst, wCall, wCallX, wSl, wNoPart, wPart, wChain, wAsg, wSet, wAug, wPar, wFor, iLst, iTp, iRng, iEn, iEnT, iItm, iSt, gNm, gTp, gNone, gMore, g2, g3, wLc, wYes, wLm, wDGet, wDIn, wDGet2, wDPut, wDNew, wDisp, wPs, wSm0, wSm1, wRev, wMaxD, wRaise, wKeep, gSet, wFld, wSFld, wMeth, wMake, wNNin, wNPut, wLock, wDPop, wDClr, wRevP, wLZip]
  refine ⟨_, rfl, nam x, rfl, ?_⟩
  refine iteB (fun h => by cases h) fun _ => ?_
  rw [toD_nam]
  refine ⟨_, rfl, .str x, atN (k := 0) rfl, (show 1 ≤ lineD by decide), _, rfl, ?_⟩
  simp only [fSl, cut1, wLcL]
  refine ⟨trivial, [.str x], [], ?_, ?_, (show 1 ≤ lineD by decide), ?_⟩
  · exact Sub.push _ _ last_get
  · exact last_get
  · refine ⟨true, [.str x], last_get, q _ ?_⟩
    exact Sub.push.to.to
abbrev s_filled : Stmt := topS 15
theorem sc_filled : FnScope ["term", "filling", "sizes", "blank", "other", "high", "many"] ["term", "filling"] (defScope s_filled) := ⟨rfl, rfl, rfl, by decide +kernel, rfl, by decide +kernel, by decide +kernel⟩
def cFilled : Con := fun ds S Q _ => ∃ x m, ds = [toD (nam x), .loc m] ∧ S[m]? = some (.dK true []) ∧ ∀ T, Sub S T → Q (toD (nam x)) T
theorem ok_filled {f : Addr} {fd : FuncData} (F : Fun K "filled" "filled" s_filled f fd) (hm : mg "filled" = some (.ref f)) (hb : Binds K fd ["term", "filling"] []) (B : Blt mg) (G : Glb mg) (C_levels : Fn P w K mg base 1 "levels" cNever []) (C_count_parts : Fn P w K mg base 1 "count_parts" cNever []) (C_measures : Fn P w K mg base 2 "measures" cMeas []) (C_filled_in : Fn P w K mg base 2 "filled_in" cFin []) : Fn P w K mg base 3 "filled" cFilled [] := by
  refine defQ F hm hb .nil sc_filled (fun ds S Q X ⟨_, d, e, _⟩ => by rw [e]; rfl) fun cdv A outer s H hr => ?_
  have hu1 := hu_of hr; have hu64 := hr.units
  refine ⟨_, (qs_cons (q_set (i := 2) sc_filled.nd rfl (.inl rfl) q_dnewK)
      (qs_cons (q_lock (q_for (vs := [3, 4]) PassesOwn.never rfl (qi_items (qv 1)) (qg_2 (i := 3) (j := 4) rfl sc_filled.nd rfl (.inl rfl) rfl (.inl rfl)) (qs_one (q_dput hu1 (qv 2) (qv 3) (q_tup (qa_cons (q_c (dds := []) C_levels hr (by first | decide | omega) (by rfl) (qa_cons (qv 4) qa_nil)) (qa_cons (q_c (dds := []) C_count_parts hr (by first | decide | omega) (by rfl) (qa_cons (qv 4) qa_nil)) qa_nil)))))))
      (qs_cons (q_asg (vs := [5, 6]) (q_c (dds := []) C_measures hr (by first | decide | omega) (by rfl) (qa_cons (qv 0) (qa_cons (qv 2) qa_nil))) (qg_2 (i := 5) (j := 6) rfl sc_filled.nd rfl (.inl rfl) rfl (.inl rfl)))
      (qs_cons (q_if (qt_w (qw_or (qt_cmp op_gt ro_cmp (qv 5) (q_globI (by rfl) G.MOST_LEVELS) (nomark _)) (qw_or1 (qt_cmp op_gt ro_cmp (qv 6) (q_globI (by rfl) G.MOST_PARTS) (nomark _))))) (qs_one q_never) qs_nil)
      (qs_one (q_ret (q_c (dds := []) C_filled_in hr (by first | decide | omega) (by rfl) (qa_cons (qv 0) (qa_cons (qv 1) qa_nil))))))))), fun ds S Q X h => ?_⟩
  obtain ⟨x, m, rfl, hm0, q⟩ := h
  simp only [wRet, wRetN, wIf, wSeq, wSkip, wBreak, wCont, wNever, wDrop, wAndV, wOrV, wNotV, wIfE, wTest, wAndT, wOrT, wNotT, wUn, wOp, wVar, wC, wCB, wNil, wCons, wTup, wLst, wCall, wCallX, wSl, wNoPart, wPart, wChain, wAsg, wSet, wAug, wPar, wFor, iLst, iTp, iRng, iEn, iEnT, iItm, iSt, gNm, gTp, gNone, gMore, g2, g3, wLc, wYes, wLm, wDGet, wDIn, wDGet2, wDPut, wDNew, wDisp, wPs, wSm0, wSm1, wRev, wMaxD, wRaise, wKeep, gSet, wFld, wSFld, wMeth, wMake, wNNin, wNPut, wLock, wDPop, wDClr, wRevP, wLZip]
  have g1 : (S ++ [Cell.dK true []])[m]? = some (.dK true []) := Sub.push _ _ hm0
  have lm := (List.getElem?_eq_some_iff.mp g1).1
  refine ⟨m, [], g1, .loc m, rfl, [], List.getElem?_set_self lm, ?_⟩
  refine ⟨List.getElem?_set_self lm, List.getElem?_set_self lm, ⟨_, rfl, _, rfl, x, _, rfl, ?_⟩⟩
  refine ⟨_, rfl, fcmp_int (b := false) (by decide) (iteB (fun h => by cases h) fun _ => ⟨_, rfl, fcmp_int (b := false) (by decide) (iteB (fun h => by cases h) fun _ => ⟨_, rfl, _, rfl, x, _, rfl, fun T hT => q T ?_⟩)⟩)⟩
  exact (Sub_lock Sub.push hm0).trans hT
end
end K15
set_option Elab.async false
set_option linter.all false
set_option maxRecDepth 100000
set_option maxHeartbeats 4000000
namespace K15
open PySem PySem.Spec PyProof.Rows L2 Qd
/-! ### dicts by blanks -/
section
variable {β : Type}
def encD (f : β → D) (l : List (Nat × β)) : List (Key × D) := l.map fun p => (Sum.inl ((p.1 : Nat) : Int), f p.2)
theorem inl_inj {a b : Nat} : (Sum.inl ((a : Nat) : Int) : Key) = .inl ((b : Nat) : Int) ↔ a = b := by
  constructor
  · intro h; cases h; rfl
  · rintro rfl; rfl
theorem val_enc (f : β → D) (b : Nat) : ∀ l : List (Nat × β), Qd.val (encD f l) (.inl ((b : Nat) : Int)) = (l.lookup b).map f
  | [] => rfl
  | (a, x) :: l => by
    have ih := val_enc f b l
    by_cases h : b = a
    · subst h
      simp [encD, Qd.val, List.lookup]
    · have h1 : (b == a) = false := by simpa using h
      have h2 : ¬ a = b := fun e => h e.symm
      simp only [List.lookup, h1]
      rw [← ih]
      unfold Qd.val encD
      rw [List.map_cons, List.find?_cons]
      have h3 : decide ((Sum.inl ((a : Nat) : Int) : Key) = .inl ((b : Nat) : Int)) = false := decide_eq_false fun e => h2 (inl_inj.mp e)
      rw [h3]
theorem put_enc (f : β → D) (b : Nat) (x : β) : ∀ {l : List (Nat × β)}, l.lookup b = none → Qd.put (encD f l) (.inl ((b : Nat) : Int)) (f x) = encD f (l ++ [(b, x)]) := by
  intro l h
  unfold Qd.put
  have ha : ((encD f l).any fun kv => decide (kv.1 = .inl ((b : Nat) : Int))) = false := by
    induction l with
    | nil => rfl
    | cons p l ih =>
      obtain ⟨a, y⟩ := p
      by_cases q : b = a
      · subst q; simp [List.lookup] at h
      · have h1 : (b == a) = false := by simpa using q
        simp only [List.lookup, h1] at h
        have h3 : decide ((Sum.inl ((a : Nat) : Int) : Key) = .inl ((b : Nat) : Int)) = false := decide_eq_false fun e => q (inl_inj.mp e).symm
        show (decide _ || _) = false
        rw [h3]
        exact ih h
  rw [if_neg (by rw [ha]; exact Bool.false_ne_true)]
  unfold encD
  rw [List.map_append]; rfl
theorem cut_enc (f : β → D) (b : Nat) : ∀ l : List (Nat × β), Qd.cut (encD f l) (.inl ((b : Nat) : Int)) = encD f (l.filter fun p => p.1 != b)
  | [] => rfl
  | (a, x) :: l => by
    have ih := cut_enc f b l
    unfold Qd.cut encD at ih ⊢
    rw [List.map_cons, List.filter_cons, List.filter_cons]
    by_cases q : a = b
    · subst q
      simp only [ne_eq, not_true, decide_false, bne_self_eq_false, Bool.false_eq_true, if_false]
      simpa using ih
    · have h3 : ¬ ((Sum.inl ((a : Nat) : Int) : Key) = .inl ((b : Nat) : Int)) := fun e => q (inl_inj.mp e)
      have h4 : (a != b) = true := by simpa using q
      simp only [ne_eq, h3, not_false_eq_true, decide_true, if_true, h4, List.map_cons]
      congr 1
theorem enc_len (f : β → D) (l : List (Nat × β)) : (encD f l).length = l.length := by unfold encD; simp
end
theorem look_at {n : Nat} {y : D} {S : Store} {P : Option D → Prop} {w : Bool} {kvs : List (Key × D)} {k : Key} (h : S[n]? = some (.dK w kvs)) (hk : keyD y = some k) (p : P (Qd.val kvs k)) : look (.loc n) y S P := by
  unfold look
  dsimp only
  rw [h]
  exact ⟨k, hk, p⟩
theorem put_at {n : Nat} {y d : D} {S : Store} {P : Store → Prop} {kvs : List (Key × D)} {k : Key} (h : S[n]? = some (.dK true kvs)) (hk : keyD y = some k) (hl : kvs.length < lineD) (p : P (S.set n (.dK true (Qd.put kvs k d)))) : putD (.loc n) y d S P := by
  unfold putD
  dsimp only
  rw [h]
  exact ⟨k, hk, hl, p⟩
/-! ### pairs of terms as keys -/
mutual
def keyT : Tm → NestedKey
  | .bl n => .num ((n : Nat) : Int)
  | .nd x ts => .tup (.text x :: keyTs ts)
def keyTs : List Tm → List NestedKey
  | [] => []
  | t :: ts => keyT t :: keyTs ts
end
mutual
theorem kD_keyT : ∀ t : Tm, kD (keyT t) = toD t
  | .bl n => rfl
  | .nd x ts => by rw [keyT, kD, kDs, kD, kDs_keyTs ts, toD]
theorem kDs_keyTs : ∀ ts : List Tm, kDs (keyTs ts) = toDs ts
  | [] => rfl
  | t :: ts => by rw [keyTs, kDs, kD_keyT t, kDs_keyTs ts, toDs]
end
mutual
theorem dep_keyT : ∀ t : Tm, (keyT t).depth = dep t
  | .bl n => rfl
  | .nd x ts => by
    rw [keyT, NestedKey.depth, NestedKey.depthAll, NestedKey.depth, dep_keyTs ts, dep]
    omega
theorem dep_keyTs : ∀ ts : List Tm, NestedKey.depthAll (keyTs ts) = deps ts
  | [] => rfl
  | t :: ts => by rw [keyTs, NestedKey.depthAll, dep_keyT t, dep_keyTs ts, deps]
end
mutual
theorem keyT_inj : ∀ t u : Tm, keyT t = keyT u → t = u
  | .bl n, .bl m, h => by
    rw [keyT, keyT] at h
    have e := NestedKey.num.inj h
    rw [show n = m by omega]
  | .bl n, .nd y us, h => by rw [keyT, keyT] at h; cases h
  | .nd x ts, .bl m, h => by rw [keyT, keyT] at h; cases h
  | .nd x ts, .nd y us, h => by
    rw [keyT, keyT] at h
    have e := NestedKey.tup.inj h
    have e1 := (List.cons.inj e).1
    have e2 := (List.cons.inj e).2
    rw [NestedKey.text.inj e1, keyTs_inj ts us e2]
theorem keyTs_inj : ∀ ts us : List Tm, keyTs ts = keyTs us → ts = us
  | [], [], _ => rfl
  | [], u :: us, h => by rw [keyTs, keyTs] at h; cases h
  | t :: ts, [], h => by rw [keyTs, keyTs] at h; cases h
  | t :: ts, u :: us, h => by
    rw [keyTs, keyTs] at h
    rw [keyT_inj t u (List.cons.inj h).1, keyTs_inj ts us (List.cons.inj h).2]
end
def keyP (q : Tm × Tm) : NestedKey := .tup [keyT q.1, keyT q.2]
theorem keyP_inj {a b : Tm × Tm} (h : keyP a = keyP b) : a = b := by
  have e := NestedKey.tup.inj h
  have e1 := keyT_inj _ _ (List.cons.inj e).1
  have e2 := keyT_inj _ _ (List.cons.inj (List.cons.inj e).2).1
  exact Prod.ext e1 e2
def pairD (q : Tm × Tm) : D := .tup [toD q.1, toD q.2]
theorem kD_keyP (q : Tm × Tm) : kD (keyP q) = pairD q := by
  unfold keyP pairD
  rw [kD, kDs, kDs, kDs, kD_keyT, kD_keyT]
theorem dep_keyP (q : Tm × Tm) : (keyP q).depth = max (dep q.1) (dep q.2) + 1 := by
  unfold keyP
  rw [NestedKey.depth, NestedKey.depthAll, NestedKey.depthAll, NestedKey.depthAll, dep_keyT, dep_keyT]
  omega
def ladD (l : List (Tm × Tm)) : List (NestedKey × D) := l.map fun q => (keyP q, .bl true)
theorem lad_mem {l : List (Tm × Tm)} {q : Tm × Tm} : keyP q ∈ (ladD l).map (·.1) ↔ q ∈ l := by
  unfold ladD
  rw [List.map_map]
  constructor
  · intro h
    obtain ⟨p, h1, h2⟩ := List.mem_map.mp h
    rw [← keyP_inj h2]; exact h1
  · intro h; exact List.mem_map.mpr ⟨q, h, rfl⟩
/-! ### the classes in the store -/
abbrev Cls15 := P15.Cl Str
def fl (l m d k : Nat) : List (Str × D) := [("lesser", .loc l), ("term_of", .loc m), ("laid", .loc d), ("tasks", .loc k)]
def lesD (l : List (Nat × Nat)) := encD (fun c : Nat => D.int ((c : Nat) : Int)) l
def trmD (l : List (Nat × Str)) := encD (fun x : Str => toD (nam x)) l
structure ClAt (P : Program) (w : World) (C : Addr) (b : Nat) (S : Store) (c l m d k : Nat) (s : Cls15) : Prop where
  ins : S[c]? = some (.ins C (fl l m d k))
  les : S[l]? = some (.dK true (lesD s.lesser))
  trm : S[m]? = some (.dK true (trmD s.termOf))
  lad : S[d]? = some (.dN P w (ladD s.laid))
  tsk : S[k]? = some (.lst true (s.tasks.map pairD))
  ne : l ≠ m
  big : b ≤ c ∧ b ≤ l ∧ b ≤ m ∧ b ≤ d ∧ b ≤ k
  few : s.lesser.length ≤ 10 ^ 6 ∧ s.termOf.length ≤ 10 ^ 6 ∧ s.laid.length ≤ 10 ^ 6 ∧ s.tasks.length ≤ 10 ^ 6
/-- all cells ahead of b stand -/
structure Lw (b : Nat) (S T : Store) : Prop where
  len : S.length ≤ T.length
  at_ : ∀ n, n < b → T[n]? = S[n]?
theorem Lw.refl {b : Nat} {S : Store} : Lw b S S := ⟨Nat.le_refl _, fun _ _ => rfl⟩
theorem Lw.trans {b : Nat} {S T U : Store} (h : Lw b S T) (g : Lw b T U) : Lw b S U := ⟨Nat.le_trans h.len g.len, fun n hn => (g.at_ n hn).trans (h.at_ n hn)⟩
theorem Lw.set {b n : Nat} {S T : Store} {c : Cell} (h : Lw b S T) (hn : b ≤ n) : Lw b S (T.set n c) := ⟨by rw [List.length_set]; exact h.len, fun m hm => by rw [List.getElem?_set_ne (by omega)]; exact h.at_ m hm⟩
theorem Lw.sub {b : Nat} {S T : Store} (hb : b ≤ S.length) (h : Sub S T) : Lw b S T := ⟨Sub.len h, fun n hn => by
  have : n < S.length := by omega
  rw [List.getElem?_eq_getElem this]
  exact h _ _ (List.getElem?_eq_getElem this)⟩
section
variable {P : Program} {w : World} {C : Addr} {b : Nat} {S T : Store} {c l m d k : Nat} {s : Cls15}
theorem ClAt.nes (h : ClAt P w C b S c l m d k s) : c ≠ l ∧ c ≠ m ∧ c ≠ d ∧ c ≠ k ∧ l ≠ d ∧ l ≠ k ∧ m ≠ d ∧ m ≠ k ∧ d ≠ k := by
  have h1 := h.ins; have h2 := h.les; have h3 := h.trm; have h4 := h.lad; have h5 := h.tsk
  refine ⟨?_, ?_, ?_, ?_, ?_, ?_, ?_, ?_, ?_⟩ <;> (rintro rfl; simp_all)
theorem ClAt.sub (h : ClAt P w C b S c l m d k s) (g : Sub S T) : ClAt P w C b T c l m d k s := ⟨g _ _ h.ins, g _ _ h.les, g _ _ h.trm, g _ _ h.lad, g _ _ h.tsk, h.ne, h.big, h.few⟩
theorem ClAt.setT (h : ClAt P w C b S c l m d k s) {ts : List (Tm × Tm)} (hf : ts.length ≤ 10 ^ 6) : ClAt P w C b (S.set k (.lst true (ts.map pairD))) c l m d k { s with tasks := ts } := by
  obtain ⟨n1, n2, n3, n4, n5, n6, n7, n8, n9⟩ := h.nes
  exact ⟨by rw [List.getElem?_set_ne n4.symm]; exact h.ins, by rw [List.getElem?_set_ne n6.symm]; exact h.les, by rw [List.getElem?_set_ne n8.symm]; exact h.trm, by rw [List.getElem?_set_ne n9.symm]; exact h.lad, List.getElem?_set_self (List.getElem?_eq_some_iff.mp h.tsk).1, h.ne, h.big, ⟨h.few.1, h.few.2.1, h.few.2.2.1, hf⟩⟩
theorem ClAt.setM (h : ClAt P w C b S c l m d k s) {ts : List (Nat × Str)} (hf : ts.length ≤ 10 ^ 6) : ClAt P w C b (S.set m (.dK true (trmD ts))) c l m d k { s with termOf := ts } := by
  obtain ⟨n1, n2, n3, n4, n5, n6, n7, n8, n9⟩ := h.nes
  exact ⟨by rw [List.getElem?_set_ne n2.symm]; exact h.ins, by rw [List.getElem?_set_ne h.ne.symm]; exact h.les, List.getElem?_set_self (List.getElem?_eq_some_iff.mp h.trm).1, by rw [List.getElem?_set_ne n7]; exact h.lad, by rw [List.getElem?_set_ne n8]; exact h.tsk, h.ne, h.big, ⟨h.few.1, hf, h.few.2.2⟩⟩
theorem ClAt.setL (h : ClAt P w C b S c l m d k s) {ts : List (Nat × Nat)} (hf : ts.length ≤ 10 ^ 6) : ClAt P w C b (S.set l (.dK true (lesD ts))) c l m d k { s with lesser := ts } := by
  obtain ⟨n1, n2, n3, n4, n5, n6, n7, n8, n9⟩ := h.nes
  exact ⟨by rw [List.getElem?_set_ne n1.symm]; exact h.ins, List.getElem?_set_self (List.getElem?_eq_some_iff.mp h.les).1, by rw [List.getElem?_set_ne h.ne]; exact h.trm, by rw [List.getElem?_set_ne n5]; exact h.lad, by rw [List.getElem?_set_ne n6]; exact h.tsk, h.ne, h.big, ⟨hf, h.few.2⟩⟩
theorem ClAt.setD (h : ClAt P w C b S c l m d k s) {ts : List (Tm × Tm)} (hf : ts.length ≤ 10 ^ 6) : ClAt P w C b (S.set d (.dN P w (ladD ts))) c l m d k { s with laid := ts } := by
  obtain ⟨n1, n2, n3, n4, n5, n6, n7, n8, n9⟩ := h.nes
  exact ⟨by rw [List.getElem?_set_ne n3.symm]; exact h.ins, by rw [List.getElem?_set_ne n5.symm]; exact h.les, by rw [List.getElem?_set_ne n7.symm]; exact h.trm, List.getElem?_set_self (List.getElem?_eq_some_iff.mp h.lad).1, by rw [List.getElem?_set_ne n9]; exact h.tsk, h.ne, h.big, ⟨h.few.1, h.few.2.1, hf, h.few.2.2.2⟩⟩
end
theorem million : (10 : Nat) ^ 6 < lineD := by decide
/-! ### the class -/
structure TC (K : PySem.W.Frag) (CC : Addr) : Prop where
  cls : Cls K CC
  n_lesser : NoAttr K CC "lesser"
  n_term_of : NoAttr K CC "term_of"
  n_laid : NoAttr K CC "laid"
  n_tasks : NoAttr K CC "tasks"
section
variable {P : Program} {w : World} {K : PySem.W.Frag} {mg : Str → Option Value} {base : Heap} {CC : Addr}
theorem lk1 {f : Str} {v : D} {r : List (Str × D)} : List.lookup f ((f, v) :: r) = some v := by
  have e : (f == f) = true := beq_self_eq_true f
  simp only [List.lookup, e]
theorem lk2 {f g : Str} {v : D} {r : List (Str × D)} (h : (f == g) = false) : List.lookup f ((g, v) :: r) = List.lookup f r := by
  simp only [List.lookup, h]
theorem f_les {l m d k : Nat} : (fl l m d k).lookup ("lesser" : Str) = some (.loc l) := lk1
theorem f_trm {l m d k : Nat} : (fl l m d k).lookup ("term_of" : Str) = some (.loc m) := (lk2 (by decide +kernel)).trans lk1
theorem f_lad {l m d k : Nat} : (fl l m d k).lookup ("laid" : Str) = some (.loc d) := (lk2 (by decide +kernel)).trans ((lk2 (by decide +kernel)).trans lk1)
theorem f_tsk {l m d k : Nat} : (fl l m d k).lookup ("tasks" : Str) = some (.loc k) := (lk2 (by decide +kernel)).trans ((lk2 (by decide +kernel)).trans ((lk2 (by decide +kernel)).trans lk1))
theorem f_no {l m d k : Nat} {x : Str} (h1 : (x == ("lesser" : Str)) = false) (h2 : (x == ("term_of" : Str)) = false) (h3 : (x == ("laid" : Str)) = false) (h4 : (x == ("tasks" : Str)) = false) : (fl l m d k).lookup x = none := (lk2 h1).trans ((lk2 h2).trans ((lk2 h3).trans ((lk2 h4).trans rfl)))
def cLeast (P : Program) (w : World) (CC : Addr) : Con := fun ds S Q _ => ∃ (b c l m d k : Nat) (s : Cls15) (n r : Nat), ds = [.loc c, .int ((n : Nat) : Int)] ∧ ClAt P w CC b S c l m d k s ∧ P15.Down s.lesser ∧ P15.Root s.lesser n r ∧ Q (.int ((r : Nat) : Int)) S
abbrev s_Classes_least_of : Stmt := inClass (topS 17) 1
theorem sc_Classes_least_of : FnScope ["self", "blank"] ["self", "blank"] (defScope s_Classes_least_of) := ⟨rfl, rfl, rfl, by decide +kernel, rfl, by decide +kernel, by decide +kernel⟩
theorem ok_Classes_least_of {f : Addr} {fd : FuncData} (F : Fun K "least_of" "Classes.least_of" s_Classes_least_of f fd) (hb : Binds K fd ["self", "blank"] []) (me : Meth K CC "least_of" f) (B : Blt mg) (T : TC K CC) : FnM P w K mg base 1 CC "least_of" (cLeast P w CC) := by
  refine ⟨f, fd, _, okQ F sc_Classes_least_of (fun ds S Q X ⟨_, _, _, _, _, _, _, _, _, e, _⟩ => by rw [e]; rfl) fun cdv A outer s H hr => ?_, me, hb⟩
  have hu1 := hu_of hr; have hu64 := hr.units
  refine ⟨_, (qs_cons (q_while PassesOwn.never (qt_din hu1 (qv 1) (q_fld T.cls T.n_lesser (qv 0))) (qs_one (q_set (i := 1) sc_Classes_least_of.nd rfl (.inl rfl) (q_dget hu1 (q_fld T.cls T.n_lesser (qv 0)) (qv 1)))))
      (qs_one (q_ret (qv 1)))), fun ds S Q X h => ?_⟩
  obtain ⟨b, c, l, m, d, k, s, n, r, rfl, hc, hd, hR, q⟩ := h
  refine ⟨fun i e S' => ∃ a, e = [some (.loc c), some (.int ((a : Nat) : Int))] ∧ S' = S ∧ P15.Root s.lesser a r ∧ a ≤ i, ⟨n, n, rfl, rfl, hR, Nat.le_refl _⟩, fun i e S' ⟨a, he, hS, hr', hi⟩ => ?_⟩
  subst he hS
  simp only [wRet, wRetN, wIf, wSeq, wSkip, wBreak, wCont, wNever, wDrop, wAndV, wOrV, wNotV, wIfE, wTest, wAndT, wOrT, wNotT, wUn, wOp, wVar, wC, wCB, wNil, wCons, wTup, wLst, wCall, wCallX, wSl, wNoPart, wPart, wChain, wAsg, wSet, wAug, wPar, wFor, iLst, iTp, iRng, iEn, iEnT, iItm, iSt, gNm, gTp, gNone, gMore, g2, g3, wLc, wYes, wLm, wDGet, wDIn, wDGet2, wDPut, wDNew, wDisp, wPs, wSm0, wSm1, wRev, wMaxD, wRaise, wKeep, gSet, wFld, wSFld, wMeth, wMake, wNNin, wNPut, wLock, wDPop, wDClr, wRevP, wLZip]
  refine ⟨_, rfl, _, rfl, _, _, hc.ins, f_les, look_at hc.les rfl ?_⟩
  have hv : Qd.val (lesD s.lesser) (.inl ((a : Nat) : Int)) = (s.lesser.lookup a).map fun c : Nat => D.int ((c : Nat) : Int) := val_enc _ _ _
  cases e : s.lesser.lookup a with
  | none =>
    refine iteB (fun h => by rw [hv, e] at h; simp at h) fun _ => ?_
    have er := hr'.uniq (.here e)
    subst er
    exact ⟨_, rfl, q⟩
  | some a' =>
    refine iteB (fun _ => ?_) fun h => by rw [hv, e] at h; simp at h
    refine ⟨_, rfl, _, _, hc.ins, f_les, _, rfl, look_at hc.les rfl ?_⟩
    rw [hv, e]
    have lt := hd _ _ e
    cases hr' with
    | here e' => rw [e] at e'; cases e'
    | next e' h' =>
      rw [e] at e'
      cases e'
      exact ⟨a', Nat.lt_of_lt_of_le lt hi, a', rfl, trivial, h', Nat.le_refl _⟩
def cKeep (P : Program) (w : World) (CC : Addr) : Con := fun ds S Q _ => ∃ (b c l m d k : Nat) (s : Cls15) (n : Nat) (x : Str), ds = [.loc c, .int ((n : Nat) : Int), toD (nam x)] ∧ ClAt P w CC b S c l m d k s ∧ s.termOf.length < 10 ^ 6 ∧ s.tasks.length < 10 ^ 6 ∧ ∀ T, ClAt P w CC b T c l m d k (P15.keep s n x) → Lw b S T → Q .non T
abbrev s_Classes_keep_term : Stmt := inClass (topS 17) 2
theorem sc_Classes_keep_term : FnScope ["self", "blank", "term"] ["self", "blank", "term"] (defScope s_Classes_keep_term) := ⟨rfl, rfl, rfl, by decide +kernel, rfl, by decide +kernel, by decide +kernel⟩
theorem ok_Classes_keep_term {f : Addr} {fd : FuncData} (F : Fun K "keep_term" "Classes.keep_term" s_Classes_keep_term f fd) (hb : Binds K fd ["self", "blank", "term"] []) (me : Meth K CC "keep_term" f) (B : Blt mg) (T : TC K CC) : FnM P w K mg base 1 CC "keep_term" (cKeep P w CC) := by
  refine ⟨f, fd, _, okQ F sc_Classes_keep_term (fun ds S Q X ⟨_, _, _, _, _, _, _, _, _, e, _⟩ => by rw [e]; rfl) fun cdv A outer s H hr => ?_, me, hb⟩
  have hu1 := hu_of hr; have hu64 := hr.units
  refine ⟨_, (qs_one (q_if (qt_din hu1 (qv 1) (q_fld T.cls T.n_term_of (qv 0))) (qs_one (q_expr (q_lm PySem.F.slot_list_append PySem.F.type_list_append mt_append ro_append (q_fld T.cls T.n_tasks (qv 0)) (qa_cons (q_tup (qa_cons (q_dget hu1 (q_fld T.cls T.n_term_of (qv 0)) (qv 1)) (qa_cons (qv 2) qa_nil))) qa_nil)))) (qs_one (q_dput hu1 (q_fld T.cls T.n_term_of (qv 0)) (qv 1) (qv 2))))), fun ds S Q X h => ?_⟩
  obtain ⟨b, c, l, m, d, k, s, n, x, rfl, hc, h1, h2, q⟩ := h
  simp only [wRet, wRetN, wIf, wSeq, wSkip, wBreak, wCont, wNever, wDrop, wAndV, wOrV, wNotV, wIfE, wTest, wAndT, wOrT, wNotT, wUn, wOp, wVar, wC, wCB, wNil, wCons, wTup, wLst, wCall, wCallX, wSl, wNoPart, wPart, wChain, wAsg, wSet, wAug, wPar, wFor, iLst, iTp, iRng, iEn, iEnT, iItm, iSt, gNm, gTp, gNone, gMore, g2, g3, wLc, wYes, wLm, wDGet, wDIn, wDGet2, wDPut, wDNew, wDisp, wPs, wSm0, wSm1, wRev, wMaxD, wRaise, wKeep, gSet, wFld, wSFld, wMeth, wMake, wNNin, wNPut, wLock, wDPop, wDClr, wRevP, wLZip]
  have hv : Qd.val (trmD s.termOf) (.inl ((n : Nat) : Int)) = (s.termOf.lookup n).map fun x : Str => toD (nam x) := val_enc _ _ _
  refine ⟨_, rfl, _, rfl, _, _, hc.ins, f_trm, look_at hc.trm rfl ?_⟩
  rw [hv]
  have kp : ∀ u, s.termOf.lookup n = u → P15.keep s n x = match u with | some u => { s with tasks := s.tasks ++ [(.nd u [], .nd x [])] } | none => { s with termOf := s.termOf ++ [(n, x)] } := fun u e => by unfold P15.keep; rw [e]; cases u <;> rfl
  cases e : s.termOf.lookup n with
  | none =>
    refine iteB (fun h => by simp at h) fun _ => ?_
    refine ⟨_, rfl, _, rfl, _, _, hc.ins, f_trm, _, rfl, put_at hc.trm rfl ?_ ?_⟩
    · unfold trmD; rw [enc_len]; exact Nat.lt_trans h1 million
    · refine q _ ?_ (Lw.refl.set hc.big.2.2.1)
      rw [kp _ e]
      have := put_enc (fun x : Str => toD (nam x)) n x e
      rw [show Qd.put (trmD s.termOf) (.inl ((n : Nat) : Int)) (toD (nam x)) = trmD (s.termOf ++ [(n, x)]) from this]
      exact hc.setM (by rw [List.length_append]; exact h1)
  | some u =>
    refine iteB (fun _ => ?_) fun h => by simp at h
    refine ⟨_, rfl, _, _, hc.ins, f_tsk, ⟨true, _, hc.tsk⟩, _, rfl, _, _, hc.ins, f_trm, _, rfl, look_at hc.trm rfl ?_⟩
    rw [hv, e]
    refine ⟨_, rfl, (show 2 ≤ lineD by decide), ?_⟩
    refine ⟨_, hc.tsk, by rw [List.length_map]; exact Nat.lt_trans h2 million, ?_⟩
    refine q _ ?_ (Lw.refl.set hc.big.2.2.2.2)
    rw [kp _ e]
    have := hc.setT (ts := s.tasks ++ [(.nd u [], .nd x [])]) (by rw [List.length_append]; exact h2)
    rw [List.map_append] at this
    exact this
def cLayBl (P : Program) (w : World) (CC : Addr) : Con := fun ds S Q _ => ∃ (b c l m d k : Nat) (s : Cls15) (i j : Nat), ds = [.loc c, .int ((i : Nat) : Int), .int ((j : Nat) : Int)] ∧ ClAt P w CC b S c l m d k s ∧ s.lesser.lookup i = none ∧ s.lesser.lookup j = none ∧ s.lesser.length < 10 ^ 6 ∧ s.termOf.length < 10 ^ 6 ∧ s.tasks.length < 10 ^ 6 ∧ ∀ T, ClAt P w CC b T c l m d k (if i = j then s else P15.join s (max i j) (min i j)) → Lw b S T → Q .non T
theorem max_int (i j : Nat) : (if ((j : Nat) : Int) > ((i : Nat) : Int) then ((j : Nat) : Int) else ((i : Nat) : Int)) = ((max i j : Nat) : Int) := by split <;> omega
theorem min_int (i j : Nat) : (if ((j : Nat) : Int) < ((i : Nat) : Int) then ((j : Nat) : Int) else ((i : Nat) : Int)) = ((min i j : Nat) : Int) := by split <;> omega
theorem fmax2_nat {i j : Nat} {S : Store} {Q : D → Store → Prop} (q : Q (.int ((max i j : Nat) : Int)) S) : fMax2 [.int ((i : Nat) : Int), .int ((j : Nat) : Int)] S Q := by
  unfold fMax2
  dsimp only
  rw [max_int]
  exact q
theorem fmin2_nat {i j : Nat} {S : Store} {Q : D → Store → Prop} (q : Q (.int ((min i j : Nat) : Int)) S) : fMin2 [.int ((i : Nat) : Int), .int ((j : Nat) : Int)] S Q := by
  unfold fMin2
  dsimp only
  rw [min_int]
  exact q
theorem filter_le {s : List (Nat × Str)} {h : Nat} : (s.filter fun p => p.1 != h).length ≤ s.length := List.length_filter_le _ _
abbrev s_Classes_lay_blanks : Stmt := inClass (topS 17) 3
theorem sc_Classes_lay_blanks : FnScope ["self", "one", "other", "high"] ["self", "one", "other"] (defScope s_Classes_lay_blanks) := ⟨rfl, rfl, rfl, by decide +kernel, rfl, by decide +kernel, by decide +kernel⟩
theorem ok_Classes_lay_blanks {f : Addr} {fd : FuncData} (F : Fun K "lay_blanks" "Classes.lay_blanks" s_Classes_lay_blanks f fd) (hb : Binds K fd ["self", "one", "other"] []) (me : Meth K CC "lay_blanks" f) (B : Blt mg) (T : TC K CC) (M_keep_term : FnM P w K mg base 1 CC "keep_term" (cKeep P w CC)) : FnM P w K mg base 2 CC "lay_blanks" (cLayBl P w CC) := by
  refine ⟨f, fd, _, okQ F sc_Classes_lay_blanks (fun ds S Q X ⟨_, _, _, _, _, _, _, _, _, e, _⟩ => by rw [e]; rfl) fun cdv A outer s H hr => ?_, me, hb⟩
  have hu1 := hu_of hr; have hu64 := hr.units
  refine ⟨_, (qs_one (q_if (qt_cmp (op_ne2 hu64) ro_ne (qv 1) (qv 2) (nomark _)) (qs_cons (q_set (i := 3) sc_Classes_lay_blanks.nd rfl (.inl rfl) (q_cb (call_max2 rfl) ro_max2 (by rfl) B.max (by decide +kernel) (qa_cons (qv 1) (qa_cons (qv 2) qa_nil))))
      (qs_cons (q_dput hu1 (q_fld T.cls T.n_lesser (qv 0)) (qv 3) (q_cb (call_min2 rfl) ro_min2 (by rfl) B.min (by decide +kernel) (qa_cons (qv 1) (qa_cons (qv 2) qa_nil))))
      (qs_one (q_if (qt_din hu1 (qv 3) (q_fld T.cls T.n_term_of (qv 0))) (qs_one (q_expr (q_m T.cls M_keep_term hr (by first | decide | omega) (qv 0) (qa_cons (q_cb (call_min2 rfl) ro_min2 (by rfl) B.min (by decide +kernel) (qa_cons (qv 1) (qa_cons (qv 2) qa_nil))) (qa_cons (q_dpop1 (q_fld T.cls T.n_term_of (qv 0)) (qv 3)) qa_nil))))) qs_nil)))) qs_nil)), fun ds S Q X h => ?_⟩
  obtain ⟨b, c, l, m, d, k, s, i, j, rfl, hc, e1, e2, h1, h2, h3, q⟩ := h
  simp only [wRet, wRetN, wIf, wSeq, wSkip, wBreak, wCont, wNever, wDrop, wAndV, wOrV, wNotV, wIfE, wTest, wAndT, wOrT, wNotT, wUn, wOp, wVar, wC, wCB, wNil, wCons, wTup, wLst, wCall, wCallX, wSl, wNoPart, wPart, wChain, wAsg, wSet, wAug, wPar, wFor, iLst, iTp, iRng, iEn, iEnT, iItm, iSt, gNm, gTp, gNone, gMore, g2, g3, wLc, wYes, wLm, wDGet, wDIn, wDGet2, wDPut, wDNew, wDisp, wPs, wSm0, wSm1, wRev, wMaxD, wRaise, wKeep, gSet, wFld, wSFld, wMeth, wMake, wNNin, wNPut, wLock, wDPop, wDClr, wRevP, wLZip]
  refine ⟨_, rfl, _, rfl, ?_⟩
  show if (!decide (((i : Nat) : Int) = ((j : Nat) : Int))) = true then _ else _
  by_cases hij : i = j
  · subst hij
    refine iteB (fun h => by simp at h) fun _ => ?_
    refine q _ ?_ Lw.refl
    rw [if_pos rfl]; exact hc
  · refine iteB (fun _ => ?_) fun h => by
      have : ((i : Nat) : Int) = ((j : Nat) : Int) := by simpa using h
      omega
    rw [if_neg hij] at q
    refine ⟨_, rfl, _, rfl, fmax2_nat ?_⟩
    have ehi : s.lesser.lookup (max i j) = none := by
      rcases Nat.le_total i j with z | z
      · rw [Nat.max_eq_right z]; exact e2
      · rw [Nat.max_eq_left z]; exact e1
    refine ⟨_, rfl, _, rfl, fmin2_nat ⟨_, rfl, _, _, hc.ins, f_les, _, rfl, put_at hc.les rfl ?_ ?_⟩⟩
    · unfold lesD; rw [enc_len]; exact Nat.lt_trans h1 million
    rw [show Qd.put (lesD s.lesser) (.inl ((max i j : Nat) : Int)) (.int ((min i j : Nat) : Int)) = lesD (s.lesser ++ [(max i j, min i j)]) from put_enc (fun c : Nat => D.int ((c : Nat) : Int)) _ _ ehi]
    have hc1 := hc.setL (ts := s.lesser ++ [(max i j, min i j)]) (by rw [List.length_append]; exact h1)
    have lw1 : Lw b S (S.set l (.dK true (lesD (s.lesser ++ [(max i j, min i j)])))) := Lw.refl.set hc.big.2.1
    have hv : Qd.val (trmD s.termOf) (.inl ((max i j : Nat) : Int)) = (s.termOf.lookup (max i j)).map fun x : Str => toD (nam x) := val_enc _ _ _
    refine ⟨_, rfl, _, rfl, _, _, hc1.ins, f_trm, look_at hc1.trm rfl ?_⟩
    rw [show (({ s with lesser := s.lesser ++ [(max i j, min i j)] } : Cls15)).termOf = s.termOf from rfl, hv]
    have jn : ∀ u, s.termOf.lookup (max i j) = u → P15.join s (max i j) (min i j) = match u with | some x => P15.keep { s with lesser := s.lesser ++ [(max i j, min i j)], termOf := s.termOf.filter fun p => p.1 != max i j } (min i j) x | none => { s with lesser := s.lesser ++ [(max i j, min i j)] } := fun u e => by unfold P15.join; rw [e]; cases u <;> rfl
    cases e : s.termOf.lookup (max i j) with
    | none =>
      refine iteB (fun h => by simp at h) fun _ => ?_
      refine q _ ?_ lw1
      rw [jn _ e]
      exact hc1
    | some x =>
      refine iteB (fun _ => ?_) fun h => by simp at h
      refine ⟨_, rfl, _, _, rfl, hc1.ins, f_no (by decide +kernel) (by decide +kernel) (by decide +kernel) (by decide +kernel), _, rfl, _, rfl, fmin2_nat ?_⟩
      refine ⟨_, rfl, _, _, hc1.ins, f_trm, m, true, _, rfl, hc1.trm, _, rfl, _, _, _, hc1.trm, rfl, (by rw [hv, e]; rfl), ?_⟩
      rw [show Qd.cut (trmD s.termOf) (.inl ((max i j : Nat) : Int)) = trmD (s.termOf.filter fun p => p.1 != max i j) from cut_enc _ _ _]
      have hc2 := hc1.setM (ts := s.termOf.filter fun p => p.1 != max i j) (Nat.le_trans filter_le (Nat.le_of_lt h2))
      refine ⟨b, c, l, m, d, k, _, min i j, x, rfl, hc2, Nat.lt_of_le_of_lt filter_le h2, h3, fun T hT hl => ?_⟩
      refine q T ?_ ((lw1.set hc.big.2.2.1).trans hl)
      rw [jn _ e]
      exact hT
end
end K15
set_option Elab.async false
set_option linter.all false
set_option maxRecDepth 100000
set_option maxHeartbeats 4000000
namespace K15
open PySem PySem.Spec PyProof.Rows L2 Qd
inductive OkT : Tm → Prop
  | bl (n : Nat) : OkT (.bl n)
  | nd {x : Str} {ts : List Tm} : NameS x → ts.length ≤ 1000 → (∀ t ∈ ts, OkT t) → OkT (.nd x ts)
inductive LayR (s : Cls15) : Tm → Tm → Cls15 → Bool → Prop
  | same {a b r : Nat} : P15.Root s.lesser a r → P15.Root s.lesser b r → LayR s (.bl a) (.bl b) s true
  | join {a b ra rb : Nat} : P15.Root s.lesser a ra → P15.Root s.lesser b rb → ra ≠ rb → LayR s (.bl a) (.bl b) (P15.join s (max ra rb) (min ra rb)) true
  | keepL {a r : Nat} {x : Str} : P15.Root s.lesser a r → LayR s (.bl a) (nam x) (P15.keep s r x) true
  | keepR {a r : Nat} {x : Str} : P15.Root s.lesser a r → LayR s (nam x) (.bl a) (P15.keep s r x) true
  | no {x y : Str} {ts us : List Tm} : x ≠ y ∨ ts.length ≠ us.length → LayR s (.nd x ts) (.nd y us) s false
  | skip {x : Str} {ts us : List Tm} : (P15.Tm.nd x ts, P15.Tm.nd x us) ∈ s.laid → LayR s (.nd x ts) (.nd x us) s true
  | lay {x : Str} {ts us : List Tm} : (P15.Tm.nd x ts, P15.Tm.nd x us) ∉ s.laid → ts.length = us.length → LayR s (.nd x ts) (.nd x us) { s with laid := s.laid ++ [(.nd x ts, .nd x us)], tasks := s.tasks ++ ts.zip us } true
/-- the pair may be laid -/
def LayP (u v : Tm) : Prop := (∀ a x ts, u = .bl a → v = .nd x ts → ts = []) ∧ (∀ a x ts, v = .bl a → u = .nd x ts → ts = [])
theorem toD_nd (x : Str) (ts : List Tm) : toD (.nd x ts) = .tup (.str x :: toDs ts) := rfl
theorem zipD_pairs : ∀ ts us : List Tm, zipD (toDs ts) (toDs us) = (ts.zip us).map pairD
  | [], us => by cases us <;> rfl
  | t :: ts, [] => rfl
  | t :: ts, u :: us => by rw [toDs, toDs, zipD, zipD_pairs ts us]; rfl
section
variable {P : Program} {w : World} {K : PySem.W.Frag} {mg : Str → Option Value} {base : Heap} {CC : Addr}
theorem ne_head {x y : Str} {n m : Nat} {S : Store} {Q : D → Store → Prop} (hx : NameS x) (hy : NameS y) (hn : n ≤ 1000) (hm : m ≤ 1000) (q : Q (.bl (!(decide (x = y) && decide (n = m)))) S) : fEq true (.tup [.str x, .int ((n : Nat) : Int)]) (.tup [.str y, .int ((m : Nat) : Int)]) S Q := by
  have lg : ∀ {k : Nat}, k ≤ 1000 → ((k : Nat) : Int).natAbs.log2 < 1900 := fun {k} h => by
    have e : ((k : Nat) : Int).natAbs = k := by omega
    rw [e]
    exact Nat.lt_of_le_of_lt (Nat.le_trans (Nat.log2_le_self k) h) (by decide)
  have lay : ∀ {z : Str} {k : Nat}, NameS z → k ≤ 1000 → SeqAt.shaped (.tuple [.str z, .int ((k : Nat) : Int)]) = true := fun {z k} hz hk => by
    have h1 := hz.2
    have h2 := lg hk
    unfold SeqAt.shaped
    simp [PyData.canLay0, PyData.canLayAll0, PyData.depth, PyData.depthAll, h1, h2]
  refine ⟨.tuple [.str x, .int n], .tuple [.str y, .int m], .tup (.cons (.str _) (.cons (.int _) .nil)), .tup (.cons (.str _) (.cons (.int _) .nil)), lay hx hn, lay hy hm, ?_⟩
  have e : PyData.eqv (.tuple [.str x, .int ((n : Nat) : Int)]) (.tuple [.str y, .int ((m : Nat) : Int)]) = (decide (x = y) && decide (n = m)) := by
    have e2 : decide (((n : Nat) : Int) = ((m : Nat) : Int)) = decide (n = m) := by
      by_cases z : n = m
      · subst z; simp
      · have z2 : ¬ ((n : Nat) : Int) = ((m : Nat) : Int) := by omega
        rw [decide_eq_false z, decide_eq_false z2]
    simp only [PyData.eqv, PyData.eqvAll, Bool.beq_eq_decide_eq, Bool.and_true, e2]
  show Q (.bl (if true = true then !_ else _)) S
  rw [if_pos rfl, e]
  exact q
section
variable {l m d k : Nat}
theorem no_lb : (fl l m d k).lookup ("lay_blanks" : Str) = none := f_no (by decide +kernel) (by decide +kernel) (by decide +kernel) (by decide +kernel)
theorem no_lo : (fl l m d k).lookup ("least_of" : Str) = none := f_no (by decide +kernel) (by decide +kernel) (by decide +kernel) (by decide +kernel)
theorem no_kt : (fl l m d k).lookup ("keep_term" : Str) = none := f_no (by decide +kernel) (by decide +kernel) (by decide +kernel) (by decide +kernel)
theorem no_ly : (fl l m d k).lookup ("lay" : Str) = none := f_no (by decide +kernel) (by decide +kernel) (by decide +kernel) (by decide +kernel)
end
def cLay (P : Program) (w : World) (CC : Addr) : Con := fun ds S Q _ => ∃ (b c l m d k : Nat) (s : Cls15) (u v : Tm), ds = [.loc c, toD u, toD v] ∧ ClAt P w CC b S c l m d k s ∧ P15.Down s.lesser ∧ LayP u v ∧ OkT u ∧ OkT v ∧ dep u ≤ 6 ∧ dep v ≤ 6 ∧ b ≤ S.length ∧ s.lesser.length + 1000 < 10 ^ 6 ∧ s.termOf.length + 1000 < 10 ^ 6 ∧ s.laid.length + 1000 < 10 ^ 6 ∧ s.tasks.length + 1000 < 10 ^ 6 ∧ ∀ T s' r, LayR s u v s' r → ClAt P w CC b T c l m d k s' → Lw b S T → Q (.bl r) T
abbrev s_Classes_lay : Stmt := inClass (topS 17) 4
theorem sc_Classes_lay : FnScope ["self", "one", "other"] ["self", "one", "other"] (defScope s_Classes_lay) := ⟨rfl, rfl, rfl, by decide +kernel, rfl, by decide +kernel, by decide +kernel⟩
theorem ok_Classes_lay {f : Addr} {fd : FuncData} (F : Fun K "lay" "Classes.lay" s_Classes_lay f fd) (hb : Binds K fd ["self", "one", "other"] []) (me : Meth K CC "lay" f) (B : Blt mg) (T : TC K CC) (C_is_whole : Fn P w K mg base 1 "is_whole" cWh []) (C_head : Fn P w K mg base 2 "head" cHead []) (M_least_of : FnM P w K mg base 1 CC "least_of" (cLeast P w CC)) (M_keep_term : FnM P w K mg base 1 CC "keep_term" (cKeep P w CC)) (M_lay_blanks : FnM P w K mg base 2 CC "lay_blanks" (cLayBl P w CC)) : FnM P w K mg base 3 CC "lay" (cLay P w CC) := by
  refine ⟨f, fd, _, okQ F sc_Classes_lay (fun ds S Q X ⟨_, _, _, _, _, _, _, _, _, e, _⟩ => by rw [e]; rfl) fun cdv A outer s H hr => ?_, me, hb⟩
  have hu1 := hu_of hr; have hu64 := hr.units
  refine ⟨_, (qs_cons (q_if (qt_w (qw_and (qt_val (q_c (dds := []) C_is_whole hr (by first | decide | omega) (by rfl) (qa_cons (qv 1) qa_nil))) (qw_and1 (qt_val (q_c (dds := []) C_is_whole hr (by first | decide | omega) (by rfl) (qa_cons (qv 2) qa_nil)))))) (qs_one (q_expr (q_m T.cls M_lay_blanks hr (by first | decide | omega) (qv 0) (qa_cons (q_m T.cls M_least_of hr (by first | decide | omega) (qv 0) (qa_cons (qv 1) qa_nil)) (qa_cons (q_m T.cls M_least_of hr (by first | decide | omega) (qv 0) (qa_cons (qv 2) qa_nil)) qa_nil))))) (qs_one (q_if (qt_val (q_c (dds := []) C_is_whole hr (by first | decide | omega) (by rfl) (qa_cons (qv 1) qa_nil))) (qs_one (q_expr (q_m T.cls M_keep_term hr (by first | decide | omega) (qv 0) (qa_cons (q_m T.cls M_least_of hr (by first | decide | omega) (qv 0) (qa_cons (qv 1) qa_nil)) (qa_cons (qv 2) qa_nil))))) (qs_one (q_if (qt_val (q_c (dds := []) C_is_whole hr (by first | decide | omega) (by rfl) (qa_cons (qv 2) qa_nil))) (qs_one (q_expr (q_m T.cls M_keep_term hr (by first | decide | omega) (qv 0) (qa_cons (q_m T.cls M_least_of hr (by first | decide | omega) (qv 0) (qa_cons (qv 2) qa_nil)) (qa_cons (qv 1) qa_nil))))) (qs_one (q_if (qt_cmp (op_ne2 hu64) ro_ne (q_c (dds := []) C_head hr (by first | decide | omega) (by rfl) (qa_cons (qv 1) qa_nil)) (q_c (dds := []) C_head hr (by first | decide | omega) (by rfl) (qa_cons (qv 2) qa_nil)) (nomark _)) (qs_one (q_ret q_bl)) (qs_one (q_if (qt_nnin hu64 (q_tup (qa_cons (qv 1) (qa_cons (qv 2) qa_nil))) (q_fld T.cls T.n_laid (qv 0))) (qs_cons (q_nput hu64 (q_fld T.cls T.n_laid (qv 0)) (q_tup (qa_cons (qv 1) (qa_cons (qv 2) qa_nil))) q_bl)
      (qs_one (q_expr (q_lm PySem.F.slot_list_extend PySem.F.type_list_extend mt_extend ro_extend (q_fld T.cls T.n_tasks (qv 0)) (qa_cons (q_lzip rfl (by rfl) B.list (by rfl) B.zip (qa_cons (q_sl sl_3 ro_sl (qv 1) (qo_some q_int) qo_none) (qa_cons (q_sl sl_3 ro_sl (qv 2) (qo_some q_int) qo_none) qa_nil))) qa_nil))))) qs_nil)))))))))
      (qs_one (q_ret q_bl))), fun ds S Q X h => ?_⟩
  obtain ⟨b, c, l, m, d, k, s, u, v, rfl, hc, hd, hp, ou, ov, du, dv, hbS, h1, h2, h3, h4, q⟩ := h
  simp only [wRet, wRetN, wIf, wSeq, wSkip, wBreak, wCont, wNever, wDrop, wAndV, wOrV, wNotV, wIfE, wTest, wAndT, wOrT, wNotT, wUn, wOp, wVar, wC, wCB, wNil, wCons, wTup, wLst, wCall, wCallX, wSl, wNoPart, wPart, wChain, wAsg, wSet, wAug, wPar, wFor, iLst, iTp, iRng, iEn, iEnT, iItm, iSt, gNm, gTp, gNone, gMore, g2, g3, wLc, wYes, wLm, wDGet, wDIn, wDGet2, wDPut, wDNew, wDisp, wPs, wSm0, wSm1, wRev, wMaxD, wRaise, wKeep, gSet, wFld, wSFld, wMeth, wMake, wNNin, wNPut, wLock, wDPop, wDClr, wRevP, wLZip]
  refine ⟨_, rfl, u, rfl, ?_⟩
  cases u with
  | bl a =>
    obtain ⟨ra, hra⟩ := P15.Root.ex hd a
    refine iteB (fun _ => ?_) fun h => by cases h
    refine ⟨_, rfl, v, rfl, ?_⟩
    cases v with
    | bl e =>
      obtain ⟨rb, hrb⟩ := P15.Root.ex hd e
      refine iteB (fun _ => ?_) fun h => by cases h
      refine ⟨_, rfl, _, _, rfl, hc.ins, no_lb, _, rfl, _, _, rfl, hc.ins, no_lo, _, rfl, b, c, l, m, d, k, s, a, ra, rfl, hc, hd, hra, ?_⟩
      refine ⟨_, rfl, _, _, rfl, hc.ins, no_lo, _, rfl, b, c, l, m, d, k, s, e, rb, rfl, hc, hd, hrb, ?_⟩
      refine ⟨b, c, l, m, d, k, s, ra, rb, rfl, hc, hra.top, hrb.top, by omega, by omega, by omega, fun T1 hT hl => ?_⟩
      by_cases hrr : ra = rb
      · subst hrr
        rw [if_pos rfl] at hT
        exact q _ _ _ (.same hra hrb) hT hl
      · rw [if_neg hrr] at hT
        exact q _ _ _ (.join hra hrb hrr) hT hl
    | nd y us =>
      have := hp.1 a y us rfl rfl
      subst this
      refine iteB (fun h => by cases h) fun _ => ?_
      refine ⟨_, rfl, .bl a, rfl, iteB (fun _ => ?_) fun h => by cases h⟩
      refine ⟨_, rfl, _, _, rfl, hc.ins, no_kt, _, rfl, _, _, rfl, hc.ins, no_lo, _, rfl, b, c, l, m, d, k, s, a, ra, rfl, hc, hd, hra, ?_⟩
      exact ⟨_, rfl, b, c, l, m, d, k, s, ra, y, rfl, hc, by omega, by omega, fun T1 hT hl => q _ _ _ (.keepL hra) hT hl⟩
  | nd x ts =>
    refine iteB (fun h => by cases h) fun _ => ?_
    refine iteB (fun h => by cases h) fun _ => ?_
    refine ⟨_, rfl, .nd x ts, rfl, iteB (fun h => by cases h) fun _ => ?_⟩
    refine ⟨_, rfl, v, rfl, ?_⟩
    cases v with
    | bl e =>
      have := hp.2 e x ts rfl rfl
      subst this
      obtain ⟨rb, hrb⟩ := P15.Root.ex hd e
      refine iteB (fun _ => ?_) fun h => by cases h
      refine ⟨_, rfl, _, _, rfl, hc.ins, no_kt, _, rfl, _, _, rfl, hc.ins, no_lo, _, rfl, b, c, l, m, d, k, s, e, rb, rfl, hc, hd, hrb, ?_⟩
      exact ⟨_, rfl, b, c, l, m, d, k, s, rb, x, rfl, hc, by omega, by omega, fun T1 hT hl => q _ _ _ (.keepR hrb) hT hl⟩
    | nd y us =>
      refine iteB (fun h => by cases h) fun _ => ?_
      cases ou with
      | nd nx lx okx =>
      cases ov with
      | nd ny ly oky =>
      refine ⟨_, rfl, _, rfl, _, rfl, _, rfl, ne_head nx ny lx ly ?_⟩
      dsimp only
      by_cases hno : x = y ∧ ts.length = us.length
      · obtain ⟨rfl, hlen⟩ := hno
        refine iteB (fun h => by simp [hlen] at h) fun _ => ?_
        have hdep : (keyP (.nd x ts, .nd x us)).depth ≤ 8 := by
          rw [dep_keyP]
          show max (dep (.nd x ts)) (dep (.nd x us)) + 1 ≤ 8
          omega
        refine ⟨_, rfl, _, rfl, (show 2 ≤ lineD by decide), _, rfl, _, _, hc.ins, f_lad, d, ladD s.laid, keyP (.nd x ts, .nd x us), rfl, hc.lad, (kD_keyP (.nd x ts, .nd x us)).symm, hdep, ⟨_, rfl⟩, ?_⟩
        by_cases hm : (P15.Tm.nd x ts, P15.Tm.nd x us) ∈ s.laid
        · refine iteB (fun h => ?_) fun _ => ?_
          · rw [decide_eq_true (lad_mem.mpr hm)] at h; cases h
          · exact q _ _ _ (.skip hm) hc Lw.refl
        · refine iteB (fun _ => ?_) fun h => ?_
          · have nk : keyP (.nd x ts, .nd x us) ∉ (ladD s.laid).map (·.1) := fun z => hm (lad_mem.mp z)
            refine ⟨_, rfl, _, _, hc.ins, f_lad, _, rfl, _, rfl, (show 2 ≤ lineD by decide), d, ladD s.laid, keyP (.nd x ts, .nd x us), rfl, hc.lad, (kD_keyP (.nd x ts, .nd x us)).symm, hdep, ⟨_, rfl⟩, nk, ?_, ?_⟩
            · unfold ladD; rw [List.length_map]; exact Nat.lt_trans (by omega : _ < 10 ^ 6) million
            have hc1 := hc.setD (ts := s.laid ++ [(.nd x ts, .nd x us)]) (by rw [List.length_append]; show s.laid.length + 1 ≤ 10 ^ 6; omega)
            have e1 : ladD s.laid ++ [(keyP (P15.Tm.nd x ts, P15.Tm.nd x us), D.bl true)] = ladD (s.laid ++ [(.nd x ts, .nd x us)]) := by unfold ladD; rw [List.map_append]; rfl
            rw [e1]
            have lw1 : Lw b S (S.set d (.dN P w (ladD (s.laid ++ [(.nd x ts, .nd x us)])))) := Lw.refl.set hc.big.2.2.2.1
            refine ⟨_, rfl, _, _, hc1.ins, f_tsk, ⟨true, _, hc1.tsk⟩, ?_⟩
            refine ⟨_, rfl, ?_⟩
            simp only [fSl, toD_nd, cut1]
            refine ⟨_, rfl, ?_⟩
            simp only [cut1]
            refine ⟨_, _, rfl, by rw [toDs_len, toDs_len]; exact hlen.symm, ?_⟩
            rw [zipD_pairs]
            have g1 := Sub.push (T := [Cell.lst true ((ts.zip us).map pairD)]) _ _ hc1.tsk
            refine ⟨_, _, g1, last_get, ?_, ?_⟩
            · rw [List.length_map, List.length_map, List.length_zip]
              exact Nat.le_trans (by show s.tasks.length + _ ≤ 10 ^ 6; omega : _ ≤ 10 ^ 6) (Nat.le_of_lt million)
            have hc2 := (hc1.sub (Sub.push (T := [Cell.lst true ((ts.zip us).map pairD)]))).setT (ts := s.tasks ++ ts.zip us) (by rw [List.length_append, List.length_zip]; omega)
            refine q _ _ _ (.lay hm hlen) ?_ ((lw1.trans (Lw.sub (by rw [List.length_set]; exact hbS) Sub.push)).set hc.big.2.2.2.2)
            rw [List.map_append] at hc2
            exact hc2
          · rw [decide_eq_false (fun z => hm (lad_mem.mp z))] at h; cases h
      · refine iteB (fun _ => ?_) fun h => absurd (by simpa using h) hno
        exact q _ _ _ (.no (by by_cases z : x = y; exact .inr fun z2 => hno ⟨z, z2⟩; exact .inl z)) hc Lw.refl
end
end K15
set_option Elab.async false
set_option linter.all false
set_option maxRecDepth 100000
set_option maxHeartbeats 4000000
namespace K15
open PySem PySem.Spec PyProof.Rows L2 Qd
open P15 (Flat From Inv Cov Reach Named Clash)
mutual
def wt : Tm → Tm → Nat
  | .nd _ ts, .nd _ us => wts ts us + 1
  | .bl _, _ => 3
  | .nd _ _, .bl _ => 3
def wts : List Tm → List Tm → Nat
  | t :: ts, u :: us => wt t u + wts ts us
  | [], _ => 0
  | _ :: _, [] => 0
end
def sumW (T : List (Tm × Tm)) : Nat := (T.map fun q => wt q.1 q.2).sum
theorem sumW_app (T U : List (Tm × Tm)) : sumW (T ++ U) = sumW T + sumW U := by unfold sumW; rw [List.map_append, List.sum_append]
theorem sumW_one (q : Tm × Tm) : sumW [q] = wt q.1 q.2 := by simp [sumW]
theorem sumW_zip : ∀ ts us : List Tm, sumW (ts.zip us) = wts ts us
  | [], us => by cases us <;> rfl
  | t :: ts, [] => rfl
  | t :: ts, u :: us => by rw [wts, ← sumW_zip ts us]; simp [sumW]
theorem wt_pos (u v : Tm) : 1 ≤ wt u v := by
  cases u <;> cases v <;> simp [wt]
theorem len_sumW (T : List (Tm × Tm)) : T.length ≤ sumW T := by
  induction T with
  | nil => exact Nat.zero_le _
  | cons q T ih =>
    have := wt_pos q.1 q.2
    have e : sumW (q :: T) = wt q.1 q.2 + sumW T := by simp [sumW]
    rw [e, List.length_cons]
    omega
structure JI (P : List (Tm × Tm)) (R : Tm × Tm) (W : Nat) (s : Cls15) : Prop where
  inv : Inv P R s
  ok : ∀ t ∈ s.tasks, OkT t.1 ∧ OkT t.2 ∧ dep t.1 ≤ 6 ∧ dep t.2 ≤ 6
  nam : ∀ p ∈ s.termOf, NameS p.2
  cnt : s.lesser.length + s.termOf.length + s.laid.length + sumW s.tasks ≤ W
theorem ok_nam {x : Str} (h : NameS x) : OkT (nam x) := .nd h (by simp) (fun t ht => by cases ht)
theorem nam_ok {x : Str} {ts : List Tm} (h : OkT (.nd x ts)) : NameS x := by cases h with | nd h _ _ => exact h
theorem from_P {P : List (Tm × Tm)} (hP : Flat P) {u v : Tm} (h : From P (u, v)) : LayP u v := by
  refine ⟨fun a x ts e1 e2 => ?_, fun a x ts e1 e2 => ?_⟩
  · subst e1 e2
    rcases hP _ (P15.from_bl h) with ⟨a, b, e⟩ | ⟨a, b, e⟩ | ⟨a, b, e⟩ <;> cases e <;> rfl
  · subst e1 e2
    rcases hP _ (P15.from_lb h) with ⟨a, b, e⟩ | ⟨a, b, e⟩ | ⟨a, b, e⟩ <;> cases e <;> rfl
theorem wt_nam (x y : Str) : wt (nam x) (nam y) = 1 := rfl
/-- what a kept name adds -/
theorem keep_cnt (s : Cls15) (n : Nat) (x : Str) : (P15.keep s n x).lesser.length + (P15.keep s n x).termOf.length + (P15.keep s n x).laid.length + sumW (P15.keep s n x).tasks = s.lesser.length + s.termOf.length + s.laid.length + sumW s.tasks + 1 := by
  unfold P15.keep
  split
  · show s.lesser.length + s.termOf.length + s.laid.length + sumW (s.tasks ++ [(nam _, nam x)]) = _
    rw [sumW_app, sumW_one, wt_nam]
    omega
  · show s.lesser.length + (s.termOf ++ [(n, x)]).length + s.laid.length + sumW s.tasks = _
    rw [List.length_append]
    simp only [List.length_singleton]
    omega
theorem keep_wt (s : Cls15) (n : Nat) (x : Str) : sumW (P15.keep s n x).tasks ≤ sumW s.tasks + 1 := by
  unfold P15.keep
  split
  · show sumW (s.tasks ++ [(nam _, nam x)]) ≤ _
    rw [sumW_app, sumW_one, wt_nam]
    omega
  · show sumW s.tasks ≤ _
    omega
theorem keep_ok {s : Cls15} {n : Nat} {x : Str} (h : ∀ t ∈ s.tasks, OkT t.1 ∧ OkT t.2 ∧ dep t.1 ≤ 6 ∧ dep t.2 ≤ 6) (g : ∀ p ∈ s.termOf, NameS p.2) (hx : NameS x) : (∀ t ∈ (P15.keep s n x).tasks, OkT t.1 ∧ OkT t.2 ∧ dep t.1 ≤ 6 ∧ dep t.2 ≤ 6) ∧ ∀ p ∈ (P15.keep s n x).termOf, NameS p.2 := by
  unfold P15.keep
  split
  · rename_i u e
    refine ⟨fun t ht => ?_, g⟩
    rcases List.mem_append.mp ht with z | z
    · exact h t z
    · rw [List.mem_singleton.mp z]
      have hu : NameS u := by
        have : ∀ l : List (Nat × Str), l.lookup n = some u → (n, u) ∈ l := by
          intro l
          induction l with
          | nil => intro h; cases h
          | cons p l ih =>
            obtain ⟨a, y⟩ := p
            intro h
            unfold List.lookup at h
            cases q : n == a with
            | true => rw [q] at h; cases h; rw [show n = a by simpa using q]; exact List.mem_cons_self
            | false => rw [q] at h; exact List.mem_cons_of_mem _ (ih h)
        exact g _ (this _ e)
      exact ⟨ok_nam hu, ok_nam hx, (show 1 ≤ 6 by decide), (show 1 ≤ 6 by decide)⟩
  · refine ⟨h, fun p hp => ?_⟩
    rcases List.mem_append.mp hp with z | z
    · exact g p z
    · rw [List.mem_singleton.mp z]; exact hx
theorem join_some (s : Cls15) (hi lo : Nat) {x : Str} (h : s.termOf.lookup hi = some x) : P15.join s hi lo = P15.keep { s with lesser := s.lesser ++ [(hi, lo)], termOf := s.termOf.filter fun p => p.1 != hi } lo x := by
  unfold P15.join
  rw [h]
theorem join_none (s : Cls15) (hi lo : Nat) (h : s.termOf.lookup hi = none) : P15.join s hi lo = { s with lesser := s.lesser ++ [(hi, lo)] } := by
  unfold P15.join
  rw [h]
theorem step_no {P : List (Tm × Tm)} {R : Tm × Tm} {W : Nat} {s s' : Cls15} {T0 : List (Tm × Tm)} {u v : Tm} (hP : Flat P) (J : JI P R W s) (hT : s.tasks = T0 ++ [(u, v)]) (h : LayR { s with tasks := T0 } u v s' false) : Clash P := by
  cases h with
  | no h => exact J.inv.clash hP hT h
theorem step_yes {P : List (Tm × Tm)} {R : Tm × Tm} {W : Nat} {s s' : Cls15} {T0 : List (Tm × Tm)} {u v : Tm} (hP : Flat P) (J : JI P R W s) (hT : s.tasks = T0 ++ [(u, v)]) (h : LayR { s with tasks := T0 } u v s' true) : JI P R W s' ∧ sumW s'.tasks < sumW s.tasks := by
  have hf : From P (u, v) := J.inv.tasks _ (by rw [hT]; simp)
  have okq := J.ok (u, v) (by rw [hT]; simp)
  have ok0 : ∀ t ∈ T0, OkT t.1 ∧ OkT t.2 ∧ dep t.1 ≤ 6 ∧ dep t.2 ≤ 6 := fun t ht => J.ok t (by rw [hT]; exact List.mem_append_left _ ht)
  have hw : sumW s.tasks = sumW T0 + wt u v := by rw [hT, sumW_app, sumW_one]
  have cnt := J.cnt
  cases h with
  | same h1 h2 =>
    refine ⟨⟨J.inv.same hT h1 h2, ok0, J.nam, ?_⟩, ?_⟩
    · show s.lesser.length + s.termOf.length + s.laid.length + sumW T0 ≤ W; omega
    · show sumW T0 < _; rw [hw]; show sumW T0 < sumW T0 + 3; omega
  | @join a b ra rb h1 h2 hne =>
    have hlt : min ra rb < max ra rb := by omega
    have hi : Inv P R (P15.join { s with tasks := T0 } (max ra rb) (min ra rb)) := by
      refine J.inv.joined hT h1 h2 hlt ?_
      rcases Nat.le_total ra rb with z | z
      · right; exact ⟨Nat.max_eq_right z, Nat.min_eq_left z⟩
      · left; exact ⟨Nat.max_eq_left z, Nat.min_eq_right z⟩
    have hw3 : wt (P15.Tm.bl a : Tm) (.bl b) = 3 := rfl
    rw [hw3] at hw
    have key : ∀ o, s.termOf.lookup (max ra rb) = o → (∀ t ∈ (P15.join { s with tasks := T0 } (max ra rb) (min ra rb)).tasks, OkT t.1 ∧ OkT t.2 ∧ dep t.1 ≤ 6 ∧ dep t.2 ≤ 6) ∧ (∀ p ∈ (P15.join { s with tasks := T0 } (max ra rb) (min ra rb)).termOf, NameS p.2) ∧ (P15.join { s with tasks := T0 } (max ra rb) (min ra rb)).lesser.length + (P15.join { s with tasks := T0 } (max ra rb) (min ra rb)).termOf.length + (P15.join { s with tasks := T0 } (max ra rb) (min ra rb)).laid.length + sumW (P15.join { s with tasks := T0 } (max ra rb) (min ra rb)).tasks ≤ W ∧ sumW (P15.join { s with tasks := T0 } (max ra rb) (min ra rb)).tasks < sumW s.tasks := by
      intro o eo
      cases o with
      | none =>
        rw [join_none { s with tasks := T0 } _ _ eo]
        refine ⟨ok0, J.nam, ?_, ?_⟩
        · show (s.lesser ++ [_]).length + s.termOf.length + s.laid.length + sumW T0 ≤ W
          rw [List.length_append]; simp only [List.length_singleton]; omega
        · show sumW T0 < _; omega
      | some x =>
        rw [join_some { s with tasks := T0 } _ _ eo]
        have mem : (max ra rb, x) ∈ s.termOf := (P15.mem_lookup J.inv.nd).mpr eo
        have fl : (s.termOf.filter fun p => p.1 != max ra rb).length + 1 ≤ s.termOf.length := by
          have h1 : (s.termOf.filter fun p => p.1 != max ra rb).length < s.termOf.length := by
            refine List.length_filter_lt_length_iff_exists.mpr ⟨_, mem, by simp⟩
          omega
        obtain ⟨k1, k2⟩ := keep_ok (s := { s with tasks := T0, lesser := s.lesser ++ [(max ra rb, min ra rb)], termOf := s.termOf.filter fun p => p.1 != max ra rb }) (n := min ra rb) ok0 (fun p hp => J.nam p (List.mem_filter.mp hp).1) (J.nam _ mem)
        refine ⟨k1, k2, ?_, ?_⟩
        · rw [keep_cnt]
          show (s.lesser ++ [_]).length + (s.termOf.filter _).length + s.laid.length + sumW T0 + 1 ≤ W
          rw [List.length_append]; simp only [List.length_singleton]; omega
        · refine Nat.lt_of_le_of_lt (keep_wt _ _ _) ?_
          show sumW T0 + 1 < _; omega
    obtain ⟨k1, k2, k3, k4⟩ := key _ rfl
    exact ⟨⟨hi, k1, k2, k3⟩, k4⟩
  | @keepL a r x h1 =>
    have hx : NameS x := nam_ok okq.2.1
    have hm := P15.from_bl hf
    have hi : Inv P R (P15.keep { s with tasks := T0 } r x) := J.inv.kept hT h1 ⟨a, .rfl a, .inl hm⟩ (fun _ _ z => by cases z) fun s' h => h
    obtain ⟨k1, k2⟩ := keep_ok (s := { s with tasks := T0 }) (n := r) ok0 J.nam hx
    have hw3 : wt (P15.Tm.bl a : Tm) (nam x) = 3 := rfl
    rw [hw3] at hw
    refine ⟨⟨hi, k1, k2, ?_⟩, ?_⟩
    · rw [keep_cnt]; show s.lesser.length + s.termOf.length + s.laid.length + sumW T0 + 1 ≤ W; omega
    · refine Nat.lt_of_le_of_lt (keep_wt _ _ _) ?_; show sumW T0 + 1 < _; omega
  | @keepR a r x h1 =>
    have hx : NameS x := nam_ok okq.1
    have hm := P15.from_lb hf
    have hi : Inv P R (P15.keep { s with tasks := T0 } r x) := J.inv.kept hT h1 ⟨a, .rfl a, .inr hm⟩ (fun _ _ z => by cases z) fun s' h => h
    obtain ⟨k1, k2⟩ := keep_ok (s := { s with tasks := T0 }) (n := r) ok0 J.nam hx
    have hw3 : wt (nam x) (P15.Tm.bl a : Tm) = 3 := rfl
    rw [hw3] at hw
    refine ⟨⟨hi, k1, k2, ?_⟩, ?_⟩
    · rw [keep_cnt]; show s.lesser.length + s.termOf.length + s.laid.length + sumW T0 + 1 ≤ W; omega
    · refine Nat.lt_of_le_of_lt (keep_wt _ _ _) ?_; show sumW T0 + 1 < _; omega
  | @skip x ts us h1 =>
    have := wt_pos (.nd x ts) (.nd x us)
    refine ⟨⟨J.inv.skip hT h1, ok0, J.nam, ?_⟩, ?_⟩
    · show s.lesser.length + s.termOf.length + s.laid.length + sumW T0 ≤ W; omega
    · show sumW T0 < _; omega
  | @lay x ts us h1 hl =>
    have hw3 : wt (P15.Tm.nd x ts : Tm) (.nd x us) = wts ts us + 1 := rfl
    rw [hw3] at hw
    have hi := P15.Inv.lay (s := s) hP J.inv hT
    refine ⟨⟨hi, fun t ht => ?_, J.nam, ?_⟩, ?_⟩
    · rcases List.mem_append.mp ht with z | z
      · exact ok0 t z
      · obtain ⟨o1, o2, d1, d2⟩ := okq
        have m1 := (List.of_mem_zip z).1
        have m2 := (List.of_mem_zip z).2
        cases o1 with
        | nd _ _ ok1 =>
        cases o2 with
        | nd _ _ ok2 =>
        have e1 := dep_le m1
        have e2 := dep_le m2
        have d1' : deps ts + 1 ≤ 6 := d1
        have d2' : deps us + 1 ≤ 6 := d2
        exact ⟨ok1 _ m1, ok2 _ m2, by omega, by omega⟩
    · show s.lesser.length + s.termOf.length + (s.laid ++ [_]).length + sumW (T0 ++ ts.zip us) ≤ W
      rw [sumW_app, sumW_zip, List.length_append]; simp only [List.length_singleton]; omega
    · show sumW (T0 ++ ts.zip us) < _
      rw [sumW_app, sumW_zip]; omega
theorem start_J {P : List (Tm × Tm)} {u v : Tm} (hf : From P (u, v)) (h1 : OkT u) (h2 : OkT v) (h3 : dep u ≤ 6) (h4 : dep v ≤ 6) : JI P (u, v) (wt u v) ⟨[], [], [], [(u, v)]⟩ := by
  refine ⟨⟨fun b c h => (by cases h), fun b r h => ?_, fun r x h => (by cases h), List.nodup_nil, fun t h => ?_, .inl (List.mem_singleton.mpr rfl), fun x ts us h => (by cases h)⟩, fun t h => ?_, fun p h => (by cases h), ?_⟩
  · cases h with
    | here _ => exact .rfl b
    | next h _ => cases h
  · rw [List.mem_singleton.mp h]; exact hf
  · rw [List.mem_singleton.mp h]; exact ⟨h1, h2, h3, h4⟩
  · show 0 + 0 + 0 + sumW [(u, v)] ≤ wt u v
    rw [sumW_one]; show 0 + 0 + 0 + wt u v ≤ wt u v; omega
end K15
set_option Elab.async false
set_option linter.all false
set_option maxRecDepth 100000
set_option maxHeartbeats 4000000
namespace K15
open PySem PySem.Spec PyProof.Rows L2 Qd
open P15 (Flat From Inv Cov Reach Named Clash)
section
variable {P : Program} {w : World} {K : PySem.W.Frag} {mg : Str → Option Value} {base : Heap} {CC : Addr}
theorem fput_past {f g : Str} {v x : D} {r : List (Str × D)} (h : ¬ g = f) : fput f v ((g, x) :: r) = (g, x) :: fput f v r := by
  unfold fput
  rw [if_neg h]
  cases r <;> rfl
theorem fput_len {f : Str} {v : D} : ∀ {r : List (Str × D)}, (fput f v r).length ≤ r.length + 1
  | [] => by simp [fput]
  | (g, x) :: r => by
    unfold fput
    split
    · simp
    · rw [List.length_cons, List.length_cons]; have := fput_len (f := f) (v := v) (r := r); omega
abbrev FL := List (Str × D)
theorem fput_fl {l m d k : Nat} : fput ("tasks" : Str) (.loc k) (fput ("laid" : Str) (.loc d) (fput ("term_of" : Str) (.loc m) (fput ("lesser" : Str) (.loc l) []))) = fl l m d k := by
  have e1 : fput ("lesser" : Str) (.loc l) [] = ([("lesser", .loc l)] : FL) := rfl
  have e2 : fput ("term_of" : Str) (.loc m) ([("lesser", .loc l)] : FL) = ([("lesser", .loc l), ("term_of", .loc m)] : FL) := (fput_past (by decide +kernel)).trans rfl
  have e3 : fput ("laid" : Str) (.loc d) ([("lesser", .loc l), ("term_of", .loc m)] : FL) = ([("lesser", .loc l), ("term_of", .loc m), ("laid", .loc d)] : FL) := (fput_past (by decide +kernel)).trans (congrArg _ ((fput_past (by decide +kernel)).trans rfl))
  rw [e1, e2, e3]
  exact (fput_past (by decide +kernel)).trans (congrArg _ ((fput_past (by decide +kernel)).trans (congrArg _ ((fput_past (by decide +kernel)).trans rfl))))
theorem fld_by {a : WE} {f : Str} {G : Go} {env : Slots} {S : Store} {X : XQ} {c : Nat} {C : Addr} {fs : List (Str × D)} {cell : Cell} (ha : ∀ (Q : D → Store → Prop) X, Q (.loc S.length) (S ++ [cell]) → a env S Q X) (h0 : env[0]? = some (some (.loc c))) (hc : S[c]? = some (.ins C fs)) (hl : fs.length < 1000)
    (k : ∀ T, T.length = S.length + 1 → T[c]? = some (.ins C (fput f (.loc S.length) fs)) → T[S.length]? = some cell → (∀ n, n < S.length → n ≠ c → T[n]? = S[n]?) → G.nx env T) : wSFld C f (wVar 0) a G env S X := by
  have lc := (List.getElem?_eq_some_iff.mp hc).1
  refine ha _ _ ⟨_, h0, fs, Sub.push _ _ hc, hl, ?_⟩
  refine k _ (by simp) (List.getElem?_set_self (by simp; omega)) ?_ fun n hn hne => ?_
  · rw [List.getElem?_set_ne (by omega)]; exact last_get
  · rw [List.getElem?_set_ne (Ne.symm hne), List.getElem?_append_left hn]
theorem seq_fld {a : WE} {f : Str} {G : Go} {env : Slots} {S : Store} {X : XQ} {u : WS} {c : Nat} {C : Addr} {fs : List (Str × D)} {cell : Cell} (ha : ∀ (Q : D → Store → Prop) X, Q (.loc S.length) (S ++ [cell]) → a env S Q X) (h0 : env[0]? = some (some (.loc c))) (hc : S[c]? = some (.ins C fs)) (hl : fs.length < 1000)
    (k : ∀ T, T.length = S.length + 1 → T[c]? = some (.ins C (fput f (.loc S.length) fs)) → T[S.length]? = some cell → (∀ n, n < S.length → n ≠ c → T[n]? = S[n]?) → u G env T X) : wSeq (wSFld C f (wVar 0) a) u G env S X := by
  exact fld_by (G := ⟨fun e s => u G e s X, G.rt, G.bk, G.ct⟩) ha h0 hc hl k
def cInit (P : Program) (w : World) (CC : Addr) : Con := fun ds S Q _ => ∃ (b c : Nat), ds = [.loc c] ∧ S[c]? = some (.ins CC []) ∧ b ≤ c ∧ ∀ T l m d k, ClAt P w CC b T c l m d k ⟨[], [], [], []⟩ → Lw b S T → Q .non T
abbrev s_Classes___init__ : Stmt := inClass (topS 17) 0
theorem sc_Classes___init__ : FnScope ["self"] ["self"] (defScope s_Classes___init__) := ⟨rfl, rfl, rfl, by decide +kernel, rfl, by decide +kernel, by decide +kernel⟩
theorem ok_Classes___init__ {f : Addr} {fd : FuncData} (F : Fun K "__init__" "Classes.__init__" s_Classes___init__ f fd) (hb : Binds K fd ["self"] []) (me : Mk K CC f) (hg : mg "Classes" = some (.ref CC)) (B : Blt mg) (T : TC K CC) : FnI P w K mg base 1 CC "Classes" (cInit P w CC) := by
  refine ⟨f, fd, _, okQ F sc_Classes___init__ (fun ds S Q X ⟨_, _, e, _⟩ => by rw [e]; rfl) fun cdv A outer s H hr => ?_, me, hg, hb⟩
  have hu1 := hu_of hr; have hu64 := hr.units
  refine ⟨_, (qs_cons (q_sfld T.cls T.n_lesser (qv 0) q_dnewK)
      (qs_cons (q_sfld T.cls T.n_term_of (qv 0) q_dnewK)
      (qs_cons (q_sfld T.cls T.n_laid (qv 0) q_dnewN)
      (qs_one (q_sfld T.cls T.n_tasks (qv 0) (q_lst qa_nil)))))), fun ds S Q X h => ?_⟩
  obtain ⟨b, c, rfl, hc, hbc, q⟩ := h
  have lc := (List.getElem?_eq_some_iff.mp hc).1
  refine seq_fld (fun Q X q => q) rfl hc (by decide) fun T1 l1 c1 g1 k1 => ?_
  refine seq_fld (fun Q X q => q) rfl c1 (Nat.lt_of_le_of_lt fput_len (by decide)) fun T2 l2 c2 g2 k2 => ?_
  refine seq_fld (fun Q X q => q) rfl c2 (Nat.lt_of_le_of_lt (Nat.le_trans fput_len (Nat.succ_le_succ fput_len)) (by decide)) fun T3 l3 c3 g3 k3 => ?_
  refine fld_by (cell := .lst true []) (fun Q X q => (⟨(show 0 ≤ lineD by decide), q⟩ : 0 ≤ lineD ∧ _)) rfl c3 (Nat.lt_of_le_of_lt (Nat.le_trans fput_len (Nat.succ_le_succ (Nat.le_trans fput_len (Nat.succ_le_succ fput_len)))) (by decide)) fun T4 l4 c4 g4 k4 => ?_
  rw [fput_fl] at c4
  refine q T4 S.length T1.length T2.length T3.length ⟨c4, ?_, ?_, ?_, g4, by omega, ⟨hbc, by omega, by omega, by omega, by omega⟩, by decide⟩ ⟨by omega, fun n hn => ?_⟩
  · rw [k4 _ (by omega) (by omega), k3 _ (by omega) (by omega), k2 _ (by omega) (by omega)]; exact g1
  · rw [k4 _ (by omega) (by omega), k3 _ (by omega) (by omega)]; exact g2
  · rw [k4 _ (by omega) (by omega)]; exact g3
  · rw [k4 _ (by omega) (by omega), k3 _ (by omega) (by omega), k2 _ (by omega) (by omega), k1 _ (by omega) (by omega)]
def cLayAll (P : Program) (w : World) (CC : Addr) : Con := fun ds S Q _ => ∃ (b c l m d k : Nat) (u v : Tm) (Ps : List (Tm × Tm)), ds = [.loc c, toD u, toD v] ∧ ClAt P w CC b S c l m d k ⟨[], [], [], []⟩ ∧ Flat Ps ∧ From Ps (u, v) ∧ OkT u ∧ OkT v ∧ dep u ≤ 6 ∧ dep v ≤ 6 ∧ wt u v ≤ 10 ^ 5 ∧ b ≤ S.length ∧
  (∀ T s', ClAt P w CC b T c l m d k s' → JI Ps (u, v) (wt u v) s' → s'.tasks = [] → Lw b S T → Q (.bl true) T) ∧ (∀ T, Clash Ps → Lw b S T → Q (.bl false) T)
theorem no_la {l m d k : Nat} : (fl l m d k).lookup ("lay_all" : Str) = none := f_no (by decide +kernel) (by decide +kernel) (by decide +kernel) (by decide +kernel)
theorem snoc_of {α : Type} {xs : List α} (h : 0 < xs.length) : ∃ ys y, xs = ys ++ [y] := by
  have hne : xs ≠ [] := fun z => by subst z; simp at h
  exact ⟨xs.dropLast, xs.getLast hne, (List.dropLast_concat_getLast hne).symm⟩
abbrev s_Classes_lay_all : Stmt := inClass (topS 17) 5
theorem sc_Classes_lay_all : FnScope ["self", "one", "other", "first", "last"] ["self", "one", "other"] (defScope s_Classes_lay_all) := ⟨rfl, rfl, rfl, by decide +kernel, rfl, by decide +kernel, by decide +kernel⟩
theorem ok_Classes_lay_all {f : Addr} {fd : FuncData} (F : Fun K "lay_all" "Classes.lay_all" s_Classes_lay_all f fd) (hb : Binds K fd ["self", "one", "other"] []) (me : Meth K CC "lay_all" f) (B : Blt mg) (T : TC K CC) (M_lay : FnM P w K mg base 3 CC "lay" (cLay P w CC)) : FnM P w K mg base 4 CC "lay_all" (cLayAll P w CC) := by
  refine ⟨f, fd, _, okQ F sc_Classes_lay_all (fun ds S Q X ⟨_, _, _, _, _, _, _, _, _, e, _⟩ => by rw [e]; rfl) fun cdv A outer s H hr => ?_, me, hb⟩
  have hu1 := hu_of hr; have hu64 := hr.units
  refine ⟨_, (qs_cons (q_expr (q_lm PySem.F.slot_list_append PySem.F.type_list_append mt_append ro_append (q_fld T.cls T.n_tasks (qv 0)) (qa_cons (q_tup (qa_cons (qv 1) (qa_cons (qv 2) qa_nil))) qa_nil)))
      (qs_cons (q_while PassesOwn.never (qt_cmp op_gt ro_cmp (q_cb call_len ro_len (by rfl) B.len (by decide +kernel) (qa_cons (q_fld T.cls T.n_tasks (qv 0)) qa_nil)) q_int (nomark _)) (qs_cons (q_asg (vs := [3, 4]) (q_lm0 PySem.F.slot_list_pop PySem.F.type_list_pop mt_pop ro_pop (q_fld T.cls T.n_tasks (qv 0))) (qg_2 (i := 3) (j := 4) rfl sc_Classes_lay_all.nd rfl (.inl rfl) rfl (.inl rfl)))
      (qs_one (q_if (qt_not (qt_val (q_m T.cls M_lay hr (by first | decide | omega) (qv 0) (qa_cons (qv 3) (qa_cons (qv 4) qa_nil))))) (qs_one (q_ret q_bl)) qs_nil))))
      (qs_one (q_ret q_bl)))), fun ds S Q X h => ?_⟩
  obtain ⟨b, c, l, m, d, k, u, v, Ps, rfl, hc, hP, hf, ou, ov, du, dv, hw, hbS, q1, q2⟩ := h
  simp only [wRet, wRetN, wIf, wSeq, wSkip, wBreak, wCont, wNever, wDrop, wAndV, wOrV, wNotV, wIfE, wTest, wAndT, wOrT, wNotT, wUn, wOp, wVar, wC, wCB, wNil, wCons, wTup, wLst, wCall, wCallX, wSl, wNoPart, wPart, wChain, wAsg, wSet, wAug, wPar, wFor, iLst, iTp, iRng, iEn, iEnT, iItm, iSt, gNm, gTp, gNone, gMore, g2, g3, wLc, wYes, wLm, wDGet, wDIn, wDGet2, wDPut, wDNew, wDisp, wPs, wSm0, wSm1, wRev, wMaxD, wRaise, wKeep, gSet, wFld, wSFld, wMeth, wMake, wNNin, wNPut, wLock, wDPop, wDClr, wRevP, wLZip]
  refine ⟨_, rfl, _, _, hc.ins, f_tsk, ⟨true, _, hc.tsk⟩, _, rfl, _, rfl, (show 2 ≤ lineD by decide), _, hc.tsk, (show 0 < lineD by decide), ?_⟩
  have hc0 := hc.setT (ts := [(u, v)]) (by show 1 ≤ 10 ^ 6; decide)
  refine ⟨fun n e S' => ∃ s x3 x4, e = [some (.loc c), some (toD u), some (toD v), x3, x4] ∧ ClAt P w CC b S' c l m d k s ∧ Lw b S S' ∧ JI Ps (u, v) (wt u v) s ∧ n = sumW s.tasks, ⟨_, ⟨[], [], [], [(u, v)]⟩, none, none, rfl, hc0, Lw.refl.set hc.big.2.2.2.2, start_J hf ou ov du dv, rfl⟩, fun n e S' ⟨s, x3, x4, he, hcs, hl, hJ, hn⟩ => ?_⟩
  subst he hn
  simp only [wRet, wRetN, wIf, wSeq, wSkip, wBreak, wCont, wNever, wDrop, wAndV, wOrV, wNotV, wIfE, wTest, wAndT, wOrT, wNotT, wUn, wOp, wVar, wC, wCB, wNil, wCons, wTup, wLst, wCall, wCallX, wSl, wNoPart, wPart, wChain, wAsg, wSet, wAug, wPar, wFor, iLst, iTp, iRng, iEn, iEnT, iItm, iSt, gNm, gTp, gNone, gMore, g2, g3, wLc, wYes, wLm, wDGet, wDIn, wDGet2, wDPut, wDNew, wDisp, wPs, wSm0, wSm1, wRev, wMaxD, wRaise, wKeep, gSet, wFld, wSFld, wMeth, wMake, wNNin, wNPut, wLock, wDPop, wDClr, wRevP, wLZip]
  refine ⟨_, rfl, _, _, hcs.ins, f_tsk, true, _, hcs.tsk, ?_⟩
  have cnt := hJ.cnt
  have lt := len_sumW s.tasks
  show if decide ((((s.tasks.map pairD).length : Nat) : Int) > 0) = true then _ else _
  refine iteB (fun h => ?_) fun h => ?_
  · have h0 : 0 < s.tasks.length := by
      have := of_decide_eq_true h
      rw [List.length_map] at this
      omega
    obtain ⟨T0, ⟨a, e⟩, hT⟩ := snoc_of h0
    have hc1 := hcs.setT (ts := T0) (by have := hcs.few.2.2.2; rw [hT, List.length_append] at this; omega)
    have ed : (s.tasks.map pairD).dropLast = T0.map pairD := by rw [hT]; simp
    refine ⟨_, rfl, _, _, hcs.ins, f_tsk, ⟨true, _, hcs.tsk⟩, s.tasks.map pairD, pairD (a, e), hcs.tsk, by rw [hT]; simp, ?_⟩
    rw [ed]
    have okq := hJ.ok (a, e) (by rw [hT]; simp)
    have hfq : From Ps (a, e) := hJ.inv.tasks _ (by rw [hT]; simp)
    have lw1 : Lw b S (S'.set k (.lst true (T0.map pairD))) := hl.set hcs.big.2.2.2.2
    have lt0 : T0.length + 1 = s.tasks.length := by rw [hT]; simp
    refine ⟨_, rfl, _, _, rfl, hc1.ins, no_ly, _, rfl, _, rfl, b, c, l, m, d, k, { s with tasks := T0 }, a, e, rfl, hc1, hJ.inv.down, from_P hP hfq, okq.1, okq.2.1, okq.2.2.1, okq.2.2.2, by rw [List.length_set]; exact Nat.le_trans hbS hl.len, ?_, ?_, ?_, ?_, fun T1 s' r hR hT1 hl1 => ?_⟩
    · show s.lesser.length + 1000 < 10 ^ 6; omega
    · show s.termOf.length + 1000 < 10 ^ 6; omega
    · show s.laid.length + 1000 < 10 ^ 6; omega
    · show T0.length + 1000 < 10 ^ 6; omega
    have lwb : Lw b S T1 := lw1.trans hl1
    cases r with
    | false => exact iteB (fun _ => q2 _ (step_no hP hJ hT hR) lwb) fun h => by cases h
    | true =>
      obtain ⟨hJ', hlt⟩ := step_yes hP hJ hT hR
      exact iteB (fun h => by cases h) fun _ => ⟨_, hlt, s', _, _, rfl, hT1, lwb, hJ', rfl⟩
  · have h0 : s.tasks = [] := by
      have := of_decide_eq_false h
      rw [List.length_map] at this
      exact List.length_eq_zero_iff.mp (by omega)
    exact q1 _ _ hcs hJ h0 hl
end
end K15
set_option Elab.async false
set_option linter.all false
set_option maxRecDepth 100000
set_option maxHeartbeats 4000000
namespace K15
open PySem PySem.Spec PyProof.Rows L2 Qd
open P15 (Flat From Inv Cov Reach Named Clash Con)
theorem lc_tst {g : WG} {a : WE} {t : WT} {env : Slots} {still : Store → Prop} {X : XQ} {Q : List D → Store → Prop} {items : List D} {S : Store} (J : Nat → Store → Prop) (f : D → D) (h0 : J 0 S) (hl : items.length ≤ lineD) (hs : ∀ i S, J i S → still S)
    (step : ∀ i d, items[i]? = some d → ∀ S, J i S → ∀ (R1 : D → Store → Prop) (R0 : Store → Prop), (∀ S', J (i + 1) S' → R1 (f d) S') → g d env S fun e s => t e s (fun b s2 => if b = true then a e s2 R1 X else R0 s2) X)
    (fin : ∀ S, J items.length S → Q (items.map f) S) : wLcL g t a env still Q X items [] S := by
  have main : ∀ (rest done : List D) (S : Store), items = done ++ rest → J done.length S → wLcL g t a env still Q X rest (done.map f) S := by
    intro rest
    induction rest with
    | nil =>
      intro done S e hj
      rw [List.append_nil] at e
      subst e
      exact ⟨hs _ _ hj, fin S hj⟩
    | cons d ds ih =>
      intro done S e hj
      refine ⟨hs _ _ hj, step done.length d (by rw [e]; simp) S hj _ _ fun S' hj' => ⟨?_, ?_⟩⟩
      · rw [List.length_map]
        have := congrArg List.length e
        simp at this
        omega
      · have := ih (done ++ [d]) S' (by simp [e]) (by simpa using hj')
        rw [List.map_append] at this
        exact this
  exact main items [] S rfl h0
/-- all cells but one stand -/
def Ke (o : Nat) (S T : Store) : Prop := ∀ n c, n ≠ o → S[n]? = some c → T[n]? = some c
theorem Ke.refl {o : Nat} {S : Store} : Ke o S S := fun _ _ _ h => h
theorem Ke.trans {o : Nat} {S T U : Store} (h : Ke o S T) (g : Ke o T U) : Ke o S U := fun n c hn e => g n c hn (h n c hn e)
theorem Ke.sub {o : Nat} {S T : Store} (h : Sub S T) : Ke o S T := fun n c _ e => h n c e
theorem Ke.set {o : Nat} {S T : Store} {c : Cell} (h : Ke o S T) : Ke o S (T.set o c) := fun n d hn e => by rw [List.getElem?_set_ne (Ne.symm hn)]; exact h n d hn e
theorem Ke.back {o : Nat} {S T : Store} {c : Cell} (h : Ke o S T) (e : S[o]? = some c) (l : o < T.length) : Sub S (T.set o c) := fun n d g => by
  by_cases hn : n = o
  · subst hn
    rw [e] at g
    cases g
    exact List.getElem?_set_self l
  · rw [List.getElem?_set_ne (Ne.symm hn)]; exact h n d hn g
def fstT (d : D) : D := match d with
  | .tup (x :: _) => x
  | d => d
def natD (b : Nat) : D := .int ((b : Nat) : Int)
/-- the dict of what is left: each blank with an empty list -/
def lefD (ps : List (Nat × Nat)) : List (Key × D) := encD (fun n : Nat => D.loc n) ps
theorem lef_items (ps : List (Nat × Nat)) : ((lefD ps).map fun p => D.tup [keyKD p.1, p.2]).map fstT = (ps.map (·.1)).map natD := by
  unfold lefD encD
  rw [List.map_map, List.map_map, List.map_map]
  rfl
theorem lef_cut {ps : List (Nat × Nat)} {b n : Nat} (h : (((b, n) :: ps).map (·.1)).Nodup) : Qd.cut (lefD ((b, n) :: ps)) (.inl ((b : Nat) : Int)) = lefD ps := by
  unfold lefD
  rw [cut_enc]
  have h1 := (List.nodup_cons.mp (show (b :: ps.map (·.1)).Nodup from h)).1
  rw [List.filter_cons, if_neg (by simp)]
  congr 1
  refine List.filter_eq_self.mpr fun p hp => ?_
  have : p.1 ≠ b := fun e => h1 (by rw [← e]; exact List.mem_map.mpr ⟨p, hp, rfl⟩)
  simpa using this
theorem blanks_nam (x : Str) : blanksF (nam x) = [] := rfl
theorem nodup_last {ps : List (Nat × Nat)} {q : Nat × Nat} (h : ((ps ++ [q]).map (·.1)).Nodup) : ps.lookup q.1 = none := by
  induction ps with
  | nil => rfl
  | cons p ps ih =>
    obtain ⟨a, y⟩ := p
    simp only [List.cons_append, List.map_cons, List.nodup_cons] at h
    have h1 : q.1 ≠ a := fun e => h.1 (by rw [← e]; simp)
    have h2 : (q.1 == a) = false := by simpa using h1
    simp only [List.lookup, h2]
    exact ih h.2
section
variable {P : Program} {w : World} {K : PySem.W.Frag} {mg : Str → Option Value} {base : Heap} {CC : Addr}
def cFW (P : Program) (w : World) (CC : Addr) : Con := fun ds S Q _ => ∃ (b c l m d k : Nat) (s : Cls15), ds = [.loc c] ∧ ClAt P w CC b S c l m d k s ∧ (s.termOf.map (·.1)).Nodup ∧ ∀ T n, Sub S T → S.length ≤ n → T[n]? = some (.lst true ((s.termOf.map (·.1)).map natD)) → Q (.loc n) T
abbrev s_Classes_from_within : Stmt := inClass (topS 17) 6
theorem sc_Classes_from_within : FnScope ["self", "left", "blank", "term", "found", "ready", "inner", "one"] ["self"] (defScope s_Classes_from_within) := ⟨rfl, rfl, rfl, by decide +kernel, rfl, by decide +kernel, by decide +kernel⟩
theorem ok_Classes_from_within {f : Addr} {fd : FuncData} (F : Fun K "from_within" "Classes.from_within" s_Classes_from_within f fd) (hb : Binds K fd ["self"] []) (me : Meth K CC "from_within" f) (B : Blt mg) (T : TC K CC) (C_blanks : Fn P w K mg base 14 "blanks" cBlanks []) (M_least_of : FnM P w K mg base 1 CC "least_of" (cLeast P w CC)) : FnM P w K mg base 15 CC "from_within" (cFW P w CC) := by
  refine ⟨f, fd, _, okQ F sc_Classes_from_within (fun ds S Q X ⟨_, _, _, _, _, _, _, e, _⟩ => by rw [e]; rfl) fun cdv A outer s H hr => ?_, me, hb⟩
  have hu1 := hu_of hr; have hu64 := hr.units
  refine ⟨_, (qs_cons (q_set (i := 1) sc_Classes_from_within.nd rfl (.inr rfl) q_dnewK)
      (qs_cons (q_lock (q_for (vs := [2, 3]) PassesOwn.never rfl (qi_items (q_fld T.cls T.n_term_of (qv 0))) (qg_2 (i := 2) (j := 3) rfl sc_Classes_from_within.nd rfl (.inl rfl) rfl (.inl rfl)) (qs_one (q_dput hu1 (qv 1) (qv 2) (q_lc (own := [("inner", 6)]) rfl sc_Classes_from_within.nd (qi_list (q_c (dds := []) C_blanks hr (by first | decide | omega) (by rfl) (qa_cons (qv 3) qa_nil))) (blkOk_by (N := ["self", "left", "blank", "term", "found", "ready", "inner", "one"]) (sc := defScope s_Classes_from_within) (by decide +kernel)) (fun _ _ _ _ _ => (qg_name (i := 6) sc_Classes_from_within.nd rfl (.inl rfl))) (fun _ _ _ _ _ => qts_nil) (fun _ _ _ _ _ => (q_m T.cls M_least_of hr (by first | decide | omega) (qv 0) (qa_cons (qv 6) qa_nil))))))))
      (qs_cons (q_set (i := 4) sc_Classes_from_within.nd rfl (.inl rfl) (q_lst qa_nil))
      (qs_cons (q_while PassesOwn.never (qt_cmp op_gt ro_cmp (q_cb call_lenD ro_lenD (by rfl) B.len (by decide +kernel) (qa_cons (qv 1) qa_nil)) q_int (nomark _)) (qs_cons (q_lock (q_setLc (i := 5) (own := [("blank", 2), ("inner", 6)]) rfl sc_Classes_from_within.nd rfl rfl (sw_true rfl rfl rfl (by decide +kernel)) (qi_items (qv 1)) (blkOk_by (N := ["self", "left", "blank", "term", "found", "ready", "inner", "one"]) (sc := defScope s_Classes_from_within) (by decide +kernel)) (fun _ _ _ _ _ => (qg_2 (i := 2) (j := 6) rfl sc_Classes_from_within.nd rfl (.inl rfl) rfl (.inl rfl))) (fun _ _ _ _ _ => (qts_one (qt_not (qt_val (q_cb (cr_any rfl) ro_any (by rfl) B.any (by decide +kernel) (qa_cons (q_lc (own := [("one", 7)]) rfl sc_Classes_from_within.nd (qi_list (qv 6)) (blkOk_by (by rfl)) (fun _ _ _ _ _ => (qg_name (i := 7) sc_Classes_from_within.nd rfl (.inl rfl))) (fun _ _ _ _ _ => qts_nil) (fun _ _ _ _ _ => (q_din hu1 (qv 7) (qv 1)))) qa_nil)))))) (fun _ _ _ _ _ => (qv 2))))
      (qs_cons (q_if (qt_cmp (op_eqN hu64) ro_eqN (qv 5) (q_lst qa_nil) (nomark _)) (qs_one (q_ret q_non)) qs_nil)
      (qs_cons (q_for (vs := [2]) PassesOwn.never rfl (qi_list (qv 5)) (qg_name (i := 2) sc_Classes_from_within.nd rfl (.inl rfl)) (qs_one (q_expr (q_dpop1 (qv 1) (qv 2)))))
      (qs_one (q_expr (q_lm PySem.F.slot_list_extend PySem.F.type_list_extend mt_extend ro_extend (qv 4) (qa_cons (qv 5) qa_nil))))))))
      (qs_one (q_ret (qv 4))))))), fun ds S Q X h => ?_⟩
  obtain ⟨b, c, l, m, d, k, s, rfl, hc, hnd, q⟩ := h
  refine seq_set ?_
  have g1 : (S ++ [Cell.dK true []])[m]? = some (.dK true (trmD s.termOf)) := Sub.push _ _ hc.trm
  have lm := (List.getElem?_eq_some_iff.mp g1).1
  have lm0 := (List.getElem?_eq_some_iff.mp hc.trm).1
  have lc0 := (List.getElem?_eq_some_iff.mp hc.ins).1
  obtain ⟨n1, n2, n3, n4, n5, n6, n7, n8, n9⟩ := hc.nes
  refine ⟨m, trmD s.termOf, g1, ?_⟩
  refine ⟨_, rfl, _, _, by rw [List.getElem?_set_ne n2.symm]; exact Sub.push _ _ hc.ins, f_trm, trmD s.termOf, List.getElem?_set_self lm, ?_⟩
  refine loop_by (fun i e S' => ∃ x2 x3 x6 x7 ns, e = [some (.loc c), some (.loc S.length), x2, x3, none, none, x6, x7] ∧ ns.length = i ∧ Ke m S S' ∧ S'[m]? = some (.dK false (trmD s.termOf)) ∧ S'[S.length]? = some (.dK true (lefD (((s.termOf.map (·.1)).take i).zip ns))) ∧ ∀ n ∈ ns, S'[n]? = some (.lst true []) ∧ S.length < n)
    ⟨none, none, none, none, [], rfl, rfl, (Ke.sub Sub.push).set, List.getElem?_set_self lm, by rw [List.getElem?_set_ne (by omega)]; exact last_get, fun n hn => by cases hn⟩ (fun i e S' ⟨_, _, _, _, _, _, _, _, h, _⟩ => h) (fun i dd hd e S' h R hR => ?_) (fun e S' h => ?_)
  · obtain ⟨x2, x3, x6, x7, ns, rfl, hln, hke, hm1, hl1, hns⟩ := h
    rw [List.getElem?_map] at hd
    cases ht : s.termOf[i]? with
    | none => simp [trmD, encD, ht] at hd
    | some p =>
      obtain ⟨bb, x⟩ := p
      have ed : dd = .tup [natD bb, toD (nam x)] := by
        have : (trmD s.termOf)[i]? = some (Sum.inl ((bb : Nat) : Int), toD (nam x)) := by simp [trmD, encD, ht]
        rw [this] at hd
        cases hd
        rfl
      subst ed
      simp only [wRet, wRetN, wIf, wSeq, wSkip, wBreak, wCont, wNever, wDrop, wAndV, wOrV, wNotV, wIfE, wTest, wAndT, wOrT, wNotT, wUn, wOp, wVar, wC, wCB, wNil, wCons, wTup, wLst, wCall, wCallX, wSl, wNoPart, wPart, wChain, wAsg, wSet, wAug, wPar, wFor, iLst, iTp, iRng, iEn, iEnT, iItm, iSt, gNm, gTp, gNone, gMore, g2, g3, wLc, wYes, wLm, wDGet, wDIn, wDGet2, wDPut, wDNew, wDisp, wPs, wSm0, wSm1, wRev, wMaxD, wRaise, wKeep, gSet, wFld, wSFld, wMeth, wMake, wNNin, wNPut, wLock, wDPop, wDClr, wRevP, wLZip]
      refine ⟨_, rfl, nam x, rfl, (show 1 ≤ 10 by decide), (show 1 ≤ 10 ^ 6 by decide), fun T0 n hT hn hg => ⟨true, _, hg, ?_⟩⟩
      refine ⟨⟨true, hg⟩, ?_⟩
      have hlk : S.length < S'.length := (List.getElem?_eq_some_iff.mp hl1).1
      have sub1 : Sub S' (T0 ++ [Cell.lst true []]) := hT.to
      have lenT := Sub.len hT
      have hsplit : (s.termOf.map (·.1)).take (i + 1) = (s.termOf.map (·.1)).take i ++ [bb] := by rw [List.take_add_one, List.getElem?_map, ht]; rfl
      have hil : i < s.termOf.length := (List.getElem?_eq_some_iff.mp ht).1
      have hlt : ((s.termOf.map (·.1)).take i).length = ns.length := by rw [List.length_take, List.length_map, hln]; omega
      have hzip : ((s.termOf.map (·.1)).take (i + 1)).zip (ns ++ [T0.length]) = ((s.termOf.map (·.1)).take i).zip ns ++ [(bb, T0.length)] := by rw [hsplit, List.zip_append hlt]; rfl
      have hfst : (((s.termOf.map (·.1)).take i).zip ns).map (·.1) = (s.termOf.map (·.1)).take i := List.map_fst_zip (by omega)
      have hlook : (((s.termOf.map (·.1)).take i).zip ns).lookup bb = none := by
        refine nodup_last (q := (bb, T0.length)) ?_
        rw [List.map_append, hfst]
        show ((s.termOf.map (·.1)).take i ++ [bb]).Nodup
        rw [← hsplit]
        exact hnd.sublist (List.take_sublist _ _)
      refine ⟨_, rfl, _, rfl, put_at (sub1 _ _ hl1) rfl ?_ ?_⟩
      · unfold lefD
        rw [enc_len, List.length_zip, hlt]
        exact Nat.lt_of_le_of_lt (by have := hc.few.2.1; omega : _ ≤ 10 ^ 6) million
      · rw [show Qd.put (lefD (((s.termOf.map (·.1)).take i).zip ns)) (.inl ((bb : Nat) : Int)) (.loc T0.length) = lefD (((s.termOf.map (·.1)).take i).zip ns ++ [(bb, T0.length)]) from put_enc (fun n : Nat => D.loc n) bb T0.length hlook, ← hzip]
        refine hR _ _ ⟨_, _, _, _, ns ++ [T0.length], rfl, by simp [hln], ?_, ?_, ?_, fun n hn => ?_⟩
        · intro n c' hnm e'
          have lt := (List.getElem?_eq_some_iff.mp e').1
          rw [List.getElem?_set_ne (by omega)]
          exact sub1 _ _ (hke n c' hnm e')
        · rw [List.getElem?_set_ne (by omega)]; exact sub1 _ _ hm1
        · exact List.getElem?_set_self (by rw [List.length_append]; show S.length < T0.length + 1; omega)
        · rcases List.mem_append.mp hn with z | z
          · obtain ⟨z1, z2⟩ := hns n z
            exact ⟨by rw [List.getElem?_set_ne (by omega)]; exact sub1 _ _ z1, z2⟩
          · rw [List.mem_singleton.mp z]
            exact ⟨by rw [List.getElem?_set_ne (by omega)]; exact last_get, by omega⟩
  · obtain ⟨x2, x3, x6, x7, ns, rfl, hln, hke, hm1, hl1, hns⟩ := h
    refine ⟨hm1, ?_⟩
    have lm1 := (List.getElem?_eq_some_iff.mp hm1).1
    obtain ⟨S2, hS2⟩ : ∃ S2, S2 = S'.set m (Cell.dK true (trmD s.termOf)) := ⟨_, rfl⟩
    have sub2 : Sub S S2 := by rw [hS2]; exact hke.back hc.trm lm1
    have len2 := Sub.len sub2
    have hl0 : S.length < S'.length := (List.getElem?_eq_some_iff.mp hl1).1
    have hlen : (trmD s.termOf).length = s.termOf.length := by unfold trmD; rw [enc_len]
    rw [List.length_map, hlen] at hln
    obtain ⟨ps, hps⟩ : ∃ ps, ps = (s.termOf.map (·.1)).zip ns := ⟨_, rfl⟩
    have pfst : ps.map (·.1) = s.termOf.map (·.1) := by rw [hps]; exact List.map_fst_zip (by rw [List.length_map]; omega)
    have plen : ps.length = s.termOf.length := by have := congrArg List.length pfst; simpa using this
    have hl2 : S2[S.length]? = some (.dK true (lefD ps)) := by
      rw [hS2, List.getElem?_set_ne (by omega), hps]
      rw [List.length_map, hlen, List.take_of_length_le (by rw [List.length_map]; exact Nat.le_refl _)] at hl1
      exact hl1
    have hn2 : ∀ p ∈ ps, S2[p.2]? = some (.lst true []) ∧ S.length < p.2 := fun p hp => by
      have := (List.of_mem_zip (by rw [← hps]; exact hp : (p.1, p.2) ∈ _)).2
      obtain ⟨z1, z2⟩ := hns p.2 this
      exact ⟨by rw [hS2, List.getElem?_set_ne (by omega)]; exact z1, z2⟩
    have hs2 : S.length < S2.length := (List.getElem?_eq_some_iff.mp hl2).1
    dsimp only
    rw [← hS2]
    refine ⟨(show 0 ≤ lineD by decide), ?_⟩
    have few : s.termOf.length ≤ 10 ^ 6 := hc.few.2.1
    refine ⟨fun mm e S3 => ∃ (L : List (Nat × Nat)) (Fd : List D) (x2 x3 x5 x6 x7 : Option D), e = [some (.loc c), some (.loc S.length), x2, x3, some (.loc S2.length), x5, x6, x7] ∧ S3[S.length]? = some (.dK true (lefD L)) ∧ S3[S2.length]? = some (.lst true Fd) ∧ ((L = ps ∧ Fd = []) ∨ (L = [] ∧ Fd = (ps.map (·.1)).map natD)) ∧ mm = L.length ∧ Sub S S3 ∧ ∀ p ∈ ps, S3[p.2]? = some (.lst true []) ∧ S.length < p.2 ∧ p.2 ≠ S2.length, ⟨ps.length, ps, [], _, _, _, _, _, rfl, Sub.push _ _ hl2, last_get, .inl ⟨rfl, rfl⟩, rfl, sub2.to, fun p hp => ⟨Sub.push _ _ (hn2 p hp).1, (hn2 p hp).2, by have := (List.getElem?_eq_some_iff.mp (hn2 p hp).1).1; omega⟩⟩, fun mm e S3 ⟨L, Fd, x2, x3, x5, x6, x7, he, hL, hF, hcase, hmm, hsub, hn3⟩ => ?_⟩
    subst he hmm
    simp only [wRet, wRetN, wIf, wSeq, wSkip, wBreak, wCont, wNever, wDrop, wAndV, wOrV, wNotV, wIfE, wTest, wAndT, wOrT, wNotT, wUn, wOp, wVar, wC, wCB, wNil, wCons, wTup, wLst, wCall, wCallX, wSl, wNoPart, wPart, wChain, wAsg, wSet, wAug, wPar, wFor, iLst, iTp, iRng, iEn, iEnT, iItm, iSt, gNm, gTp, gNone, gMore, g2, g3, wLc, wYes, wLm, wDGet, wDIn, wDGet2, wDPut, wDNew, wDisp, wPs, wSm0, wSm1, wRev, wMaxD, wRaise, wKeep, gSet, wFld, wSFld, wMeth, wMake, wNNin, wNPut, wLock, wDPop, wDClr, wRevP, wLZip]
    refine ⟨_, rfl, _, hL, ?_⟩
    have lefl : (lefD L).length = L.length := by unfold lefD; rw [enc_len]
    rw [lefl]
    show if decide (((L.length : Nat) : Int) > 0) = true then _ else _
    refine iteB (fun h => ?_) fun h => ?_
    · have hL0 : 0 < L.length := by have := of_decide_eq_true h; omega
      rcases hcase with ⟨eL, eF⟩ | ⟨eL, _⟩
      · refine ⟨S.length, lefD L, hL, _, rfl, lefD L, List.getElem?_set_self (List.getElem?_eq_some_iff.mp hL).1, ?_⟩
        obtain ⟨S4, hS4⟩ : ∃ S4, S4 = S3.set S.length (Cell.dK false (lefD L)) := ⟨_, rfl⟩
        rw [← hS4]
        have li3 := (List.getElem?_eq_some_iff.mp hL).1
        refine lc_tst (fun _ S' => Sub S4 S') fstT Sub.refl (by rw [List.length_map, lefl, eL, plen]; exact Nat.le_trans few (Nat.le_of_lt million)) (fun i S' h => h _ _ (by rw [hS4]; exact List.getElem?_set_self li3)) (fun i dd hd S' hS' R1 R0 hR => ?_) (fun S' hS' => ?_)
        · rw [List.getElem?_map] at hd
          cases ht : L[i]? with
          | none => simp [lefD, encD, ht] at hd
          | some p =>
            obtain ⟨bb, n⟩ := p
            have ed : dd = .tup [natD bb, .loc n] := by
              have : (lefD L)[i]? = some (Sum.inl ((bb : Nat) : Int), D.loc n) := by simp [lefD, encD, ht]
              rw [this] at hd
              cases hd
              rfl
            subst ed
            simp only [wRet, wRetN, wIf, wSeq, wSkip, wBreak, wCont, wNever, wDrop, wAndV, wOrV, wNotV, wIfE, wTest, wAndT, wOrT, wNotT, wUn, wOp, wVar, wC, wCB, wNil, wCons, wTup, wLst, wCall, wCallX, wSl, wNoPart, wPart, wChain, wAsg, wSet, wAug, wPar, wFor, iLst, iTp, iRng, iEn, iEnT, iItm, iSt, gNm, gTp, gNone, gMore, g2, g3, wLc, wYes, wLm, wDGet, wDIn, wDGet2, wDPut, wDNew, wDisp, wPs, wSm0, wSm1, wRev, wMaxD, wRaise, wKeep, gSet, wFld, wSFld, wMeth, wMake, wNNin, wNPut, wLock, wDPop, wDClr, wRevP, wLZip]
            have hn' : S'[n]? = some (.lst true []) := by
              refine hS' _ _ ?_
              have hp := hn3 (bb, n) (by rw [← eL]; exact List.mem_of_getElem? ht)
              rw [hS4, List.getElem?_set_ne (by omega)]
              exact hp.1
            refine ⟨_, rfl, true, [], hn', ⟨true, hn'⟩, ?_⟩
            refine ⟨true, [], last_get, [], rfl, ?_⟩
            refine iteB (fun _ => ?_) fun h => by cases h
            exact ⟨_, rfl, hR _ hS'.to⟩
        · rw [lef_items]
          obtain ⟨ks, hks⟩ : ∃ ks, ks = (L.map (·.1)).map natD := ⟨_, rfl⟩
          have ksl : ks.length = L.length := by rw [hks]; simp
          rw [← hks]
          have hl4 : S'[S.length]? = some (.dK false (lefD L)) := hS' _ _ (by rw [hS4]; exact List.getElem?_set_self li3)
          have hl4' := (List.getElem?_eq_some_iff.mp hl4).1
          have len4 := Sub.len hS'
          have len34 : S4.length = S3.length := by rw [hS4, List.length_set]
          refine ⟨Sub.push _ _ hl4, _, rfl, Nat.zero_le _, ?_⟩
          obtain ⟨S5, hS5⟩ : ∃ S5, S5 = (S' ++ [Cell.lst true ks]).set S.length (Cell.dK true (lefD L)) := ⟨_, rfl⟩
          rw [← hS5]
          have len5 : S5.length = S'.length + 1 := by rw [hS5, List.length_set, List.length_append]; rfl
          have hk5 : S5[S'.length]? = some (.lst true ks) := by rw [hS5, List.getElem?_set_ne (by omega)]; exact last_get
          have hl5 : S5[S.length]? = some (.dK true (lefD L)) := by rw [hS5]; exact List.getElem?_set_self (by rw [List.length_append]; omega)
          have ke5 : Ke S.length S3 S5 := fun n cc hn e => by
            rw [hS5, List.getElem?_set_ne (Ne.symm hn)]
            refine Sub.push _ _ (hS' _ _ ?_)
            rw [hS4, List.getElem?_set_ne (Ne.symm hn)]; exact e
          refine ⟨true, ks, true, Sub.push _ _ hk5, last_get, ?_⟩
          refine iteB (fun h => ?_) fun _ => ?_
          · have : ks = [] := by cases ks with
              | nil => rfl
              | cons a as => cases h
            rw [this] at ksl
            exact absurd ksl.symm (Nat.ne_of_gt hL0)
          refine ⟨_, rfl, true, ks, Sub.push _ _ hk5, ?_⟩
          obtain ⟨S6, hS6⟩ : ∃ S6, S6 = S5 ++ [Cell.lst true []] := ⟨_, rfl⟩
          rw [← hS6]
          have ke6 : Ke S.length S3 S6 := ke5.trans (by rw [hS6]; exact Ke.sub Sub.push)
          have hk6 : S6[S'.length]? = some (.lst true ks) := by rw [hS6]; exact Sub.push _ _ hk5
          have hl6 : S6[S.length]? = some (.dK true (lefD L)) := by rw [hS6]; exact Sub.push _ _ hl5
          have lt3 : S2.length < S3.length := (List.getElem?_eq_some_iff.mp hF).1
          have lnd : (L.map (·.1)).Nodup := by rw [eL, pfst]; exact hnd
          refine loop_by (fun i e T => ∃ y2, e = [some (.loc c), some (.loc S.length), y2, x3, some (.loc S2.length), some (.loc S'.length), x6, x7] ∧ T[S.length]? = some (.dK true (lefD (L.drop i))) ∧ Ke S.length S6 T)
            ⟨_, rfl, hl6, Ke.refl⟩ (fun i e T ⟨_, _, _, h⟩ => ⟨true, h _ _ (by omega) hk6⟩) (fun i dd hd e T h R hR => ?_) (fun e T h => ?_)
          · obtain ⟨y2, rfl, hT, hk⟩ := h
            cases hdr : L.drop i with
            | nil =>
              have : L.length ≤ i := List.drop_eq_nil_iff.mp hdr
              rw [List.getElem?_eq_none (by omega)] at hd
              cases hd
            | cons q rest =>
              obtain ⟨bb, n⟩ := q
              have hLi : L[i]? = some (bb, n) := by
                have := congrArg (fun l => l[0]?) hdr
                simpa using this
              have hdrop : L.drop (i + 1) = rest := by
                have : (L.drop i).drop 1 = rest := by rw [hdr]; rfl
                rwa [List.drop_drop] at this
              have ed : dd = natD bb := by
                rw [hks] at hd
                simp [hLi] at hd
                exact hd.symm
              subst ed
              rw [hdr] at hT
              simp only [wRet, wRetN, wIf, wSeq, wSkip, wBreak, wCont, wNever, wDrop, wAndV, wOrV, wNotV, wIfE, wTest, wAndT, wOrT, wNotT, wUn, wOp, wVar, wC, wCB, wNil, wCons, wTup, wLst, wCall, wCallX, wSl, wNoPart, wPart, wChain, wAsg, wSet, wAug, wPar, wFor, iLst, iTp, iRng, iEn, iEnT, iItm, iSt, gNm, gTp, gNone, gMore, g2, g3, wLc, wYes, wLm, wDGet, wDIn, wDGet2, wDPut, wDNew, wDisp, wPs, wSm0, wSm1, wRev, wMaxD, wRaise, wKeep, gSet, wFld, wSFld, wMeth, wMake, wNNin, wNPut, wLock, wDPop, wDClr, wRevP, wLZip]
              refine ⟨_, rfl, S.length, true, _, rfl, hT, _, rfl, _, _, .loc n, hT, rfl, ?_, ?_⟩
              · rw [show Qd.val (lefD ((bb, n) :: rest)) (.inl ((bb : Nat) : Int)) = (((bb, n) :: rest).lookup bb).map fun n : Nat => D.loc n from val_enc _ _ _]
                simp
              · rw [lef_cut (by rw [← hdr]; exact (lnd.sublist ((List.drop_sublist i L).map _)))]
                refine hR _ _ ⟨_, rfl, ?_, hk.set⟩
                rw [hdrop]
                exact List.getElem?_set_self (List.getElem?_eq_some_iff.mp hT).1
          · obtain ⟨y2, rfl, hT, hk⟩ := h
            rw [List.drop_of_length_le (by omega)] at hT
            have hF' : T[S2.length]? = some (.lst true Fd) := hk _ _ (by omega) (ke6 _ _ (by omega) hF)
            refine ⟨_, rfl, ⟨true, _, hF'⟩, _, rfl, [], ks, by rw [hF', eF], hk _ _ (by omega) hk6, ?_, ?_⟩
            · rw [ksl, eL, plen]; exact Nat.le_trans (by rw [List.length_nil, Nat.zero_add]; exact few) (Nat.le_of_lt million)
            refine ⟨0, hL0, [], ks, _, _, _, _, _, rfl, ?_, ?_, .inr ⟨rfl, by rw [hks, eL]⟩, rfl, ?_, fun p hp => ⟨?_, (hn3 p hp).2⟩⟩
            · rw [List.getElem?_set_ne (by omega)]; exact hT
            · rw [List.nil_append]; exact List.getElem?_set_self (List.getElem?_eq_some_iff.mp hF').1
            · intro n cc hn
              have l1 := (List.getElem?_eq_some_iff.mp hn).1
              rw [List.getElem?_set_ne (by omega)]
              by_cases hnn : n = S.length
              · omega
              · exact hk _ _ hnn (ke6 _ _ hnn (hsub _ _ hn))
            · obtain ⟨z1, z2, z3⟩ := hn3 p hp
              rw [List.getElem?_set_ne (by omega)]
              exact hk _ _ (by omega) (ke6 _ _ (by omega) z1)
      · subst eL; simp at hL0
    · have hL0 : L = [] := List.length_eq_zero_iff.mp (by have := of_decide_eq_false h; omega)
      subst hL0
      refine ⟨_, rfl, q S3 S2.length hsub len2 ?_⟩
      rw [hF, ← pfst]
      rcases hcase with ⟨e1, e2⟩ | ⟨_, e2⟩
      · rw [e2, ← e1]; rfl
      · rw [e2]
end
end K15
set_option Elab.async false
set_option linter.all false
set_option maxRecDepth 100000
set_option maxHeartbeats 4000000
namespace K15
open PySem PySem.Spec PyProof.Rows L2 Qd
open P15 (Flat From Inv Cov Reach Named Clash Con)
theorem nodup_last' {β : Type} {ps : List (Nat × β)} {q : Nat × β} (h : ((ps ++ [q]).map (·.1)).Nodup) : ps.lookup q.1 = none := by
  induction ps with
  | nil => rfl
  | cons p ps ih =>
    obtain ⟨a, y⟩ := p
    simp only [List.cons_append, List.map_cons, List.nodup_cons] at h
    have h1 : q.1 ≠ a := fun e => h.1 (by rw [← e]; simp)
    have h2 : (q.1 == a) = false := by simpa using h1
    simp only [List.lookup, h2]
    exact ih h.2
section
variable {P : Program} {w : World} {K : PySem.W.Frag} {mg : Str → Option Value} {base : Heap} {CC : Addr}
def cWT (P : Program) (w : World) (CC : Addr) : Qd.Con := fun ds S Q _ => ∃ (b c l m d k o : Nat) (s : Cls15), ds = [.loc c, .loc o] ∧ ClAt P w CC b S c l m d k s ∧ (s.termOf.map (·.1)).Nodup ∧ S[o]? = some (.lst true ((s.termOf.map (·.1)).map natD)) ∧ ∀ T n, Sub S T → S.length ≤ n → T[n]? = some (.dK true (trmD s.termOf)) → Q (.loc n) T
abbrev s_Classes_whole_terms : Stmt := inClass (topS 17) 7
theorem sc_Classes_whole_terms : FnScope ["self", "order", "whole", "blank", "filling", "inner", "low"] ["self", "order"] (defScope s_Classes_whole_terms) := ⟨rfl, rfl, rfl, by decide +kernel, rfl, by decide +kernel, by decide +kernel⟩
theorem ok_Classes_whole_terms {f : Addr} {fd : FuncData} (F : Fun K "whole_terms" "Classes.whole_terms" s_Classes_whole_terms f fd) (hb : Binds K fd ["self", "order"] []) (me : Meth K CC "whole_terms" f) (B : Blt mg) (T : TC K CC) (C_blanks : Fn P w K mg base 14 "blanks" cBlanks []) (C_filled : Fn P w K mg base 3 "filled" cFilled []) (M_least_of : FnM P w K mg base 1 CC "least_of" (cLeast P w CC)) : FnM P w K mg base 15 CC "whole_terms" (cWT P w CC) := by
  refine ⟨f, fd, _, okQ F sc_Classes_whole_terms (fun ds S Q X ⟨_, _, _, _, _, _, _, _, e, _⟩ => by rw [e]; rfl) fun cdv A outer s H hr => ?_, me, hb⟩
  have hu1 := hu_of hr; have hu64 := hr.units
  refine ⟨_, (qs_cons (q_set (i := 2) sc_Classes_whole_terms.nd rfl (.inl rfl) q_dnewK)
      (qs_cons (q_for (vs := [3]) PassesOwn.never rfl (qi_list (qv 1)) (qg_name (i := 3) sc_Classes_whole_terms.nd rfl (.inl rfl)) (qs_cons (q_set (i := 4) sc_Classes_whole_terms.nd rfl (.inl rfl) q_dnewK)
      (qs_cons (q_for (vs := [5]) PassesOwn.never rfl (qi_list (q_c (dds := []) C_blanks hr (by first | decide | omega) (by rfl) (qa_cons (q_dget hu1 (q_fld T.cls T.n_term_of (qv 0)) (qv 3)) qa_nil))) (qg_name (i := 5) sc_Classes_whole_terms.nd rfl (.inl rfl)) (qs_cons (q_set (i := 6) sc_Classes_whole_terms.nd rfl (.inl rfl) (q_m T.cls M_least_of hr (by first | decide | omega) (qv 0) (qa_cons (qv 5) qa_nil)))
      (qs_one (q_dput hu1 (qv 4) (qv 5) (q_dget2 hu1 (qv 2) (qv 6) (qv 6))))))
      (qs_one (q_dput hu1 (qv 2) (qv 3) (q_c (dds := []) C_filled hr (by first | decide | omega) (by rfl) (qa_cons (q_dget hu1 (q_fld T.cls T.n_term_of (qv 0)) (qv 3)) (qa_cons (qv 4) qa_nil))))))))
      (qs_one (q_ret (qv 2))))), fun ds S Q X h => ?_⟩
  obtain ⟨b, c, l, m, d, k, o, s, rfl, hc, hnd, ho, q⟩ := h
  have lc0 := (List.getElem?_eq_some_iff.mp hc.ins).1
  refine seq_set ?_
  refine ⟨_, rfl, true, _, Sub.push _ _ ho, ?_⟩
  refine loop_by (fun i e S' => ∃ x3 x4 x5 x6, e = [some (.loc c), some (.loc o), some (.loc S.length), x3, x4, x5, x6] ∧ Sub S S' ∧ S'[S.length]? = some (.dK true (trmD (s.termOf.take i))))
    ⟨_, _, _, _, rfl, Sub.push, last_get⟩ (fun i e S' ⟨_, _, _, _, _, h, _⟩ => ⟨true, h _ _ ho⟩) (fun i dd hd e S' h R hR => ?_) (fun e S' h => ?_)
  · obtain ⟨x3, x4, x5, x6, rfl, hs, hw⟩ := h
    cases ht : s.termOf[i]? with
    | none => simp [ht] at hd
    | some p =>
      obtain ⟨bb, x⟩ := p
      have ed : dd = natD bb := by
        rw [List.getElem?_map, List.getElem?_map, ht] at hd
        cases hd
        rfl
      subst ed
      have hc1 := hc.sub hs
      have hv : Qd.val (trmD s.termOf) (.inl ((bb : Nat) : Int)) = some (toD (nam x)) := by
        rw [show Qd.val (trmD s.termOf) (.inl ((bb : Nat) : Int)) = (s.termOf.lookup bb).map fun x : Str => toD (nam x) from val_enc _ _ _, (P15.mem_lookup hnd).mp (List.mem_of_getElem? ht)]
        rfl
      simp only [wRet, wRetN, wIf, wSeq, wSkip, wBreak, wCont, wNever, wDrop, wAndV, wOrV, wNotV, wIfE, wTest, wAndT, wOrT, wNotT, wUn, wOp, wVar, wC, wCB, wNil, wCons, wTup, wLst, wCall, wCallX, wSl, wNoPart, wPart, wChain, wAsg, wSet, wAug, wPar, wFor, iLst, iTp, iRng, iEn, iEnT, iItm, iSt, gNm, gTp, gNone, gMore, g2, g3, wLc, wYes, wLm, wDGet, wDIn, wDGet2, wDPut, wDNew, wDisp, wPs, wSm0, wSm1, wRev, wMaxD, wRaise, wKeep, gSet, wFld, wSFld, wMeth, wMake, wNNin, wNPut, wLock, wDPop, wDClr, wRevP, wLZip]
      refine ⟨_, rfl, _, _, (hc1.sub Sub.push).ins, f_trm, _, rfl, look_at (hc1.sub Sub.push).trm rfl ?_⟩
      rw [hv]
      refine ⟨nam x, rfl, (show 1 ≤ 10 by decide), (show 1 ≤ 10 ^ 6 by decide), fun T0 n hT hn hg => ?_⟩
      refine ⟨true, _, hg, ?_⟩
      refine ⟨⟨true, hg⟩, ?_⟩
      have hc2 := hc1.sub (Sub.push.trans hT)
      refine ⟨_, rfl, _, _, hc2.ins, f_trm, _, rfl, look_at hc2.trm rfl ?_⟩
      rw [hv]
      refine ⟨_, rfl, x, _, rfl, hT _ _ last_get, fun T1 hT1 => ?_⟩
      have hw1 : T1[S.length]? = some (.dK true (trmD (s.termOf.take i))) := hT1 _ _ (hT _ _ (Sub.push _ _ hw))
      have hil : i < s.termOf.length := (List.getElem?_eq_some_iff.mp ht).1
      have hsplit : s.termOf.take (i + 1) = s.termOf.take i ++ [(bb, x)] := by rw [List.take_add_one, ht]; rfl
      refine ⟨_, rfl, _, rfl, put_at hw1 rfl ?_ ?_⟩
      · unfold trmD
        rw [enc_len, List.length_take]
        exact Nat.lt_of_le_of_lt (by have := hc.few.2.1; omega : _ ≤ 10 ^ 6) million
      · have hlook : (s.termOf.take i).lookup bb = none := by
          refine nodup_last' (q := (bb, x)) ?_
          rw [← hsplit]
          exact hnd.sublist ((List.take_sublist _ _).map _)
        rw [show Qd.put (trmD (s.termOf.take i)) (.inl ((bb : Nat) : Int)) (toD (nam x)) = trmD (s.termOf.take i ++ [(bb, x)]) from put_enc (fun x : Str => toD (nam x)) bb x hlook, ← hsplit]
        refine hR _ _ ⟨_, _, _, _, rfl, ?_, List.getElem?_set_self (List.getElem?_eq_some_iff.mp hw1).1⟩
        intro n' cc hn'
        have l1 := (List.getElem?_eq_some_iff.mp hn').1
        rw [List.getElem?_set_ne (by omega)]
        exact hT1 _ _ (hT _ _ (Sub.push _ _ (hs _ _ hn')))
  · obtain ⟨x3, x4, x5, x6, rfl, hs, hw⟩ := h
    refine ⟨_, rfl, q _ _ hs (Nat.le_refl _) ?_⟩
    rw [List.length_map, List.length_map, List.take_of_length_le (Nat.le_refl _)] at hw
    exact hw
end
end K15
set_option Elab.async false
set_option linter.all false
set_option maxRecDepth 100000
set_option maxHeartbeats 4000000
namespace K15
open PySem PySem.Spec PyProof.Rows L2 Qd
open P15 (Flat From Inv Cov Reach Named Clash Con)
theorem Lw.toSub {b : Nat} {S S0 T : Store} {c : Cell} (h : Lw b S0 T) (e : S0 = S ++ [c]) (hb : S.length = b) : Sub S T := fun n d hn => by
  have l := (List.getElem?_eq_some_iff.mp hn).1
  rw [h.at_ n (by omega), e, List.getElem?_append_left l]
  exact hn
/-- a row without what it has already -/
def addK (ks : List Nat) (b : Nat) : List Nat := if b ∈ ks then ks else ks ++ [b]
theorem addK_nd {ks : List Nat} {b : Nat} (h : ks.Nodup) : (addK ks b).Nodup := by
  unfold addK
  split
  · exact h
  · rename_i hb
    rw [List.nodup_append]
    refine ⟨h, by simp, fun x hx y hy e => ?_⟩
    subst e
    rw [List.mem_singleton.mp hy] at hx
    exact hb hx
theorem addK_mem {ks : List Nat} {b c : Nat} : c ∈ addK ks b ↔ c ∈ ks ∨ c = b := by
  unfold addK
  split
  · rename_i hb
    constructor
    · exact .inl
    · rintro (h | rfl)
      · exact h
      · exact hb
  · simp
theorem addK_len {ks : List Nat} {b : Nat} : (addK ks b).length ≤ ks.length + 1 := by
  unfold addK
  split
  · omega
  · simp
theorem foldK_nd : ∀ (l ks : List Nat), ks.Nodup → (l.foldl addK ks).Nodup
  | [], ks, h => h
  | b :: l, ks, h => foldK_nd l _ (addK_nd h)
theorem foldK_mem {c : Nat} : ∀ (l ks : List Nat), c ∈ l.foldl addK ks ↔ c ∈ ks ∨ c ∈ l
  | [], ks => by simp
  | b :: l, ks => by
    rw [List.foldl_cons, foldK_mem l, addK_mem, List.mem_cons, or_assoc]
theorem foldK_len : ∀ (l ks : List Nat), (l.foldl addK ks).length ≤ ks.length + l.length
  | [], ks => Nat.le_refl _
  | b :: l, ks => by
    rw [List.foldl_cons, List.length_cons]
    have := foldK_len l (addK ks b)
    have := @addK_len ks b
    omega
def gD (g : Nat → Tm) (ks : List Nat) : List (Key × D) := encD toD (ks.map fun b => (b, g b))
theorem gD_len (g : Nat → Tm) (ks : List Nat) : (gD g ks).length = ks.length := by unfold gD; rw [enc_len, List.length_map]
theorem gD_put (g : Nat → Tm) (ks : List Nat) (b : Nat) : Qd.put (gD g ks) (.inl ((b : Nat) : Int)) (toD (g b)) = gD g (addK ks b) := by
  unfold addK
  by_cases hb : b ∈ ks
  · rw [if_pos hb]
    unfold Qd.put
    rw [if_pos]
    · unfold gD encD
      rw [List.map_map, List.map_map, List.map_map]
      refine List.map_congr_left fun a ha => ?_
      show (if (Sum.inl ((a : Nat) : Int) : Key) = .inl ((b : Nat) : Int) then ((Sum.inl ((a : Nat) : Int) : Key), toD (g b)) else (Sum.inl ((a : Nat) : Int), toD (g a))) = (Sum.inl ((a : Nat) : Int), toD (g a))
      by_cases e : a = b
      · subst e; rw [if_pos rfl]
      · rw [if_neg fun z => e (inl_inj.mp z)]
    · rw [List.any_eq_true]
      refine ⟨(.inl ((b : Nat) : Int), toD (g b)), ?_, by simp⟩
      unfold gD encD
      rw [List.map_map]
      exact List.mem_map.mpr ⟨b, hb, rfl⟩
  · rw [if_neg hb]
    have h0 : (ks.map fun b => (b, g b)).lookup b = none := by
      induction ks with
      | nil => rfl
      | cons a ks ih =>
        have h1 : (b == a) = false := by
          have : b ≠ a := fun e => hb (by rw [e]; exact List.mem_cons_self)
          simpa using this
        simp only [List.map_cons, List.lookup, h1]
        exact ih fun z => hb (List.mem_cons_of_mem _ z)
    have := put_enc toD b (g b) h0
    unfold gD
    rw [this, List.map_append]
    rfl
/-- what each blank becomes -/
structure Due (Ps : List (Tm × Tm)) (b : Nat) (t : Tm) : Prop where
  name : ∀ x, Named Ps b x → t = nam x
  none : (∀ x, ¬ Named Ps b x) → ∃ r, t = .bl r ∧ Con Ps b r ∧ ∀ a, Con Ps b a → r ≤ a
def cJ : Qd.Con := fun ds S Q _ => ∃ (u v : Tm) (Ps : List (Tm × Tm)), ds = [toD u, toD v] ∧ Flat Ps ∧ From Ps (u, v) ∧ (∀ p ∈ Ps, Reach (u, v) p) ∧ OkT u ∧ OkT v ∧ dep u ≤ 6 ∧ dep v ≤ 6 ∧ wt u v ≤ 10 ^ 5 ∧ siz u ≤ 10 ^ 5 ∧ siz v ≤ 10 ^ 5 ∧
  (∀ T, Clash Ps → Sub S T → Q .non T) ∧ (∀ T n ks g, ¬ Clash Ps → Sub S T → S.length ≤ n → T[n]? = some (.dK true (gD g ks)) → ks.Nodup → (∀ b, b ∈ ks ↔ Occ b u ∨ Occ b v) → (∀ b ∈ ks, Due Ps b (g b)) → Q (.loc n) T)
section
variable {P : Program} {w : World} {K : PySem.W.Frag} {mg : Str → Option Value} {base : Heap} {CC : Addr}
section
variable {l m d k : Nat}
theorem no_fw : (fl l m d k).lookup ("from_within" : Str) = none := f_no (by decide +kernel) (by decide +kernel) (by decide +kernel) (by decide +kernel)
theorem no_wt : (fl l m d k).lookup ("whole_terms" : Str) = none := f_no (by decide +kernel) (by decide +kernel) (by decide +kernel) (by decide +kernel)
end
abbrev s_joint : Stmt := topS 18
theorem sc_joint : FnScope ["one", "other", "classes", "order", "whole", "found", "blank", "low"] ["one", "other"] (defScope s_joint) := ⟨rfl, rfl, rfl, by decide +kernel, rfl, by decide +kernel, by decide +kernel⟩
theorem ok_joint {f : Addr} {fd : FuncData} (F : Fun K "joint" "joint" s_joint f fd) (hm : mg "joint" = some (.ref f)) (hb : Binds K fd ["one", "other"] []) (B : Blt mg) (T : TC K CC) (C_blanks : Fn P w K mg base 14 "blanks" cBlanks []) (I_Classes : FnI P w K mg base 1 CC "Classes" (cInit P w CC)) (M_lay_all : FnM P w K mg base 4 CC "lay_all" (cLayAll P w CC)) (M_from_within : FnM P w K mg base 15 CC "from_within" (cFW P w CC)) (M_whole_terms : FnM P w K mg base 15 CC "whole_terms" (cWT P w CC)) (M_least_of : FnM P w K mg base 1 CC "least_of" (cLeast P w CC)) : Fn P w K mg base 16 "joint" cJ [] := by
  refine defQ F hm hb .nil sc_joint (fun ds S Q X ⟨_, _, _, e, _⟩ => by rw [e]; rfl) fun cdv A outer s H hr => ?_
  have hu1 := hu_of hr; have hu64 := hr.units
  refine ⟨_, (qs_cons (q_set (i := 2) sc_joint.nd rfl (.inl rfl) (q_mk0 I_Classes hr (by first | decide | omega) (by rfl)))
      (qs_cons (q_if (qt_not (qt_val (q_m T.cls M_lay_all hr (by first | decide | omega) (qv 2) (qa_cons (qv 0) (qa_cons (qv 1) qa_nil))))) (qs_one (q_ret q_non)) qs_nil)
      (qs_cons (q_set (i := 3) sc_joint.nd rfl (.inl rfl) (q_m0 T.cls M_from_within hr (by first | decide | omega) (qv 2)))
      (qs_cons (q_if (qt_isN (qv 3)) (qs_one (q_ret q_non)) qs_nil)
      (qs_cons (q_set (i := 4) sc_joint.nd rfl (.inl rfl) (q_m T.cls M_whole_terms hr (by first | decide | omega) (qv 2) (qa_cons (qv 3) qa_nil)))
      (qs_cons (q_set (i := 5) sc_joint.nd rfl (.inl rfl) q_dnewK)
      (qs_cons (q_for (vs := [6]) PassesOwn.never rfl (qi_list (q_op op_add4 ro_add (q_c (dds := []) C_blanks hr (by first | decide | omega) (by rfl) (qa_cons (qv 0) qa_nil)) (q_c (dds := []) C_blanks hr (by first | decide | omega) (by rfl) (qa_cons (qv 1) qa_nil)))) (qg_name (i := 6) sc_joint.nd rfl (.inl rfl)) (qs_cons (q_set (i := 7) sc_joint.nd rfl (.inl rfl) (q_m T.cls M_least_of hr (by first | decide | omega) (qv 2) (qa_cons (qv 6) qa_nil)))
      (qs_one (q_dput hu1 (qv 5) (qv 6) (q_dget2 hu1 (qv 4) (qv 7) (qv 7))))))
      (qs_one (q_ret (qv 5)))))))))), fun ds S Q X h => ?_⟩
  obtain ⟨u, v, Ps, rfl, hP, hf, hR, ou, ov, du, dv, hwt, su, sv, q1, q2⟩ := h
  simp only [wRet, wRetN, wIf, wSeq, wSkip, wBreak, wCont, wNever, wDrop, wAndV, wOrV, wNotV, wIfE, wTest, wAndT, wOrT, wNotT, wUn, wOp, wVar, wC, wCB, wNil, wCons, wTup, wLst, wCall, wCallX, wSl, wNoPart, wPart, wChain, wAsg, wSet, wAug, wPar, wFor, iLst, iTp, iRng, iEn, iEnT, iItm, iSt, gNm, gTp, gNone, gMore, g2, g3, wLc, wYes, wLm, wDGet, wDIn, wDGet2, wDPut, wDNew, wDisp, wPs, wSm0, wSm1, wRev, wMaxD, wRaise, wKeep, gSet, wFld, wSFld, wMeth, wMake, wNNin, wNPut, wLock, wDPop, wDClr, wRevP, wLZip]
  refine ⟨S.length, S.length, rfl, last_get, Nat.le_refl _, fun T0 l m d k hc hl => ⟨rfl, ?_⟩⟩
  refine ⟨_, rfl, _, _, rfl, hc.ins, no_la, _, rfl, _, rfl, S.length, S.length, l, m, d, k, u, v, Ps, rfl, hc, hP, hf, ou, ov, du, dv, hwt, by have := hl.len; rw [List.length_append] at this; omega, fun T1 s hc1 hJ hT hl1 => ?_, fun T1 hcl hl1 => ?_⟩
  · refine iteB (fun h => by cases h) fun _ => ?_
    have s1 : Sub S T1 := (hl.trans hl1).toSub rfl rfl
    have hncl := hJ.inv.noClash hT hR
    refine ⟨_, rfl, _, _, rfl, hc1.ins, no_fw, S.length, S.length, l, m, d, k, s, rfl, hc1, hJ.inv.nd, fun T2 o s2 ho ho2 => ?_⟩
    refine ⟨_, rfl, ?_⟩
    simp only [fIs, Qd.isNon, Bool.false_eq_true, ↓reduceIte]
    have hc2 := hc1.sub s2
    refine ⟨_, rfl, _, _, rfl, hc2.ins, no_wt, _, rfl, S.length, S.length, l, m, d, k, o, s, rfl, hc2, hJ.inv.nd, ho2, fun T3 wh s3 hwh hwh3 => ?_⟩
    have hc3 := hc2.sub s3
    obtain ⟨g, hg⟩ : ∃ g : Nat → Tm, ∀ b, ∃ r, P15.Root s.lesser b r ∧ g b = (match s.termOf.lookup r with | some x => nam x | none => .bl r) := by
      refine ⟨fun b => match s.termOf.lookup (Classical.choose (P15.Root.ex hJ.inv.down b)) with | some x => nam x | none => .bl (Classical.choose (P15.Root.ex hJ.inv.down b)), fun b => ⟨_, Classical.choose_spec (P15.Root.ex hJ.inv.down b), rfl⟩⟩
    dsimp only
    refine ⟨_, rfl, u, rfl, by omega, by omega, fun T4 n4 s4 hn4 g4 => ?_⟩
    refine ⟨_, rfl, v, rfl, by omega, by omega, fun T5 n5 s5 hn5 g5 => ?_⟩
    have lens : (blanksF u).length + (blanksF v).length ≤ 2 * 10 ^ 5 := by
      have a1 := onceF_len (partsF [] u) []
      have a2 := onceF_len (partsF [] v) []
      rw [parts_len, List.length_nil] at a1 a2
      unfold blanksF
      omega
    refine ⟨_, _, s5 _ _ g4, g5, ?_, ?_⟩
    · rw [List.length_map, List.length_map]; exact Nat.le_trans (Nat.le_trans lens (by decide)) (Nat.le_of_lt million)
    rw [← List.map_append]
    obtain ⟨S6, hS6⟩ : ∃ S6, S6 = T5 ++ [Cell.lst true ((blanksF u ++ blanksF v).map natD)] := ⟨_, rfl⟩
    have e6 : S6 = T5 ++ [Cell.lst true ((blanksF u ++ blanksF v).map fun b : Nat => D.int ((b : Nat) : Int))] := hS6
    rw [← e6]
    have h6 : S6[T5.length]? = some (.lst true ((blanksF u ++ blanksF v).map natD)) := by rw [hS6]; exact last_get
    have hf6 : S6[T3.length]? = some (.dK true []) := by rw [hS6]; exact Sub.push _ _ (s5 _ _ (s4 _ _ last_get))
    have s36 : Sub T3 S6 := by rw [hS6]; exact Sub.push.trans (s4.trans (s5.trans Sub.push))
    refine ⟨true, _, h6, ?_⟩
    have len35 : T3.length < T5.length := (List.getElem?_eq_some_iff.mp (s5 _ _ (s4 _ _ (last_get : (T3 ++ [Cell.dK true []])[T3.length]? = _)))).1
    refine loop_by (fun i e S' => ∃ x6 x7, e = [some (toD u), some (toD v), some (.loc S.length), some (.loc o), some (.loc wh), some (.loc T3.length), x6, x7] ∧ Sub T3 S' ∧ S'[T5.length]? = some (.lst true ((blanksF u ++ blanksF v).map natD)) ∧ S'[T3.length]? = some (.dK true (gD g (((blanksF u ++ blanksF v).take i).foldl addK []))))
      ⟨_, _, rfl, s36, h6, hf6⟩ (fun i e S' ⟨_, _, _, _, h, _⟩ => ⟨true, h⟩) (fun i dd hd e S' h R hRR => ?_) (fun e S' h => ?_)
    · obtain ⟨x6, x7, rfl, hs, hl', hw'⟩ := h
      rw [List.getElem?_map] at hd
      cases ht : (blanksF u ++ blanksF v)[i]? with
      | none => rw [ht] at hd; cases hd
      | some b =>
        rw [ht] at hd
        cases hd
        obtain ⟨r, hr1, hr2⟩ := hg b
        have hcs := hc3.sub hs
        simp only [wRet, wRetN, wIf, wSeq, wSkip, wBreak, wCont, wNever, wDrop, wAndV, wOrV, wNotV, wIfE, wTest, wAndT, wOrT, wNotT, wUn, wOp, wVar, wC, wCB, wNil, wCons, wTup, wLst, wCall, wCallX, wSl, wNoPart, wPart, wChain, wAsg, wSet, wAug, wPar, wFor, iLst, iTp, iRng, iEn, iEnT, iItm, iSt, gNm, gTp, gNone, gMore, g2, g3, wLc, wYes, wLm, wDGet, wDIn, wDGet2, wDPut, wDNew, wDisp, wPs, wSm0, wSm1, wRev, wMaxD, wRaise, wKeep, gSet, wFld, wSFld, wMeth, wMake, wNNin, wNPut, wLock, wDPop, wDClr, wRevP, wLZip]
        refine ⟨_, rfl, _, _, rfl, hcs.ins, no_lo, _, rfl, S.length, S.length, l, m, d, k, s, b, r, rfl, hcs, hJ.inv.down, hr1, ?_⟩
        have hwS := hs _ _ hwh3
        dsimp only
        refine ⟨_, rfl, ⟨wh, rfl, .inl ⟨_, _, hwS⟩⟩, _, rfl, _, rfl, look_at hwS rfl ?_⟩
        rw [show Qd.val (trmD s.termOf) (.inl ((r : Nat) : Int)) = (s.termOf.lookup r).map fun x : Str => toD (nam x) from val_enc _ _ _]
        have eg : ((s.termOf.lookup r).map fun x : Str => toD (nam x)).getD (D.int ((r : Nat) : Int)) = toD (g b) := by
          rw [hr2]
          cases s.termOf.lookup r <;> rfl
        rw [eg]
        have hlt : i < (blanksF u ++ blanksF v).length := (List.getElem?_eq_some_iff.mp ht).1
        rw [List.length_append] at hlt
        have hl3 : T3.length < S'.length := (List.getElem?_eq_some_iff.mp hw').1
        refine ⟨_, rfl, _, rfl, put_at hw' rfl ?_ ?_⟩
        · rw [gD_len]
          have h1 := foldK_len ((blanksF u ++ blanksF v).take i) []
          rw [List.length_take, List.length_nil] at h1
          exact Nat.lt_of_le_of_lt (by omega : _ ≤ 10 ^ 6) million
        · rw [gD_put]
          refine hRR _ _ ⟨_, _, rfl, ?_, ?_, ?_⟩
          · intro n' cc hn'
            have l1 := (List.getElem?_eq_some_iff.mp hn').1
            rw [List.getElem?_set_ne (by omega)]
            exact hs _ _ hn'
          · rw [List.getElem?_set_ne (by omega)]; exact hl'
          · rw [List.getElem?_set_self hl3, List.take_add_one, ht, List.foldl_append]
            rfl
    · obtain ⟨x6, x7, rfl, hs, hl', hw'⟩ := h
      rw [List.length_map, List.take_of_length_le (Nat.le_refl _)] at hw'
      refine ⟨_, rfl, q2 _ _ _ g hncl ((s1.trans (s2.trans s3)).trans hs) ?_ hw' ?_ ?_ fun b _ => ?_⟩
      · exact Sub.len (s1.trans (s2.trans s3))
      · exact foldK_nd _ _ .nil
      · intro b
        rw [foldK_mem, List.mem_append, blanksF_mem, blanksF_mem]
        simp
      · obtain ⟨r, h1, h2⟩ := hg b
        have hle := hJ.inv.least hT hR h1
        cases e : s.termOf.lookup r with
        | some x =>
          rw [e] at h2
          have hn : Named Ps b x := hle.1.ends (hJ.inv.term r x ((P15.mem_lookup hJ.inv.nd).mpr e)).2
          refine ⟨fun y hy => ?_, fun hno => absurd hn (hno x)⟩
          have := hJ.inv.name hT hR hy h1
          rw [e] at this
          cases this
          exact h2
        | none =>
          rw [e] at h2
          refine ⟨fun y hy => ?_, fun hno => ⟨r, h2, hle⟩⟩
          have := hJ.inv.name hT hR hy h1
          rw [e] at this
          cases this
  · exact iteB (fun _ => q1 _ hcl ((hl.trans hl1).toSub rfl rfl)) fun h => by cases h
end
end K15
set_option Elab.async false
set_option linter.all false
set_option maxRecDepth 100000
set_option maxHeartbeats 4000000
namespace K15
open PySem PySem.Spec PyProof.Rows L2 Qd
theorem nodup_map_on {α β : Type} {f : α → β} : ∀ {l : List α}, l.Nodup → (∀ a ∈ l, ∀ b ∈ l, f a = f b → a = b) → (l.map f).Nodup
  | [], _, _ => List.nodup_nil
  | a :: l, h, g => by
    rw [List.nodup_cons] at h
    rw [List.map_cons, List.nodup_cons]
    refine ⟨fun z => ?_, nodup_map_on h.2 fun x hx y hy e => g x (List.mem_cons_of_mem _ hx) y (List.mem_cons_of_mem _ hy) e⟩
    obtain ⟨b, hb, e⟩ := List.mem_map.mp z
    have := g b (List.mem_cons_of_mem _ hb) a List.mem_cons_self e
    exact h.1 (this ▸ hb)
section
variable {P : Program} {w : World} {K : PySem.W.Frag} {mg : Str → Option Value} {base : Heap} {CC : Addr}
def cBl : Qd.Con := fun ds S Q _ => ∃ (p o t : Nat), ds = [.loc p] ∧ Pot S p o t ∧ t ≤ 10 ^ 8 ∧ ∀ n (row : List Nat) T, Pot T p o (t + 10) → Kp p o S T → (hide p o T)[n]? = some (.lst true (row.map natD)) → S.length ≤ n → row.Nodup → 2 ≤ row.length → row.length ≤ 250 → (∀ b ∈ row, b < 1000) → Q (.loc n) T
abbrev s__law_blanks : Stmt := topS 24
theorem sc__law_blanks : FnScope ["pot", "first", "stride", "many", "k"] ["pot"] (defScope s__law_blanks) := ⟨rfl, rfl, rfl, by decide +kernel, rfl, by decide +kernel, by decide +kernel⟩
theorem ok__law_blanks {f : Addr} {fd : FuncData} (F : Fun K "_law_blanks" "_law_blanks" s__law_blanks f fd) (hm : mg "_law_blanks" = some (.ref f)) (hb : Binds K fd ["pot"] []) (B : Blt mg) (C__law_take : Fn P w K mg base 1 "_law_take" cTake []) (C__law_pick : Fn P w K mg base 2 "_law_pick" cPick []) : Fn P w K mg base 3 "_law_blanks" cBl [] := by
  refine defQ F hm hb .nil sc__law_blanks (fun ds S Q X ⟨_, _, _, e, _⟩ => by rw [e]; rfl) fun cdv A outer s H hr => ?_
  have hu1 := hu_of hr; have hu64 := hr.units
  refine ⟨_, (qs_cons (q_asg (vs := [1, 2]) (q_tup (qa_cons (q_c (dds := []) C__law_take hr (by first | decide | omega) (by rfl) (qa_cons (qv 0) (qa_cons q_int qa_nil))) (qa_cons (q_c (dds := []) C__law_pick hr (by first | decide | omega) (by rfl) (qa_cons (qv 0) (qa_cons (q_lst (qa_cons q_int (qa_cons q_int (qa_cons q_int (qa_cons q_int (qa_cons q_int (qa_cons q_int (qa_cons q_int (qa_cons q_int qa_nil))))))))) qa_nil))) qa_nil))) (qg_2 (i := 1) (j := 2) rfl sc__law_blanks.nd rfl (.inr rfl) rfl (.inr rfl)))
      (qs_cons (q_set (i := 3) sc__law_blanks.nd rfl (.inl rfl) (q_op op_add4 ro_add q_int (q_c (dds := []) C__law_pick hr (by first | decide | omega) (by rfl) (qa_cons (qv 0) (qa_cons (q_lst (qa_cons (q_c (dds := []) C__law_take hr (by first | decide | omega) (by rfl) (qa_cons (qv 0) (qa_cons q_int qa_nil))) (qa_cons (q_c (dds := []) C__law_take hr (by first | decide | omega) (by rfl) (qa_cons (qv 0) (qa_cons q_int qa_nil))) qa_nil))) qa_nil)))))
      (qs_one (q_ret (q_lc (own := [("k", 4)]) rfl sc__law_blanks.nd (qi_range (by rfl) B.range (qv 3)) (blkOk_by (N := ["pot", "first", "stride", "many", "k"]) (sc := defScope s__law_blanks) (by decide +kernel)) (fun _ _ _ _ _ => (qg_name (i := 4) sc__law_blanks.nd rfl (.inl rfl))) (fun _ _ _ _ _ => qts_nil) (fun _ _ _ _ _ => (q_op op_mod ro_mod (q_op op_add4 ro_add (qv 1) (q_op op_mul3 ro_mul3 (qv 2) (qv 4))) q_int))))))), fun ds S Q X h => ?_⟩
  obtain ⟨p, o, t, rfl, hp, ht, q⟩ := h
  simp only [wRet, wRetN, wIf, wSeq, wSkip, wBreak, wCont, wNever, wDrop, wAndV, wOrV, wNotV, wIfE, wTest, wAndT, wOrT, wNotT, wUn, wOp, wVar, wC, wCB, wNil, wCons, wTup, wLst, wCall, wCallX, wSl, wNoPart, wPart, wChain, wAsg, wSet, wAug, wPar, wFor, iLst, iTp, iRng, iEn, iEnT, iItm, iSt, gNm, gTp, gNone, gMore, g2, g3, wLc, wYes, wLm, wDGet, wDIn, wDGet2, wDPut, wDNew, wDisp, wPs, wSm0, wSm1, wRev, wMaxD, wRaise, wKeep, gSet, wFld, wSFld, wMeth, wMake, wNNin, wNPut, wLock, wDPop, wDClr, wRevP, wLZip]
  refine ⟨_, rfl, p, o, t, 1000, rfl, by decide, by decide, hp, by omega, fun first T1 hf1 hp1 hk1 => ?_⟩
  have hl1 := hp1.lt
  refine ⟨_, rfl, (show 8 ≤ lineD by decide), p, o, t + 1, _, _, rfl, .inl ⟨_, rfl, hide_last hl1.1 hl1.2⟩, (show 0 < 8 by decide), (show 8 ≤ 100000 by decide), hp1.sub Sub.push, by omega, fun i x T2 hx hp2 hk2 => ?_⟩
  obtain ⟨st, hst, rfl⟩ : ∃ st : Nat, st ∈ ([1, 3, 7, 9, 11, 501, 999, 333] : List Nat) ∧ x = .int ((st : Nat) : Int) := by
    have hx' : (([1, 3, 7, 9, 11, 501, 999, 333] : List Nat).map fun n : Nat => D.int ((n : Nat) : Int))[i]? = some x := hx
    rw [List.getElem?_map] at hx'
    cases hn : ([1, 3, 7, 9, 11, 501, 999, 333] : List Nat)[i]? with
    | none => rw [hn] at hx'; cases hx'
    | some n =>
      rw [hn] at hx'
      cases hx'
      exact ⟨n, List.mem_of_getElem? hn, rfl⟩
  have hk02 : Kp p o S T2 := (hk1.trans (Kp.sub hl1.1 hl1.2 Sub.push)).trans hk2
  refine ⟨(show 2 ≤ lineD by decide), _, rfl, _, rfl, p, o, t + 2, 12, rfl, by decide, by decide, hp2, by omega, fun n12 T3 h12 hp3 hk3 => ?_⟩
  refine ⟨_, rfl, p, o, t + 3, 249, rfl, by decide, by decide, hp3, by omega, fun n249 T4 h249 hp4 hk4 => ?_⟩
  have hl4 := hp4.lt
  refine ⟨(show 2 ≤ lineD by decide), p, o, t + 4, _, _, rfl, .inl ⟨_, rfl, hide_last hl4.1 hl4.2⟩, (show 0 < 2 by decide), (show 2 ≤ 100000 by decide), hp4.sub Sub.push, by omega, fun j y T5 hy hp5 hk5 => ?_⟩
  obtain ⟨mn, hmn, rfl⟩ : ∃ mn : Nat, mn < 249 ∧ y = .int ((mn : Nat) : Int) := by
    match j, hy with
    | 0, hy => cases hy; exact ⟨n12, by omega, rfl⟩
    | 1, hy => cases hy; exact ⟨n249, by omega, rfl⟩
    | j + 2, hy => simp at hy
  have hk05 : Kp p o S T5 := (((hk02.trans hk3).trans hk4).trans (Kp.sub hl4.1 hl4.2 Sub.push)).trans hk5
  have r2 : ((2 : Int) + ((mn : Nat) : Int)).toNat = mn + 2 := by omega
  refine ⟨_, rfl, by omega, by omega, ?_⟩
  have hlm : ((List.range ((2 : Int) + ((mn : Nat) : Int)).toNat).map fun i : Nat => D.int ((i : Nat) : Int)).length ≤ lineD := by
    rw [List.length_map, List.length_range, r2]
    exact Nat.le_trans (by omega : _ ≤ 10 ^ 6) (Nat.le_of_lt million)
  refine lc_yes (fun i S' => S' = T5) (fun i d y => y = natD ((first + st * i) % 1000)) rfl hlm (fun _ _ _ => trivial) (fun i d hd S' hS R hR => ?_) (fun ys S4 hl4' hy' hS => ?_)
  · subst hS
    obtain rfl : d = natD i := by
      rw [List.getElem?_map] at hd
      cases hr : (List.range ((2 : Int) + ((mn : Nat) : Int)).toNat)[i]? with
      | none => rw [hr] at hd; cases hd
      | some k =>
        rw [hr] at hd
        cases hd
        have hk4 : k = i := by
          have := (List.getElem?_eq_some_iff.mp hr).2
          simpa using this.symm
        rw [hk4]; rfl
    have hi : i < 300 := by
      have := (List.getElem?_eq_some_iff.mp hd).1
      rw [List.length_map, List.length_range, r2] at this
      omega
    have hst' : st ≤ 999 := by
      have hb : ∀ n ∈ ([1, 3, 7, 9, 11, 501, 999, 333] : List Nat), n ≤ 999 := by decide
      exact hb _ hst
    simp only [wRet, wRetN, wIf, wSeq, wSkip, wBreak, wCont, wNever, wDrop, wAndV, wOrV, wNotV, wIfE, wTest, wAndT, wOrT, wNotT, wUn, wOp, wVar, wC, wCB, wNil, wCons, wTup, wLst, wCall, wCallX, wSl, wNoPart, wPart, wChain, wAsg, wSet, wAug, wPar, wFor, iLst, iTp, iRng, iEn, iEnT, iItm, iSt, gNm, gTp, gNone, gMore, g2, g3, wLc, wYes, wLm, wDGet, wDIn, wDGet2, wDPut, wDNew, wDisp, wPs, wSm0, wSm1, wRev, wMaxD, wRaise, wKeep, gSet, wFld, wSFld, wMeth, wMake, wNNin, wNPut, wLock, wDPop, wDClr, wRevP, wLZip]
    refine ⟨_, rfl, _, rfl, _, rfl, cmul (by omega) (by omega), (by decide : (0 : Int) < 1000), hR _ _ ?_ rfl⟩
    show D.int _ = natD _
    unfold natD
    congr 1
  · subst hS
    rw [List.length_map, List.length_range, r2] at hl4'
    rw [r2] at hy'
    have hl5 := hp5.lt
    obtain ⟨row, hrow⟩ : ∃ row : List Nat, row = (List.range (mn + 2)).map fun i => (first + st * i) % 1000 := ⟨_, rfl⟩
    have ey : ys = row.map natD := by
      refine List.ext_getElem? fun i => ?_
      by_cases hi : i < mn + 2
      · have h1 : ys[i]? = some ys[i] := List.getElem?_eq_getElem (by omega)
        have h2 : ((List.range (mn + 2)).map fun i : Nat => D.int ((i : Nat) : Int))[i]? = some (natD i) := by
          rw [List.getElem?_map, List.getElem?_range hi]; rfl
        rw [h1, hy' i _ _ h2 h1, hrow, List.getElem?_map, List.getElem?_map, List.getElem?_range hi]
        rfl
      · rw [List.getElem?_eq_none (by omega), List.getElem?_eq_none (by rw [hrow]; simp; omega)]
    rw [ey]
    refine q _ row _ ((hp5.sub Sub.push).up (by omega)) (hk05.trans (Kp.sub hl5.1 hl5.2 Sub.push)) (hide_last hl5.1 hl5.2) hk05.len ?_ ?_ ?_ ?_
    · rw [hrow]
      refine nodup_map_on List.nodup_range fun a ha b hb e => ?_
      have ha' := List.mem_range.mp ha
      have hb' := List.mem_range.mp hb
      simp only [List.mem_cons, List.not_mem_nil, or_false] at hst
      rcases hst with rfl | rfl | rfl | rfl | rfl | rfl | rfl | rfl <;> omega
    · rw [hrow]; simp
    · rw [hrow]; simp; omega
    · rw [hrow]
      intro b hb
      obtain ⟨i, _, rfl⟩ := List.mem_map.mp hb
      exact Nat.mod_lt _ (by decide)
end
end K15
set_option Elab.async false
set_option linter.all false
set_option maxRecDepth 100000
set_option maxHeartbeats 4000000
namespace K15
open PySem PySem.Spec PyProof.Rows L2 Qd
theorem seq_if_j {tt : WT} {w u : WS} {G : Go} {env : Slots} {S : Store} {X : XQ} (J : Slots → Store → Prop) (k : ∀ e S, J e S → u G e S X) (h : (∀ e S, J e S → u G e S X) → tt env S (fun c S1 => if c = true then w ⟨fun e s => u G e s X, G.rt, G.bk, G.ct⟩ env S1 X else u G env S1 X) X) : wSeq (wIf tt w wSkip) u G env S X := h k
theorem feq_int {i j : Int} {b : Bool} {S : Store} {Q : D → Store → Prop} (e : decide (i = j) = b) (q : Q (.bl b) S) : fEq false (.int i) (.int j) S Q := by
  subst e
  exact q
section
variable {P : Program} {w : World} {K : PySem.W.Frag} {mg : Str → Option Value} {base : Heap} {CC : Addr}
def flip2 (q : Tm × Tm) : Tm × Tm := (q.2, q.1)
structure Mix (ps qs : List (Tm × Tm)) : Prop where
  len : qs.length = ps.length
  of : ∀ q ∈ qs, q ∈ ps ∨ flip2 q ∈ ps
  has : ∀ p ∈ ps, p ∈ qs ∨ flip2 p ∈ qs
theorem flip_flip (q : Tm × Tm) : flip2 (flip2 q) = q := rfl
theorem Mix.trans {a b c : List (Tm × Tm)} (h : Mix a b) (g : Mix b c) : Mix a c := by
  refine ⟨g.len.trans h.len, fun q hq => ?_, fun p hp => ?_⟩
  · rcases g.of q hq with z | z
    · exact h.of q z
    · rcases h.of _ z with y | y
      · exact .inr y
      · exact .inl y
  · rcases h.has p hp with z | z
    · exact g.has p z
    · rcases g.has _ z with y | y
      · exact .inr y
      · exact .inl y
theorem rows_pick : ∀ {rs : List (Tm × Tm)} {ys : List D}, ys.length = rs.length → (∀ (i : Nat) (y : D), ys[i]? = some y → ∃ q, rs[i]? = some q ∧ (y = pairD q ∨ y = pairD (flip2 q))) → ∃ qs, ys = qs.map pairD ∧ Mix rs qs
  | [], [], _, _ => ⟨[], rfl, rfl, fun q h => (by cases h), fun q h => (by cases h)⟩
  | [], _ :: _, h, _ => by simp at h
  | _ :: _, [], h, _ => by simp at h
  | r :: rs, y :: ys, hl, h => by
    obtain ⟨qs, h1, h2⟩ := rows_pick (rs := rs) (ys := ys) (by simpa using hl) fun i z hz => h (i + 1) z hz
    obtain ⟨q, hq, hy⟩ := h 0 y rfl
    cases hq
    obtain ⟨q', e1, e2, e3⟩ : ∃ q', y = pairD q' ∧ (q' = r ∨ flip2 q' = r) ∧ (r = q' ∨ flip2 r = q') := by
      rcases hy with rfl | rfl
      · exact ⟨r, rfl, .inl rfl, .inl rfl⟩
      · exact ⟨flip2 r, rfl, .inr rfl, .inr rfl⟩
    refine ⟨q' :: qs, by rw [e1, h1]; rfl, by simp [h2.len], fun p hp => ?_, fun p hp => ?_⟩
    · rcases List.mem_cons.mp hp with z | z
      · subst z
        rcases e2 with z | z
        · exact .inl (by rw [z]; exact List.mem_cons_self)
        · exact .inr (by rw [z]; exact List.mem_cons_self)
      · rcases h2.of p z with y | y
        · exact .inl (List.mem_cons_of_mem _ y)
        · exact .inr (List.mem_cons_of_mem _ y)
    · rcases List.mem_cons.mp hp with z | z
      · subst z
        rcases e3 with z | z
        · exact .inl (by rw [← z]; exact List.mem_cons_self)
        · exact .inr (by rw [z]; exact List.mem_cons_self)
      · rcases h2.has p z with y | y
        · exact .inl (List.mem_cons_of_mem _ y)
        · exact .inr (List.mem_cons_of_mem _ y)
def cOrd : Qd.Con := fun ds S Q _ => ∃ (p o t a : Nat) (ps : List (Tm × Tm)), ds = [.loc p, .loc a] ∧ Pot S p o t ∧ t ≤ 10 ^ 8 ∧ (hide p o S)[a]? = some (.lst true (ps.map pairD)) ∧ ps.length ≤ 1000 ∧ ∀ n qs T, Pot T p o (t + 1010) → Kp p o S T → (hide p o T)[n]? = some (.lst true (qs.map pairD)) → S.length ≤ n → Mix ps qs → Q (.loc n) T
abbrev s__law_ordered : Stmt := topS 25
theorem sc__law_ordered : FnScope ["pot", "pairs", "way", "row", "pair", "mirrored", "k"] ["pot", "pairs"] (defScope s__law_ordered) := ⟨rfl, rfl, rfl, by decide +kernel, rfl, by decide +kernel, by decide +kernel⟩
theorem ok__law_ordered {f : Addr} {fd : FuncData} (F : Fun K "_law_ordered" "_law_ordered" s__law_ordered f fd) (hm : mg "_law_ordered" = some (.ref f)) (hb : Binds K fd ["pot", "pairs"] []) (B : Blt mg) (C__law_take : Fn P w K mg base 1 "_law_take" cTake []) : Fn P w K mg base 2 "_law_ordered" cOrd [] := by
  refine defQ F hm hb .nil sc__law_ordered (fun ds S Q X ⟨_, _, _, _, _, e, _⟩ => by rw [e]; rfl) fun cdv A outer s H hr => ?_
  have hu1 := hu_of hr; have hu64 := hr.units
  refine ⟨_, (qs_cons (q_set (i := 2) sc__law_ordered.nd rfl (.inl rfl) (q_c (dds := []) C__law_take hr (by first | decide | omega) (by rfl) (qa_cons (qv 0) (qa_cons q_int qa_nil))))
      (qs_cons (q_set (i := 3) sc__law_ordered.nd rfl (.inl rfl) (q_ix ix_seq ro_ix (q_lst (qa_cons (qv 1) (qa_cons (q_rev (qv 1)) (qa_cons (q_lst qa_nil) qa_nil)))) (qv 2)))
      (qs_cons (q_if (qt_cmp (op_eq2 hu64) ro_eq (qv 2) q_int (nomark _)) (qs_one (q_for (vs := [4]) PassesOwn.never rfl (qi_list (qv 1)) (qg_name (i := 4) sc__law_ordered.nd rfl (.inl rfl)) (qs_one (q_expr (q_lm PySem.F.slot_list_insert PySem.F.type_list_insert mt_insert ro_insert (qv 3) (qa_cons (q_c (dds := []) C__law_take hr (by first | decide | omega) (by rfl) (qa_cons (qv 0) (qa_cons (q_op op_add4 ro_add (q_cb call_len ro_len (by rfl) B.len (by decide +kernel) (qa_cons (qv 3) qa_nil)) q_int) qa_nil))) (qa_cons (qv 4) qa_nil))))))) qs_nil)
      (qs_cons (q_set (i := 5) sc__law_ordered.nd rfl (.inr rfl) (q_c (dds := []) C__law_take hr (by first | decide | omega) (by rfl) (qa_cons (qv 0) (qa_cons q_int qa_nil))))
      (qs_one (q_ret (q_lc (own := [("k", 6), ("pair", 4)]) rfl sc__law_ordered.nd (qi_enum (by rfl) B.enumerate (qv 3)) (blkOk_by (N := ["pot", "pairs", "way", "row", "pair", "mirrored", "k"]) (sc := defScope s__law_ordered) (by decide +kernel)) (fun _ _ _ _ _ => (qg_2 (i := 6) (j := 4) rfl sc__law_ordered.nd rfl (.inl rfl) rfl (.inl rfl))) (fun _ _ _ _ _ => qts_nil) (fun _ _ _ _ _ => (q_ix ix_seq ro_ix (q_lst (qa_cons (qv 4) (qa_cons (q_revP (qv 4)) qa_nil))) (q_ct call_int1 ro_int (by rfl) B.int (by decide +kernel) (qa_cons (q_cmp op_lt ro_cmp (q_op op_mod ro_mod (qv 6) q_int) (qv 5) (nomark _)) qa_nil))))))))))), fun ds S Q X h => ?_⟩
  obtain ⟨p, o, t, a, ps, rfl, hp, ht, ha, hl, q⟩ := h
  have ha' := hide_data ha (by intro e; cases e)
  have hl0 := hp.lt
  refine seq_set ⟨_, rfl, p, o, t, 3, rfl, by decide, by decide, hp, by omega, fun way T1 hw hp1 hk1 => ?_⟩
  have hl1 := hp1.lt
  have ha1 := hide_data (hk1 _ _ ha) (by intro e; cases e)
  have hk2 : Kp p o T1 (T1 ++ [Cell.lst true (ps.map pairD).reverse] ++ [Cell.lst true []] ++ [Cell.lst true [.loc a, .loc T1.length, .loc (T1.length + 1)]]) := Kp.sub hl1.1 hl1.2 (Sub.push.trans (Sub.push.trans Sub.push))
  refine seq_set ⟨_, rfl, _, rfl, true, _, ha1.1, (show 0 ≤ lineD by decide), (show 3 ≤ lineD by decide), _, rfl, ?_⟩
  obtain ⟨T2, hT2⟩ : ∃ T2, T2 = T1 ++ [Cell.lst true (ps.map pairD).reverse] ++ [Cell.lst true []] := ⟨_, rfl⟩
  rw [← hT2] at hk2 ⊢
  have len2 : T2.length = T1.length + 2 := by rw [hT2]; simp
  obtain ⟨T3, hT3⟩ : ∃ T3, T3 = T2 ++ [Cell.lst true [.loc a, .loc T1.length, .loc (T1.length + 1)]] := ⟨_, rfl⟩
  rw [← hT3] at hk2
  have hp3 : Pot T3 p o (t + 1) := by rw [hT3, hT2]; exact ((hp1.sub Sub.push).sub Sub.push).sub Sub.push
  have hk3 : Kp p o S T3 := hk1.trans hk2
  have s13 : Sub T1 T3 := by rw [hT3, hT2]; exact (Sub.push.trans Sub.push).trans Sub.push
  have s23 : Sub T2 T3 := by rw [hT3]; exact Sub.push
  have r1 : T2[T1.length]? = some (.lst true (ps.reverse.map pairD)) := by rw [hT2, List.map_reverse]; exact Sub.push _ _ last_get
  have r2 : T2[T1.length + 1]? = some (.lst true []) := by rw [hT2]; simp
  have lenS := hk1.len
  obtain ⟨r, rs0, hix, hr0, hne2, h2⟩ : ∃ (r : Nat) (rs0 : List (Tm × Tm)), atI [D.loc a, .loc T1.length, .loc (T1.length + 1)] ((way : Nat) : Int) = some (.loc r) ∧ T3[r]? = some (.lst true (rs0.map pairD)) ∧ (r ≠ p ∧ r ≠ o ∧ (way ≠ 2 → Mix ps rs0)) ∧ (way = 2 → rs0 = [] ∧ S.length ≤ r) := by
    match way, hw with
    | 0, _ => exact ⟨a, ps, atN (k := 0) rfl, s13 _ _ ha1.1, ⟨ha'.2.1, ha'.2.2, fun _ => ⟨rfl, fun q h => .inl h, fun q h => .inl h⟩⟩, by simp⟩
    | 1, _ => exact ⟨T1.length, ps.reverse, atN (k := 1) rfl, s23 _ _ r1, ⟨by omega, by omega, fun _ => ⟨by simp, fun q h => .inl (List.mem_reverse.mp h), fun q h => .inl (List.mem_reverse.mpr h)⟩⟩, by simp⟩
    | 2, _ => exact ⟨T1.length + 1, [], atN (k := 2) rfl, s23 _ _ r2, ⟨by omega, by omega, by simp⟩, fun _ => ⟨rfl, by omega⟩⟩
  have e23 : ([D.loc a, D.loc (List.length T1), D.loc (List.length (T1 ++ [Cell.lst true (List.map pairD ps).reverse]))] : List D) = [.loc a, .loc T1.length, .loc (T1.length + 1)] := by simp
  rw [e23, ← hT3]
  refine ⟨true, _, .loc r, by rw [hT3]; exact last_get, hix, ?_⟩
  refine seq_if_j (fun e S' => ∃ (x4 : Option D) (rs : List (Tm × Tm)), e = [some (.loc p), some (.loc a), some (.int ((way : Nat) : Int)), some (.loc r), x4, none, none] ∧ Pot S' p o (t + 1001) ∧ Kp p o S S' ∧ S'[r]? = some (.lst true (rs.map pairD)) ∧ Mix ps rs) (fun e S' h => ?_) fun tail => ?_
  · obtain ⟨x4, rs, rfl, hpS, hkS, hrS, hmx⟩ := h
    have hlS := hpS.lt
    have hr' : r < S'.length := (List.getElem?_eq_some_iff.mp hrS).1
    refine seq_set ⟨_, rfl, p, o, t + 1001, 4, rfl, by decide, by decide, hpS, by omega, fun mi T4 hmi hp4 hk4 => ?_⟩
    have hl4 := hp4.lt
    have hr4 : T4[r]? = some (.lst true (rs.map pairD)) := (hide_data (hk4 _ _ (by rw [hide_get hne2.1 hne2.2.1]; exact hrS)) (by intro e; cases e)).1
    refine ⟨_, rfl, true, _, hr4, ?_⟩
    refine lc_yes (fun i S' => Pot S' p o (t + 1002) ∧ Kp p o S S' ∧ S'[r]? = some (.lst true (rs.map pairD))) (fun i d y => ∃ q, rs[i]? = some q ∧ (y = pairD q ∨ y = pairD (flip2 q))) ⟨hp4, hkS.trans hk4, hr4⟩ ?_ (fun i S' h => ⟨true, h.2.2⟩) (fun i d hd S' ⟨hpS, hkS, hrS⟩ R hR => ?_) (fun ys S4 hl4 hy ⟨hp4, hk4, hr4⟩ => ?_)
    · rw [List.length_mapIdx, List.length_map, hmx.len]
      exact Nat.le_trans (by omega : _ ≤ 10 ^ 6) (Nat.le_of_lt million)
    · rw [List.getElem?_mapIdx, List.getElem?_map] at hd
      cases hq : rs[i]? with
      | none => rw [hq] at hd; cases hd
      | some q1 =>
        rw [hq] at hd
        cases hd
        obtain ⟨u, v⟩ := q1
        have hlS := hpS.lt
        simp only [wRet, wRetN, wIf, wSeq, wSkip, wBreak, wCont, wNever, wDrop, wAndV, wOrV, wNotV, wIfE, wTest, wAndT, wOrT, wNotT, wUn, wOp, wVar, wC, wCB, wNil, wCons, wTup, wLst, wCall, wCallX, wSl, wNoPart, wPart, wChain, wAsg, wSet, wAug, wPar, wFor, iLst, iTp, iRng, iEn, iEnT, iItm, iSt, gNm, gTp, gNone, gMore, g2, g3, wLc, wYes, wLm, wDGet, wDIn, wDGet2, wDPut, wDNew, wDisp, wPs, wSm0, wSm1, wRev, wMaxD, wRaise, wKeep, gSet, wFld, wSFld, wMeth, wMake, wNNin, wNPut, wLock, wDPop, wDClr, wRevP, wLZip]
        refine ⟨_, rfl, _, rfl, (show 2 ≤ lineD by decide), _, rfl, by decide, _, rfl, ?_⟩
        have lt5 : p < (S' ++ [Cell.lst true [pairD (u, v), D.tup [toD (u, v).snd, toD (u, v).fst]]]).length ∧ o < (S' ++ [Cell.lst true [pairD (u, v), D.tup [toD (u, v).snd, toD (u, v).fst]]]).length := by rw [List.length_append]; omega
        refine fcmp_int rfl ?_
        have fin : ∀ y, (y = pairD (u, v) ∨ y = pairD (flip2 (u, v))) → R y (S' ++ [Cell.lst true [pairD (u, v), D.tup [toD (u, v).snd, toD (u, v).fst]]]) := fun y hy => hR _ _ ⟨_, hq, hy⟩ ⟨hpS.sub Sub.push, hkS.trans (Kp.sub hlS.1 hlS.2 Sub.push), Sub.push _ _ hrS⟩
        cases decide (((i : Nat) : Int) % 4 < ((mi : Nat) : Int)) with
        | true => exact ⟨true, _, _, last_get, atN (k := 1) rfl, fin _ (.inr rfl)⟩
        | false => exact ⟨true, _, _, last_get, atN (k := 0) rfl, fin _ (.inl rfl)⟩
    · rw [List.length_mapIdx, List.length_map] at hl4
      have hlq := hp4.lt
      obtain ⟨qs, rfl, hmq⟩ := rows_pick hl4 fun i y hyi => by
        have hi : i < rs.length := by have := (List.getElem?_eq_some_iff.mp hyi).1; omega
        exact hy i (.tup [.int ((i : Nat) : Int), pairD rs[i]]) y (by rw [List.getElem?_mapIdx, List.getElem?_map, List.getElem?_eq_getElem hi]; rfl) hyi
      exact q _ qs _ ((hp4.sub Sub.push).up (by omega)) (hk4.trans (Kp.sub hlq.1 hlq.2 Sub.push)) (hide_last hlq.1 hlq.2) hk4.len (hmx.trans hmq)
  · refine ⟨_, rfl, ?_⟩
    dsimp only [wC]
    refine feq_int (b := decide (way = 2)) ?_ ?_
    · by_cases h : way = 2
      · subst h; rfl
      · rw [decide_eq_false h, decide_eq_false (by omega)]
    · by_cases h : way = 2
      · rw [decide_eq_true h]
        obtain ⟨rfl, hSr⟩ := h2 h
        subst h
        refine iteB (fun _ => ?_) fun h => by cases h
        refine ⟨_, rfl, true, _, s13 _ _ ha1.1, ?_⟩
        refine loop_by (fun i e S' => ∃ (x4 : Option D) (rs : List (Tm × Tm)), e = [some (.loc p), some (.loc a), some (.int ((2 : Nat) : Int)), some (.loc r), x4, none, none] ∧ Pot S' p o (t + 1 + i) ∧ Kp p o S S' ∧ S'[r]? = some (.lst true (rs.map pairD)) ∧ rs.length = i ∧ (∀ q ∈ rs, q ∈ ps) ∧ ∀ q ∈ ps.take i, q ∈ rs)
          ⟨_, [], rfl, hp3, hk3, hr0, rfl, by simp, by simp⟩ (fun i e S' ⟨_, _, _, _, hk, _⟩ => ⟨true, (hide_data (hk _ _ ha) (by intro e; cases e)).1⟩) (fun i d hd e S' h R hR => ?_) (fun e S' h => ?_)
        · obtain ⟨x4, rs, rfl, hpS, hkS, hrS, hln, ho, hh⟩ := h
          rw [List.getElem?_map] at hd
          cases hq : ps[i]? with
          | none => rw [hq] at hd; cases hd
          | some q1 =>
            rw [hq] at hd
            cases hd
            have hi := (List.getElem?_eq_some_iff.mp hq).1
            simp only [wRet, wRetN, wIf, wSeq, wSkip, wBreak, wCont, wNever, wDrop, wAndV, wOrV, wNotV, wIfE, wTest, wAndT, wOrT, wNotT, wUn, wOp, wVar, wC, wCB, wNil, wCons, wTup, wLst, wCall, wCallX, wSl, wNoPart, wPart, wChain, wAsg, wSet, wAug, wPar, wFor, iLst, iTp, iRng, iEn, iEnT, iItm, iSt, gNm, gTp, gNone, gMore, g2, g3, wLc, wYes, wLm, wDGet, wDIn, wDGet2, wDPut, wDNew, wDisp, wPs, wSm0, wSm1, wRev, wMaxD, wRaise, wKeep, gSet, wFld, wSFld, wMeth, wMake, wNNin, wNPut, wLock, wDPop, wDClr, wRevP, wLZip]
            refine ⟨_, rfl, ⟨true, _, hrS⟩, _, rfl, _, rfl, true, _, hrS, p, o, t + 1 + i, rs.length + 1, by simp, by omega, by omega, hpS, by omega, fun ix T4 hix hp4 hk4 => ?_⟩
            have hr4 : T4[r]? = some (.lst true (rs.map pairD)) := (hide_data (hk4 _ _ (by rw [hide_get hne2.1 hne2.2.1]; exact hrS)) (by intro e; cases e)).1
            refine ⟨_, rfl, rs.map pairD, hr4, ?_, by omega, by omega, ?_⟩
            · rw [List.length_map]; exact Nat.lt_of_le_of_lt (by omega : _ ≤ 10 ^ 6) million
            refine hR _ _ ⟨_, rs.take ix ++ [q1] ++ rs.drop ix, rfl, hp4.setN hne2.1 hne2.2.1, Kp_set (hkS.trans hk4) hSr hne2.1 hne2.2.1, ?_, ?_, ?_, ?_⟩
            · rw [List.getElem?_set_self (List.getElem?_eq_some_iff.mp hr4).1]
              simp
            · simp; omega
            · intro q hq'
              rw [List.append_assoc] at hq'
              rcases List.mem_append.mp hq' with z | z
              · exact ho q (List.mem_of_mem_take z)
              · rcases List.mem_cons.mp z with z | z
                · rw [z]; exact List.mem_of_getElem? hq
                · exact ho q (List.mem_of_mem_drop z)
            · intro q hq'
              rw [List.take_add_one, hq] at hq'
              rcases List.mem_append.mp hq' with z | z
              · have := hh q z
                rw [← List.take_append_drop ix rs] at this
                rcases List.mem_append.mp this with y | y
                · simp [y]
                · simp [y]
              · have := List.mem_singleton.mp z
                rw [this]; simp
        · obtain ⟨x4, rs, rfl, hpS, hkS, hrS, hln, ho, hh⟩ := h
          rw [List.length_map] at hln hpS hh
          rw [List.take_length] at hh
          exact tail _ _ ⟨x4, rs, rfl, hpS.up (by omega), hkS, hrS, hln, fun q h => .inl (ho q h), fun q h => .inl (hh q h)⟩
      · rw [decide_eq_false h]
        refine iteB (fun h => by cases h) fun _ => ?_
        exact tail _ _ ⟨none, rs0, rfl, hp3.up (by omega), hk3, hr0, hne2.2.2 h⟩
end
end K15
set_option Elab.async false
set_option linter.all false
set_option maxRecDepth 100000
set_option maxHeartbeats 4000000
namespace Qd
open PySem PySem.Spec PyProof.Rows L2
def iRg3 (a : WA) : WI := fun env S R X => a env S (fun ds S1 => match ds with
  | [.int i, .int j, .int c] => ∃ n, RgC i j c n ∧ R ((List.range n).map fun m : Nat => .int (i + (m : Int) * c)) (fun _ => True) S1
  | _ => False) X
section
variable {X : Cx} {E : XK} {tg a b c : Expr} {wa wb wc : WE} {pos : Pos}
theorem qi_range3 {p2 : Pos} (hg : Gl X "range") (hm : X.mg "range" = none) (ha : QE X E a wa) (hb : QE X E b wb) (hc : QE X E c wc) (hs : starEach [a, b, c] X.env = (false, eval a X.env) :: starEach [b, c] X.env := by rfl) (hs2 : starEach [b, c] X.env = (false, eval b X.env) :: starEach [c] X.env := by rfl) (hs3 : starEach [c] X.env = (false, eval c X.env) :: starEach [] X.env := by rfl) (hpl : (backTo pos (starEach [b, c] X.env)).any (·.1) = false := by rfl) :
    QI X E tg (.Call (.Name "range" p2) [a, b, c] [] pos) (iRg3 (wCons wa (wCons wb (wCons wc wNil)))) := (pi_range3 hg hm (qa_cons ha (qa_cons hb (qa_cons hc qa_nil hs3) hs2) hs) hs hpl).imp fun σ H R ⟨φ, env, S, R', X', rs, re, q, k, x⟩ =>
  ⟨φ, env, S, _, X', rs, re, q, fun ds S1 φ1 vs H1 e1 rs1 rv1 q1 => by
    split at q1
    · rename_i i j c
      obtain ⟨n, hn, q2⟩ := q1
      obtain ⟨v1, r1, rfl, g1, h1⟩ := rv1
      obtain ⟨v2, v3, rfl, g2, g3⟩ := RVs.two h1
      cases g1
      cases g2
      cases g3
      refine ⟨i, j, c, n, rfl, hn, k _ _ S1 φ1 H1 _ e1 rs1 (fun φ2 S2 H2 m e3 rs2 st => ⟨fun hl => ?_, fun d hd => ?_⟩) q2⟩
      · show n ≤ m
        simpa using hl
      · rw [List.getElem?_map] at hd
        cases hr : (List.range n)[m]? with
        | none => rw [hr] at hd; cases hd
        | some m' =>
          rw [hr] at hd
          cases hd
          obtain ⟨h1, h2⟩ := List.getElem?_eq_some_iff.mp hr
          simp at h1 h2
          subst h2
          exact ⟨show m < n by omega, fun x H' ⟨e4, e5⟩ => by
            subst e4 e5
            exact ⟨rs2.ext, rs2, by simp [RV]⟩⟩
    · exact q1.elim, x⟩
end
end Qd
set_option Elab.async false
set_option linter.all false
set_option maxRecDepth 100000
set_option maxHeartbeats 4000000
namespace K15
open PySem PySem.Spec PyProof.Rows L2 Qd
open P15 (Flat From Inv Cov Reach Named Clash Con)
/-! ### the tree, plain -/
section
variable {α β : Type}
def chunks (s : Nat) : Nat → List α → List (List α)
  | 0, _ => []
  | m + 1, ts => ts.take s :: chunks s m (ts.drop s)
theorem chunks_len (s : Nat) : ∀ (m : Nat) (ts : List α), (chunks s m ts).length = m
  | 0, _ => rfl
  | m + 1, ts => by rw [chunks, List.length_cons, chunks_len s m]
theorem chunks_map (f : α → β) (s : Nat) : ∀ (m : Nat) (ts : List α), chunks s m (ts.map f) = (chunks s m ts).map (List.map f)
  | 0, _ => rfl
  | m + 1, ts => by rw [chunks, chunks, List.map_cons, ← chunks_map f s m, List.map_take, List.map_drop]
theorem chunks_at (s : Nat) : ∀ (m : Nat) (ts : List α) (i : Nat), i < m → (chunks s m ts)[i]? = some ((ts.drop (i * s)).take s)
  | 0, _, i, h => by omega
  | m + 1, ts, 0, h => by simp [chunks]
  | m + 1, ts, i + 1, h => by
    rw [chunks, List.getElem?_cons_succ, chunks_at s m _ i (by omega), List.drop_drop]
    rw [show s + i * s = (i + 1) * s by rw [Nat.add_mul, Nat.one_mul, Nat.add_comm]]
theorem chunks_mem {s m : Nat} {ts : List α} (h : (m - 1) * s < ts.length) (hs : 0 < s) {c : List α} (hc : c ∈ chunks s m ts) : 1 ≤ c.length ∧ c.length ≤ s ∧ ∀ t ∈ c, t ∈ ts := by
  obtain ⟨i, hi⟩ := List.mem_iff_getElem?.mp hc
  have him : i < m := by have := (List.getElem?_eq_some_iff.mp hi).1; rw [chunks_len] at this; exact this
  rw [chunks_at s m ts i him] at hi
  cases hi
  have h1 : i * s ≤ (m - 1) * s := Nat.mul_le_mul_right s (by omega)
  refine ⟨?_, ?_, fun t ht => List.mem_of_mem_drop (List.mem_of_mem_take ht)⟩
  · rw [List.length_take, List.length_drop]; omega
  · rw [List.length_take]; omega
theorem mem_chunks {s : Nat} : ∀ {m : Nat} {ts : List α} {t : α}, ts.length ≤ m * s → t ∈ ts → ∃ c ∈ chunks s m ts, t ∈ c
  | 0, ts, t, h, ht => by
    have : ts = [] := List.length_eq_zero_iff.mp (by omega)
    subst this
    cases ht
  | m + 1, ts, t, h, ht => by
    rw [← List.take_append_drop s ts] at ht
    rcases List.mem_append.mp ht with z | z
    · exact ⟨_, List.mem_cons_self, z⟩
    · obtain ⟨c, h1, h2⟩ := mem_chunks (s := s) (m := m) (ts := ts.drop s) (by rw [List.length_drop]; rw [Nat.add_mul] at h; omega) z
      exact ⟨c, List.mem_cons_of_mem _ h1, h2⟩
theorem sum_chunks (s : Nat) : ∀ (m : Nat) (ts : List α), ((chunks s m ts).map List.length).sum ≤ ts.length
  | 0, _ => by simp [chunks]
  | m + 1, ts => by
    rw [chunks, List.map_cons, List.sum_cons]
    have := sum_chunks s m (ts.drop s)
    rw [List.length_drop] at this
    rw [List.length_take]
    omega
end
def ceil (n s : Nat) : Nat := (n + s - 1) / s
theorem ceil_ge {n s : Nat} (hs : 0 < s) : n ≤ ceil n s * s := by
  unfold ceil
  have := Nat.div_add_mod (n + s - 1) s
  have h2 := Nat.mod_lt (n + s - 1) hs
  rw [Nat.mul_comm] at this
  omega
theorem ceil_lt {n s : Nat} (hs : 0 < s) (hn : 1 ≤ n) : (ceil n s - 1) * s < n := by
  unfold ceil
  have := Nat.div_mul_le_self (n + s - 1) s
  rw [Nat.sub_mul, Nat.one_mul]
  omega
def fewF (x : Str) : List Tm → Tm
  | [t] => t
  | ts => .nd x ts
def treeF (x : Str) : Nat → List Tm → Tm
  | 0, ts => fewF x ts
  | r + 1, ts => if ts.length < 10 then fewF x ts else .nd x ((chunks (ceil ts.length 9) (ceil ts.length (ceil ts.length 9)) ts).map (treeF x r))
theorem tree_one (x : Str) (r : Nat) (t : Tm) : treeF x r [t] = t := by
  cases r with
  | zero => rfl
  | succ r => rw [treeF, if_pos (by simp)]; rfl
theorem tree_few (x : Str) {ts : List Tm} (r : Nat) (h : ts.length < 10) (h1 : ts.length ≠ 1) : treeF x r ts = .nd x ts := by
  have e0 : fewF x ts = .nd x ts := by
    match ts, h1 with
    | [], _ => rfl
    | [t], h => simp at h
    | a :: b :: l, _ => rfl
  cases r with
  | zero => exact e0
  | succ r => rw [treeF, if_pos h, e0]
/-- by shape: what holds of the leaves and goes up holds of the tree -/
theorem tree_ind {α : Type} (x : Str) (f : α → Tm) (C : Nat → List α → Tm → Prop) (one : ∀ r a, C r [a] (f a)) (few : ∀ r as, as.length < 10 → as.length ≠ 1 → as.length ≠ 0 → C r as (.nd x (as.map f)))
    (up : ∀ r as s m, 10 ≤ as.length → s = ceil as.length 9 → m = ceil as.length s → (∀ c ∈ chunks s m as, C r c (treeF x r (c.map f))) → C (r + 1) as (.nd x ((chunks s m as).map fun c => treeF x r (c.map f)))) :
    ∀ r as, 1 ≤ as.length → as.length ≤ 9 ^ (r + 1) → C r as (treeF x r (as.map f)) := by
  intro r
  induction r with
  | zero =>
    intro as h1 h2
    by_cases e : as.length = 1
    · match as, e with
      | [a], _ => rw [List.map_cons, List.map_nil, tree_one]; exact one 0 a
    · rw [tree_few x 0 (by rw [List.length_map]; omega) (by rw [List.length_map]; exact e)]
      exact few 0 as (by omega) e (by omega)
  | succ r ih =>
    intro as h1 h2
    by_cases e : as.length = 1
    · match as, e with
      | [a], _ => rw [List.map_cons, List.map_nil, tree_one]; exact one _ a
    · by_cases h10 : as.length < 10
      · rw [tree_few x _ (by rw [List.length_map]; omega) (by rw [List.length_map]; exact e)]
        exact few _ as (by omega) e (by omega)
      · have hs : 0 < ceil as.length 9 := by unfold ceil; omega
        have := up r as _ _ (by omega) rfl rfl fun c hc => by
          obtain ⟨c1, c2, c3⟩ := chunks_mem (ceil_lt hs h1) hs hc
          refine ih c c1 (Nat.le_trans c2 ?_)
          have h3 : as.length ≤ 9 * 9 ^ (r + 1) := by rw [Nat.mul_comm, ← Nat.pow_succ]; exact h2
          unfold ceil
          omega
        rw [treeF, List.length_map, if_neg h10, chunks_map, List.map_map]
        exact this
theorem chunk_facts {α : Type} {as : List α} {s m : Nat} (h10 : 10 ≤ as.length) (hs : s = ceil as.length 9) (hm : m = ceil as.length s) : 0 < s ∧ (∀ c ∈ chunks s m as, ∀ t ∈ c, t ∈ as) ∧ (∀ t ∈ as, ∃ c ∈ chunks s m as, t ∈ c) := by
  have h0 : 0 < s := by rw [hs]; unfold ceil; omega
  refine ⟨h0, fun c hc => ?_, fun t ht => mem_chunks (by rw [hm]; exact ceil_ge h0) ht⟩
  rw [hm] at hc
  exact (chunks_mem (ceil_lt h0 (by omega)) h0 hc).2.2
theorem tree_occ (x : Str) (b : Nat) (r : Nat) (ts : List Tm) (h1 : 1 ≤ ts.length) (h2 : ts.length ≤ 9 ^ (r + 1)) : Occ b (treeF x r ts) ↔ ∃ t ∈ ts, Occ b t := by
  have := tree_ind x (fun t : Tm => t) (fun r as t => Occ b t ↔ ∃ a ∈ as, Occ b a) (fun r a => by simp) (fun r as h _ _ => ?_) (fun r as s m h10 hs hm ih => ?_) r ts h1 h2
  · rw [List.map_id'] at this; exact this
  · rw [List.map_id']
    constructor
    · intro h; cases h with | sub h1 h2 => exact ⟨_, h1, h2⟩
    · rintro ⟨a, h1, h2⟩; exact .sub h1 h2
  · obtain ⟨h0, f1, f2⟩ := chunk_facts h10 hs hm
    constructor
    · intro h
      cases h with
      | sub h1 h2 =>
        obtain ⟨c, hc, rfl⟩ := List.mem_map.mp h1
        obtain ⟨a, ha, hb⟩ := (ih c hc).mp h2
        exact ⟨a, f1 c hc a ha, hb⟩
    · rintro ⟨a, ha, hb⟩
      obtain ⟨c, hc, hac⟩ := f2 a ha
      exact .sub (List.mem_map.mpr ⟨c, hc, rfl⟩) ((ih c hc).mpr ⟨a, hac, hb⟩)
end K15
set_option Elab.async false
set_option linter.all false
set_option maxRecDepth 100000
set_option maxHeartbeats 4000000
namespace K15
open PySem PySem.Spec PyProof.Rows L2 Qd
open P15 (Flat From Inv Cov Reach Named Clash Con)
theorem tree_more {α : Type} (x : Str) (f : α → Tm) (r : Nat) {as : List α} {s m : Nat} (h : 10 ≤ as.length) (hs : s = ceil as.length 9) (hm : m = ceil as.length s) : treeF x (r + 1) (as.map f) = .nd x ((chunks s m as).map fun c => treeF x r (c.map f)) := by
  rw [treeF, List.length_map, if_neg (by omega), chunks_map, List.map_map, hm, hs]
  rfl
theorem zip_maps {α β γ : Type} (f : α → β) (g : α → γ) : ∀ l : List α, (l.map f).zip (l.map g) = l.map fun a => (f a, g a)
  | [] => rfl
  | a :: l => by rw [List.map_cons, List.map_cons, List.zip_cons_cons, zip_maps f g l]; rfl
section
variable {α : Type} (x : Str) (f g : α → Tm)
theorem tree_from {Ps : List (Tm × Tm)} (r : Nat) (as : List α) (h1 : 1 ≤ as.length) (h2 : as.length ≤ 9 ^ (r + 1)) : (∀ a ∈ as, From Ps (f a, g a)) → From Ps (treeF x r (as.map f), treeF x r (as.map g)) :=
  tree_ind x f (fun r as t => (∀ a ∈ as, From Ps (f a, g a)) → From Ps (t, treeF x r (as.map g)))
    (fun r a h => by rw [List.map_cons, List.map_nil, tree_one]; exact h a List.mem_cons_self)
    (fun r as hl h1 h0 h => by
      rw [tree_few x r (by rw [List.length_map]; exact hl) (by rw [List.length_map]; exact h1)]
      refine .node (by simp) fun p hp => ?_
      rw [zip_maps] at hp
      obtain ⟨a, ha, rfl⟩ := List.mem_map.mp hp
      exact h a ha)
    (fun r as s m h10 hs hm ih h => by
      obtain ⟨h0, f1, f2⟩ := chunk_facts h10 hs hm
      rw [tree_more x g r h10 hs hm]
      refine .node (by simp) fun p hp => ?_
      rw [zip_maps] at hp
      obtain ⟨c, hc, rfl⟩ := List.mem_map.mp hp
      exact ih c hc fun a ha => h a (f1 c hc a ha)) r as h1 h2
theorem tree_reach {R : Tm × Tm} (r : Nat) (as : List α) (h1 : 1 ≤ as.length) (h2 : as.length ≤ 9 ^ (r + 1)) : Reach R (treeF x r (as.map f), treeF x r (as.map g)) → ∀ a ∈ as, Reach R (f a, g a) :=
  tree_ind x f (fun r as t => Reach R (t, treeF x r (as.map g)) → ∀ a ∈ as, Reach R (f a, g a))
    (fun r a h b hb => by rw [List.map_cons, List.map_nil, tree_one] at h; rw [List.mem_singleton.mp hb]; exact h)
    (fun r as hl h1 h0 h a ha => by
      rw [tree_few x r (by rw [List.length_map]; exact hl) (by rw [List.length_map]; exact h1)] at h
      exact .child h (by rw [zip_maps]; exact List.mem_map.mpr ⟨a, ha, rfl⟩))
    (fun r as s m h10 hs hm ih h a ha => by
      obtain ⟨h0, f1, f2⟩ := chunk_facts h10 hs hm
      rw [tree_more x g r h10 hs hm] at h
      obtain ⟨c, hc, hac⟩ := f2 a ha
      exact ih c hc (.child h (by rw [zip_maps]; exact List.mem_map.mpr ⟨c, hc, rfl⟩)) a hac) r as h1 h2
theorem ceil_nine {n s : Nat} (h : 1 ≤ n) (hs : s = ceil n 9) : ceil n s ≤ 9 := by
  have h1 : n ≤ s * 9 := by rw [hs]; have := @ceil_ge n 9 (by decide); omega
  have h0 : 0 < s := by rw [hs]; unfold ceil; omega
  unfold ceil
  have : (n + s - 1) / s < 10 := (Nat.div_lt_iff_lt_mul h0).mpr (by omega)
  omega
theorem tree_ok (hx : NameS x) (r : Nat) (as : List α) (h1 : 1 ≤ as.length) (h2 : as.length ≤ 9 ^ (r + 1)) : (∀ a ∈ as, OkT (f a)) → OkT (treeF x r (as.map f)) :=
  tree_ind x f (fun r as t => (∀ a ∈ as, OkT (f a)) → OkT t)
    (fun r a h => h a List.mem_cons_self)
    (fun r as hl h1 h0 h => .nd hx (by rw [List.length_map]; omega) fun t ht => by
      obtain ⟨a, ha, rfl⟩ := List.mem_map.mp ht
      exact h a ha)
    (fun r as s m h10 hs hm ih h => by
      obtain ⟨h0, f1, f2⟩ := chunk_facts h10 hs hm
      refine .nd hx (by rw [List.length_map, chunks_len, hm]; have := ceil_nine (n := as.length) (by omega) hs; omega) fun t ht => ?_
      obtain ⟨c, hc, rfl⟩ := List.mem_map.mp ht
      exact ih c hc fun a ha => h a (f1 c hc a ha)) r as h1 h2
theorem deps_le {k : Nat} : ∀ {ts : List Tm}, (∀ t ∈ ts, dep t ≤ k) → deps ts ≤ k
  | [], _ => Nat.zero_le _
  | t :: ts, h => by
    rw [deps]
    have h1 := h t List.mem_cons_self
    have h2 := deps_le (ts := ts) fun u hu => h u (List.mem_cons_of_mem _ hu)
    omega
theorem tree_dep (r : Nat) (as : List α) (h1 : 1 ≤ as.length) (h2 : as.length ≤ 9 ^ (r + 1)) : (∀ a ∈ as, dep (f a) ≤ 1) → dep (treeF x r (as.map f)) ≤ r + 2 :=
  tree_ind x f (fun r as t => (∀ a ∈ as, dep (f a) ≤ 1) → dep t ≤ r + 2)
    (fun r a h => by have := h a List.mem_cons_self; omega)
    (fun r as hl h1 h0 h => by
      rw [dep]
      have : deps (as.map f) ≤ 1 := deps_le fun t ht => by
        obtain ⟨a, ha, rfl⟩ := List.mem_map.mp ht
        exact h a ha
      omega)
    (fun r as s m h10 hs hm ih h => by
      obtain ⟨h0, f1, f2⟩ := chunk_facts h10 hs hm
      rw [dep]
      have : deps ((chunks s m as).map fun c => treeF x r (c.map f)) ≤ r + 2 := deps_le fun t ht => by
        obtain ⟨c, hc, rfl⟩ := List.mem_map.mp ht
        exact ih c hc fun a ha => h a (f1 c hc a ha)
      omega) r as h1 h2
theorem sizs_by {β : Type} (F : β → Tm) (n : β → Nat) (k : Nat) : ∀ {l : List β}, (∀ b ∈ l, siz (F b) ≤ k * n b) → sizs (l.map F) ≤ k * (l.map n).sum
  | [], _ => by simp [sizs]
  | b :: l, h => by
    rw [List.map_cons, List.map_cons, sizs, List.sum_cons, Nat.mul_add]
    have h1 := h b List.mem_cons_self
    have h2 := sizs_by F n k (l := l) fun u hu => h u (List.mem_cons_of_mem _ hu)
    omega
theorem wts_by {β : Type} (F G : β → Tm) (n : β → Nat) (k : Nat) : ∀ {l : List β}, (∀ b ∈ l, wt (F b) (G b) ≤ k * n b) → wts (l.map F) (l.map G) ≤ k * (l.map n).sum
  | [], _ => by simp [wts]
  | b :: l, h => by
    rw [List.map_cons, List.map_cons, List.map_cons, wts, List.sum_cons, Nat.mul_add]
    have h1 := h b List.mem_cons_self
    have h2 := wts_by F G n k (l := l) fun u hu => h u (List.mem_cons_of_mem _ hu)
    omega
theorem sum_ones {β : Type} : ∀ l : List β, (l.map fun _ => 1).sum = l.length
  | [] => rfl
  | b :: l => by rw [List.map_cons, List.sum_cons, sum_ones l, List.length_cons]; omega
theorem tree_siz (r : Nat) (as : List α) (h1 : 1 ≤ as.length) (h2 : as.length ≤ 9 ^ (r + 1)) : (∀ a ∈ as, siz (f a) ≤ 1) → siz (treeF x r (as.map f)) ≤ (r + 2) * as.length :=
  tree_ind x f (fun r as t => (∀ a ∈ as, siz (f a) ≤ 1) → siz t ≤ (r + 2) * as.length)
    (fun r a h => by have := h a List.mem_cons_self; simp; omega)
    (fun r as hl h1 h0 h => by
      rw [siz]
      have := sizs_by f (fun _ => 1) 1 (l := as) fun b hb => by have := h b hb; omega
      rw [sum_ones] at this
      have h3 : 2 * as.length ≤ (r + 2) * as.length := Nat.mul_le_mul_right _ (by omega)
      omega)
    (fun r as s m h10 hs hm ih h => by
      obtain ⟨h0, f1, f2⟩ := chunk_facts h10 hs hm
      rw [siz]
      have h3 := sizs_by (fun c => treeF x r (c.map f)) List.length (r + 2) (l := chunks s m as) fun c hc => ih c hc fun a ha => h a (f1 c hc a ha)
      have h4 := Nat.mul_le_mul_left (r + 2) (sum_chunks s m as)
      rw [show r + 1 + 2 = (r + 2) + 1 by omega, Nat.add_mul]
      omega) r as h1 h2
theorem tree_wt (r : Nat) (as : List α) (h1 : 1 ≤ as.length) (h2 : as.length ≤ 9 ^ (r + 1)) : (∀ a ∈ as, wt (f a) (g a) ≤ 3) → wt (treeF x r (as.map f)) (treeF x r (as.map g)) ≤ (r + 4) * as.length :=
  tree_ind x f (fun r as t => (∀ a ∈ as, wt (f a) (g a) ≤ 3) → wt t (treeF x r (as.map g)) ≤ (r + 4) * as.length)
    (fun r a h => by have := h a List.mem_cons_self; rw [List.map_cons, List.map_nil, tree_one]; simp; omega)
    (fun r as hl h1 h0 h => by
      rw [tree_few x r (by rw [List.length_map]; exact hl) (by rw [List.length_map]; exact h1), wt]
      have := wts_by f g (fun _ => 1) 3 (l := as) fun b hb => by have := h b hb; omega
      rw [sum_ones] at this
      have h3 : 4 * as.length ≤ (r + 4) * as.length := Nat.mul_le_mul_right _ (by omega)
      omega)
    (fun r as s m h10 hs hm ih h => by
      obtain ⟨h0, f1, f2⟩ := chunk_facts h10 hs hm
      rw [tree_more x g r h10 hs hm, wt]
      have h3 := wts_by (fun c => treeF x r (c.map f)) (fun c => treeF x r (c.map g)) List.length (r + 4) (l := chunks s m as) fun c hc => ih c hc fun a ha => h a (f1 c hc a ha)
      have h4 := Nat.mul_le_mul_left (r + 4) (sum_chunks s m as)
      rw [show r + 1 + 4 = (r + 4) + 1 by omega, Nat.add_mul]
      omega) r as h1 h2
end
end K15
set_option Elab.async false
set_option linter.all false
set_option maxRecDepth 100000
set_option maxHeartbeats 4000000
namespace K15
open PySem PySem.Spec PyProof.Rows L2 Qd
section
variable {P : Program} {w : World} {K : PySem.W.Frag} {mg : Str → Option Value} {base : Heap} {CC : Addr}
def cTree (r : Nat) : Qd.Con := fun ds S Q _ => ∃ (x : Str) (a : Nat) (ts : List Tm), ds = [.str x, .loc a] ∧ S[a]? = some (.lst true (ts.map toD)) ∧ 1 ≤ ts.length ∧ ts.length ≤ 9 ^ (r + 1) ∧ ts.length ≤ 1000 ∧ ∀ T, Sub S T → Q (toD (treeF x r ts)) T
theorem small_range {n s : Nat} (hn : n ≤ 10 ^ 6) (hs : 0 < s) (hs2 : s ≤ 10 ^ 6) : RgC 0 ((n : Nat) : Int) ((s : Nat) : Int) (ceil n s) := by
  have e := PyProof.Rows.rangeSize_pos (len := ((n : Nat) : Int)) (c := ((s : Nat) : Int)) (by omega) (by omega)
  have e2 : ((n : Nat) : Int) + ((s : Nat) : Int) - 1 = ((n + s - 1 : Nat) : Int) := by omega
  rw [e2, ← Int.natCast_ediv] at e
  have hc : (n + s - 1) / s ≤ n + s := Nat.le_trans (Nat.div_le_self _ _) (by omega)
  refine ⟨by omega, by omega, ?_, e⟩
  obtain ⟨q, hq⟩ : ∃ q, q = (n + s - 1) / s := ⟨_, rfl⟩
  rw [← hq] at e hc
  unfold Builtin.Range.small
  rw [e]
  have hp : ((s : Nat) : Int) > 0 := by omega
  simp only [Builtin.Range.rangeFitsLong, Bool.and_eq_true, Bool.or_eq_true, decide_eq_true_eq, beq_iff_eq, hp, if_true]
  omega
theorem neg_div9 (n : Nat) : -(-((n : Nat) : Int) / 9) = ((ceil n 9 : Nat) : Int) := by
  unfold ceil
  omega
theorem cut_mid {xs : List D} {i s : Nat} (h : i * s < xs.length) : Qd.cutD xs (some (0 + ((i : Nat) : Int) * ((s : Nat) : Int))) (some (0 + ((i : Nat) : Int) * ((s : Nat) : Int) + ((s : Nat) : Int))) = (xs.drop (i * s)).take s := by
  unfold Qd.cutD
  have e1 : 0 + ((i : Nat) : Int) * ((s : Nat) : Int) = ((i * s : Nat) : Int) := by simp
  have e2 : ((i * s : Nat) : Int) + ((s : Nat) : Int) = ((i * s + s : Nat) : Int) := by simp
  rw [e1, e2, HT.sIx_nat, HT.sIx_nat, Nat.min_eq_left (Nat.le_of_lt h)]
  by_cases q : i * s + s ≤ xs.length
  · rw [Nat.min_eq_left q, Nat.add_sub_cancel_left]
  · rw [Nat.min_eq_right (by omega), List.take_of_length_le (by rw [List.length_drop]; omega), List.take_of_length_le (by rw [List.length_drop]; omega)]
abbrev s__law_tree : Stmt := topS 26
theorem sc__law_tree : FnScope ["name", "row", "size", "k"] ["name", "row"] (defScope s__law_tree) := ⟨rfl, rfl, rfl, by decide +kernel, rfl, by decide +kernel, by decide +kernel⟩
theorem ok__law_tree {f : Addr} {fd : FuncData} (F : Fun K "_law_tree" "_law_tree" s__law_tree f fd) (hm : mg "_law_tree" = some (.ref f)) (hb : Binds K fd ["name", "row"] []) (B : Blt mg) : ∀ r, Fn P w K mg base (r + 1) "_law_tree" (cTree r) [] := by
  have main : ∀ r, (∃ c, Fn P w K mg base r "_law_tree" c [] ∧ ∀ r', r = r' + 1 → c = cTree r') → Fn P w K mg base (r + 1) "_law_tree" (cTree r) [] := by
    intro r ⟨c, C__law_tree, hc⟩
    refine defQ F hm hb .nil sc__law_tree (fun ds S Q X ⟨_, _, _, e, _⟩ => by rw [e]; rfl) fun cdv A outer s H hr => ?_
    have hu1 := hu_of hr; have hu64 := hr.units
    refine ⟨_, (qs_cons (q_if (qt_cmp (op_eq2 hu64) ro_eq (q_cb call_len ro_len (by rfl) B.len (by decide +kernel) (qa_cons (qv 1) qa_nil)) q_int (nomark _)) (qs_one (q_ret (q_ix ix_seq ro_ix (qv 1) q_int))) qs_nil)
      (qs_cons (q_if (qt_cmp op_lt ro_cmp (q_cb call_len ro_len (by rfl) B.len (by decide +kernel) (qa_cons (qv 1) qa_nil)) q_int (nomark _)) (qs_one (q_ret (q_ct call_tuple_of ro_tuple (by rfl) B.tuple (by decide +kernel) (qa_cons (q_op op_add4 ro_add (q_lst (qa_cons (qv 0) qa_nil)) (qv 1)) qa_nil)))) qs_nil)
      (qs_cons (q_set (i := 2) sc__law_tree.nd rfl (.inr rfl) (q_un un_neg ro_neg (q_op op_fdivW ro_div (q_un un_neg ro_neg (q_cb call_len ro_len (by rfl) B.len (by decide +kernel) (qa_cons (qv 1) qa_nil))) q_int)))
      (qs_one (q_ret (q_ct call_tuple_of ro_tuple (by rfl) B.tuple (by decide +kernel) (qa_cons (q_op op_add4 ro_add (q_lst (qa_cons (qv 0) qa_nil)) (q_lc (own := [("k", 3)]) rfl sc__law_tree.nd (qi_range3 (by rfl) B.range q_int (q_cb call_len ro_len (by rfl) B.len (by decide +kernel) (qa_cons (qv 1) qa_nil)) (qv 2)) (blkOk_by (N := ["name", "row", "size", "k"]) (sc := defScope s__law_tree) (by decide +kernel)) (fun _ _ _ _ _ => (qg_name (i := 3) sc__law_tree.nd rfl (.inl rfl))) (fun _ _ _ _ _ => qts_nil) (fun _ _ _ _ _ => (q_c (dds := []) C__law_tree hr (by first | decide | omega) (by rfl) (qa_cons (qv 0) (qa_cons (q_sl sl_3 ro_sl (qv 1) (qo_some (qv 3)) (qo_some (q_op op_add4 ro_add (qv 3) (qv 2)))) qa_nil)))))) qa_nil))))))), fun ds S Q X h => ?_⟩
    obtain ⟨x, a, ts, rfl, ha, h1, h2, h3, q⟩ := h
    simp only [wRet, wRetN, wIf, wSeq, wSkip, wBreak, wCont, wNever, wDrop, wAndV, wOrV, wNotV, wIfE, wTest, wAndT, wOrT, wNotT, wUn, wOp, wVar, wC, wCB, wNil, wCons, wTup, wLst, wCall, wCallX, wSl, wNoPart, wPart, wChain, wAsg, wSet, wAug, wPar, wFor, iLst, iTp, iRng, iEn, iEnT, iItm, iSt, gNm, gTp, gNone, gMore, g2, g3, wLc, wYes, wLm, wDGet, wDIn, wDGet2, wDPut, wDNew, wDisp, wPs, wSm0, wSm1, wRev, wMaxD, wRaise, wKeep, gSet, wFld, wSFld, wMeth, wMake, wNNin, wNPut, wLock, wDPop, wDClr, wRevP, wLZip]
    have hl : ((ts.map toD).length : Int) = ((ts.length : Nat) : Int) := by rw [List.length_map]
    refine ⟨_, rfl, true, _, ha, ?_⟩
    rw [hl]
    refine feq_int (b := decide (ts.length = 1)) (by by_cases h : ts.length = 1 <;> simp [h] <;> omega) ?_
    by_cases e1 : ts.length = 1
    · rw [decide_eq_true e1]
      refine iteB (fun _ => ?_) fun h => by cases h
      match ts, e1 with
      | [t], _ =>
        refine ⟨_, rfl, true, _, _, ha, atN (k := 0) rfl, ?_⟩
        have := q S Sub.refl
        rw [tree_one] at this
        exact this
    rw [decide_eq_false e1]
    refine iteB (fun h => by cases h) fun _ => ?_
    refine ⟨_, rfl, true, _, ha, ?_⟩
    rw [hl]
    refine fcmp_int (b := decide (ts.length < 10)) (by by_cases h : ts.length < 10 <;> simp [h] <;> omega) ?_
    by_cases e10 : ts.length < 10
    · rw [decide_eq_true e10]
      refine iteB (fun _ => ?_) fun h => by cases h
      refine ⟨_, rfl, (show 1 ≤ lineD by decide), _, rfl, ?_⟩
      refine ⟨_, _, last_get, Sub.push _ _ ha, ?_, ?_⟩
      · rw [List.length_map]; exact Nat.le_trans (by show 1 + ts.length ≤ 10 ^ 6; omega) (Nat.le_of_lt million)
      · refine ⟨true, _, last_get, ?_⟩
        have s1 : Sub S (S ++ [Cell.lst true [D.str x]]) := Sub.push
        have h9 : D.tup ([.str x] ++ ts.map toD) = toD (treeF x r ts) := by rw [tree_few x r e10 e1, toD, toDs_map]; rfl
        rw [h9]
        exact q _ (s1.trans Sub.push)
    rw [decide_eq_false e10]
    refine iteB (fun h => by cases h) fun _ => ?_
    refine ⟨_, rfl, true, _, ha, ?_⟩
    rw [hl]
    refine ⟨⟨by decide, by decide⟩, ?_⟩
    obtain ⟨s, hs⟩ : ∃ s, s = ceil ts.length 9 := ⟨_, rfl⟩
    obtain ⟨m, hmm⟩ : ∃ m, m = ceil ts.length s := ⟨_, rfl⟩
    obtain ⟨h0, f1, f2⟩ := chunk_facts (as := ts) (by omega) hs hmm
    simp only [fNeg]
    rw [neg_div9, ← hs]
    refine ⟨_, rfl, (show 1 ≤ lineD by decide), _, rfl, true, _, Sub.push _ _ ha, _, rfl, m, ?_, ?_⟩
    · rw [hl, hmm]
      exact small_range (by omega) h0 (by rw [hs]; unfold ceil; omega)
    obtain ⟨r', rfl⟩ : ∃ r', r = r' + 1 := by
      cases r with
      | zero => exact absurd h2 (by omega)
      | succ r' => exact ⟨r', rfl⟩
    have := hc r' rfl
    subst this
    have hm9 : m ≤ 9 := by rw [hmm]; exact ceil_nine h1 hs
    obtain ⟨S1, hS1⟩ : ∃ S1, S1 = S ++ [Cell.lst true [D.str x]] := ⟨_, rfl⟩
    have s1 : Sub S S1 := by rw [hS1]; exact Sub.push
    have a1 : S1[S.length]? = some (.lst true [D.str x]) := by rw [hS1]; exact last_get
    rw [← hS1]
    refine lc_yes (fun i S' => Sub S1 S') (fun i d y => ∃ c, (chunks s m ts)[i]? = some c ∧ y = toD (treeF x r' c)) Sub.refl ?_ (fun _ _ _ => trivial) (fun i d hd S' hS R hR => ?_) (fun ys S4 hl4 hy hS => ?_)
    · rw [List.length_map, List.length_range]; exact Nat.le_trans hm9 (by decide)
    · rw [List.getElem?_map] at hd
      cases hq : (List.range m)[i]? with
      | none => rw [hq] at hd; cases hd
      | some i' =>
        rw [hq] at hd
        cases hd
        obtain ⟨g1, g2⟩ := List.getElem?_eq_some_iff.mp hq
        simp only [List.length_range, List.getElem_range] at g1 g2
        subst g2
        have hci := chunks_at s m ts i g1
        have hcm := List.mem_of_getElem? hci
        have hlt : i * s < ts.length := by
          have q1 : (m - 1) * s < ts.length := by rw [hmm]; exact ceil_lt h0 h1
          exact Nat.lt_of_le_of_lt (Nat.mul_le_mul_right s (by omega)) q1
        obtain ⟨c1, c2, c3⟩ := chunks_mem (by rw [hmm]; exact ceil_lt h0 h1) h0 hcm
        simp only [wRet, wRetN, wIf, wSeq, wSkip, wBreak, wCont, wNever, wDrop, wAndV, wOrV, wNotV, wIfE, wTest, wAndT, wOrT, wNotT, wUn, wOp, wVar, wC, wCB, wNil, wCons, wTup, wLst, wCall, wCallX, wSl, wNoPart, wPart, wChain, wAsg, wSet, wAug, wPar, wFor, iLst, iTp, iRng, iEn, iEnT, iItm, iSt, gNm, gTp, gNone, gMore, g2, g3, wLc, wYes, wLm, wDGet, wDIn, wDGet2, wDPut, wDNew, wDisp, wPs, wSm0, wSm1, wRev, wMaxD, wRaise, wKeep, gSet, wFld, wSFld, wMeth, wMake, wNNin, wNPut, wLock, wDPop, wDClr, wRevP, wLZip]
        refine ⟨_, rfl, _, rfl, _, rfl, _, rfl, _, rfl, true, _, hS _ _ (s1 _ _ ha), ?_⟩
        rw [cut_mid (by rw [List.length_map]; exact hlt), ← List.map_drop, ← List.map_take]
        refine ⟨x, _, _, rfl, last_get, c1, ?_, Nat.le_trans c2 (by rw [hs]; unfold ceil; omega), fun T hT => hR _ _ ⟨_, hci, rfl⟩ (hS.trans (Sub.push.trans hT))⟩
        refine Nat.le_trans c2 ?_
        have h4 : ts.length ≤ 9 * 9 ^ (r' + 1) := by rw [Nat.mul_comm, ← Nat.pow_succ]; exact h2
        rw [hs]
        unfold ceil
        omega
    · rw [List.length_map, List.length_range] at hl4
      have ey : ys = (chunks s m ts).map fun c => toD (treeF x r' c) := by
        refine List.ext_getElem? fun i => ?_
        by_cases hi : i < m
        · have e1 : ys[i]? = some ys[i] := List.getElem?_eq_getElem (by omega)
          obtain ⟨c, e2, e3⟩ := hy i (.int (0 + ((i : Nat) : Int) * ((s : Nat) : Int))) _ (by rw [List.getElem?_map, List.getElem?_range hi]; rfl) e1
          rw [e1, e3, List.getElem?_map, e2]
          rfl
        · rw [List.getElem?_eq_none (by omega), List.getElem?_eq_none (by rw [List.length_map, chunks_len]; omega)]
      refine ⟨_, _, Sub.push _ _ (hS _ _ a1), last_get, ?_, true, _, last_get, ?_⟩
      · exact Nat.le_trans (by show 1 + ys.length ≤ 10; omega) (by decide)
      have h9 : D.tup ([.str x] ++ ys) = toD (treeF x (r' + 1) ts) := by
        have := tree_more x (fun t : Tm => t) r' (by omega) hs hmm
        simp only [List.map_id'] at this
        rw [this, toD, toDs_map, ey, List.map_map]
        rfl
      rw [h9]
      exact q _ (s1.trans (hS.trans (Sub.push.trans Sub.push)))
  intro r
  induction r with
  | zero => exact main 0 ⟨_, fnFalse hm F.kp hb, fun r' e => by cases e⟩
  | succ r ih => exact main (r + 1) ⟨_, ih, fun r' e => by cases e; rfl⟩
end
end K15
set_option Elab.async false
set_option linter.all false
set_option maxRecDepth 100000
set_option maxHeartbeats 4000000
namespace K15
open PySem PySem.Spec PyProof.Rows L2 Qd
theorem lc_flt {g : WG} {a : WE} {t : WT} {env : Slots} {still : Store → Prop} {X : XQ} {Q : List D → Store → Prop} {items : List D} {S : Store} (J : Nat → Store → Prop) (p : D → Bool) (f : D → D) (h0 : J 0 S) (hl : items.length ≤ lineD) (hs : ∀ i S, J i S → still S)
    (step : ∀ i d, items[i]? = some d → ∀ S, J i S → ∀ (R1 : D → Store → Prop) (R0 : Store → Prop), (p d = true → ∀ S', J (i + 1) S' → R1 (f d) S') → (p d = false → ∀ S', J (i + 1) S' → R0 S') → g d env S fun e s => t e s (fun b s2 => if b = true then a e s2 R1 X else R0 s2) X)
    (fin : ∀ S, J items.length S → Q ((items.filter p).map f) S) : wLcL g t a env still Q X items [] S := by
  have main : ∀ (rest done : List D) (S : Store), items = done ++ rest → J done.length S → wLcL g t a env still Q X rest ((done.filter p).map f) S := by
    intro rest
    induction rest with
    | nil =>
      intro done S e hj
      rw [List.append_nil] at e
      subst e
      exact ⟨hs _ _ hj, fin S hj⟩
    | cons d ds ih =>
      intro done S e hj
      refine ⟨hs _ _ hj, step done.length d (by rw [e]; simp) S hj _ _ (fun hp S' hj' => ⟨?_, ?_⟩) fun hp S' hj' => ?_⟩
      · rw [List.length_map]
        have := congrArg List.length e
        have h2 := List.length_filter_le p done
        simp at this
        omega
      · have := ih (done ++ [d]) S' (by simp [e]) (by simpa using hj')
        rw [List.filter_append, List.map_append, show [d].filter p = [d] by simp [hp]] at this
        exact this
      · have := ih (done ++ [d]) S' (by simp [e]) (by simpa using hj')
        rw [List.filter_append, List.map_append, show [d].filter p = [] by simp [hp], List.map_nil, List.append_nil] at this
        exact this
  exact main items [] S rfl h0
def namPy (x : Str) : PyData := .tuple [.str x]
theorem py_nam {S : Store} (x : Str) : Py S (toD (nam x)) (namPy x) := .tup (.cons (.str x) .nil)
theorem shaped_nam {x : Str} (hx : NameS x) : SeqAt.shaped (namPy x) = true := by
  have h1 := hx.2
  unfold SeqAt.shaped namPy
  simp [PyData.canLay0, PyData.canLayAll0, PyData.depth, PyData.depthAll, h1]
theorem eqv_nam (x y : Str) : PyData.eqv (namPy x) (namPy y) = decide (x = y) := by
  unfold namPy
  simp only [PyData.eqv, PyData.eqvAll, Bool.beq_eq_decide_eq, Bool.and_true]
theorem ne_nam {x y : Str} {S : Store} {Q : D → Store → Prop} (hx : NameS x) (hy : NameS y) (q : Q (.bl (!decide (x = y))) S) : fEq true (toD (nam x)) (toD (nam y)) S Q := by
  refine ⟨namPy x, namPy y, py_nam x, py_nam y, shaped_nam hx, shaped_nam hy, ?_⟩
  rw [eqv_nam]
  exact q
theorem pys_nats {S : Store} (ns : List Nat) : Pys S (ns.map natD) ((ns.map fun n : Nat => ((n : Nat) : Int)).map PyData.int) := by
  have := pys_ints (S := S) (ns.map fun n : Nat => ((n : Nat) : Int))
  rw [List.map_map] at this
  exact this
theorem in_nats {b n : Nat} {w : Bool} {st : List Nat} {S : Store} {Q : D → Store → Prop} (h : S[n]? = some (.lst w (st.map natD))) (q : Q (.bl (decide (b ∈ st))) S) : fInA false (natD b) (.loc n) S Q := by
  refine ⟨.int b, _, .int _, .inl (.lst h (pys_nats st)), rfl, shaped_ints _, ?_⟩
  have e : ((st.map fun n : Nat => ((n : Nat) : Int)).map PyData.int).any (fun z => PyData.eqv z (.int ((b : Nat) : Int))) = decide (b ∈ st) := by
    rw [List.any_map, List.any_map]
    rw [Bool.eq_iff_iff, List.any_eq_true, decide_eq_true_iff]
    constructor
    · rintro ⟨x, hx, he⟩
      have : x = b := by
        simp [PyData.eqv] at he
        omega
      rw [← this]; exact hx
    · intro hb
      exact ⟨b, hb, by simp [PyData.eqv]⟩
  show Q (.bl (if false = true then _ else _)) S
  rw [if_neg Bool.false_ne_true, e]
  exact q
theorem pys_nams {S : Store} : ∀ xs : List Str, Pys S (xs.map fun x => toD (nam x)) (xs.map namPy)
  | [] => .nil
  | x :: xs => .cons (py_nam x) (pys_nams xs)
theorem shaped_nams {xs : List Str} (h : ∀ x ∈ xs, NameS x) : SeqAt.shaped (.list (xs.map namPy)) = true := by
  have h1 : PyData.canLayAll0 (xs.map namPy) = true := layAll fun p hp => by
    obtain ⟨n, hn, rfl⟩ := List.mem_map.mp hp
    exact (Bool.and_eq_true_iff.mp (shaped_nam (h n hn))).1
  have h2 : PyData.depthAll (xs.map namPy) ≤ 2 := depAll fun p hp => by
    obtain ⟨n, _, rfl⟩ := List.mem_map.mp hp
    simp [namPy, PyData.depth, PyData.depthAll]
  unfold SeqAt.shaped
  rw [PyData.canLay0, h1, PyData.depth]
  simp
  omega
def Tm0 : Tm := .bl 0
def endD (e : Nat × Str) : D := .tup [natD e.1, toD (nam e.2)]
structure Sts (S : Store) (a : Nat) (cs : List Nat) (sts : List (List Nat)) : Prop where
  top : S[a]? = some (.lst true (cs.map D.loc))
  len : cs.length = sts.length
  at_ : ∀ (i c : Nat) (st : List Nat), cs[i]? = some c → sts[i]? = some st → S[c]? = some (.lst true (st.map natD))
theorem Sts.sub {S T : Store} {a : Nat} {cs : List Nat} {sts : List (List Nat)} (h : Sts S a cs sts) (g : Sub S T) : Sts T a cs sts := ⟨g _ _ h.top, h.len, fun i c st h1 h2 => g _ _ (h.at_ i c st h1 h2)⟩
theorem there_eq (ends : List (Nat × Str)) (st : List Nat) : ((ends.map endD).filter fun d => match d with | .tup [.int n, _] => decide (n.toNat ∈ st) | _ => false).map (fun d => match d with | .tup [_, y] => y | d => d) = ((ends.filter fun e => decide (e.1 ∈ st)).map (·.2)).map fun x => toD (nam x) := by
  induction ends with
  | nil => rfl
  | cons e ends ih =>
    by_cases hin : e.1 ∈ st
    · have h1 : (match endD e with | .tup [.int n, _] => decide (n.toNat ∈ st) | _ => false) = true := by simp [endD, natD, hin]
      have h2 : decide (e.1 ∈ st) = true := decide_eq_true hin
      rw [List.map_cons, List.filter_cons, if_pos h1, List.filter_cons, if_pos h2, List.map_cons, List.map_cons, List.map_cons, ih]
      rfl
    · have h1 : ¬ (match endD e with | .tup [.int n, _] => decide (n.toNat ∈ st) | _ => false) = true := by simp [endD, natD, hin]
      have h2 : ¬ decide (e.1 ∈ st) = true := by simp [hin]
      rw [List.map_cons, List.filter_cons, if_neg h1, List.filter_cons, if_neg h2, ih]
/-- two unlike names in one stretch -/
def Bad (ends : List (Nat × Str)) (st : List Nat) : Prop := ∃ e1 ∈ ends, ∃ e2 ∈ ends, e1.1 ∈ st ∧ e2.1 ∈ st ∧ e1.2 ≠ e2.2
structure GoodT (ends : List (Nat × Str)) (st : List Nat) (t : Tm) : Prop where
  name : ∀ e ∈ ends, e.1 ∈ st → t = nam e.2
  none : (∀ e ∈ ends, e.1 ∉ st) → ∃ mn, t = .bl mn ∧ mn ∈ st ∧ ∀ y ∈ st, mn ≤ y
def cDue : Qd.Con := fun ds S Q _ => ∃ (a b : Nat) (cs : List Nat) (sts : List (List Nat)) (ends : List (Nat × Str)), ds = [.loc a, .loc b] ∧ Sts S a cs sts ∧ S[b]? = some (.lst true (ends.map endD)) ∧ ends.length ≤ 100 ∧ (∀ e ∈ ends, NameS e.2) ∧ sts.flatten.Nodup ∧ sts.flatten.length ≤ 1000 ∧ (∀ st ∈ sts, st ≠ []) ∧
  (∀ T, (∃ st ∈ sts, Bad ends st) → Sub S T → Q .non T) ∧ (∀ T n (l : List (Nat × Tm)), (∀ st ∈ sts, ¬ Bad ends st) → Sub S T → S.length ≤ n → T[n]? = some (.dK true (encD toD l)) → l.map (·.1) = sts.flatten → (∀ p ∈ l, ∃ st ∈ sts, p.1 ∈ st ∧ GoodT ends st p.2) → Q (.loc n) T)
section
variable {P : Program} {w : World} {K : PySem.W.Frag} {mg : Str → Option Value} {base : Heap} {CC : Addr}
abbrev s__law_due : Stmt := topS 27
theorem sc__law_due : FnScope ["stretches", "ends", "found", "stretch", "there", "blank", "name"] ["stretches", "ends"] (defScope s__law_due) := ⟨rfl, rfl, rfl, by decide +kernel, rfl, by decide +kernel, by decide +kernel⟩
theorem ok__law_due {f : Addr} {fd : FuncData} (F : Fun K "_law_due" "_law_due" s__law_due f fd) (hm : mg "_law_due" = some (.ref f)) (hb : Binds K fd ["stretches", "ends"] []) (B : Blt mg) : Fn P w K mg base 1 "_law_due" cDue [] := by
  refine defQ F hm hb .nil sc__law_due (fun ds S Q X ⟨_, _, _, _, _, e, _⟩ => by rw [e]; rfl) fun cdv A outer s H hr => ?_
  have hu1 := hu_of hr; have hu64 := hr.units; have hu65 : (A.deeper (envOfC "_law_due" (defScope s__law_due) s.heap.objs.size f cdv)).units + 65 < cLine := by have := hr.un; omega
  refine ⟨_, (qs_cons (q_set (i := 2) sc__law_due.nd rfl (.inl rfl) q_dnewK)
      (qs_cons (q_for (vs := [3]) PassesOwn.never rfl (qi_list (qv 0)) (qg_name (i := 3) sc__law_due.nd rfl (.inr rfl)) (qs_cons (q_set (i := 4) sc__law_due.nd rfl (.inr rfl) (q_lc (own := [("blank", 5), ("name", 6)]) rfl sc__law_due.nd (qi_list (qv 1)) (blkOk_by (N := ["stretches", "ends", "found", "stretch", "there", "blank", "name"]) (sc := defScope s__law_due) (by decide +kernel)) (fun _ _ _ _ _ => (qg_2 (i := 5) (j := 6) rfl sc__law_due.nd rfl (.inl rfl) rfl (.inl rfl))) (fun _ _ _ _ _ => (qts_one (qt_cmp (op_inA hu65) ro_inA (qv 5) (qv 3) (by rfl)))) (fun _ _ _ _ _ => (qv 6))))
      (qs_cons (q_if (qt_val (q_cb (cr_any rfl) ro_any (by rfl) B.any (by decide +kernel) (qa_cons (q_lc (own := [("name", 6)]) rfl sc__law_due.nd (qi_list (qv 4)) (blkOk_by (N := ["stretches", "ends", "found", "stretch", "there", "blank", "name"]) (sc := defScope s__law_due) (by decide +kernel)) (fun _ _ _ _ _ => (qg_name (i := 6) sc__law_due.nd rfl (.inl rfl))) (fun _ _ _ _ _ => qts_nil) (fun _ _ _ _ _ => (q_cmp (op_ne2 hu64) ro_ne (qv 6) (q_ix ix_seq ro_ix (qv 4) q_int) (nomark _)))) qa_nil))) (qs_one (q_ret q_non)) qs_nil)
      (qs_one (q_for (vs := [5]) PassesOwn.never rfl (qi_list (qv 3)) (qg_name (i := 5) sc__law_due.nd rfl (.inl rfl)) (qs_one (q_dput hu1 (qv 2) (qv 5) (q_ifE (qt_cmp (op_neN hu64) ro_neN (qv 4) (q_lst qa_nil) (nomark _)) (q_ix ix_seq ro_ix (qv 4) q_int) (q_cb (cr_min rfl) ro_minL (by rfl) B.min (by decide +kernel) (qa_cons (qv 3) qa_nil))))))))))
      (qs_one (q_ret (qv 2))))), fun ds S Q X h => ?_⟩
  obtain ⟨a, b, cs, sts, ends, rfl, hs, hb, hl, hn, hnd, hfl, hne, q1, q2⟩ := h
  refine seq_set ?_
  refine ⟨_, rfl, true, _, Sub.push _ _ hs.top, ?_⟩
  refine loop_by (fun i e S' => ∃ (x3 x4 x5 x6 : Option D) (l : List (Nat × Tm)), e = [some (.loc a), some (.loc b), some (.loc S.length), x3, x4, x5, x6] ∧ Sub S S' ∧ S'[S.length]? = some (.dK true (encD toD l)) ∧ l.map (·.1) = (sts.take i).flatten ∧ (∀ p ∈ l, ∃ st ∈ sts, p.1 ∈ st ∧ GoodT ends st p.2) ∧ ∀ st ∈ sts.take i, ¬ Bad ends st)
    ⟨_, _, _, _, [], rfl, Sub.push, last_get, by simp, by simp, by simp⟩ (fun i e S' ⟨_, _, _, _, _, _, h, _⟩ => ⟨true, h _ _ hs.top⟩) (fun i dd hd e S' h R hR => ?_) (fun e S' h => ?_)
  · obtain ⟨x3, x4, x5, x6, l, rfl, hS, hf, hk, hg, hnb⟩ := h
    rw [List.getElem?_map] at hd
    cases hc : cs[i]? with
    | none => rw [hc] at hd; cases hd
    | some c =>
      rw [hc] at hd
      cases hd
      have hi : i < sts.length := by rw [← hs.len]; exact (List.getElem?_eq_some_iff.mp hc).1
      obtain ⟨st, hst⟩ : ∃ st, sts[i]? = some st := ⟨sts[i], List.getElem?_eq_getElem hi⟩
      have hm := List.mem_of_getElem? hst
      have hc1 : S'[c]? = some (.lst true (st.map natD)) := hS _ _ (hs.at_ i c st hc hst)
      simp only [wRet, wRetN, wIf, wSeq, wSkip, wBreak, wCont, wNever, wDrop, wAndV, wOrV, wNotV, wIfE, wTest, wAndT, wOrT, wNotT, wUn, wOp, wVar, wC, wCB, wNil, wCons, wTup, wLst, wCall, wCallX, wSl, wNoPart, wPart, wChain, wAsg, wSet, wAug, wPar, wFor, iLst, iTp, iRng, iEn, iEnT, iItm, iSt, gNm, gTp, gNone, gMore, g2, g3, wLc, wYes, wLm, wDGet, wDIn, wDGet2, wDPut, wDNew, wDisp, wPs, wSm0, wSm1, wRev, wMaxD, wRaise, wKeep, gSet, wFld, wSFld, wMeth, wMake, wNNin, wNPut, wLock, wDPop, wDClr, wRevP, wLZip]
      refine ⟨_, rfl, true, _, hS _ _ hb, ?_⟩
      refine lc_flt (fun _ S2 => S2 = S') (fun d => match d with | .tup [.int n, _] => decide (n.toNat ∈ st) | _ => false) (fun d => match d with | .tup [_, y] => y | d => d) rfl (by rw [List.length_map]; exact Nat.le_trans (by omega : _ ≤ 10 ^ 6) (Nat.le_of_lt million)) (fun _ S2 h => by rw [h]; exact ⟨true, hS _ _ hb⟩) (fun j d hdj S2 h2 R1 R0 hR1 hR0 => ?_) (fun S2 h2 => ?_)
      · subst h2
        rw [List.getElem?_map] at hdj
        cases he : ends[j]? with
        | none => rw [he] at hdj; cases hdj
        | some en =>
          rw [he] at hdj
          cases hdj
          simp only [wRet, wRetN, wIf, wSeq, wSkip, wBreak, wCont, wNever, wDrop, wAndV, wOrV, wNotV, wIfE, wTest, wAndT, wOrT, wNotT, wUn, wOp, wVar, wC, wCB, wNil, wCons, wTup, wLst, wCall, wCallX, wSl, wNoPart, wPart, wChain, wAsg, wSet, wAug, wPar, wFor, iLst, iTp, iRng, iEn, iEnT, iItm, iSt, gNm, gTp, gNone, gMore, g2, g3, wLc, wYes, wLm, wDGet, wDIn, wDGet2, wDPut, wDNew, wDisp, wPs, wSm0, wSm1, wRev, wMaxD, wRaise, wKeep, gSet, wFld, wSFld, wMeth, wMake, wNNin, wNPut, wLock, wDPop, wDClr, wRevP, wLZip]
          refine ⟨_, rfl, _, rfl, in_nats hc1 ?_⟩
          by_cases hin : en.1 ∈ st
          · rw [decide_eq_true hin]
            refine iteB (fun _ => ?_) fun h => by cases h
            exact ⟨_, rfl, hR1 (by simp [endD, natD, hin]) _ rfl⟩
          · rw [decide_eq_false hin]
            refine iteB (fun h => by cases h) fun _ => ?_
            exact hR0 (by simp [endD, natD, hin]) _ rfl
      · subst h2
        obtain ⟨th, hth⟩ : ∃ th, th = (ends.filter fun e => decide (e.1 ∈ st)).map (·.2) := ⟨_, rfl⟩
        have eth := there_eq ends st
        rw [← hth] at eth
        rw [eth]
        have hthn : ∀ x ∈ th, NameS x := fun x hx => by
          rw [hth] at hx
          obtain ⟨e, he, rfl⟩ := List.mem_map.mp hx
          exact hn e (List.mem_filter.mp he).1
        have hthm : ∀ x, x ∈ th ↔ ∃ e ∈ ends, e.1 ∈ st ∧ e.2 = x := fun x => by
          rw [hth, List.mem_map]
          constructor
          · rintro ⟨e, he, rfl⟩
            obtain ⟨h1, h2⟩ := List.mem_filter.mp he
            exact ⟨e, h1, of_decide_eq_true h2, rfl⟩
          · rintro ⟨e, h1, h2, rfl⟩
            exact ⟨e, List.mem_filter.mpr ⟨h1, decide_eq_true h2⟩, rfl⟩
        have hthl : th.length ≤ 100 := by
          rw [hth, List.length_map]
          exact Nat.le_trans (List.length_filter_le _ _) hl
        obtain ⟨S3, hS3⟩ : ∃ S3, S3 = S2 ++ [Cell.lst true (th.map fun x => toD (nam x))] := ⟨_, rfl⟩
        have ht3 : S3[S2.length]? = some (.lst true (th.map fun x => toD (nam x))) := by rw [hS3]; exact last_get
        have s23 : Sub S2 S3 := by rw [hS3]; exact Sub.push
        rw [← hS3]
        refine ⟨_, rfl, true, _, ht3, ?_⟩
        have hf2 := hf
        have lt2 : S.length < S2.length := (List.getElem?_eq_some_iff.mp hf).1
        -- the rest, where the names agree
        have tail : ∀ S4, (∀ x ∈ th, ∀ y ∈ th, x = y) → Sub S3 S4 → wFor (iLst (wVar 3)) (gNm 5) (wDPut (wVar 2) (wVar 5) (wIfE (wTest (wOp fNeN (wVar 4) (wLst wNil))) (wOp fIx (wVar 4) (wC (D.int 0))) (wCB fMinL (wCons (wVar 3) wNil)))) ⟨R, Q, fun e s => ∃ d, e[2]? = some (some d) ∧ Q d s, R⟩ [some (.loc a), some (.loc b), some (.loc S.length), some (.loc c), some (.loc S2.length), x5, x6] S4 noX := by
          intro S4 hall s34
          have hc4 : S4[c]? = some (.lst true (st.map natD)) := s34 _ _ (s23 _ _ hc1)
          have ht4 : S4[S2.length]? = some (.lst true (th.map fun x => toD (nam x))) := s34 _ _ ht3
          have hf4 : S4[S.length]? = some (.dK true (encD toD l)) := s34 _ _ (s23 _ _ hf)
          have hS4 : Sub S S4 := hS.trans (s23.trans s34)
          have hts : sts.take (i + 1) = sts.take i ++ [st] := by rw [List.take_add_one, hst]; rfl
          have hfl1 : (sts.take (i + 1)).flatten = (sts.take i).flatten ++ st := by rw [hts]; simp
          have hsub : List.Sublist ((sts.take i).flatten ++ st) sts.flatten := by
            rw [← hfl1]
            have e : sts.flatten = (sts.take (i + 1)).flatten ++ (sts.drop (i + 1)).flatten := by rw [← List.flatten_append, List.take_append_drop]
            rw [e]
            exact List.sublist_append_left _ _
          have hnbst : ¬ Bad ends st := fun ⟨e1, h1, e2, h2, h3, h4, h5⟩ => h5 (hall _ ((hthm _).mpr ⟨e1, h1, h3, rfl⟩) _ ((hthm _).mpr ⟨e2, h2, h4, rfl⟩))
          refine for_by ⟨_, rfl, true, _, hc4, ?_⟩
          refine loop_by (fun j e S' => ∃ (x5 : Option D) (l1 : List (Nat × Tm)), e = [some (.loc a), some (.loc b), some (.loc S.length), some (.loc c), some (.loc S2.length), x5, x6] ∧ Sub S S' ∧ S'[c]? = some (.lst true (st.map natD)) ∧ S'[S2.length]? = some (.lst true (th.map fun x => toD (nam x))) ∧ S'[S.length]? = some (.dK true (encD toD (l ++ l1))) ∧ l1.map (·.1) = st.take j ∧ ∀ p ∈ l1, GoodT ends st p.2)
            ⟨_, [], rfl, hS4, hc4, ht4, by rw [List.append_nil]; exact hf4, by simp, by simp⟩ (fun j e S' ⟨_, _, _, _, h, _⟩ => ⟨true, h⟩) (fun j d hdj e S' h R2 hR2 => ?_) (fun e S' h => ?_)
          · obtain ⟨y5, l1, rfl, hS', hc', ht', hf', hk', hg'⟩ := h
            rw [List.getElem?_map] at hdj
            cases hbj : st[j]? with
            | none => rw [hbj] at hdj; cases hdj
            | some bb =>
              rw [hbj] at hdj
              cases hdj
              have hbm := List.mem_of_getElem? hbj
              have hsj : st.take (j + 1) = st.take j ++ [bb] := by rw [List.take_add_one, hbj]; rfl
              have hnd2 : (((l ++ l1) ++ [(bb, Tm0)]).map (·.1)).Nodup := by
                rw [List.map_append, List.map_append, hk, hk', List.append_assoc, show [(bb, Tm0)].map (·.1) = [bb] from rfl, ← hsj]
                refine (hnd.sublist hsub).sublist ?_
                exact (List.Sublist.refl _).append (List.take_sublist _ _)
              have hlook : (l ++ l1).lookup bb = none := nodup_last' (q := (bb, Tm0)) hnd2
              have hlen : (encD toD (l ++ l1)).length < lineD := by
                rw [enc_len]
                have e1 : ((l ++ l1).map (·.1)).length = (l ++ l1).length := List.length_map _
                have e2 : ((sts.take i).flatten ++ st).length ≤ sts.flatten.length := hsub.length_le
                rw [List.map_append, hk, hk', List.length_append] at e1
                rw [List.length_append] at e2
                have e3 : (st.take j).length ≤ st.length := by rw [List.length_take]; omega
                exact Nat.lt_of_le_of_lt (by omega : _ ≤ 10 ^ 6) million
              have lt' : S.length < S'.length := (List.getElem?_eq_some_iff.mp hf').1
              have ltc : c < S.length := (List.getElem?_eq_some_iff.mp (hs.at_ i c st hc hst)).1
              have fin : ∀ (t : Tm) T, Sub S' T → GoodT ends st t → putD (.loc S.length) (natD bb) (toD t) T fun T' => R2 [some (.loc a), some (.loc b), some (.loc S.length), some (.loc c), some (.loc S2.length), some (natD bb), x6] T' := by
                intro t T hT hgt
                refine put_at (hT _ _ hf') rfl hlen ?_
                rw [show Qd.put (encD toD (l ++ l1)) (.inl ((bb : Nat) : Int)) (toD t) = encD toD ((l ++ l1) ++ [(bb, t)]) from put_enc toD bb t hlook]
                have lT : S.length < T.length := (List.getElem?_eq_some_iff.mp (hT _ _ hf')).1
                refine hR2 _ _ ⟨_, l1 ++ [(bb, t)], rfl, ?_, ?_, ?_, ?_, ?_, ?_⟩
                · exact Sub_setN (hS'.trans hT) (Nat.le_refl _)
                · rw [List.getElem?_set_ne (by omega)]; exact hT _ _ hc'
                · rw [List.getElem?_set_ne (by omega)]; exact hT _ _ ht'
                · rw [List.getElem?_set_self lT, List.append_assoc]
                · rw [List.map_append, hk', hsj]; rfl
                · intro p hp
                  rcases List.mem_append.mp hp with z | z
                  · exact hg' p z
                  · rw [List.mem_singleton.mp z]; exact hgt
              simp only [wRet, wRetN, wIf, wSeq, wSkip, wBreak, wCont, wNever, wDrop, wAndV, wOrV, wNotV, wIfE, wTest, wAndT, wOrT, wNotT, wUn, wOp, wVar, wC, wCB, wNil, wCons, wTup, wLst, wCall, wCallX, wSl, wNoPart, wPart, wChain, wAsg, wSet, wAug, wPar, wFor, iLst, iTp, iRng, iEn, iEnT, iItm, iSt, gNm, gTp, gNone, gMore, g2, g3, wLc, wYes, wLm, wDGet, wDIn, wDGet2, wDPut, wDNew, wDisp, wPs, wSm0, wSm1, wRev, wMaxD, wRaise, wKeep, gSet, wFld, wSFld, wMeth, wMake, wNNin, wNPut, wLock, wDPop, wDClr, wRevP, wLZip]
              refine ⟨_, rfl, (show 0 ≤ lineD by decide), ?_⟩
              refine ⟨true, _, true, _, Sub.push _ _ ht', last_get, pys_nams th, shaped_nams hthn, ?_⟩
              cases hth0 : th with
              | nil =>
                refine iteB (fun h => by cases h) fun _ => ?_
                refine ⟨_, rfl, true, _, Sub.push _ _ hc', st.map fun n : Nat => ((n : Nat) : Int), by rw [List.map_map]; rfl, ?_, fun mn hmn hle => ?_⟩
                · rw [List.length_map]
                  exact List.length_pos_iff.mpr (hne st hm)
                · obtain ⟨mm, hmm, rfl⟩ := List.mem_map.mp hmn
                  refine ⟨_, rfl, _, rfl, fin (.bl mm) _ Sub.push ⟨fun e he hin => ?_, fun _ => ⟨mm, rfl, hmm, fun y hy => ?_⟩⟩⟩
                  · have := (hthm e.2).mpr ⟨e, he, hin, rfl⟩
                    rw [hth0] at this
                    cases this
                  · have := hle _ (List.mem_map.mpr ⟨y, hy, rfl⟩)
                    omega
              | cons x0 tl =>
                refine iteB (fun _ => ?_) fun h => by cases h
                have h0m : x0 ∈ th := by rw [hth0]; exact List.mem_cons_self
                refine ⟨_, rfl, true, _, _, Sub.push _ _ ht', atN (k := 0) (by rw [hth0]; rfl), ?_⟩
                refine ⟨_, rfl, _, rfl, fin (nam x0) _ Sub.push ⟨fun e he hin => ?_, fun hno => ?_⟩⟩
                · rw [hall x0 h0m e.2 ((hthm e.2).mpr ⟨e, he, hin, rfl⟩)]
                · obtain ⟨e, h1, h2, _⟩ := (hthm x0).mp h0m
                  exact absurd h2 (hno e h1)
          · obtain ⟨y5, l1, rfl, hS', hc', ht', hf', hk', hg'⟩ := h
            rw [List.length_map, List.take_length] at hk'
            refine hR _ _ ⟨_, _, _, _, l ++ l1, rfl, hS', hf', ?_, ?_, ?_⟩
            · rw [List.map_append, hk, hk', hfl1]
            · intro p hp
              rcases List.mem_append.mp hp with z | z
              · exact hg p z
              · refine ⟨st, hm, ?_, hg' p z⟩
                rw [← hk']
                exact List.mem_map.mpr ⟨p, z, rfl⟩
            · intro st' h'
              rw [hts] at h'
              rcases List.mem_append.mp h' with z | z
              · exact hnb st' z
              · rw [List.mem_singleton.mp z]; exact hnbst
        refine lc_yes (fun _ S' => S' = S3) (fun j d y => ∃ x x0, th[j]? = some x ∧ th[0]? = some x0 ∧ y = .bl (!decide (x = x0))) rfl (by rw [List.length_map]; exact Nat.le_trans (by omega : _ ≤ 10 ^ 6) (Nat.le_of_lt million)) (fun _ S' h => by rw [h]; exact ⟨true, ht3⟩) (fun j d hdj S' h R1 hR1 => ?_) (fun ys S' hly hy h => ?_)
        · subst h
          rw [List.getElem?_map] at hdj
          cases hx : th[j]? with
          | none => rw [hx] at hdj; cases hdj
          | some x =>
            rw [hx] at hdj
            cases hdj
            have lj := (List.getElem?_eq_some_iff.mp hx).1
            have h0 : th[0]? = some th[0] := List.getElem?_eq_getElem (by omega)
            simp only [wRet, wRetN, wIf, wSeq, wSkip, wBreak, wCont, wNever, wDrop, wAndV, wOrV, wNotV, wIfE, wTest, wAndT, wOrT, wNotT, wUn, wOp, wVar, wC, wCB, wNil, wCons, wTup, wLst, wCall, wCallX, wSl, wNoPart, wPart, wChain, wAsg, wSet, wAug, wPar, wFor, iLst, iTp, iRng, iEn, iEnT, iItm, iSt, gNm, gTp, gNone, gMore, g2, g3, wLc, wYes, wLm, wDGet, wDIn, wDGet2, wDPut, wDNew, wDisp, wPs, wSm0, wSm1, wRev, wMaxD, wRaise, wKeep, gSet, wFld, wSFld, wMeth, wMake, wNNin, wNPut, wLock, wDPop, wDClr, wRevP, wLZip]
            refine ⟨_, rfl, _, rfl, true, _, _, ht3, atN (k := 0) (by rw [List.getElem?_map, h0]; rfl), ?_⟩
            exact ne_nam (hthn _ (List.mem_of_getElem? hx)) (hthn _ (List.mem_of_getElem? h0)) (hR1 _ _ ⟨x, _, hx, h0, rfl⟩ rfl)
        · subst h
          rw [List.length_map] at hly
          obtain ⟨bs, hbs, hbs2⟩ : ∃ bs : List Bool, ys = bs.map D.bl ∧ (bs.any id = false → ∀ x ∈ th, ∀ y ∈ th, x = y) ∧ (bs.any id = true → Bad ends st) := by
            cases hth0 : th with
            | nil =>
              rw [hth0] at hly
              exact ⟨[], List.length_eq_zero_iff.mp hly, (fun _ x h => (by cases h)), (fun h => (by cases h))⟩
            | cons x0 tl =>
              refine ⟨th.map fun x => !decide (x = x0), ?_, fun h x hx y hy => ?_, fun h => ?_⟩
              · refine List.ext_getElem? fun j => ?_
                by_cases hj : j < th.length
                · have e1 : ys[j]? = some ys[j] := List.getElem?_eq_getElem (by omega)
                  have e2 : th[j]? = some th[j] := List.getElem?_eq_getElem hj
                  obtain ⟨x, x0', g1, g2, g3⟩ := hy j (toD (nam th[j])) _ (by rw [List.getElem?_map, e2]; rfl) e1
                  rw [hth0] at g2
                  cases g2
                  rw [e1, g3, List.map_map, List.getElem?_map, g1]
                  rfl
                · rw [List.getElem?_eq_none (by omega), List.getElem?_eq_none (by simp; omega)]
              · have key : ∀ z ∈ th, z = x0 := fun z hz => by
                  rw [List.any_eq_false] at h
                  have := h _ (List.mem_map.mpr ⟨z, hz, rfl⟩)
                  simpa using this
                rw [hth0] at key
                rw [key x hx, key y hy]
              · rw [List.any_eq_true] at h
                obtain ⟨z, hz, hz2⟩ := h
                obtain ⟨x, hx, rfl⟩ := List.mem_map.mp hz
                have hne' : x ≠ x0 := by simpa using hz2
                obtain ⟨e1, a1, a2, a3⟩ := (hthm x).mp hx
                obtain ⟨e2, b1, b2, b3⟩ := (hthm x0).mp (by rw [hth0]; exact List.mem_cons_self)
                exact ⟨e1, a1, e2, b1, a2, b2, by rw [a3, b3]; exact hne'⟩
          refine ⟨true, ys, last_get, bs, hbs, ?_⟩
          cases hany : bs.any id with
          | true =>
            refine iteB (fun _ => ?_) fun h => by cases h
            exact q1 _ ⟨st, hm, hbs2.2 hany⟩ (hS.trans (s23.trans Sub.push))
          | false =>
            refine iteB (fun h => by cases h) fun _ => ?_
            exact tail _ (hbs2.1 hany) Sub.push
  · obtain ⟨x3, x4, x5, x6, l, rfl, hS, hf, hk, hg, hnb⟩ := h
    rw [List.length_map, hs.len, List.take_length] at hk hnb
    exact ⟨_, rfl, q2 _ _ l hnb hS (Nat.le_refl _) hf hk hg⟩
end
end K15
set_option Elab.async false
set_option linter.all false
set_option maxRecDepth 100000
set_option maxHeartbeats 4000000
namespace K15
open PySem PySem.Spec PyProof.Rows L2 Qd
open P15 (Flat From Inv Cov Reach Named Clash Con)
theorem Due.uniq {Ps : List (Tm × Tm)} {b : Nat} {t t' : Tm} (h : Due Ps b t) (h' : Due Ps b t') : t = t' := by
  by_cases q : ∃ x, Named Ps b x
  · obtain ⟨x, hx⟩ := q
    rw [h.name x hx, h'.name x hx]
  · have q' : ∀ x, ¬ Named Ps b x := fun x hx => q ⟨x, hx⟩
    obtain ⟨r, e1, c1, l1⟩ := h.none q'
    obtain ⟨r', e2, c2, l2⟩ := h'.none q'
    have := l1 r' c2
    have := l2 r c1
    rw [e1, e2, show r = r' by omega]
theorem Due.py {Ps : List (Tm × Tm)} {b : Nat} {t : Tm} {S : Store} (h : Due Ps b t) (hn : ∀ b x, Named Ps b x → NameS x) : ∃ p, Py S (toD t) p ∧ SeqAt.shaped p = true ∧ PyData.eqv p p = true := by
  by_cases q : ∃ x, Named Ps b x
  · obtain ⟨x, hx⟩ := q
    rw [h.name x hx]
    exact ⟨namPy x, py_nam x, shaped_nam (hn b x hx), by rw [eqv_nam]; simp⟩
  · have q' : ∀ x, ¬ Named Ps b x := fun x hx => q ⟨x, hx⟩
    obtain ⟨r, e1, c1, l1⟩ := h.none q'
    rw [e1]
    exact ⟨.int r, .int _, rfl, by simp [PyData.eqv]⟩
theorem isd_K {S : Store} {n : Nat} {kvs : List (Key × D)} (h : S[n]? = some (.dK true kvs)) : isTy S "dict" (.loc n) = some true := by
  unfold isTy tyD
  dsimp only
  rw [h]
  rfl
theorem len_of_mem {ks ls : List Nat} (h : ks.Nodup) (g : ls.Nodup) (e : ∀ b, b ∈ ks ↔ b ∈ ls) : ks.length = ls.length :=
  Nat.le_antisymm (h.length_le_of_subset fun b hb => (e b).mp hb) (g.length_le_of_subset fun b hb => (e b).mpr hb)
structure DueD (Ps : List (Tm × Tm)) (u v : Tm) (l : List (Nat × Tm)) : Prop where
  nd : (l.map (·.1)).Nodup
  keys : ∀ b, b ∈ l.map (·.1) ↔ Occ b u ∨ Occ b v
  due : ∀ p ∈ l, Due Ps p.1 p.2
/-- what is known of the two terms -/
structure Two (Ps : List (Tm × Tm)) (u v : Tm) : Prop where
  flat : Flat Ps
  from_ : From Ps (u, v)
  reach : ∀ p ∈ Ps, Reach (u, v) p
  okU : OkT u
  okV : OkT v
  du : dep u ≤ 6
  dv : dep v ≤ 6
  wt : wt u v ≤ 10 ^ 5
  su : siz u ≤ 10 ^ 5
  sv : siz v ≤ 10 ^ 5
  nam : ∀ b x, Named Ps b x → NameS x
def cRight : Qd.Con := fun ds S Q _ => ∃ (u v : Tm) (Ps : List (Tm × Tm)) (dv : D), ds = [toD u, toD v, dv] ∧ Two Ps u v ∧ ((Clash Ps ∧ dv = .non) ∨ (¬ Clash Ps ∧ ∃ n l, dv = .loc n ∧ S[n]? = some (.dK true (encD toD l)) ∧ DueD Ps u v l)) ∧ ∀ T, Sub S T → Q (.bl true) T
section
variable {P : Program} {w : World} {K : PySem.W.Frag} {mg : Str → Option Value} {base : Heap} {CC : Addr}
abbrev s__law_right : Stmt := topS 28
theorem sc__law_right : FnScope ["one", "other", "due", "turn", "found"] ["one", "other", "due"] (defScope s__law_right) := ⟨rfl, rfl, rfl, by decide +kernel, rfl, by decide +kernel, by decide +kernel⟩
theorem ok__law_right {f : Addr} {fd : FuncData} (F : Fun K "_law_right" "_law_right" s__law_right f fd) (hm : mg "_law_right" = some (.ref f)) (hb : Binds K fd ["one", "other", "due"] []) (B : Blt mg) (C_joint : Fn P w K mg base 16 "joint" cJ []) : Fn P w K mg base 17 "_law_right" cRight [] := by
  refine defQ F hm hb .nil sc__law_right (fun ds S Q X ⟨_, _, _, _, e, _⟩ => by rw [e]; rfl) fun cdv A outer s H hr => ?_
  have hu1 := hu_of hr; have hu64 := hr.units; have hu65 : (A.deeper (envOfC "_law_right" (defScope s__law_right) s.heap.objs.size f cdv)).units + 65 < cLine := by have := hr.un; omega
  refine ⟨_, (qs_cons (q_for (vs := [3]) PassesOwn.never rfl (qi_range (by rfl) B.range q_int) (qg_name (i := 3) sc__law_right.nd rfl (.inl rfl)) (qs_cons (q_set (i := 4) sc__law_right.nd rfl (.inl rfl) (q_c (dds := []) C_joint hr (by first | decide | omega) (by rfl) (qa_cons (qv 0) (qa_cons (qv 1) qa_nil))))
      (qs_one (q_if (qt_isN (qv 2)) (qs_one (q_if (qt_notN (qv 4)) (qs_one (q_ret q_bl)) qs_nil)) (qs_one (q_if (qt_w (qw_or (qt_not (qt_val (q_isi "dict" (by rfl) B.isinstance (by rfl) B.dict (by decide +kernel) (qv 4)))) (qw_or1 (qt_cmp (op_neK hu65) ro_neK (qv 4) (qv 2) (nomark _))))) (qs_one (q_ret q_bl)) (qs_one (q_expr (q_dclear (qv 4))))))))))
      (qs_one (q_ret q_bl))), fun ds S Q X h => ?_⟩
  obtain ⟨u, v, Ps, dv, rfl, hT, hdue, q⟩ := h
  refine seq_for ⟨by decide, by decide, ?_⟩
  refine loop_by (fun i e S' => ∃ (x3 x4 : Option D), e = [some (toD u), some (toD v), some dv, x3, x4] ∧ Sub S S') ⟨_, _, rfl, Sub.refl⟩ (fun _ _ _ _ => trivial) (fun i dd hd e S' h R hR => ?_) (fun e S' h => ?_)
  · obtain ⟨x3, x4, rfl, hS⟩ := h
    simp only [wRet, wRetN, wIf, wSeq, wSkip, wBreak, wCont, wNever, wDrop, wAndV, wOrV, wNotV, wIfE, wTest, wAndT, wOrT, wNotT, wUn, wOp, wVar, wC, wCB, wNil, wCons, wTup, wLst, wCall, wCallX, wSl, wNoPart, wPart, wChain, wAsg, wSet, wAug, wPar, wFor, iLst, iTp, iRng, iEn, iEnT, iItm, iSt, gNm, gTp, gNone, gMore, g2, g3, wLc, wYes, wLm, wDGet, wDIn, wDGet2, wDPut, wDNew, wDisp, wPs, wSm0, wSm1, wRev, wMaxD, wRaise, wKeep, gSet, wFld, wSFld, wMeth, wMake, wNNin, wNPut, wLock, wDPop, wDClr, wRevP, wLZip]
    refine ⟨_, rfl, _, rfl, u, v, Ps, rfl, hT.flat, hT.from_, hT.reach, hT.okU, hT.okV, hT.du, hT.dv, hT.wt, hT.su, hT.sv, fun T hc hs => ?_, fun T n ks g hnc hs hn hg hnd hk hdu => ?_⟩
    · rcases hdue with ⟨_, rfl⟩ | ⟨hnc, _⟩
      · simp only [fIs, Qd.isNon, Bool.false_eq_true, ↓reduceIte, Bool.not_true]
        exact ⟨_, rfl, _, rfl, hR _ _ ⟨_, _, rfl, hS.trans hs⟩⟩
      · exact absurd hc hnc
    · rcases hdue with ⟨hc, _⟩ | ⟨_, m, l, rfl, hm, hD⟩
      · exact absurd hc hnc
      · simp only [fIs, Qd.isNon, Bool.false_eq_true, ↓reduceIte, Bool.not_true]
        refine ⟨_, rfl, _, rfl, ⟨true, isd_K hg, ?_⟩⟩
        refine iteB (fun h => by cases h) fun _ => ?_
        have hm' : T[m]? = some (.dK true (encD toD l)) := hs _ _ (hS _ _ hm)
        refine ⟨_, rfl, _, rfl, ⟨n, m, gD g ks, encD toD l, rfl, rfl, hg, hm', ?_, ?_, ?_⟩⟩
        · rw [gD_len, enc_len, ← List.length_map (as := l) (f := (·.1))]
          exact len_of_mem hnd hD.nd fun b => (hk b).trans (hD.keys b).symm
        · intro k d hkd
          unfold gD encD at hkd
          rw [List.map_map] at hkd
          obtain ⟨b, hb, e⟩ := List.mem_map.mp hkd
          cases e
          have hbl : b ∈ l.map (·.1) := (hD.keys b).mpr ((hk b).mp hb)
          obtain ⟨⟨b', t⟩, hp, e⟩ := List.mem_map.mp hbl
          cases e
          have hd1 := hdu b' hb
          have hd2 := hD.due _ hp
          obtain ⟨p, p1, p2, p3⟩ := hd1.py (S := T) hT.nam
          refine ⟨toD t, p, p, ?_, p1, ?_, p2, p2, p3⟩
          · rw [show Qd.val (encD toD l) (.inl ((b' : Nat) : Int)) = (l.lookup b').map toD from val_enc _ _ _, (P15.mem_lookup hD.nd).mp hp]
            rfl
          · have e2 : t = g b' := (hd1.uniq hd2).symm
            rw [e2]; exact p1
        · refine iteB (fun h => by cases h) fun _ => ?_
          refine ⟨_, rfl, n, _, rfl, hg, ?_⟩
          refine hR _ _ ⟨_, _, rfl, ?_⟩
          intro n' c hn'
          have l1 := (List.getElem?_eq_some_iff.mp (hS _ _ hn')).1
          rw [List.getElem?_set_ne (by omega)]
          exact hs _ _ (hS _ _ hn')
  · obtain ⟨x3, x4, rfl, hS⟩ := h
    exact q _ hS
end
end K15
set_option Elab.async false
set_option linter.all false
set_option maxRecDepth 100000
set_option maxHeartbeats 4000000
namespace K15
open PySem PySem.Spec PyProof.Rows L2 Qd
open P15 (Flat From Inv Cov Reach Named Clash Con End)
def blp (p : Nat × Nat) : Tm × Tm := (.bl p.1, .bl p.2)
def ndp (e : Nat × Str) : Tm × Tm := (.bl e.1, nam e.2)
theorem Con.to {Ps Qs : List (Tm × Tm)} (h : ∀ a b, (P15.Tm.bl a, P15.Tm.bl b) ∈ Ps → Con Qs a b) {a b : Nat} (g : Con Ps a b) : Con Qs a b := by
  induction g with
  | rfl a => exact .rfl a
  | pair e => exact h _ _ e
  | symm _ ih => exact .symm ih
  | trans _ _ ih1 ih2 => exact .trans ih1 ih2
theorem Con.more {ps : List (Nat × Nat)} {p : Nat × Nat} {a b : Nat} (g : Con (ps.map blp) a b) : Con ((ps ++ [p]).map blp) a b :=
  Con.to (fun a b e => .pair (by rw [List.map_append]; exact List.mem_append_left _ e)) g
structure RowI (row : List Nat) (i : Nat) (cl : List (List Nat)) (op : List Nat) (ps : List (Nat × Nat)) : Prop where
  flat : cl.flatten ++ op = row.take i
  ne : ∀ st ∈ cl, st ≠ []
  con : ∀ st ∈ cl, ∀ a ∈ st, ∀ b ∈ st, Con (ps.map blp) a b
  conO : ∀ a ∈ op, ∀ b ∈ op, Con (ps.map blp) a b
  last : op ≠ [] → ∃ a ∈ op, ∃ c, row[i]? = some c ∧ (a, c) ∈ ps
  only : ∀ p ∈ ps, (∃ st ∈ cl, p.1 ∈ st ∧ p.2 ∈ st) ∨ (p.1 ∈ op ∧ (p.2 ∈ op ∨ row[i]? = some p.2))
  dom : ∀ a ∈ row.take i, ∃ c, (a, c) ∈ ps
  len : ps.length = i
theorem RowI.start (row : List Nat) : RowI row 0 [] [] [] := by
  refine ⟨by simp, fun st h => (by cases h), fun st h => (by cases h), fun st h => (by cases h), fun h => absurd rfl h, fun st h => (by cases h), fun st h => (by simp at h), rfl⟩
section
variable {row : List Nat} {i b : Nat} {cl : List (List Nat)} {op : List Nat} {ps : List (Nat × Nat)}
theorem take_succ (hb : row[i]? = some b) : row.take (i + 1) = row.take i ++ [b] := by rw [List.take_add_one, hb]; rfl
theorem RowI.conB (h : RowI row i cl op ps) (hb : row[i]? = some b) (p : Nat × Nat) : ∀ x ∈ op ++ [b], ∀ y ∈ op ++ [b], Con ((ps ++ [p]).map blp) x y := by
  have k : ∀ x ∈ op, Con ((ps ++ [p]).map blp) x b := fun x hx => by
    obtain ⟨a, ha, c, hc, hp⟩ := h.last (by intro e; rw [e] at hx; cases hx)
    rw [hb] at hc
    cases hc
    exact (Con.more (h.conO x hx a ha)).trans (.pair (List.mem_map.mpr ⟨(a, b), List.mem_append_left _ hp, rfl⟩))
  intro x hx y hy
  rcases List.mem_append.mp hx with z | z <;> rcases List.mem_append.mp hy with z' | z'
  · exact Con.more (h.conO x z y z')
  · rw [List.mem_singleton.mp z']; exact k x z
  · rw [List.mem_singleton.mp z]; exact (k y z').symm
  · rw [List.mem_singleton.mp z, List.mem_singleton.mp z']; exact .rfl _
theorem RowI.close (h : RowI row i cl op ps) (hb : row[i]? = some b) : RowI row (i + 1) (cl ++ [op ++ [b]]) [] (ps ++ [(b, b)]) := by
  refine ⟨?_, ?_, ?_, fun a ha => (by cases ha), fun e => absurd rfl e, ?_, ?_, by rw [List.length_append, h.len]; rfl⟩
  · rw [take_succ hb, ← h.flat]; simp
  · intro st hst
    rcases List.mem_append.mp hst with z | z
    · exact h.ne st z
    · rw [List.mem_singleton.mp z]; simp
  · intro st hst x hx y hy
    rcases List.mem_append.mp hst with z | z
    · exact Con.more (h.con st z x hx y hy)
    · rw [List.mem_singleton.mp z] at hx hy
      exact h.conB hb _ x hx y hy
  · intro p hp
    rcases List.mem_append.mp hp with z | z
    · rcases h.only p z with ⟨st, h1, h2⟩ | ⟨h1, h2⟩
      · exact .inl ⟨st, List.mem_append_left _ h1, h2⟩
      · refine .inl ⟨_, List.mem_append_right _ (List.mem_singleton.mpr rfl), List.mem_append_left _ h1, ?_⟩
        rcases h2 with h2 | h2
        · exact List.mem_append_left _ h2
        · rw [hb] at h2; cases h2; exact List.mem_append_right _ (List.mem_singleton.mpr rfl)
    · rw [List.mem_singleton.mp z]
      exact .inl ⟨_, List.mem_append_right _ (List.mem_singleton.mpr rfl), by simp, by simp⟩
  · intro a ha
    rw [take_succ hb] at ha
    rcases List.mem_append.mp ha with z | z
    · obtain ⟨c, hc⟩ := h.dom a z
      exact ⟨c, List.mem_append_left _ hc⟩
    · rw [List.mem_singleton.mp z]; exact ⟨b, by simp⟩
theorem RowI.go {c : Nat} (h : RowI row i cl op ps) (hb : row[i]? = some b) (hc : row[i + 1]? = some c) : RowI row (i + 1) cl (op ++ [b]) (ps ++ [(b, c)]) := by
  refine ⟨?_, h.ne, ?_, h.conB hb _, fun e => ⟨b, by simp, c, hc, by simp⟩, ?_, ?_, by rw [List.length_append, h.len]; rfl⟩
  · rw [take_succ hb, ← h.flat]; simp
  · intro st hst x hx y hy
    exact Con.more (h.con st hst x hx y hy)
  · intro p hp
    rcases List.mem_append.mp hp with z | z
    · rcases h.only p z with ⟨st, h1, h2⟩ | ⟨h1, h2⟩
      · exact .inl ⟨st, h1, h2⟩
      · refine .inr ⟨List.mem_append_left _ h1, .inl ?_⟩
        rcases h2 with h2 | h2
        · exact List.mem_append_left _ h2
        · rw [hb] at h2; cases h2; exact List.mem_append_right _ (List.mem_singleton.mpr rfl)
    · rw [List.mem_singleton.mp z]
      exact .inr ⟨by simp, .inr hc⟩
  · intro a ha
    rw [take_succ hb] at ha
    rcases List.mem_append.mp ha with z | z
    · obtain ⟨c, hc⟩ := h.dom a z
      exact ⟨c, List.mem_append_left _ hc⟩
    · rw [List.mem_singleton.mp z]; exact ⟨c, by simp⟩
end
theorem one_of : ∀ {sts : List (List Nat)}, sts.flatten.Nodup → ∀ {st st' : List Nat} {b : Nat}, st ∈ sts → st' ∈ sts → b ∈ st → b ∈ st' → st = st'
  | [], _, _, _, _, h, _, _, _ => by cases h
  | s :: sts, hn, st, st', b, h, h', hb, hb' => by
    rw [List.flatten_cons, List.nodup_append] at hn
    obtain ⟨n1, n2, n3⟩ := hn
    rcases List.mem_cons.mp h with e | e <;> rcases List.mem_cons.mp h' with e' | e'
    · rw [e, e']
    · subst e
      exact absurd rfl (n3 b hb b (List.mem_flatten.mpr ⟨st', e', hb'⟩))
    · subst e'
      exact absurd rfl (n3 b hb' b (List.mem_flatten.mpr ⟨st, e, hb⟩))
    · exact one_of n2 e e' hb hb'
/-- all that was built -/
structure Built (row : List Nat) (cl : List (List Nat)) (ps : List (Nat × Nat)) (ends : List (Nat × Str)) (qs : List (Tm × Tm)) : Prop where
  ri : RowI row row.length cl [] ps
  nd : row.Nodup
  lo : 2 ≤ row.length
  hi : row.length ≤ 250
  few : ends.length ≤ 3
  endB : ∀ e ∈ ends, e.1 ∈ row
  endN : ∀ e ∈ ends, NameS e.2
  mix : Mix (ps.map blp ++ ends.map ndp) qs
section
variable {row : List Nat} {cl : List (List Nat)} {ps : List (Nat × Nat)} {ends : List (Nat × Str)} {qs : List (Tm × Tm)}
theorem Built.flat (h : Built row cl ps ends qs) : cl.flatten = row := by
  have := h.ri.flat
  rw [List.append_nil, List.take_length] at this
  exact this
theorem Built.kind (h : Built row cl ps ends qs) {q : Tm × Tm} (hq : q ∈ qs) : (∃ p ∈ ps, q = blp p ∨ q = flip2 (blp p)) ∨ ∃ e ∈ ends, q = ndp e ∨ q = flip2 (ndp e) := by
  rcases h.mix.of q hq with z | z
  · rcases List.mem_append.mp z with y | y
    · obtain ⟨p, hp, rfl⟩ := List.mem_map.mp y; exact .inl ⟨p, hp, .inl rfl⟩
    · obtain ⟨p, hp, rfl⟩ := List.mem_map.mp y; exact .inr ⟨p, hp, .inl rfl⟩
  · rcases List.mem_append.mp z with y | y
    · obtain ⟨p, hp, e⟩ := List.mem_map.mp y; exact .inl ⟨p, hp, .inr (by rw [e]; rfl)⟩
    · obtain ⟨p, hp, e⟩ := List.mem_map.mp y; exact .inr ⟨p, hp, .inr (by rw [e]; rfl)⟩
theorem Built.pair (h : Built row cl ps ends qs) {a b : Nat} (hq : (P15.Tm.bl a, P15.Tm.bl b) ∈ qs) : (a, b) ∈ ps ∨ (b, a) ∈ ps := by
  rcases h.kind hq with ⟨p, hp, e | e⟩ | ⟨e, he, z | z⟩
  · cases e; exact .inl hp
  · cases e; exact .inr hp
  · cases z
  · cases z
theorem Built.con (h : Built row cl ps ends qs) {st : List Nat} (hs : st ∈ cl) {a b : Nat} (ha : a ∈ st) (hb : b ∈ st) : Con qs a b := by
  refine Con.to (fun a b e => ?_) (h.ri.con st hs a ha b hb)
  rcases h.mix.has _ (List.mem_append_left _ e) with z | z
  · exact .pair z
  · exact .symm (.pair z)
theorem Built.same (h : Built row cl ps ends qs) {a b : Nat} (g : Con qs a b) : a = b ∨ ∃ st ∈ cl, a ∈ st ∧ b ∈ st := by
  induction g with
  | rfl a => exact .inl rfl
  | @pair a b e =>
    rcases h.pair e with z | z
    · rcases h.ri.only _ z with ⟨st, h1, h2, h3⟩ | ⟨h1, _⟩
      · exact .inr ⟨st, h1, h2, h3⟩
      · cases h1
    · rcases h.ri.only _ z with ⟨st, h1, h2, h3⟩ | ⟨h1, _⟩
      · exact .inr ⟨st, h1, h3, h2⟩
      · cases h1
  | symm _ ih =>
    rcases ih with e | ⟨st, h1, h2, h3⟩
    · exact .inl e.symm
    · exact .inr ⟨st, h1, h3, h2⟩
  | trans _ _ ih1 ih2 =>
    rcases ih1 with e | ⟨st, h1, h2, h3⟩
    · rw [e]; exact ih2
    · rcases ih2 with e | ⟨st', h1', h2', h3'⟩
      · rw [← e]; exact .inr ⟨st, h1, h2, h3⟩
      · have := one_of (by rw [h.flat]; exact h.nd) h1 h1' h3 h2'
        subst this
        exact .inr ⟨st, h1, h2, h3'⟩
theorem Built.in_ (h : Built row cl ps ends qs) {st : List Nat} (hs : st ∈ cl) {a b : Nat} (ha : a ∈ st) (g : Con qs a b) : b ∈ st := by
  rcases h.same g with e | ⟨st', h1, h2, h3⟩
  · rw [← e]; exact ha
  · rw [one_of (by rw [h.flat]; exact h.nd) hs h1 ha h2]; exact h3
theorem Built.end_ (h : Built row cl ps ends qs) {b : Nat} {x : Str} : End qs b x ↔ (b, x) ∈ ends := by
  constructor
  · rintro (z | z)
    · rcases h.kind z with ⟨p, hp, e | e⟩ | ⟨e, he, y | y⟩
      · cases e
      · cases e
      · cases y; exact he
      · cases y
    · rcases h.kind z with ⟨p, hp, e | e⟩ | ⟨e, he, y | y⟩
      · cases e
      · cases e
      · cases y
      · cases y; exact he
  · intro he
    rcases h.mix.has _ (List.mem_append_right _ (List.mem_map.mpr ⟨_, he, rfl⟩)) with z | z
    · exact .inl z
    · exact .inr z
theorem Built.some_st (h : Built row cl ps ends qs) {b : Nat} (hb : b ∈ row) : ∃ st ∈ cl, b ∈ st := by
  rw [← h.flat] at hb
  exact List.mem_flatten.mp hb
theorem Built.clash (h : Built row cl ps ends qs) : Clash qs ↔ ∃ st ∈ cl, Bad ends st := by
  constructor
  · rintro ⟨b, x, y, ⟨a, c1, e1⟩, ⟨a', c2, e2⟩, ne⟩
    have m1 := h.end_.mp e1
    have m2 := h.end_.mp e2
    obtain ⟨st, hs, ha⟩ := h.some_st (h.endB _ m1)
    exact ⟨st, hs, _, m1, _, m2, ha, h.in_ hs ha (c1.symm.trans c2), ne⟩
  · rintro ⟨st, hs, e1, m1, e2, m2, h1, h2, ne⟩
    exact ⟨e1.1, e1.2, e2.2, ⟨e1.1, .rfl _, h.end_.mpr m1⟩, ⟨e2.1, h.con hs h1 h2, h.end_.mpr m2⟩, ne⟩
theorem Built.due (h : Built row cl ps ends qs) {st : List Nat} (hs : st ∈ cl) {b : Nat} (hb : b ∈ st) {t : Tm} (g : GoodT ends st t) : Due qs b t := by
  refine ⟨fun x ⟨a, c, e⟩ => g.name (a, x) (h.end_.mp e) (h.in_ hs hb c), fun hno => ?_⟩
  obtain ⟨mn, e1, e2, e3⟩ := g.none fun e he hin => hno e.2 ⟨e.1, h.con hs hb hin, h.end_.mpr he⟩
  exact ⟨mn, e1, h.con hs hb e2, fun a c => e3 a (h.in_ hs hb c)⟩
theorem Built.leaf (h : Built row cl ps ends qs) {q : Tm × Tm} (hq : q ∈ qs) : (OkT q.1 ∧ OkT q.2) ∧ (dep q.1 ≤ 1 ∧ dep q.2 ≤ 1) ∧ (siz q.1 ≤ 1 ∧ siz q.2 ≤ 1) ∧ wt q.1 q.2 ≤ 3 := by
  have d0 : ∀ b : Nat, dep (P15.Tm.bl b : Tm) ≤ 1 := fun b => by show 0 ≤ 1; decide
  have s1 : ∀ b : Nat, siz (P15.Tm.bl b : Tm) ≤ 1 := fun b => Nat.le_refl _
  have d1 : ∀ x : Str, dep (nam x) ≤ 1 := fun b => by show 0 + 1 ≤ 1; decide
  have s2 : ∀ x : Str, siz (nam x) ≤ 1 := fun b => by show 0 + 1 ≤ 1; decide
  rcases h.kind hq with ⟨p, hp, rfl | rfl⟩ | ⟨e, he, rfl | rfl⟩
  · exact ⟨⟨.bl _, .bl _⟩, ⟨d0 _, d0 _⟩, ⟨s1 _, s1 _⟩, Nat.le_refl _⟩
  · exact ⟨⟨.bl _, .bl _⟩, ⟨d0 _, d0 _⟩, ⟨s1 _, s1 _⟩, Nat.le_refl _⟩
  · exact ⟨⟨.bl _, ok_nam (h.endN e he)⟩, ⟨d0 _, d1 _⟩, ⟨s1 _, s2 _⟩, Nat.le_refl _⟩
  · exact ⟨⟨ok_nam (h.endN e he), .bl _⟩, ⟨d1 _, d0 _⟩, ⟨s2 _, s1 _⟩, Nat.le_refl _⟩
theorem Built.len (h : Built row cl ps ends qs) : 1 ≤ qs.length ∧ qs.length ≤ 253 := by
  have e := h.mix.len
  rw [List.length_append, List.length_map, List.length_map, h.ri.len] at e
  have := h.lo; have := h.hi; have := h.few
  omega
theorem Built.two (h : Built row cl ps ends qs) {x : Str} (hx : NameS x) : Two qs (treeF x 2 (qs.map (·.1))) (treeF x 2 (qs.map (·.2))) := by
  obtain ⟨l1, l2⟩ := h.len
  have l3 : qs.length ≤ 9 ^ (2 + 1) := Nat.le_trans l2 (by decide)
  refine ⟨fun q hq => ?_, ?_, ?_, ?_, ?_, ?_, ?_, ?_, ?_, ?_, ?_⟩
  · rcases h.kind hq with ⟨p, hp, rfl | rfl⟩ | ⟨e, he, rfl | rfl⟩
    · exact .inl ⟨_, _, rfl⟩
    · exact .inl ⟨_, _, rfl⟩
    · exact .inr (.inl ⟨_, _, rfl⟩)
    · exact .inr (.inr ⟨_, _, rfl⟩)
  · exact tree_from x (·.1) (·.2) 2 qs l1 l3 fun a ha => .leaf ha
  · exact tree_reach x (·.1) (·.2) 2 qs l1 l3 .self
  · exact tree_ok x (·.1) hx 2 qs l1 l3 fun a ha => (h.leaf ha).1.1
  · exact tree_ok x (·.2) hx 2 qs l1 l3 fun a ha => (h.leaf ha).1.2
  · exact Nat.le_trans (tree_dep x (·.1) 2 qs l1 l3 fun a ha => (h.leaf ha).2.1.1) (by decide)
  · exact Nat.le_trans (tree_dep x (·.2) 2 qs l1 l3 fun a ha => (h.leaf ha).2.1.2) (by decide)
  · exact Nat.le_trans (tree_wt x (·.1) (·.2) 2 qs l1 l3 fun a ha => (h.leaf ha).2.2.2) (by omega)
  · exact Nat.le_trans (tree_siz x (·.1) 2 qs l1 l3 fun a ha => (h.leaf ha).2.2.1.1) (by omega)
  · exact Nat.le_trans (tree_siz x (·.2) 2 qs l1 l3 fun a ha => (h.leaf ha).2.2.1.2) (by omega)
  · intro b y ⟨a, c, e⟩
    exact h.endN _ (h.end_.mp e)
theorem occ_bl {b c : Nat} : Occ b (P15.Tm.bl c) ↔ b = c := ⟨fun h => by cases h; rfl, fun h => h ▸ .here⟩
theorem occ_nam {b : Nat} {x : Str} : ¬ Occ b (nam x) := fun h => by cases h with | sub h _ => cases h
theorem Built.occ (h : Built row cl ps ends qs) (x : Str) (b : Nat) : b ∈ row ↔ Occ b (treeF x 2 (qs.map (·.1))) ∨ Occ b (treeF x 2 (qs.map (·.2))) := by
  obtain ⟨l1, l2⟩ := h.len
  have l3 : qs.length ≤ 9 ^ (2 + 1) := Nat.le_trans l2 (by decide)
  rw [tree_occ x b 2 _ (by rw [List.length_map]; exact l1) (by rw [List.length_map]; exact l3), tree_occ x b 2 _ (by rw [List.length_map]; exact l1) (by rw [List.length_map]; exact l3)]
  have inrow : ∀ p ∈ ps, p.1 ∈ row ∧ p.2 ∈ row := fun p hp => by
    rcases h.ri.only p hp with ⟨st, h1, h2, h3⟩ | ⟨h1, _⟩
    · rw [← h.flat]
      exact ⟨List.mem_flatten.mpr ⟨st, h1, h2⟩, List.mem_flatten.mpr ⟨st, h1, h3⟩⟩
    · cases h1
  have main : ∀ q ∈ qs, (Occ b q.1 → b ∈ row) ∧ (Occ b q.2 → b ∈ row) := fun q hq => by
    rcases h.kind hq with ⟨p, hp, rfl | rfl⟩ | ⟨e, he, rfl | rfl⟩
    · exact ⟨fun z => by rw [occ_bl.mp z]; exact (inrow p hp).1, fun z => by rw [occ_bl.mp z]; exact (inrow p hp).2⟩
    · exact ⟨fun z => by rw [occ_bl.mp z]; exact (inrow p hp).2, fun z => by rw [occ_bl.mp z]; exact (inrow p hp).1⟩
    · exact ⟨fun z => by rw [occ_bl.mp z]; exact h.endB e he, fun z => absurd z occ_nam⟩
    · exact ⟨fun z => absurd z occ_nam, fun z => by rw [occ_bl.mp z]; exact h.endB e he⟩
  constructor
  · intro hb
    obtain ⟨c, hc⟩ := h.ri.dom b (by rw [List.take_length]; exact hb)
    rcases h.mix.has _ (List.mem_append_left _ (List.mem_map.mpr ⟨_, hc, rfl⟩)) with z | z
    · exact .inl ⟨_, List.mem_map.mpr ⟨_, z, rfl⟩, .here⟩
    · exact .inr ⟨_, List.mem_map.mpr ⟨_, z, rfl⟩, .here⟩
  · rintro (⟨t, ht, ho⟩ | ⟨t, ht, ho⟩)
    · obtain ⟨q, hq, rfl⟩ := List.mem_map.mp ht
      exact (main q hq).1 ho
    · obtain ⟨q, hq, rfl⟩ := List.mem_map.mp ht
      exact (main q hq).2 ho
theorem Built.dueD (h : Built row cl ps ends qs) (x : Str) {l : List (Nat × Tm)} (hk : l.map (·.1) = cl.flatten) (hg : ∀ p ∈ l, ∃ st ∈ cl, p.1 ∈ st ∧ GoodT ends st p.2) : DueD qs (treeF x 2 (qs.map (·.1))) (treeF x 2 (qs.map (·.2))) l := by
  refine ⟨by rw [hk, h.flat]; exact h.nd, fun b => by rw [hk, h.flat]; exact h.occ x b, fun p hp => ?_⟩
  obtain ⟨st, hs, hb, g⟩ := hg p hp
  exact h.due hs hb g
theorem Built.flip (h : Built row cl ps ends qs) : Built row cl ps ends (qs.map flip2) := by
  refine ⟨h.ri, h.nd, h.lo, h.hi, h.few, h.endB, h.endN, ?_⟩
  refine h.mix.trans ⟨by simp, fun q hq => ?_, fun p hp => .inr ?_⟩
  · obtain ⟨p, hp, rfl⟩ := List.mem_map.mp hq
    exact .inr hp
  · exact List.mem_map.mpr ⟨p, hp, rfl⟩
end
end K15
set_option Elab.async false
set_option linter.all false
set_option maxRecDepth 100000
set_option maxHeartbeats 4000000
namespace K15
open PySem PySem.Spec PyProof.Rows L2 Qd
open P15 (Flat From Inv Cov Reach Named Clash Con End)
theorem if_or {t1 t2 : WT} {w u : WS} {G : Go} {env : Slots} {S : Store} {X : XQ} (h : t1 env S (fun b S1 => if b = true then w G env S1 X else t2 env S1 (fun c S2 => if c = true then w G env S2 X else u G env S2 X) X) X) : wIf (wOrT t1 t2) w u G env S X := by
  unfold wIf wOrT
  simp only [if_true]
  exact h
theorem flat_len {sts : List (List Nat)} (h : ∀ st ∈ sts, st ≠ []) : sts.length ≤ sts.flatten.length := by
  induction sts with
  | nil => exact Nat.zero_le _
  | cons s sts ih =>
    rw [List.flatten_cons, List.length_cons, List.length_append]
    have h1 := ih fun st hst => h st (List.mem_cons_of_mem _ hst)
    have h2 := List.length_pos_iff.mpr (h s List.mem_cons_self)
    omega
structure RowS (S0 S : Store) (sn pn : Nat) (cs : List Nat) (oc : Nat) (cl : List (List Nat)) (op : List Nat) (ps : List (Nat × Nat)) : Prop where
  sub : Sub S0 S
  s6 : S[sn]? = some (.lst true ((cs ++ [oc]).map D.loc))
  s7 : S[pn]? = some (.lst true ((ps.map blp).map pairD))
  len : cs.length = cl.length
  at_ : ∀ (j c : Nat) (st : List Nat), cs[j]? = some c → cl[j]? = some st → S[c]? = some (.lst true (st.map natD))
  ao : S[oc]? = some (.lst true (op.map natD))
  far : ∀ c ∈ cs ++ [oc], S0.length ≤ c ∧ c ≠ sn ∧ c ≠ pn
  new : oc ∉ cs
theorem row_loop {rn cn sn pn : Nat} {row cuts : List Nat} {S0 T : Store} {G : Go} {X : XQ} {x0 x1 x2 x4 x8 x9 x10 x11 x12 x13 x14 x15 : Option D} {oc : Nat}
    (hrow : S0[rn]? = some (.lst true (row.map natD))) (hcuts : S0[cn]? = some (.lst true (cuts.map natD))) (hrl : row.length ≤ 250) (hsn : S0.length ≤ sn) (hpn : S0.length ≤ pn) (hsp : sn ≠ pn) (h0 : RowS S0 T sn pn [] oc [] [] [])
    (k : ∀ x8 x9 cs oc cl ps T', RowS S0 T' sn pn cs oc cl [] ps → RowI row row.length cl [] ps → G.nx [x0, x1, x2, some (.loc rn), x4, some (.loc cn), some (.loc sn), some (.loc pn), x8, x9, x10, x11, x12, x13, x14, x15] T') :
    wLoop (gTp (g2 8 9)) (wSeq (wDrop (wLm fAppend (wOp fIx (wVar 6) (wUn fNeg (wC (.int 1)))) (wCons (wVar 9) wNil)))
        (wIf (wOrT (wTest (wOp (fInA false) (wVar 8) (wVar 5))) (wTest (wOp (fEq false) (wVar 8) (wOp fSub (wCB fLen (wCons (wVar 3) wNil)) (wC (.int 1))))))
          (wSeq (wDrop (wLm fAppend (wVar 7) (wCons (wTup (wCons (wVar 9) (wCons (wVar 9) wNil))) wNil))) (wDrop (wLm fAppend (wVar 6) (wCons (wLst wNil) wNil))))
          (wDrop (wLm fAppend (wVar 7) (wCons (wTup (wCons (wVar 9) (wCons (wOp fIx (wVar 3) (wOp fAdd (wVar 8) (wC (.int 1)))) wNil))) wNil)))))
      (fun s => ∃ w, s[rn]? = some (.lst w (row.map natD))) G X ((row.map natD).mapIdx fun i d => .tup [.int ((i : Nat) : Int), d]) [x0, x1, x2, some (.loc rn), x4, some (.loc cn), some (.loc sn), some (.loc pn), x8, x9, x10, x11, x12, x13, x14, x15] T := by
  have lr := (List.getElem?_eq_some_iff.mp hrow).1
  have lc := (List.getElem?_eq_some_iff.mp hcuts).1
  refine loop_by (fun i e S' => ∃ (x8 x9 : Option D) (cs : List Nat) (oc : Nat) (cl : List (List Nat)) (op : List Nat) (ps : List (Nat × Nat)), e = [x0, x1, x2, some (.loc rn), x4, some (.loc cn), some (.loc sn), some (.loc pn), x8, x9, x10, x11, x12, x13, x14, x15] ∧ RowS S0 S' sn pn cs oc cl op ps ∧ RowI row i cl op ps)
    ⟨x8, x9, [], oc, [], [], [], rfl, h0, RowI.start row⟩ (fun i e S' ⟨_, _, _, _, _, _, _, _, h, _⟩ => ⟨true, h.sub _ _ hrow⟩) (fun i dd hd e S' h R hR => ?_) (fun e S' h => ?_)
  · obtain ⟨y8, y9, cs, oc, cl, op, ps, rfl, hS, hI⟩ := h
    rw [List.getElem?_mapIdx, List.getElem?_map] at hd
    cases hb : row[i]? with
    | none => rw [hb] at hd; cases hd
    | some b =>
      rw [hb] at hd
      cases hd
      have hi := (List.getElem?_eq_some_iff.mp hb).1
      have fo := hS.far oc (by simp)
      have lo := (List.getElem?_eq_some_iff.mp hS.ao).1
      have hopl : op.length ≤ 250 := by
        have := congrArg List.length hI.flat
        rw [List.length_append, List.length_take] at this
        omega
      have hlast : atI ((cs ++ [oc]).map D.loc) (-1) = some (.loc oc) := by
        unfold L2.atI L2.ixN
        rw [if_neg (by decide), if_pos (by simp; omega)]
        show ((cs ++ [oc]).map D.loc)[_]? = _
        have e : ((-1 : Int) + ((((cs ++ [oc]).map D.loc).length : Nat) : Int)).toNat = cs.length := by simp; omega
        rw [e, List.getElem?_map, List.getElem?_append_right (Nat.le_refl _)]
        simp
      refine ⟨_, rfl, true, _, .loc oc, hS.s6, hlast, ⟨true, _, hS.ao⟩, _, rfl, _, hS.ao, by rw [List.length_map]; exact Nat.lt_of_le_of_lt (by omega : _ ≤ 10 ^ 6) million, ?_⟩
      obtain ⟨S1, hS1⟩ : ∃ S1, S1 = S'.set oc (.lst true (op.map natD ++ [natD b])) := ⟨_, rfl⟩
      rw [← hS1]
      have s1 : Sub S0 S1 := by rw [hS1]; exact Sub_setN hS.sub fo.1
      have pl : ((ps.map blp).map pairD).length < lineD := by
        rw [List.length_map, List.length_map, hI.len]
        exact Nat.lt_of_le_of_lt (by omega : _ ≤ 10 ^ 6) million
      have lsn := (List.getElem?_eq_some_iff.mp hS.s6).1
      have lpn := (List.getElem?_eq_some_iff.mp hS.s7).1
      have l1 : S1.length = S'.length := by rw [hS1, List.length_set]
      have h6 : S1[sn]? = some (.lst true ((cs ++ [oc]).map D.loc)) := by rw [hS1, List.getElem?_set_ne fo.2.1]; exact hS.s6
      have h7 : S1[pn]? = some (.lst true ((ps.map blp).map pairD)) := by rw [hS1, List.getElem?_set_ne fo.2.2]; exact hS.s7
      have ho : S1[oc]? = some (.lst true ((op ++ [b]).map natD)) := by rw [hS1, List.map_append]; exact List.getElem?_set_self lo
      have hat : ∀ (j c : Nat) (st : List Nat), cs[j]? = some c → cl[j]? = some st → S1[c]? = some (.lst true (st.map natD)) := fun j c st h1 h2 => by
        have : oc ≠ c := fun e => hS.new (by rw [e]; exact List.mem_of_getElem? h1)
        rw [hS1, List.getElem?_set_ne this]
        exact hS.at_ j c st h1 h2
      have e7 : ∀ q : Nat × Nat, (ps.map blp).map pairD ++ [.tup [natD q.1, natD q.2]] = ((ps ++ [q]).map blp).map pairD := fun q => by rw [List.map_append, List.map_append]; rfl
      have csl : cs.length ≤ 250 := by
        have h1 := hI.flat
        have h2 := congrArg List.length h1
        rw [List.length_append, List.length_take] at h2
        have h3 := flat_len hI.ne
        rw [hS.len]; omega
      dsimp only
      have close : (wSeq (wDrop (wLm fAppend (wVar 7) (wCons (wTup (wCons (wVar 9) (wCons (wVar 9) wNil))) wNil))) (wDrop (wLm fAppend (wVar 6) (wCons (wLst wNil) wNil)))) ⟨R, G.rt, G.nx, R⟩ [x0, x1, x2, some (.loc rn), x4, some (.loc cn), some (.loc sn), some (.loc pn), some (.int ((i : Nat) : Int)), some (natD b), x10, x11, x12, x13, x14, x15] S1 X := by
        refine ⟨_, rfl, ⟨true, _, h7⟩, _, rfl, _, rfl, (show 2 ≤ lineD by decide), _, h7, pl, ?_⟩
        have h6' : (S1.set pn (.lst true ((ps.map blp).map pairD ++ [.tup [natD b, natD b]])))[sn]? = some (.lst true ((cs ++ [oc]).map D.loc)) := by rw [List.getElem?_set_ne (Ne.symm hsp)]; exact h6
        refine ⟨_, rfl, ⟨true, _, h6'⟩, (show 0 ≤ lineD by decide), _, Sub.push _ _ h6', ?_, ?_⟩
        · rw [List.length_map, List.length_append]; exact Nat.lt_of_le_of_lt (by simp; omega : _ ≤ 10 ^ 6) million
        refine hR _ _ ⟨_, _, cs ++ [oc], S1.length, cl ++ [op ++ [b]], [], ps ++ [(b, b)], rfl, ⟨?_, ?_, ?_, ?_, ?_, ?_, ?_, ?_⟩, hI.close hb⟩
        · exact Sub_setN ((Sub_setN s1 hpn).to) hsn
        · rw [List.getElem?_set_self (by simp; omega)]
          simp
        · rw [List.getElem?_set_ne hsp, List.getElem?_append_left (by simp; omega), List.getElem?_set_self (by omega), e7 (b, b)]
        · simp [hS.len]
        · intro j c st g1 g2
          have hc : c ∈ cs ++ [oc] := List.mem_of_getElem? g1
          obtain ⟨f1, f2, f3⟩ := hS.far c hc
          have hS1c : S1[c]? = some (.lst true (st.map natD)) := by
            by_cases hj : j < cs.length
            · rw [List.getElem?_append_left hj] at g1
              rw [List.getElem?_append_left (by rw [← hS.len]; exact hj)] at g2
              exact hat j c st g1 g2
            · have hj' : j = cs.length := by have := (List.getElem?_eq_some_iff.mp g1).1; simp at this; omega
              subst hj'
              rw [List.getElem?_append_right (Nat.le_refl _)] at g1
              rw [List.getElem?_append_right (by rw [hS.len]; exact Nat.le_refl _)] at g2
              simp [hS.len] at g1 g2
              subst g1 g2
              have := ho
              simpa using this
          have lc := (List.getElem?_eq_some_iff.mp hS1c).1
          rw [List.getElem?_set_ne (Ne.symm f2), List.getElem?_append_left (by simp; omega), List.getElem?_set_ne (Ne.symm f3)]
          exact hS1c
        · rw [List.getElem?_set_ne (by omega)]
          have : (S1.set pn (.lst true ((ps.map blp).map pairD ++ [.tup [natD b, natD b]]))).length = S1.length := by simp
          rw [← this]
          exact last_get
        · intro c hc
          rcases List.mem_append.mp hc with z | z
          · exact hS.far c z
          · rw [List.mem_singleton.mp z]
            exact ⟨Sub.len s1, by omega, by omega⟩
        · intro z
          have hlt : S1.length < S1.length := by
            rcases List.mem_append.mp z with y | y
            · obtain ⟨j, hj⟩ := List.mem_iff_getElem?.mp y
              have hj2 : j < cl.length := by rw [← hS.len]; exact (List.getElem?_eq_some_iff.mp hj).1
              exact (List.getElem?_eq_some_iff.mp (hat j _ _ hj (List.getElem?_eq_getElem hj2))).1
            · have := (List.getElem?_eq_some_iff.mp ho).1
              rw [List.mem_singleton.mp y]
              rw [List.mem_singleton.mp y] at this
              omega
          omega
      have go : ∀ c, row[i + 1]? = some c → (wDrop (wLm fAppend (wVar 7) (wCons (wTup (wCons (wVar 9) (wCons (wOp fIx (wVar 3) (wOp fAdd (wVar 8) (wC (.int 1)))) wNil))) wNil))) ⟨R, G.rt, G.nx, R⟩ [x0, x1, x2, some (.loc rn), x4, some (.loc cn), some (.loc sn), some (.loc pn), some (.int ((i : Nat) : Int)), some (natD b), x10, x11, x12, x13, x14, x15] S1 X := by
        intro c hc
        refine ⟨_, rfl, ⟨true, _, h7⟩, _, rfl, _, rfl, _, rfl, true, _, natD c, s1 _ _ hrow, ?_, (show 2 ≤ lineD by decide), _, h7, pl, ?_⟩
        · show atI _ (((i : Nat) : Int) + 1) = _
          rw [show ((i : Nat) : Int) + 1 = ((i + 1 : Nat) : Int) by omega]
          exact atN (by rw [List.getElem?_map, hc]; rfl)
        refine hR _ _ ⟨_, _, cs, oc, cl, op ++ [b], ps ++ [(b, c)], rfl, ⟨?_, ?_, ?_, hS.len, ?_, ?_, hS.far, hS.new⟩, hI.go hb hc⟩
        · exact Sub_setN s1 hpn
        · rw [List.getElem?_set_ne (Ne.symm hsp)]; exact h6
        · rw [List.getElem?_set_self (by omega), e7 (b, c)]
        · intro j d st g1 g2
          have hd : d ∈ cs ++ [oc] := List.mem_append_left _ (List.mem_of_getElem? g1)
          rw [List.getElem?_set_ne (Ne.symm (hS.far d hd).2.2)]
          exact hat j d st g1 g2
        · rw [List.getElem?_set_ne (Ne.symm fo.2.2)]; exact ho
      refine if_or ?_
      refine ⟨_, rfl, _, rfl, in_nats (b := i) (s1 _ _ hcuts) ?_⟩
      by_cases hin : i ∈ cuts
      · rw [decide_eq_true hin]
        refine iteB (fun _ => close) fun h => by cases h
      · rw [decide_eq_false hin]
        refine iteB (fun h => by cases h) fun _ => ?_
        refine ⟨_, rfl, _, rfl, true, _, s1 _ _ hrow, ?_⟩
        dsimp only [wC]
        rw [List.length_map]
        simp only [fSub]
        refine feq_int (b := decide (i = row.length - 1)) ?_ ?_
        · by_cases h : i = row.length - 1
          · rw [decide_eq_true h, decide_eq_true (by omega)]
          · rw [decide_eq_false h, decide_eq_false (by omega)]
        by_cases h : i = row.length - 1
        · rw [decide_eq_true h]
          exact iteB (fun _ => close) fun h => by cases h
        · rw [decide_eq_false h]
          exact iteB (fun h => by cases h) fun _ => go row[i + 1] (List.getElem?_eq_getElem (by omega))
  · obtain ⟨y8, y9, cs, oc, cl, op, ps, rfl, hS, hI⟩ := h
    rw [List.length_mapIdx, List.length_map] at hI
    have hop : op = [] := by
      cases op with
      | nil => rfl
      | cons a op =>
        obtain ⟨_, _, c, hc, _⟩ := hI.last (by simp)
        rw [List.getElem?_eq_none (Nat.le_refl _)] at hc
        cases hc
    subst hop
    exact k _ _ _ _ _ _ _ hS hI
end K15
set_option Elab.async false
set_option linter.all false
set_option maxRecDepth 100000
set_option maxHeartbeats 4000000
namespace K15
open PySem PySem.Spec PyProof.Rows L2 Qd
open P15 (Flat From Inv Cov Reach Named Clash Con End)
theorem kp_get {p o n : Nat} {S T : Store} {c : Cell} (h : Kp p o S T) (h1 : n ≠ p) (h2 : n ≠ o) (g : S[n]? = some c) : T[n]? = some c := by
  have := h n c (by rw [hide_get h1 h2]; exact g)
  rw [hide_get h1 h2] at this
  exact this
theorem list_of {α : Type} {P : α → Prop} {f : α → D} : ∀ {ys : List D}, (∀ (i : Nat) (y : D), ys[i]? = some y → ∃ e, P e ∧ y = f e) → ∃ es : List α, ys = es.map f ∧ ∀ e ∈ es, P e
  | [], _ => ⟨[], rfl, fun e h => (by cases h)⟩
  | y :: ys, h => by
    obtain ⟨es, h1, h2⟩ := list_of (ys := ys) fun i z hz => h (i + 1) z hz
    obtain ⟨e, he, hy⟩ := h 0 y rfl
    refine ⟨e :: es, by rw [hy, h1]; rfl, fun x hx => ?_⟩
    rcases List.mem_cons.mp hx with z | z
    · rw [z]; exact he
    · exact h2 x z
/-- a list behind the pot -/
structure Ls (p o : Nat) (S : Store) (n : Nat) (ds : List D) : Prop where
  get : S[n]? = some (.lst true ds)
  np : n ≠ p
  no : n ≠ o
theorem Ls.kp {p o n : Nat} {S T : Store} {ds : List D} (h : Ls p o S n ds) (k : Kp p o S T) : Ls p o T n ds := ⟨kp_get k h.np h.no h.get, h.np, h.no⟩
theorem Ls.of {p o n : Nat} {S : Store} {ds : List D} (h : (hide p o S)[n]? = some (.lst true ds)) : Ls p o S n ds := by
  obtain ⟨h1, h2, h3⟩ := hide_data h (by intro e; cases e)
  exact ⟨h1, h2, h3⟩
theorem Ls.hid {p o n : Nat} {S : Store} {ds : List D} (h : Ls p o S n ds) : (hide p o S)[n]? = some (.lst true ds) := by rw [hide_get h.np h.no]; exact h.get
def DueOK (cl : List (List Nat)) (ends : List (Nat × Str)) (qs : List (Tm × Tm)) (T : Store) (dv : D) : Prop := (Clash qs ∧ dv = .non) ∨ (¬ Clash qs ∧ ∃ (n : Nat) (l : List (Nat × Tm)), dv = .loc n ∧ T[n]? = some (.dK true (encD toD l)) ∧ l.map (·.1) = cl.flatten ∧ ∀ p ∈ l, ∃ st ∈ cl, p.1 ∈ st ∧ GoodT ends st p.2)
theorem Due.flip {qs : List (Tm × Tm)} : Clash (qs.map flip2) ↔ Clash (qs.map flip2) := Iff.rfl
theorem flt_loc {oc : Nat} : ∀ {cs : List Nat}, oc ∉ cs → (((cs ++ [oc]).map D.loc).filter fun d => match d with | .loc c => decide (c ≠ oc) | _ => false) = cs.map D.loc
  | [], _ => by simp
  | c :: cs, h => by
    have h1 : c ≠ oc := fun e => h (by rw [e]; exact List.mem_cons_self)
    have ih := flt_loc (oc := oc) (cs := cs) fun z => h (List.mem_cons_of_mem _ z)
    rw [List.cons_append, List.map_cons, List.filter_cons, if_pos (by simp [h1]), ih, List.map_cons]
theorem lc_pick {Q : List D → Store → Prop} {X : XQ} {env : Slots} {still : Store → Prop} {S : Store} {qs : List (Tm × Tm)} {k : Nat} {f : Tm × Tm → Tm} (hk : ∀ q, atI [toD q.1, toD q.2] ((k : Nat) : Int) = some (toD (f q))) (hl : qs.length ≤ 1000) (hs : still S) (h15 : 15 < env.length) (q : Q ((qs.map f).map toD) S) :
    wLcL (gNm 15) wYes (wOp fIx (wVar 15) (wC (.int ((k : Nat) : Int)))) env still Q X (qs.map pairD) [] S := by
  refine lc_yes (fun _ S' => S' = S) (fun i d y => ∃ p, qs[i]? = some p ∧ y = toD (f p)) rfl (by rw [List.length_map]; exact Nat.le_trans (by omega : _ ≤ 10 ^ 6) (Nat.le_of_lt million)) (fun _ S' h => by rw [h]; exact hs) (fun i d hd S' h R1 hR1 => ?_) (fun ys S' hly hy h => ?_)
  · subst h
    rw [List.getElem?_map] at hd
    cases hq : qs[i]? with
    | none => rw [hq] at hd; cases hd
    | some p =>
      rw [hq] at hd
      cases hd
      exact ⟨pairD p, List.getElem?_set_self h15, toD (f p), hk p, hR1 _ _ ⟨p, hq, rfl⟩ rfl⟩
  · subst h
    rw [List.length_map] at hly
    have ey : ys = (qs.map f).map toD := by
      refine List.ext_getElem? fun i => ?_
      by_cases hi : i < qs.length
      · have e1 : ys[i]? = some ys[i] := List.getElem?_eq_getElem (by omega)
        have e2 : qs[i]? = some qs[i] := List.getElem?_eq_getElem hi
        obtain ⟨p, g1, g2⟩ := hy i (pairD qs[i]) _ (by rw [List.getElem?_map, e2]; rfl) e1
        rw [e1, g2, List.map_map, List.getElem?_map, g1]
        rfl
      · rw [List.getElem?_eq_none (by omega), List.getElem?_eq_none (by simp; omega)]
    rw [ey]
    exact q
theorem law_tail {nn qn : Nat} {names : List Str} {row : List Nat} {cl : List (List Nat)} {ps : List (Nat × Nat)} {ends : List (Nat × Str)} {qs : List (Tm × Tm)} {dv : D} {G : Go} {S : Store} {x0 x1 x2 x3 x5 x6 x8 x9 x10 x12 x13 x14 x15 : Option D}
    (hbu : Built row cl ps ends qs) (hn3 : names.length = 3) (hns : ∀ x ∈ names, NameS x) (Ln : S[nn]? = some (.lst true (names.map D.str))) (Lq : S[qn]? = some (.lst true (qs.map pairD))) (hd : DueOK cl ends qs S dv)
    (k : ∀ x12 x13 T, Sub S T → G.nx [x0, x1, x2, x3, some (.loc nn), x5, x6, some (.loc qn), x8, x9, x10, some dv, x12, x13, x14, x15] T) :
    wSeq (wSet 12 (wCall (cTree 2) [] (wCons (wOp fIx (wVar 4) (wC (.int 0))) (wCons (wLc (iLst (wVar 7)) (gNm 15) wYes (wOp fIx (wVar 15) (wC (.int 0))) [15]) wNil))))
      (wSeq (wSet 13 (wCall (cTree 2) [] (wCons (wOp fIx (wVar 4) (wC (.int 0))) (wCons (wLc (iLst (wVar 7)) (gNm 15) wYes (wOp fIx (wVar 15) (wC (.int 1))) [15]) wNil))))
        (wIf (wOrT (wNotT (wTest (wCall cRight [] (wCons (wVar 12) (wCons (wVar 13) (wCons (wVar 11) wNil)))))) (wNotT (wTest (wCall cRight [] (wCons (wVar 13) (wCons (wVar 12) (wCons (wVar 11) wNil)))))))
          (wRet (wC (.bl false))) wSkip)) G [x0, x1, x2, x3, some (.loc nn), x5, x6, some (.loc qn), x8, x9, x10, some dv, x12, x13, x14, x15] S noX := by
  obtain ⟨l1, l2⟩ := hbu.len
  have hnm : names[0]? = some names[0] := List.getElem?_eq_getElem (by omega)
  have hx : NameS names[0] := hns _ (List.getElem_mem _)
  have h9 : ∀ f : Tm × Tm → Tm, (qs.map f).length ≤ 9 ^ (2 + 1) := fun f => by rw [List.length_map]; exact Nat.le_trans l2 (by decide)
  have gn : ∀ T, Sub S T → T[nn]? = some (.lst true (names.map D.str)) := fun T h => h _ _ Ln
  have at0 : atI (names.map D.str) 0 = some (.str names[0]) := atN (k := 0) (by rw [List.getElem?_map, hnm]; rfl)
  refine seq_set ⟨_, rfl, true, _, _, Ln, at0, _, rfl, true, _, Lq, ?_⟩
  refine lc_pick (k := 0) (f := (·.1)) (fun q => rfl) (by omega) ⟨true, Lq⟩ (by simp [wipeD]) ?_
  refine ⟨names[0], _, qs.map (·.1), rfl, last_get, by rw [List.length_map]; exact l1, h9 _, by rw [List.length_map]; omega, fun T1 s1 => ?_⟩
  have s1 : Sub S T1 := Sub.push.trans s1
  refine seq_set ⟨_, rfl, true, _, _, gn _ s1, at0, _, rfl, true, _, s1 _ _ Lq, ?_⟩
  refine lc_pick (k := 1) (f := (·.2)) (fun q => rfl) (by omega) ⟨true, s1 _ _ Lq⟩ (by simp [wipeD]) ?_
  refine ⟨names[0], _, qs.map (·.2), rfl, last_get, by rw [List.length_map]; exact l1, h9 _, by rw [List.length_map]; omega, fun T2 s2 => ?_⟩
  have s2 : Sub S T2 := s1.trans (Sub.push.trans s2)
  have hfl := hbu.flip
  have ef1 : (qs.map flip2).map (·.1) = qs.map (·.2) := by rw [List.map_map]; rfl
  have ef2 : (qs.map flip2).map (·.2) = qs.map (·.1) := by rw [List.map_map]; rfl
  have two1 := hbu.two hx
  have two2 := hfl.two hx
  rw [ef1, ef2] at two2
  refine if_or ?_
  refine ⟨_, rfl, _, rfl, _, rfl, _, _, qs, dv, rfl, two1, ?_, fun T3 s3 => ?_⟩
  · rcases hd with ⟨c, e⟩ | ⟨c, n, l, e, g1, g2, g3⟩
    · exact .inl ⟨c, e⟩
    · exact .inr ⟨c, n, l, e, s2 _ _ g1, hbu.dueD _ g2 g3⟩
  refine iteB (fun h => by cases h) fun _ => ?_
  refine ⟨_, rfl, _, rfl, _, rfl, _, _, qs.map flip2, dv, rfl, two2, ?_, fun T4 s4 => ?_⟩
  · have hcc : Clash (qs.map flip2) ↔ Clash qs := hfl.clash.trans hbu.clash.symm
    rcases hd with ⟨c, e⟩ | ⟨c, n, l, e, g1, g2, g3⟩
    · exact .inl ⟨hcc.mpr c, e⟩
    · refine .inr ⟨fun z => c (hcc.mp z), n, l, e, s3 _ _ (s2 _ _ g1), ?_⟩
      have := hfl.dueD names[0] g2 g3
      rw [ef1, ef2] at this
      exact this
  refine iteB (fun h => by cases h) fun _ => ?_
  exact k _ _ _ (s2.trans (s3.trans s4))
section
variable {P : Program} {w : World} {K : PySem.W.Frag} {mg : Str → Option Value} {base : Heap} {CC : Addr}
def cLaw : Qd.Con := fun ds S Q _ => ∃ ns : List Int, ds = [.scr ns] ∧ ns.length ≤ 63 ∧ ∀ T, Q (.bl true) T
abbrev s_law : Stmt := topS 29
theorem sc_law : FnScope ["script", "pot", "turn", "row", "names", "cuts", "stretches", "pairs", "k", "blank", "ends", "due", "one", "other", "stretch", "pair"] ["script"] (defScope s_law) := ⟨rfl, rfl, rfl, by decide +kernel, rfl, by decide +kernel, by decide +kernel⟩
theorem ok_law {f : Addr} {fd : FuncData} (F : Fun K "law" "law" s_law f fd) (hb : Binds K fd ["script"] []) (B : Blt mg) (C__law_pot : Fn P w K mg base 1 "_law_pot" cPot []) (C__law_take : Fn P w K mg base 1 "_law_take" cTake []) (C__law_pick : Fn P w K mg base 2 "_law_pick" cPick []) (C__law_names : Fn P w K mg base 3 "_law_names" cNames []) (C__law_blanks : Fn P w K mg base 3 "_law_blanks" cBl []) (C__law_ordered : Fn P w K mg base 2 "_law_ordered" cOrd []) (C__law_tree : Fn P w K mg base 3 "_law_tree" (cTree 2) []) (C__law_due : Fn P w K mg base 1 "_law_due" cDue []) (C__law_right : Fn P w K mg base 17 "_law_right" cRight []) : FnOkG P w K mg base 18 f fd ["script"] (spQ K cLaw) := by
  refine okG F sc_law (fun ds S Q X ⟨_, e, _⟩ => by rw [e]; rfl) fun cdv A outer s H hr hgd => ?_
  have hu1 := hu_of hr; have hu64 := hr.units; have hu65 : (A.deeper (envOfC "law" (defScope s_law) s.heap.objs.size f cdv)).units + 65 < cLine := by have := hr.un; omega
  refine ⟨_, (qs_cons (q_set (i := 1) sc_law.nd rfl (.inr rfl) (q_c (dds := []) C__law_pot hr (by first | decide | omega) (by rfl) (qa_cons (qv 0) qa_nil)))
      (qs_cons (q_for (vs := [2]) PassesOwn.never rfl (qi_range (by rfl) B.range (q_op op_add4 ro_add q_int (q_cb (call_min2 rfl) ro_min2 (by rfl) B.min (by decide +kernel) (qa_cons q_int (qa_cons (q_cb call_len ro_len (by rfl) B.len (by decide +kernel) (qa_cons (qv 0) qa_nil)) qa_nil))))) (qg_name (i := 2) sc_law.nd rfl (.inl rfl)) (qs_cons (q_set (i := 3) sc_law.nd rfl (.inr rfl) (q_c (dds := []) C__law_blanks hr (by first | decide | omega) (by rfl) (qa_cons (qv 1) qa_nil)))
      (qs_cons (q_set (i := 4) sc_law.nd rfl (.inr rfl) (q_c (dds := []) C__law_names hr (by first | decide | omega) (by rfl) (qa_cons (qv 1) (qa_cons q_int qa_nil))))
      (qs_cons (q_setLc (i := 5) (own := [("k", 8)]) rfl sc_law.nd rfl rfl (sw_true rfl rfl rfl (by decide +kernel)) (qi_range (by rfl) B.range (q_c (dds := []) C__law_take hr (by first | decide | omega) (by rfl) (qa_cons (qv 1) (qa_cons q_int qa_nil)))) (blkOk_by (N := ["script", "pot", "turn", "row", "names", "cuts", "stretches", "pairs", "k", "blank", "ends", "due", "one", "other", "stretch", "pair"]) (sc := defScope s_law) (by decide +kernel)) (fun _ _ _ _ _ => (qg_name (i := 8) sc_law.nd rfl (.inl rfl))) (fun _ _ _ _ _ => qts_nil) (fun _ _ _ _ _ => (q_c (dds := []) C__law_take hr (by first | decide | omega) (by rfl) (qa_cons (qv 1) (qa_cons (q_cb call_len ro_len (by rfl) B.len (by decide +kernel) (qa_cons (qv 3) qa_nil)) qa_nil)))))
      (qs_cons (q_par (i := 6) (j := 7) rfl sc_law.nd rfl rfl (by decide) rfl rfl (q_lst (qa_cons (q_lst qa_nil) qa_nil)) (q_lst qa_nil) (by rfl))
      (qs_cons (q_for (vs := [8, 9]) PassesOwn.never rfl (qi_enum (by rfl) B.enumerate (qv 3)) (qg_2 (i := 8) (j := 9) rfl sc_law.nd rfl (.inl rfl) rfl (.inl rfl)) (qs_cons (q_expr (q_lm PySem.F.slot_list_append PySem.F.type_list_append mt_append ro_append (q_ix ix_seq ro_ix (qv 6) (q_un un_neg ro_neg q_int)) (qa_cons (qv 9) qa_nil)))
      (qs_one (q_if (qt_w (qw_or (qt_cmp (op_inA hu65) ro_inA (qv 8) (qv 5) (by rfl)) (qw_or1 (qt_cmp (op_eq2 hu64) ro_eq (qv 8) (q_op op_sub ro_sub (q_cb call_len ro_len (by rfl) B.len (by decide +kernel) (qa_cons (qv 3) qa_nil)) q_int) (nomark _))))) (qs_cons (q_expr (q_lm PySem.F.slot_list_append PySem.F.type_list_append mt_append ro_append (qv 7) (qa_cons (q_tup (qa_cons (qv 9) (qa_cons (qv 9) qa_nil))) qa_nil)))
      (qs_one (q_expr (q_lm PySem.F.slot_list_append PySem.F.type_list_append mt_append ro_append (qv 6) (qa_cons (q_lst qa_nil) qa_nil))))) (qs_one (q_expr (q_lm PySem.F.slot_list_append PySem.F.type_list_append mt_append ro_append (qv 7) (qa_cons (q_tup (qa_cons (qv 9) (qa_cons (q_ix ix_seq ro_ix (qv 3) (q_op op_add4 ro_add (qv 8) q_int)) qa_nil))) qa_nil))))))))
      (qs_cons (q_setLc (i := 10) (own := [("k", 8)]) rfl sc_law.nd rfl rfl (sw_true rfl rfl rfl (by decide +kernel)) (qi_range (by rfl) B.range (q_c (dds := []) C__law_take hr (by first | decide | omega) (by rfl) (qa_cons (qv 1) (qa_cons q_int qa_nil)))) (blkOk_by (N := ["script", "pot", "turn", "row", "names", "cuts", "stretches", "pairs", "k", "blank", "ends", "due", "one", "other", "stretch", "pair"]) (sc := defScope s_law) (by decide +kernel)) (fun _ _ _ _ _ => (qg_name (i := 8) sc_law.nd rfl (.inl rfl))) (fun _ _ _ _ _ => qts_nil) (fun _ _ _ _ _ => (q_tup (qa_cons (q_c (dds := []) C__law_pick hr (by first | decide | omega) (by rfl) (qa_cons (qv 1) (qa_cons (qv 3) qa_nil))) (qa_cons (q_tup (qa_cons (q_ix ix_seq ro_ix (qv 4) (q_op op_add4 ro_add q_int (q_c (dds := []) C__law_take hr (by first | decide | omega) (by rfl) (qa_cons (qv 1) (qa_cons q_int qa_nil))))) qa_nil)) qa_nil)))))
      (qs_cons (q_set (i := 7) sc_law.nd rfl (.inl rfl) (q_c (dds := []) C__law_ordered hr (by first | decide | omega) (by rfl) (qa_cons (qv 1) (qa_cons (q_op op_add4 ro_add (qv 7) (qv 10)) qa_nil))))
      (qs_cons (q_set (i := 11) sc_law.nd rfl (.inl rfl) (q_c (dds := []) C__law_due hr (by first | decide | omega) (by rfl) (qa_cons (q_lc (own := [("stretch", 14)]) rfl sc_law.nd (qi_list (qv 6)) (blkOk_by (N := ["script", "pot", "turn", "row", "names", "cuts", "stretches", "pairs", "k", "blank", "ends", "due", "one", "other", "stretch", "pair"]) (sc := defScope s_law) (by decide +kernel)) (fun _ _ _ _ _ => (qg_name (i := 14) sc_law.nd rfl (.inl rfl))) (fun _ _ _ _ _ => (qts_one (qt_cmp (op_neN hu64) ro_neN (qv 14) (q_lst qa_nil) (nomark _)))) (fun _ _ _ _ _ => (qv 14))) (qa_cons (qv 10) qa_nil))))
      (qs_cons (q_set (i := 12) sc_law.nd rfl (.inl rfl) (q_c (dds := []) C__law_tree hr (by first | decide | omega) (by rfl) (qa_cons (q_ix ix_seq ro_ix (qv 4) q_int) (qa_cons (q_lc (own := [("pair", 15)]) rfl sc_law.nd (qi_list (qv 7)) (blkOk_by (N := ["script", "pot", "turn", "row", "names", "cuts", "stretches", "pairs", "k", "blank", "ends", "due", "one", "other", "stretch", "pair"]) (sc := defScope s_law) (by decide +kernel)) (fun _ _ _ _ _ => (qg_name (i := 15) sc_law.nd rfl (.inl rfl))) (fun _ _ _ _ _ => qts_nil) (fun _ _ _ _ _ => (q_ix ix_seq ro_ix (qv 15) q_int))) qa_nil))))
      (qs_cons (q_set (i := 13) sc_law.nd rfl (.inl rfl) (q_c (dds := []) C__law_tree hr (by first | decide | omega) (by rfl) (qa_cons (q_ix ix_seq ro_ix (qv 4) q_int) (qa_cons (q_lc (own := [("pair", 15)]) rfl sc_law.nd (qi_list (qv 7)) (blkOk_by (N := ["script", "pot", "turn", "row", "names", "cuts", "stretches", "pairs", "k", "blank", "ends", "due", "one", "other", "stretch", "pair"]) (sc := defScope s_law) (by decide +kernel)) (fun _ _ _ _ _ => (qg_name (i := 15) sc_law.nd rfl (.inl rfl))) (fun _ _ _ _ _ => qts_nil) (fun _ _ _ _ _ => (q_ix ix_seq ro_ix (qv 15) q_int))) qa_nil))))
      (qs_one (q_if (qt_w (qw_or (qt_not (qt_val (q_c (dds := []) C__law_right hr (by first | decide | omega) (by rfl) (qa_cons (qv 12) (qa_cons (qv 13) (qa_cons (qv 11) qa_nil)))))) (qw_or1 (qt_not (qt_val (q_c (dds := []) C__law_right hr (by first | decide | omega) (by rfl) (qa_cons (qv 13) (qa_cons (qv 12) (qa_cons (qv 11) qa_nil))))))))) (qs_one (q_ret q_bl)) qs_nil)))))))))))))
      (qs_one (q_ret q_bl)))), fun ds S Q X h => ?_⟩
  obtain ⟨ns, rfl, hl, kq⟩ := h
  refine seq_set ⟨_, rfl, ns, rfl, hl, fun p o T0 hpl hol hp0 hs0 => ?_⟩
  refine seq_for ⟨_, rfl, ?_⟩
  have mn : (if ((ns.length : Nat) : Int) < 1 then ((ns.length : Nat) : Int) else 1) = ((min 1 ns.length : Nat) : Int) := by split <;> omega
  simp only [wNil]
  simp only [fLen]
  refine fmin2_int mn ?_
  refine ⟨by omega, by omega, ?_⟩
  have rt : ((1 : Int) + ((min 1 ns.length : Nat) : Int)).toNat = 1 + min 1 ns.length := by omega
  refine loop_by (fun i e S' => ∃ x2 x3 x4 x5 x6 x7 x8 x9 x10 x11 x12 x13 x14 x15, e = [some (.scr ns), some (.loc p), x2, x3, x4, x5, x6, x7, x8, x9, x10, x11, x12, x13, x14, x15] ∧ Pot S' p o (i * 2000)) ⟨none, none, none, none, none, none, none, none, none, none, none, none, none, none, rfl, hp0.up (by omega)⟩ (fun _ _ _ _ => trivial) (fun i d hd e S' h R hR => ?_) (fun e S' h => kq S')
  obtain ⟨x2, x3, x4, x5, x6, x7, x8, x9, x10, x11, x12, x13, x14, x15, rfl, hpS⟩ := h
  have hi : i < 2 := by
    have := (List.getElem?_eq_some_iff.mp hd).1
    simp only [List.length_map, List.length_range, rt] at this
    omega
  refine seq_set ⟨_, rfl, p, o, _, rfl, hpS, by omega, fun rn row T1 hp1 hk1 hg1 hSr hnd hlo hhi hb3 => ?_⟩
  have L1 := Ls.of hg1
  refine seq_set ⟨_, rfl, p, o, _, rfl, hp1, by omega, fun nn names T2 hp2 hk2 hg2 hn3 hns => ?_⟩
  have L2' := Ls.of hg2
  have L1 := L1.kp hk2
  refine seq_set ⟨_, rfl, p, o, _, 4, rfl, by decide, by decide, hp2, by omega, fun m4 T3 hm4 hp3 hk3 => ⟨by omega, by omega, ?_⟩⟩
  have L2' := L2'.kp hk3
  have L1 := L1.kp hk3
  refine lc_yes (fun j S' => Pot S' p o (i * 2000 + 10 + 20 + 1 + j) ∧ Kp p o T3 S') (fun j d y => ∃ c : Nat, y = natD c) ⟨hp3, Kp.refl⟩ (by rw [List.length_map, List.length_range]; exact Nat.le_trans (by omega : _ ≤ 10 ^ 6) (Nat.le_of_lt million)) (fun _ _ _ => trivial) (fun j d hd S' ⟨hpS, hkS⟩ R1 hR1 => ?_) (fun ys T4 hly hy ⟨hp4, hk4⟩ => ?_)
  · have hj : j < 4 := by
      have := (List.getElem?_eq_some_iff.mp hd).1
      simp only [List.length_map, List.length_range] at this
      omega
    simp only [wRet, wRetN, wIf, wSeq, wSkip, wBreak, wCont, wNever, wDrop, wAndV, wOrV, wNotV, wIfE, wTest, wAndT, wOrT, wNotT, wUn, wOp, wVar, wC, wCB, wNil, wCons, wTup, wLst, wCall, wCallX, wSl, wNoPart, wPart, wChain, wAsg, wSet, wAug, wPar, wFor, iLst, iTp, iRng, iEn, iEnT, iItm, iSt, gNm, gTp, gNone, gMore, g2, g3, wLc, wYes, wLm, wDGet, wDIn, wDGet2, wDPut, wDNew, wDisp, wPs, wSm0, wSm1, wRev, wMaxD, wRaise, wKeep, gSet, wFld, wSFld, wMeth, wMake, wNNin, wNPut, wLock, wDPop, wDClr, wRevP, wLZip]
    refine ⟨_, rfl, _, rfl, true, _, (L1.kp hkS).get, p, o, _, row.length, by rw [List.length_map]; rfl, by omega, by omega, hpS, by omega, fun c T hc hpT hkT => hR1 _ _ ⟨c, rfl⟩ ⟨hpT, hkS.trans hkT⟩⟩
  · rw [List.length_map, List.length_range] at hly hp4
    obtain ⟨cuts, hcuts, _⟩ := list_of (f := natD) (P := fun _ => True) (ys := ys) fun j y hyj => by
      have hj : j < (((m4 : Nat) : Int)).toNat := by have := (List.getElem?_eq_some_iff.mp hyj).1; omega
      obtain ⟨c, hc⟩ := hy j _ y (by rw [List.getElem?_map, List.getElem?_range hj]; rfl) hyj
      exact ⟨c, trivial, hc⟩
    subst hcuts
    have hl4 := hp4.lt
    have L2' := L2'.kp hk4
    have L1 := L1.kp hk4
    obtain ⟨U, hU⟩ : ∃ U, U = T4 ++ [Cell.lst true (cuts.map natD)] := ⟨_, rfl⟩
    have s4U : Sub T4 U := by rw [hU]; exact Sub.push
    have hUc : U[T4.length]? = some (.lst true (cuts.map natD)) := by rw [hU]; exact last_get
    have hpU := hp4.sub s4U
    have L2' := L2'.kp (Kp.sub hl4.1 hl4.2 s4U)
    have L1 := L1.kp (Kp.sub hl4.1 hl4.2 s4U)
    have hlU := hpU.lt
    dsimp only
    rw [← hU]
    refine ⟨(show 0 ≤ lineD by decide), (show 1 ≤ lineD by decide), (show 0 ≤ lineD by decide), ?_⟩
    obtain ⟨V, hV⟩ : ∃ V, V = U ++ [Cell.lst true []] ++ [Cell.lst true [.loc U.length]] ++ [Cell.lst true []] := ⟨_, rfl⟩
    have sUV : Sub U V := by rw [hV]; exact (Sub.push.trans Sub.push).trans Sub.push
    dsimp only
    have e1 : (U ++ [Cell.lst true []]).length = U.length + 1 := by simp
    have e2 : (U ++ [Cell.lst true []] ++ [Cell.lst true [.loc U.length]]).length = U.length + 2 := by simp
    rw [e1, e2, ← hV]
    refine seq_for ⟨_, rfl, true, _, sUV _ _ L1.get, ?_⟩
    have h0 : RowS U V (U.length + 1) (U.length + 2) [] U.length [] [] [] := by
      refine ⟨sUV, ?_, ?_, rfl, fun j c st h => (by cases h), ?_, fun c hc => ?_, by simp⟩
      · rw [hV]; simp
      · rw [hV, ← e2]; exact last_get
      · rw [hV]; simp
      · rw [List.mem_singleton.mp hc]; omega
    refine row_loop (cn := T4.length) (cuts := cuts) L1.get hUc hhi (by omega) (by omega) (by omega) h0 fun y8 y9 cs oc cl ps T5 hRS hRI => ?_
    dsimp only
    have k45 : Kp p o U T5 := Kp.sub hlU.1 hlU.2 hRS.sub
    have hp5 := hpU.sub hRS.sub
    have L1 := L1.kp k45
    have L2' := L2'.kp k45
    have hl5 := hp5.lt
    have psl : ps.length ≤ 250 := by rw [hRI.len]; exact hhi
    have hfl : cl.flatten = row := by
      have := hRI.flat
      rw [List.append_nil, List.take_length] at this
      exact this
    have csl : cs.length ≤ 250 := by
      have := flat_len hRI.ne
      rw [hfl] at this
      rw [hRS.len]; omega
    refine seq_set ⟨_, rfl, p, o, _, 4, rfl, by decide, by decide, hp5, by omega, fun m5 T6 hm5 hp6 hk6 => ⟨by omega, by omega, ?_⟩⟩
    have L1 := L1.kp hk6
    have L2' := L2'.kp hk6
    refine lc_yes (fun j S' => Pot S' p o (i * 2000 + 50 + 2 * j) ∧ Kp p o T6 S') (fun j d y => ∃ e : Nat × Str, (e.1 ∈ row ∧ NameS e.2) ∧ y = endD e) ⟨hp6.up (by omega), Kp.refl⟩ (by rw [List.length_map, List.length_range]; exact Nat.le_trans (by omega : _ ≤ 10 ^ 6) (Nat.le_of_lt million)) (fun _ _ _ => trivial) (fun j d hd S' ⟨hpS, hkS⟩ R1 hR1 => ?_) (fun ys T7 hly hy ⟨hp7, hk7⟩ => ?_)
    · have hj : j < 4 := by
        have := (List.getElem?_eq_some_iff.mp hd).1
        simp only [List.length_map, List.length_range] at this
        omega
      simp only [wRet, wRetN, wIf, wSeq, wSkip, wBreak, wCont, wNever, wDrop, wAndV, wOrV, wNotV, wIfE, wTest, wAndT, wOrT, wNotT, wUn, wOp, wVar, wC, wCB, wNil, wCons, wTup, wLst, wCall, wCallX, wSl, wNoPart, wPart, wChain, wAsg, wSet, wAug, wPar, wFor, iLst, iTp, iRng, iEn, iEnT, iItm, iSt, gNm, gTp, gNone, gMore, g2, g3, wLc, wYes, wLm, wDGet, wDIn, wDGet2, wDPut, wDNew, wDisp, wPs, wSm0, wSm1, wRev, wMaxD, wRaise, wKeep, gSet, wFld, wSFld, wMeth, wMake, wNNin, wNPut, wLock, wDPop, wDClr, wRevP, wLZip]
      refine ⟨_, rfl, _, rfl, p, o, _, _, row.map natD, rfl, .inl ⟨_, rfl, (L1.kp hkS).hid⟩, by rw [List.length_map]; omega, by rw [List.length_map]; omega, hpS, by omega, fun ix x T hx hpT hkT => ?_⟩
      rw [List.getElem?_map] at hx
      cases hrx : row[ix]? with
      | none => rw [hrx] at hx; cases hx
      | some b =>
        rw [hrx] at hx
        cases hx
        refine ⟨_, rfl, _, rfl, p, o, _, 2, rfl, by decide, by decide, hpT, by omega, fun c T' hc hpT' hkT' => ?_⟩
        have hnm : names[1 + c]? = some names[1 + c] := List.getElem?_eq_getElem (by omega)
        refine ⟨true, _, .str names[1 + c], ((L2'.kp hkS).kp (hkT.trans hkT')).get, ?_, (show 1 ≤ lineD by decide), (show 2 ≤ lineD by decide), ?_⟩
        · show atI _ ((1 : Int) + ((c : Nat) : Int)) = _
          rw [show (1 : Int) + ((c : Nat) : Int) = ((1 + c : Nat) : Int) by omega]
          exact atN (by rw [List.getElem?_map, hnm]; rfl)
        · exact hR1 _ _ ⟨(b, names[1 + c]), ⟨List.mem_of_getElem? hrx, hns _ (List.getElem_mem _)⟩, rfl⟩ ⟨hpT'.up (by omega), (hkS.trans hkT).trans hkT'⟩
    rw [List.length_map, List.length_range] at hly hp7
    obtain ⟨ends, hends, hendsP⟩ := list_of (f := endD) (P := fun e => e.1 ∈ row ∧ NameS e.2) (ys := ys) fun j y hyj => by
      have hj : j < (((m5 : Nat) : Int)).toNat := by have := (List.getElem?_eq_some_iff.mp hyj).1; omega
      exact hy j _ y (by rw [List.getElem?_map, List.getElem?_range hj]; rfl) hyj
    subst hends
    rw [List.length_map] at hly
    have hel : ends.length ≤ 3 := by omega
    have hl7 := hp7.lt
    obtain ⟨T8, hT8⟩ : ∃ T8, T8 = T7 ++ [Cell.lst true (ends.map endD)] := ⟨_, rfl⟩
    have s78 : Sub T7 T8 := by rw [hT8]; exact Sub.push
    have hEn : Ls p o T8 T7.length (ends.map endD) := ⟨by rw [hT8]; exact last_get, by omega, by omega⟩
    have k58 : Kp p o T5 T8 := (hk6.trans hk7).trans (Kp.sub hl7.1 hl7.2 s78)
    have hp8 := hp7.sub s78
    have far : ∀ n, U.length ≤ n → n ≠ p ∧ n ≠ o := fun n hn => ⟨by omega, by omega⟩
    have Lpn : Ls p o T5 (U.length + 2) ((ps.map blp).map pairD) := ⟨hRS.s7, (far _ (by omega)).1, (far _ (by omega)).2⟩
    have Lsn : Ls p o T5 (U.length + 1) ((cs ++ [oc]).map D.loc) := ⟨hRS.s6, (far _ (by omega)).1, (far _ (by omega)).2⟩
    rw [← hT8]
    have ee : (ps.map blp).map pairD ++ ends.map endD = (ps.map blp ++ ends.map ndp).map pairD := by
      rw [List.map_append, List.map_map (f := ndp)]; rfl
    refine seq_set ⟨_, rfl, _, rfl, _, rfl, _, _, (Lpn.kp k58).get, hEn.get, ?_, ?_⟩
    · rw [List.length_map, List.length_map, List.length_map]; exact Nat.le_trans (by omega : _ ≤ 10 ^ 6) (Nat.le_of_lt million)
    rw [ee]
    have hl8 := hp8.lt
    refine ⟨p, o, _, _, _, rfl, hp8.sub Sub.push, by omega, hide_last hl8.1 hl8.2, by rw [List.length_append, List.length_map, List.length_map]; omega, fun qn qs T9 hp9 hk9 hg9 hSq hmx => ?_⟩
    have L9 := Ls.of hg9
    have k89 : Kp p o T8 T9 := (Kp.sub hl8.1 hl8.2 Sub.push).trans hk9
    have hEn := hEn.kp k89
    have Lsn := Lsn.kp (k58.trans k89)
    have hbu : Built row cl ps ends qs := ⟨hRI, hnd, hlo, hhi, hel, fun e he => (hendsP e he).1, fun e he => (hendsP e he).2, hmx⟩
    have Ln := (L2'.kp (hk7.trans (Kp.sub hl7.1 hl7.2 s78))).kp k89
    have hl9 := hp9.lt
    have Lcs : ∀ (j c : Nat) (st : List Nat), cs[j]? = some c → cl[j]? = some st → T9[c]? = some (.lst true (st.map natD)) := fun j c st h1 h2 => by
      have hf := hRS.far c (List.mem_append_left _ (List.mem_of_getElem? h1))
      exact kp_get (k58.trans k89) (far c hf.1).1 (far c hf.1).2 (hRS.at_ j c st h1 h2)
    have Loc : T9[oc]? = some (.lst true []) := by
      have hf := hRS.far oc (by simp)
      exact kp_get (k58.trans k89) (far oc hf.1).1 (far oc hf.1).2 hRS.ao
    have hdm' : ∀ {n : Nat}, n ≤ 10 ^ 6 → n ≤ lineD := fun h => Nat.le_trans h (Nat.le_of_lt million)
    have rest : ∀ dv T, Sub T9 T → DueOK cl ends qs T dv → ∀ y12 y13 y14 y15, wSeq (wSet 12 (wCall (cTree 2) [] (wCons (wOp fIx (wVar 4) (wC (.int 0))) (wCons (wLc (iLst (wVar 7)) (gNm 15) wYes (wOp fIx (wVar 15) (wC (.int 0))) [15]) wNil))))
      (wSeq (wSet 13 (wCall (cTree 2) [] (wCons (wOp fIx (wVar 4) (wC (.int 0))) (wCons (wLc (iLst (wVar 7)) (gNm 15) wYes (wOp fIx (wVar 15) (wC (.int 1))) [15]) wNil))))
        (wIf (wOrT (wNotT (wTest (wCall cRight [] (wCons (wVar 12) (wCons (wVar 13) (wCons (wVar 11) wNil)))))) (wNotT (wTest (wCall cRight [] (wCons (wVar 13) (wCons (wVar 12) (wCons (wVar 11) wNil)))))))
          (wRet (wC (.bl false))) wSkip)) ⟨R, Q, fun e s => wRet (wC (.bl true)) ⟨fun x S => Q .non S, Q, fun _ _ => False, fun _ _ => False⟩ e s noX, R⟩ [some (.scr ns), some (.loc p), some d, some (.loc rn), some (.loc nn), some (.loc T4.length), some (.loc (U.length + 1)), some (.loc qn), y8, y9, some (.loc T7.length), some dv, y12, y13, y14, y15] T noX := by
      intro dv T hT hdue y12 y13 y14 y15
      exact law_tail hbu hn3 hns (hT _ _ Ln.get) (hT _ _ L9.get) hdue fun z12 z13 T' s' => hR _ _ ⟨_, _, _, _, _, _, _, _, _, _, _, _, _, _, rfl, ((hp9.sub hT).sub s').up (by rw [Nat.add_mul]; omega)⟩
    refine seq_set ⟨_, rfl, true, _, Lsn.get, ?_⟩
    refine lc_flt (fun _ S' => Sub T9 S') (fun d => match d with | .loc c => decide (c ≠ oc) | _ => false) (fun d => d) Sub.refl (by rw [List.length_map, List.length_append]; exact hdm' (by simp; omega)) (fun _ S' h => ⟨true, h _ _ Lsn.get⟩) (fun j d hdj S' hS' R1 R0 hR1 hR0 => ?_) (fun S' hS' => ?_)
    · rw [List.getElem?_map] at hdj
      cases hc : (cs ++ [oc])[j]? with
      | none => rw [hc] at hdj; cases hdj
      | some c =>
        rw [hc] at hdj
        cases hdj
        by_cases hco : c = oc
        · subst hco
          refine ⟨_, rfl, (show 0 ≤ lineD by decide), true, [], true, _, Sub.push _ _ (hS' _ _ Loc), last_get, .nil, rfl, ?_⟩
          refine iteB (fun h => by cases h) fun _ => ?_
          exact hR0 (by simp) _ hS'.to
        · have hcm : c ∈ cs := by
            rcases List.mem_append.mp (List.mem_of_getElem? hc) with z | z
            · exact z
            · exact absurd (List.mem_singleton.mp z) hco
          obtain ⟨j', hj'⟩ := List.mem_iff_getElem?.mp hcm
          have hj2 : j' < cl.length := by rw [← hRS.len]; exact (List.getElem?_eq_some_iff.mp hj').1
          have hst := List.getElem?_eq_getElem hj2
          have hne := hRI.ne _ (List.getElem_mem hj2)
          refine ⟨_, rfl, (show 0 ≤ lineD by decide), true, _, true, _, Sub.push _ _ (hS' _ _ (Lcs _ _ _ hj' hst)), last_get, pys_nats _, shaped_ints _, ?_⟩
          have e0 : (!(cl[j'].map natD).isEmpty) = true := by
            cases h : cl[j'] with
            | nil => exact absurd h hne
            | cons a as => rfl
          rw [e0]
          refine iteB (fun _ => ?_) fun h => by cases h
          exact ⟨_, rfl, hR1 (by simp [hco]) _ hS'.to⟩
    · have ef : (((cs ++ [oc]).map D.loc).filter fun d => match d with | .loc c => decide (c ≠ oc) | _ => false) = cs.map D.loc := flt_loc hRS.new
      rw [ef, List.map_id']
      obtain ⟨T10, hT10⟩ : ∃ T10, T10 = S' ++ [Cell.lst true (cs.map D.loc)] := ⟨_, rfl⟩
      have s10 : Sub T9 T10 := by rw [hT10]; exact hS'.trans Sub.push
      have hst : Sts T10 S'.length cs cl := ⟨by rw [hT10]; exact last_get, hRS.len, fun j c st h1 h2 => s10 _ _ (Lcs j c st h1 h2)⟩
      dsimp only
      rw [← hT10]
      refine ⟨_, rfl, S'.length, T7.length, cs, cl, ends, rfl, hst, s10 _ _ hEn.get, by omega, fun e he => (hendsP e he).2, by rw [hfl]; exact hnd, by rw [hfl]; omega, hRI.ne, fun T hbad sT => ?_, fun T n l hnb sT hn hg hk hgd => ?_⟩
      · exact rest _ _ (s10.trans sT) (.inl ⟨hbu.clash.mpr hbad, rfl⟩) _ _ _ _
      · exact rest _ _ (s10.trans sT) (.inr ⟨fun z => by obtain ⟨st, h1, h2⟩ := hbu.clash.mp z; exact hnb st h1 h2, n, l, rfl, hg, hk, hgd⟩) _ _ _ _
end
end K15
set_option Elab.async false
set_option linter.all false
set_option maxRecDepth 100000
set_option maxHeartbeats 4000000
namespace K15
open PySem PySem.Spec PyProof.Rows L2 Qd
abbrev s_levels : Stmt := topS 8
theorem sc_levels : FnScope ["term", "place"] ["term"] (defScope s_levels) := ⟨rfl, rfl, rfl, by decide +kernel, rfl, by decide +kernel, by decide +kernel⟩
abbrev s_count_parts : Stmt := topS 9
theorem sc_count_parts : FnScope ["term", "place"] ["term"] (defScope s_count_parts) := ⟨rfl, rfl, rfl, by decide +kernel, rfl, by decide +kernel, by decide +kernel⟩
theorem sp_scr {K : PySem.W.Frag} {H : Hp} {a : Addr} {ns : List Int} (hl : ns.length ≤ 63) (ho : Only H) (hs : SqL K H a (ns.map V.int)) : spQ K cLaw [.ref a] H (fun v _ => v = .bl true) E0 := by
  refine ⟨[], [], [.scr ns], fun d _ => d = .bl true, noX, ⟨rfl, .nil, fun _ z => (by cases z), fun n a c z _ => (by cases z)⟩, ⟨_, _, rfl, ⟨a, rfl, ?_⟩, rfl⟩, ⟨ns, rfl, hl, fun _ => rfl⟩, fun d S' φ' v H' _ _ rv q => by subst q; exact rv, XOk.noX⟩
  rcases hs with (h | ⟨o, h⟩) | h
  · rcases ho a with z | ⟨o, xs, z⟩ <;> rw [h] at z <;> cases z
  · exact .inl ⟨by simp, o, h⟩
  · exact .inr h
/-! ### what the top has written -/
theorem all_mk {l : PySem.W.OpenLaw} {w : World} {K : PySem.W.Frag} {h : Heap} {mg : Str → Option Value} {fa : Addr} (X : K.In h) (G : h.Ns mainGlobals mg) (hfa : mg "law" = some (.ref fa))
    {CC : Addr}
    {f_levels : Addr} {oc_levels kV_levels dc_levels pm_levels cd_levels ct_levels : Value} {od_levels an_levels : Option Addr} {sl_levels : Array (Option Value)}
    {f_count_parts : Addr} {oc_count_parts kV_count_parts dc_count_parts pm_count_parts cd_count_parts ct_count_parts : Value} {od_count_parts an_count_parts : Option Addr} {sl_count_parts : Array (Option Value)}
    {f__law_take : Addr} {oc__law_take kV__law_take dc__law_take pm__law_take cd__law_take ct__law_take : Value} {od__law_take an__law_take : Option Addr} {sl__law_take : Array (Option Value)}
    {f__law_pick : Addr} {oc__law_pick kV__law_pick dc__law_pick pm__law_pick cd__law_pick ct__law_pick : Value} {od__law_pick an__law_pick : Option Addr} {sl__law_pick : Array (Option Value)}
    {f__law_pot : Addr} {oc__law_pot kV__law_pot dc__law_pot pm__law_pot cd__law_pot ct__law_pot : Value} {od__law_pot an__law_pot : Option Addr} {sl__law_pot : Array (Option Value)}
    {f__law_names : Addr} {oc__law_names kV__law_names dc__law_names pm__law_names cd__law_names ct__law_names : Value} {od__law_names an__law_names : Option Addr} {sl__law_names : Array (Option Value)}
    {f_is_whole : Addr} {oc_is_whole kV_is_whole dc_is_whole pm_is_whole cd_is_whole ct_is_whole : Value} {od_is_whole an_is_whole : Option Addr} {sl_is_whole : Array (Option Value)}
    {f_head : Addr} {oc_head kV_head dc_head pm_head cd_head ct_head : Value} {od_head an_head : Option Addr} {sl_head : Array (Option Value)}
    {f_parts_from : Addr} {oc_parts_from kV_parts_from dc_parts_from pm_parts_from cd_parts_from ct_parts_from : Value} {od_parts_from an_parts_from : Option Addr} {sl_parts_from : Array (Option Value)}
    {f_parts_of : Addr} {oc_parts_of kV_parts_of dc_parts_of pm_parts_of cd_parts_of ct_parts_of : Value} {od_parts_of an_parts_of : Option Addr} {sl_parts_of : Array (Option Value)}
    {f_blanks : Addr} {oc_blanks kV_blanks dc_blanks pm_blanks cd_blanks ct_blanks : Value} {od_blanks an_blanks : Option Addr} {sl_blanks : Array (Option Value)}
    {f_measures : Addr} {oc_measures kV_measures dc_measures pm_measures cd_measures ct_measures : Value} {od_measures an_measures : Option Addr} {sl_measures : Array (Option Value)}
    {f_filled_in : Addr} {oc_filled_in kV_filled_in dc_filled_in pm_filled_in cd_filled_in ct_filled_in : Value} {od_filled_in an_filled_in : Option Addr} {sl_filled_in : Array (Option Value)}
    {f_filled : Addr} {oc_filled kV_filled dc_filled pm_filled cd_filled ct_filled : Value} {od_filled an_filled : Option Addr} {sl_filled : Array (Option Value)}
    {f_Classes_least_of : Addr} {oc_Classes_least_of kV_Classes_least_of dc_Classes_least_of pm_Classes_least_of cd_Classes_least_of ct_Classes_least_of : Value} {od_Classes_least_of an_Classes_least_of : Option Addr} {sl_Classes_least_of : Array (Option Value)}
    {f_Classes_keep_term : Addr} {oc_Classes_keep_term kV_Classes_keep_term dc_Classes_keep_term pm_Classes_keep_term cd_Classes_keep_term ct_Classes_keep_term : Value} {od_Classes_keep_term an_Classes_keep_term : Option Addr} {sl_Classes_keep_term : Array (Option Value)}
    {f_Classes_lay_blanks : Addr} {oc_Classes_lay_blanks kV_Classes_lay_blanks dc_Classes_lay_blanks pm_Classes_lay_blanks cd_Classes_lay_blanks ct_Classes_lay_blanks : Value} {od_Classes_lay_blanks an_Classes_lay_blanks : Option Addr} {sl_Classes_lay_blanks : Array (Option Value)}
    {f_Classes_lay : Addr} {oc_Classes_lay kV_Classes_lay dc_Classes_lay pm_Classes_lay cd_Classes_lay ct_Classes_lay : Value} {od_Classes_lay an_Classes_lay : Option Addr} {sl_Classes_lay : Array (Option Value)}
    {f_Classes___init__ : Addr} {oc_Classes___init__ kV_Classes___init__ dc_Classes___init__ pm_Classes___init__ cd_Classes___init__ ct_Classes___init__ : Value} {od_Classes___init__ an_Classes___init__ : Option Addr} {sl_Classes___init__ : Array (Option Value)}
    {f_Classes_lay_all : Addr} {oc_Classes_lay_all kV_Classes_lay_all dc_Classes_lay_all pm_Classes_lay_all cd_Classes_lay_all ct_Classes_lay_all : Value} {od_Classes_lay_all an_Classes_lay_all : Option Addr} {sl_Classes_lay_all : Array (Option Value)}
    {f_Classes_from_within : Addr} {oc_Classes_from_within kV_Classes_from_within dc_Classes_from_within pm_Classes_from_within cd_Classes_from_within ct_Classes_from_within : Value} {od_Classes_from_within an_Classes_from_within : Option Addr} {sl_Classes_from_within : Array (Option Value)}
    {f_Classes_whole_terms : Addr} {oc_Classes_whole_terms kV_Classes_whole_terms dc_Classes_whole_terms pm_Classes_whole_terms cd_Classes_whole_terms ct_Classes_whole_terms : Value} {od_Classes_whole_terms an_Classes_whole_terms : Option Addr} {sl_Classes_whole_terms : Array (Option Value)}
    {f_joint : Addr} {oc_joint kV_joint dc_joint pm_joint cd_joint ct_joint : Value} {od_joint an_joint : Option Addr} {sl_joint : Array (Option Value)}
    {f__law_blanks : Addr} {oc__law_blanks kV__law_blanks dc__law_blanks pm__law_blanks cd__law_blanks ct__law_blanks : Value} {od__law_blanks an__law_blanks : Option Addr} {sl__law_blanks : Array (Option Value)}
    {f__law_ordered : Addr} {oc__law_ordered kV__law_ordered dc__law_ordered pm__law_ordered cd__law_ordered ct__law_ordered : Value} {od__law_ordered an__law_ordered : Option Addr} {sl__law_ordered : Array (Option Value)}
    {f__law_tree : Addr} {oc__law_tree kV__law_tree dc__law_tree pm__law_tree cd__law_tree ct__law_tree : Value} {od__law_tree an__law_tree : Option Addr} {sl__law_tree : Array (Option Value)}
    {f__law_due : Addr} {oc__law_due kV__law_due dc__law_due pm__law_due cd__law_due ct__law_due : Value} {od__law_due an__law_due : Option Addr} {sl__law_due : Array (Option Value)}
    {f__law_right : Addr} {oc__law_right kV__law_right dc__law_right pm__law_right cd__law_right ct__law_right : Value} {od__law_right an__law_right : Option Addr} {sl__law_right : Array (Option Value)}
    {f_law : Addr} {oc_law kV_law dc_law pm_law cd_law ct_law : Value} {od_law an_law : Option Addr} {sl_law : Array (Option Value)}
    {t_MOST_LEVELS : PySem.Tok}
    {t_MOST_PARTS : PySem.Tok}
    (p_C : PySem.W.nsIn K mainGlobals "Classes" = some (some (.ref CC)))
    (p_pg : PySem.W.plainGet K CC Str.empty = true)
    (p_hd : PySem.W.hasDictIn K CC = true)
    (p_po : PySem.W.plainOver K CC = true)
    (p_sa : PySem.W.findIn K (.ref CC) "__setattr__" = some (some (.builtin "object.__setattr__")))
    (p_mk : PySem.W.makesIn K CC = true)
    (p_kc : PySem.W.keepIn K (.ref CC) = true)
    (p_n_lesser : PySem.W.findIn K (.ref CC) "lesser" = some none)
    (p_n_term_of : PySem.W.findIn K (.ref CC) "term_of" = some none)
    (p_n_laid : PySem.W.findIn K (.ref CC) "laid" = some none)
    (p_n_tasks : PySem.W.findIn K (.ref CC) "tasks" = some none)
    (a_levels : PySem.W.nsIn K mainGlobals "levels" = some (some (.ref f_levels)))
    (l_levels : K.lookup f_levels = some ⟨oc_levels, od_levels, .func (PySem.W.fnOf "levels" "levels" (defArgs s_levels) (defBody s_levels) (defScope s_levels) .none kV_levels dc_levels pm_levels an_levels cd_levels ct_levels), sl_levels⟩)
    (c_levels : PySem.W.codeIn K cd_levels "levels" = true)
    (k_levels : PySem.W.keepIn K (.ref f_levels) = true)
    (a_count_parts : PySem.W.nsIn K mainGlobals "count_parts" = some (some (.ref f_count_parts)))
    (l_count_parts : K.lookup f_count_parts = some ⟨oc_count_parts, od_count_parts, .func (PySem.W.fnOf "count_parts" "count_parts" (defArgs s_count_parts) (defBody s_count_parts) (defScope s_count_parts) .none kV_count_parts dc_count_parts pm_count_parts an_count_parts cd_count_parts ct_count_parts), sl_count_parts⟩)
    (c_count_parts : PySem.W.codeIn K cd_count_parts "count_parts" = true)
    (k_count_parts : PySem.W.keepIn K (.ref f_count_parts) = true)
    (a__law_take : PySem.W.nsIn K mainGlobals "_law_take" = some (some (.ref f__law_take)))
    (l__law_take : K.lookup f__law_take = some ⟨oc__law_take, od__law_take, .func (PySem.W.fnOf "_law_take" "_law_take" (defArgs s__law_take) (defBody s__law_take) (defScope s__law_take) .none kV__law_take dc__law_take pm__law_take an__law_take cd__law_take ct__law_take), sl__law_take⟩)
    (c__law_take : PySem.W.codeIn K cd__law_take "_law_take" = true)
    (k__law_take : PySem.W.keepIn K (.ref f__law_take) = true)
    (a__law_pick : PySem.W.nsIn K mainGlobals "_law_pick" = some (some (.ref f__law_pick)))
    (l__law_pick : K.lookup f__law_pick = some ⟨oc__law_pick, od__law_pick, .func (PySem.W.fnOf "_law_pick" "_law_pick" (defArgs s__law_pick) (defBody s__law_pick) (defScope s__law_pick) .none kV__law_pick dc__law_pick pm__law_pick an__law_pick cd__law_pick ct__law_pick), sl__law_pick⟩)
    (c__law_pick : PySem.W.codeIn K cd__law_pick "_law_pick" = true)
    (k__law_pick : PySem.W.keepIn K (.ref f__law_pick) = true)
    (a__law_pot : PySem.W.nsIn K mainGlobals "_law_pot" = some (some (.ref f__law_pot)))
    (l__law_pot : K.lookup f__law_pot = some ⟨oc__law_pot, od__law_pot, .func (PySem.W.fnOf "_law_pot" "_law_pot" (defArgs s__law_pot) (defBody s__law_pot) (defScope s__law_pot) .none kV__law_pot dc__law_pot pm__law_pot an__law_pot cd__law_pot ct__law_pot), sl__law_pot⟩)
    (c__law_pot : PySem.W.codeIn K cd__law_pot "_law_pot" = true)
    (k__law_pot : PySem.W.keepIn K (.ref f__law_pot) = true)
    (a__law_names : PySem.W.nsIn K mainGlobals "_law_names" = some (some (.ref f__law_names)))
    (l__law_names : K.lookup f__law_names = some ⟨oc__law_names, od__law_names, .func (PySem.W.fnOf "_law_names" "_law_names" (defArgs s__law_names) (defBody s__law_names) (defScope s__law_names) .none kV__law_names dc__law_names pm__law_names an__law_names cd__law_names ct__law_names), sl__law_names⟩)
    (c__law_names : PySem.W.codeIn K cd__law_names "_law_names" = true)
    (k__law_names : PySem.W.keepIn K (.ref f__law_names) = true)
    (a_is_whole : PySem.W.nsIn K mainGlobals "is_whole" = some (some (.ref f_is_whole)))
    (l_is_whole : K.lookup f_is_whole = some ⟨oc_is_whole, od_is_whole, .func (PySem.W.fnOf "is_whole" "is_whole" (defArgs s_is_whole) (defBody s_is_whole) (defScope s_is_whole) .none kV_is_whole dc_is_whole pm_is_whole an_is_whole cd_is_whole ct_is_whole), sl_is_whole⟩)
    (c_is_whole : PySem.W.codeIn K cd_is_whole "is_whole" = true)
    (k_is_whole : PySem.W.keepIn K (.ref f_is_whole) = true)
    (a_head : PySem.W.nsIn K mainGlobals "head" = some (some (.ref f_head)))
    (l_head : K.lookup f_head = some ⟨oc_head, od_head, .func (PySem.W.fnOf "head" "head" (defArgs s_head) (defBody s_head) (defScope s_head) .none kV_head dc_head pm_head an_head cd_head ct_head), sl_head⟩)
    (c_head : PySem.W.codeIn K cd_head "head" = true)
    (k_head : PySem.W.keepIn K (.ref f_head) = true)
    (a_parts_from : PySem.W.nsIn K mainGlobals "parts_from" = some (some (.ref f_parts_from)))
    (l_parts_from : K.lookup f_parts_from = some ⟨oc_parts_from, od_parts_from, .func (PySem.W.fnOf "parts_from" "parts_from" (defArgs s_parts_from) (defBody s_parts_from) (defScope s_parts_from) .none kV_parts_from dc_parts_from pm_parts_from an_parts_from cd_parts_from ct_parts_from), sl_parts_from⟩)
    (c_parts_from : PySem.W.codeIn K cd_parts_from "parts_from" = true)
    (k_parts_from : PySem.W.keepIn K (.ref f_parts_from) = true)
    (a_parts_of : PySem.W.nsIn K mainGlobals "parts_of" = some (some (.ref f_parts_of)))
    (l_parts_of : K.lookup f_parts_of = some ⟨oc_parts_of, od_parts_of, .func (PySem.W.fnOf "parts_of" "parts_of" (defArgs s_parts_of) (defBody s_parts_of) (defScope s_parts_of) .none kV_parts_of dc_parts_of pm_parts_of an_parts_of cd_parts_of ct_parts_of), sl_parts_of⟩)
    (c_parts_of : PySem.W.codeIn K cd_parts_of "parts_of" = true)
    (k_parts_of : PySem.W.keepIn K (.ref f_parts_of) = true)
    (a_blanks : PySem.W.nsIn K mainGlobals "blanks" = some (some (.ref f_blanks)))
    (l_blanks : K.lookup f_blanks = some ⟨oc_blanks, od_blanks, .func (PySem.W.fnOf "blanks" "blanks" (defArgs s_blanks) (defBody s_blanks) (defScope s_blanks) .none kV_blanks dc_blanks pm_blanks an_blanks cd_blanks ct_blanks), sl_blanks⟩)
    (c_blanks : PySem.W.codeIn K cd_blanks "blanks" = true)
    (k_blanks : PySem.W.keepIn K (.ref f_blanks) = true)
    (a_measures : PySem.W.nsIn K mainGlobals "measures" = some (some (.ref f_measures)))
    (l_measures : K.lookup f_measures = some ⟨oc_measures, od_measures, .func (PySem.W.fnOf "measures" "measures" (defArgs s_measures) (defBody s_measures) (defScope s_measures) .none kV_measures dc_measures pm_measures an_measures cd_measures ct_measures), sl_measures⟩)
    (c_measures : PySem.W.codeIn K cd_measures "measures" = true)
    (k_measures : PySem.W.keepIn K (.ref f_measures) = true)
    (a_filled_in : PySem.W.nsIn K mainGlobals "filled_in" = some (some (.ref f_filled_in)))
    (l_filled_in : K.lookup f_filled_in = some ⟨oc_filled_in, od_filled_in, .func (PySem.W.fnOf "filled_in" "filled_in" (defArgs s_filled_in) (defBody s_filled_in) (defScope s_filled_in) .none kV_filled_in dc_filled_in pm_filled_in an_filled_in cd_filled_in ct_filled_in), sl_filled_in⟩)
    (c_filled_in : PySem.W.codeIn K cd_filled_in "filled_in" = true)
    (k_filled_in : PySem.W.keepIn K (.ref f_filled_in) = true)
    (a_filled : PySem.W.nsIn K mainGlobals "filled" = some (some (.ref f_filled)))
    (l_filled : K.lookup f_filled = some ⟨oc_filled, od_filled, .func (PySem.W.fnOf "filled" "filled" (defArgs s_filled) (defBody s_filled) (defScope s_filled) .none kV_filled dc_filled pm_filled an_filled cd_filled ct_filled), sl_filled⟩)
    (c_filled : PySem.W.codeIn K cd_filled "filled" = true)
    (k_filled : PySem.W.keepIn K (.ref f_filled) = true)
    (a_Classes_least_of : PySem.W.findIn K (.ref CC) "least_of" = some (some (.ref f_Classes_least_of)))
    (i_Classes_least_of : PySem.W.isFn K (.ref f_Classes_least_of) = true)
    (l_Classes_least_of : K.lookup f_Classes_least_of = some ⟨oc_Classes_least_of, od_Classes_least_of, .func (PySem.W.fnOf "least_of" "Classes.least_of" (defArgs s_Classes_least_of) (defBody s_Classes_least_of) (defScope s_Classes_least_of) .none kV_Classes_least_of dc_Classes_least_of pm_Classes_least_of an_Classes_least_of cd_Classes_least_of ct_Classes_least_of), sl_Classes_least_of⟩)
    (c_Classes_least_of : PySem.W.codeIn K cd_Classes_least_of "Classes.least_of" = true)
    (k_Classes_least_of : PySem.W.keepIn K (.ref f_Classes_least_of) = true)
    (a_Classes_keep_term : PySem.W.findIn K (.ref CC) "keep_term" = some (some (.ref f_Classes_keep_term)))
    (i_Classes_keep_term : PySem.W.isFn K (.ref f_Classes_keep_term) = true)
    (l_Classes_keep_term : K.lookup f_Classes_keep_term = some ⟨oc_Classes_keep_term, od_Classes_keep_term, .func (PySem.W.fnOf "keep_term" "Classes.keep_term" (defArgs s_Classes_keep_term) (defBody s_Classes_keep_term) (defScope s_Classes_keep_term) .none kV_Classes_keep_term dc_Classes_keep_term pm_Classes_keep_term an_Classes_keep_term cd_Classes_keep_term ct_Classes_keep_term), sl_Classes_keep_term⟩)
    (c_Classes_keep_term : PySem.W.codeIn K cd_Classes_keep_term "Classes.keep_term" = true)
    (k_Classes_keep_term : PySem.W.keepIn K (.ref f_Classes_keep_term) = true)
    (a_Classes_lay_blanks : PySem.W.findIn K (.ref CC) "lay_blanks" = some (some (.ref f_Classes_lay_blanks)))
    (i_Classes_lay_blanks : PySem.W.isFn K (.ref f_Classes_lay_blanks) = true)
    (l_Classes_lay_blanks : K.lookup f_Classes_lay_blanks = some ⟨oc_Classes_lay_blanks, od_Classes_lay_blanks, .func (PySem.W.fnOf "lay_blanks" "Classes.lay_blanks" (defArgs s_Classes_lay_blanks) (defBody s_Classes_lay_blanks) (defScope s_Classes_lay_blanks) .none kV_Classes_lay_blanks dc_Classes_lay_blanks pm_Classes_lay_blanks an_Classes_lay_blanks cd_Classes_lay_blanks ct_Classes_lay_blanks), sl_Classes_lay_blanks⟩)
    (c_Classes_lay_blanks : PySem.W.codeIn K cd_Classes_lay_blanks "Classes.lay_blanks" = true)
    (k_Classes_lay_blanks : PySem.W.keepIn K (.ref f_Classes_lay_blanks) = true)
    (a_Classes_lay : PySem.W.findIn K (.ref CC) "lay" = some (some (.ref f_Classes_lay)))
    (i_Classes_lay : PySem.W.isFn K (.ref f_Classes_lay) = true)
    (l_Classes_lay : K.lookup f_Classes_lay = some ⟨oc_Classes_lay, od_Classes_lay, .func (PySem.W.fnOf "lay" "Classes.lay" (defArgs s_Classes_lay) (defBody s_Classes_lay) (defScope s_Classes_lay) .none kV_Classes_lay dc_Classes_lay pm_Classes_lay an_Classes_lay cd_Classes_lay ct_Classes_lay), sl_Classes_lay⟩)
    (c_Classes_lay : PySem.W.codeIn K cd_Classes_lay "Classes.lay" = true)
    (k_Classes_lay : PySem.W.keepIn K (.ref f_Classes_lay) = true)
    (a_Classes___init__ : PySem.W.findIn K (.ref CC) "__init__" = some (some (.ref f_Classes___init__)))
    (i_Classes___init__ : PySem.W.isFn K (.ref f_Classes___init__) = true)
    (l_Classes___init__ : K.lookup f_Classes___init__ = some ⟨oc_Classes___init__, od_Classes___init__, .func (PySem.W.fnOf "__init__" "Classes.__init__" (defArgs s_Classes___init__) (defBody s_Classes___init__) (defScope s_Classes___init__) .none kV_Classes___init__ dc_Classes___init__ pm_Classes___init__ an_Classes___init__ cd_Classes___init__ ct_Classes___init__), sl_Classes___init__⟩)
    (c_Classes___init__ : PySem.W.codeIn K cd_Classes___init__ "Classes.__init__" = true)
    (k_Classes___init__ : PySem.W.keepIn K (.ref f_Classes___init__) = true)
    (a_Classes_lay_all : PySem.W.findIn K (.ref CC) "lay_all" = some (some (.ref f_Classes_lay_all)))
    (i_Classes_lay_all : PySem.W.isFn K (.ref f_Classes_lay_all) = true)
    (l_Classes_lay_all : K.lookup f_Classes_lay_all = some ⟨oc_Classes_lay_all, od_Classes_lay_all, .func (PySem.W.fnOf "lay_all" "Classes.lay_all" (defArgs s_Classes_lay_all) (defBody s_Classes_lay_all) (defScope s_Classes_lay_all) .none kV_Classes_lay_all dc_Classes_lay_all pm_Classes_lay_all an_Classes_lay_all cd_Classes_lay_all ct_Classes_lay_all), sl_Classes_lay_all⟩)
    (c_Classes_lay_all : PySem.W.codeIn K cd_Classes_lay_all "Classes.lay_all" = true)
    (k_Classes_lay_all : PySem.W.keepIn K (.ref f_Classes_lay_all) = true)
    (a_Classes_from_within : PySem.W.findIn K (.ref CC) "from_within" = some (some (.ref f_Classes_from_within)))
    (i_Classes_from_within : PySem.W.isFn K (.ref f_Classes_from_within) = true)
    (l_Classes_from_within : K.lookup f_Classes_from_within = some ⟨oc_Classes_from_within, od_Classes_from_within, .func (PySem.W.fnOf "from_within" "Classes.from_within" (defArgs s_Classes_from_within) (defBody s_Classes_from_within) (defScope s_Classes_from_within) .none kV_Classes_from_within dc_Classes_from_within pm_Classes_from_within an_Classes_from_within cd_Classes_from_within ct_Classes_from_within), sl_Classes_from_within⟩)
    (c_Classes_from_within : PySem.W.codeIn K cd_Classes_from_within "Classes.from_within" = true)
    (k_Classes_from_within : PySem.W.keepIn K (.ref f_Classes_from_within) = true)
    (a_Classes_whole_terms : PySem.W.findIn K (.ref CC) "whole_terms" = some (some (.ref f_Classes_whole_terms)))
    (i_Classes_whole_terms : PySem.W.isFn K (.ref f_Classes_whole_terms) = true)
    (l_Classes_whole_terms : K.lookup f_Classes_whole_terms = some ⟨oc_Classes_whole_terms, od_Classes_whole_terms, .func (PySem.W.fnOf "whole_terms" "Classes.whole_terms" (defArgs s_Classes_whole_terms) (defBody s_Classes_whole_terms) (defScope s_Classes_whole_terms) .none kV_Classes_whole_terms dc_Classes_whole_terms pm_Classes_whole_terms an_Classes_whole_terms cd_Classes_whole_terms ct_Classes_whole_terms), sl_Classes_whole_terms⟩)
    (c_Classes_whole_terms : PySem.W.codeIn K cd_Classes_whole_terms "Classes.whole_terms" = true)
    (k_Classes_whole_terms : PySem.W.keepIn K (.ref f_Classes_whole_terms) = true)
    (a_joint : PySem.W.nsIn K mainGlobals "joint" = some (some (.ref f_joint)))
    (l_joint : K.lookup f_joint = some ⟨oc_joint, od_joint, .func (PySem.W.fnOf "joint" "joint" (defArgs s_joint) (defBody s_joint) (defScope s_joint) .none kV_joint dc_joint pm_joint an_joint cd_joint ct_joint), sl_joint⟩)
    (c_joint : PySem.W.codeIn K cd_joint "joint" = true)
    (k_joint : PySem.W.keepIn K (.ref f_joint) = true)
    (a__law_blanks : PySem.W.nsIn K mainGlobals "_law_blanks" = some (some (.ref f__law_blanks)))
    (l__law_blanks : K.lookup f__law_blanks = some ⟨oc__law_blanks, od__law_blanks, .func (PySem.W.fnOf "_law_blanks" "_law_blanks" (defArgs s__law_blanks) (defBody s__law_blanks) (defScope s__law_blanks) .none kV__law_blanks dc__law_blanks pm__law_blanks an__law_blanks cd__law_blanks ct__law_blanks), sl__law_blanks⟩)
    (c__law_blanks : PySem.W.codeIn K cd__law_blanks "_law_blanks" = true)
    (k__law_blanks : PySem.W.keepIn K (.ref f__law_blanks) = true)
    (a__law_ordered : PySem.W.nsIn K mainGlobals "_law_ordered" = some (some (.ref f__law_ordered)))
    (l__law_ordered : K.lookup f__law_ordered = some ⟨oc__law_ordered, od__law_ordered, .func (PySem.W.fnOf "_law_ordered" "_law_ordered" (defArgs s__law_ordered) (defBody s__law_ordered) (defScope s__law_ordered) .none kV__law_ordered dc__law_ordered pm__law_ordered an__law_ordered cd__law_ordered ct__law_ordered), sl__law_ordered⟩)
    (c__law_ordered : PySem.W.codeIn K cd__law_ordered "_law_ordered" = true)
    (k__law_ordered : PySem.W.keepIn K (.ref f__law_ordered) = true)
    (a__law_tree : PySem.W.nsIn K mainGlobals "_law_tree" = some (some (.ref f__law_tree)))
    (l__law_tree : K.lookup f__law_tree = some ⟨oc__law_tree, od__law_tree, .func (PySem.W.fnOf "_law_tree" "_law_tree" (defArgs s__law_tree) (defBody s__law_tree) (defScope s__law_tree) .none kV__law_tree dc__law_tree pm__law_tree an__law_tree cd__law_tree ct__law_tree), sl__law_tree⟩)
    (c__law_tree : PySem.W.codeIn K cd__law_tree "_law_tree" = true)
    (k__law_tree : PySem.W.keepIn K (.ref f__law_tree) = true)
    (a__law_due : PySem.W.nsIn K mainGlobals "_law_due" = some (some (.ref f__law_due)))
    (l__law_due : K.lookup f__law_due = some ⟨oc__law_due, od__law_due, .func (PySem.W.fnOf "_law_due" "_law_due" (defArgs s__law_due) (defBody s__law_due) (defScope s__law_due) .none kV__law_due dc__law_due pm__law_due an__law_due cd__law_due ct__law_due), sl__law_due⟩)
    (c__law_due : PySem.W.codeIn K cd__law_due "_law_due" = true)
    (k__law_due : PySem.W.keepIn K (.ref f__law_due) = true)
    (a__law_right : PySem.W.nsIn K mainGlobals "_law_right" = some (some (.ref f__law_right)))
    (l__law_right : K.lookup f__law_right = some ⟨oc__law_right, od__law_right, .func (PySem.W.fnOf "_law_right" "_law_right" (defArgs s__law_right) (defBody s__law_right) (defScope s__law_right) .none kV__law_right dc__law_right pm__law_right an__law_right cd__law_right ct__law_right), sl__law_right⟩)
    (c__law_right : PySem.W.codeIn K cd__law_right "_law_right" = true)
    (k__law_right : PySem.W.keepIn K (.ref f__law_right) = true)
    (a_law : PySem.W.nsIn K mainGlobals "law" = some (some (.ref f_law)))
    (l_law : K.lookup f_law = some ⟨oc_law, od_law, .func (PySem.W.fnOf "law" "law" (defArgs s_law) (defBody s_law) (defScope s_law) .none kV_law dc_law pm_law an_law cd_law ct_law), sl_law⟩)
    (c_law : PySem.W.codeIn K cd_law "law" = true)
    (k_law : PySem.W.keepIn K (.ref f_law) = true)
    (z_isinstance : PySem.W.nsIn K mainGlobals "isinstance" = some none)
    (z_int : PySem.W.nsIn K mainGlobals "int" = some none)
    (z_bool : PySem.W.nsIn K mainGlobals "bool" = some none)
    (z_dict : PySem.W.nsIn K mainGlobals "dict" = some none)
    (z_tuple : PySem.W.nsIn K mainGlobals "tuple" = some none)
    (z_list : PySem.W.nsIn K mainGlobals "list" = some none)
    (z_len : PySem.W.nsIn K mainGlobals "len" = some none)
    (z_any : PySem.W.nsIn K mainGlobals "any" = some none)
    (z_abs : PySem.W.nsIn K mainGlobals "abs" = some none)
    (z_min : PySem.W.nsIn K mainGlobals "min" = some none)
    (z_max : PySem.W.nsIn K mainGlobals "max" = some none)
    (z_sum : PySem.W.nsIn K mainGlobals "sum" = some none)
    (z_range : PySem.W.nsIn K mainGlobals "range" = some none)
    (z_enumerate : PySem.W.nsIn K mainGlobals "enumerate" = some none)
    (z_zip : PySem.W.nsIn K mainGlobals "zip" = some none)
    (g_MOST_LEVELS : PySem.W.nsIn K mainGlobals "MOST_LEVELS" = some (some (.int 60 t_MOST_LEVELS)))
    (g_MOST_PARTS : PySem.W.nsIn K mainGlobals "MOST_PARTS" = some (some (.int 1000 t_MOST_PARTS)))
    : ∃ fd : FuncData, (∀ (s : Shared) (v : Value), BindsTo s fd ⟨[v], []⟩ [("script", v)]) ∧ ∀ base : Heap, K.In base → base.Ns mainGlobals mg → FnOkG l.prog w K mg base 18 fa fd ["script"] (spQ K cLaw) := by
  have e := hfa.symm.trans (PySem.W.mg_of X G a_law)
  cases e
  have B : Blt mg := ⟨PySem.W.mg_none_of X G z_isinstance, PySem.W.mg_none_of X G z_int, PySem.W.mg_none_of X G z_bool, PySem.W.mg_none_of X G z_dict, PySem.W.mg_none_of X G z_tuple, PySem.W.mg_none_of X G z_list, PySem.W.mg_none_of X G z_len, PySem.W.mg_none_of X G z_any, PySem.W.mg_none_of X G z_abs, PySem.W.mg_none_of X G z_min, PySem.W.mg_none_of X G z_max, PySem.W.mg_none_of X G z_sum, PySem.W.mg_none_of X G z_range, PySem.W.mg_none_of X G z_enumerate, PySem.W.mg_none_of X G z_zip⟩
  have GB : Glb mg := ⟨⟨_, PySem.W.mg_of X G g_MOST_LEVELS⟩, ⟨_, PySem.W.mg_of X G g_MOST_PARTS⟩⟩
  have T : TC K CC := ⟨⟨p_pg, p_hd, p_po, p_sa⟩, p_n_lesser, p_n_term_of, p_n_laid, p_n_tasks⟩
  have F_levels := fun_mk (st := s_levels) l_levels c_levels k_levels
  have F_count_parts := fun_mk (st := s_count_parts) l_count_parts c_count_parts k_count_parts
  have F__law_take := fun_mk (st := s__law_take) l__law_take c__law_take k__law_take
  have F__law_pick := fun_mk (st := s__law_pick) l__law_pick c__law_pick k__law_pick
  have F__law_pot := fun_mk (st := s__law_pot) l__law_pot c__law_pot k__law_pot
  have F__law_names := fun_mk (st := s__law_names) l__law_names c__law_names k__law_names
  have F_is_whole := fun_mk (st := s_is_whole) l_is_whole c_is_whole k_is_whole
  have F_head := fun_mk (st := s_head) l_head c_head k_head
  have F_parts_from := fun_mk (st := s_parts_from) l_parts_from c_parts_from k_parts_from
  have F_parts_of := fun_mk (st := s_parts_of) l_parts_of c_parts_of k_parts_of
  have F_blanks := fun_mk (st := s_blanks) l_blanks c_blanks k_blanks
  have F_measures := fun_mk (st := s_measures) l_measures c_measures k_measures
  have F_filled_in := fun_mk (st := s_filled_in) l_filled_in c_filled_in k_filled_in
  have F_filled := fun_mk (st := s_filled) l_filled c_filled k_filled
  have F_Classes_least_of := fun_mk (st := s_Classes_least_of) l_Classes_least_of c_Classes_least_of k_Classes_least_of
  have F_Classes_keep_term := fun_mk (st := s_Classes_keep_term) l_Classes_keep_term c_Classes_keep_term k_Classes_keep_term
  have F_Classes_lay_blanks := fun_mk (st := s_Classes_lay_blanks) l_Classes_lay_blanks c_Classes_lay_blanks k_Classes_lay_blanks
  have F_Classes_lay := fun_mk (st := s_Classes_lay) l_Classes_lay c_Classes_lay k_Classes_lay
  have F_Classes___init__ := fun_mk (st := s_Classes___init__) l_Classes___init__ c_Classes___init__ k_Classes___init__
  have F_Classes_lay_all := fun_mk (st := s_Classes_lay_all) l_Classes_lay_all c_Classes_lay_all k_Classes_lay_all
  have F_Classes_from_within := fun_mk (st := s_Classes_from_within) l_Classes_from_within c_Classes_from_within k_Classes_from_within
  have F_Classes_whole_terms := fun_mk (st := s_Classes_whole_terms) l_Classes_whole_terms c_Classes_whole_terms k_Classes_whole_terms
  have F_joint := fun_mk (st := s_joint) l_joint c_joint k_joint
  have F__law_blanks := fun_mk (st := s__law_blanks) l__law_blanks c__law_blanks k__law_blanks
  have F__law_ordered := fun_mk (st := s__law_ordered) l__law_ordered c__law_ordered k__law_ordered
  have F__law_tree := fun_mk (st := s__law_tree) l__law_tree c__law_tree k__law_tree
  have F__law_due := fun_mk (st := s__law_due) l__law_due c__law_due k__law_due
  have F__law_right := fun_mk (st := s__law_right) l__law_right c__law_right k__law_right
  have F_law := fun_mk (st := s_law) l_law c_law k_law
  have b_levels := F_levels.binds (ps := ["term"]) fun _ _ _ _ _ _ us hl => match us, hl with | [_], _ => rfl
  have b_count_parts := F_count_parts.binds (ps := ["term"]) fun _ _ _ _ _ _ us hl => match us, hl with | [_], _ => rfl
  have b__law_take := F__law_take.binds (ps := ["pot", "many"]) fun _ _ _ _ _ _ us hl => match us, hl with | [_, _], _ => rfl
  have b__law_pick := F__law_pick.binds (ps := ["pot", "some"]) fun _ _ _ _ _ _ us hl => match us, hl with | [_, _], _ => rfl
  have b__law_pot := F__law_pot.binds (ps := ["script"]) fun _ _ _ _ _ _ us hl => match us, hl with | [_], _ => rfl
  have b__law_names := F__law_names.binds (ps := ["pot", "many"]) fun _ _ _ _ _ _ us hl => match us, hl with | [_, _], _ => rfl
  have b_is_whole := F_is_whole.binds (ps := ["thing"]) fun _ _ _ _ _ _ us hl => match us, hl with | [_], _ => rfl
  have b_head := F_head.binds (ps := ["term"]) fun _ _ _ _ _ _ us hl => match us, hl with | [_], _ => rfl
  have b_parts_from := F_parts_from.binds (ps := ["term", "path"]) fun _ _ _ _ _ _ us hl => match us, hl with | [_, _], _ => rfl
  have b_parts_of := F_parts_of.binds (ps := ["term"]) fun _ _ _ _ _ _ us hl => match us, hl with | [_], _ => rfl
  have b_blanks := F_blanks.binds (ps := ["term"]) fun _ _ _ _ _ _ us hl => match us, hl with | [_], _ => rfl
  have b_measures := F_measures.binds (ps := ["term", "sizes"]) fun _ _ _ _ _ _ us hl => match us, hl with | [_, _], _ => rfl
  have b_filled_in := F_filled_in.binds (ps := ["term", "filling"]) fun _ _ _ _ _ _ us hl => match us, hl with | [_, _], _ => rfl
  have b_filled := F_filled.binds (ps := ["term", "filling"]) fun _ _ _ _ _ _ us hl => match us, hl with | [_, _], _ => rfl
  have b_Classes_least_of := F_Classes_least_of.binds (ps := ["self", "blank"]) fun _ _ _ _ _ _ us hl => match us, hl with | [_, _], _ => rfl
  have b_Classes_keep_term := F_Classes_keep_term.binds (ps := ["self", "blank", "term"]) fun _ _ _ _ _ _ us hl => match us, hl with | [_, _, _], _ => rfl
  have b_Classes_lay_blanks := F_Classes_lay_blanks.binds (ps := ["self", "one", "other"]) fun _ _ _ _ _ _ us hl => match us, hl with | [_, _, _], _ => rfl
  have b_Classes_lay := F_Classes_lay.binds (ps := ["self", "one", "other"]) fun _ _ _ _ _ _ us hl => match us, hl with | [_, _, _], _ => rfl
  have b_Classes___init__ := F_Classes___init__.binds (ps := ["self"]) fun _ _ _ _ _ _ us hl => match us, hl with | [_], _ => rfl
  have b_Classes_lay_all := F_Classes_lay_all.binds (ps := ["self", "one", "other"]) fun _ _ _ _ _ _ us hl => match us, hl with | [_, _, _], _ => rfl
  have b_Classes_from_within := F_Classes_from_within.binds (ps := ["self"]) fun _ _ _ _ _ _ us hl => match us, hl with | [_], _ => rfl
  have b_Classes_whole_terms := F_Classes_whole_terms.binds (ps := ["self", "order"]) fun _ _ _ _ _ _ us hl => match us, hl with | [_, _], _ => rfl
  have b_joint := F_joint.binds (ps := ["one", "other"]) fun _ _ _ _ _ _ us hl => match us, hl with | [_, _], _ => rfl
  have b__law_blanks := F__law_blanks.binds (ps := ["pot"]) fun _ _ _ _ _ _ us hl => match us, hl with | [_], _ => rfl
  have b__law_ordered := F__law_ordered.binds (ps := ["pot", "pairs"]) fun _ _ _ _ _ _ us hl => match us, hl with | [_, _], _ => rfl
  have b__law_tree := F__law_tree.binds (ps := ["name", "row"]) fun _ _ _ _ _ _ us hl => match us, hl with | [_, _], _ => rfl
  have b__law_due := F__law_due.binds (ps := ["stretches", "ends"]) fun _ _ _ _ _ _ us hl => match us, hl with | [_, _], _ => rfl
  have b__law_right := F__law_right.binds (ps := ["one", "other", "due"]) fun _ _ _ _ _ _ us hl => match us, hl with | [_, _, _], _ => rfl
  have b_law := F_law.binds (ps := ["script"]) fun _ _ _ _ _ _ us hl => match us, hl with | [_], _ => rfl
  refine ⟨PySem.W.fnOf "law" "law" (defArgs s_law) (defBody s_law) (defScope s_law) .none kV_law dc_law pm_law an_law cd_law ct_law, fun s v => .of_eq rfl, fun base _ _ => ?_⟩
  have C_levels : Fn l.prog w K mg base 1 "levels" cNever [] := Fn.never F_levels (PySem.W.mg_of X G a_levels) b_levels
  have C_count_parts : Fn l.prog w K mg base 1 "count_parts" cNever [] := Fn.never F_count_parts (PySem.W.mg_of X G a_count_parts) b_count_parts
  have C__law_take := ok__law_take (P := l.prog) (w := w) (base := base) F__law_take (PySem.W.mg_of X G a__law_take) b__law_take B
  have C__law_pick := ok__law_pick (P := l.prog) (w := w) (base := base) F__law_pick (PySem.W.mg_of X G a__law_pick) b__law_pick B C__law_take
  have C__law_pot := ok__law_pot (P := l.prog) (w := w) (base := base) F__law_pot (PySem.W.mg_of X G a__law_pot) b__law_pot B
  have C__law_names := ok__law_names (P := l.prog) (w := w) (base := base) F__law_names (PySem.W.mg_of X G a__law_names) b__law_names B C__law_take C__law_pick
  have C_is_whole := ok_is_whole (P := l.prog) (w := w) (base := base) F_is_whole (PySem.W.mg_of X G a_is_whole) b_is_whole B
  have C_head := ok_head (P := l.prog) (w := w) (base := base) F_head (PySem.W.mg_of X G a_head) b_head B C_is_whole
  have C_parts_from := ok_parts_from (P := l.prog) (w := w) (base := base) F_parts_from (PySem.W.mg_of X G a_parts_from) b_parts_from B C_is_whole 10
  have C_parts_of := ok_parts_of (P := l.prog) (w := w) (base := base) F_parts_of (PySem.W.mg_of X G a_parts_of) b_parts_of B C_parts_from
  have C_blanks := ok_blanks (P := l.prog) (w := w) (base := base) F_blanks (PySem.W.mg_of X G a_blanks) b_blanks B C_is_whole C_parts_of
  have C_measures := ok_measures (P := l.prog) (w := w) (base := base) F_measures (PySem.W.mg_of X G a_measures) b_measures B C_is_whole
  have C_filled_in := ok_filled_in (P := l.prog) (w := w) (base := base) F_filled_in (PySem.W.mg_of X G a_filled_in) b_filled_in B C_is_whole
  have C_filled := ok_filled (P := l.prog) (w := w) (base := base) F_filled (PySem.W.mg_of X G a_filled) b_filled B GB C_levels C_count_parts C_measures C_filled_in
  have M_least_of := ok_Classes_least_of (P := l.prog) (w := w) (base := base) F_Classes_least_of b_Classes_least_of ⟨a_Classes_least_of, i_Classes_least_of, k_Classes_least_of⟩ B T
  have M_keep_term := ok_Classes_keep_term (P := l.prog) (w := w) (base := base) F_Classes_keep_term b_Classes_keep_term ⟨a_Classes_keep_term, i_Classes_keep_term, k_Classes_keep_term⟩ B T
  have M_lay_blanks := ok_Classes_lay_blanks (P := l.prog) (w := w) (base := base) F_Classes_lay_blanks b_Classes_lay_blanks ⟨a_Classes_lay_blanks, i_Classes_lay_blanks, k_Classes_lay_blanks⟩ B T M_keep_term
  have M_lay := ok_Classes_lay (P := l.prog) (w := w) (base := base) F_Classes_lay b_Classes_lay ⟨a_Classes_lay, i_Classes_lay, k_Classes_lay⟩ B T C_is_whole C_head M_least_of M_keep_term M_lay_blanks
  have I_Classes := ok_Classes___init__ (P := l.prog) (w := w) (base := base) F_Classes___init__ b_Classes___init__ ⟨p_mk, a_Classes___init__, i_Classes___init__, p_kc⟩ (PySem.W.mg_of X G p_C) B T
  have M_lay_all := ok_Classes_lay_all (P := l.prog) (w := w) (base := base) F_Classes_lay_all b_Classes_lay_all ⟨a_Classes_lay_all, i_Classes_lay_all, k_Classes_lay_all⟩ B T M_lay
  have M_from_within := ok_Classes_from_within (P := l.prog) (w := w) (base := base) F_Classes_from_within b_Classes_from_within ⟨a_Classes_from_within, i_Classes_from_within, k_Classes_from_within⟩ B T C_blanks M_least_of
  have M_whole_terms := ok_Classes_whole_terms (P := l.prog) (w := w) (base := base) F_Classes_whole_terms b_Classes_whole_terms ⟨a_Classes_whole_terms, i_Classes_whole_terms, k_Classes_whole_terms⟩ B T C_blanks C_filled M_least_of
  have C_joint := ok_joint (P := l.prog) (w := w) (base := base) F_joint (PySem.W.mg_of X G a_joint) b_joint B T C_blanks I_Classes M_lay_all M_from_within M_whole_terms M_least_of
  have C__law_blanks := ok__law_blanks (P := l.prog) (w := w) (base := base) F__law_blanks (PySem.W.mg_of X G a__law_blanks) b__law_blanks B C__law_take C__law_pick
  have C__law_ordered := ok__law_ordered (P := l.prog) (w := w) (base := base) F__law_ordered (PySem.W.mg_of X G a__law_ordered) b__law_ordered B C__law_take
  have C__law_tree := ok__law_tree (P := l.prog) (w := w) (base := base) F__law_tree (PySem.W.mg_of X G a__law_tree) b__law_tree B 2
  have C__law_due := ok__law_due (P := l.prog) (w := w) (base := base) F__law_due (PySem.W.mg_of X G a__law_due) b__law_due B
  have C__law_right := ok__law_right (P := l.prog) (w := w) (base := base) F__law_right (PySem.W.mg_of X G a__law_right) b__law_right B C_joint
  exact ok_law (P := l.prog) (w := w) (base := base) F_law b_law B C__law_pot C__law_take C__law_pick C__law_names C__law_blanks C__law_ordered C__law_tree C__law_due C__law_right
theorem walk {l : PySem.W.OpenLaw} {q : Program} {loose : List Str} {XP : (Str → Option Value) → Heap → Prop} {YP : World → Heap → Prop} {d : DefRec} {K : Params → PySem.W.Frag} (hn : l.most = some 63) (hdf : d.params.defaults = [])
    (hY : ∀ (w : World) (h : Heap), YP w h → (K w.params).In h)
    (F : ∀ (w : World) (mg : Str → Option Value) (fa : Addr) (h : Heap), (K w.params).In h → h.Ns mainGlobals mg → mg d.name = some (.ref fa) →
      ∃ fd : FuncData, (∀ (s : Shared) (u : Value), BindsTo s fd ⟨[u], []⟩ [("script", u)]) ∧ ∀ base : Heap, (K w.params).In base → base.Ns mainGlobals mg → FnOkG l.prog w (K w.params) mg base 18 fa fd ["script"] (spQ (K w.params) cLaw)) :
    PySem.W.WalkO q loose XP YP l.row.toRowW d [] (fun f vs => PySem.call f vs) :=
  walkG (n := 63) (k := 18) (x := "script") (sp := fun w => spQ (K w.params) cLaw) hn (by decide) hdf ⟨rfl, by decide, by decide⟩ hY F fun w H a ns hl ho hs => sp_scr hl ho hs
end K15
open PySem PySem.W PyProof.Rows
set_option maxRecDepth 100000 in
set_option maxHeartbeats 0 in
theorem PySem.Challenge.cw_endwise_k15_long_rows_of_blanks_holds : PySem.Challenge.rw_endwise_k15_long_rows_of_blanks.Holds := by
  w_on; o_law; k_head; (case hw => w_witness2)
  k_fill
  refine K15.walk (l := PySem.Challenge.rw_endwise_k15_long_rows_of_blanks) rfl rfl (fun w h Y => PySem.W.kIn_of Y) ?F
  case F =>
    intro w mg fa h KX G hmg
    refine' K15.all_mk KX G hmg ?p_C ?p_pg ?p_hd ?p_po ?p_sa ?p_mk ?p_kc ?p_n_lesser ?p_n_term_of ?p_n_laid ?p_n_tasks ?a_levels ?l_levels ?c_levels ?k_levels ?a_count_parts ?l_count_parts ?c_count_parts ?k_count_parts ?a__law_take ?l__law_take ?c__law_take ?k__law_take ?a__law_pick ?l__law_pick ?c__law_pick ?k__law_pick ?a__law_pot ?l__law_pot ?c__law_pot ?k__law_pot ?a__law_names ?l__law_names ?c__law_names ?k__law_names ?a_is_whole ?l_is_whole ?c_is_whole ?k_is_whole ?a_head ?l_head ?c_head ?k_head ?a_parts_from ?l_parts_from ?c_parts_from ?k_parts_from ?a_parts_of ?l_parts_of ?c_parts_of ?k_parts_of ?a_blanks ?l_blanks ?c_blanks ?k_blanks ?a_measures ?l_measures ?c_measures ?k_measures ?a_filled_in ?l_filled_in ?c_filled_in ?k_filled_in ?a_filled ?l_filled ?c_filled ?k_filled ?a_Classes_least_of ?i_Classes_least_of ?l_Classes_least_of ?c_Classes_least_of ?k_Classes_least_of ?a_Classes_keep_term ?i_Classes_keep_term ?l_Classes_keep_term ?c_Classes_keep_term ?k_Classes_keep_term ?a_Classes_lay_blanks ?i_Classes_lay_blanks ?l_Classes_lay_blanks ?c_Classes_lay_blanks ?k_Classes_lay_blanks ?a_Classes_lay ?i_Classes_lay ?l_Classes_lay ?c_Classes_lay ?k_Classes_lay ?a_Classes___init__ ?i_Classes___init__ ?l_Classes___init__ ?c_Classes___init__ ?k_Classes___init__ ?a_Classes_lay_all ?i_Classes_lay_all ?l_Classes_lay_all ?c_Classes_lay_all ?k_Classes_lay_all ?a_Classes_from_within ?i_Classes_from_within ?l_Classes_from_within ?c_Classes_from_within ?k_Classes_from_within ?a_Classes_whole_terms ?i_Classes_whole_terms ?l_Classes_whole_terms ?c_Classes_whole_terms ?k_Classes_whole_terms ?a_joint ?l_joint ?c_joint ?k_joint ?a__law_blanks ?l__law_blanks ?c__law_blanks ?k__law_blanks ?a__law_ordered ?l__law_ordered ?c__law_ordered ?k__law_ordered ?a__law_tree ?l__law_tree ?c__law_tree ?k__law_tree ?a__law_due ?l__law_due ?c__law_due ?k__law_due ?a__law_right ?l__law_right ?c__law_right ?k__law_right ?a_law ?l_law ?c_law ?k_law ?z_isinstance ?z_int ?z_bool ?z_dict ?z_tuple ?z_list ?z_len ?z_any ?z_abs ?z_min ?z_max ?z_sum ?z_range ?z_enumerate ?z_zip ?g_MOST_LEVELS ?g_MOST_PARTS
    (case p_C => k_is)
    (case p_pg => k_is)
    (case p_hd => k_is)
    (case p_po => k_is)
    (case p_sa => k_is)
    (case p_mk => k_is)
    (case p_kc => k_is)
    (case p_n_lesser => k_is)
    (case p_n_term_of => k_is)
    (case p_n_laid => k_is)
    (case p_n_tasks => k_is)
    (case a_levels => k_is)
    (case l_levels => k_is)
    (case c_levels => k_is)
    (case k_levels => k_is)
    (case a_count_parts => k_is)
    (case l_count_parts => k_is)
    (case c_count_parts => k_is)
    (case k_count_parts => k_is)
    (case a__law_take => k_is)
    (case l__law_take => k_is)
    (case c__law_take => k_is)
    (case k__law_take => k_is)
    (case a__law_pick => k_is)
    (case l__law_pick => k_is)
    (case c__law_pick => k_is)
    (case k__law_pick => k_is)
    (case a__law_pot => k_is)
    (case l__law_pot => k_is)
    (case c__law_pot => k_is)
    (case k__law_pot => k_is)
    (case a__law_names => k_is)
    (case l__law_names => k_is)
    (case c__law_names => k_is)
    (case k__law_names => k_is)
    (case a_is_whole => k_is)
    (case l_is_whole => k_is)
    (case c_is_whole => k_is)
    (case k_is_whole => k_is)
    (case a_head => k_is)
    (case l_head => k_is)
    (case c_head => k_is)
    (case k_head => k_is)
    (case a_parts_from => k_is)
    (case l_parts_from => k_is)
    (case c_parts_from => k_is)
    (case k_parts_from => k_is)
    (case a_parts_of => k_is)
    (case l_parts_of => k_is)
    (case c_parts_of => k_is)
    (case k_parts_of => k_is)
    (case a_blanks => k_is)
    (case l_blanks => k_is)
    (case c_blanks => k_is)
    (case k_blanks => k_is)
    (case a_measures => k_is)
    (case l_measures => k_is)
    (case c_measures => k_is)
    (case k_measures => k_is)
    (case a_filled_in => k_is)
    (case l_filled_in => k_is)
    (case c_filled_in => k_is)
    (case k_filled_in => k_is)
    (case a_filled => k_is)
    (case l_filled => k_is)
    (case c_filled => k_is)
    (case k_filled => k_is)
    (case a_Classes_least_of => k_is)
    (case i_Classes_least_of => k_is)
    (case l_Classes_least_of => k_is)
    (case c_Classes_least_of => k_is)
    (case k_Classes_least_of => k_is)
    (case a_Classes_keep_term => k_is)
    (case i_Classes_keep_term => k_is)
    (case l_Classes_keep_term => k_is)
    (case c_Classes_keep_term => k_is)
    (case k_Classes_keep_term => k_is)
    (case a_Classes_lay_blanks => k_is)
    (case i_Classes_lay_blanks => k_is)
    (case l_Classes_lay_blanks => k_is)
    (case c_Classes_lay_blanks => k_is)
    (case k_Classes_lay_blanks => k_is)
    (case a_Classes_lay => k_is)
    (case i_Classes_lay => k_is)
    (case l_Classes_lay => k_is)
    (case c_Classes_lay => k_is)
    (case k_Classes_lay => k_is)
    (case a_Classes___init__ => k_is)
    (case i_Classes___init__ => k_is)
    (case l_Classes___init__ => k_is)
    (case c_Classes___init__ => k_is)
    (case k_Classes___init__ => k_is)
    (case a_Classes_lay_all => k_is)
    (case i_Classes_lay_all => k_is)
    (case l_Classes_lay_all => k_is)
    (case c_Classes_lay_all => k_is)
    (case k_Classes_lay_all => k_is)
    (case a_Classes_from_within => k_is)
    (case i_Classes_from_within => k_is)
    (case l_Classes_from_within => k_is)
    (case c_Classes_from_within => k_is)
    (case k_Classes_from_within => k_is)
    (case a_Classes_whole_terms => k_is)
    (case i_Classes_whole_terms => k_is)
    (case l_Classes_whole_terms => k_is)
    (case c_Classes_whole_terms => k_is)
    (case k_Classes_whole_terms => k_is)
    (case a_joint => k_is)
    (case l_joint => k_is)
    (case c_joint => k_is)
    (case k_joint => k_is)
    (case a__law_blanks => k_is)
    (case l__law_blanks => k_is)
    (case c__law_blanks => k_is)
    (case k__law_blanks => k_is)
    (case a__law_ordered => k_is)
    (case l__law_ordered => k_is)
    (case c__law_ordered => k_is)
    (case k__law_ordered => k_is)
    (case a__law_tree => k_is)
    (case l__law_tree => k_is)
    (case c__law_tree => k_is)
    (case k__law_tree => k_is)
    (case a__law_due => k_is)
    (case l__law_due => k_is)
    (case c__law_due => k_is)
    (case k__law_due => k_is)
    (case a__law_right => k_is)
    (case l__law_right => k_is)
    (case c__law_right => k_is)
    (case k__law_right => k_is)
    (case a_law => k_is)
    (case l_law => k_is)
    (case c_law => k_is)
    (case k_law => k_is)
    (case z_isinstance => k_is)
    (case z_int => k_is)
    (case z_bool => k_is)
    (case z_dict => k_is)
    (case z_tuple => k_is)
    (case z_list => k_is)
    (case z_len => k_is)
    (case z_any => k_is)
    (case z_abs => k_is)
    (case z_min => k_is)
    (case z_max => k_is)
    (case z_sum => k_is)
    (case z_range => k_is)
    (case z_enumerate => k_is)
    (case z_zip => k_is)
    (case g_MOST_LEVELS => k_is)
    (case g_MOST_PARTS => k_is)
