import PyProof.Rows.All
import Wide.All
import OpenK.AllK
import Wide.FinOn
import HandS.ForMost
import HandS.ForExc
import HandS.Deep
import HandS.IsInst
import HandS.TupAny
import HandS.TupMul
import HandS.Conv
import KE.KDictKeyed
import KE.KDictCopyH
import PyProof.Rows.SeqMore
import KE.GoesMore
import KE.GoesEnum
import PyProof.EqAt
import HandS.Iter
import HandS.SetFor
import HandS.Strs
import HandS.DictComp
import HandS.WordsDict
import HandS.More
import HandS.Defaults
import HandS.MakeKwOnly
import PySem.Challenge.RW_foldsall_k50_whole_seen_forks_and_how_ma
import HandS.Comp
import HandS.Lambda
import KE.KExcSuper
import KE.KExcRaise
import HandS.ExcSuper
import HandS.ExcField
import HandS.TryOnly
import HandS.ExcOwn
import HandS.WordsExc
import HandS.EndTab
import KE.KNestM
set_option Elab.async false
set_option linter.all false
set_option maxRecDepth 100000
/-! data trees, a small store, and what of a heap answers to them -/
namespace K50
open PySem PySem.Spec PyProof.Rows L2

/-- a value: immutable things as trees (tpl: a tuple whose object is known to have no dict; obj: whatever stands at a place), a list or a dict by its number in the store -/
inductive D where
  | non | bl (b : Bool) | int (i : Int) | str (s : Str) | tup (ds : List D) | tpl (ds : List D) | ref (n : Nat) | obj (a : Addr)
/-- what stands in the store: a list; a dict of True by tuples of flat things; one that is walked -/
inductive Ob where
  | lst (ds : List D) | dic (ks : List (List (Option Int))) | wdic (ks : List (List (Option Int)))
abbrev Sto := List Ob
abbrev Sl := List (Option D)
abbrev FE := Sl → Sto → Option (D × Sto)
abbrev FB := Sl → Sto → Option (Bool × Sto)
abbrev FA := Sl → Sto → Option (List D × Sto)
inductive Fl where
  | nx (τ : Sl) | rt (d : D) | bk (τ : Sl)
abbrev FS := Sl → Sto → Option (Fl × Sto)
abbrev FF := List D → Sto → Option (D × Sto)

/-- a tuple, its object known -/
def NdT (H : Hp) (a : Addr) (vs : List V) : Prop := ∃ o : Obj, H a = some (.frz o (.tup vs)) ∧ o.dict = none
theorem NdT.sq {K : PySem.W.Frag} {H : Hp} {a : Addr} {vs : List V} (h : NdT H a vs) : SqT K H a vs := let ⟨o, h, _⟩ := h; .inl (.inr ⟨o, h⟩)
mutual
inductive At (K : PySem.W.Frag) (H : Hp) (ρ : List Addr) : V → D → Prop
  | non : At K H ρ .non .non
  | bl (b : Bool) : At K H ρ (.bl b) (.bl b)
  | int (i : Int) : At K H ρ (.int i) (.int i)
  | str (x : Str) : At K H ρ (.str x) (.str x)
  | tup {a : Addr} {vs : List V} {ds : List D} : SqT K H a vs → AtL K H ρ vs ds → At K H ρ (.ref a) (.tup ds)
  | tpl {a : Addr} {vs : List V} {ds : List D} : NdT H a vs → AtL K H ρ vs ds → At K H ρ (.ref a) (.tpl ds)
  | ref {a : Addr} {i : Nat} : ρ[i]? = some a → At K H ρ (.ref a) (.ref i)
  | obj (a : Addr) : At K H ρ (.ref a) (.obj a)
inductive AtL (K : PySem.W.Frag) (H : Hp) (ρ : List Addr) : List V → List D → Prop
  | nil : AtL K H ρ [] []
  | cons {v : V} {vs : List V} {d : D} {ds : List D} : At K H ρ v d → AtL K H ρ vs ds → AtL K H ρ (v :: vs) (d :: ds)
end

section
variable {K : PySem.W.Frag} {H H' : Hp} {ρ ρ' : List Addr}
/-- tuples (and known things) stay, and the store's places -/
structure Kp (H H' : Hp) (ρ ρ' : List Addr) : Prop where
  tup : ∀ (a : Addr) (xs : List V), Rd H a (.tup xs) → Rd H' a (.tup xs)
  pre : ∀ (i : Nat) (a : Addr), ρ[i]? = some a → ρ'[i]? = some a
  nd : ∀ (a : Addr) (o : Obj) (xs : List V), H a = some (.frz o (.tup xs)) → H' a = some (.frz o (.tup xs))
theorem Kp.sqT (k : Kp H H' ρ ρ') {a : Addr} {xs : List V} (h : SqT K H a xs) : SqT K H' a xs := by
  rcases h with h | h
  · exact .inl (k.tup _ _ h)
  · exact .inr h
mutual
theorem At.kp (k : Kp H H' ρ ρ') : ∀ (d : D) (v : V), At K H ρ v d → At K H' ρ' v d
  | .non, _, h => by cases h; exact .non
  | .bl b, _, h => by cases h; exact .bl b
  | .int i, _, h => by cases h; exact .int i
  | .str x, _, h => by cases h; exact .str x
  | .tup ds, _, h => by
    cases h with
    | tup h1 h2 => exact .tup (k.sqT h1) (AtL.kp k ds _ h2)
  | .tpl ds, _, h => by
    cases h with
    | tpl h1 h2 =>
      obtain ⟨o, h1, hd⟩ := h1
      exact .tpl ⟨o, k.nd _ _ _ h1, hd⟩ (AtL.kp k ds _ h2)
  | .ref i, _, h => by
    cases h with
    | ref h1 => exact .ref (k.pre _ _ h1)
  | .obj a, _, h => by cases h; exact .obj a
theorem AtL.kp (k : Kp H H' ρ ρ') : ∀ (ds : List D) (vs : List V), AtL K H ρ vs ds → AtL K H' ρ' vs ds
  | [], _, h => by cases h; exact .nil
  | d :: ds, _, h => by
    cases h with
    | cons h1 h2 => exact .cons (At.kp k d _ h1) (AtL.kp k ds _ h2)
end
theorem AtL.length {vs : List V} : ∀ {ds : List D}, AtL K H ρ vs ds → vs.length = ds.length := by
  induction vs with
  | nil => intro ds h; cases h; rfl
  | cons v vs ih =>
    intro ds h
    cases h with
    | cons h1 h2 => rw [List.length_cons, List.length_cons, ih h2]
theorem AtL.get {d : D} : ∀ {ds : List D} {vs : List V} {i : Nat}, AtL K H ρ vs ds → ds[i]? = some d → ∃ v, vs[i]? = some v ∧ At K H ρ v d
  | [], _, _, _, h => by simp at h
  | x :: ds, _, 0, .cons h1 _, h => by
    simp at h
    subst h
    exact ⟨_, rfl, h1⟩
  | x :: ds, _, i + 1, .cons _ h2, h => by
    obtain ⟨v, e, q⟩ := AtL.get (i := i) h2 (by simpa using h)
    exact ⟨v, by simpa using e, q⟩
theorem AtL.get' {v : V} : ∀ {vs : List V} {ds : List D} {i : Nat}, AtL K H ρ vs ds → vs[i]? = some v → ∃ d, ds[i]? = some d ∧ At K H ρ v d
  | [], _, _, _, h => by simp at h
  | x :: vs, _, 0, .cons h1 _, h => by
    simp at h
    subst h
    exact ⟨_, rfl, h1⟩
  | x :: vs, _, i + 1, .cons _ h2, h => by
    obtain ⟨d, e, q⟩ := AtL.get' (i := i) h2 (by simpa using h)
    exact ⟨d, by simpa using e, q⟩
theorem AtL.append : ∀ {vs ws : List V} {ds es : List D}, AtL K H ρ vs ds → AtL K H ρ ws es → AtL K H ρ (vs ++ ws) (ds ++ es)
  | [], _, _, _, .nil, h => h
  | _ :: _, _, _, _, .cons h1 h2, h => .cons h1 (AtL.append h2 h)
theorem AtL.take : ∀ {vs : List V} {ds : List D} (n : Nat), AtL K H ρ vs ds → AtL K H ρ (vs.take n) (ds.take n)
  | _, _, 0, _ => .nil
  | _, _, _ + 1, .nil => .nil
  | _, _, n + 1, .cons h1 h2 => .cons h1 (AtL.take n h2)
theorem AtL.drop : ∀ {vs : List V} {ds : List D} (n : Nat), AtL K H ρ vs ds → AtL K H ρ (vs.drop n) (ds.drop n)
  | _, _, 0, h => h
  | _, _, _ + 1, .nil => .nil
  | _, _, n + 1, .cons _ h2 => AtL.drop n h2
theorem AtL.one {v : V} {d : D} (h : At K H ρ v d) : AtL K H ρ [v] [d] := .cons h .nil
end
/-! ### dicts of True by tuples of ints and Nones -/
def leafOf : Option Int → Leaf
  | none => .none
  | some i => .num i
def vOf : Option Int → V
  | none => .non
  | some i => .int i
section
variable (P : Program) (w : World)
abbrev knd : HeapKind P w (List Leaf) := tupleKind (leafKind P w)
/-- the dict's object, its entries told -/
def DicAt (a : Addr) (xs : List (List Leaf × Addr × Value)) (h : Heap) : Prop := (a == sysModules) = false ∧ xs.length ≤ sizeLine ∧ (xs.map (·.1)).Nodup ∧ ∃ o es ep, h.get? a = some o ∧ o.ExactDict ∧ o.data = .dict es ep ∧ es.toList = xs.map (entryOfKey (knd P w))
def dicO (a : Addr) (xs : List (List Leaf × Addr × Value)) : HO := .ext (DicAt P w a xs)
/-- an entry is of a key -/
def KeyAt (K : PySem.W.Frag) (H : Hp) (k : List (Option Int)) (x : List Leaf × Addr × Value) : Prop := x.1 = k.map leafOf ∧ SqT K H x.2.1 (k.map vOf) ∧ x.2.2 = .bool true
def ObAt (K : PySem.W.Frag) (H : Hp) (ρ : List Addr) (a : Addr) : Ob → Prop
  | .lst ds => ∃ vs, H a = some (.lst vs) ∧ AtL K H ρ vs ds
  | .dic ks => ∃ xs, H a = some (dicO P w a xs) ∧ Paired (KeyAt K H) ks xs
  | .wdic ks => ∃ xs o, H a = some (.frz o (dicO P w a xs)) ∧ Paired (KeyAt K H) ks xs
/-- the store stands in the heap at ρ -/
structure RS (K : PySem.W.Frag) (H : Hp) (ρ : List Addr) (S : Sto) : Prop where
  len : ρ.length = S.length
  nd : ρ.Nodup
  ob : ∀ (i : Nat) (a : Addr) (o : Ob), ρ[i]? = some a → S[i]? = some o → ObAt P w K H ρ a o
end
/-- what stood outside stays; what is new is at new places -/
structure Ext (H : Hp) (ρ : List Addr) (H' : Hp) (ρ' : List Addr) : Prop where
  more : ∃ ρ1, ρ' = ρ ++ ρ1 ∧ ∀ b ∈ ρ1, H b = none
  out : ∀ b o, H b = some o → b ∉ ρ → H' b = some o
  dom : ∀ b o, H b = some o → ∃ o', H' b = some o'
  frz : ∀ b o u, H b = some (.frz o u) → H' b = some (.frz o u)
/-- the names' values -/
structure SR (K : PySem.W.Frag) (H : Hp) (ρ : List Addr) (σ : L2.St) (τ : Sl) : Prop where
  len : σ.length = τ.length
  at_ : ∀ (i : Nat) (d : D), τ[i]? = some (some d) → ∃ v, σ[i]? = some (some v) ∧ At K H ρ v d
section
variable {P : Program} {w : World} {K : PySem.W.Frag} {H H' H1 H2 : Hp} {ρ ρ' ρ1 ρ2 : List Addr} {S S' : Sto} {σ : L2.St} {τ : Sl} {v : V} {d : D} {vs : List V} {ds : List D}
theorem Ext.refl : Ext H ρ H ρ := ⟨⟨[], by simp, fun _ h => by simp at h⟩, fun _ _ h _ => h, fun _ o h => ⟨o, h⟩, fun _ _ _ h => h⟩
theorem Ext.trans (a : Ext H ρ H1 ρ1) (b : Ext H1 ρ1 H2 ρ2) : Ext H ρ H2 ρ2 := by
  obtain ⟨⟨r1, e1, f1⟩, o1, d1, z1⟩ := a
  obtain ⟨⟨r2, e2, f2⟩, o2, d2, z2⟩ := b
  have fr : ∀ b, H1 b = none → H b = none := fun b hb => by
    cases q : H b with
    | none => rfl
    | some o =>
      obtain ⟨o', e⟩ := d1 b o q
      rw [e] at hb
      cases hb
  refine ⟨⟨r1 ++ r2, by rw [e2, e1, List.append_assoc], fun b hb => ?_⟩, fun b o h hn => ?_, fun b o h => ?_, fun b o u h => z2 b o u (z1 b o u h)⟩
  · rcases List.mem_append.mp hb with h | h
    · exact f1 b h
    · exact fr b (f2 b h)
  · refine o2 b o (o1 b o h hn) fun hm => ?_
    rw [e1] at hm
    rcases List.mem_append.mp hm with z | z
    · exact hn z
    · rw [f1 b z] at h
      cases h
  · obtain ⟨o', e⟩ := d1 b o h
    exact d2 b o' e
theorem Ext.pre (e : Ext H ρ H' ρ') {i : Nat} {a : Addr} (h : ρ[i]? = some a) : ρ'[i]? = some a := by
  obtain ⟨r, rfl, _⟩ := e.more
  obtain ⟨hi, _⟩ := List.getElem?_eq_some_iff.mp h
  rw [List.getElem?_append_left hi]
  exact h
theorem RS.kind (rs : RS P w K H ρ S) {a : Addr} (h : a ∈ ρ) : (∃ xs, H a = some (.lst xs)) ∨ (∃ xs, H a = some (dicO P w a xs)) ∨ ∃ xs o, H a = some (.frz o (dicO P w a xs)) := by
  obtain ⟨i, hi, e⟩ := List.mem_iff_getElem.mp h
  have e1 : ρ[i]? = some a := by rw [List.getElem?_eq_getElem hi, e]
  have hs : i < S.length := by rw [← rs.len]; exact hi
  have q := rs.ob i a S[i] e1 (List.getElem?_eq_getElem hs)
  cases z : S[i] with
  | lst ds =>
    rw [z] at q
    obtain ⟨vs, e, _⟩ := q
    exact .inl ⟨vs, e⟩
  | dic ks =>
    rw [z] at q
    obtain ⟨xs, e, _⟩ := q
    exact .inr (.inl ⟨xs, e⟩)
  | wdic ks =>
    rw [z] at q
    obtain ⟨xs, o, e, _⟩ := q
    exact .inr (.inr ⟨xs, o, e⟩)
theorem RS.notTup (rs : RS P w K H ρ S) {a : Addr} {xs : List V} (h : Rd H a (.tup xs)) : a ∉ ρ := fun hm => by
  rcases rs.kind hm with ⟨ys, e⟩ | ⟨ys, e⟩ | ⟨ys, o, e⟩ <;> rcases h with h | ⟨o', h⟩ <;> rw [e] at h <;> cases h
theorem RS.kp (rs : RS P w K H ρ S) (e : Ext H ρ H' ρ') : Kp H H' ρ ρ' := by
  refine ⟨fun a xs h => ?_, fun i a h => e.pre h, fun a o xs h => e.frz _ _ _ h⟩
  have hn := rs.notTup h
  rcases h with h | ⟨o, h⟩
  · exact .inl (e.out a _ h hn)
  · exact .inr ⟨o, e.out a _ h hn⟩
theorem RS.fresh (rs : RS P w K H ρ S) {p : Addr} (h : H p = none) : p ∉ ρ := fun hm => by
  rcases rs.kind hm with ⟨ys, e⟩ | ⟨ys, e⟩ | ⟨ys, o, e⟩ <;> rw [h] at e <;> cases e
theorem pimp {α β : Type} {F G : α → β → Prop} {l₁ : List α} {l₂ : List β} (h : Paired F l₁ l₂) (f : ∀ a b, F a b → G a b) : Paired G l₁ l₂ := L2.Paired.mapP h f
/-- a new object that the store doesn't hold (a tuple) -/
theorem RS.new (rs : RS P w K H ρ S) {p : Addr} {o : HO} (h : H p = none) : RS P w K (upd H p o) ρ S ∧ Ext H ρ (upd H p o) ρ := by
  have hp := rs.fresh h
  have ex : Ext H ρ (upd H p o) ρ := ⟨⟨[], by simp, fun _ h => by simp at h⟩, fun b u e _ => by rw [upd_ne (ne_of_none e h)]; exact e, fun b u e => ⟨u, by rw [upd_ne (ne_of_none e h)]; exact e⟩, fun b _ _ e => by rw [upd_ne (ne_of_none e h)]; exact e⟩
  refine ⟨⟨rs.len, rs.nd, fun i a ob h1 h2 => ?_⟩, ex⟩
  have kp := rs.kp ex
  have q := rs.ob i a ob h1 h2
  have key : ∀ {k x}, KeyAt K H k x → KeyAt K (upd H p o) k x := fun {k x} ⟨a, b, c⟩ => ⟨a, kp.sqT b, c⟩
  cases ob with
  | lst ds =>
    obtain ⟨vs, e, z⟩ := q
    exact ⟨vs, by rw [upd_ne (ne_of_none e h)]; exact e, AtL.kp kp _ _ z⟩
  | dic ks =>
    obtain ⟨xs, e, z⟩ := q
    exact ⟨xs, by rw [upd_ne (ne_of_none e h)]; exact e, pimp z fun _ _ r => key r⟩
  | wdic ks =>
    obtain ⟨xs, o', e, z⟩ := q
    exact ⟨xs, o', by rw [upd_ne (ne_of_none e h)]; exact e, pimp z fun _ _ r => key r⟩
theorem RS.push (rs : RS P w K H ρ S) {p : Addr} {o : HO} {ob : Ob} (h : H p = none) (hob : ObAt P w K (upd H p o) (ρ ++ [p]) p ob) : RS P w K (upd H p o) (ρ ++ [p]) (S ++ [ob]) ∧ Ext H ρ (upd H p o) (ρ ++ [p]) := by
  have hp := rs.fresh h
  have ex : Ext H ρ (upd H p o) (ρ ++ [p]) := ⟨⟨[p], rfl, fun b hb => by
    have e : b = p := by simpa using hb
    rw [e]
    exact h⟩, fun b u e _ => by rw [upd_ne (ne_of_none e h)]; exact e, fun b u e => ⟨u, by rw [upd_ne (ne_of_none e h)]; exact e⟩, fun b _ _ e => by rw [upd_ne (ne_of_none e h)]; exact e⟩
  have kp := rs.kp ex
  have key : ∀ {k x}, KeyAt K H k x → KeyAt K (upd H p o) k x := fun {k x} ⟨a, b, c⟩ => ⟨a, kp.sqT b, c⟩
  refine ⟨⟨by rw [List.length_append, List.length_append, rs.len]; rfl, ?_, fun i a u h1 h2 => ?_⟩, ex⟩
  · rw [List.nodup_append]
    refine ⟨rs.nd, by simp, fun a ha b hb => ?_⟩
    have e : b = p := by simpa using hb
    rw [e]
    intro z
    rw [z] at ha
    exact hp ha
  · by_cases hi : i < ρ.length
    · rw [List.getElem?_append_left hi] at h1
      rw [List.getElem?_append_left (by rw [← rs.len]; exact hi)] at h2
      have q := rs.ob i a u h1 h2
      cases u with
      | lst ds =>
        obtain ⟨vs, e, z⟩ := q
        exact ⟨vs, by rw [upd_ne (ne_of_none e h)]; exact e, AtL.kp kp _ _ z⟩
      | dic ks =>
        obtain ⟨xs, e, z⟩ := q
        exact ⟨xs, by rw [upd_ne (ne_of_none e h)]; exact e, pimp z fun _ _ r => key r⟩
      | wdic ks =>
        obtain ⟨xs, o', e, z⟩ := q
        exact ⟨xs, o', by rw [upd_ne (ne_of_none e h)]; exact e, pimp z fun _ _ r => key r⟩
    · have hl := rs.len
      have hi' : ρ.length ≤ i := Nat.le_of_not_lt hi
      rw [List.getElem?_append_right hi'] at h1
      rw [List.getElem?_append_right (by omega)] at h2
      have hz : i - ρ.length = 0 := by
        cases q : i - ρ.length with
        | zero => rfl
        | succ n =>
          rw [q] at h1
          simp at h1
      rw [hz] at h1
      rw [show i - S.length = 0 by omega] at h2
      simp at h1 h2
      rw [← h1, ← h2]
      exact hob
/-- an object of the store is written -/
theorem RS.writeKp (rs : RS P w K H ρ S) {i : Nat} {p : Addr} (o : HO) (hi : ρ[i]? = some p) : Kp H (upd H p o) ρ ρ := by
  refine ⟨fun a xs h => ?_, fun i a h => h, fun a u xs h => by rw [upd_ne (fun (e : a = p) => rs.notTup (.inr ⟨u, h⟩) (by rw [e]; exact List.mem_of_getElem? hi))]; exact h⟩
  have hn := rs.notTup h
  have ne : a ≠ p := fun e => hn (e ▸ List.mem_of_getElem? hi)
  rcases h with h | ⟨u, h⟩
  · exact .inl (by rw [upd_ne ne]; exact h)
  · exact .inr ⟨u, by rw [upd_ne ne]; exact h⟩
theorem RS.writeR (rs : RS P w K H ρ S) {i : Nat} {p : Addr} {o : HO} {ob : Ob} (hi : ρ[i]? = some p) (hob : ObAt P w K (upd H p o) ρ p ob) : RS P w K (upd H p o) ρ (S.set i ob) := by
  have kp := rs.writeKp o hi
  have key : ∀ {k x}, KeyAt K H k x → KeyAt K (upd H p o) k x := fun {k x} ⟨a, b, c⟩ => ⟨a, kp.sqT b, c⟩
  refine ⟨by rw [List.length_set]; exact rs.len, rs.nd, fun j a u h1 h2 => ?_⟩
  by_cases hj : j = i
  · subst hj
    rw [hi] at h1
    cases h1
    have hl : j < S.length := by rw [← rs.len]; exact (List.getElem?_eq_some_iff.mp hi).1
    rw [List.getElem?_set_self hl] at h2
    cases h2
    exact hob
  · rw [List.getElem?_set_ne (Ne.symm hj)] at h2
    have hap : a ≠ p := fun e => by
      rw [e] at h1
      obtain ⟨l1, e1⟩ := List.getElem?_eq_some_iff.mp h1
      obtain ⟨l2, e2⟩ := List.getElem?_eq_some_iff.mp hi
      exact hj ((List.getElem_inj rs.nd).mp (e1.trans e2.symm))
    have q := rs.ob j a u h1 h2
    cases u with
    | lst ds =>
      obtain ⟨vs, e, z⟩ := q
      exact ⟨vs, by rw [upd_ne hap]; exact e, AtL.kp kp _ _ z⟩
    | dic ks =>
      obtain ⟨xs, e, z⟩ := q
      exact ⟨xs, by rw [upd_ne hap]; exact e, pimp z fun _ _ r => key r⟩
    | wdic ks =>
      obtain ⟨xs, o', e, z⟩ := q
      exact ⟨xs, o', by rw [upd_ne hap]; exact e, pimp z fun _ _ r => key r⟩
theorem RS.write (rs : RS P w K H ρ S) {i : Nat} {p : Addr} {o u0 : HO} {ob : Ob} (hi : ρ[i]? = some p) (h0 : H p = some u0) (hf : ∀ o' u', u0 ≠ .frz o' u') (hob : ObAt P w K (upd H p o) ρ p ob) : RS P w K (upd H p o) ρ (S.set i ob) ∧ Ext H ρ (upd H p o) ρ := by
  have pm : p ∈ ρ := List.mem_of_getElem? hi
  refine ⟨rs.writeR hi hob, ⟨[], by simp, fun _ h => by simp at h⟩, fun b u e hb => by rw [upd_ne (fun (z : b = p) => hb (by rw [z]; exact pm))]; exact e, fun b u e => ?_, fun b o' u' e => ?_⟩
  · by_cases q : b = p
    · rw [q]; exact ⟨o, upd_same⟩
    · exact ⟨u, by rw [upd_ne q]; exact e⟩
  · have q : b ≠ p := fun q => by
      rw [q, h0] at e
      cases e
      exact hf _ _ rfl
    rw [upd_ne q]
    exact e
theorem SR.ext (rs : RS P w K H ρ S) (sr : SR K H ρ σ τ) (e : Ext H ρ H' ρ') : SR K H' ρ' σ τ := ⟨sr.len, fun i d h => by
  obtain ⟨v, h1, h2⟩ := sr.at_ i d h
  exact ⟨v, h1, At.kp (rs.kp e) _ _ h2⟩⟩
theorem SR.set (sr : SR K H ρ σ τ) (h : At K H ρ v d) (i : Nat) : SR K H ρ (σ.set i (some v)) (τ.set i (some d)) := by
  refine ⟨by rw [List.length_set, List.length_set]; exact sr.len, fun j e hj => ?_⟩
  by_cases hji : j = i
  · subst hji
    by_cases hl : j < τ.length
    · rw [List.getElem?_set_self hl] at hj
      cases hj
      exact ⟨v, List.getElem?_set_self (by rw [sr.len]; exact hl), h⟩
    · rw [List.getElem?_eq_none (by rw [List.length_set]; omega)] at hj
      cases hj
  · rw [List.getElem?_set_ne (Ne.symm hji)] at hj
    obtain ⟨u, h1, h2⟩ := sr.at_ j e hj
    exact ⟨u, by rw [List.getElem?_set_ne (Ne.symm hji)]; exact h1, h2⟩
/-- a list of the store -/
theorem RS.lst (rs : RS P w K H ρ S) {i : Nat} {a : Addr} (hi : ρ[i]? = some a) (hs : S[i]? = some (.lst ds)) : ∃ vs, H a = some (.lst vs) ∧ AtL K H ρ vs ds := rs.ob i a _ hi hs
end
end K50
set_option Elab.async false
set_option linter.all false
set_option maxRecDepth 100000
set_option maxHeartbeats 1000000
namespace K50
open PySem PySem.Spec PyProof.Rows L2

/-! ### the readings by a function -/
section
variable (P : Program) (w : World) (K : PySem.W.Frag)
/-- what is wanted behind a value -/
def WE (H : Hp) (ρ : List Addr) (S' : Sto) (d : D) (Q : VK) : Prop := ∀ v H' ρ', Ext H ρ H' ρ' → RS P w K H' ρ' S' → At K H' ρ' v d → Q v H'
def tE (f : FE) : TE := fun σ H Q => ∃ τ ρ S d S', RS P w K H ρ S ∧ SR K H ρ σ τ ∧ f τ S = some (d, S') ∧ WE P w K H ρ S' d Q
def tBb (f : FB) : TT := fun σ H Q => ∃ τ ρ S b S', RS P w K H ρ S ∧ SR K H ρ σ τ ∧ f τ S = some (b, S') ∧ ∀ H' ρ', Ext H ρ H' ρ' → RS P w K H' ρ' S' → Q b H'
def tAa (f : FA) : TA := fun σ H Q => ∃ τ ρ S ds S', RS P w K H ρ S ∧ SR K H ρ σ τ ∧ f τ S = some (ds, S') ∧ ∀ vs H' ρ', Ext H ρ H' ρ' → RS P w K H' ρ' S' → AtL K H' ρ' vs ds → Q vs H'
/-- what is wanted behind a statement -/
def WS (H : Hp) (ρ : List Addr) (S' : Sto) (D : Ends) : Fl → Prop
  | .nx τ' => ∀ σ' H' ρ', Ext H ρ H' ρ' → RS P w K H' ρ' S' → SR K H' ρ' σ' τ' → D.nx σ' H'
  | .bk τ' => ∀ σ' H' ρ', Ext H ρ H' ρ' → RS P w K H' ρ' S' → SR K H' ρ' σ' τ' → D.bk σ' H'
  | .rt d => WE P w K H ρ S' d D.rt
def tSt (f : FS) : TS := fun D σ H => ∃ τ ρ S fl S', RS P w K H ρ S ∧ SR K H ρ σ τ ∧ f τ S = some (fl, S') ∧ WS P w K H ρ S' D fl
/-- two values' operator -/
def rD (g : D → D → Sto → Option (D × Sto)) : R2 := fun x y H Q => ∃ dx dy ρ S d S', RS P w K H ρ S ∧ At K H ρ x dx ∧ At K H ρ y dy ∧ g dx dy S = some (d, S') ∧ WE P w K H ρ S' d Q
/-- a call's by values -/
def rC (g : List D → Sto → Option (D × Sto)) : List V → Hp → VK → Prop := fun xs H Q => ∃ ds ρ S d S', RS P w K H ρ S ∧ AtL K H ρ xs ds ∧ g ds S = some (d, S') ∧ WE P w K H ρ S' d Q
end
abbrev CE (X : Cx) (e : Expr) (f : FE) : Prop := PE X e (tE X.prog X.w X.K f)
abbrev CT (X : Cx) (e : Expr) (f : FB) : Prop := PT X e (tBb X.prog X.w X.K f)
abbrev CW (X : Cx) (e : Expr) (f : FB) : Prop := PW X e (tBb X.prog X.w X.K f)
abbrev CA (X : Cx) (es : List Expr) (f : FA) : Prop := PA X es (tAa X.prog X.w X.K f)
abbrev CS (X : Cx) (st : Stmt) (f : FS) : Prop := PS X st (tSt X.prog X.w X.K f)
abbrev CSs (X : Cx) (st : List Stmt) (f : FS) : Prop := PSs X st (tSt X.prog X.w X.K f)
theorem PE.le {X : Cx} {e : Expr} {t t' : TE} (h : PE X e t) (s : ∀ σ H Q, t' σ H Q → t σ H Q) : PE X e t' := ⟨fun pins sh σ H Q I q => h.run pins sh σ H Q I (s σ H Q q)⟩
theorem PT.le {X : Cx} {e : Expr} {t t' : TT} (h : PT X e t) (s : ∀ σ H Q, t' σ H Q → t σ H Q) : PT X e t' := ⟨fun pins sh σ H Q I q => h.run pins sh σ H Q I (s σ H Q q)⟩
theorem PW.le {X : Cx} {e : Expr} {t t' : TT} (h : PW X e t) (s : ∀ σ H Q, t' σ H Q → t σ H Q) : PW X e t' := ⟨fun wh pins sh σ H Q I q => h.run wh pins sh σ H Q I (s σ H Q q)⟩
theorem PA.le {X : Cx} {e : List Expr} {t t' : TA} (h : PA X e t) (s : ∀ σ H Q, t' σ H Q → t σ H Q) : PA X e t' := ⟨fun pos pins sh σ H Q I q => h.run pos pins sh σ H Q I (s σ H Q q)⟩
theorem PS.le {X : Cx} {e : Stmt} {t t' : TS} (h : PS X e t) (s : ∀ D σ H, t' D σ H → t D σ H) : PS X e t' := ⟨fun pins sh σ H D I q => h.run pins sh σ H D I (s D σ H q)⟩
theorem PSs.le {X : Cx} {e : List Stmt} {t t' : TS} (h : PSs X e t) (s : ∀ D σ H, t' D σ H → t D σ H) : PSs X e t' := ⟨fun pins sh σ H D I q => h.run pins sh σ H D I (s D σ H q)⟩

/-! ### the functions -/
def eVar (i : Nat) : FE := fun τ S => match τ[i]? with
  | some (some d) => some (d, S)
  | _ => none
def eC (d : D) : FE := fun _ S => some (d, S)
def e1 (g : D → Sto → Option (D × Sto)) (fa : FE) : FE := fun τ S => match fa τ S with
  | some (x, S1) => g x S1
  | none => none
def e2 (g : D → D → Sto → Option (D × Sto)) (fa fb : FE) : FE := fun τ S => match fa τ S with
  | some (x, S1) => match fb τ S1 with
    | some (y, S2) => g x y S2
    | none => none
  | none => none
def aNil : FA := fun _ S => some ([], S)
def aCons (fa : FE) (fr : FA) : FA := fun τ S => match fa τ S with
  | some (x, S1) => match fr τ S1 with
    | some (xs, S2) => some (x :: xs, S2)
    | none => none
  | none => none
def eN (g : List D → Sto → Option (D × Sto)) (fa : FA) : FE := fun τ S => match fa τ S with
  | some (xs, S1) => g xs S1
  | none => none
/-- how long things may get -/
def short {α : Type} (l : List α) : Bool := Nat.ble l.length 4000
def dTup (ds : List D) (S : Sto) : Option (D × Sto) := if short ds then some (.tup ds, S) else none
def dLst (ds : List D) (S : Sto) : Option (D × Sto) := if short ds then some (.ref S.length, S ++ [.lst ds]) else none
/-- tests -/
def bV (fa : FE) : FB := fun τ S => match fa τ S with
  | some (.bl b, S1) => some (b, S1)
  | _ => none
def bNot (f : FB) : FB := fun τ S => match f τ S with
  | some (b, S1) => some (!b, S1)
  | none => none
def bAnd (f g : FB) : FB := fun τ S => match f τ S with
  | some (true, S1) => g τ S1
  | some (false, S1) => some (false, S1)
  | none => none
def bOr (f g : FB) : FB := fun τ S => match f τ S with
  | some (false, S1) => g τ S1
  | some (true, S1) => some (true, S1)
  | none => none
def eAnd (f g : FE) : FE := fun τ S => match f τ S with
  | some (.bl true, S1) => g τ S1
  | some (.bl false, S1) => some (.bl false, S1)
  | _ => none
def eOr (f g : FE) : FE := fun τ S => match f τ S with
  | some (.bl false, S1) => g τ S1
  | some (.bl true, S1) => some (.bl true, S1)
  | _ => none
def eNot (f : FE) : FE := fun τ S => match f τ S with
  | some (.bl b, S1) => some (.bl (!b), S1)
  | _ => none
def eIf (c : FB) (f g : FE) : FE := fun τ S => match c τ S with
  | some (true, S1) => f τ S1
  | some (false, S1) => g τ S1
  | none => none
/-- a chain of two comparisons -/
def eCh (g g' : D → D → Sto → Option (D × Sto)) (fa fb fc : FE) : FE := fun τ S => match fa τ S with
  | some (x, S1) => match fb τ S1 with
    | some (y, S2) => match g x y S2 with
      | some (.bl true, S3) => match fc τ S3 with
        | some (z, S4) => g' y z S4
        | none => none
      | some (.bl false, S3) => some (.bl false, S3)
      | _ => none
    | none => none
  | none => none

section
variable {X : Cx} {a b c : Expr} {fa fb fc : FE} {ga gb : FB} {pos : Pos} {es rest : List Expr} {fr : FA}
theorem WE.to {P : Program} {w : World} {K : PySem.W.Frag} {H H1 : Hp} {ρ ρ1 : List Addr} {S' : Sto} {d : D} {Q : VK} (h : WE P w K H ρ S' d Q) (e : Ext H ρ H1 ρ1) : WE P w K H1 ρ1 S' d Q := fun v H' ρ' e' r a => h v H' ρ' (e.trans e') r a
theorem ce_var (i : Nat) {x : Str} (hN : X.N[i]? = some x := by rfl) (hv : Vis X.env.scope x := by first | exact Or.inl rfl | exact Or.inr (Or.inl rfl) | exact Or.inr (Or.inr rfl)) (hd : (x == ("__debug__" : Str)) = false := by decide)
    (hcd : (x == ("__classdict__" : Str)) = false := by decide) : CE X (.Name x pos) (eVar i) := by
  refine PE.le (pe_var hN hv hd hcd) fun σ H Q h => ?_
  obtain ⟨τ, ρ, S, d, S', rs, sr, e, q⟩ := h
  unfold eVar at e
  split at e
  · rename_i d' h1
    cases e
    obtain ⟨v, h2, h3⟩ := sr.at_ i _ h1
    exact ⟨v, h2, q v H ρ Ext.refl rs h3⟩
  · cases e
theorem ce_of {v : V} {d : D} (h : PE X a (tC v)) (hv : ∀ H ρ, At X.K H ρ v d) : CE X a (eC d) := by
  refine PE.le h fun σ H Q h => ?_
  obtain ⟨τ, ρ, S, d', S', rs, sr, e, q⟩ := h
  cases e
  exact q v H ρ Ext.refl rs (hv H ρ)
theorem ce_int {i : Int} {j : Nat} : CE X (.Constant (.int i) j pos) (eC (.int i)) := ce_of pe_int fun _ _ => .int i
theorem ce_bl {i : Bool} {j : Nat} : CE X (.Constant (.bool i) j pos) (eC (.bl i)) := ce_of pe_bl fun _ _ => .bl i
theorem ce_non {j : Nat} : CE X (.Constant .none j pos) (eC .non) := ce_of pe_non fun _ _ => .non
theorem ce_str {x : Str} {j : Nat} (y : Str) (h : x = y) : CE X (.Constant (.str x) j pos) (eC (.str y)) := by
  subst h
  exact ce_of pe_str fun _ _ => .str x
theorem ce_gint {x : Str} {i : Int} {t : Tok} (hg : Gl X x) (hm : X.mg x = some (.int i t)) (hd : (x == ("__debug__" : Str)) = false := by decide) : CE X (.Name x pos) (eC (.int i)) :=
  ce_of (v := V.int i) (pe_glob hg hm (show RelV (V.int i) (Value.int i t) from ⟨t, rfl⟩) hd) fun _ _ => .int i
/-- two values in a row -/
theorem t2 {P : Program} {w : World} {K : PySem.W.Frag} {g : D → D → Sto → Option (D × Sto)} {σ : L2.St} {H : Hp} {Q : VK} (h : tE P w K (e2 g fa fb) σ H Q) {R : V → V → Hp → Prop} (r : ∀ x y H2, rD P w K g x y H2 Q → R x y H2) :
    tE P w K fa σ H fun x H1 => tE P w K fb σ H1 fun y H2 => R x y H2 := by
  obtain ⟨τ, ρ, S, d, S', rs, sr, e, q⟩ := h
  unfold e2 at e
  split at e
  · rename_i x S1 ea
    split at e
    · rename_i y S2 eb
      refine ⟨τ, ρ, S, x, S1, rs, sr, ea, fun v H1 ρ1 x1 rs1 a1 => ⟨τ, ρ1, S1, y, S2, rs1, sr.ext rs x1, eb, fun u H2 ρ2 x2 rs2 a2 => ?_⟩⟩
      exact r v u H2 ⟨x, y, ρ2, S2, d, S', rs2, At.kp (rs1.kp x2) _ _ a1, a2, e, q.to (x1.trans x2)⟩
    · cases e
  · cases e
theorem ce_op {op : Operator} {g : D → D → Sto → Option (D × Sto)} (ho : OpR X (binaryOp op) (rD X.prog X.w X.K g)) (ha : CE X a fa) (hb : CE X b fb) : CE X (.BinOp a op b pos) (e2 g fa fb) :=
  PE.le (pe_op ho ha hb) fun σ H Q h => t2 h fun _ _ _ q => q
theorem ce_cmp {op : CmpOp} {g : D → D → Sto → Option (D × Sto)} (ho : OpR X (compareOp op) (rD X.prog X.w X.K g)) (ha : CE X a fa) (hb : CE X b fb) (hm : behindInMarks op b = false := by first | exact nomark _ | rfl) : CE X (.Compare a [op] [b] pos) (e2 g fa fb) :=
  PE.le (pe_cmpR ho ha hb hm) fun σ H Q h => t2 h fun _ _ _ q => q
theorem ct_cmp {op : CmpOp} {g : D → D → Sto → Option (D × Sto)} (ho : OpR X (compareOp op) (rD X.prog X.w X.K g)) (ha : CE X a fa) (hb : CE X b fb) (hm : behindInMarks op b = false := by first | exact nomark _ | rfl) : CT X (.Compare a [op] [b] pos) (bV (e2 g fa fb)) := by
  refine PT.le (pt_cmpR ho ha hb hm) fun σ H Q h => ?_
  obtain ⟨τ, ρ, S, k, S', rs, sr, e, q⟩ := h
  refine t2 (g := g) (Q := fun x H' => ∃ k, x = .bl k ∧ Q k H') ⟨τ, ρ, S, .bl k, S', rs, sr, ?_, fun v H' ρ' x r at_ => ?_⟩ fun _ _ _ q => q
  · unfold bV at e
    split at e
    · rename_i b1 S1 h1
      cases e
      exact h1
    · cases e
  · cases at_
    exact ⟨k, rfl, q H' ρ' x r⟩
/-- a value that is a bool, as a test -/
theorem ct_val (h : CE X a fa) (he : ∀ whole, isTrue a X.env whole = (do let v ← whole; standAt a.pos; holding [v] (truthy v)) := by intro _; rfl) : CT X a (bV fa) := by
  refine PT.le (pt_val h he) fun σ H Q h => ?_
  obtain ⟨τ, ρ, S, k, S', rs, sr, e, q⟩ := h
  refine ⟨τ, ρ, S, .bl k, S', rs, sr, ?_, fun v H' ρ' x r at_ => ?_⟩
  · unfold bV at e
    split at e
    · rename_i b1 S1 h1
      cases e
      exact h1
    · cases e
  · cases at_
    exact ⟨k, rfl, q H' ρ' x r⟩
theorem ct_not (h : CT X a ga) : CT X (.UnaryOp .Not a pos) (bNot ga) := by
  refine PT.le (pt_not h) fun σ H Q h => ?_
  obtain ⟨τ, ρ, S, k, S', rs, sr, e, q⟩ := h
  unfold bNot at e
  split at e
  · rename_i b1 S1 h1
    cases e
    exact ⟨τ, ρ, S, b1, _, rs, sr, h1, fun H' ρ' x r => q H' ρ' x r⟩
  · cases e
theorem cw_and1 (h : CT X a ga) : CW X (.BoolOp .And [a] pos) ga := pw_and1 h
theorem cw_or1 (h : CT X a ga) : CW X (.BoolOp .Or [a] pos) ga := pw_or1 h
theorem cw_and (h : CT X a ga) (h2 : CW X (.BoolOp .And (b :: rest) pos) gb) : CW X (.BoolOp .And (a :: b :: rest) pos) (bAnd ga gb) := by
  refine PW.le (pw_and h h2) fun σ H Q h => ?_
  obtain ⟨τ, ρ, S, k, S', rs, sr, e, q⟩ := h
  unfold bAnd at e
  split at e
  · rename_i S1 h1
    refine ⟨τ, ρ, S, true, S1, rs, sr, h1, fun H1 ρ1 x1 r1 => iteT ?_⟩
    exact ⟨τ, ρ1, S1, k, S', r1, sr.ext rs x1, e, fun H' ρ' x r => q H' ρ' (x1.trans x) r⟩
  · rename_i S1 h1
    cases e
    exact ⟨τ, ρ, S, false, _, rs, sr, h1, fun H1 ρ1 x1 r1 => iteF (q H1 ρ1 x1 r1)⟩
  · cases e
theorem cw_or (h : CT X a ga) (h2 : CW X (.BoolOp .Or (b :: rest) pos) gb) : CW X (.BoolOp .Or (a :: b :: rest) pos) (bOr ga gb) := by
  refine PW.le (pw_or h h2) fun σ H Q h => ?_
  obtain ⟨τ, ρ, S, k, S', rs, sr, e, q⟩ := h
  unfold bOr at e
  split at e
  · rename_i S1 h1
    refine ⟨τ, ρ, S, false, S1, rs, sr, h1, fun H1 ρ1 x1 r1 => iteF ?_⟩
    exact ⟨τ, ρ1, S1, k, S', r1, sr.ext rs x1, e, fun H' ρ' x r => q H' ρ' (x1.trans x) r⟩
  · rename_i S1 h1
    cases e
    exact ⟨τ, ρ, S, true, _, rs, sr, h1, fun H1 ρ1 x1 r1 => iteT (q H1 ρ1 x1 r1)⟩
  · cases e
theorem ct_w (h : CW X a ga) : CT X a ga := h.pt
theorem ce_one {op : BoolOp} (h : CE X a fa) : CE X (.BoolOp op [a] pos) fa := pe_one h
theorem ce_and (h : CE X a fa) (h2 : CE X (.BoolOp .And (b :: rest) pos) fb) : CE X (.BoolOp .And (a :: b :: rest) pos) (eAnd fa fb) := by
  refine PE.le (pe_and h h2) fun σ H Q h => ?_
  obtain ⟨τ, ρ, S, d, S', rs, sr, e, q⟩ := h
  unfold eAnd at e
  split at e
  · rename_i S1 h1
    refine ⟨τ, ρ, S, .bl true, S1, rs, sr, h1, fun v H1 ρ1 x1 r1 a1 => ?_⟩
    cases a1
    exact ⟨true, rfl, iteT ⟨τ, ρ1, S1, d, S', r1, sr.ext rs x1, e, q.to x1⟩⟩
  · rename_i S1 h1
    cases e
    refine ⟨τ, ρ, S, .bl false, _, rs, sr, h1, fun v H1 ρ1 x1 r1 a1 => ?_⟩
    cases a1
    exact ⟨false, rfl, iteF (q _ H1 ρ1 x1 r1 (.bl false))⟩
  · cases e
theorem ce_or (h : CE X a fa) (h2 : CE X (.BoolOp .Or (b :: rest) pos) fb) : CE X (.BoolOp .Or (a :: b :: rest) pos) (eOr fa fb) := by
  refine PE.le (pe_or h h2) fun σ H Q h => ?_
  obtain ⟨τ, ρ, S, d, S', rs, sr, e, q⟩ := h
  unfold eOr at e
  split at e
  · rename_i S1 h1
    refine ⟨τ, ρ, S, .bl false, S1, rs, sr, h1, fun v H1 ρ1 x1 r1 a1 => ?_⟩
    cases a1
    exact ⟨false, rfl, iteF ⟨τ, ρ1, S1, d, S', r1, sr.ext rs x1, e, q.to x1⟩⟩
  · rename_i S1 h1
    cases e
    refine ⟨τ, ρ, S, .bl true, _, rs, sr, h1, fun v H1 ρ1 x1 r1 a1 => ?_⟩
    cases a1
    exact ⟨true, rfl, iteT (q _ H1 ρ1 x1 r1 (.bl true))⟩
  · cases e
theorem ce_not (h : CE X a fa) : CE X (.UnaryOp .Not a pos) (eNot fa) := by
  refine PE.le (pe_not h) fun σ H Q h => ?_
  obtain ⟨τ, ρ, S, d, S', rs, sr, e, q⟩ := h
  unfold eNot at e
  split at e
  · rename_i k S1 h1
    cases e
    refine ⟨τ, ρ, S, .bl k, _, rs, sr, h1, fun v H1 ρ1 x1 r1 a1 => ?_⟩
    cases a1
    exact ⟨k, rfl, q _ H1 ρ1 x1 r1 (.bl _)⟩
  · cases e
theorem ce_if (h : CT X c ga) (h1 : CE X a fa) (h2 : CE X b fb) : CE X (.IfExp c a b pos) (eIf ga fa fb) := by
  refine PE.le (pe_ifExp h h1 h2) fun σ H Q h => ?_
  obtain ⟨τ, ρ, S, d, S', rs, sr, e, q⟩ := h
  unfold eIf at e
  split at e
  · rename_i S1 h1
    exact ⟨τ, ρ, S, true, S1, rs, sr, h1, fun H1 ρ1 x1 r1 => iteT ⟨τ, ρ1, S1, d, S', r1, sr.ext rs x1, e, q.to x1⟩⟩
  · rename_i S1 h1
    exact ⟨τ, ρ, S, false, S1, rs, sr, h1, fun H1 ρ1 x1 r1 => iteF ⟨τ, ρ1, S1, d, S', r1, sr.ext rs x1, e, q.to x1⟩⟩
  · cases e
theorem ca_nil : CA X [] aNil := by
  refine PA.le pa_nil fun σ H Q h => ?_
  obtain ⟨τ, ρ, S, d, S', rs, sr, e, q⟩ := h
  cases e
  exact q [] H ρ Ext.refl rs .nil
theorem ca_cons (h : CE X a fa) (hr : CA X es fr) (hs : starEach (a :: es) X.env = (false, eval a X.env) :: starEach es X.env := by rfl) : CA X (a :: es) (aCons fa fr) := by
  refine PA.le (pa_cons h hr hs) fun σ H Q h => ?_
  obtain ⟨τ, ρ, S, d, S', rs, sr, e, q⟩ := h
  unfold aCons at e
  split at e
  · rename_i x S1 ea
    split at e
    · rename_i y S2 eb
      cases e
      refine ⟨τ, ρ, S, x, S1, rs, sr, ea, fun v H1 ρ1 x1 rs1 a1 => ⟨τ, ρ1, S1, y, _, rs1, sr.ext rs x1, eb, fun u H2 ρ2 x2 rs2 a2 => ?_⟩⟩
      exact q (v :: u) H2 ρ2 (x1.trans x2) rs2 (.cons (At.kp (rs1.kp x2) _ _ a1) a2)
    · cases e
  · cases e
/-- arguments, then what is done with them -/
theorem tN {P : Program} {w : World} {K : PySem.W.Frag} {g : List D → Sto → Option (D × Sto)} {σ : L2.St} {H : Hp} {Q : VK} (h : tE P w K (eN g fr) σ H Q) {R : List V → Hp → Prop} (r : ∀ xs H2, rC P w K g xs H2 Q → R xs H2) :
    tAa P w K fr σ H R := by
  obtain ⟨τ, ρ, S, d, S', rs, sr, e, q⟩ := h
  unfold eN at e
  split at e
  · rename_i x S1 ea
    exact ⟨τ, ρ, S, x, S1, rs, sr, ea, fun v H1 ρ1 x1 rs1 a1 => r v H1 ⟨x, ρ1, S1, d, S', rs1, a1, e, q.to x1⟩⟩
  · cases e
theorem short_le {α : Type} {l : List α} (h : short l = true) : l.length ≤ 4000 := Nat.le_of_ble_eq_true h
theorem line4000 {n : Nat} (h : n ≤ 4000) : n ≤ sizeLine := by rw [sizeLine_eq]; omega
theorem ce_tup {k : Nat} (h : CA X es fr) : CE X (.Tuple es k pos) (eN dTup fr) := by
  refine PE.le (pe_tup h) fun σ H Q h => tN h fun xs H2 q => ?_
  obtain ⟨ds, ρ, S, d, S', rs, al, e, q⟩ := q
  unfold dTup at e
  split at e
  · rename_i hs
    cases e
    refine ⟨by rw [al.length]; exact line4000 (short_le hs), fun p hp => ?_⟩
    obtain ⟨rs', x⟩ := rs.new (o := .tup xs) hp
    exact q _ _ ρ x rs' (.tup (.of upd_same) (AtL.kp (rs.kp x) _ _ al))
  · cases e
theorem dLst_ok {P : Program} {w : World} {K : PySem.W.Frag} {H : Hp} {ρ : List Addr} {S S' : Sto} {ds : List D} {d : D} {Q : VK} {vs : List V} {p : Addr} (rs : RS P w K H ρ S) (al : AtL K H ρ vs ds) (e : dLst ds S = some (d, S')) (hp : H p = none) (q : WE P w K H ρ S' d Q) : Q (.ref p) (upd H p (.lst vs)) := by
  unfold dLst at e
  split at e
  · cases e
    have kp : Kp H (upd H p (.lst vs)) ρ (ρ ++ [p]) := ⟨fun a xs h => by
      rcases h with h | ⟨o, h⟩
      · exact .inl (by rw [upd_ne (ne_of_none h hp)]; exact h)
      · exact .inr ⟨o, by rw [upd_ne (ne_of_none h hp)]; exact h⟩, fun i a h => by
      obtain ⟨hi, _⟩ := List.getElem?_eq_some_iff.mp h
      rw [List.getElem?_append_left hi]
      exact h, fun a o xs h => by rw [upd_ne (ne_of_none h hp)]; exact h⟩
    obtain ⟨rs', x⟩ := rs.push (o := .lst vs) (ob := .lst ds) hp ⟨vs, upd_same, AtL.kp kp _ _ al⟩
    refine q _ _ _ x rs' (.ref ?_)
    rw [← rs.len, List.getElem?_append_right (Nat.le_refl _), Nat.sub_self]
    rfl
  · cases e
theorem dLst_short {S S' : Sto} {ds : List D} {d : D} (e : dLst ds S = some (d, S')) : ds.length ≤ 4000 := by
  unfold dLst at e
  split at e
  · rename_i h
    exact short_le h
  · cases e
theorem ce_lst (h : CA X es fr) : CE X (.List es pos) (eN dLst fr) := by
  refine PE.le (pe_lst h) fun σ H Q h => tN h fun xs H2 q => ?_
  obtain ⟨ds, ρ, S, d, S', rs, al, e, q⟩ := q
  refine ⟨by rw [al.length]; exact line4000 (dLst_short e), fun p hp => dLst_ok rs al e hp q⟩
theorem chain_to {P : Program} {w : World} {K : PySem.W.Frag} {g g' : D → D → Sto → Option (D × Sto)} {σ : L2.St} {H : Hp} {Q : VK} (h : tE P w K (eCh g g' fa fb fc) σ H Q) :
    tChain (rD P w K g) (rD P w K g') (tE P w K fa) (tE P w K fb) (tE P w K fc) σ H Q := by
  obtain ⟨τ, ρ, S, d, S', rs, sr, e, q⟩ := h
  unfold eCh at e
  split at e
  · rename_i x S1 ea
    split at e
    · rename_i y S2 eb
      refine ⟨τ, ρ, S, x, S1, rs, sr, ea, fun v H1 ρ1 x1 rs1 a1 => ⟨τ, ρ1, S1, y, S2, rs1, sr.ext rs x1, eb, fun u H2 ρ2 x2 rs2 a2 => ?_⟩⟩
      split at e
      · rename_i S3 eg
        refine ⟨x, y, ρ2, S2, .bl true, S3, rs2, At.kp (rs1.kp x2) _ _ a1, a2, eg, fun k H3 ρ3 x3 rs3 a3 => ?_⟩
        cases a3
        refine ⟨true, rfl, iteT ?_⟩
        split at e
        · rename_i z S4 ec
          refine ⟨τ, ρ3, S3, z, S4, rs3, ((sr.ext rs x1).ext rs1 x2).ext rs2 x3, ec, fun t H4 ρ4 x4 rs4 a4 => ?_⟩
          exact ⟨y, z, ρ4, S4, d, S', rs4, At.kp (rs3.kp x4) _ _ (At.kp (rs2.kp x3) _ _ a2), a4, e, q.to (((x1.trans x2).trans x3).trans x4)⟩
        · cases e
      · rename_i S3 eg
        cases e
        refine ⟨x, y, ρ2, S2, .bl false, _, rs2, At.kp (rs1.kp x2) _ _ a1, a2, eg, fun k H3 ρ3 x3 rs3 a3 => ?_⟩
        cases a3
        exact ⟨false, rfl, iteF (q _ _ _ ((x1.trans x2).trans x3) rs3 (.bl false))⟩
      · cases e
    · cases e
  · cases e
theorem ce_chain {op op' : CmpOp} {g g' : D → D → Sto → Option (D × Sto)} (ho : OpR X (compareOp op) (rD X.prog X.w X.K g)) (ho' : OpR X (compareOp op') (rD X.prog X.w X.K g')) (ha : CE X a fa) (hb : CE X b fb) (hc : CE X c fc)
    (hm : lastMarks [op, op'] [b, c] = false := by with_unfolding_all rfl) : CE X (.Compare a [op, op'] [b, c] pos) (eCh g g' fa fb fc) :=
  PE.le (pe_chain ho ho' ha hb hc hm) fun σ H Q h => chain_to h
theorem ct_chain {op op' : CmpOp} {g g' : D → D → Sto → Option (D × Sto)} (ho : OpR X (compareOp op) (rD X.prog X.w X.K g)) (ho' : OpR X (compareOp op') (rD X.prog X.w X.K g')) (ha : CE X a fa) (hb : CE X b fb) (hc : CE X c fc)
    (hm : lastMarks [op, op'] [b, c] = false := by with_unfolding_all rfl) : CT X (.Compare a [op, op'] [b, c] pos) (bV (eCh g g' fa fb fc)) := by
  refine PT.le (pt_chain ho ho' ha hb hc hm) fun σ H Q h => ?_
  obtain ⟨τ, ρ, S, k, S', rs, sr, e, q⟩ := h
  refine chain_to (Q := fun x H' => ∃ k, x = .bl k ∧ Q k H') ⟨τ, ρ, S, .bl k, S', rs, sr, ?_, fun v H' ρ' x r at_ => ?_⟩
  · unfold bV at e
    split at e
    · rename_i b1 S1 h1
      cases e
      exact h1
    · cases e
  · cases at_
    exact ⟨k, rfl, q H' ρ' x r⟩
end
end K50
set_option Elab.async false
set_option linter.all false
set_option maxRecDepth 100000
set_option maxHeartbeats 4000000
namespace K50
open PySem PySem.Spec PyProof.Rows L2

/-! ### operators of data -/
def strEq (a b : Str) : Bool := a.cps.toList == b.cps.toList
theorem strEq_iff (a b : Str) : strEq a b = decide (a = b) := by
  obtain ⟨⟨a⟩⟩ := a
  obtain ⟨⟨b⟩⟩ := b
  unfold strEq
  rw [Bool.eq_iff_iff]
  simp
def gAdd : D → D → Sto → Option (D × Sto)
  | .int i, .int j, S => some (.int (i + j), S)
  | .tup a, .tup b, S => dTup (a ++ b) S
  | .ref i, .ref j, S => match S[i]?, S[j]? with
    | some (.lst a), some (.lst b) => dLst (a ++ b) S
    | _, _ => none
  | _, _, _ => none
def gSub : D → D → Sto → Option (D × Sto)
  | .int i, .int j, S => some (.int (i - j), S)
  | _, _, _ => none
def gMul : D → D → Sto → Option (D × Sto)
  | .int i, .int j, S => if (decide (-(2 ^ 64) < i) && decide (i < 2 ^ 64)) || (decide (-(2 ^ 64) < j) && decide (j < 2 ^ 64)) then some (.int (i * j), S) else none
  | .tup a, .int k, S => if decide (0 ≤ k) && decide (k ≤ 1000) && !a.isEmpty && Nat.ble a.length 4 then some (.tup (List.replicate k.toNat a).flatten, S) else none
  | _, _, _ => none
def gLt : D → D → Sto → Option (D × Sto)
  | .int i, .int j, S => some (.bl (decide (i < j)), S)
  | _, _, _ => none
def gLe : D → D → Sto → Option (D × Sto)
  | .int i, .int j, S => some (.bl (decide (i ≤ j)), S)
  | _, _, _ => none
def gGt : D → D → Sto → Option (D × Sto)
  | .int i, .int j, S => some (.bl (decide (j < i)), S)
  | _, _, _ => none
def gGe : D → D → Sto → Option (D × Sto)
  | .int i, .int j, S => some (.bl (decide (j ≤ i)), S)
  | _, _, _ => none
/-- data without identity -/
def mapO {α β : Type} (f : α → Option β) : List α → Option (List β)
  | [] => some []
  | x :: xs => match f x with
    | some y => match mapO f xs with
      | some ys => some (y :: ys)
      | none => none
    | none => none
def toP : Nat → Sto → D → Option PyData
  | 0, _, _ => none
  | n + 1, S, d => match d with
    | .non => some .none
    | .bl b => some (.bool b)
    | .int i => some (.int i)
    | .str x => some (.str x)
    | .tup ds => match mapO (toP n S) ds with
      | some ps => some (.tuple ps)
      | none => none
    | .tpl ds => none
    | .obj _ => none
    | .ref i => match S[i]? with
      | some (.lst ds) => match mapO (toP n S) ds with
        | some ps => some (.list ps)
        | none => none
      | _ => none
/-- a text, data: small enough, told in a form that the kernel runs -/
def shS (x : Str) : Bool := x.cps.toList.all fun c => Nat.blt c 1114112
def shP : Nat → PyData → Bool
  | 0, _ => false
  | n + 1, d => match d with
    | .str x => shS x
    | .list xs => xs.all (shP n)
    | .tuple xs => xs.all (shP n)
    | .dict _ => false
    | _ => true
def eqvL (f : PyData → PyData → Bool) : List PyData → List PyData → Bool
  | [], [] => true
  | x :: xs, y :: ys => f x y && eqvL f xs ys
  | _, _ => false
def eqvF : Nat → PyData → PyData → Bool
  | 0, _, _ => false
  | n + 1, a, b => match a, b with
    | .str x, .str y => strEq x y
    | .list xs, .list ys => eqvL (eqvF n) xs ys
    | .tuple xs, .tuple ys => eqvL (eqvF n) xs ys
    | a, b => PyData.eqv a b
theorem shP_all {n : Nat} (ih : ∀ d, shP n d = true → d.canLay0 = true ∧ d.depth ≤ n) : ∀ xs : List PyData, xs.all (shP n) = true → PyData.canLayAll0 xs = true ∧ PyData.depthAll xs ≤ n
  | [], _ => by simp [PyData.canLayAll0, PyData.depthAll]
  | x :: xs, h => by
    rw [List.all_cons, Bool.and_eq_true] at h
    obtain ⟨a1, a2⟩ := ih x h.1
    obtain ⟨b1, b2⟩ := shP_all ih xs h.2
    simp only [PyData.canLayAll0, PyData.depthAll, a1, b1, Bool.and_self, true_and]
    omega
theorem shP_of : ∀ (n : Nat) (d : PyData), shP n d = true → d.canLay0 = true ∧ d.depth ≤ n
  | 0, _, h => by cases h
  | n + 1, d, h => by
    cases d with
    | none => simp [PyData.canLay0, PyData.depth]
    | bool b => simp [PyData.canLay0, PyData.depth]
    | int i => simp [PyData.canLay0, PyData.depth]
    | str x =>
      refine ⟨?_, by simp [PyData.depth]⟩
      have h : (x.cps.toList.all fun c => Nat.blt c 1114112) = true := h
      simp only [PyData.canLay0]
      unfold PyData.strOk
      rw [← Array.all_toList, List.all_eq_true]
      intro c hc
      have := List.all_eq_true.mp h c hc
      simpa [Nat.blt_eq] using this
    | list xs =>
      obtain ⟨a, b⟩ := shP_all (shP_of n) xs h
      refine ⟨by simp only [PyData.canLay0]; exact a, by simp only [PyData.depth]; omega⟩
    | tuple xs =>
      obtain ⟨a, b⟩ := shP_all (shP_of n) xs h
      refine ⟨by simp only [PyData.canLay0]; exact a, by simp only [PyData.depth]; omega⟩
    | dict xs => cases h
theorem eqvL_of {n : Nat} (ih : ∀ a b, shP n a = true → eqvF n a b = PyData.eqv a b) : ∀ xs ys : List PyData, xs.all (shP n) = true → eqvL (eqvF n) xs ys = PyData.eqvAll xs ys
  | [], [], _ => by simp [eqvL, PyData.eqvAll]
  | [], _ :: _, _ => by simp [eqvL, PyData.eqvAll]
  | _ :: _, [], _ => by simp [eqvL, PyData.eqvAll]
  | x :: xs, y :: ys, h => by
    rw [List.all_cons, Bool.and_eq_true] at h
    simp only [eqvL, PyData.eqvAll, ih x y h.1, eqvL_of ih xs ys h.2]
theorem eqvF_of : ∀ (n : Nat) (a b : PyData), shP n a = true → eqvF n a b = PyData.eqv a b
  | 0, _, _, h => by cases h
  | n + 1, a, b, h => by
    unfold eqvF
    split
    · rename_i x y
      rw [strEq_iff]
      simp only [PyData.eqv]
      rw [Bool.eq_iff_iff]
      simp
    · rename_i xs ys
      simp only [PyData.eqv]
      exact eqvL_of (eqvF_of n) xs ys h
    · rename_i xs ys
      simp only [PyData.eqv]
      exact eqvL_of (eqvF_of n) xs ys h
    · rfl
theorem anyF_of {n : Nat} {d : PyData} : ∀ ds : List PyData, ds.all (shP n) = true → (ds.any fun z => eqvF n z d) = ds.any fun z => PyData.eqv z d
  | [], _ => rfl
  | x :: xs, h => by
    rw [List.all_cons, Bool.and_eq_true] at h
    rw [List.any_cons, List.any_cons, eqvF_of n x d h.1, anyF_of xs h.2]
theorem shP_shaped {d : PyData} (h : shP 14 d = true) : SeqAt.shaped d = true := by
  obtain ⟨a, b⟩ := shP_of 14 d h
  unfold SeqAt.shaped
  rw [a, Bool.true_and, decide_eq_true_eq]
  omega
def eqP (x y : D) (S : Sto) : Option Bool := match toP 14 S x, toP 14 S y with
  | some a, some b => if shP 14 a && shP 14 b then some (eqvF 14 a b) else none
  | _, _ => none
/-- == -/
def eqD (x y : D) (S : Sto) : Option Bool := match x, y with
  | .int i, .int j => some (decide (i = j))
  | .str a, .str b => some (strEq a b)
  | .non, .non => some true
  | .non, .int _ => some false
  | .int _, .non => some false
  | _, _ => eqP x y S
def gEq (x y : D) (S : Sto) : Option (D × Sto) := match eqD x y S with
  | some b => some (.bl b, S)
  | none => none
def gNe (x y : D) (S : Sto) : Option (D × Sto) := match eqD x y S with
  | some b => some (.bl (!b), S)
  | none => none
def isNonD : D → Bool
  | .non => true
  | _ => false
def gIsN (x y : D) (S : Sto) : Option (D × Sto) := match y with
  | .non => some (.bl (isNonD x), S)
  | _ => none
def gNotN (x y : D) (S : Sto) : Option (D × Sto) := match y with
  | .non => some (.bl (!isNonD x), S)
  | _ => none
/-- flat things -/
def vFl : D → Option V
  | .non => some .non
  | .bl b => some (.bl b)
  | .int i => some (.int i)
  | .str x => some (.str x)
  | _ => none
def eqFl (y x : D) : Option Bool := match y, x with
  | .int i, .int j => some (decide (i = j))
  | .str a, .str b => some (strEq a b)
  | .non, .non => some true
  | .non, .int _ => some false
  | .int _, .non => some false
  | _, _ => none
def anyFl (x : D) : List D → Option Bool
  | [] => some false
  | y :: ys => match eqFl y x with
    | some b => match anyFl x ys with
      | some c => some (b || c)
      | none => none
    | none => none
/-- a key of a dict -/
def keyO : D → Option (Option Int)
  | .non => some none
  | .int i => some (some i)
  | _ => none
def keyD : D → Option (List (Option Int))
  | .tup ds => mapO keyO ds
  | _ => none
section
variable {X : Cx}
variable {P : Program} {w : World} {K : PySem.W.Frag} {H : Hp} {ρ : List Addr} {S S' : Sto} {x y : V} {dx dy d : D} {Q : VK}
/-- the two trees told apart -/
theorem or_sub : OpR X (binaryOp .Sub) (rD X.prog X.w X.K gSub) := by
  intro pins s σ H x y v u Q I rx ry h
  obtain ⟨dx, dy, ρ, S, d, S', rs, ax, ay, e, q⟩ := h
  unfold gSub at e
  split at e
  · cases e
    cases ax
    cases ay
    exact op_sub pins s σ H _ _ v u Q I rx ry ⟨_, _, rfl, rfl, q _ H ρ Ext.refl rs (.int _)⟩
  · cases e
theorem opI_of {f : Value → Value → Sem Value} {p : Int → Int → Bool} {g : D → D → Sto → Option (D × Sto)} (ho : OpR X f (rI0 fun i j => .bl (p i j))) (hg : ∀ dx dy S d S', g dx dy S = some (d, S') → ∃ i j, dx = .int i ∧ dy = .int j ∧ d = .bl (p i j) ∧ S' = S) : OpR X f (rD X.prog X.w X.K g) := by
  intro pins s σ H x y v u Q I rx ry h
  obtain ⟨dx, dy, ρ, S, d, S', rs, ax, ay, e, q⟩ := h
  obtain ⟨i, j, rfl, rfl, rfl, rfl⟩ := hg _ _ _ _ _ e
  cases ax
  cases ay
  exact ho pins s σ H _ _ v u Q I rx ry ⟨_, _, rfl, rfl, q _ H ρ Ext.refl rs (.bl _)⟩
theorem or_lt : OpR X (compareOp .Lt) (rD X.prog X.w X.K gLt) := opI_of op_lt fun dx dy S d S' e => by
  unfold gLt at e
  split at e
  · cases e; exact ⟨_, _, rfl, rfl, rfl, rfl⟩
  · cases e
theorem or_le : OpR X (compareOp .LtE) (rD X.prog X.w X.K gLe) := opI_of op_le fun dx dy S d S' e => by
  unfold gLe at e
  split at e
  · cases e; exact ⟨_, _, rfl, rfl, rfl, rfl⟩
  · cases e
theorem or_gt : OpR X (compareOp .Gt) (rD X.prog X.w X.K gGt) := opI_of op_gt fun dx dy S d S' e => by
  unfold gGt at e
  split at e
  · cases e; exact ⟨_, _, rfl, rfl, rfl, rfl⟩
  · cases e
theorem or_ge : OpR X (compareOp .GtE) (rD X.prog X.w X.K gGe) := opI_of op_ge fun dx dy S d S' e => by
  unfold gGe at e
  split at e
  · cases e; exact ⟨_, _, rfl, rfl, rfl, rfl⟩
  · cases e
theorem dTup_ok {vs : List V} {ds : List D} {p : Addr} (rs : RS P w K H ρ S) (al : AtL K H ρ vs ds) (e : dTup ds S = some (d, S')) (hp : H p = none) (q : WE P w K H ρ S' d Q) : Q (.ref p) (upd H p (.tup vs)) := by
  unfold dTup at e
  split at e
  · cases e
    obtain ⟨rs', x⟩ := rs.new (o := .tup vs) hp
    exact q _ _ ρ x rs' (.tup (.of upd_same) (AtL.kp (rs.kp x) _ _ al))
  · cases e
theorem dTup_short {ds : List D} (e : dTup ds S = some (d, S')) : ds.length ≤ 4000 := by
  unfold dTup at e
  split at e
  · rename_i h
    exact short_le h
  · cases e
theorem dTup_same {ds : List D} {a : Addr} (rs : RS P w K H ρ S) (e : dTup ds S = some (d, S')) (at_ : At K H ρ (.ref a) (.tup ds)) (q : WE P w K H ρ S' d Q) : Q (.ref a) H := by
  unfold dTup at e
  split at e
  · cases e
    exact q _ _ ρ Ext.refl rs at_
  · cases e
theorem or_add : OpR X (binaryOp .Add) (rD X.prog X.w X.K gAdd) := by
  intro pins s σ H x y v u Q I rx ry h
  obtain ⟨dx, dy, ρ, S, d, S', rs, ax, ay, e, q⟩ := h
  unfold gAdd at e
  split at e
  · cases e
    cases ax
    cases ay
    exact op_add pins s σ H _ _ v u Q I rx ry ⟨_, _, rfl, rfl, q _ H ρ Ext.refl rs (.int _)⟩
  · rename_i a b _
    cases ax with
    | tup h1 l1 =>
      cases ay with
      | tup h2 l2 =>
        have hz := dTup_short e
        rw [List.length_append, ← l1.length, ← l2.length] at hz
        refine op_catA pins s σ H _ _ v u Q I rx ry ⟨_, _, _, _, rfl, rfl, h1, h2, line4000 hz, fun z => ?_, fun _ z => ?_, fun _ _ p hp => ?_⟩
        · subst z
          cases l1
          exact dTup_same rs e (.tup h2 l2) q
        · subst z
          cases l2
          rw [List.append_nil] at e
          exact dTup_same rs e (.tup h1 l1) q
        · exact dTup_ok rs (l1.append l2) e hp q
  · rename_i i j _
    split at e
    · rename_i a b ha hb
      cases ax with
      | ref hi =>
        cases ay with
        | ref hj =>
          obtain ⟨vs, e1, l1⟩ := rs.lst hi ha
          obtain ⟨ws, e2, l2⟩ := rs.lst hj hb
          have hz := dLst_short e
          rw [List.length_append, ← l1.length, ← l2.length] at hz
          refine op_cat pins s σ H _ _ v u Q I rx ry ⟨_, _, _, _, rfl, rfl, e1, e2, line4000 hz, fun p hp => ?_⟩
          exact dLst_ok rs (l1.append l2) e hp q
    · cases e
  · cases e
/-- data as PyData -/
theorem mapO_dp (rs : RS P w K H ρ S) {n : Nat} (ih : ∀ (d : D) (v : V) (p : PyData), At K H ρ v d → toP n S d = some p → Dp K H v p) : ∀ (ds : List D) (vs : List V) (ps : List PyData), AtL K H ρ vs ds → mapO (toP n S) ds = some ps → DpAll K H vs ps
  | [], _, _, h, e => by
    cases h
    cases e
    exact .nil
  | d :: ds, _, _, h, e => by
    cases h with
    | cons h1 h2 =>
      unfold mapO at e
      split at e
      · rename_i p hp
        split at e
        · rename_i ps hps
          cases e
          exact .cons (ih _ _ _ h1 hp) (mapO_dp rs ih ds _ _ h2 hps)
        · cases e
      · cases e
theorem dp_of (rs : RS P w K H ρ S) : ∀ (n : Nat) (d : D) (v : V) (p : PyData), At K H ρ v d → toP n S d = some p → Dp K H v p
  | 0, _, _, _, _, e => by cases e
  | n + 1, d, v, p, h, e => by
    unfold toP at e
    cases h with
    | non => cases e; exact .non
    | bl b => cases e; exact .bl b
    | int i => cases e; exact .int i
    | str x => cases e; exact .str x
    | tup h1 h2 =>
      simp only at e
      split at e
      · rename_i ps hps
        cases e
        exact .tup h1 (mapO_dp rs (dp_of rs n) _ _ _ h2 hps)
      · cases e
    | tpl h1 h2 => cases e
    | obj a => cases e
    | ref hi =>
      simp only at e
      split at e
      · rename_i ds hs
        split at e
        · rename_i ps hps
          cases e
          obtain ⟨vs, e1, l1⟩ := rs.lst hi hs
          exact .lst (.of e1) (mapO_dp rs (dp_of rs n) _ _ _ l1 hps)
        · cases e
      · cases e
theorem eqD_run (hu : X.A.units + 64 < cLine) {b : Bool} {R : Bool → V} {op : CmpOp} {pins : List (Addr × Obj)} {s : Shared} {σ : L2.St} {v u : Value} {rs : RS X.prog X.w X.K H ρ S}
    (o1 : OpR X (compareOp op) (fun x y H Q => scal x y = true ∧ Q (R (decide (x = y))) H)) (o2 : OpR X (compareOp op) (fun x y H Q => ∃ d e, Dp X.K H x d ∧ Dp X.K H y e ∧ SeqAt.shaped d = true ∧ SeqAt.shaped e = true ∧ Q (R (PyData.eqv d e)) H))
    (I : Inv X pins σ H s) (rx : RelV x v) (ry : RelV y u) (ax : At X.K H ρ x dx) (ay : At X.K H ρ y dy) (e : eqD dx dy S = some b) (q : Q (R b) H) : wpAny (model X.prog X.w) X.A (compareOp op v u) (EP X pins σ Q) X.xe s := by
  unfold eqD at e
  split at e
  · cases e
    cases ax
    cases ay
    refine o1 pins s σ H _ _ v u Q I rx ry ⟨rfl, ?_⟩
    rename_i i j
    rw [show decide (V.int i = V.int j) = decide (i = j) from by rw [Bool.eq_iff_iff]; simp]
    exact q
  · cases e
    cases ax
    cases ay
    refine o1 pins s σ H _ _ v u Q I rx ry ⟨rfl, ?_⟩
    rename_i i j
    rw [show decide (V.str i = V.str j) = strEq i j from by rw [strEq_iff, Bool.eq_iff_iff]; simp]
    exact q
  · cases e
    cases ax
    cases ay
    exact o1 pins s σ H _ _ v u Q I rx ry ⟨rfl, q⟩
  · cases e
    cases ax
    cases ay
    exact o1 pins s σ H _ _ v u Q I rx ry ⟨rfl, q⟩
  · cases e
    cases ax
    cases ay
    exact o1 pins s σ H _ _ v u Q I rx ry ⟨rfl, q⟩
  · unfold eqP at e
    split at e
    · rename_i a b ha hb
      split at e
      · rename_i hs
        rw [Bool.and_eq_true] at hs
        cases e
        rw [eqvF_of _ _ _ hs.1] at q
        exact o2 pins s σ H _ _ v u Q I rx ry ⟨a, b, dp_of rs _ _ _ _ ax ha, dp_of rs _ _ _ _ ay hb, shP_shaped hs.1, shP_shaped hs.2, q⟩
      · cases e
    · cases e
theorem or_eq (hu : X.A.units + 64 < cLine) : OpR X (compareOp .Eq) (rD X.prog X.w X.K gEq) := by
  intro pins s σ H x y v u Q I rx ry h
  obtain ⟨dx, dy, ρ, S, d, S', rs, ax, ay, e, q⟩ := h
  unfold gEq at e
  split at e
  · rename_i b hb
    cases e
    exact eqD_run (rs := rs) (R := V.bl) hu op_eq (op_eqD hu) I rx ry ax ay hb (q _ H ρ Ext.refl rs (.bl b))
  · cases e
theorem or_ne (hu : X.A.units + 64 < cLine) : OpR X (compareOp .NotEq) (rD X.prog X.w X.K gNe) := by
  intro pins s σ H x y v u Q I rx ry h
  obtain ⟨dx, dy, ρ, S, d, S', rs, ax, ay, e, q⟩ := h
  unfold gNe at e
  split at e
  · rename_i b hb
    cases e
    exact eqD_run (rs := rs) (R := fun b => V.bl (!b)) hu op_ne (op_neD hu) I rx ry ax ay hb (q _ H ρ Ext.refl rs (.bl _))
  · cases e
theorem isNon_at (h : At K H ρ x d) : isNonD d = decide (x = .non) := by
  cases h <;> rfl
theorem or_isN : OpR X (compareOp .Is) (rD X.prog X.w X.K gIsN) := by
  intro pins s σ H x y v u Q I rx ry h
  obtain ⟨dx, dy, ρ, S, d, S', rs, ax, ay, e, q⟩ := h
  unfold gIsN at e
  split at e
  · cases e
    cases ay
    refine op_isN pins s σ H _ _ v u Q I rx ry ⟨rfl, ?_⟩
    rw [← isNon_at ax]
    exact q _ H ρ Ext.refl rs (.bl _)
  · cases e
theorem or_notN : OpR X (compareOp .IsNot) (rD X.prog X.w X.K gNotN) := by
  intro pins s σ H x y v u Q I rx ry h
  obtain ⟨dx, dy, ρ, S, d, S', rs, ax, ay, e, q⟩ := h
  unfold gNotN at e
  split at e
  · cases e
    cases ay
    refine op_notN pins s σ H _ _ v u Q I rx ry ⟨rfl, ?_⟩
    rw [← isNon_at ax]
    exact q _ H ρ Ext.refl rs (.bl _)
  · cases e
end
end K50
set_option Elab.async false
set_option linter.all false
set_option maxRecDepth 100000
set_option maxHeartbeats 4000000
namespace K50
open PySem PySem.Spec PyProof.Rows L2

/-! ### tuple * 0, tuple * 1 -/
theorem tuple_mul1 (l : Addr) (items : Array Value) (n : Nat) (dd : Option Addr) (sl : Array (Option Value)) (u : Tok) :
    Meets (Builtin.«tuple.__mul__» ⟨[.ref l, .int 1 u], []⟩) (fun _ R s => s.heap.get? l = some { cls := .type "tuple", dict := dd, data := .seq items n, slots := sl } ∧ R (.ok (.ret (Value.ref l))) { s with heap := s.heap, toks := s.toks }) :=
  .of_wp fun prog w A R s h => by
    obtain ⟨hp, g, d, tk, os⟩ := s
    obtain ⟨hl, h⟩ := h
    have f1 := AutoSeq1.idx_int
    have f2 := AutoSeq1.sub_tuple_tuple
    have c1 : (items.isEmpty || (1 : Int) == 1) = true := by simp
    wp_walk using wpAny_loadPart' hl
    repeat (first
      | (refine wpAny_ite_true (decide_eq_true c1) ?_; wp_walk using wpAny_loadPart' hl))
    exact ⟨_, rfl, h⟩
theorem tuple_mul0 (l : Addr) (items : Array Value) (n : Nat) (dd : Option Addr) (sl : Array (Option Value)) (u : Tok) (hi : items.isEmpty = false) :
    Meets (Builtin.«tuple.__mul__» ⟨[.ref l, .int 0 u], []⟩) (fun _ R s => s.heap.get? l = some { cls := .type "tuple", dict := dd, data := .seq items n, slots := sl } ∧ R (.ok (.ret (Value.ref s.heap.objs.size))) { s with heap := s.heap.push { cls := Value.type "tuple", data := Data.seq #[] }, toks := s.toks }) :=
  .of_wp fun prog w A R s h => by
    obtain ⟨hp, g, d, tk, os⟩ := s
    obtain ⟨hl, h⟩ := h
    have f1 := AutoSeq1.idx_int
    have f2 := AutoSeq1.sub_tuple_tuple
    have c1 : (items.isEmpty || (0 : Int) == 1) = false := by rw [hi]; rfl
    have c2 : (decide ((0 : Int) ≤ 0) || items.isEmpty) = true := by simp
    wp_walk using wpAny_loadPart' hl
    repeat (first
      | (refine wpAny_ite_false (decide_eq_false (by rw [c1]; exact Bool.false_ne_true)) ?_; wp_walk using wpAny_loadPart' hl)
      | (refine wpAny_ite_true (decide_eq_true c2) ?_; wp_walk using wpAny_loadPart' hl))
    exact ⟨_, rfl, h⟩
section
variable {X : Cx}
def rRep01 (K : PySem.W.Frag) : R2 := fun x y H Q => ∃ l k xs, x = .ref l ∧ y = .int k ∧ SqT K H l xs ∧ xs ≠ [] ∧ ((k = 1 ∧ Q (.ref l) H) ∨ (k = 0 ∧ ∀ p, H p = none → Q (.ref p) (upd H p (.tup []))))
theorem op_rep01 : OpR X (binaryOp .Mult) (rRep01 X.K) := by
  intro pins s σ H x y v u Q I rx ry h
  obtain ⟨l, k, xs, rfl, rfl, hT, hne, q⟩ := h
  cases rx
  obtain ⟨t, rfl⟩ := ry
  obtain ⟨its, r, ⟨⟨cls, dd, data, sl⟩, ho, hc, n, hd⟩, hs⟩ := I.tuple hT
  simp only at hc hd
  subst hc hd
  have hle : its.length = xs.length := r.length.symm
  have hn : its ≠ [] := fun e => hne (by
    rw [e] at hle
    exact List.eq_nil_of_length_eq_zero hle.symm)
  have hi : its.toArray.isEmpty = false := by
    cases its with
    | nil => exact absurd rfl hn
    | cons a b => rfl
  rcases q with ⟨rfl, q⟩ | ⟨rfl, q⟩
  · exact wpAny_binaryOp_repeat_ref (T := "tuple") (U := "int") (by decide) ⟨_, ho, rfl⟩ (fun s' => typeIs_int s' 1 t) noFill_tuple_mul F.fills_int_mul F.slot_int_rmul repeat_tuple F.slot_int_index.lookup
      (call_meets F.slot_int_rmul (typeIs_int s 1 t) F.entry_int_rmul (F.args_int_rmul_2 _ _) (int_rmul_tuple 1 t l its.toArray n dd sl)
        ⟨ho, rfl, ⟨_, ho, rfl⟩, call_meets F.slot_tuple_mul ⟨_, ho, rfl⟩ F.entry_tuple_mul (F.args_tuple_mul_2 _ _) (tuple_mul1 l its.toArray n dd sl t) ⟨ho, ⟨.ref l, H, I, rfl, q⟩⟩⟩)
  · refine wpAny_binaryOp_repeat_ref (T := "tuple") (U := "int") (by decide) ⟨_, ho, rfl⟩ (fun s' => typeIs_int s' 0 t) noFill_tuple_mul F.fills_int_mul F.slot_int_rmul repeat_tuple F.slot_int_index.lookup
      (call_meets F.slot_int_rmul (typeIs_int s 0 t) F.entry_int_rmul (F.args_int_rmul_2 _ _) (int_rmul_tuple 0 t l its.toArray n dd sl)
        ⟨ho, rfl, ⟨_, ho, rfl⟩, call_meets F.slot_tuple_mul ⟨_, ho, rfl⟩ F.entry_tuple_mul (F.args_tuple_mul_2 _ _) (tuple_mul0 l its.toArray n dd sl t hi) ⟨ho, ?_⟩⟩)
    refine ⟨.ref s.heap.objs.size, _, I.laid (t' := s.toks) (o := .tup []) (fun b ob q => Heap.get?_push_of_some _ q) (Nat.le_refl _) ?_, rfl, q _ (I.hok.fresh (Nat.le_refl _))⟩
    exact ⟨Nat.zero_le _, [], .nil, IsTup.new _ _⟩
end

/-! ### more operators -/
def gPow : D → D → Sto → Option (D × Sto)
  | .int i, .int j, S => if decide (0 ≤ j) && decide (j ≤ 100) && decide (i.natAbs < 2 ^ 64) then some (.int (i ^ j.toNat), S) else none
  | _, _, _ => none
/-- a known tuple as any -/
def wk : D → D
  | .tpl ds => .tup ds
  | d => d
theorem At.wk {K : PySem.W.Frag} {H : Hp} {ρ : List Addr} {v : V} {d : D} (h : At K H ρ v d) : At K H ρ v (K50.wk d) := by
  cases h with
  | tpl h1 h2 => exact .tup h1.sq h2
  | non => exact .non
  | bl b => exact .bl b
  | int i => exact .int i
  | str x => exact .str x
  | tup h1 h2 => exact .tup h1 h2
  | ref h => exact .ref h
  | obj a => exact .obj a
def gIx : D → D → Sto → Option (D × Sto)
  | .tup ds, .int i, S => match atI ds i with
    | some d => some (wk d, S)
    | none => none
  | .ref r, .int i, S => match S[r]? with
    | some (.lst ds) => match atI ds i with
      | some d => some (wk d, S)
      | none => none
    | _ => none
  | _, _, _ => none
def gLen : D → Sto → Option (D × Sto)
  | .tup ds, S => some (.int ds.length, S)
  | .ref r, S => match S[r]? with
    | some (.lst ds) => some (.int ds.length, S)
    | _ => none
  | _, _ => none
section
variable {X : Cx}
variable {P : Program} {w : World} {K : PySem.W.Frag} {H : Hp} {ρ : List Addr} {S S' : Sto} {x y : V} {dx dy d : D} {Q : VK} {vs : List V} {ds : List D}
theorem AtL.flat : ∀ (n : Nat), AtL K H ρ vs ds → AtL K H ρ (List.replicate n vs).flatten (List.replicate n ds).flatten
  | 0, _ => .nil
  | n + 1, h => by
    rw [List.replicate_succ, List.replicate_succ, List.flatten_cons, List.flatten_cons]
    exact h.append (AtL.flat n h)
theorem or_mul : OpR X (binaryOp .Mult) (rD X.prog X.w X.K gMul) := by
  intro pins s σ H x y v u Q I rx ry h
  obtain ⟨dx, dy, ρ, S, d, S', rs, ax, ay, e, q⟩ := h
  unfold gMul at e
  split at e
  · split at e
    · rename_i i j _ hc
      rw [Bool.or_eq_true, Bool.and_eq_true, Bool.and_eq_true, decide_eq_true_eq, decide_eq_true_eq, decide_eq_true_eq, decide_eq_true_eq] at hc
      cases e
      cases ax
      cases ay
      exact op_mul pins s σ H _ _ v u Q I rx ry ⟨_, _, rfl, rfl, hc, q _ H ρ Ext.refl rs (.int _)⟩
    · cases e
  · rename_i a k
    split at e
    · rename_i hc
      simp only [Bool.and_eq_true, decide_eq_true_eq] at hc
      obtain ⟨⟨⟨h0, h1⟩, h2⟩, h3⟩ := hc
      have h3 := Nat.le_of_ble_eq_true h3
      cases e
      cases ay
      cases ax with
      | tup ht l =>
        have hne : a ≠ [] := fun z => by rw [z] at h2; simp at h2
        rename_i al xs
        have hnx : xs ≠ [] := fun z => by
          rw [z] at l
          cases l
          exact hne rfl
        by_cases k0 : k = 0
        · subst k0
          refine op_rep01 pins s σ H _ _ v u Q I rx ry ⟨_, _, _, rfl, rfl, ht, hnx, .inr ⟨rfl, fun p hp => ?_⟩⟩
          obtain ⟨rs', x⟩ := rs.new (o := .tup []) hp
          exact q _ _ ρ x rs' (.tup (.of upd_same) .nil)
        · by_cases k1 : k = 1
          · subst k1
            refine op_rep01 pins s σ H _ _ v u Q I rx ry ⟨_, _, _, rfl, rfl, ht, hnx, .inl ⟨rfl, ?_⟩⟩
            have e1 : (List.replicate (1 : Int).toNat a).flatten = a := by
              show (List.replicate 1 a).flatten = a
              simp
            rw [e1] at q
            exact q _ _ ρ Ext.refl rs (.tup ht l)
          · refine op_repT pins s σ H _ _ v u Q I rx ry ⟨_, _, _, rfl, rfl, ht, hnx, by omega, h1, by rw [l.length]; omega, fun p hp => ?_⟩
            obtain ⟨rs', x⟩ := rs.new (o := .tup (List.replicate k.toNat xs).flatten) hp
            exact q _ _ ρ x rs' (.tup (.of upd_same) (AtL.kp (rs.kp x) _ _ (AtL.flat _ l)))
    · cases e
  · cases e
theorem or_pow : OpR X (binaryOp .Pow) (rD X.prog X.w X.K gPow) := by
  intro pins s σ H x y v u Q I rx ry h
  obtain ⟨dx, dy, ρ, S, d, S', rs, ax, ay, e, q⟩ := h
  unfold gPow at e
  split at e
  · split at e
    · rename_i i j _ hc
      simp only [Bool.and_eq_true, decide_eq_true_eq] at hc
      cases e
      cases ax
      cases ay
      exact op_pow pins s σ H _ _ v u Q I rx ry ⟨_, _, rfl, rfl, ⟨hc.1.1, by omega, hc.2⟩, q _ H ρ Ext.refl rs (.int _)⟩
    · cases e
  · cases e
/-! in -/
theorem eqFl_at {vy vx : V} {dy dx : D} (hy : At K H ρ vy dy) (hx : At K H ρ vx dx) {b : Bool} (e : eqFl dy dx = some b) : flatV vy = true ∧ flatV vx = true ∧ eqV vy vx = b := by
  unfold eqFl at e
  split at e
  · cases e
    cases hy
    cases hx
    refine ⟨rfl, rfl, ?_⟩
    rename_i i j
    show (i == j) = decide (i = j)
    rw [Bool.eq_iff_iff]
    simp
  · cases e
    cases hy
    cases hx
    refine ⟨rfl, rfl, ?_⟩
    rename_i i j
    show (i == j) = strEq i j
    rw [strEq_iff, Bool.eq_iff_iff]
    simp
  · cases e
    cases hy
    cases hx
    exact ⟨rfl, rfl, rfl⟩
  · cases e
    cases hy
    cases hx
    exact ⟨rfl, rfl, rfl⟩
  · cases e
    cases hy
    cases hx
    exact ⟨rfl, rfl, rfl⟩
  · cases e
theorem anyFl_at {vx : V} {dx : D} (hx : At K H ρ vx dx) : ∀ (ds : List D) (vs : List V) (b : Bool), AtL K H ρ vs ds → anyFl dx ds = some b → (ds ≠ [] → flatV vx = true) ∧ vs.all flatV = true ∧ inV vx vs = b
  | [], _, b, h, e => by
    cases h
    cases e
    exact ⟨fun z => absurd rfl z, rfl, rfl⟩
  | d :: ds, _, b, h, e => by
    cases h with
    | cons h1 h2 =>
      unfold anyFl at e
      split at e
      · rename_i b1 e1
        split at e
        · rename_i b2 e2
          cases e
          obtain ⟨f1, f2, f3⟩ := eqFl_at h1 hx e1
          obtain ⟨g1, g2, g3⟩ := anyFl_at hx ds _ _ h2 e2
          refine ⟨fun _ => f2, ?_, ?_⟩
          · rw [List.all_cons, f1, g2]
            rfl
          · show (eqV _ vx || inV vx _) = _
            rw [f3, g3]
        · cases e
      · cases e
theorem flat_or {vx : V} {dx : D} (hx : At K H ρ vx dx) {ds : List D} {b : Bool} (e : anyFl dx ds = some b) (hf : ds = [] → flatV vx = true) {vs : List V} (h : AtL K H ρ vs ds) : flatV vx = true ∧ vs.all flatV = true ∧ inV vx vs = b := by
  obtain ⟨a, b, c⟩ := anyFl_at hx ds vs _ h e
  refine ⟨?_, b, c⟩
  by_cases z : ds = []
  · exact hf z
  · exact a z
end
end K50
set_option Elab.async false
set_option linter.all false
set_option maxRecDepth 100000
set_option maxHeartbeats 4000000
namespace K50
open PySem PySem.Spec PyProof.Rows L2

/-! ### in, not in -/
def flD : D → Bool
  | .non => true
  | .bl _ => true
  | .int _ => true
  | .str _ => true
  | _ => false
def inP (x : D) (i : Nat) (S : Sto) : Option Bool := match toP 14 S x, toP 14 S (.ref i) with
  | some d, some (.list ds) => if shP 14 d && shP 14 (.list ds) then some (ds.any fun z => eqvF 13 z d) else none
  | _, _ => none
def inS (x y : D) (S : Sto) : Option Bool := match y with
  | .tup ds => if flD x then anyFl x ds else none
  | .ref i => match S[i]? with
    | some (.lst ds) => if flD x then anyFl x ds else inP x i S
    | _ => none
  | _ => none
def gIn (x y : D) (S : Sto) : Option (D × Sto) := match inS x y S with
  | some b => some (.bl b, S)
  | none => none
def gNotIn (x y : D) (S : Sto) : Option (D × Sto) := match inS x y S with
  | some b => some (.bl (!b), S)
  | none => none
/-- one thing, two things -/
def g1 (f : D → Sto → Option (D × Sto)) (ds : List D) (S : Sto) : Option (D × Sto) := match ds with
  | [x] => f x S
  | _ => none
def g2 (f : D → D → Sto → Option (D × Sto)) (ds : List D) (S : Sto) : Option (D × Sto) := match ds with
  | [x, y] => f x y S
  | _ => none
def gTupOf : D → Sto → Option (D × Sto)
  | .tup ds, S => some (.tup ds, S)
  | .ref r, S => match S[r]? with
    | some (.lst ds) => dTup ds S
    | _ => none
  | _, _ => none
def gLstOf : D → Sto → Option (D × Sto)
  | .tup ds, S => dLst ds S
  | .ref r, S => match S[r]? with
    | some (.lst ds) => dLst ds S
    | _ => none
  | _, _ => none
def blO : D → Option Bool
  | .bl b => some b
  | _ => none
def intO : D → Option Int
  | .int i => some i
  | _ => none
def lstAt (d : D) (S : Sto) : Option (List D) := match d with
  | .ref r => match S[r]? with
    | some (.lst ds) => some ds
    | _ => none
  | _ => none
def gAny (d : D) (S : Sto) : Option (D × Sto) := match lstAt d S with
  | some ds => match mapO blO ds with
    | some bs => some (.bl (bs.any id), S)
    | none => none
  | none => none
def gAll (d : D) (S : Sto) : Option (D × Sto) := match lstAt d S with
  | some ds => match mapO blO ds with
    | some bs => some (.bl (bs.all id), S)
    | none => none
  | none => none
def gSum (d : D) (S : Sto) : Option (D × Sto) := match lstAt d S with
  | some ds => match mapO intO ds with
    | some bs => some (.int bs.sum, S)
    | none => none
  | none => none
def gMin : D → D → Sto → Option (D × Sto)
  | .int i, .int j, S => some (.int (if j < i then j else i), S)
  | _, _, _ => none
def gMax : D → D → Sto → Option (D × Sto)
  | .int i, .int j, S => some (.int (if j > i then j else i), S)
  | _, _, _ => none
def gInt : D → Sto → Option (D × Sto)
  | .int i, S => some (.int i, S)
  | .bl b, S => some (.int (if b then 1 else 0), S)
  | _, _ => none
/-- which class -/
inductive Kd where
  | int | bool | str | tup | seq
  deriving DecidableEq
def isK (k : Kd) (d : D) (S : Sto) : Option Bool := match k, d with
  | .int, .int _ => some true
  | .int, .bl _ => some true
  | .int, .non => some false
  | .int, .str _ => some false
  | .int, .tup _ => some false
  | .bool, .bl _ => some true
  | .bool, .int _ => some false
  | .bool, .non => some false
  | .bool, .str _ => some false
  | .str, .str _ => some true
  | .str, .int _ => some false
  | .str, .bl _ => some false
  | .str, .non => some false
  | .tup, .tup _ => some true
  | .tup, .int _ => some false
  | .tup, .non => some false
  | .seq, .tup _ => some true
  | .seq, .int _ => some false
  | .seq, .non => some false
  | .seq, .ref r => match S[r]? with
    | some (.lst _) => some true
    | _ => none
  | _, _ => none
def gIsK (k : Kd) (d : D) (S : Sto) : Option (D × Sto) := match isK k d S with
  | some b => some (.bl b, S)
  | none => none
/-- list(range(a, b)) -/
def rgD (a b : Int) : List D := (List.range (b - a).toNat).map fun i => D.int (a + (i : Nat))
def gRgL (x y : D) (S : Sto) : Option (D × Sto) := match x, y with
  | .int a, .int b => if decide (-1000 ≤ a) && decide (a ≤ 1000) && decide (-1000 ≤ b) && decide (b ≤ 1000) then dLst (rgD a b) S else none
  | _, _ => none
/-- slices -/
def sIxN (n : Nat) (dflt : Nat) (o : Option Int) : Nat := HT.sIx n dflt o
def cutD (xs : List D) (lo hi : Option Int) : List D := (xs.drop (HT.sIx xs.length 0 lo)).take (HT.sIx xs.length xs.length hi - HT.sIx xs.length 0 lo)

section
variable {X : Cx}
variable {P : Program} {w : World} {K : PySem.W.Frag} {H : Hp} {ρ : List Addr} {S S' : Sto} {x y : V} {dx dy d : D} {Q : VK} {vs : List V} {ds : List D}
theorem flD_at (h : At K H ρ x d) (e : flD d = true) : flatV x = true := by
  cases h <;> first | rfl | cases e
theorem inS_run (hu : X.A.units + 65 < cLine) {b : Bool} {R : Bool → V} {op : CmpOp} {pins : List (Addr × Obj)} {s : Shared} {σ : L2.St} {v u : Value} (rs : RS X.prog X.w X.K H ρ S)
    (o1 : OpR X (compareOp op) (fun x y H Q => ∃ p xs, y = .ref p ∧ (SqL X.K H p xs ∨ SqT X.K H p xs) ∧ flatV x = true ∧ xs.all flatV = true ∧ Q (R (inV x xs)) H))
    (o2 : OpR X (compareOp op) (fun x y H Q => ∃ d ds, Dp X.K H x d ∧ Dp X.K H y (.list ds) ∧ SeqAt.shaped d = true ∧ SeqAt.shaped (.list ds) = true ∧ Q (R (ds.any fun z => PyData.eqv z d)) H))
    (I : Inv X pins σ H s) (rx : RelV x v) (ry : RelV y u) (ax : At X.K H ρ x dx) (ay : At X.K H ρ y dy) (e : inS dx dy S = some b) (q : Q (R b) H) : wpAny (model X.prog X.w) X.A (compareOp op v u) (EP X pins σ Q) X.xe s := by
  unfold inS at e
  split at e
  · split at e
    · rename_i hf
      cases ay with
      | tup ht l =>
        obtain ⟨a, b, c⟩ := anyFl_at ax _ _ _ l e
        exact o1 pins s σ H _ _ v u Q I rx ry ⟨_, _, rfl, .inr ht, flD_at ax hf, b, by rw [c]; exact q⟩
    · cases e
  · split at e
    · rename_i ds hs
      cases ay with
      | ref hi =>
        obtain ⟨vs, e1, l⟩ := rs.lst hi hs
        split at e
        · rename_i hf
          obtain ⟨a, b, c⟩ := anyFl_at ax _ _ _ l e
          exact o1 pins s σ H _ _ v u Q I rx ry ⟨_, _, rfl, .inl (.of e1), flD_at ax hf, b, by rw [c]; exact q⟩
        · unfold inP at e
          split at e
          · rename_i p ps hp hps
            split at e
            · rename_i hsh
              rw [Bool.and_eq_true] at hsh
              cases e
              rw [anyF_of ps hsh.2] at q
              exact o2 pins s σ H _ _ v u Q I rx ry ⟨p, ps, dp_of rs _ _ _ _ ax hp, dp_of rs _ _ _ _ (.ref hi) hps, shP_shaped hsh.1, shP_shaped hsh.2, q⟩
            · cases e
          · cases e
    · cases e
  · cases e
theorem or_in (hu : X.A.units + 65 < cLine) : OpR X (compareOp .In) (rD X.prog X.w X.K gIn) := by
  intro pins s σ H x y v u Q I rx ry h
  obtain ⟨dx, dy, ρ, S, d, S', rs, ax, ay, e, q⟩ := h
  unfold gIn at e
  split at e
  · rename_i b hb
    cases e
    exact inS_run (R := V.bl) hu rs op_in_seq (op_inD hu) I rx ry ax ay hb (q _ H ρ Ext.refl rs (.bl b))
  · cases e
theorem or_notIn (hu : X.A.units + 65 < cLine) : OpR X (compareOp .NotIn) (rD X.prog X.w X.K gNotIn) := by
  intro pins s σ H x y v u Q I rx ry h
  obtain ⟨dx, dy, ρ, S, d, S', rs, ax, ay, e, q⟩ := h
  unfold gNotIn at e
  split at e
  · rename_i b hb
    cases e
    exact inS_run (R := fun b => V.bl (!b)) hu rs op_notIn_seq (op_notInD hu) I rx ry ax ay hb (q _ H ρ Ext.refl rs (.bl _))
  · cases e
/-! items -/
theorem atI_at (l : AtL K H ρ vs ds) {i : Int} (e : atI ds i = some d) : ∃ v, atI vs i = some v ∧ At K H ρ v d := by
  unfold atI at e ⊢
  rw [l.length]
  cases h : ixN ds.length i with
  | none => rw [h] at e; cases e
  | some j =>
    rw [h] at e
    exact l.get e
theorem ir_seq : IxR X (rD X.prog X.w X.K gIx) := by
  intro value slice pins s σ H x y v u Q I rx ry h hs0
  obtain ⟨dx, dy, ρ, S, d, S', rs, ax, ay, e, q⟩ := h
  unfold gIx at e
  split at e
  · split at e
    · rename_i d' hd
      cases e
      cases ay
      cases ax with
      | tup ht l =>
        obtain ⟨v', e1, a1⟩ := atI_at l hd
        exact ix_tup value slice pins s σ H _ _ v u Q I rx ry ⟨_, _, _, _, rfl, rfl, ht, e1, q _ H ρ Ext.refl rs a1.wk⟩ hs0
    · cases e
  · split at e
    · rename_i ds hs
      split at e
      · rename_i d' hd
        cases e
        cases ay
        cases ax with
        | ref hi =>
          obtain ⟨vs, e0, l⟩ := rs.lst hi hs
          obtain ⟨v', e1, a1⟩ := atI_at l hd
          exact ix_list value slice pins s σ H _ _ v u Q I rx ry ⟨_, _, _, _, rfl, rfl, .of e0, e1, q _ H ρ Ext.refl rs a1.wk⟩ hs0
      · cases e
    · cases e
  · cases e
theorem ce_ix {a b : Expr} {fa fb : FE} {pos : Pos} (ha : CE X a fa) (hb : CE X b fb) (hs : PlainIx b := by intro _ _; rfl) : CE X (.Subscript a b pos) (e2 gIx fa fb) :=
  PE.le (pe_ix ir_seq ha hb hs) fun σ H Q h => t2 h fun _ _ _ q => q
/-! calls of built-in things -/
theorem al1 {xs : List V} (h : AtL K H ρ xs [d]) : ∃ x, xs = [x] ∧ At K H ρ x d := by
  cases h with
  | cons h1 h2 => cases h2; exact ⟨_, rfl, h1⟩
theorem al2 {xs : List V} (h : AtL K H ρ xs [dx, dy]) : ∃ x y, xs = [x, y] ∧ At K H ρ x dx ∧ At K H ρ y dy := by
  cases h with
  | cons h1 h2 =>
    obtain ⟨y, rfl, h3⟩ := al1 h2
    exact ⟨_, y, rfl, h1, h3⟩
theorem g1_of {f : D → Sto → Option (D × Sto)} (e : g1 f ds S = some (d, S')) : ∃ x, ds = [x] ∧ f x S = some (d, S') := by
  unfold g1 at e
  split at e
  · exact ⟨_, rfl, e⟩
  · cases e
theorem g2_of {f : D → D → Sto → Option (D × Sto)} (e : g2 f ds S = some (d, S')) : ∃ x y, ds = [x, y] ∧ f x y S = some (d, S') := by
  unfold g2 at e
  split at e
  · exact ⟨_, _, rfl, e⟩
  · cases e
theorem cr_len : CallR X (.builtin "len") (rC X.prog X.w X.K (g1 gLen)) := by
  intro pins s σ H xs us Q I r h
  obtain ⟨ds, ρ, S, d, S', rs, al, e, q⟩ := h
  have e1 := g1_of e
  clear e
  obtain ⟨x, rfl, e⟩ := e1
  obtain ⟨v, rfl, av⟩ := al1 al
  unfold gLen at e
  split at e
  · cases e
    cases av with
    | tup ht l =>
      refine call_len_seq pins s σ H _ us Q I r ⟨_, _, rfl, .inr ht, ?_⟩
      rw [l.length]
      exact q _ H ρ Ext.refl rs (.int _)
  · split at e
    · rename_i ds hs
      cases e
      cases av with
      | ref hi =>
        obtain ⟨vs, e0, l⟩ := rs.lst hi hs
        refine call_len_seq pins s σ H _ us Q I r ⟨_, _, rfl, .inl (.of e0), ?_⟩
        rw [l.length]
        exact q _ H ρ Ext.refl rs (.int _)
    · cases e
  · cases e
theorem cr_tuple : CallR X (.type "tuple") (rC X.prog X.w X.K (g1 gTupOf)) := by
  intro pins s σ H xs us Q I r h
  obtain ⟨ds, ρ, S, d, S', rs, al, e, q⟩ := h
  have e1 := g1_of e
  clear e
  obtain ⟨x, rfl, e⟩ := e1
  obtain ⟨v, rfl, av⟩ := al1 al
  unfold gTupOf at e
  split at e
  · cases e
    cases av with
    | tup ht l => exact call_tuple_of pins s σ H _ us Q I r ⟨_, _, rfl, .inr ⟨ht, q _ H ρ Ext.refl rs (.tup ht l)⟩⟩
  · split at e
    · rename_i ds hs
      cases av with
      | ref hi =>
        obtain ⟨vs, e0, l⟩ := rs.lst hi hs
        exact call_tuple_of pins s σ H _ us Q I r ⟨_, _, rfl, .inl ⟨.of e0, fun p hp => dTup_ok rs l e hp q⟩⟩
    · cases e
  · cases e
theorem cr_list : CallR X (.type "list") (rC X.prog X.w X.K (g1 gLstOf)) := by
  intro pins s σ H xs us Q I r h
  obtain ⟨ds, ρ, S, d, S', rs, al, e, q⟩ := h
  have e1 := g1_of e
  clear e
  obtain ⟨x, rfl, e⟩ := e1
  obtain ⟨v, rfl, av⟩ := al1 al
  unfold gLstOf at e
  split at e
  · cases av with
    | tup ht l => exact call_list_of pins s σ H _ us Q I r ⟨_, _, rfl, .inr ht, fun p hp => dLst_ok rs l e hp q⟩
  · split at e
    · rename_i ds hs
      cases av with
      | ref hi =>
        obtain ⟨vs, e0, l⟩ := rs.lst hi hs
        exact call_list_of pins s σ H _ us Q I r ⟨_, _, rfl, .inl (.of e0), fun p hp => dLst_ok rs l e hp q⟩
    · cases e
  · cases e
theorem lstAt_of (rs : RS P w K H ρ S) (av : At K H ρ x d) (e : lstAt d S = some ds) : ∃ a vs, x = .ref a ∧ H a = some (.lst vs) ∧ AtL K H ρ vs ds := by
  unfold lstAt at e
  split at e
  · split at e
    · rename_i hs
      cases e
      cases av with
      | ref hi =>
        obtain ⟨vs, e0, l⟩ := rs.lst hi hs
        exact ⟨_, vs, rfl, e0, l⟩
    · cases e
  · cases e
theorem mapO_bl : ∀ {ds : List D} {vs : List V} {bs : List Bool}, AtL K H ρ vs ds → mapO blO ds = some bs → vs = bs.map V.bl
  | [], _, _, h, e => by
    cases h
    cases e
    rfl
  | d :: ds, _, _, h, e => by
    cases h with
    | cons h1 h2 =>
      unfold mapO at e
      split at e
      · rename_i b hb
        split at e
        · rename_i bs hbs
          cases e
          unfold blO at hb
          split at hb
          · cases hb
            cases h1
            rw [mapO_bl h2 hbs]
            rfl
          · cases hb
        · cases e
      · cases e
theorem mapO_int : ∀ {ds : List D} {vs : List V} {bs : List Int}, AtL K H ρ vs ds → mapO intO ds = some bs → vs = bs.map V.int
  | [], _, _, h, e => by
    cases h
    cases e
    rfl
  | d :: ds, _, _, h, e => by
    cases h with
    | cons h1 h2 =>
      unfold mapO at e
      split at e
      · rename_i b hb
        split at e
        · rename_i bs hbs
          cases e
          unfold intO at hb
          split at hb
          · cases hb
            cases h1
            rw [mapO_int h2 hbs]
            rfl
          · cases hb
        · cases e
      · cases e
theorem cr_any (hc : X.calm = true) : CallR X (.builtin "any") (rC X.prog X.w X.K (g1 gAny)) := by
  intro pins s σ H xs us Q I r h
  obtain ⟨ds, ρ, S, d, S', rs, al, e, q⟩ := h
  have e1 := g1_of e
  clear e
  obtain ⟨x, rfl, e⟩ := e1
  obtain ⟨v, rfl, av⟩ := al1 al
  unfold gAny at e
  split at e
  · rename_i ds hl
    split at e
    · rename_i bs hb
      cases e
      obtain ⟨a, vs, rfl, e0, l⟩ := lstAt_of rs av hl
      refine L2.cr_any hc pins s σ H _ us Q I r ⟨a, bs, rfl, ?_, q _ H ρ Ext.refl rs (.bl _)⟩
      rw [← mapO_bl l hb]
      exact .of e0
    · cases e
  · cases e
theorem cr_all (hc : X.calm = true) : CallR X (.builtin "all") (rC X.prog X.w X.K (g1 gAll)) := by
  intro pins s σ H xs us Q I r h
  obtain ⟨ds, ρ, S, d, S', rs, al, e, q⟩ := h
  have e1 := g1_of e
  clear e
  obtain ⟨x, rfl, e⟩ := e1
  obtain ⟨v, rfl, av⟩ := al1 al
  unfold gAll at e
  split at e
  · rename_i ds hl
    split at e
    · rename_i bs hb
      cases e
      obtain ⟨a, vs, rfl, e0, l⟩ := lstAt_of rs av hl
      refine L2.cr_all hc pins s σ H _ us Q I r ⟨a, bs, rfl, ?_, q _ H ρ Ext.refl rs (.bl _)⟩
      rw [← mapO_bl l hb]
      exact .of e0
    · cases e
  · cases e
theorem cr_sum (hc : X.calm = true) : CallR X (.builtin "sum") (rC X.prog X.w X.K (g1 gSum)) := by
  intro pins s σ H xs us Q I r h
  obtain ⟨ds, ρ, S, d, S', rs, al, e, q⟩ := h
  have e1 := g1_of e
  clear e
  obtain ⟨x, rfl, e⟩ := e1
  obtain ⟨v, rfl, av⟩ := al1 al
  unfold gSum at e
  split at e
  · rename_i ds hl
    split at e
    · rename_i bs hb
      cases e
      obtain ⟨a, vs, rfl, e0, l⟩ := lstAt_of rs av hl
      refine L2.cr_sum hc pins s σ H _ us Q I r ⟨a, bs, rfl, ?_, q _ H ρ Ext.refl rs (.int _)⟩
      rw [← mapO_int l hb]
      exact .of e0
    · cases e
  · cases e
theorem cr_min (hc : X.calm = true) : CallR X (.builtin "min") (rC X.prog X.w X.K (g2 gMin)) := by
  intro pins s σ H xs us Q I r h
  obtain ⟨ds, ρ, S, d, S', rs, al, e, q⟩ := h
  have e1 := g2_of e
  clear e
  obtain ⟨x, y, rfl, e⟩ := e1
  obtain ⟨v, u, rfl, av, au⟩ := al2 al
  unfold gMin at e
  split at e
  · cases e
    cases av
    cases au
    exact call_min2 hc pins s σ H _ us Q I r ⟨_, _, rfl, q _ H ρ Ext.refl rs (.int _)⟩
  · cases e
theorem cr_max (hc : X.calm = true) : CallR X (.builtin "max") (rC X.prog X.w X.K (g2 gMax)) := by
  intro pins s σ H xs us Q I r h
  obtain ⟨ds, ρ, S, d, S', rs, al, e, q⟩ := h
  have e1 := g2_of e
  clear e
  obtain ⟨x, y, rfl, e⟩ := e1
  obtain ⟨v, u, rfl, av, au⟩ := al2 al
  unfold gMax at e
  split at e
  · cases e
    cases av
    cases au
    exact call_max2 hc pins s σ H _ us Q I r ⟨_, _, rfl, q _ H ρ Ext.refl rs (.int _)⟩
  · cases e
theorem cr_int : CallR X (.type "int") (rC X.prog X.w X.K (g1 gInt)) := by
  intro pins s σ H xs us Q I r h
  obtain ⟨ds, ρ, S, d, S', rs, al, e, q⟩ := h
  have e1 := g1_of e
  clear e
  obtain ⟨x, rfl, e⟩ := e1
  obtain ⟨v, rfl, av⟩ := al1 al
  unfold gInt at e
  split at e
  · cases e
    cases av
    exact call_int1 pins s σ H _ us Q I r (.inl ⟨_, rfl, q _ H ρ Ext.refl rs (.int _)⟩)
  · cases e
    cases av
    exact call_int1 pins s σ H _ us Q I r (.inr ⟨_, rfl, q _ H ρ Ext.refl rs (.int _)⟩)
  · cases e
section
variable {x : Str} {p pos : Pos} {e : Expr} {es : List Expr} {fr : FA} {id T : String} {g : List D → Sto → Option (D × Sto)}
theorem ce_callB (hc : CallR X (.builtin id) (rC X.prog X.w X.K g)) (hg : Gl X x) (hm : X.mg x = none) (hv : bootBuiltins x = some (.builtin id)) (ha : CA X (e :: es) fr) (hn : x ≠ "__name__" := by decide) (hdb : (x == ("__debug__" : Str)) = false := by decide)
    (he : starEach (e :: es) X.env = (false, eval e X.env) :: starEach es X.env := by rfl) (hpl : (backTo pos (starEach es X.env)).any (·.1) = false := by rfl) : CE X (.Call (.Name x p) (e :: es) [] pos) (eN g fr) :=
  PE.le (pe_callB hc hg hm hv ha hn hdb he hpl) fun σ H Q h => tN h fun _ _ q => q
theorem ce_callTy (hc : CallR X (.type T) (rC X.prog X.w X.K g)) (hg : Gl X x) (hm : X.mg x = none) (hv : bootBuiltins x = some (.type T)) (ha : CA X (e :: es) fr) (hn : x ≠ "__name__" := by decide) (hdb : (x == ("__debug__" : Str)) = false := by decide)
    (he : starEach (e :: es) X.env = (false, eval e X.env) :: starEach es X.env := by rfl) (hpl : (backTo pos (starEach es X.env)).any (·.1) = false := by rfl) : CE X (.Call (.Name x p) (e :: es) [] pos) (eN g fr) :=
  PE.le (pe_callTy hc hg hm hv ha hn hdb he hpl) fun σ H Q h => tN h fun _ _ q => q
end
end
end K50
set_option Elab.async false
set_option linter.all false
set_option maxRecDepth 100000
set_option maxHeartbeats 4000000
namespace K50
open PySem PySem.Spec PyProof.Rows L2

/-! ### isinstance, list(range(..)), slices -/
/-- the value's class -/
def tyD (d : D) (S : Sto) : Option String := match d with
  | .non => some "NoneType"
  | .bl _ => some "bool"
  | .int _ => some "int"
  | .str _ => some "str"
  | .tup _ => some "tuple"
  | .tpl _ => none
  | .obj _ => none
  | .ref r => match S[r]? with
    | some (.lst _) => some "list"
    | _ => none
def eIsi (k : Kd) (fa : FE) : FE := e1 (gIsK k) fa
def kdTy : Kd → String
  | .int => "int"
  | .bool => "bool"
  | .str => "str"
  | .tup => "tuple"
  | .seq => "list"
theorem kd_int : kitB "int" "int" = some true ∧ kitB "bool" "int" = some true ∧ kitB "NoneType" "int" = some false ∧ kitB "str" "int" = some false ∧ kitB "tuple" "int" = some false := by decide +kernel
theorem kd_bool : kitB "bool" "bool" = some true ∧ kitB "int" "bool" = some false ∧ kitB "NoneType" "bool" = some false ∧ kitB "str" "bool" = some false := by decide +kernel
theorem kd_str : kitB "str" "str" = some true ∧ kitB "int" "str" = some false ∧ kitB "bool" "str" = some false ∧ kitB "NoneType" "str" = some false := by decide +kernel
theorem kd_tup : kitB "tuple" "tuple" = some true ∧ kitB "int" "tuple" = some false ∧ kitB "NoneType" "tuple" = some false ∧ kitB "list" "tuple" = some false := by decide +kernel
theorem kd_list : kitB "tuple" "list" = some false ∧ kitB "int" "list" = some false ∧ kitB "NoneType" "list" = some false ∧ kitB "list" "list" = some true := by decide +kernel
section
variable {X : Cx}
variable {P : Program} {w : World} {K : PySem.W.Frag} {H : Hp} {ρ : List Addr} {S S' : Sto} {x y : V} {dx dy d : D} {Q : VK} {vs : List V} {ds : List D}
theorem sqT_ty {a : Addr} (h : SqT K H a vs) : TyX K H (.ref a) (.type "tuple") := by
  rcases h with (h | ⟨o, h⟩) | ⟨o, its, n, h1, h2, _⟩
  · exact .base (.tup h)
  · exact .fTuple h
  · exact .kTuple h1 h2
theorem ty_at (rs : RS P w K H ρ S) (h : At K H ρ x d) {t : String} (e : tyD d S = some t) : TyX K H x (.type t) := by
  cases h with
  | non => cases e; exact .base .non
  | bl b => cases e; exact .base (.bl b)
  | int i => cases e; exact .base (.int i)
  | str x => cases e; exact .base (.str x)
  | tup ht l => cases e; exact sqT_ty ht
  | tpl ht l => cases e
  | obj a => cases e
  | ref hi =>
    unfold tyD at e
    simp only at e
    split at e
    · rename_i ds hs
      cases e
      obtain ⟨vs, e0, l⟩ := rs.lst hi hs
      exact .base (.lst e0)
    · cases e
theorem isK_kit {k : Kd} {b : Bool} (hk : k ≠ .seq) (e : isK k d S = some b) : ∃ t, tyD d S = some t ∧ kitB t (kdTy k) = some b := by
  obtain ⟨i1, i2, i3, i4, i5⟩ := kd_int
  obtain ⟨b1, b2, b3, b4⟩ := kd_bool
  obtain ⟨s1, s2, s3, s4⟩ := kd_str
  obtain ⟨t1, t2, t3, t4⟩ := kd_tup
  unfold isK at e
  split at e <;> first
    | (cases e; exact ⟨_, rfl, by assumption⟩)
    | (exact absurd rfl hk)
    | cases e
theorem ce_isi {e : Expr} {fa : FE} {tn : Str} {p p2 pos : Pos} (k : Kd) (hk : k ≠ .seq) (hg : Gl X "isinstance") (hm : X.mg "isinstance" = none) (ha : CE X e fa) (hg2 : Gl X tn) (hm2 : X.mg tn = none) (hv2 : bootBuiltins tn = some (.type (kdTy k)))
    (hn : tn ≠ "__name__" := by decide) (hd : (tn == ("__debug__" : Str)) = false := by decide)
    (h1 : starEach [e, .Name tn p2] X.env = (false, eval e X.env) :: starEach [.Name tn p2] X.env := by rfl) (h2 : starEach [.Name tn p2] X.env = (false, eval (.Name tn p2) X.env) :: starEach [] X.env := by rfl)
    (hpl : (backTo pos (starEach [.Name tn p2] X.env)).any (·.1) = false := by rfl) : CE X (.Call (.Name "isinstance" p) [e, .Name tn p2] [] pos) (eIsi k fa) := by
  refine PE.le (pe_callB call_isi hg hm (by decide +kernel) (pa_cons ha (pa_cons (pe_bltn (v := .ty (kdTy k)) hg2 hm2 hv2 rfl hn hd) pa_nil h2) h1) (by decide) (by decide) h1 hpl) fun σ H Q h => ?_
  obtain ⟨τ, ρ, S, d, S', rs, sr, e, q⟩ := h
  unfold eIsi e1 at e
  split at e
  · rename_i z S1 ez
    unfold gIsK at e
    split at e
    · rename_i b hb
      cases e
      refine ⟨τ, ρ, S, z, _, rs, sr, ez, fun v H1 ρ1 x1 rs1 a1 => ?_⟩
      obtain ⟨t, ht, hkb⟩ := isK_kit hk hb
      exact ⟨v, .ty (kdTy k), .type t, .type (kdTy k), b, rfl, .ty _, ty_at rs1 a1 ht, kit_ty hkb, q _ H1 ρ1 x1 rs1 (.bl b)⟩
    · cases e
  · cases e
theorem isSeq_kit {b : Bool} (e : isK .seq d S = some b) : ∃ t b1 b2, tyD d S = some t ∧ kitB t "list" = some b1 ∧ kitB t "tuple" = some b2 ∧ b = (b1 || b2) := by
  obtain ⟨t1, t2, t3, t4⟩ := kd_tup
  obtain ⟨l1, l2, l3, l4⟩ := kd_list
  unfold isK at e
  split at e <;> first
    | (rename_i h; cases h; done)
    | (cases e; exact ⟨_, _, _, rfl, by assumption, by assumption, rfl⟩)
    | skip
  · split at e
    · rename_i hs
      cases e
      refine ⟨"list", true, false, ?_, l4, t4, rfl⟩
      unfold tyD
      simp only [hs]
    · cases e
  · cases e
theorem ce_isSeq {e : Expr} {fa : FE} {p p2 p3 p4 pos : Pos} {kk : Nat} (hg : Gl X "isinstance") (hm : X.mg "isinstance" = none) (ha : CE X e fa) (hg2 : Gl X "list") (hm2 : X.mg "list" = none) (hg3 : Gl X "tuple") (hm3 : X.mg "tuple" = none)
    (h1 : starEach [e, .Tuple [.Name "list" p2, .Name "tuple" p3] kk p4] X.env = (false, eval e X.env) :: starEach [.Tuple [.Name "list" p2, .Name "tuple" p3] kk p4] X.env := by rfl)
    (h2 : starEach [.Tuple [.Name "list" p2, .Name "tuple" p3] kk p4] X.env = (false, eval (.Tuple [.Name "list" p2, .Name "tuple" p3] kk p4) X.env) :: starEach [] X.env := by rfl)
    (hpl : (backTo pos (starEach [.Tuple [.Name "list" p2, .Name "tuple" p3] kk p4] X.env)).any (·.1) = false := by rfl) : CE X (.Call (.Name "isinstance" p) [e, .Tuple [.Name "list" p2, .Name "tuple" p3] kk p4] [] pos) (eIsi .seq fa) := by
  refine PE.le (pe_callB call_isiT hg hm (by decide +kernel) (pa_cons ha (pa_cons (pe_tup (pa_cons (pe_bltn (v := .ty "list") hg2 hm2 (by decide +kernel) rfl) (pa_cons (pe_bltn (v := .ty "tuple") hg3 hm3 (by decide +kernel) rfl) pa_nil))) pa_nil h2) h1) (by decide) (by decide) h1 hpl) fun σ H Q h => ?_
  obtain ⟨τ, ρ, S, d, S', rs, sr, e, q⟩ := h
  unfold eIsi e1 at e
  split at e
  · rename_i z S1 ez
    unfold gIsK at e
    split at e
    · rename_i b hb
      cases e
      refine ⟨τ, ρ, S, z, _, rs, sr, ez, fun v H1 ρ1 x1 rs1 a1 => ?_⟩
      obtain ⟨t, b1, b2, ht, hl, htp, e3⟩ := isSeq_kit hb
      refine ⟨by show 2 ≤ sizeLine; decide, fun tp htp0 => ?_⟩
      obtain ⟨rs2, x2⟩ := rs1.new (o := .tup [.ty "list", .ty "tuple"]) htp0
      refine ⟨v, tp, [.ty "list", .ty "tuple"], .type t, [.type "list", .type "tuple"], b, rfl, upd_same, .cons (.ty _) (.cons (.ty _) .nil), ty_at rs2 (At.kp (rs1.kp x2) _ _ a1) ht, ?_, q _ _ ρ1 (x1.trans x2) rs2 (.bl b)⟩
      refine kitAny_cons (kit_ty hl) (fun hb1 => ?_) (fun hb1 => by rw [e3, hb1]; rfl)
      refine kitAny_cons (kit_ty htp) (fun hb2 => ?_) (fun hb2 => by rw [e3, hb2, Bool.or_true])
      rw [e3, hb1, hb2]
      exact kitAny_nil
    · cases e
  · cases e
/-! list(range(..)) -/
theorem rg_at (a b : Int) : AtL K H ρ (rgV a b) (rgD a b) := by
  unfold rgV rgD
  generalize List.range (b - a).toNat = l
  induction l with
  | nil => exact .nil
  | cons i r ih => exact .cons (.int _) ih
theorem rgL_ok {Q : VK} (rs : RS P w K H ρ S) {a b : Int} (e : gRgL (.int a) (.int b) S = some (d, S')) (q : WE P w K H ρ S' d Q) : RgOk a b ∧ ∀ p, H p = none → Q (.ref p) (upd H p (.lst (rgV a b))) := by
  unfold gRgL at e
  simp only at e
  split at e
  · rename_i hc
    simp only [Bool.and_eq_true, decide_eq_true_eq] at hc
    obtain ⟨⟨⟨h1, h2⟩, h3⟩, h4⟩ := hc
    exact ⟨⟨by omega, by omega, by omega, by omega, by omega⟩, fun p hp => dLst_ok rs (rg_at a b) e hp q⟩
  · cases e
theorem gRgL_int (e : gRgL dx dy S = some (d, S')) : ∃ a b, dx = .int a ∧ dy = .int b := by
  unfold gRgL at e
  split at e
  · exact ⟨_, _, rfl, rfl⟩
  · cases e
def gRgL1 (x : D) (S : Sto) : Option (D × Sto) := gRgL (.int 0) x S
theorem ce_listRg2 {a b : Expr} {fa fb : FE} {p p2 pos pos2 : Pos} (hc : X.calm = true) (hg : Gl X "list") (hm : X.mg "list" = none) (hg2 : Gl X "range") (hm2 : X.mg "range" = none) (ha : CE X a fa) (hb : CE X b fb)
    (na : starEach [a, b] X.env = (false, eval a X.env) :: starEach [b] X.env := by rfl) (nb : starEach [b] X.env = (false, eval b X.env) :: starEach [] X.env := by rfl)
    (ne : starEach [.Call (.Name "range" p2) [a, b] [] pos2] X.env = (false, eval (.Call (.Name "range" p2) [a, b] [] pos2) X.env) :: starEach [] X.env := by rfl) :
    CE X (.Call (.Name "list" p) [.Call (.Name "range" p2) [a, b] [] pos2] [] pos) (e2 gRgL fa fb) := by
  refine PE.le (pe_listRg hc hg hm (prg_2 hg2 hm2 ha hb na nb (by rw [nb]; rfl)) ne) fun σ H Q h => ?_
  refine t2 h fun x y H2 q => ?_
  obtain ⟨dx, dy, ρ, S, d, S', rs, ax, ay, e, q⟩ := q
  obtain ⟨i, j, rfl, rfl⟩ := gRgL_int e
  cases ax
  cases ay
  exact ⟨i, j, rfl, rfl, rgL_ok rs e q⟩
theorem t1 {g : D → Sto → Option (D × Sto)} {fa : FE} {σ : L2.St} {H : Hp} {Q : VK} (h : tE P w K (e1 g fa) σ H Q) {R : V → Hp → Prop} (r : ∀ x H1, (∃ dx ρ S d S', RS P w K H1 ρ S ∧ At K H1 ρ x dx ∧ g dx S = some (d, S') ∧ WE P w K H1 ρ S' d Q) → R x H1) : tE P w K fa σ H R := by
  obtain ⟨τ, ρ, S, d, S', rs, sr, e, q⟩ := h
  unfold e1 at e
  split at e
  · rename_i x S1 ea
    exact ⟨τ, ρ, S, x, S1, rs, sr, ea, fun v H1 ρ1 x1 rs1 a1 => r v H1 ⟨x, ρ1, S1, d, S', rs1, a1, e, q.to x1⟩⟩
  · cases e
theorem ce_listRg1 {a : Expr} {fa : FE} {p p2 pos pos2 : Pos} (hc : X.calm = true) (hg : Gl X "list") (hm : X.mg "list" = none) (hg2 : Gl X "range") (hm2 : X.mg "range" = none) (ha : CE X a fa)
    (na : starEach [a] X.env = (false, eval a X.env) :: starEach [] X.env := by rfl)
    (ne : starEach [.Call (.Name "range" p2) [a] [] pos2] X.env = (false, eval (.Call (.Name "range" p2) [a] [] pos2) X.env) :: starEach [] X.env := by rfl) :
    CE X (.Call (.Name "list" p) [.Call (.Name "range" p2) [a] [] pos2] [] pos) (e1 gRgL1 fa) := by
  refine PE.le (pe_listRg hc hg hm (prg_1 hg2 hm2 ha na) ne) fun σ H Q h => ?_
  refine t1 h fun x H2 q => ?_
  obtain ⟨dx, ρ, S, d, S', rs, ax, e, q⟩ := q
  obtain ⟨i, j, h1, rfl⟩ := gRgL_int (show gRgL (.int 0) dx S = some (d, S') from e)
  cases ax
  exact ⟨j, rfl, rgL_ok rs (show gRgL (.int 0) (.int j) S = some (d, S') from e) q⟩
/-! slices -/
abbrev FO := Sl → Sto → Option (Option Int × Sto)
def oNone : FO := fun _ S => some (none, S)
def oSome (f : FE) : FO := fun τ S => match f τ S with
  | some (.int i, S1) => some (some i, S1)
  | _ => none
def gSl (x : D) (lo hi : Option Int) (S : Sto) : Option (D × Sto) := match x with
  | .tup ds => dTup (cutD ds lo hi) S
  | .ref r => match S[r]? with
    | some (.lst ds) => dLst (cutD ds lo hi) S
    | _ => none
  | _ => none
def eSl (fa : FE) (fl fh : FO) : FE := fun τ S => match fa τ S with
  | some (x, S1) => match fl τ S1 with
    | some (l, S2) => match fh τ S2 with
      | some (h, S3) => gSl x l h S3
      | none => none
    | none => none
  | none => none
def tOo (P : Program) (w : World) (K : PySem.W.Frag) (f : FO) : TO := fun σ H Q => ∃ τ ρ S o S', RS P w K H ρ S ∧ SR K H ρ σ τ ∧ f τ S = some (o, S') ∧ ∀ H' ρ', Ext H ρ H' ρ' → RS P w K H' ρ' S' → Q o H'
theorem PO.le {e : Option Expr} {t t' : TO} (h : PO X e t) (s : ∀ σ H Q, t' σ H Q → t σ H Q) : PO X e t' := ⟨fun pins sh σ H Q I q => h.run pins sh σ H Q I (s σ H Q q)⟩
theorem co_none : PO X none (tOo X.prog X.w X.K oNone) := by
  refine PO.le po_none fun σ H Q h => ?_
  obtain ⟨τ, ρ, S, d, S', rs, sr, e, q⟩ := h
  cases e
  exact q H ρ Ext.refl rs
theorem co_some {e : Expr} {f : FE} (h : CE X e f) : PO X (some e) (tOo X.prog X.w X.K (oSome f)) := by
  refine PO.le (po_some h) fun σ H Q h => ?_
  obtain ⟨τ, ρ, S, o, S', rs, sr, e, q⟩ := h
  unfold oSome at e
  split at e
  · rename_i i S1 he
    cases e
    refine ⟨τ, ρ, S, .int i, _, rs, sr, he, fun v H1 ρ1 x1 rs1 a1 => ?_⟩
    cases a1
    exact ⟨i, rfl, q H1 ρ1 x1 rs1⟩
  · cases e
theorem AtL.cut (l : AtL K H ρ vs ds) (lo hi : Option Int) : AtL K H ρ (cutV vs lo hi) (cutD ds lo hi) := by
  unfold cutV cutD
  rw [l.length]
  exact (l.drop _).take _
theorem cut_whole {α : Type} (xs : List α) {lo hi : Option Int} (h : HT.sIx xs.length 0 lo = 0 ∧ HT.sIx xs.length xs.length hi = xs.length) : (xs.drop (HT.sIx xs.length 0 lo)).take (HT.sIx xs.length xs.length hi - HT.sIx xs.length 0 lo) = xs := by
  rw [h.1, h.2]
  simp
def rSlD (P : Program) (w : World) (K : PySem.W.Frag) : V → Option Int → Option Int → Hp → VK → Prop := fun x lo hi H Q => ∃ dx ρ S d S', RS P w K H ρ S ∧ At K H ρ x dx ∧ gSl dx lo hi S = some (d, S') ∧ WE P w K H ρ S' d Q
theorem sl_seq : SlR X (rSlD X.prog X.w X.K) := by
  intro pins s σ H x v vl vu lo hi sl Q I rx hs pl pu h
  obtain ⟨dx, ρ, S, d, S', rs, ax, e, q⟩ := h
  unfold gSl at e
  split at e
  · cases ax with
    | tup ht l =>
      refine sl_tupA pins s σ H _ v vl vu lo hi sl Q I rx hs pl pu ⟨_, _, rfl, ht, fun hw => ?_, fun _ p hp => dTup_ok rs (l.cut lo hi) e hp q⟩
      rw [l.length] at hw
      have hc := cut_whole _ hw
      unfold cutD at e
      rw [hc] at e
      exact dTup_same rs e (.tup ht l) q
  · split at e
    · rename_i ds hs'
      cases ax with
      | ref hi' =>
        obtain ⟨vs, e0, l⟩ := rs.lst hi' hs'
        exact sl_list pins s σ H _ v vl vu lo hi sl Q I rx hs pl pu ⟨_, _, rfl, .of e0, fun p hp => dLst_ok rs (l.cut lo hi) e hp q⟩
    · cases e
  · cases e
theorem ce_sl {e : Expr} {lo hi : Option Expr} {fa : FE} {fl fh : FO} {p2 pos : Pos} (ha : CE X e fa) (hl : PO X lo (tOo X.prog X.w X.K fl)) (hh : PO X hi (tOo X.prog X.w X.K fh)) : CE X (.Subscript e (.Slice lo hi none p2) pos) (eSl fa fl fh) := by
  refine PE.le (pe_slice sl_seq ha hl hh) fun σ H Q h => ?_
  obtain ⟨τ, ρ, S, d, S', rs, sr, e, q⟩ := h
  unfold eSl at e
  split at e
  · rename_i x S1 ea
    split at e
    · rename_i l S2 eb
      split at e
      · rename_i h S3 ec
        refine ⟨τ, ρ, S, x, S1, rs, sr, ea, fun v H1 ρ1 x1 rs1 a1 => ⟨τ, ρ1, S1, l, S2, rs1, sr.ext rs x1, eb, fun H2 ρ2 x2 rs2 => ⟨τ, ρ2, S2, h, S3, rs2, (sr.ext rs x1).ext rs1 x2, ec, fun H3 ρ3 x3 rs3 => ?_⟩⟩⟩
        exact ⟨x, ρ3, S3, d, S', rs3, At.kp (rs2.kp x3) _ _ (At.kp (rs1.kp x2) _ _ a1), e, q.to ((x1.trans x2).trans x3)⟩
      · cases e
    · cases e
  · cases e
end
end K50
set_option Elab.async false
set_option linter.all false
set_option maxRecDepth 100000
set_option maxHeartbeats 4000000
namespace K50
open PySem PySem.Spec PyProof.Rows L2

/-! ### defs -/
def fnD (n m : Nat) (b : FS) : FF := fun ds S => if Nat.beq ds.length n then
    match b (ds.map some ++ List.replicate (m - n) none) S with
    | some (.rt d, S') => some (d, S')
    | some (.nx _, S') => some (.non, S')
    | _ => none
  else none
def noRef : Nat → D → Bool
  | 0, _ => false
  | n + 1, d => match d with
    | .ref _ => false
    | .tup ds => ds.all (noRef n)
    | .tpl ds => ds.all (noRef n)
    | .obj _ => false
    | _ => true
/-- a call that has a store of its own -/
def pureF (F : FF) : FF := fun ds S => if ds.all (noRef 14) then
    match F ds [] with
    | some (d, _) => if noRef 14 d then some (d, S) else none
    | none => none
  else none
def FLen (F : FF) (n : Nat) : Prop := ∀ ds S r, F ds S = some r → ds.length = n
def FLen.none (n : Nat) : FLen (fun _ _ => none) n := fun _ _ _ h => nomatch h
theorem FLen.fn {n m : Nat} {b : FS} : FLen (fnD n m b) n := fun ds S r h => by
  unfold fnD at h
  split at h
  · rename_i h1
    exact Nat.eq_of_beq_eq_true h1
  · cases h
theorem FLen.pure {n : Nat} {F : FF} (h : FLen F n) : FLen (pureF F) n := fun ds S r e => by
  unfold pureF at e
  split at e
  · split at e
    · rename_i d S1 h1
      exact h _ _ _ h1
    · cases e
  · cases e
def spF (P : Program) (w : World) (K : PySem.W.Frag) (n : Nat) (F : FF) : Sp := fun vs H Q _ => vs.length = n ∧ rC P w K F vs H Q
section
variable {P : Program} {w : World} {K : PySem.W.Frag} {mg : Str → Option Value} {base : Heap} {H H1 : Hp} {ρ ρ' : List Addr} {S S' : Sto} {x y : V} {dx dy d : D} {Q : VK} {vs : List V} {ds : List D}
mutual
theorem At.noref {ρ' : List Addr} : ∀ (n : Nat) (d : D) (v : V), noRef n d = true → At K H ρ v d → At K H ρ' v d
  | 0, _, _, h, _ => by cases h
  | n + 1, .non, _, _, h => by cases h; exact .non
  | n + 1, .bl b, _, _, h => by cases h; exact .bl b
  | n + 1, .int i, _, _, h => by cases h; exact .int i
  | n + 1, .str x, _, _, h => by cases h; exact .str x
  | n + 1, .tup ds, _, e, h => by
    cases h with
    | tup h1 h2 => exact .tup h1 (AtL.noref n ds _ e h2)
  | n + 1, .tpl ds, _, e, h => by
    cases h with
    | tpl h1 h2 => exact .tpl h1 (AtL.noref n ds _ e h2)
  | n + 1, .ref i, _, e, h => by cases e
  | n + 1, .obj i, _, e, h => by cases e
theorem AtL.noref {ρ' : List Addr} : ∀ (n : Nat) (ds : List D) (vs : List V), ds.all (noRef n) = true → AtL K H ρ vs ds → AtL K H ρ' vs ds
  | _, [], _, _, h => by cases h; exact .nil
  | n, d :: ds, _, e, h => by
    rw [List.all_cons, Bool.and_eq_true] at e
    cases h with
    | cons h1 h2 => exact .cons (At.noref n d _ e.1 h1) (AtL.noref n ds _ e.2 h2)
end
theorem RS.nil : RS P w K H [] [] := ⟨rfl, List.nodup_nil, fun i a o h => by simp at h⟩
/-- all that was tracked stands: the store stands -/
theorem RS.same (rs : RS P w K H ρ S) (h : ∀ b o, H b = some o → H1 b = some o) : RS P w K H1 ρ S ∧ Ext H ρ H1 ρ := by
  have ex : Ext H ρ H1 ρ := ⟨⟨[], by simp, fun _ h => by simp at h⟩, fun b u e _ => h b u e, fun b u e => ⟨u, h b u e⟩, fun b _ _ e => h b _ e⟩
  have kp := rs.kp ex
  refine ⟨⟨rs.len, rs.nd, fun i a ob h1 h2 => ?_⟩, ex⟩
  have q := rs.ob i a ob h1 h2
  have key : ∀ {k x}, KeyAt K H k x → KeyAt K H1 k x := fun {k x} ⟨a, b, c⟩ => ⟨a, kp.sqT b, c⟩
  cases ob with
  | lst ds =>
    obtain ⟨vs, e, z⟩ := q
    exact ⟨vs, h _ _ e, AtL.kp kp _ _ z⟩
  | dic ks =>
    obtain ⟨xs, e, z⟩ := q
    exact ⟨xs, h _ _ e, pimp z fun _ _ r => key r⟩
  | wdic ks =>
    obtain ⟨xs, o', e, z⟩ := q
    exact ⟨xs, o', h _ _ e, pimp z fun _ _ r => key r⟩
theorem pure_rC {F : FF} {xs : List V} (h : rC P w K (pureF F) xs H Q) : rC P w K F xs H Q := by
  obtain ⟨ds, ρ, S, d, S', rs, al, e, q⟩ := h
  unfold pureF at e
  split at e
  · rename_i h1
    split at e
    · rename_i d1 S1 h2
      split at e
      · rename_i h3
        cases e
        refine ⟨ds, [], [], d, S1, RS.nil, AtL.noref _ _ _ h1 al, h2, fun v H' ρ' x rs' a => ?_⟩
        obtain ⟨rs2, x2⟩ := rs.same (H1 := H') fun b o e => x.out b o e (by simp)
        exact q v H' ρ x2 rs2 (At.noref _ _ _ h3 a)
      · cases e
    · cases e
  · cases e
theorem start_sr {N : List Str} (l : AtL K H ρ vs ds) (n : Nat) (hn : ds.length = n) : SR K H ρ (L2.start N vs) (ds.map some ++ List.replicate (N.length - n) none) := by
  have hl := l.length
  refine ⟨?_, fun i d h => ?_⟩
  · unfold L2.start
    simp only [List.length_append, List.length_map, List.length_replicate]
    omega
  · by_cases hi : i < ds.length
    · rw [List.getElem?_append_left (by simpa using hi), List.getElem?_map] at h
      cases q : ds[i]? with
      | none => rw [q] at h; cases h
      | some d' =>
        rw [q] at h
        cases h
        obtain ⟨v, h1, h2⟩ := l.get q
        refine ⟨v, ?_, h2⟩
        unfold L2.start
        rw [List.getElem?_append_left (by rw [List.length_map]; omega), List.getElem?_map, h1]
        rfl
    · rw [List.getElem?_append_right (by simpa using hi), List.getElem?_replicate] at h
      split at h <;> cases h
/-- a def by its body's function -/
theorem fn_ok {x qual : Str} {st : Stmt} {f : Addr} {fd : FuncData} {N ps : List Str} {k : Nat} {b : FS} (F : Fun K x qual st f fd) (S : FnScope N ps (defScope st))
    (hb : ∀ (cdv : Value) (A : Around) (outer : List Env) (s : Shared) (H : Hp) (E : XK), Room k (A.deeper (envOfC qual (defScope st) s.heap.objs.size f cdv)) → CSs (cxOf CX0 P w K mg base N qual (defScope st) f cdv A outer s H E).nox (defBody st) b) :
    FnOk P w K mg base CX0 (k + 1) f fd ps (spF P w K ps.length (fnD ps.length N.length b)) := by
  refine F.ok S (fun vs H Q E h => h.1) fun cdv A outer s H vs Q E hr h => ⟨_, hb cdv A outer s H E hr, ?_⟩
  obtain ⟨hl, ds, ρ, S0, d, S', rs, al, e, q⟩ := h
  unfold fnD at e
  split at e
  · rename_i hn
    have hn := Nat.eq_of_beq_eq_true hn
    split at e
    · rename_i d1 S1 h1
      cases e
      exact ⟨_, ρ, S0, _, _, rs, start_sr al _ hn, h1, q⟩
    · rename_i τ1 S1 h1
      cases e
      exact ⟨_, ρ, S0, _, _, rs, start_sr al _ hn, h1, fun σ' H' ρ' x rs' _ => q .non H' ρ' x rs' .non⟩
    · cases e
  · cases e
end
section
variable {X : Cx} {k : Nat} {f : Addr} {fd : FuncData} {ps : List Str} {x : Str} {p pos : Pos} {e : Expr} {es : List Expr} {fr : FA} {F : FF} {n : Nat}
theorem ce_call (G : FnOk X.prog X.w X.K X.mg X.base CX0 k f fd ps (spF X.prog X.w X.K n F)) (hl : FLen F n) (hr : Room k X.A) (hg : Gl X x) (hm : X.mg x = some (.ref f)) (hk : PySem.W.keepIn X.K (.ref f) = true) (hb : Binds X.K fd ps [])
    (ha : CA X (e :: es) fr) (hdb : (x == ("__debug__" : Str)) = false := by decide) (he : starEach (e :: es) X.env = (false, eval e X.env) :: starEach es X.env := by rfl) (hpl : (backTo pos (starEach es X.env)).any (·.1) = false := by rfl) :
    CE X (.Call (.Name x p) (e :: es) [] pos) (eN F fr) := by
  refine PE.le (pe_call (dvs := []) G hr hg hm hk hb .nil pass0 ha hdb he hpl) fun σ H Q h => tN h fun xs H2 q => ?_
  rw [List.append_nil]
  refine ⟨?_, q⟩
  obtain ⟨ds, ρ, S, d, S', rs, al, e, q⟩ := q
  rw [al.length]
  exact hl _ _ _ e
theorem FnOk.pureF {P : Program} {w : World} {K : PySem.W.Frag} {mg : Str → Option Value} {base : Heap} (G : FnOk P w K mg base CX0 k f fd ps (spF P w K n F)) : FnOk P w K mg base CX0 k f fd ps (spF P w K n (pureF F)) :=
  G.imp fun _ _ _ _ h => ⟨h.1, pure_rC h.2⟩
end

/-! ### statements -/
def sNil : FS := fun τ S => some (.nx τ, S)
def sNever : FS := fun _ _ => none
def sSeq (f g : FS) : FS := fun τ S => match f τ S with
  | some (.nx τ1, S1) => g τ1 S1
  | r => r
def sSet (i : Nat) (f : FE) : FS := fun τ S => match f τ S with
  | some (d, S1) => some (.nx (τ.set i (some d)), S1)
  | none => none
def sExpr (f : FE) : FS := fun τ S => match f τ S with
  | some (_, S1) => some (.nx τ, S1)
  | none => none
def sRet (f : FE) : FS := fun τ S => match f τ S with
  | some (d, S1) => some (.rt d, S1)
  | none => none
def sIf (c : FB) (f g : FS) : FS := fun τ S => match c τ S with
  | some (true, S1) => f τ S1
  | some (false, S1) => g τ S1
  | none => none
def sBrk : FS := fun τ S => some (.bk τ, S)
/-- a, b, .. = e, e a tuple: the slots -/
def setAll : List Nat → List D → Sl → Option Sl
  | [], [], τ => some τ
  | i :: is, d :: ds, τ => setAll is ds (τ.set i (some d))
  | _, _, _ => none
def sTup (is : List Nat) (f : FE) : FS := fun τ S => match f τ S with
  | some (.tup ds, S1) => match setAll is ds τ with
    | some τ1 => some (.nx τ1, S1)
    | none => none
  | _ => none
/-- a, b = x, y -/
def sPar (i j : Nat) (f g : FE) : FS := fun τ S => match f τ S with
  | some (x, S1) => match g τ S1 with
    | some (y, S2) => some (.nx ((τ.set i (some x)).set j (some y)), S2)
    | none => none
  | none => none
def sAug (i : Nat) (g : D → D → Sto → Option (D × Sto)) (f : FE) : FS := fun τ S => match τ[i]? with
  | some (some x) => match f τ S with
    | some (y, S1) => match g x y S1 with
      | some (z, S2) => some (.nx (τ.set i (some z)), S2)
      | none => none
    | none => none
  | _ => none
section
variable {X : Cx} {st : Stmt} {rest : List Stmt} {f g : FS} {e : Expr} {fe : FE} {pos pos' : Pos} {i : Nat} {x : Str}
theorem WS.to {P : Program} {w : World} {K : PySem.W.Frag} {H H1 : Hp} {ρ ρ1 : List Addr} {S' : Sto} {fl : Fl} {D : Ends} (h : WS P w K H ρ S' D fl) (e : Ext H ρ H1 ρ1) : WS P w K H1 ρ1 S' D fl := by
  cases fl with
  | nx τ => exact fun σ' H' ρ' x r s => h σ' H' ρ' (e.trans x) r s
  | bk τ => exact fun σ' H' ρ' x r s => h σ' H' ρ' (e.trans x) r s
  | rt d => exact WE.to h e
theorem css_nil : CSs X [] sNil := by
  refine PSs.le pss_nil fun D σ H h => ?_
  obtain ⟨τ, ρ, S, fl, S', rs, sr, e, q⟩ := h
  cases e
  exact q σ H ρ Ext.refl rs sr
theorem css_one (h : CS X st f) : CSs X [st] f := pss_one h
theorem css_cons (h : CS X st f) (h2 : CSs X rest g) : CSs X (st :: rest) (sSeq f g) := by
  refine PSs.le (pss_cons h h2) fun D σ H h => ?_
  obtain ⟨τ, ρ, S, fl, S', rs, sr, e, q⟩ := h
  unfold sSeq at e
  split at e
  · rename_i τ1 S1 h1
    exact ⟨τ, ρ, S, .nx τ1, S1, rs, sr, h1, fun σ' H' ρ' x rs' sr' => ⟨τ1, ρ', S1, fl, S', rs', sr', e, q.to x⟩⟩
  · rename_i hn
    refine ⟨τ, ρ, S, fl, S', rs, sr, e, ?_⟩
    cases fl with
    | nx τ1 => exact absurd e (hn _ _)
    | bk τ1 => exact q
    | rt d => exact q
theorem cs_never : CS X st sNever := PS.le ps_never fun D σ H h => by
  obtain ⟨τ, ρ, S, fl, S', rs, sr, e, q⟩ := h
  cases e
theorem css_never : CSs X rest sNever := PSs.le pss_never fun D σ H h => by
  obtain ⟨τ, ρ, S, fl, S', rs, sr, e, q⟩ := h
  cases e
theorem cs_brk : CS X (.Break pos) sBrk := PS.le ps_break fun D σ H h => by
  obtain ⟨τ, ρ, S, fl, S', rs, sr, e, q⟩ := h
  cases e
  exact q σ H ρ Ext.refl rs sr
theorem cs_set (hN : X.N.Nodup) (he : CE X e fe) (hi : X.N[i]? = some x := by rfl) (hx : Loc X.env.scope x := by first | exact Or.inl rfl | exact Or.inr rfl) (hs : swapsWith e (some (.Name x pos')) pos.line X.env = pure false := by rfl) (hf : X.fn x = true ∨ X.env.scope.names.lookup x = some .local := by first | exact .inl rfl | exact .inr rfl | assumption) :
    CS X (.Assign [.Name x pos'] e pos) (sSet i fe) := by
  refine PS.le (ps_set hN hi hx he hs hf) fun D σ H h => ?_
  obtain ⟨τ, ρ, S, fl, S', rs, sr, e, q⟩ := h
  unfold sSet at e
  split at e
  · rename_i d S1 h1
    cases e
    exact ⟨τ, ρ, S, d, _, rs, sr, h1, fun v H' ρ' x rs' a => q _ H' ρ' x rs' ((sr.ext rs x).set a i)⟩
  · cases e
theorem cs_expr (he : CE X e fe) (hs : swapsWith e none pos.line X.env = pure false := by rfl) : CS X (.Expr e pos) (sExpr fe) := by
  refine PS.le (ps_expr he hs) fun D σ H h => ?_
  obtain ⟨τ, ρ, S, fl, S', rs, sr, e, q⟩ := h
  unfold sExpr at e
  split at e
  · rename_i d S1 h1
    cases e
    exact ⟨τ, ρ, S, d, _, rs, sr, h1, fun v H' ρ' x rs' a => q _ H' ρ' x rs' (sr.ext rs x)⟩
  · cases e
theorem cs_ret (he : CE X e fe) : CS X (.Return (some e) pos) (sRet fe) := by
  refine PS.le (ps_ret he) fun D σ H h => ?_
  obtain ⟨τ, ρ, S, fl, S', rs, sr, e, q⟩ := h
  unfold sRet at e
  split at e
  · rename_i d S1 h1
    cases e
    exact ⟨τ, ρ, S, d, _, rs, sr, h1, q⟩
  · cases e
theorem cs_if {c : Expr} {a b : List Stmt} {fc : FB} (hc : CT X c fc) (ha : CSs X a f) (hb : CSs X b g) : CS X (.If c a b pos) (sIf fc f g) := by
  refine PS.le (ps_if hc ha hb) fun D σ H h => ?_
  obtain ⟨τ, ρ, S, fl, S', rs, sr, e, q⟩ := h
  unfold sIf at e
  split at e
  · rename_i S1 h1
    exact ⟨τ, ρ, S, true, S1, rs, sr, h1, fun H1 ρ1 x1 r1 => iteT ⟨τ, ρ1, S1, fl, S', r1, sr.ext rs x1, e, q.to x1⟩⟩
  · rename_i S1 h1
    exact ⟨τ, ρ, S, false, S1, rs, sr, h1, fun H1 ρ1 x1 r1 => iteF ⟨τ, ρ1, S1, fl, S', r1, sr.ext rs x1, e, q.to x1⟩⟩
  · cases e
/-- targets -/
def tGs (P : Program) (w : World) (K : PySem.W.Frag) (is : List Nat) : TGs := fun vs σ H Q => ∃ ds τ τ' ρ S, RS P w K H ρ S ∧ SR K H ρ σ τ ∧ AtL K H ρ vs ds ∧ setAll is ds τ = some τ' ∧ ∀ σ', SR K H ρ σ' τ' → Q σ' H
abbrev CGs (X : Cx) (ts : List Expr) (is : List Nat) : Prop := PGs X ts (tGs X.prog X.w X.K is)
theorem PGs.le {X : Cx} {ts : List Expr} {t t' : TGs} (h : PGs X ts t) (s : ∀ vs σ H Q, t' vs σ H Q → t vs σ H Q) : PGs X ts t' := ⟨fun pins sh σ H vs us Q I r q => h.run pins sh σ H vs us Q I r (s vs σ H Q q)⟩
theorem cg_nil : CGs X [] [] := by
  refine PGs.le pgs_nil fun vs σ H Q h => ?_
  obtain ⟨ds, τ, τ', ρ, S, rs, sr, al, e, q⟩ := h
  cases ds with
  | nil =>
    cases al
    cases e
    exact ⟨rfl, q σ sr⟩
  | cons d ds => cases e
theorem cg_cons {es : List Expr} {is : List Nat} {px : Pos} (hN : X.N.Nodup) (h2 : CGs X es is) (hi : X.N[i]? = some x := by rfl) (hx : Loc X.env.scope x := by first | exact Or.inl rfl | exact Or.inr rfl) (hf : X.fn x = true ∨ X.env.scope.names.lookup x = some .local := by first | exact .inl rfl | exact .inr rfl | assumption)
    (hs : (assignEach (.Name x px :: es) X.env).map (·.2) = assign (.Name x px) X.env :: (assignEach es X.env).map (·.2) := by rfl) : CGs X (.Name x px :: es) (i :: is) := by
  refine PGs.le (pgs_cons (pg_name hN hi hx hf) h2 hs) fun vs σ H Q h => ?_
  obtain ⟨ds, τ, τ', ρ, S, rs, sr, al, e, q⟩ := h
  cases al with
  | nil => cases e
  | cons a1 a2 => exact ⟨_, _, rfl, ⟨_, _, τ', ρ, S, rs, sr.set a1 i, a2, e, q⟩⟩
theorem cs_tup {es : List Expr} {kk : Nat} {is : List Nat} {pt : Pos} (hc : X.calm = true) (hg : CGs X es is) (he : CE X e fe) (hn : (assignEach es X.env).length = is.length := by rfl) (hst : (assignEach es X.env).findIdx? (·.1) = none := by rfl)
    (hs : swapsWithSole [.Tuple es kk pt] e pos.line X.env = pure false := by rfl) (hw : swappedStores [.Tuple es kk pt] e X.env = pure none := by rfl)
    (h1 : (assignEach [.Tuple es kk pt] X.env).map (·.2) = [assign (.Tuple es kk pt) X.env] := by rfl) : CS X (.Assign [.Tuple es kk pt] e pos) (sTup is fe) := by
  refine PS.le (ps_asg he (pg_tup hc hg hn hst) hs hw h1) fun D σ H h => ?_
  obtain ⟨τ, ρ, S, fl, S', rs, sr, e, q⟩ := h
  unfold sTup at e
  split at e
  · rename_i ds S1 h1
    split at e
    · rename_i τ1 hτ
      cases e
      refine ⟨τ, ρ, S, .tup ds, _, rs, sr, h1, fun v H' ρ' x rs' a => ?_⟩
      cases a with
      | tup ht l =>
        refine ⟨_, _, rfl, ht, ?_, ds, τ, τ1, ρ', _, rs', sr.ext rs x, l, hτ, fun σ' sr' => q σ' H' ρ' x rs' sr'⟩
        have : ∀ (is : List Nat) (ds : List K50.D) (τ : Sl), setAll is ds τ = some τ1 → ds.length = is.length := by
          intro is
          induction is with
          | nil =>
            intro ds τ h
            cases ds with
            | nil => rfl
            | cons d ds => cases h
          | cons i is ih =>
            intro ds τ h
            cases ds with
            | nil => cases h
            | cons d ds => rw [List.length_cons, List.length_cons, ih _ _ h]
        rw [l.length]
        exact this _ _ _ hτ
    · cases e
  · cases e
theorem cs_par {j : Nat} {y : Str} {a b : Expr} {fa fb : FE} {px py pt pt2 : Pos} {kt k2 : Nat} (hc : X.calm = true) (hN : X.N.Nodup) (ha : CE X a fa) (hb : CE X b fb) (hi : X.N[i]? = some x := by rfl) (hj : X.N[j]? = some y := by rfl) (hij : i ≠ j := by decide)
    (hx : X.env.scope.names.lookup x = some .local := by rfl) (hy : X.env.scope.names.lookup y = some .local := by rfl)
    (h1 : starEach [a, b] X.env = (false, eval a X.env) :: starEach [b] X.env := by rfl) (h2 : starEach [b] X.env = (false, eval b X.env) :: starEach [] X.env := by rfl)
    (hw : swappedStores [.Tuple [.Name x px, .Name y py] kt pt] (.Tuple [a, b] k2 pt2) X.env = pure (some [x, y]) := by rfl)
    (hs : swapsWithSole [.Tuple [.Name x px, .Name y py] kt pt] (.Tuple [a, b] k2 pt2) pos.line X.env = pure false := by rfl) :
    CS X (.Assign [.Tuple [.Name x px, .Name y py] kt pt] (.Tuple [a, b] k2 pt2) pos) (sPar i j fa fb) := by
  refine PS.le (ps_par hc hN hi hj hij hx hy (pa_cons ha (pa_cons hb pa_nil h2) h1) hw hs) fun D σ H h => ?_
  obtain ⟨τ, ρ, S, fl, S', rs, sr, e, q⟩ := h
  unfold sPar at e
  split at e
  · rename_i x S1 ea
    split at e
    · rename_i y S2 eb
      cases e
      refine ⟨τ, ρ, S, x, S1, rs, sr, ea, fun v H1 ρ1 x1 rs1 a1 => ⟨τ, ρ1, S1, y, _, rs1, sr.ext rs x1, eb, fun u H2 ρ2 x2 rs2 a2 => ⟨v, u, rfl, ?_⟩⟩⟩
      exact q _ H2 ρ2 (x1.trans x2) rs2 ((((sr.ext rs x1).ext rs1 x2).set (At.kp (rs1.kp x2) _ _ a1) i).set a2 j)
    · cases e
  · cases e
def tIpD (P : Program) (w : World) (K : PySem.W.Frag) (g : D → D → Sto → Option (D × Sto)) : TIp := rD P w K g
theorem cs_aug {op : Operator} {gg : D → D → Sto → Option (D × Sto)} (hN : X.N.Nodup) (ho : OpR X (inplaceOp op) (rD X.prog X.w X.K gg)) (he : CE X e fe) (hi : X.N[i]? = some x := by rfl) (hx : Loc X.env.scope x := by first | exact Or.inl rfl | exact Or.inr rfl)
    (hf : X.fn x = true ∨ X.env.scope.names.lookup x = some .local := by first | exact .inl rfl | exact .inr rfl | assumption) : CS X (.AugAssign (.Name x pos') op e pos) (sAug i gg fe) := by
  have hp : PIp X op (rD X.prog X.w X.K gg) := fun pins s σ H x y v u Q I r1 r2 h => ho pins s σ H x y v u Q I r1 r2 h
  refine PS.le (ps_aug hN hi hx he hp hf) fun D σ H h => ?_
  obtain ⟨τ, ρ, S, fl, S', rs, sr, e, q⟩ := h
  unfold sAug at e
  split at e
  · rename_i d hd
    split at e
    · rename_i y S1 h1
      split at e
      · rename_i z S2 h2
        cases e
        obtain ⟨v, hv, av⟩ := sr.at_ _ _ hd
        refine ⟨v, hv, τ, ρ, S, y, S1, rs, sr, h1, fun u H1 ρ1 x1 rs1 a1 => ?_⟩
        exact ⟨d, y, ρ1, S1, z, _, rs1, At.kp (rs.kp x1) _ _ av, a1, h2, fun t H2 ρ2 x2 rs2 a2 => q _ H2 ρ2 (x1.trans x2) rs2 (((sr.ext rs x1).ext rs1 x2).set a2 i)⟩
      · cases e
    · cases e
  · cases e
def gAddI : D → D → Sto → Option (D × Sto)
  | .int i, .int j, S => some (.int (i + j), S)
  | _, _, _ => none
def gMulI : D → D → Sto → Option (D × Sto)
  | .int i, .int j, S => if decide (-(2 ^ 64) < i) && decide (i < 2 ^ 64) then some (.int (i * j), S) else none
  | _, _, _ => none
theorem oi_add : OpR X (inplaceOp .Add) (rD X.prog X.w X.K gAddI) := by
  intro pins s σ H x y v u Q I rx ry h
  obtain ⟨dx, dy, ρ, S, d, S', rs, ax, ay, e, q⟩ := h
  unfold gAddI at e
  split at e
  · cases e
    cases ax
    cases ay
    exact iop_add pins s σ H _ _ v u Q I rx ry ⟨_, _, rfl, rfl, q _ H ρ Ext.refl rs (.int _)⟩
  · cases e
theorem oi_mul : OpR X (inplaceOp .Mult) (rD X.prog X.w X.K gMulI) := by
  intro pins s σ H x y v u Q I rx ry h
  obtain ⟨dx, dy, ρ, S, d, S', rs, ax, ay, e, q⟩ := h
  unfold gMulI at e
  split at e
  · split at e
    · rename_i hc
      rw [Bool.and_eq_true, decide_eq_true_eq, decide_eq_true_eq] at hc
      cases e
      cases ax
      cases ay
      exact iop_mul pins s σ H _ _ v u Q I rx ry ⟨_, _, rfl, rfl, .inl hc, q _ H ρ Ext.refl rs (.int _)⟩
    · cases e
  · cases e
end
end K50
set_option Elab.async false
set_option linter.all false
set_option maxRecDepth 100000
set_option maxHeartbeats 4000000
namespace K50
open PySem PySem.Spec PyProof.Rows L2

/-! ### what is walked -/
abbrev Nx := Nat → Sto → Option (Option D)
abbrev FI := Sl → Sto → Option (Nx × Nat × Sto)
/-- what the walk asks of the iterator -/
def ItOk (P : Program) (w : World) (K : PySem.W.Frag) (H1 : Hp) (ρ1 : List Addr) (nx : Nx) (J : It) : Prop := ∀ i H2 ρ2 S2, Ext H1 ρ1 H2 ρ2 → RS P w K H2 ρ2 S2 →
  (nx i S2 = some none → J.stop i H2) ∧ ∀ d, nx i S2 = some (some d) → J.go i H2 ∧ ∀ x H3, J.yld i H2 x H3 → Ext H2 ρ2 H3 ρ2 ∧ RS P w K H3 ρ2 S2 ∧ At K H3 ρ2 x d
def tIi (P : Program) (w : World) (K : PySem.W.Frag) (fi : FI) : TI := fun σ H R => ∃ τ ρ S nx n S', RS P w K H ρ S ∧ SR K H ρ σ τ ∧ fi τ S = some (nx, n, S') ∧ ∀ J H1 ρ1, Ext H ρ H1 ρ1 → RS P w K H1 ρ1 S' → ItOk P w K H1 ρ1 nx J → R J H1
abbrev CI (X : Cx) (tg iter : Expr) (fi : FI) : Prop := PI X tg iter (tIi X.prog X.w X.K fi)
theorem PI.le {X : Cx} {tg iter : Expr} {t t' : TI} (h : PI X tg iter t) (s : ∀ σ H R, t' σ H R → t σ H R) : PI X tg iter t' := ⟨fun pins sh σ H R I q => h.run pins sh σ H R I (s σ H R q)⟩
/-- a tuple, a list, a range -/
def nxTup (ds : List D) : Nx := fun i _ => some ds[i]?
def nxLst (r : Nat) : Nx := fun i S => match S[r]? with
  | some (.lst ds) => some ds[i]?
  | _ => none
def nxRg (lo : Int) (n : Nat) : Nx := fun i _ => if Nat.blt i n then some (some (.int (lo + (i : Nat)))) else some none
def iSeq (f : FE) : FI := fun τ S => match f τ S with
  | some (.tup ds, S1) => some (nxTup ds, ds.length, S1)
  | _ => none
def iLst (f : FE) : FI := fun τ S => match f τ S with
  | some (.ref r, S1) => match S1[r]? with
    | some (.lst ds) => some (nxLst r, ds.length, S1)
    | _ => none
  | _ => none
def iRg1 (f : FE) : FI := fun τ S => match f τ S with
  | some (.int j, S1) => if decide (-1000 ≤ j) && decide (j ≤ 100000) then some (nxRg 0 j.toNat, j.toNat, S1) else none
  | _ => none
def iRg2 (f g : FE) : FI := fun τ S => match f τ S with
  | some (.int i, S1) => match g τ S1 with
    | some (.int j, S2) => if decide (-1000 ≤ i) && decide (i ≤ 100000) && decide (-1000 ≤ j) && decide (j ≤ 100000) then some (nxRg i (j - i).toNat, (j - i).toNat, S2) else none
    | _ => none
  | _ => none
section
variable {X : Cx} {tg iter a b : Expr} {f g : FE} {p pos : Pos}
variable {P : Program} {w : World} {K : PySem.W.Frag} {H H1 : Hp} {ρ ρ1 : List Addr} {S S' : Sto} {ds : List D} {vs : List V}
theorem itok_tup {a : Addr} (rs : RS P w K H1 ρ1 S) (ht : SqT K H1 a vs) (l : AtL K H1 ρ1 vs ds) (inj : ∀ H2 ρ2 S2, Ext H1 ρ1 H2 ρ2 → RS P w K H2 ρ2 S2 → SqT K H2 a vs ∧ AtL K H2 ρ2 vs ds) : ItOk P w K H1 ρ1 (nxTup ds) (Itt K a) := by
  intro i H2 ρ2 S2 x2 rs2
  obtain ⟨h2, l2⟩ := inj H2 ρ2 S2 x2 rs2
  refine ⟨fun e => ?_, fun d e => ?_⟩
  · have e : ds[i]? = none := Option.some.inj e
    exact ⟨vs, h2, by rw [l2.length]; exact List.getElem?_eq_none_iff.mp e⟩
  · have e : ds[i]? = some d := Option.some.inj e
    obtain ⟨v, hv, av⟩ := l2.get e
    refine ⟨⟨vs, v, h2, hv⟩, fun x H3 y => ?_⟩
    obtain ⟨rfl, y⟩ := y
    have ex := y vs h2
    rw [hv] at ex
    cases ex
    exact ⟨Ext.refl, rs2, av⟩
theorem ci_tup (h : CE X iter f) : CI X tg iter (iSeq f) := by
  refine PI.le (pi_tup h) fun σ H R h => ?_
  obtain ⟨τ, ρ, S, nx, n, S', rs, sr, e, q⟩ := h
  unfold iSeq at e
  split at e
  · rename_i ds S1 h1
    cases e
    refine ⟨τ, ρ, S, .tup ds, _, rs, sr, h1, fun v H1 ρ1 x1 rs1 a1 => ?_⟩
    cases a1 with
    | tup ht l =>
      refine ⟨_, rfl, ⟨_, ht⟩, q _ H1 ρ1 x1 rs1 (itok_tup rs1 ht l fun H2 ρ2 S2 x2 rs2 => ?_)⟩
      have kp := rs1.kp x2
      exact ⟨kp.sqT ht, AtL.kp kp _ _ l⟩
  · cases e
theorem ci_lst (h : CE X iter f) : CI X tg iter (iLst f) := by
  refine PI.le (pi_list h) fun σ H R h => ?_
  obtain ⟨τ, ρ, S, nx, n, S', rs, sr, e, q⟩ := h
  unfold iLst at e
  split at e
  · rename_i r S1 h1
    split at e
    · rename_i ds hs
      cases e
      refine ⟨τ, ρ, S, .ref r, _, rs, sr, h1, fun v H1 ρ1 x1 rs1 a1 => ?_⟩
      cases a1 with
      | ref hi =>
        rename_i a
        obtain ⟨vs, e0, l⟩ := rs1.lst hi hs
        refine ⟨_, rfl, ⟨_, .of e0⟩, q _ H1 ρ1 x1 rs1 fun i H2 ρ2 S2 x2 rs2 => ?_⟩
        have hi2 := x2.pre hi
        unfold nxLst
        constructor
        · intro e
          split at e
          · rename_i es hes
            have e : es[i]? = none := Option.some.inj e
            obtain ⟨us, e1, l1⟩ := rs2.lst hi2 hes
            exact ⟨us, .of e1, by rw [l1.length]; exact List.getElem?_eq_none_iff.mp e⟩
          · cases e
        · intro d e
          split at e
          · rename_i es hes
            have e : es[i]? = some d := Option.some.inj e
            obtain ⟨us, e1, l1⟩ := rs2.lst hi2 hes
            obtain ⟨v, hv, av⟩ := l1.get e
            refine ⟨⟨us, v, .of e1, hv⟩, fun x H3 y => ?_⟩
            obtain ⟨rfl, y⟩ := y
            have ex := y us (.of e1)
            rw [hv] at ex
            cases ex
            exact ⟨Ext.refl, rs2, av⟩
          · cases e
    · cases e
  · cases e
theorem itok_rg {lo : Int} {n : Nat} : ItOk P w K H1 ρ1 (nxRg lo n) (Itr lo n) := by
  intro i H2 ρ2 S2 x2 rs2
  unfold nxRg
  by_cases hi : i < n
  · rw [if_pos (Nat.blt_eq.mpr hi)]
    refine ⟨fun e => (nomatch e), fun d e => ⟨hi, fun x H3 y => ?_⟩⟩
    cases e
    obtain ⟨rfl, rfl⟩ := y
    exact ⟨Ext.refl, rs2, .int _⟩
  · rw [if_neg (fun z => hi (Nat.blt_eq.mp z))]
    exact ⟨fun _ => Nat.le_of_not_lt hi, fun d e => nomatch e⟩
theorem ci_rg1 (hg : Gl X "range") (hm : X.mg "range" = none) (h : CE X a f) (hs : starEach [a] X.env = [(false, eval a X.env)] := by rfl) : CI X tg (.Call (.Name "range" p) [a] [] pos) (iRg1 f) := by
  refine PI.le (pi_range1 hg hm (pa_cons h pa_nil (by rw [hs]; rfl)) hs) fun σ H R h => ?_
  obtain ⟨τ, ρ, S, nx, n, S', rs, sr, e, q⟩ := h
  unfold iRg1 at e
  split at e
  · rename_i j S1 h1
    split at e
    · rename_i hc
      simp only [Bool.and_eq_true, decide_eq_true_eq] at hc
      cases e
      refine ⟨τ, ρ, S, .int j, _, rs, sr, h1, fun v H1 ρ1 x1 rs1 a1 => ?_⟩
      cases a1
      exact ⟨j, rfl, by omega, by omega, q _ H1 ρ1 x1 rs1 itok_rg⟩
    · cases e
  · cases e
theorem ci_rg2 (hg : Gl X "range") (hm : X.mg "range" = none) (h : CE X a f) (h2 : CE X b g) (hs : starEach [a, b] X.env = [(false, eval a X.env), (false, eval b X.env)] := by rfl) (hs2 : starEach [b] X.env = [(false, eval b X.env)] := by rfl) : CI X tg (.Call (.Name "range" p) [a, b] [] pos) (iRg2 f g) := by
  refine PI.le (pi_range2 hg hm (pa_cons h (pa_cons h2 pa_nil (by rw [hs2]; rfl)) (by rw [hs, hs2])) hs hs2) fun σ H R h => ?_
  obtain ⟨τ, ρ, S, nx, n, S', rs, sr, e, q⟩ := h
  unfold iRg2 at e
  split at e
  · rename_i i S1 h1
    split at e
    · rename_i j S2 h2
      split at e
      · rename_i hc
        simp only [Bool.and_eq_true, decide_eq_true_eq] at hc
        obtain ⟨⟨⟨c1, c2⟩, c3⟩, c4⟩ := hc
        cases e
        refine ⟨τ, ρ, S, .int i, S1, rs, sr, h1, fun v H1 ρ1 x1 rs1 a1 => ?_⟩
        refine ⟨τ, ρ1, S1, .int j, _, rs1, sr.ext rs x1, h2, fun u H2 ρ2 x2 rs2 a2 => ?_⟩
        cases a1
        cases a2
        exact ⟨i, j, rfl, ⟨by omega, by omega, by omega, by omega⟩, q _ H2 ρ2 (x1.trans x2) rs2 itok_rg⟩
      · cases e
    · cases e
  · cases e
end

/-! ### targets of loops -/
def stD : Nat ⊕ List Nat → D → Sl → Option Sl
  | .inl i, d, τ => some (τ.set i (some d))
  | .inr is, d, τ => match d with
    | .tup ds => setAll is ds τ
    | _ => none
def tGt (P : Program) (w : World) (K : PySem.W.Frag) (t : Nat ⊕ List Nat) : TG := fun v σ H Q => ∃ d τ τ' ρ S, RS P w K H ρ S ∧ SR K H ρ σ τ ∧ At K H ρ v d ∧ stD t d τ = some τ' ∧ ∀ σ', SR K H ρ σ' τ' → Q σ' H
theorem PG.le {X : Cx} {ts : Expr} {t t' : TG} (h : PG X ts t) (s : ∀ vs σ H Q, t' vs σ H Q → t vs σ H Q) : PG X ts t' := ⟨fun pins sh σ H vs us Q I r q => h.run pins sh σ H vs us Q I r (s vs σ H Q q)⟩
abbrev CG (X : Cx) (tg : Expr) (t : Nat ⊕ List Nat) : Prop := PG X tg (tGt X.prog X.w X.K t)
theorem cg_name {X : Cx} {i : Nat} {x : Str} {pos : Pos} (hN : X.N.Nodup) (hi : X.N[i]? = some x := by rfl) (hx : Loc X.env.scope x := by first | exact Or.inl rfl | exact Or.inr rfl) (hf : X.fn x = true ∨ X.env.scope.names.lookup x = some .local := by first | exact .inl rfl | exact .inr rfl | assumption) : CG X (.Name x pos) (.inl i) := by
  refine PG.le (pg_name hN hi hx hf) fun v σ H Q h => ?_
  obtain ⟨d, τ, τ', ρ, S, rs, sr, a, e, q⟩ := h
  cases e
  exact q _ (sr.set a i)
theorem setAll_len {τ1 : Sl} : ∀ (is : List Nat) (ds : List D) (τ : Sl), setAll is ds τ = some τ1 → ds.length = is.length := by
  intro is
  induction is with
  | nil =>
    intro ds τ h
    cases ds with
    | nil => rfl
    | cons d ds => cases h
  | cons i is ih =>
    intro ds τ h
    cases ds with
    | nil => cases h
    | cons d ds => rw [List.length_cons, List.length_cons, ih _ _ h]
theorem cg_tup {X : Cx} {es : List Expr} {kk : Nat} {is : List Nat} {pos : Pos} (hc : X.calm = true) (hg : CGs X es is) (hn : (assignEach es X.env).length = is.length := by rfl) (hst : (assignEach es X.env).findIdx? (·.1) = none := by rfl) : CG X (.Tuple es kk pos) (.inr is) := by
  refine PG.le (pg_tup hc hg hn hst) fun v σ H Q h => ?_
  obtain ⟨d, τ, τ', ρ, S, rs, sr, a, e, q⟩ := h
  unfold stD at e
  simp only at e
  split at e
  · cases a with
    | tup ht l => exact ⟨_, _, rfl, ht, by rw [l.length]; exact setAll_len _ _ _ e, _, τ, τ', ρ, S, rs, sr, l, e, q⟩
  · cases e

/-! ### for -/
def forL (nx : Nx) (t : Nat ⊕ List Nat) (body : FS) : Nat → Nat → Sl → Sto → Option (Fl × Sto)
  | 0, _, _, _ => none
  | n + 1, i, τ, S => match nx i S with
    | none => none
    | some none => some (.nx τ, S)
    | some (some d) => match stD t d τ with
      | none => none
      | some τ1 => match body τ1 S with
        | some (.nx τ2, S2) => forL nx t body n (i + 1) τ2 S2
        | some (.bk τ2, S2) => some (.nx τ2, S2)
        | some (.rt d, S2) => some (.rt d, S2)
        | none => none
def sFor (fi : FI) (t : Nat ⊕ List Nat) (body : FS) : FS := fun τ S => match fi τ S with
  | some (nx, n, S1) => forL nx t body (n + 1) 0 τ S1
  | none => none
theorem cs_for {X : Cx} {tg iter : Expr} {body : List Stmt} {fi : FI} {t : Nat ⊕ List Nat} {fb : FS} {pos : Pos} (hp : PassesOwn (model X.prog X.w) X.A X.env X.xe) (hc : X.calm = true) (hi : CI X tg iter fi) (hg : CG X tg t) (hb : CSs X body fb)
    (hs : ∀ x, foldedSetIterable iter X.env x = pure x := by intro _; rfl) : CS X (.For tg iter body [] pos) (sFor fi t fb) := by
  refine PS.le (ps_for hp hc hi hg hb hs) fun D σ H h => ?_
  obtain ⟨τ, ρ, S, fl, Sf, rs, sr, e, q⟩ := h
  unfold sFor at e
  split at e
  · rename_i nx n S1 h1
    refine ⟨τ, ρ, S, nx, n, S1, rs, sr, h1, fun J H1 ρ1 x1 rs1 ok => ?_⟩
    have q1 := WS.to q x1
    refine ⟨fun i m σ2 H2 => ∃ τ2 ρ2 S2, Ext H1 ρ1 H2 ρ2 ∧ RS X.prog X.w X.K H2 ρ2 S2 ∧ SR X.K H2 ρ2 σ2 τ2 ∧ forL nx t fb m i τ2 S2 = some (fl, Sf), ⟨n + 1, τ, ρ1, S1, Ext.refl, rs1, sr.ext rs x1, e⟩, ?_⟩
    rintro i m σ2 H2 ⟨τ2, ρ2, S2, x2, rs2, sr2, e2⟩
    obtain ⟨o1, o2⟩ := ok i H2 ρ2 S2 x2 rs2
    cases m with
    | zero => cases e2
    | succ m =>
      unfold forL at e2
      split at e2
      · cases e2
      · rename_i hn
        cases e2
        exact .inl ⟨o1 hn, q1 σ2 H2 ρ2 x2 rs2 sr2⟩
      · rename_i d hn
        obtain ⟨g, y⟩ := o2 d hn
        refine .inr ⟨g, fun σ' H' => ∃ τ3 ρ3 S3, Ext H1 ρ1 H' ρ3 ∧ RS X.prog X.w X.K H' ρ3 S3 ∧ SR X.K H' ρ3 σ' τ3 ∧ forL nx t fb m (i + 1) τ3 S3 = some (fl, Sf), fun σ' H' h => ⟨m, Nat.lt_succ_self m, h⟩, fun x H3 hy => ?_⟩
        obtain ⟨x3, rs3, a3⟩ := y x H3 hy
        split at e2
        · cases e2
        · rename_i τ3 h3
          refine ⟨d, τ2, τ3, ρ2, S2, rs3, sr2.ext rs2 x3, a3, h3, fun σ' sr' => ?_⟩
          split at e2
          · rename_i τ4 S4 h4
            exact ⟨τ3, ρ2, S2, _, S4, rs3, sr', h4, fun σ4 H4 ρ4 x4 rs4 sr4 => ⟨τ4, ρ4, S4, (x2.trans x3).trans x4, rs4, sr4, e2⟩⟩
          · rename_i τ4 S4 h4
            cases e2
            exact ⟨τ3, ρ2, S2, _, _, rs3, sr', h4, fun σ4 H4 ρ4 x4 rs4 sr4 => q1 σ4 H4 ρ4 ((x2.trans x3).trans x4) rs4 sr4⟩
          · rename_i d4 S4 h4
            cases e2
            exact ⟨τ3, ρ2, S2, _, _, rs3, sr', h4, WE.to q1 (x2.trans x3)⟩
          · cases e2
  · cases e

/-! ### list comprehensions -/
def wipeD (τ : Sl) : List Nat → Sl
  | [] => τ
  | v :: vs => (wipeD τ vs).set v none
def bYes : FB := fun _ S => some (true, S)
abbrev CTs (X : Cx) (ifs : List Expr) (f : FB) : Prop := PTs X ifs (tBb X.prog X.w X.K f)
theorem PTs.le {X : Cx} {ifs : List Expr} {t t' : TT} (h : PTs X ifs t) (s : ∀ σ H Q, t' σ H Q → t σ H Q) : PTs X ifs t' := ⟨fun pins sh σ H Q I q => h.run pins sh σ H Q I (s σ H Q q)⟩
theorem cts_nil {X : Cx} : CTs X [] bYes := PTs.le pts_nil fun σ H Q h => by
  obtain ⟨τ, ρ, S, b, S', rs, sr, e, q⟩ := h
  cases e
  exact q H ρ Ext.refl rs
theorem cts_one {X : Cx} {c : Expr} {f : FB} (h : CT X c f) : CTs X [c] f := pts_one h
def lcL (nx : Nx) (k : Nat) (tt : FB) (el : FE) (τw : Sl) (r : Nat) : Nat → Nat → Sto → Option Sto
  | 0, _, _ => none
  | n + 1, i, S => match nx i S with
    | none => none
    | some none => some S
    | some (some d) => match tt (τw.set k (some d)) S with
      | some (true, S2) => match el (τw.set k (some d)) S2 with
        | some (y, S3) => match S3[r]? with
          | some (.lst acc) => if short acc then lcL nx k tt el τw r n (i + 1) (S3.set r (.lst (acc ++ [y]))) else none
          | _ => none
        | none => none
      | some (false, S2) => lcL nx k tt el τw r n (i + 1) S2
      | none => none
def eLc (fi : FI) (k : Nat) (tt : FB) (el : FE) (vs : List Nat) : FE := fun τ S => match fi τ S with
  | some (nx, n, S1) => match lcL nx k tt el (wipeD τ vs) S1.length (n + 1) 0 (S1 ++ [.lst []]) with
    | some S2 => some (.ref S1.length, S2)
    | none => none
  | none => none
section
variable {P : Program} {w : World} {K : PySem.W.Frag} {H H1 : Hp} {ρ ρ1 : List Addr} {S S' : Sto} {ds : List D} {vs : List V} {σ : L2.St} {τ : Sl}
theorem wipe_len (σ : L2.St) : ∀ is : List Nat, (wipe σ is).length = σ.length
  | [] => rfl
  | i :: is => by
    show ((wipe σ is).set i none).length = _
    rw [List.length_set, wipe_len σ is]
theorem SR.wipe (sr : SR K H ρ σ τ) : ∀ is : List Nat, SR K H ρ (L2.wipe σ is) (wipeD τ is)
  | [] => sr
  | i :: is => by
    have ih := SR.wipe sr is
    refine ⟨by show ((L2.wipe σ is).set i none).length = ((wipeD τ is).set i none).length; rw [List.length_set, List.length_set]; exact ih.len, fun j d h => ?_⟩
    have h : ((wipeD τ is).set i none)[j]? = some (some d) := h
    by_cases hj : i = j
    · subst hj
      by_cases hl : i < (wipeD τ is).length
      · rw [List.getElem?_set_self hl] at h; cases h
      · rw [List.getElem?_eq_none (by rw [List.length_set]; omega)] at h; cases h
    · rw [List.getElem?_set_ne hj] at h
      obtain ⟨v, h1, h2⟩ := ih.at_ j d h
      exact ⟨v, by show ((L2.wipe σ is).set i none)[j]? = _; rw [List.getElem?_set_ne hj]; exact h1, h2⟩
theorem wipe_get (σ : L2.St) : ∀ (is : List Nat) (j : Nat), (wipe σ is)[j]? = if j ∈ is then (if j < σ.length then some none else none) else σ[j]?
  | [], j => by simp [wipe]
  | i :: is, j => by
    show ((wipe σ is).set i none)[j]? = _
    by_cases hj : i = j
    · subst hj
      rw [if_pos List.mem_cons_self]
      by_cases hl : i < σ.length
      · rw [List.getElem?_set_self (by rw [wipe_len]; exact hl), if_pos hl]
      · rw [List.getElem?_eq_none (by rw [List.length_set, wipe_len]; omega), if_neg hl]
    · rw [List.getElem?_set_ne hj, wipe_get σ is j]
      have e : (j ∈ i :: is) ↔ j ∈ is := by
        rw [List.mem_cons]
        exact ⟨fun h => h.elim (fun z => absurd z.symm hj) id, .inr⟩
      by_cases hm : j ∈ is
      · rw [if_pos hm, if_pos (e.mpr hm)]
      · rw [if_neg hm, if_neg (fun z => hm (e.mp z))]
theorem wipe_set {i : Nat} {v : V} {is : List Nat} (h : i ∈ is) : wipe ((wipe σ is).set i (some v)) is = wipe σ is := by
  refine List.ext_getElem? fun j => ?_
  rw [wipe_get, wipe_get, List.length_set, wipe_len]
  by_cases hm : j ∈ is
  · rw [if_pos hm, if_pos hm]
  · rw [if_neg hm, if_neg hm]
    have : i ≠ j := fun e => hm (e ▸ h)
    rw [List.getElem?_set_ne this, wipe_get, if_neg hm]
end
/-- the loop of a comprehension -/
theorem lc_loop {P : Program} {w : World} {K : PySem.W.Frag} {nx : Nx} {J : It} {k : Nat} {tt : FB} {el : FE} {is : List Nat} {H0 H1 : Hp} {ρ0 ρ1 : List Addr} {S1 Sf : Sto} {r n : Nat} {D : Addr} {σ : L2.St} {τw : Sl} {Qd : Hp → Prop} (hk : k ∈ is)
    (ok : ItOk P w K H0 ρ0 nx J) (x0 : Ext H0 ρ0 H1 ρ1) (rs1 : RS P w K H1 ρ1 S1) (hDi : ρ1[r]? = some D) (srw : SR K H1 ρ1 (wipe σ is) τw) (h : lcL nx k tt el τw r n 0 S1 = some Sf) (fin : ∀ H2 ρ2, Ext H1 ρ1 H2 ρ2 → RS P w K H2 ρ2 Sf → Qd H2) :
    ∃ W : Nat → Nat → Hp → Prop, (∃ m, W 0 m H1) ∧ ∀ i m H, W i m H → (J.stop i H ∧ Qd H) ∨ (J.go i H ∧ ∃ Nx : Hp → Prop, (∀ H', Nx H' → ∃ m', m' < m ∧ W (i + 1) m' H') ∧ ∀ x H', J.yld i H x H' → gName k x (wipe σ is) H' fun σ2 H2 => wipe σ2 is = wipe σ is ∧ tBb P w K tt σ2 H2 fun b H3 =>
      if b = true then tE P w K el σ2 H3 fun y H4 => ∃ acc, H4 D = some (.lst acc) ∧ acc.length < sizeLine ∧ Nx (upd H4 D (.lst (acc ++ [y]))) else Nx H3) := by
  refine ⟨fun i m H2 => ∃ ρ2 S2', Ext H1 ρ1 H2 ρ2 ∧ RS P w K H2 ρ2 S2' ∧ lcL nx k tt el τw r m i S2' = some Sf, ⟨n, _, _, Ext.refl, rs1, h⟩, ?_⟩
  rintro i m H2 ⟨ρ2, S2', x2, rs2, e2⟩
  obtain ⟨o1, o2⟩ := ok i H2 ρ2 S2' (x0.trans x2) rs2
  have sr2 : SR K H2 ρ2 (L2.wipe σ is) τw := srw.ext rs1 x2
  cases m with
  | zero => cases e2
  | succ m =>
    unfold lcL at e2
    split at e2
    · cases e2
    · rename_i hn
      cases e2
      exact .inl ⟨o1 hn, fin H2 ρ2 x2 rs2⟩
    · rename_i d hn
      obtain ⟨g, y⟩ := o2 d hn
      refine .inr ⟨g, fun H' => ∃ ρ3 S3, Ext H1 ρ1 H' ρ3 ∧ RS P w K H' ρ3 S3 ∧ lcL nx k tt el τw r m (i + 1) S3 = some Sf, fun H' h => ⟨m, Nat.lt_succ_self m, h⟩, fun x H3 hy => ?_⟩
      obtain ⟨x3, rs3, a3⟩ := y x H3 hy
      refine ⟨wipe_set hk, ?_⟩
      have sr3 := (sr2.ext rs2 x3).set a3 k
      split at e2
      · rename_i S4 h4
        refine ⟨_, ρ2, S2', true, S4, rs3, sr3, h4, fun H4 ρ4 x4 rs4 => iteT ?_⟩
        split at e2
        · rename_i y S5 h5
          refine ⟨_, ρ4, S4, y, S5, rs4, sr3.ext rs3 x4, h5, fun v H5 ρ5 x5 rs5 a5 => ?_⟩
          split at e2
          · rename_i acc hacc
            split at e2
            · rename_i hsh
              have hD5 : ρ5[r]? = some D := ((x2.trans x3).trans (x4.trans x5)).pre hDi
              obtain ⟨us, e5, l5⟩ := rs5.lst hD5 hacc
              refine ⟨us, e5, by rw [l5.length, sizeLine_eq]; have := short_le hsh; omega, ?_⟩
              have kp := rs5.writeKp (.lst (us ++ [v])) hD5
              obtain ⟨rs6, x6⟩ := rs5.write (o := .lst (us ++ [v])) (ob := .lst (acc ++ [y])) hD5 e5 (fun _ _ z => nomatch z) ⟨_, upd_same, AtL.kp kp _ _ (l5.append (AtL.one a5))⟩
              exact ⟨ρ5, _, (((x2.trans x3).trans x4).trans x5).trans x6, rs6, e2⟩
            · cases e2
          · cases e2
        · cases e2
      · rename_i S4 h4
        exact ⟨_, ρ2, S2', false, S4, rs3, sr3, h4, fun H4 ρ4 x4 rs4 => iteF ⟨ρ4, S4, (x2.trans x3).trans x4, rs4, e2⟩⟩
      · cases e2
/-- the reading of a comprehension -/
theorem lc_to {P : Program} {w : World} {K : PySem.W.Frag} {fi : FI} {k : Nat} {tt : FB} {el : FE} {is : List Nat} (hk : k ∈ is) {σ : L2.St} {H : Hp} {Q : VK} (h : tE P w K (eLc fi k tt el is) σ H Q) :
    tLc (tIi P w K fi) (gName k) (tBb P w K tt) (tE P w K el) is σ H Q := by
  obtain ⟨τ, ρ, S, d, Sf, rs, sr, e, q⟩ := h
  unfold eLc at e
  split at e
  · rename_i nx n S1 h1
    split at e
    · rename_i S2 h2
      cases e
      refine ⟨τ, ρ, S, nx, n, S1, rs, sr, h1, fun J H1 ρ1 x1 rs1 ok D hD => ?_⟩
      obtain ⟨rs1', x1'⟩ := rs1.push (o := .lst []) (ob := .lst []) hD ⟨[], upd_same, .nil⟩
      have hDi : (ρ1 ++ [D])[S1.length]? = some D := by
        rw [← rs1.len, List.getElem?_append_right (Nat.le_refl _), Nat.sub_self]
        rfl
      have srw' : SR K (upd H1 D (.lst [])) (ρ1 ++ [D]) (L2.wipe σ is) (wipeD τ is) := ((sr.ext rs x1).wipe is).ext rs1 x1'
      exact lc_loop hk ok x1' rs1' hDi srw' h2 fun H2 ρ2 x2 rs2 => q _ H2 ρ2 ((x1.trans x1').trans x2) rs2 (.ref (x2.pre hDi))
    · cases e
  · cases e
/-! two clauses -/
def lc2L (nx : Nx) (k : Nat) (tt : FB) (fi1 : FI) (k1 : Nat) (tt1 : FB) (el : FE) (τw : Sl) (vs1 : List Nat) (r : Nat) : Nat → Nat → Sto → Option Sto
  | 0, _, _ => none
  | n + 1, i, S => match nx i S with
    | none => none
    | some none => some S
    | some (some d) => match tt (τw.set k (some d)) S with
      | some (true, S2) => match fi1 (τw.set k (some d)) S2 with
        | some (nx1, n1, S3) => match lcL nx1 k1 tt1 el (wipeD (τw.set k (some d)) vs1) r (n1 + 1) 0 S3 with
          | some S4 => lc2L nx k tt fi1 k1 tt1 el τw vs1 r n (i + 1) S4
          | none => none
        | none => none
      | some (false, S2) => lc2L nx k tt fi1 k1 tt1 el τw vs1 r n (i + 1) S2
      | none => none
def eLc2 (fi : FI) (k : Nat) (tt : FB) (fi1 : FI) (k1 : Nat) (tt1 : FB) (el : FE) (vs vs1 : List Nat) : FE := fun τ S => match fi τ S with
  | some (nx, n, S1) => match lc2L nx k tt fi1 k1 tt1 el (wipeD τ vs) vs1 S1.length (n + 1) 0 (S1 ++ [.lst []]) with
    | some S2 => some (.ref S1.length, S2)
    | none => none
  | none => none
theorem lc2_to {P : Program} {w : World} {K : PySem.W.Frag} {fi fi1 : FI} {k k1 : Nat} {tt tt1 : FB} {el : FE} {is is1 : List Nat} (hk : k ∈ is) (hk1 : k1 ∈ is1) {σ : L2.St} {H : Hp} {Q : VK} (h : tE P w K (eLc2 fi k tt fi1 k1 tt1 el is is1) σ H Q) :
    tLc2 (tIi P w K fi) (gName k) (tBb P w K tt) (tIi P w K fi1) (gName k1) (tBb P w K tt1) (tE P w K el) is is1 σ H Q := by
  obtain ⟨τ, ρ, S, d, Sf, rs, sr, e, q⟩ := h
  unfold eLc2 at e
  split at e
  · rename_i nx n S1 h1
    split at e
    · rename_i S2 h2
      cases e
      refine ⟨τ, ρ, S, nx, n, S1, rs, sr, h1, fun J H1 ρ1 x1 rs1 ok D hD => ?_⟩
      obtain ⟨rs1', x1'⟩ := rs1.push (o := .lst []) (ob := .lst []) hD ⟨[], upd_same, .nil⟩
      have hDi : (ρ1 ++ [D])[S1.length]? = some D := by
        rw [← rs1.len, List.getElem?_append_right (Nat.le_refl _), Nat.sub_self]
        rfl
      have srw' : SR K (upd H1 D (.lst [])) (ρ1 ++ [D]) (L2.wipe σ is) (wipeD τ is) := ((sr.ext rs x1).wipe is).ext rs1 x1'
      refine ⟨fun i m H2 => ∃ ρ2 S2', Ext (upd H1 D (.lst [])) (ρ1 ++ [D]) H2 ρ2 ∧ RS P w K H2 ρ2 S2' ∧ lc2L nx k tt fi1 k1 tt1 el (wipeD τ is) is1 S1.length m i S2' = some Sf, ⟨n + 1, _, _, Ext.refl, rs1', h2⟩, ?_⟩
      rintro i m H2 ⟨ρ2, S2', x2, rs2, e2⟩
      obtain ⟨o1, o2⟩ := ok i H2 ρ2 S2' (x1'.trans x2) rs2
      have sr2 : SR K H2 ρ2 (L2.wipe σ is) (wipeD τ is) := srw'.ext rs1' x2
      cases m with
      | zero => cases e2
      | succ m =>
        unfold lc2L at e2
        split at e2
        · cases e2
        · rename_i hn
          cases e2
          exact .inl ⟨o1 hn, q _ H2 ρ2 ((x1.trans x1').trans x2) rs2 (.ref (x2.pre hDi))⟩
        · rename_i d hn
          obtain ⟨g, y⟩ := o2 d hn
          refine .inr ⟨g, fun H' => ∃ ρ3 S3, Ext (upd H1 D (.lst [])) (ρ1 ++ [D]) H' ρ3 ∧ RS P w K H' ρ3 S3 ∧ lc2L nx k tt fi1 k1 tt1 el (wipeD τ is) is1 S1.length m (i + 1) S3 = some Sf, fun H' h => ⟨m, Nat.lt_succ_self m, h⟩, fun x H3 hy => ?_⟩
          obtain ⟨x3, rs3, a3⟩ := y x H3 hy
          refine ⟨wipe_set hk, ?_⟩
          have sr3 := (sr2.ext rs2 x3).set a3 k
          split at e2
          · rename_i S4 h4
            refine ⟨_, ρ2, S2', true, S4, rs3, sr3, h4, fun H4 ρ4 x4 rs4 => iteT ?_⟩
            split at e2
            · rename_i nx1 n1 S5 h5
              refine ⟨_, ρ4, S4, nx1, n1, S5, rs4, sr3.ext rs3 x4, h5, fun J1 H5 ρ5 x5 rs5 ok1 => ?_⟩
              split at e2
              · rename_i S6 h6
                have hD5 : ρ5[S1.length]? = some D := ((x2.trans x3).trans (x4.trans x5)).pre hDi
                have sr5 := ((sr3.ext rs3 x4).ext rs4 x5).wipe is1
                exact lc_loop hk1 ok1 Ext.refl rs5 hD5 sr5 h6 fun H6 ρ6 x6 rs6 => ⟨ρ6, S6, (((x2.trans x3).trans x4).trans x5).trans x6, rs6, e2⟩
              · cases e2
            · cases e2
          · rename_i S4 h4
            exact ⟨_, ρ2, S2', false, S4, rs3, sr3, h4, fun H4 ρ4 x4 rs4 => iteF ⟨ρ4, S4, (x2.trans x3).trans x4, rs4, e2⟩⟩
          · cases e2
    · cases e
  · cases e
end K50
set_option Elab.async false
set_option linter.all false
set_option maxRecDepth 100000
set_option maxHeartbeats 4000000
namespace K50
open PySem PySem.Spec PyProof.Rows L2

section
variable {X : Cx} {elt tg iter tg1 iter1 : Expr} {ifs ifs1 : List Expr} {scope : Scope} {own : List (Str × Nat)} {pos spos py : Pos} {fi fi1 : FI} {k k1 i : Nat} {tt tt1 : FB} {el : FE} {y : Str} {vs1 : List Nat}
/-- a comprehension, its one name in slot k -/
theorem ce_lc (hc : X.calm = true) (hN : X.N.Nodup) (hi : CI X tg iter fi) (ok : BlkOk X.N X.env.scope scope own) (hg : ∀ (s : Shared) (H : Hp) (C : Addr) (cl : List (Str × Addr)) (fp : List Addr), PG (X.blk s H scope (compEnvC scope cl C X.env) fp) tg (gName k))
    (ht : ∀ (s : Shared) (H : Hp) (C : Addr) (cl : List (Str × Addr)) (fp : List Addr), CTs (X.blk s H scope (compEnvC scope cl C X.env) fp) ifs tt)
    (he : ∀ (s : Shared) (H : Hp) (C : Addr) (cl : List (Str × Addr)) (fp : List Addr), CE (X.blk s H scope (compEnvC scope cl C X.env) fp) elt el) (hk : k ∈ own.map (·.2) := by decide) (hs : ∀ x, foldedSetIterable iter X.env x = pure x := by intro _; rfl) :
    CE X (.ListComp elt [⟨tg, iter, ifs, 0⟩] scope pos) (eLc fi k tt el (own.map (·.2))) :=
  PE.le (pe_lc hc hN hi ok hg ht he hs) fun σ H Q h => lc_to hk h
theorem set_of {P : Program} {w : World} {K : PySem.W.Frag} {D : Ends} {σ : L2.St} {H : Hp} {fe : FE} (h : tSt P w K (sSet i fe) D σ H) : tE P w K fe σ H fun x H1 => gName i x σ H1 D.nx := by
  obtain ⟨τ, ρ, S, fl, S', rs, sr, e, q⟩ := h
  unfold sSet at e
  split at e
  · rename_i d S1 h1
    cases e
    exact ⟨τ, ρ, S, d, _, rs, sr, h1, fun v H' ρ' x rs' a => q _ H' ρ' x rs' ((sr.ext rs x).set a i)⟩
  · cases e
theorem cs_setLc (hc : X.calm = true) (hN : X.N.Nodup) (hsw : swapsWith (.ListComp elt [⟨tg, iter, ifs, 0⟩] scope pos) (some (.Name y py)) spos.line X.env = pure true) (hi : CI X tg iter fi) (ok : BlkOk X.N X.env.scope scope own)
    (hg : ∀ (s : Shared) (H : Hp) (C : Addr) (cl : List (Str × Addr)) (fp : List Addr), PG (X.blk s H scope (compEnvC scope cl C X.env) fp) tg (gName k))
    (ht : ∀ (s : Shared) (H : Hp) (C : Addr) (cl : List (Str × Addr)) (fp : List Addr), CTs (X.blk s H scope (compEnvC scope cl C X.env) fp) ifs tt)
    (he : ∀ (s : Shared) (H : Hp) (C : Addr) (cl : List (Str × Addr)) (fp : List Addr), CE (X.blk s H scope (compEnvC scope cl C X.env) fp) elt el) (hy : X.N[i]? = some y := by rfl) (hyl : X.env.scope.names.lookup y = some .local := by rfl) (hk : k ∈ own.map (·.2) := by decide) (hs : ∀ x, foldedSetIterable iter X.env x = pure x := by intro _; rfl) :
    CS X (.Assign [.Name y py] (.ListComp elt [⟨tg, iter, ifs, 0⟩] scope pos) spos) (sSet i (eLc fi k tt el (own.map (·.2)))) :=
  PS.le (ps_setLc hc hN hy hyl hsw hi ok hg ht he hs) fun D σ H h => lc_to (Q := fun x H1 => gName i x σ H1 D.nx) hk (set_of h)
theorem ce_lc2 (hc : X.calm = true) (hN : X.N.Nodup) (hi : CI X tg iter fi) (ok : BlkOk X.N X.env.scope scope own) (hg : ∀ (s : Shared) (H : Hp) (C : Addr) (cl : List (Str × Addr)) (fp : List Addr), PG (X.blk s H scope (compEnvC scope cl C X.env) fp) tg (gName k))
    (ht : ∀ (s : Shared) (H : Hp) (C : Addr) (cl : List (Str × Addr)) (fp : List Addr), CTs (X.blk s H scope (compEnvC scope cl C X.env) fp) ifs tt)
    (hi1 : ∀ (s : Shared) (H : Hp) (C : Addr) (cl : List (Str × Addr)) (fp : List Addr), CI (X.blk s H scope (compEnvC scope cl C X.env) fp) tg1 iter1 fi1)
    (hg1 : ∀ (s : Shared) (H : Hp) (C : Addr) (cl : List (Str × Addr)) (fp : List Addr), PG (X.blk s H scope (compEnvC scope cl C X.env) fp) tg1 (gName k1))
    (ht1 : ∀ (s : Shared) (H : Hp) (C : Addr) (cl : List (Str × Addr)) (fp : List Addr), CTs (X.blk s H scope (compEnvC scope cl C X.env) fp) ifs1 tt1)
    (he : ∀ (s : Shared) (H : Hp) (C : Addr) (cl : List (Str × Addr)) (fp : List Addr), CE (X.blk s H scope (compEnvC scope cl C X.env) fp) elt el) (hv : ∀ i ∈ vs1, i ∈ own.map (·.2) := by decide) (hk : k ∈ own.map (·.2) := by decide) (hk1 : k1 ∈ vs1 := by decide)
    (hs : ∀ x, foldedSetIterable iter X.env x = pure x := by intro _; rfl) (hs1 : ∀ env x, foldedSetIterable iter1 env x = pure x := by intro _ _; rfl) :
    CE X (.ListComp elt [⟨tg, iter, ifs, 0⟩, ⟨tg1, iter1, ifs1, 0⟩] scope pos) (eLc2 fi k tt fi1 k1 tt1 el (own.map (·.2)) vs1) :=
  PE.le (pe_lc2 hc hN hi ok hv hg ht hi1 hg1 ht1 he hs hs1) fun σ H Q h => lc2_to hk hk1 h
theorem cs_setLc2 (hc : X.calm = true) (hN : X.N.Nodup) (hsw : swapsWith (.ListComp elt [⟨tg, iter, ifs, 0⟩, ⟨tg1, iter1, ifs1, 0⟩] scope pos) (some (.Name y py)) spos.line X.env = pure true) (hi : CI X tg iter fi) (ok : BlkOk X.N X.env.scope scope own)
    (hg : ∀ (s : Shared) (H : Hp) (C : Addr) (cl : List (Str × Addr)) (fp : List Addr), PG (X.blk s H scope (compEnvC scope cl C X.env) fp) tg (gName k))
    (ht : ∀ (s : Shared) (H : Hp) (C : Addr) (cl : List (Str × Addr)) (fp : List Addr), CTs (X.blk s H scope (compEnvC scope cl C X.env) fp) ifs tt)
    (hi1 : ∀ (s : Shared) (H : Hp) (C : Addr) (cl : List (Str × Addr)) (fp : List Addr), CI (X.blk s H scope (compEnvC scope cl C X.env) fp) tg1 iter1 fi1)
    (hg1 : ∀ (s : Shared) (H : Hp) (C : Addr) (cl : List (Str × Addr)) (fp : List Addr), PG (X.blk s H scope (compEnvC scope cl C X.env) fp) tg1 (gName k1))
    (ht1 : ∀ (s : Shared) (H : Hp) (C : Addr) (cl : List (Str × Addr)) (fp : List Addr), CTs (X.blk s H scope (compEnvC scope cl C X.env) fp) ifs1 tt1)
    (he : ∀ (s : Shared) (H : Hp) (C : Addr) (cl : List (Str × Addr)) (fp : List Addr), CE (X.blk s H scope (compEnvC scope cl C X.env) fp) elt el) (hy : X.N[i]? = some y := by rfl) (hyl : X.env.scope.names.lookup y = some .local := by rfl) (hv : ∀ i ∈ vs1, i ∈ own.map (·.2) := by decide) (hk : k ∈ own.map (·.2) := by decide) (hk1 : k1 ∈ vs1 := by decide)
    (hs : ∀ x, foldedSetIterable iter X.env x = pure x := by intro _; rfl) (hs1 : ∀ env x, foldedSetIterable iter1 env x = pure x := by intro _ _; rfl) :
    CS X (.Assign [.Name y py] (.ListComp elt [⟨tg, iter, ifs, 0⟩, ⟨tg1, iter1, ifs1, 0⟩] scope pos) spos) (sSet i (eLc2 fi k tt fi1 k1 tt1 el (own.map (·.2)) vs1)) :=
  PS.le (ps_setLc2 hc hN hy hyl hsw hi ok hv hg ht hi1 hg1 ht1 he hs hs1) fun D σ H h => lc2_to (Q := fun x H1 => gName i x σ H1 D.nx) hk hk1 (set_of h)
end

/-! ### methods of lists -/
def rM (P : Program) (w : World) (K : PySem.W.Frag) (g : D → List D → Sto → Option (D × Sto)) : V → List V → Hp → VK → Prop := fun x xs H Q => ∃ dx ds ρ S d S', RS P w K H ρ S ∧ At K H ρ x dx ∧ AtL K H ρ xs ds ∧ g dx ds S = some (d, S') ∧ WE P w K H ρ S' d Q
def isLst (d : D) (S : Sto) : Bool := match lstAt d S with
  | some _ => true
  | none => false
def eML (g : D → List D → Sto → Option (D × Sto)) (fo : FE) (fa : FA) : FE := fun τ S => match fo τ S with
  | some (x, S1) => if isLst x S1 then match fa τ S1 with
      | some (ds, S2) => g x ds S2
      | none => none
    else none
  | none => none
def gAppend (x : D) (ds : List D) (S : Sto) : Option (D × Sto) := match x, ds with
  | .ref r, [y] => match S[r]? with
    | some (.lst xs) => if short xs then some (.non, S.set r (.lst (xs ++ [y]))) else none
    | _ => none
  | _, _ => none
def gExtend (x : D) (ds : List D) (S : Sto) : Option (D × Sto) := match x, ds with
  | .ref r, [.ref q] => match S[r]?, S[q]? with
    | some (.lst xs), some (.lst ys) => if short (xs ++ ys) then some (.non, S.set r (.lst (xs ++ ys))) else none
    | _, _ => none
  | _, _ => none
section
variable {X : Cx}
variable {P : Program} {w : World} {K : PySem.W.Frag} {H : Hp} {ρ : List Addr} {S S' : Sto}
theorem RS.setLst (rs : RS P w K H ρ S) {r : Nat} {a : Addr} {xs zs : List V} {ds es : List D} (hi : ρ[r]? = some a) (e0 : H a = some (.lst xs)) (l : AtL K H ρ zs es) : RS P w K (upd H a (.lst zs)) ρ (S.set r (.lst es)) ∧ Ext H ρ (upd H a (.lst zs)) ρ := by
  exact rs.write hi e0 (fun _ _ z => nomatch z) ⟨zs, upd_same, AtL.kp (rs.writeKp _ hi) _ _ l⟩
theorem mr_append : MtR X "list.append" (rM X.prog X.w X.K gAppend) := by
  intro pins s σ H x xs v us Q I rx rs' h
  obtain ⟨dx, ds, ρ, S, d, S', rs, ax, al, e, q⟩ := h
  unfold gAppend at e
  split at e
  · split at e
    · rename_i xs hxs
      split at e
      · rename_i hsh
        cases e
        cases ax with
        | ref hi =>
          obtain ⟨vs, e0, l⟩ := rs.lst hi hxs
          obtain ⟨z, rfl, az⟩ := al1 al
          obtain ⟨rs2, x2⟩ := rs.setLst (ds := xs) hi e0 (l.append (AtL.one az))
          refine mt_append pins s σ H _ _ v us Q I rx rs' ⟨_, vs, z, rfl, rfl, e0, ?_, q _ _ ρ x2 rs2 .non⟩
          have := short_le hsh
          rw [l.length, sizeLine_eq]
          omega
      · cases e
    · cases e
  · cases e
theorem mr_extend : MtR X "list.extend" (rM X.prog X.w X.K gExtend) := by
  intro pins s σ H x xs v us Q I rx rs' h
  obtain ⟨dx, ds, ρ, S, d, S', rs, ax, al, e, q⟩ := h
  unfold gExtend at e
  split at e
  · split at e
    · rename_i xs ys hxs hys
      split at e
      · rename_i hsh
        cases e
        cases ax with
        | ref hi =>
          obtain ⟨vs, e0, l⟩ := rs.lst hi hxs
          obtain ⟨z, rfl, az⟩ := al1 al
          cases az with
          | ref hj =>
            obtain ⟨ws, e1, l1⟩ := rs.lst hj hys
            obtain ⟨rs2, x2⟩ := rs.setLst (ds := xs) hi e0 (l.append l1)
            refine mt_extend pins s σ H _ _ v us Q I rx rs' ⟨_, _, vs, ws, rfl, rfl, e0, e1, ?_, q _ _ ρ x2 rs2 .non⟩
            have := short_le hsh
            rw [List.length_append] at this
            rw [l.length, l1.length, sizeLine_eq]
            omega
      · cases e
    · cases e
  · cases e
theorem ce_ml {o e : Expr} {es : List Expr} {name : Str} {id : String} {g : D → List D → Sto → Option (D × Sto)} {fo : FE} {fr : FA} {apos cpos : Pos} (slot : Slot "list" name id) (hty : typeOf (.builtin id) = pure (.type "method_descriptor")) (hm : MtR X id (rM X.prog X.w X.K g)) (ho : CE X o fo) (ha : CA X (e :: es) fr)
    (hbase : attributeBase o name X.env (eval o X.env) = eval o X.env := by rfl)
    (hfew : ((backTo cpos (starEach (e :: es) X.env)).all (fun x => !x.1) && (backToKw cpos (keywordEach [] X.env)).all (fun x => x.1.isSome)
      && decide ((e :: es).length + ([] : List Keyword).length + (if ([] : List Keyword).isEmpty then 0 else 1) < 30)) = true := by rfl)
    (hline : (apos.endLine == cpos.line) = true := by rfl) (hs : starEach (e :: es) X.env = (false, eval e X.env) :: starEach es X.env := by rfl) (hplain : (backTo cpos (starEach es X.env)).any (·.1) = false := by rfl) :
    CE X (.Call (.Attribute o name apos) (e :: es) [] cpos) (eML g fo fr) := by
  refine PE.le (pe_bm PySem.F.plainAttrs_list slot hty hm ho ha hbase hfew hline hs hplain) fun σ H Q h => ?_
  obtain ⟨τ, ρ, S, d, S', rs, sr, e, q⟩ := h
  unfold eML at e
  split at e
  · rename_i x S1 h1
    split at e
    · rename_i hl
      split at e
      · rename_i ds S2 h2
        refine ⟨τ, ρ, S, x, S1, rs, sr, h1, fun v H1 ρ1 x1 rs1 a1 => ⟨?_, τ, ρ1, S1, ds, S2, rs1, sr.ext rs x1, h2, fun xs H2 ρ2 x2 rs2 al => ?_⟩⟩
        · unfold isLst at hl
          split at hl
          · rename_i ys hys
            obtain ⟨a, vs, rfl, e0, _⟩ := lstAt_of rs1 a1 hys
            exact .inl ⟨rfl, _, SqL.of e0⟩
          · cases hl
        · exact ⟨x, ds, ρ2, S2, d, S', rs2, At.kp (rs1.kp x2) _ _ a1, al, e, q.to (x1.trans x2)⟩
      · cases e
    · cases e
  · cases e
end
end K50
set_option Elab.async false
set_option linter.all false
set_option maxRecDepth 100000
set_option maxHeartbeats 4000000
namespace K50
open PySem PySem.Spec PyProof.Rows L2

/-! ### lists and tuples walked; small helps -/
section
variable {X : Cx} {tg iter : Expr}
def iSq (K : PySem.W.Frag) (tl : TE) : TI := fun σ H R => tl σ H fun x H1 => ∃ a, x = .ref a ∧ (((∃ xs, SqL K H1 a xs) ∧ R (Itl K a) H1) ∨ ((∃ xs, SqT K H1 a xs) ∧ R (Itt K a) H1))
theorem pi_sq {l : Expr} {tl : TE} (hl : PE X l tl) : PI X tg l (iSq X.K tl) := by
  refine ⟨fun pins s σ H R I h => ?_⟩
  refine thn (hl.run pins s σ H _ I h) fun v s1 ⟨x, H1, I1, r1, q1⟩ => ?_
  obtain ⟨a, e, ⟨⟨xs, hq⟩, q⟩ | ⟨⟨xs, hq⟩, q⟩⟩ := q1
  · subst e
    cases r1
    obtain ⟨its, rv, p, hz⟩ := I1.list hq
    refine wpAny_pyIter_list p.isList ?_
    refine ⟨s1.heap.objs.size, [s1.heap.objs.size], _, _, H1, rfl, I1.kept (t' := s1.toks) fun b o e => Heap.get?_push_of_some _ e, turn_list a _, ⟨_, Heap.get?_push_size _ rfl, rfl, rfl⟩, fun b hb => ?_, q⟩
    have e : b = s1.heap.objs.size := by simpa using hb
    subst e
    exact I1.fpOk (Nat.le_refl _) (I1.hok.fresh (Nat.le_refl _))
  · subst e
    cases r1
    obtain ⟨its, rv, p, hz⟩ := I1.tuple hq
    refine wpAny_pyIter_tuple (show s1.heap.IsTuple a its.toArray from p) ?_
    refine ⟨s1.heap.objs.size, [s1.heap.objs.size], _, _, H1, rfl, I1.kept (t' := s1.toks) fun b o e => Heap.get?_push_of_some _ e, turn_tuple a _, ⟨_, Heap.get?_push_size _ rfl, rfl, rfl⟩, fun b hb => ?_, q⟩
    have e : b = s1.heap.objs.size := by simpa using hb
    subst e
    exact I1.fpOk (Nat.le_refl _) (I1.hok.fresh (Nat.le_refl _))
/-- a list or a tuple -/
def iAny (f : FE) : FI := fun τ S => match f τ S with
  | some (.tup ds, S1) => some (nxTup ds, ds.length, S1)
  | some (.ref r, S1) => match S1[r]? with
    | some (.lst ds) => some (nxLst r, ds.length, S1)
    | _ => none
  | _ => none
variable {f : FE} {P : Program} {w : World} {K : PySem.W.Frag} {H H1 : Hp} {ρ ρ1 : List Addr} {S S' : Sto} {ds : List D} {vs : List V}
theorem itok_lst {a : Addr} {r : Nat} (hi : ρ1[r]? = some a) : ItOk P w K H1 ρ1 (nxLst r) (Itl K a) := by
  intro i H2 ρ2 S2 x2 rs2
  have hi2 := x2.pre hi
  unfold nxLst
  constructor
  · intro e
    split at e
    · rename_i es hes
      have e : es[i]? = none := Option.some.inj e
      obtain ⟨us, e1, l1⟩ := rs2.lst hi2 hes
      exact ⟨us, .of e1, by rw [l1.length]; exact List.getElem?_eq_none_iff.mp e⟩
    · cases e
  · intro d e
    split at e
    · rename_i es hes
      have e : es[i]? = some d := Option.some.inj e
      obtain ⟨us, e1, l1⟩ := rs2.lst hi2 hes
      obtain ⟨v, hv, av⟩ := l1.get e
      refine ⟨⟨us, v, .of e1, hv⟩, fun x H3 y => ?_⟩
      obtain ⟨rfl, y⟩ := y
      have ex := y us (.of e1)
      rw [hv] at ex
      cases ex
      exact ⟨Ext.refl, rs2, av⟩
    · cases e
theorem ci_any (h : CE X iter f) : CI X tg iter (iAny f) := by
  refine PI.le (pi_sq h) fun σ H R h => ?_
  obtain ⟨τ, ρ, S, nx, n, S', rs, sr, e, q⟩ := h
  unfold iAny at e
  split at e
  · rename_i ds S1 h1
    cases e
    refine ⟨τ, ρ, S, .tup ds, _, rs, sr, h1, fun v H1 ρ1 x1 rs1 a1 => ?_⟩
    cases a1 with
    | tup ht l =>
      refine ⟨_, rfl, .inr ⟨⟨_, ht⟩, q _ H1 ρ1 x1 rs1 (itok_tup rs1 ht l fun H2 ρ2 S2 x2 rs2 => ?_)⟩⟩
      have kp := rs1.kp x2
      exact ⟨kp.sqT ht, AtL.kp kp _ _ l⟩
  · rename_i r S1 h1
    split at e
    · rename_i ds hs
      cases e
      refine ⟨τ, ρ, S, .ref r, _, rs, sr, h1, fun v H1 ρ1 x1 rs1 a1 => ?_⟩
      cases a1 with
      | ref hi =>
        obtain ⟨vs, e0, l⟩ := rs1.lst hi hs
        exact ⟨_, rfl, .inl ⟨⟨_, .of e0⟩, q _ H1 ρ1 x1 rs1 (itok_lst hi)⟩⟩
    · cases e
  · cases e
end
theorem u65 {k : Nat} {A : Around} (r : Room k A) : A.units + 65 < cLine := by have := r.un; omega
/-- a def that stands at the top -/
structure DefAt (K : PySem.W.Frag) (mg : Str → Option Value) (x : Str) (st : Stmt) (ps : List Str) where
  f : Addr
  fd : FuncData
  F : Fun K x x st f fd
  g : mg x = some (.ref f)
  b : Binds K fd ps []
theorem fn_none {P : Program} {w : World} {K : PySem.W.Frag} {mg : Str → Option Value} {base : Heap} {k : Nat} {f : Addr} {fd : FuncData} {ps : List Str} (h : ps.length = n) : FnOk P w K mg base CX0 k f fd ps (spF P w K n fun _ _ => none) :=
  ⟨fun vs H Q E q => by rw [h]; exact q.1, fun A outer s H args us vs Q E hr e0 hb r q => by
    obtain ⟨_, ds, ρ, S, d, S', rs, al, e, q⟩ := q
    cases e⟩
end K50
set_option Elab.async false
set_option linter.all false
set_option maxRecDepth 100000
set_option maxHeartbeats 4000000
namespace PySem
open Sem (wp)
open AutoSeq1 (wpAny_loadPart')
theorem k50_enumerate_newT (l : Addr) (items : Array Value) (n : Nat) (dct : Option Addr) (sl : Array (Option Value)) :
    Meets (Builtin.«enumerate.__new__» ⟨[.type "enumerate", .ref l], []⟩) (fun _ R s => s.heap.get? l = some { cls := .type "tuple", dict := dct, data := .seq items n, slots := sl } ∧
      R (.ok (.ret (.ref (s.heap.push { cls := .type "tuple_iterator", data := .fields #[.ref l, .int 0 0] }).objs.size)))
        { s with heap := (s.heap.push { cls := .type "tuple_iterator", data := .fields #[.ref l, .int 0 0] }).push { cls := .type "enumerate", data := .fields #[.none, .bool false, .ref s.heap.objs.size, rawInt 0, .none, .none] } }) :=
  .of_wp fun prog w A R s h => by
    obtain ⟨hp, g, d, tk, os⟩ := s; obtain ⟨hl, h⟩ := h
    have hsub := sub_enumerate
    have hL : Heap.IsTuple (Shared.heap ⟨hp, g, d, tk, os⟩) l items := ⟨_, hl, rfl, n, rfl⟩
    wp_walk using wpAny_loadPart' hl
    refine wpAny_stack_any fun st => wpAny_pure ?_
    split
    · rename_i c _ _ _ _ _
      cases (c == Value.type "enumerate")
      · wp_walk using wpAny_loadPart' hl, wpAny_pyIter_tuple hL
        exact ⟨_, rfl, h⟩
      · wp_walk using wpAny_loadPart' hl, wpAny_pyIter_tuple hL
        exact ⟨_, rfl, h⟩
    · wp_walk using wpAny_loadPart' hl, wpAny_pyIter_tuple hL
      exact ⟨_, rfl, h⟩
section
variable {prog : Program} {w : World} {A : Around} {E : Value → Shared → Prop} {s : Shared}
theorem k50_enumerate_tup {l : Addr} {items : Array Value} {Q : Value → Shared → Prop} (hL : s.heap.IsTuple l items)
    (h : ∀ h', IsEnum h' (s.heap.objs.size + 1) s.heap.objs.size 0 .none → h'.IsTupleIter s.heap.objs.size l 0 → h'.objs.size = s.heap.objs.size + 2 →
      (∀ b o, s.heap.get? b = some o → h'.get? b = some o) → Q (.ref (s.heap.objs.size + 1)) { s with heap := h' }) :
    wpAny (model prog w) A (call (.type "enumerate") [.ref l]) Q E s := by
  obtain ⟨⟨c, dct, dt, sl⟩, hl, hc, n, hd⟩ := hL
  replace hc : c = .type "tuple" := hc
  replace hd : dt = .seq items n := hd
  subst hc hd
  refine callType_new F.called_enumerate (by decide) (F.typeCall_enumerate_1 _) (F.newCall_enumerate_1 _) (fun obj => F.args_object_init_2 obj _) F.entry_enumerate_new
    (k50_enumerate_newT l items n dct sl) ⟨hl, ?_⟩
  have hz : (s.heap.push { cls := .type "tuple_iterator", data := .fields #[.ref l, .int 0 0] }).objs.size = s.heap.objs.size + 1 := Heap.size_push ..
  show _ ∧ _
  rw [hz]
  have he : IsEnum ((s.heap.push { cls := .type "tuple_iterator", data := .fields #[.ref l, .int 0 0] }).push
      { cls := .type "enumerate", data := .fields #[.none, .bool false, .ref s.heap.objs.size, rawInt 0, .none, .none] }) (s.heap.objs.size + 1) s.heap.objs.size 0 .none := by
    have := Heap.get?_push_size (s.heap.push { cls := .type "tuple_iterator", data := .fields #[.ref l, .int 0 0] })
      (o := { cls := .type "enumerate", data := .fields #[.none, .bool false, .ref s.heap.objs.size, rawInt 0, .none, .none] }) rfl
    rw [hz] at this; exact this
  refine ⟨⟨_, he, rfl⟩, h _ he ⟨_, Heap.get?_push_of_some _ (Heap.get?_push_size _ rfl), rfl, rfl⟩ (by rw [Heap.size_push, hz]) fun b o x => Heap.get?_push_of_some _ (Heap.get?_push_of_some _ x)⟩
end
end PySem
namespace K50
open PySem PySem.Spec PyProof.Rows L2
/-- the tuple at a, each item in a new pair -/
def IteT (K : PySem.W.Frag) (a : Addr) : It :=
  ⟨fun i H => ∃ (xs : List V) (x : V), SqT K H a xs ∧ xs[i]? = some x, fun i H v H' => ∃ T x, v = .ref T ∧ H T = none ∧ H' = upd H T (.tup [.int (i : Nat), x]) ∧ ∀ xs, SqT K H a xs → xs[i]? = some x, fun i H => ∃ xs : List V, SqT K H a xs ∧ xs.length = i⟩
theorem turn_enumT {P : Program} {w : World} {K : PySem.W.Frag} {elts : List Expr} {kk : Nat} {tpos : Pos} (a e it : Addr) :
    Turn P w K (.Tuple elts kk tpos) (IteT K a) [e, it] e (fun i h => (∃ old, IsEnum h e it ((i : Nat) : Int) old) ∧ h.IsTupleIter it a i ∧ e ≠ it) where
  mem := by simp
  obj := fun i h st b hb => by
    obtain ⟨⟨old, he⟩, ⟨o, ho, hc, hd⟩, _⟩ := st
    have e' : b = e ∨ b = it := by simpa using hb
    rcases e' with z | z
    · rw [z]; exact ⟨_, he, fun v q => nomatch q⟩
    · rw [z]; exact ⟨o, ho, fun v q => by rw [hd] at q; cases q⟩
  keep := fun i h h' st k => let ⟨⟨old, he⟩, hi, hne⟩ := st; ⟨⟨old, k e (by simp) _ he⟩, hi.at fun o q => k it (by simp) o q, hne⟩
  item := by
    intro X hP hw hK hc i pins s σ H E I hf st hg
    subst hP hw hK
    obtain ⟨⟨old, he⟩, hit, hne⟩ := st
    obtain ⟨xs, x, hq, hx⟩ := hg
    obtain ⟨its, rv, p, hz⟩ := I.tuple hq
    obtain ⟨u, hu, ru⟩ := rv.get hx
    have hel : e < s.heap.objs.size := Heap.lt_size he
    have hil : it < s.heap.objs.size := by obtain ⟨_, q, _⟩ := hit; exact Heap.lt_size q
    have hat : a ≠ it := fun z => by
      obtain ⟨o, ho, hc1, _⟩ := hit
      obtain ⟨o2, ho2, hc2, _⟩ := p
      rw [z, ho] at ho2
      cases ho2
      rw [hc1] at hc2
      exact absurd hc2 (by decide)
    have hae : a ≠ e := fun z => by
      obtain ⟨o2, ho2, hc2, _⟩ := p
      have he2 := he
      unfold IsEnum at he2
      rw [z, he2] at ho2
      cases ho2
      exact absurd (show Value.type "enumerate" = Value.type "tuple" from hc2) (by decide)
    have hlt : i < its.length := by
      rw [← rv.length]
      exact (List.getElem?_eq_some_iff.mp hx).1
    refine wpAny_pyNext_enum_itemD (Draws.tuple (prog := X.prog) (w := X.w) (A := X.A.in1) (I.ok.hd hc) it a hat its.toArray) he ⟨hit, p⟩ (by simpa using hlt) hne (by simp [hne, Ne.symm hae]) fun y h' tk hy ho hst' hT hsz hk => ?_
    have ey : y = u := by
      have h1 : its[i]? = some y := by simpa using hy
      rw [hu] at h1
      exact (Option.some.inj h1).symm
    subst ey
    refine ⟨_, rfl, wpAny_letOwnedTupleGo_enum (s := { s with heap := h', toks := tk + 1 }) ho fun h'' he' sb => ?_⟩
    have hT2 : h''.get? s.heap.objs.size = some { cls := .type "tuple", data := .seq #[.int i tk, y] } := (sb.2 _ (Nat.ne_of_gt hel)).trans hT
    have new : ObjOk X.prog X.w (upd H s.heap.objs.size (.tup [.int (i : Nat), x])) h'' s.heap.objs.size (.tup [.int (i : Nat), x]) :=
      ⟨by show 2 ≤ sizeLine; decide, [.int i tk, y], .cons ⟨_, rfl⟩ (.cons ru .nil), ⟨_, hT2, rfl, _, rfl⟩⟩
    have I1 : Inv X pins σ (upd H s.heap.objs.size (.tup [.int (i : Nat), x])) { s with heap := h'', toks := tk + 1 } :=
      I.turnedNew (ch := [e, it]) (fun b ob hb q => (sb.2 b (fun z => hb (by simp [z]))).trans (hk b ob (fun z => hb (by simp [z])) (fun z => hb (by simp [z])) q)) hf (Nat.le_refl _) new
    refine ⟨.ref s.heap.objs.size, _, I1, rfl, ⟨_, x, rfl, I.hok.fresh (Nat.le_refl _), rfl, fun ys hy => by rw [I.tuple_inj hy hq]; exact hx⟩, ⟨⟨y, ?_⟩, hst'.1.at fun o q => (sb.2 it (Ne.symm hne)).trans q, hne⟩, fun b hb => ?_⟩
    · have e1 : ((i + 1 : Nat) : Int) = (i : Int) + 1 := by omega
      rw [e1]; exact he'
    · have hb' : b < s.heap.objs.size := by
        have e' : b = e ∨ b = it := by simpa using hb
        rcases e' with z | z
        · rw [z]; exact hel
        · rw [z]; exact hil
      rw [upd_ne (Nat.ne_of_lt hb')]
      exact (hf b hb).1
  done := by
    intro X hP hw hK hc i pins s σ H E I hf st hg
    subst hP hw hK
    obtain ⟨⟨old, he⟩, hit, hne⟩ := st
    obtain ⟨xs, hq, hx⟩ := hg
    obtain ⟨its, rv, p, hz⟩ := I.tuple hq
    obtain ⟨f0, f1, f2, f3, f4, f5⟩ := hf it (by simp)
    have hl := rv.length
    have hat : a ≠ it := fun z => by
      obtain ⟨o, ho, hc1, _⟩ := hit
      obtain ⟨o2, ho2, hc2, _⟩ := p
      rw [z, ho] at ho2
      cases ho2
      rw [hc1] at hc2
      exact absurd hc2 (by decide)
    have hi : i = its.toArray.size := by rw [List.size_toArray]; omega
    refine wpAny_pyNext_enum_endD (Draws.tuple (prog := X.prog) (w := X.w) (A := X.A.in1) (I.ok.hd hc) it a hat its.toArray) he (by rw [← hi]; exact ⟨hit, p⟩) fun h' eb => ⟨rfl, I.turned (t' := s.toks) (fun b o hb q => eb b o hb q) f0 f1 f3 f4 f5⟩
  self := fun A i s Q E st h => let ⟨⟨_, he⟩, _⟩ := st; wpAny_pyIter_enum he h
/-! enumerate of a list or a tuple -/
def iEnA (K : PySem.W.Frag) (ta : TA) : TI := fun σ H R => ta σ H fun vs H1 => ∃ a xs, vs = [.ref a] ∧ ((SqL K H1 a xs ∧ R (Ite K a) H1) ∨ (SqT K H1 a xs ∧ R (IteT K a) H1))
theorem pi_enumA {X : Cx} {e : Expr} {ta : TA} {p pos tpos : Pos} {elts : List Expr} {kk : Nat} (hg : Gl X "enumerate") (hm : X.mg "enumerate" = none) (ha : PA X [e] ta) (hs : starEach [e] X.env = [(false, eval e X.env)] := by rfl) :
    PI X (.Tuple elts kk tpos) (.Call (.Name "enumerate" p) [e] [] pos) (iEnA X.K ta) := by
  refine ⟨fun pins s σ H R I h => ?_⟩
  refine Call_ (ld_blt I hg hm boot_enumerate (PyProof.Rows.callWith_type1 (thn (ha.run pos pins s σ H _ I h) fun us s1 ⟨vs, H1, I1, r1, q1⟩ => ?_) hs rfl))
  have fin : ∀ {b : Addr}, (b = s1.heap.objs.size + 1 ∨ b = s1.heap.objs.size) → FpOk X pins H1 b := fun {b} e' => by
    have hle : s1.heap.objs.size ≤ b := by
      rcases e' with z | z
      · rw [z]; exact Nat.le_add_right _ _
      · rw [z]; exact Nat.le_refl _
    exact I1.fpOk hle (I1.hok.fresh hle)
  obtain ⟨a, xs, ex, ⟨hq, q⟩ | ⟨hq, q⟩⟩ := q1
  · subst ex
    cases r1 with
    | cons r rr =>
      cases rr
      cases r
      obtain ⟨its, rv, p', hz⟩ := I1.list hq
      refine call_enumerate_list p'.isList fun h' he hit hsz hk => wpAny_pyIter_enum he ?_
      have I2 : Inv X pins σ H1 { s1 with heap := h' } := I1.kept (t' := s1.toks) hk
      exact ⟨s1.heap.objs.size + 1, [s1.heap.objs.size + 1, s1.heap.objs.size], _, _, H1, rfl, I2, turn_enum a (s1.heap.objs.size + 1) s1.heap.objs.size, ⟨⟨.none, he⟩, hit, Nat.succ_ne_self _⟩, fun b hb => fin (by simpa using hb), q⟩
  · subst ex
    cases r1 with
    | cons r rr =>
      cases rr
      cases r
      obtain ⟨its, rv, p', hz⟩ := I1.tuple hq
      refine k50_enumerate_tup p' fun h' he hit hsz hk => wpAny_pyIter_enum he ?_
      have I2 : Inv X pins σ H1 { s1 with heap := h' } := I1.kept (t' := s1.toks) hk
      exact ⟨s1.heap.objs.size + 1, [s1.heap.objs.size + 1, s1.heap.objs.size], _, _, H1, rfl, I2, turn_enumT a (s1.heap.objs.size + 1) s1.heap.objs.size, ⟨⟨.none, he⟩, hit, Nat.succ_ne_self _⟩, fun b hb => fin (by simpa using hb), q⟩
def prE (ds : List D) (i : Nat) : Option (Option D) := match ds[i]? with
  | some d => some (some (.tup [.int (i : Nat), d]))
  | none => if Nat.beq i ds.length then some none else none
def nxEnT (ds : List D) : Nx := fun i _ => prE ds i
def nxEnL (r : Nat) : Nx := fun i S => match S[r]? with
  | some (.lst ds) => prE ds i
  | _ => none
def iEn (f : FE) : FI := fun τ S => match f τ S with
  | some (.tup ds, S1) => some (nxEnT ds, ds.length, S1)
  | some (.ref r, S1) => match S1[r]? with
    | some (.lst ds) => some (nxEnL r, ds.length, S1)
    | _ => none
  | _ => none
theorem prE_stop {ds : List D} {i : Nat} (e : prE ds i = some none) : ds.length = i := by
  unfold prE at e
  split at e
  · cases e
  · split at e
    · rename_i h
      exact (Nat.eq_of_beq_eq_true h).symm
    · cases e
theorem prE_go {ds : List D} {i : Nat} {d : D} (e : prE ds i = some (some d)) : ∃ z, ds[i]? = some z ∧ d = .tup [.int (i : Nat), z] := by
  unfold prE at e
  split at e
  · rename_i z hz
    cases e
    exact ⟨z, hz, rfl⟩
  · split at e <;> cases e
theorem ci_enum {X : Cx} {a : Expr} {f : FE} {p pos tpos : Pos} {elts : List Expr} {kk : Nat} (hg : Gl X "enumerate") (hm : X.mg "enumerate" = none) (h : CE X a f) (hs : starEach [a] X.env = [(false, eval a X.env)] := by rfl) : CI X (.Tuple elts kk tpos) (.Call (.Name "enumerate" p) [a] [] pos) (iEn f) := by
  refine PI.le (pi_enumA hg hm (pa_cons h pa_nil (by rw [hs]; rfl)) hs) fun σ H R h => ?_
  obtain ⟨τ, ρ, S, nx, n, S', rs, sr, e, q⟩ := h
  unfold iEn at e
  split at e
  · rename_i ds S1 h1
    cases e
    refine ⟨τ, ρ, S, .tup ds, _, rs, sr, h1, fun v H1 ρ1 x1 rs1 a1 => ?_⟩
    cases a1 with
    | tup ht l =>
      rename_i al vs
      refine ⟨al, vs, rfl, .inr ⟨ht, q _ H1 ρ1 x1 rs1 fun i H2 ρ2 S2 x2 rs2 => ?_⟩⟩
      have kp := rs1.kp x2
      have h2 := kp.sqT ht
      have l2 := AtL.kp kp _ _ l
      refine ⟨fun e => ⟨vs, h2, by rw [l2.length]; exact prE_stop e⟩, fun d e => ?_⟩
      obtain ⟨z, hz, rfl⟩ := prE_go e
      obtain ⟨v, hv, av⟩ := l2.get hz
      refine ⟨⟨vs, v, h2, hv⟩, fun x H3 y => ?_⟩
      obtain ⟨T, x', rfl, hT, rfl, hx⟩ := y
      have ex := hx vs h2
      rw [hv] at ex
      cases ex
      obtain ⟨rs3, x3⟩ := rs2.new (o := .tup [.int (i : Nat), v]) hT
      exact ⟨x3, rs3, .tup (.of upd_same) (.cons (.int _) (.cons (At.kp (rs2.kp x3) _ _ av) .nil))⟩
  · rename_i r S1 h1
    split at e
    · rename_i ds hs
      cases e
      refine ⟨τ, ρ, S, .ref r, _, rs, sr, h1, fun v H1 ρ1 x1 rs1 a1 => ?_⟩
      cases a1 with
      | ref hi =>
        rename_i al
        obtain ⟨vs, e0, l⟩ := rs1.lst hi hs
        refine ⟨al, vs, rfl, .inl ⟨.of e0, q _ H1 ρ1 x1 rs1 fun i H2 ρ2 S2 x2 rs2 => ?_⟩⟩
        have hi2 := x2.pre hi
        unfold nxEnL
        constructor
        · intro e
          split at e
          · rename_i es hes
            obtain ⟨us, e1, l1⟩ := rs2.lst hi2 hes
            exact ⟨us, .of e1, by rw [l1.length, prE_stop e]; exact Nat.le_refl _⟩
          · cases e
        · intro d e
          split at e
          · rename_i es hes
            obtain ⟨us, e1, l1⟩ := rs2.lst hi2 hes
            obtain ⟨z, hz, rfl⟩ := prE_go e
            obtain ⟨v, hv, av⟩ := l1.get hz
            refine ⟨⟨us, v, .of e1, hv⟩, fun x H3 y => ?_⟩
            obtain ⟨T, x', rfl, hT, rfl, hx⟩ := y
            have ex := hx us (.of e1)
            rw [hv] at ex
            cases ex
            obtain ⟨rs3, x3⟩ := rs2.new (o := .tup [.int (i : Nat), v]) hT
            exact ⟨x3, rs3, .tup (.of upd_same) (.cons (.int _) (.cons (At.kp (rs2.kp x3) _ _ av) .nil))⟩
          · cases e
    · cases e
  · cases e
end K50
set_option Elab.async false
set_option linter.all false
set_option maxRecDepth 100000
set_option maxHeartbeats 4000000
namespace K50
open PySem PySem.Spec PyProof.Rows L2

/-! ### a method of a value whose class the reading tells -/
section
variable {X : Cx}
theorem pe_bmT {o e : Expr} {es : List Expr} {to : TE} {t : TA} {name : Str} {apos cpos : Pos} {T id : String} {r : V → List V → Hp → VK → Prop} {ty : V → Hp → Prop} (pa : PlainAttrs T) (slot : Slot T name id) (hty : typeOf (.builtin id) = pure (.type "method_descriptor"))
    (hT : ∀ (pins : List (Addr × Obj)) (σ : L2.St) (H : Hp) (s : Shared) (x : V) (v : Value), Inv X pins σ H s → RelV x v → ty x H → s.TypeIs v T ∧ ∀ a, v = .ref a → ∃ ob, s.heap.get? a = some ob ∧ ob.dict = none)
    (hm : MtR X id r) (ho : PE X o to) (ha : PA X (e :: es) t)
    (hbase : attributeBase o name X.env (eval o X.env) = eval o X.env := by rfl)
    (hfew : ((backTo cpos (starEach (e :: es) X.env)).all (fun x => !x.1) && (backToKw cpos (keywordEach [] X.env)).all (fun x => x.1.isSome)
      && decide ((e :: es).length + ([] : List Keyword).length + (if ([] : List Keyword).isEmpty then 0 else 1) < 30)) = true := by rfl)
    (hline : (apos.endLine == cpos.line) = true := by rfl) (hs : starEach (e :: es) X.env = (false, eval e X.env) :: starEach es X.env := by rfl) (hplain : (backTo cpos (starEach es X.env)).any (·.1) = false := by rfl) :
    PE X (.Call (.Attribute o name apos) (e :: es) [] cpos) (fun σ H Q => to σ H fun x H1 => ty x H1 ∧ t σ H1 fun xs H2 => r x xs H2 Q) := by
  refine ⟨fun pins s σ H Q I h => ?_⟩
  refine wpAny_Call_method_late hbase hfew hline rfl (thn (ho.run pins s σ H _ I h) fun v s1 ⟨x, H1, I1, r1, ty, q1⟩ => ?_)
  obtain ⟨h1, h2⟩ := hT _ _ _ _ _ _ I1 r1 ty
  refine ⟨T, id, pa, slot, hty, h1, h2, ?_⟩
  have hA := ha.run cpos pins s1 σ H1 _ I1 q1
  rw [hs] at hA ⊢
  refine Calls.callWith_builtin (by show (false || (backTo cpos (starEach es X.env)).any (·.1)) = false; rw [hplain] <;> rfl) (Calls.evalArgs_plain ?_)
  exact thn hA fun us s2 ⟨vs, H2, I2, r2, q2⟩ => hm pins s2 σ H2 x vs v us Q I2 r1 r2 q2

/-! ### a tuple joined, its object known -/
def rCatN (K : PySem.W.Frag) : R2 := fun x y H Q => ∃ a b xs ys, x = .ref a ∧ y = .ref b ∧ SqT K H a xs ∧ SqT K H b ys ∧ xs ≠ [] ∧ ys ≠ [] ∧ (xs ++ ys).length ≤ sizeLine ∧ ∀ p o, H p = none → o.dict = none → Q (.ref p) (upd H p (.frz o (.tup (xs ++ ys))))
theorem op_catN : OpR X (binaryOp .Add) (rCatN X.K) := by
  intro pins s σ H x y v u Q I rx ry h
  obtain ⟨a, b, xs, ys, rfl, rfl, ha, hb, hx, hy, hz, q2⟩ := h
  cases rx
  cases ry
  obtain ⟨its, r1, p1, _⟩ := I.tuple ha
  obtain ⟨its2, r2, p2, _⟩ := I.tuple hb
  refine HT.cat_tup p1 p2 (fun z => hx (r1.nil_iff.mp z)) (fun z => absurd (r2.nil_iff.mp z) hy) (fun z => ?_) (by rw [← r1.length, ← r2.length, ← List.length_append]; exact hz)
  refine ⟨.ref s.heap.objs.size, _, I.laid (t' := s.toks) (o := .frz _ (.tup (xs ++ ys))) (fun b ob q => Heap.get?_push_of_some _ q) (Nat.le_refl _) ⟨Heap.get?_push_size _ rfl, ?_⟩, rfl, q2 _ _ (I.hok.fresh (Nat.le_refl _)) rfl⟩
  exact ⟨hz, _, r1.append r2, IsTup.new _ _⟩
end
def dTpl (ds : List D) (S : Sto) : Option (D × Sto) := if short ds then some (.tpl ds, S) else none
def tupOf : D → Option (List D)
  | .tup ds => some ds
  | .tpl ds => some ds
  | _ => none
def gAddT (x y : D) (S : Sto) : Option (D × Sto) := match tupOf x, tupOf y with
  | some [], some b => dTup b S
  | some (a :: as), some (b :: bs) => dTpl ((a :: as) ++ (b :: bs)) S
  | _, _ => none
def gIxS : D → D → Sto → Option (D × Sto)
  | .tup ds, .int i, S => match atI ds i with
    | some d => some (d, S)
    | none => none
  | _, _, _ => none
def gCount (x : D) (ds : List D) (S : Sto) : Option (D × Sto) := match x, ds with
  | .tpl xs, [.int k] => match mapO intO xs with
    | some is => some (.int (is.count k : Nat), S)
    | none => none
  | _, _ => none
def eMT (g : D → List D → Sto → Option (D × Sto)) (fo : FE) (fa : FA) : FE := fun τ S => match fo τ S with
  | some (.tpl xs, S1) => match fa τ S1 with
    | some (ds, S2) => g (.tpl xs) ds S2
    | none => none
  | _ => none
section
variable {X : Cx}
variable {P : Program} {w : World} {K : PySem.W.Frag} {H : Hp} {ρ : List Addr} {S S' : Sto} {x y : V} {dx dy d : D} {Q : VK} {vs : List V} {ds : List D}
theorem tupOf_at (a : At K H ρ x d) (e : tupOf d = some ds) : ∃ p vs, x = .ref p ∧ SqT K H p vs ∧ AtL K H ρ vs ds := by
  cases a with
  | tup h l => cases e; exact ⟨_, _, rfl, h, l⟩
  | tpl h l => cases e; exact ⟨_, _, rfl, h.sq, l⟩
  | _ => cases e
theorem RS.newF (rs : RS P w K H ρ S) {p : Addr} {o : HO} (h : H p = none) : RS P w K (upd H p o) ρ S ∧ Ext H ρ (upd H p o) ρ := rs.new h
theorem or_addT : OpR X (binaryOp .Add) (rD X.prog X.w X.K gAddT) := by
  intro pins s σ H x y v u Q I rx ry h
  obtain ⟨dx, dy, ρ, S, d, S', rs, ax, ay, e, q⟩ := h
  unfold gAddT at e
  split at e
  · rename_i b hx hy
    obtain ⟨p1, vs1, rfl, h1, l1⟩ := tupOf_at ax hx
    obtain ⟨p2, vs2, rfl, h2, l2⟩ := tupOf_at ay hy
    cases l1
    have hz := dTup_short e
    rw [← l2.length] at hz
    refine op_catA pins s σ H _ _ v u Q I rx ry ⟨_, _, _, _, rfl, rfl, h1, h2, by rw [List.length_nil, Nat.zero_add]; exact line4000 hz, fun z => ?_, fun z => absurd rfl z, fun z => absurd rfl z⟩
    exact dTup_same rs e (.tup h2 l2) q
  · rename_i a as b bs hx hy
    obtain ⟨p1, vs1, rfl, h1, l1⟩ := tupOf_at ax hx
    obtain ⟨p2, vs2, rfl, h2, l2⟩ := tupOf_at ay hy
    unfold dTpl at e
    split at e
    · rename_i hs
      cases e
      have hz := short_le hs
      have l3 := l1.append l2
      rw [← l3.length] at hz
      refine op_catN pins s σ H _ _ v u Q I rx ry ⟨_, _, _, _, rfl, rfl, h1, h2, ?_, ?_, line4000 hz, fun p o hp hd => ?_⟩
      · cases l1; simp
      · cases l2; simp
      · obtain ⟨rs', xx⟩ := rs.new (o := .frz o (.tup (vs1 ++ vs2))) hp
        exact q _ _ ρ xx rs' (.tpl ⟨o, upd_same, hd⟩ (AtL.kp (rs.kp xx) _ _ l3))
    · cases e
  · cases e
theorem ir_seqS : IxR X (rD X.prog X.w X.K gIxS) := by
  intro value slice pins s σ H x y v u Q I rx ry h hs0
  obtain ⟨dx, dy, ρ, S, d, S', rs, ax, ay, e, q⟩ := h
  unfold gIxS at e
  split at e
  · split at e
    · rename_i d' hd
      cases e
      cases ay
      cases ax with
      | tup ht l =>
        obtain ⟨v', e1, a1⟩ := atI_at l hd
        exact ix_tup value slice pins s σ H _ _ v u Q I rx ry ⟨_, _, _, _, rfl, rfl, ht, e1, q _ H ρ Ext.refl rs a1⟩ hs0
    · cases e
  · cases e
theorem ce_ixS {a b : Expr} {fa fb : FE} {pos : Pos} (ha : CE X a fa) (hb : CE X b fb) (hs : PlainIx b := by intro _ _; rfl) : CE X (.Subscript a b pos) (e2 gIxS fa fb) :=
  PE.le (pe_ix ir_seqS ha hb hs) fun σ H Q h => t2 h fun _ _ _ q => q
def rCntT (K : PySem.W.Frag) : V → List V → Hp → VK → Prop := fun x xs H Q => ∃ (p : Addr) (ns : List Int) (k : Int), x = .ref p ∧ xs = [.int k] ∧ SqT K H p (ns.map V.int) ∧ Q (.int (ns.count k : Nat)) H
theorem mt_tcount : MtR X "tuple.count" (rCntT X.K) := by
  intro pins s σ H x xs v us Q I rx rxs h
  obtain ⟨p, ns, k, rfl, rfl, hs, q⟩ := h
  cases rx
  obtain ⟨u, rfl, ru⟩ := rxs.one
  obtain ⟨t, rfl⟩ := ru
  obtain ⟨its, rv, ⟨⟨cls, dd, data, sl⟩, ho, hc, n, hd⟩, hlen⟩ := I.tuple hs
  simp only at hc hd
  subst hc hd
  have hi := ints_of_vals rv
  refine call_meets PySem.F.slot_tuple_count ⟨_, ho, rfl⟩ PySem.F.entry_tuple_count (PySem.F.args_tuple_count_2 _ _)
    (SeqAt.tuple_countAt p its.toArray n dd sl (.int k t) (eqk k)) ⟨ho, fun y hy => (eqk_gives hi y (by simpa using hy)).at _ _, ?_⟩
  have ec : its.toArray.toList.countP (eqk k) = ns.count k := eqk_count hi
  refine ⟨.int (ns.count k : Nat), H, I.tok _, ⟨s.toks, ?_⟩, q⟩
  show Value.int ((its.toArray.toList.countP (eqk k) : Nat) : Int) s.toks = Value.int ((ns.count k : Nat) : Int) s.toks
  rw [ec]
theorem ce_count {o e : Expr} {es : List Expr} {fo : FE} {fr : FA} {apos cpos : Pos} (ho : CE X o fo) (ha : CA X (e :: es) fr)
    (hbase : attributeBase o "count" X.env (eval o X.env) = eval o X.env := by rfl)
    (hfew : ((backTo cpos (starEach (e :: es) X.env)).all (fun x => !x.1) && (backToKw cpos (keywordEach [] X.env)).all (fun x => x.1.isSome)
      && decide ((e :: es).length + ([] : List Keyword).length + (if ([] : List Keyword).isEmpty then 0 else 1) < 30)) = true := by rfl)
    (hline : (apos.endLine == cpos.line) = true := by rfl) (hs : starEach (e :: es) X.env = (false, eval e X.env) :: starEach es X.env := by rfl) (hplain : (backTo cpos (starEach es X.env)).any (·.1) = false := by rfl) :
    CE X (.Call (.Attribute o "count" apos) (e :: es) [] cpos) (eMT gCount fo fr) := by
  refine PE.le (pe_bmT (ty := fun x H => ∃ a vs, x = .ref a ∧ NdT H a vs) PySem.F.plainAttrs_tuple PySem.F.slot_tuple_count PySem.F.type_tuple_count (fun pins σ H s x v I rx ty => ?_) mt_tcount ho ha hbase hfew hline hs hplain) fun σ H Q h => ?_
  · obtain ⟨a, vs, rfl, o, hH, hd⟩ := ty
    cases rx
    obtain ⟨ho, _, its, _, ob, h1, h2, _⟩ := I.hok a _ hH
    rw [ho] at h1
    cases h1
    refine ⟨⟨_, ho, h2⟩, fun b e => ?_⟩
    cases e
    exact ⟨_, ho, hd⟩
  · obtain ⟨τ, ρ, S, d, S', rs, sr, e, q⟩ := h
    unfold eMT at e
    split at e
    · rename_i xs S1 h1
      split at e
      · rename_i ds S2 h2
        refine ⟨τ, ρ, S, .tpl xs, S1, rs, sr, h1, fun v H1 ρ1 x1 rs1 a1 => ?_⟩
        cases a1 with
        | tpl hn l =>
          refine ⟨⟨_, _, rfl, hn⟩, τ, ρ1, S1, ds, S2, rs1, sr.ext rs x1, h2, fun us H2 ρ2 x2 rs2 al => ?_⟩
          unfold gCount at e
          split at e
          · rename_i ys k hx
            cases hx
            split at e
            · rename_i is his
              cases e
              obtain ⟨x, rfl, ax⟩ := al1 al
              cases ax
              refine ⟨_, is, k, rfl, rfl, ?_, q _ H2 ρ2 (x1.trans x2) rs2 (.int _)⟩
              rw [← mapO_int l his]
              exact (rs1.kp x2).sqT hn.sq
            · cases e
          · cases e
      · cases e
    · cases e
end
end K50
set_option Elab.async false
set_option linter.all false
set_option maxRecDepth 100000
set_option maxHeartbeats 4000000
namespace K50
open PySem PySem.Spec PyProof.Rows L2

/-! ### dicts of True by tuples of ints and Nones -/
def dOf : Option Int → D
  | none => .non
  | some i => .int i
def keyT (k : List (Option Int)) : D := .tup (k.map dOf)
def eqO : Option Int → Option Int → Bool
  | none, none => true
  | some i, some j => decide (i = j)
  | _, _ => false
def eqKs : List (Option Int) → List (Option Int) → Bool
  | [], [] => true
  | a :: as, b :: bs => eqO a b && eqKs as bs
  | _, _ => false
def hasK (ks : List (List (Option Int))) (k : List (Option Int)) : Bool := ks.any fun z => eqKs z k
def putKs (ks : List (List (Option Int))) (k : List (Option Int)) : List (List (Option Int)) := if hasK ks k then ks else ks ++ [k]
theorem eqO_iff (a b : Option Int) : eqO a b = true ↔ a = b := by
  cases a <;> cases b <;> simp [eqO]
theorem eqKs_iff : ∀ (a b : List (Option Int)), eqKs a b = true ↔ a = b
  | [], [] => by simp [eqKs]
  | [], _ :: _ => by simp [eqKs]
  | _ :: _, [] => by simp [eqKs]
  | a :: as, b :: bs => by simp [eqKs, eqO_iff, eqKs_iff as bs]
theorem leafOf_inj {a b : Option Int} (h : leafOf a = leafOf b) : a = b := by
  cases a <;> cases b <;> simp_all [leafOf]
theorem leafs_inj : ∀ {a b : List (Option Int)}, a.map leafOf = b.map leafOf → a = b
  | [], [], _ => rfl
  | [], _ :: _, h => by simp at h
  | _ :: _, [], h => by simp at h
  | a :: as, b :: bs, h => by
    simp only [List.map_cons, List.cons.injEq] at h
    rw [leafOf_inj h.1, leafs_inj h.2]

section
variable {X : Cx}
variable {P : Program} {w : World} {K : PySem.W.Frag} {H H' : Hp} {ρ ρ' : List Addr} {S S' : Sto} {x y : V} {dx dy d : D} {Q : VK} {vs : List V} {ds : List D} {ks : List (List (Option Int))} {k : List (Option Int)} {xs : List (List Leaf × Addr × Value)}
theorem mapO_key : ∀ {ds : List D} {vs : List V} {k : List (Option Int)}, AtL K H ρ vs ds → mapO keyO ds = some k → vs = k.map vOf
  | [], _, _, h, e => by
    cases h
    cases e
    rfl
  | d :: ds, _, _, h, e => by
    cases h with
    | cons h1 h2 =>
      unfold mapO at e
      split at e
      · rename_i b hb
        split at e
        · rename_i bs hbs
          cases e
          have e2 := mapO_key h2 hbs
          unfold keyO at hb
          split at hb
          · cases hb
            cases h1
            rw [e2]
            rfl
          · cases hb
            cases h1
            rw [e2]
            rfl
          · cases hb
        · cases e
      · cases e
theorem key_at (a : At K H ρ x d) (e : keyD d = some k) : ∃ p, x = .ref p ∧ SqT K H p (k.map vOf) := by
  cases a with
  | tup h l =>
    have z := mapO_key l e
    subst z
    exact ⟨_, rfl, h⟩
  | _ => cases e
theorem at_key : ∀ (k : List (Option Int)), AtL K H ρ (k.map vOf) (k.map dOf)
  | [] => .nil
  | none :: k => .cons .non (at_key k)
  | some i :: k => .cons (.int i) (at_key k)
theorem leaf_items {prog : Program} {w : World} : ∀ {k : List (Option Int)} {us : List Value}, Vals (k.map vOf) us → ItemsAre (leafKind prog w) (k.map leafOf) us
  | [], _, h => by cases h; exact .nil
  | none :: k, _, h => by
    cases h with
    | cons h1 h2 =>
      cases h1
      exact .cons rfl (leaf_items h2)
  | some i :: k, _, h => by
    cases h with
    | cons h1 h2 =>
      obtain ⟨t, rfl⟩ := h1
      exact .cons (decide_eq_true rfl) (leaf_items h2)
theorem is_key {pins : List (Addr × Obj)} {σ : L2.St} {s : Shared} {a : Addr} (I : Inv X pins σ H s) (h : SqT X.K H a (k.map vOf)) : (knd X.prog X.w).is s.heap (k.map leafOf) a := by
  obtain ⟨its, rv, ⟨o, h1, h2, n, h3⟩, hz⟩ := I.tuple h
  exact ⟨o, its.toArray, n, h1, h2, h3, by simpa using leaf_items rv⟩
theorem keys_are {pins : List (Addr × Obj)} {σ : L2.St} {s : Shared} (I : Inv X pins σ H s) (h : Paired (KeyAt X.K H) ks xs) : ∀ x ∈ xs, (knd X.prog X.w).is s.heap x.1 x.2.1 := by
  induction h with
  | nil => intro x hx; cases hx
  | @cons k y ks xs r t ih =>
    intro x hx
    rcases List.mem_cons.mp hx with e | hx
    · subst e
      rw [r.1]
      exact is_key I r.2.1
    · exact ih x hx
theorem dicO_new {h : Heap} {a : Addr} (x : DicAt P w a xs h) : ObjOk P w H h a (dicO P w a xs) := by
  obtain ⟨h1, h2, h3, o, es, ep, ho, hc, hd, he⟩ := id x
  exact ⟨x, ⟨o, ho⟩, fun m1 m2 ⟨g1, g2, g3, o, es, ep, ho, r⟩ k => ⟨g1, g2, g3, o, es, ep, k o ho, r⟩⟩
theorem dic_of {pins : List (Addr × Obj)} {σ : L2.St} {s : Shared} {a : Addr} (I : Inv X pins σ H s) (e : H a = some (dicO X.prog X.w a xs)) (pr : Paired (KeyAt X.K H) ks xs) : (a == sysModules) = false ∧ xs.length ≤ sizeLine ∧ s.heap.DictOfH (knd X.prog X.w) a xs := by
  obtain ⟨⟨h1, h2, h3, o, es, ep, ho, hc, hd, he⟩, _, _⟩ := I.hok a _ e
  exact ⟨h1, h2, o, es, ep, ho, hc, hd, he, keys_are I pr, h3⟩
theorem has_at (pr : Paired (KeyAt K H) ks xs) : (atKey xs (k.map leafOf)).isSome = hasK ks k := by
  unfold atKey hasK
  induction pr with
  | nil => rfl
  | @cons k' y ks xs r t ih =>
    rw [List.find?_cons, List.any_cons]
    by_cases h : k' = k
    · subst h
      rw [(eqKs_iff k' k').mpr rfl, r.1]
      simp
    · have h2 : ¬ y.1 = k.map leafOf := fun e => h (leafs_inj (r.1.symm.trans e))
      have h3 : eqKs k' k = false := by
        cases q : eqKs k' k with
        | false => rfl
        | true => exact absurd ((eqKs_iff _ _).mp q) h
      rw [h3, Bool.false_or, decide_eq_false h2]
      exact ih
theorem put_same (pr : Paired (KeyAt K H) ks xs) (k' : List Leaf) : xs.map (putAt k' (.bool true)) = xs := by
  induction pr with
  | nil => rfl
  | @cons k'' y ks xs r t ih =>
    rw [List.map_cons, ih]
    congr 1
    unfold putAt
    split
    · obtain ⟨a, b, c⟩ := y
      have : c = .bool true := r.2.2
      rw [this]
    · rfl
theorem paired_snoc {α β : Type} {F : α → β → Prop} {l₁ : List α} {l₂ : List β} {a : α} {b : β} (h : Paired F l₁ l₂) (r : F a b) : Paired F (l₁ ++ [a]) (l₂ ++ [b]) := by
  induction h with
  | nil => exact .cons r .nil
  | cons h _ ih => exact .cons h ih
theorem put_at {b : Addr} (pr : Paired (KeyAt K H) ks xs) (h : SqT K H b (k.map vOf)) : Paired (KeyAt K H) (putKs ks k) (storedH xs (k.map leafOf) b (.bool true)) := by
  unfold putKs storedH
  rw [has_at pr]
  by_cases q : hasK ks k = true
  · rw [if_pos q, if_pos q, put_same pr]
    exact pr
  · rw [if_neg q, if_neg q]
    exact paired_snoc pr ⟨rfl, h, rfl⟩
theorem putKs_len (ks : List (List (Option Int))) (k : List (Option Int)) : (putKs ks k).length ≤ ks.length + 1 := by
  unfold putKs
  split
  · omega
  · simp
end
/-! {} -/
def eDic0 : FE := fun _ S => some (.ref S.length, S ++ [.dic []])
/-! d[k] = True -/
def gPut (x y : D) (S : Sto) : Option Sto := match x with
  | .ref r => match keyD y with
    | some k => match S[r]? with
      | some (.dic ks) => if short ks then some (S.set r (.dic (putKs ks k))) else none
      | _ => none
    | none => none
  | _ => none
def sPut (f g : FE) : FS := fun τ S => match f τ S with
  | some (x, S1) => match g τ S1 with
    | some (y, S2) => match gPut x y S2 with
      | some S3 => some (.nx τ, S3)
      | none => none
    | none => none
  | none => none
/-! k in d -/
def gInK (x y : D) (S : Sto) : Option (D × Sto) := match y with
  | .ref r => match keyD x with
    | some k => match S[r]? with
      | some (.dic ks) => some (.bl (hasK ks k), S)
      | _ => none
    | none => none
  | _ => none
section
variable {X : Cx}
variable {H H' : Hp} {ρ ρ' : List Addr} {S S' : Sto} {ks : List (List (Option Int))} {k : List (Option Int)} {xs : List (List Leaf × Addr × Value)}
theorem tDNew {X : Cx} {pos : Pos} : PE X (.Dict [] [] pos) (fun _ H Q => ∀ p, H p = none → Q (.ref p) (upd H p (dicO X.prog X.w p []))) := ⟨fun pins s σ H Q I h =>
  wpAny_Dict_empty ⟨.ref s.heap.objs.size, _, I.laid (a := s.heap.objs.size) (o := dicO X.prog X.w s.heap.objs.size []) (t' := s.toks) (fun _ _ q => Heap.get?_push_of_some _ q) (Nat.le_refl _)
    (dicO_new ⟨beq_eq_false_iff_ne.mpr (Ne.symm (Nat.ne_of_lt I.big)), Nat.zero_le _, List.nodup_nil, _, #[], 0, Heap.get?_push_size _ rfl, ⟨rfl, rfl, rfl⟩, rfl, rfl⟩), rfl, h _ (I.hok.fresh (Nat.le_refl _))⟩⟩
theorem ce_dict0 {pos : Pos} : CE X (.Dict [] [] pos) eDic0 := by
  refine PE.le tDNew fun σ H Q h p hp => ?_
  obtain ⟨τ, ρ, S, d, S', rs, sr, e, q⟩ := h
  cases e
  obtain ⟨rs', x⟩ := rs.push (o := dicO X.prog X.w p []) (ob := .dic []) hp ⟨[], upd_same, .nil⟩
  refine q _ _ _ x rs' (.ref ?_)
  rw [← rs.len, List.getElem?_append_right (Nat.le_refl _), Nat.sub_self]
  rfl
theorem RS.dic {P : Program} {w : World} {K : PySem.W.Frag} (rs : RS P w K H ρ S) {i : Nat} {a : Addr} (hi : ρ[i]? = some a) (hs : S[i]? = some (.dic ks)) : ∃ xs, H a = some (dicO P w a xs) ∧ Paired (KeyAt K H) ks xs := rs.ob i a _ hi hs
/-- a dict is written -/
theorem RS.setDic {P : Program} {w : World} {K : PySem.W.Frag} (rs : RS P w K H ρ S) {r : Nat} {a : Addr} {ys : List (List Leaf × Addr × Value)} {ls : List (List (Option Int))} (hi : ρ[r]? = some a) (e0 : H a = some (dicO P w a xs)) (l : Paired (KeyAt K H) ls ys) :
    RS P w K (upd H a (dicO P w a ys)) ρ (S.set r (.dic ls)) ∧ Ext H ρ (upd H a (dicO P w a ys)) ρ :=
  rs.write hi e0 (fun _ _ z => nomatch z) ⟨ys, upd_same, pimp l fun _ _ ⟨a, b, c⟩ => ⟨a, (rs.writeKp _ hi).sqT b, c⟩⟩
theorem ps_putK {o i value : Expr} {to ti tv : TE} {pos pos' : Pos} (hu : X.A.units + 65 < cLine) (ho : PE X o to) (hi : PE X i ti) (hv : PE X value tv) (hs : swapsWith value (some (.Subscript o i pos')) pos.line X.env = pure false) :
    PS X (.Assign [.Subscript o i pos'] value pos) (fun D σ H => tv σ H fun v H1 => v = .bl true ∧ to σ H1 fun x H2 => ti σ H2 fun y H3 => ∃ (a b : Addr) (xs : List (List Leaf × Addr × Value)) (ks : List (List (Option Int))) (k : List (Option Int)), x = .ref a ∧ y = .ref b ∧ H3 a = some (dicO X.prog X.w a xs) ∧ Paired (KeyAt X.K H3) ks xs ∧ SqT X.K H3 b (k.map vOf) ∧ ks.length < sizeLine ∧
      D.nx σ (upd H3 a (dicO X.prog X.w a (storedH xs (k.map leafOf) b (.bool true))))) := by
  refine ⟨fun pins s σ H D I h => ?_⟩
  refine wpAny_Assign_Subscript (thn (hv.run pins s σ H _ I h) fun r s1 ⟨v, H1, I1, rv, ev, q1⟩ => thn (ho.run pins s1 σ H1 _ I1 q1) fun u s2 ⟨x, H2, I2, rx, q2⟩ => thn (hi.run pins s2 σ H2 _ I2 q2) fun iv s3 ⟨y, H3, I3, ry, a, b, xs, ks, k, ex, ey, e, pr, hk, hz, q3⟩ => ?_) hs
  subst ev ex ey
  obtain rfl : u = Value.ref a := rx
  obtain rfl : iv = Value.ref b := ry
  obtain rfl : r = Value.bool true := rv
  obtain ⟨hd, hl, dd⟩ := dic_of I3 e pr
  refine wpAny_setItem_heap (hsz := hl) (tupleKind_room_in1 (by omega)) (is_key I3 hk) dd fun h' dd' hs' => ⟨σ, _, ?_, q3⟩
  obtain ⟨q, es, ep, hq, h2, h3, h4, _, h5⟩ := dd'
  have hlen : (storedH xs (k.map leafOf) b (.bool true)).length ≤ sizeLine := by
    have z1 := Paired.length (put_at pr hk)
    have z2 := putKs_len ks k
    omega
  exact d_write I3 (by rw [e]; exact True.intro) hs' ⟨q, hq⟩ (dicO_new ⟨hd, hlen, h5, q, es, ep, hq, h2, h3, h4⟩)
theorem cs_put {o i value : Expr} {fo fi : FE} {pos pos' : Pos} (hu : X.A.units + 65 < cLine) (ho : CE X o fo) (hi : CE X i fi) (hv : CE X value (eC (.bl true))) (hs : swapsWith value (some (.Subscript o i pos')) pos.line X.env = pure false := by rfl) :
    CS X (.Assign [.Subscript o i pos'] value pos) (sPut fo fi) := by
  refine PS.le (ps_putK hu ho hi hv hs) fun D σ H h => ?_
  obtain ⟨τ, ρ, S, fl, S', rs, sr, e, q⟩ := h
  unfold sPut at e
  split at e
  · rename_i x S1 h1
    split at e
    · rename_i y S2 h2
      split at e
      · rename_i S3 h3
        cases e
        refine ⟨τ, ρ, S, .bl true, S, rs, sr, rfl, fun v H1 ρ1 x1 rs1 a1 => ?_⟩
        cases a1
        refine ⟨rfl, τ, ρ1, S, x, S1, rs1, sr.ext rs x1, h1, fun v2 H2 ρ2 x2 rs2 a2 => ⟨τ, ρ2, S1, y, S2, rs2, (sr.ext rs x1).ext rs1 x2, h2, fun v3 H3 ρ3 x3 rs3 a3 => ?_⟩⟩
        unfold gPut at h3
        split at h3
        · rename_i r
          split at h3
          · rename_i k hk
            split at h3
            · rename_i ks hks
              split at h3
              · rename_i hsh
                cases h3
                obtain ⟨b, rfl, hb⟩ := key_at a3 hk
                have a2' := At.kp (rs2.kp x3) _ _ a2
                cases a2' with
                | ref hr =>
                  rename_i a
                  obtain ⟨xs, e0, pr⟩ := rs3.dic hr hks
                  refine ⟨a, b, xs, ks, k, rfl, rfl, e0, pr, hb, by have := short_le hsh; rw [sizeLine_eq]; omega, ?_⟩
                  obtain ⟨rs4, x4⟩ := rs3.setDic hr e0 (put_at pr hb)
                  exact q σ _ ρ3 (((x1.trans x2).trans x3).trans x4) rs4 ((((sr.ext rs x1).ext rs1 x2).ext rs2 x3).ext rs3 x4)
              · cases h3
            · cases h3
          · cases h3
        · cases h3
      · cases e
    · cases e
  · cases e
theorem or_inK (hu : X.A.units + 65 < cLine) : OpR X (compareOp .In) (rD X.prog X.w X.K gInK) := by
  intro pins s σ H x y v u Q I rx ry h
  obtain ⟨dx, dy, ρ, S, d, S', rs, ax, ay, e, q⟩ := h
  unfold gInK at e
  split at e
  · rename_i r
    split at e
    · rename_i k hk
      split at e
      · rename_i ks hks
        cases e
        obtain ⟨b, rfl, hb⟩ := key_at ax hk
        cases ay with
        | ref hr =>
          rename_i a
          obtain ⟨xs, e0, pr⟩ := rs.dic hr hks
          obtain rfl : u = Value.ref a := ry
          obtain rfl : v = Value.ref b := rx
          obtain ⟨hd, hl, dd⟩ := dic_of I e0 pr
          refine wpAny_in_heap (tupleKind_room_in1 (by omega)) (is_key I hb) hd dd ?_
          rw [has_at pr]
          exact ⟨.bl (hasK ks k), H, I.tok _, rfl, q _ H ρ Ext.refl rs (.bl _)⟩
      · cases e
    · cases e
  · cases e
end
end K50
set_option Elab.async false
set_option linter.all false
set_option maxRecDepth 100000
set_option maxHeartbeats 4000000
namespace K50
open PySem PySem.Spec PyProof.Rows L2

/-! ### a dict walked, locked -/
def ItD (P : Program) (w : World) (d : Addr) (o : Obj) : It :=
  ⟨fun i H => ∃ xs : List (List Leaf × Addr × Value), H d = some (.frz o (dicO P w d xs)) ∧ i < xs.length,
   fun i H x H' => H' = H ∧ ∀ xs : List (List Leaf × Addr × Value), H d = some (.frz o (dicO P w d xs)) → ∃ y, xs[i]? = some y ∧ x = .ref y.2.1,
   fun i H => ∃ xs : List (List Leaf × Addr × Value), H d = some (.frz o (dicO P w d xs)) ∧ xs.length ≤ i⟩
section
variable {X : Cx} {pins : List (Addr × Obj)} {σ : L2.St} {H : Hp} {s : Shared} {d : Addr} {o : Obj} {xs : List (List Leaf × Addr × Value)}
theorem frzD (I : Inv X pins σ H s) (h : H d = some (.frz o (dicO X.prog X.w d xs))) :
    (d == sysModules) = false ∧ s.heap.get? d = some o ∧ o.ExactDict ∧ ∃ (es : Array DictEntry) (ep : Nat), o.data = .dict es ep ∧ es.toList = xs.map (entryOfKey (knd X.prog X.w)) := by
  obtain ⟨hd, ⟨h1, h2, h3, o', es, ep, ho, hx, hdt, he⟩, _, _⟩ := I.hok d _ h
  rw [hd] at ho
  cases ho
  exact ⟨h1, hd, hx, es, ep, hdt, he⟩
end
section
variable {P : Program} {w : World} {K : PySem.W.Frag} {tg : Expr} {d : Addr} {o : Obj} {es : Array DictEntry} {ep : Nat}
theorem turn_dic (it : Addr) (hod : o.data = .dict es ep) : Turn P w K tg (ItD P w d o) [it] it (fun i h => h.IsKeyIter it d i es.size ep) where
  mem := by simp
  obj := fun i h st b hb => by
    have e : b = it := by simpa using hb
    subst e
    obtain ⟨oi, e, c, dd⟩ := st
    exact ⟨oi, e, fun v z => by rw [dd] at z; cases z⟩
  keep := fun i h h' st k => st.at fun oi e => k it (by simp) oi e
  item := by
    intro X hP hw hK hc i pins s σ H E I hf st hg
    subst hP hw hK
    obtain ⟨xs, hd, hi⟩ := hg
    obtain ⟨f0, f1, f2, f3, f4, f5⟩ := hf it (by simp)
    obtain ⟨hs, hgd, hx, es', ep', hdt, he⟩ := frzD I hd
    obtain ⟨rfl, rfl⟩ := dict_ep hod hdt
    have hen := entry_at he i
    rw [List.getElem?_eq_getElem hi, Option.map_some] at hen
    refine next_key_item st hgd hdt rfl hen fun h' st' sb => ?_
    have I1 : Inv X pins σ H { s with heap := h' } := I.turned (t' := s.toks) (fun b ob hb e => (sb.2 b hb).trans e) f0 f1 f3 f4 f5
    obtain ⟨oi, e, c, dd⟩ := id st'
    refine ⟨_, rfl, go_of (s := { s with heap := h' }) e c dd (by decide) ⟨.ref xs[i].2.1, H, I1, rfl, ⟨rfl, fun ys hy => ?_⟩, st', fun b hb => (hf b hb).1⟩⟩
    obtain ⟨_, _, _, es2, ep2, hdt2, he2⟩ := frzD I hy
    obtain ⟨rfl, rfl⟩ := dict_ep hod hdt2
    have hen2 := entry_at he2 i
    rw [hen] at hen2
    cases q : ys[i]? with
    | none => rw [q] at hen2; cases hen2
    | some y =>
      rw [q, Option.map_some] at hen2
      have e3 := Option.some.inj hen2
      have e4 : Value.ref xs[i].2.1 = Value.ref y.2.1 := congrArg DictEntry.key e3
      injection e4 with e4
      exact ⟨y, rfl, by rw [e4]⟩
  done := by
    intro X hP hw hK hc i pins s σ H E I hf st hg
    subst hP hw hK
    obtain ⟨xs, hd, hi⟩ := hg
    obtain ⟨f0, f1, f2, f3, f4, f5⟩ := hf it (by simp)
    obtain ⟨hs, hgd, hx, es', ep', hdt, he⟩ := frzD I hd
    obtain ⟨rfl, rfl⟩ := dict_ep hod hdt
    exact next_key_end (I.ok.hd hc) st hgd hdt rfl (by rw [size_of_entries he]; exact hi) fun h' eb => ⟨rfl, I.turned (t' := s.toks) (fun b ob hb e => eb b ob hb e) f0 f1 f3 f4 f5⟩
  self := fun A i s Q E st h => by
    refine wpAny_pyIter_slot st.typeIs F.slot_dict_keyiterator_iter (wpAny_call_entry F.slot_dict_keyiterator_iter st.typeIs F.entry_dict_keyiterator_iter ?_ (F.args_dict_keyiterator_iter_1 _))
    show wpAny _ _ (ret (.ref it)) _ _ s
    exact wpAny_pure ⟨_, rfl, "dict_keyiterator", _, st.typeIs, F.slot_dict_keyiterator_next.lookup, h⟩
end
def nxDic (r : Nat) : Nx := fun i S => match S[r]? with
  | some (.wdic ks) => match ks[i]? with
    | some k => some (some (keyT k))
    | none => some none
  | _ => none
def iDic (f : FE) : FI := fun τ S => match f τ S with
  | some (.ref r, S1) => match S1[r]? with
    | some (.wdic ks) => some (nxDic r, ks.length, S1)
    | _ => none
  | _ => none
section
variable {X : Cx} {tg e : Expr}
theorem pi_dic {td : TE} (he : PE X e td) : PI X tg e (fun σ H R => td σ H fun x H1 => ∃ (d : Addr) (o : Obj) (xs : List (List Leaf × Addr × Value)), x = .ref d ∧ H1 d = some (.frz o (dicO X.prog X.w d xs)) ∧ R (ItD X.prog X.w d o) H1) := by
  refine ⟨fun pins s σ H R I h => ?_⟩
  refine thn (he.run pins s σ H _ I h) fun u s1 ⟨x, H1, I1, rx, d, o, xs, ex, hd, q⟩ => ?_
  subst ex
  obtain rfl : u = Value.ref d := rx
  obtain ⟨hs, hgd, hx, es, ep, hdt, he⟩ := frzD I1 hd
  exact iter_keys hs hgd hx hdt (pi_one (tk := s1.toks) I1 _ (turn_dic _ hdt) ⟨_, Heap.get?_push_size _ rfl, rfl, rfl⟩ q)
theorem ci_dic {f : FE} (h : CE X e f) : CI X tg e (iDic f) := by
  refine PI.le (pi_dic h) fun σ H R h => ?_
  obtain ⟨τ, ρ, S, nx, n, S', rs, sr, e, q⟩ := h
  unfold iDic at e
  split at e
  · rename_i r S1 h1
    split at e
    · rename_i ks hks
      cases e
      refine ⟨τ, ρ, S, .ref r, _, rs, sr, h1, fun v H1 ρ1 x1 rs1 a1 => ?_⟩
      cases a1 with
      | ref hi =>
        rename_i a
        obtain ⟨xs, o, e0, pr⟩ := rs1.ob _ _ _ hi hks
        refine ⟨a, o, xs, rfl, e0, q _ H1 ρ1 x1 rs1 fun i H2 ρ2 S2 x2 rs2 => ?_⟩
        have hi2 := x2.pre hi
        have e2 := x2.frz _ _ _ e0
        unfold nxDic
        split
        · rename_i ls hls
          obtain ⟨ys, o', e3, pr3⟩ := rs2.ob _ _ _ hi2 hls
          have eo : o' = o := by
            rw [e2] at e3
            injection e3 with e3
            injection e3 with e4 e5
            exact e4.symm
          subst eo
          have hlen := Paired.length pr3
          split
          · rename_i k hk
            refine ⟨fun z => (nomatch z), fun d z => ?_⟩
            cases z
            obtain ⟨hlt, _⟩ := List.getElem?_eq_some_iff.mp hk
            refine ⟨⟨ys, e3, by omega⟩, fun x H3 y => ?_⟩
            obtain ⟨rfl, hy⟩ := y
            obtain ⟨y, hyi, rfl⟩ := hy ys e3
            obtain ⟨b, hb, kb⟩ := paired_get pr3 hk
            rw [hyi] at hb
            cases hb
            exact ⟨Ext.refl, rs2, .tup kb.2.1 (at_key k)⟩
          · rename_i hk
            refine ⟨fun _ => ⟨ys, e3, ?_⟩, fun d z => (nomatch (Option.some.inj z))⟩
            have := List.getElem?_eq_none_iff.mp hk
            omega
        · exact ⟨fun z => (nomatch z), fun d z => (nomatch z)⟩
    · cases e
  · cases e
end
def sForD (i k : Nat) (body : FS) : FS := fun τ S => match τ[i]? with
  | some (some (.ref r)) => match S[r]? with
    | some (.dic ks) => match forL (nxDic r) (.inl k) body (ks.length + 1) 0 τ (S.set r (.wdic ks)) with
      | some (fl, S2) => match S2[r]? with
        | some (.wdic ls) => some (fl, S2.set r (.dic ls))
        | _ => none
      | none => none
    | _ => none
  | _ => none
section
variable {P : Program} {w : World} {K : PySem.W.Frag} {H H' : Hp} {ρ ρ' : List Addr} {S S2 : Sto} {ks ls : List (List (Option Int))} {xs : List (List Leaf × Addr × Value)} {σ : L2.St} {τ : Sl}
theorem unlock {r : Nat} {a : Addr} {od : Obj} (hr : ρ[r]? = some a) (e0 : H a = some (dicO P w a xs)) (x2 : Ext (upd H a (.frz od (dicO P w a xs))) ρ H' ρ') (rs2 : RS P w K H' ρ' S2) (h4 : S2[r]? = some (.wdic ls)) :
    RS P w K (upd H' a (dicO P w a xs)) ρ' (S2.set r (.dic ls)) ∧ Ext H ρ (upd H' a (dicO P w a xs)) ρ' ∧ Kp H' (upd H' a (dicO P w a xs)) ρ' ρ' := by
  have hr2 := x2.pre hr
  have kp := rs2.writeKp (dicO P w a xs) hr2
  have am : a ∈ ρ := List.mem_of_getElem? hr
  have e2 := x2.frz a od _ upd_same
  obtain ⟨ys, o', e3, pr⟩ := rs2.ob _ _ _ hr2 h4
  have eo : dicO P w a ys = dicO P w a xs := by
    rw [e2] at e3
    injection e3 with e3
    injection e3 with e4 e5
    exact e5.symm
  refine ⟨rs2.writeR hr2 ⟨ys, by rw [upd_same, eo], pimp pr fun _ _ ⟨a, b, c⟩ => ⟨a, kp.sqT b, c⟩⟩, ⟨?_, fun b o h hn => ?_, fun b o h => ?_, fun b o u h => ?_⟩, kp⟩
  · obtain ⟨r1, e, f⟩ := x2.more
    refine ⟨r1, e, fun b hb => ?_⟩
    have q := f b hb
    by_cases hba : b = a
    · rw [hba, upd_same] at q
      cases q
    · rw [upd_ne hba] at q
      exact q
  · have hba : b ≠ a := fun e => hn (by rw [e]; exact am)
    rw [upd_ne hba]
    exact x2.out b o (by rw [upd_ne hba]; exact h) hn
  · by_cases hba : b = a
    · rw [hba]; exact ⟨_, upd_same⟩
    · rw [upd_ne hba]
      exact x2.dom b o (by rw [upd_ne hba]; exact h)
  · have hba : b ≠ a := fun e => by
      rw [e, e0] at h
      cases h
    rw [upd_ne hba]
    exact x2.frz b o u (by rw [upd_ne hba]; exact h)
theorem SR.kp (k : Kp H H' ρ ρ') (sr : SR K H ρ σ τ) : SR K H' ρ' σ τ := ⟨sr.len, fun i d h => let ⟨v, h1, h2⟩ := sr.at_ i d h; ⟨v, h1, At.kp k _ _ h2⟩⟩
end
theorem cs_forD {X : Cx} {x y : Str} {px py pos : Pos} {body : List Stmt} {i k : Nat} {fb : FS} (hc : X.calm = true) (hp : PassesOwn (model X.prog X.w) X.A X.env X.xe) (hN : X.N.Nodup) (hd : CE X (.Name y py) (eVar i)) (hb : CSs X body fb)
    (hi : X.N[k]? = some x := by rfl) (hx : Loc X.env.scope x := by first | exact Or.inl rfl | exact Or.inr rfl) (hf : X.fn x = true ∨ X.env.scope.names.lookup x = some .local := by first | exact .inl rfl | exact .inr rfl | assumption)
    (hs : ∀ z, foldedSetIterable (.Name y py) X.env z = pure z := by intro _; rfl) : CS X (.For (.Name x px) (.Name y py) body [] pos) (sForD i k fb) := by
  refine PS.le (ps_lock (cs_for hp hc (ci_dic hd) (cg_name (i := k) hN hi hx hf) hb hs)) fun D σ H h => ?_
  obtain ⟨τ, ρ, S, fl, S', rs, sr, e, q⟩ := h
  unfold sForD at e
  split at e
  · rename_i r h1
    split at e
    · rename_i ks hks
      split at e
      · rename_i fl2 S2 h3
        split at e
        · rename_i ls h4
          cases e
          obtain ⟨v, hv, av⟩ := sr.at_ _ _ h1
          cases av with
          | ref hr =>
            rename_i a
            obtain ⟨xs, e0, pr⟩ := rs.dic hr hks
            refine ⟨a, _, e0, trivial, fun od => ?_⟩
            obtain ⟨rs1, x1⟩ := rs.write (o := .frz od (dicO X.prog X.w a xs)) (ob := .wdic ks) hr e0 (fun _ _ z => nomatch z) ⟨xs, od, upd_same, pimp pr fun _ _ ⟨a, b, c⟩ => ⟨a, (rs.writeKp _ hr).sqT b, c⟩⟩
            have hlt : r < S.length := (List.getElem?_eq_some_iff.mp hks).1
            refine ⟨τ, ρ, S.set r (.wdic ks), fl, S2, rs1, sr.ext rs x1, ?_, ?_⟩
            · unfold sFor iDic eVar
              simp only [h1, List.getElem?_set_self hlt]
              exact h3
            · have un := fun {H' ρ'} (x2 : Ext (upd H a (.frz od (dicO X.prog X.w a xs))) ρ H' ρ') (rs2 : RS X.prog X.w X.K H' ρ' S2) => unlock (ls := ls) hr e0 x2 rs2 h4
              cases fl with
              | nx τ' => exact fun σ' H' ρ' x2 rs2 sr2 => ⟨x2.frz _ _ _ upd_same, let ⟨r3, x3, k3⟩ := un x2 rs2; q σ' _ ρ' x3 r3 (sr2.kp k3)⟩
              | bk τ' => exact fun σ' H' ρ' x2 rs2 sr2 => ⟨x2.frz _ _ _ upd_same, let ⟨r3, x3, k3⟩ := un x2 rs2; q σ' _ ρ' x3 r3 (sr2.kp k3)⟩
              | rt d => exact fun v H' ρ' x2 rs2 a2 => ⟨x2.frz _ _ _ upd_same, let ⟨r3, x3, k3⟩ := un x2 rs2; q v _ ρ' x3 r3 (At.kp k3 _ _ a2)⟩
        · cases e
      · cases e
    · cases e
  · cases e

/-! ### d.update(d2) -/
def hshO : Option Int → Int
  | none => reduceHash 0xFCA86420
  | some i => hashInt i
def hshK (k : List (Option Int)) : Int := reduceHash (Builtin.Tuple.tupleHashOf (k.map hshO))
theorem hshK_at {P : Program} {w : World} (k : List (Option Int)) : (knd P w).hash (k.map leafOf) = hshK k := by
  show reduceHash (Builtin.Tuple.tupleHashOf ((k.map leafOf).map (leafKind P w).hash)) = _
  unfold hshK
  rw [List.map_map]
  congr 2
  refine List.map_congr_left fun o _ => ?_
  cases o <;> rfl
def nodupI : List Int → Bool
  | [] => true
  | a :: l => !(l.any fun b => decide (b = a)) && nodupI l
theorem nodupI_nodup : ∀ {l : List Int}, nodupI l = true → l.Nodup
  | [], _ => List.nodup_nil
  | a :: l, h => by
    unfold nodupI at h
    rw [Bool.and_eq_true, Bool.not_eq_true'] at h
    refine List.nodup_cons.mpr ⟨fun hm => ?_, nodupI_nodup h.2⟩
    have := List.any_eq_false.mp h.1 a hm
    simp at this
def gUpd (x y : D) (S : Sto) : Option (D × Sto) := match x, y with
  | .ref r, .ref q => if Nat.beq r q then none else match S[r]?, S[q]? with
    | some (.dic ks), some (.dic ls) => if short ks && short ls && (!ks.isEmpty || nodupI (ls.map hshK)) then some (.non, S.set r (.dic (ls.foldl putKs ks))) else none
    | _, _ => none
  | _, _ => none
def isDic (d : D) (S : Sto) : Bool := match d with
  | .ref r => match S[r]? with
    | some (.dic _) => true
    | _ => false
  | _ => false
def eUpd (f g : FE) : FE := fun τ S => match f τ S with
  | some (x, S1) => if isDic x S1 then match g τ S1 with
      | some (y, S2) => gUpd x y S2
      | none => none
    else none
  | none => none
section
variable {X : Cx}
def rUpd (P : Program) (w : World) (K : PySem.W.Frag) : V → List V → Hp → VK → Prop := fun x us H Q => ∃ (a b : Addr) (xs ys : List (List Leaf × Addr × Value)) (ks ls : List (List (Option Int))), x = .ref a ∧ us = [.ref b] ∧ a ≠ b ∧ H a = some (dicO P w a xs) ∧ H b = some (dicO P w b ys) ∧
  Paired (KeyAt K H) ks xs ∧ Paired (KeyAt K H) ls ys ∧ (ks ≠ [] ∨ nodupI (ls.map hshK) = true) ∧ ks.length ≤ 4000 ∧ ls.length ≤ 4000 ∧ Q .non (upd H a (dicO P w a (storedAllH xs ys)))
theorem putAll_at {K : PySem.W.Frag} {H : Hp} {ls : List (List (Option Int))} {ys : List (List Leaf × Addr × Value)} (pr2 : Paired (KeyAt K H) ls ys) : ∀ {ks : List (List (Option Int))} {xs : List (List Leaf × Addr × Value)}, Paired (KeyAt K H) ks xs → Paired (KeyAt K H) (ls.foldl putKs ks) (storedAllH xs ys) := by
  induction pr2 with
  | nil => intro ks xs h; exact h
  | @cons l y ls ys r t ih =>
    intro ks xs h
    obtain ⟨a, b, c⟩ := y
    obtain ⟨r1, r2, r3⟩ := r
    have r1 : a = l.map leafOf := r1
    have r3 : c = .bool true := r3
    subst r1 r3
    exact ih (put_at h r2)
theorem foldl_len : ∀ (ls ks : List (List (Option Int))), (ls.foldl putKs ks).length ≤ ks.length + ls.length
  | [], ks => by simp
  | l :: ls, ks => by
    have h1 := foldl_len ls (putKs ks l)
    have h2 := putKs_len ks l
    rw [List.foldl_cons, List.length_cons]
    omega
theorem hash_map {P : Program} {w : World} {K : PySem.W.Frag} {H : Hp} {ls : List (List (Option Int))} {ys : List (List Leaf × Addr × Value)} (pr : Paired (KeyAt K H) ls ys) : (ys.map fun x => (knd P w).hash x.1) = ls.map hshK := by
  induction pr with
  | nil => rfl
  | cons r t ih =>
    rw [List.map_cons, List.map_cons, ih, r.1]
    exact congrArg (· :: _) (hshK_at _)
theorem mt_upd (hu : X.A.units + 65 < cLine) : MtR X "dict.update" (rUpd X.prog X.w X.K) := by
  intro pins s σ H x us v vs Q I rx rus h
  obtain ⟨a, b, xs, ys, ks, ls, rfl, rfl, hab, ea, eb, pr1, pr2, hn, z1, z2, q⟩ := h
  obtain rfl : v = Value.ref a := rx
  obtain ⟨u, rfl, ru⟩ := rus.one
  obtain rfl : u = Value.ref b := ru
  obtain ⟨hd1, hl1, dd1⟩ := dic_of I ea pr1
  obtain ⟨hd2, hl2, dd2⟩ := dic_of I eb pr2
  have l1 := Paired.length pr1
  have l2 := Paired.length pr2
  refine call_update_dictH (tupleKind_room_in1 (by omega)) hab hd2 dd1 dd2 ?_ (by rw [sizeLine_eq]; omega) fun h' dd1' dd2' hs' => ⟨.non, _, ?_, rfl, q⟩
  · rcases hn with hn | hn
    · exact .inl fun e => by
        subst e
        cases pr1
        exact hn rfl
    · refine .inr ⟨keyed_apart tupleKind_stays dd2, ?_⟩
      rw [hash_map pr2]
      exact nodupI_nodup hn
  · obtain ⟨o, es, ep, hq, h2, h3, h4, _, h5⟩ := dd1'
    have hlen : (storedAllH xs ys).length ≤ sizeLine := by
      have w1 := Paired.length (putAll_at pr2 pr1)
      have w2 := foldl_len ls ks
      rw [sizeLine_eq]
      omega
    exact d_write (t' := s.toks) I (by rw [ea]; exact True.intro) hs' ⟨o, hq⟩ (dicO_new ⟨hd1, hlen, h5, o, es, ep, hq, h2, h3, h4⟩)
theorem ce_upd {o e : Expr} {fo fe : FE} {apos cpos : Pos} (hu : X.A.units + 65 < cLine) (ho : CE X o fo) (ha : CE X e fe)
    (hbase : attributeBase o "update" X.env (eval o X.env) = eval o X.env := by rfl)
    (hfew : ((backTo cpos (starEach [e] X.env)).all (fun x => !x.1) && (backToKw cpos (keywordEach [] X.env)).all (fun x => x.1.isSome)
      && decide ([e].length + ([] : List Keyword).length + (if ([] : List Keyword).isEmpty then 0 else 1) < 30)) = true := by rfl)
    (hline : (apos.endLine == cpos.line) = true := by rfl) (hs : starEach [e] X.env = (false, eval e X.env) :: starEach [] X.env := by rfl) (hplain : (backTo cpos (starEach [] X.env)).any (·.1) = false := by rfl) :
    CE X (.Call (.Attribute o "update" apos) [e] [] cpos) (eUpd fo fe) := by
  refine PE.le (pe_bmT (ty := fun x H => ∃ a xs, x = .ref a ∧ H a = some (dicO X.prog X.w a xs)) PySem.F.plainAttrs_dict PySem.F.slot_dict_update PySem.F.type_dict_update (fun pins σ H s x v I rx ty => ?_) (mt_upd hu) ho (pa_cons ha pa_nil hs) hbase hfew hline hs hplain) fun σ H Q h => ?_
  · obtain ⟨a, xs, rfl, hH⟩ := ty
    obtain rfl : v = Value.ref a := rx
    obtain ⟨⟨h1, h2, h3, ob, es, ep, ho, hx, hdt, he⟩, _, _⟩ := I.hok a _ hH
    refine ⟨⟨_, ho, hx.1⟩, fun b e => ?_⟩
    cases e
    exact ⟨_, ho, hx.2.1⟩
  · obtain ⟨τ, ρ, S, d, S', rs, sr, e, q⟩ := h
    unfold eUpd at e
    split at e
    · rename_i x S1 h1
      split at e
      · rename_i hd
        split at e
        · rename_i y S2 h2
          refine ⟨τ, ρ, S, x, S1, rs, sr, h1, fun v H1 ρ1 x1 rs1 a1 => ⟨?_, τ, ρ1, S1, y, S2, rs1, sr.ext rs x1, h2, fun u H2 ρ2 x2 rs2 a2 => ?_⟩⟩
          · unfold isDic at hd
            split at hd
            · split at hd
              · rename_i ks hks
                cases a1 with
                | ref hi =>
                  obtain ⟨xs, e0, _⟩ := rs1.dic hi hks
                  exact ⟨_, xs, rfl, e0⟩
              · cases hd
            · cases hd
          · have a1' := At.kp (rs1.kp x2) _ _ a1
            unfold gUpd at e
            split at e
            · rename_i r q'
              split at e
              · cases e
              · rename_i hne
                split at e
                · rename_i ks ls hks hls
                  split at e
                  · rename_i hcd
                    simp only [Bool.and_eq_true, Bool.or_eq_true, Bool.not_eq_true'] at hcd
                    obtain ⟨⟨s1, s2⟩, s3⟩ := hcd
                    cases e
                    cases a1' with
                    | ref hi =>
                      cases a2 with
                      | ref hj =>
                        rename_i a b
                        obtain ⟨xs, ea, p1⟩ := rs2.dic hi hks
                        obtain ⟨ys, eb, p2⟩ := rs2.dic hj hls
                        refine ⟨a, b, xs, ys, ks, ls, rfl, rfl, fun eab => ?_, ea, eb, p1, p2, ?_, short_le s1, short_le s2, ?_⟩
                        · subst eab
                          obtain ⟨l1, e1⟩ := List.getElem?_eq_some_iff.mp hi
                          obtain ⟨l2, e2⟩ := List.getElem?_eq_some_iff.mp hj
                          exact hne (Nat.beq_eq.mpr ((List.getElem_inj rs2.nd).mp (e1.trans e2.symm)))
                        · rcases s3 with s3 | s3
                          · exact .inl fun z => by rw [z] at s3; cases s3
                          · exact .inr s3
                        · obtain ⟨rs3, x3⟩ := rs2.setDic hi ea (putAll_at p2 p1)
                          exact q _ _ ρ2 ((x1.trans x2).trans x3) rs3 .non
                  · cases e
                · cases e
            · cases e
        · cases e
      · cases e
    · cases e
end
/-! what is never come to -/
def eNever : FE := fun _ _ => none
theorem ce_never {X : Cx} {e : Expr} : CE X e eNever := ⟨fun pins s σ H Q I h => by
  obtain ⟨τ, ρ, S, d, S', rs, sr, e, q⟩ := h
  cases e⟩
end K50
set_option Elab.async false
set_option linter.all false
set_option maxRecDepth 100000
set_option maxHeartbeats 4000000
namespace L2
open PySem PySem.Spec PyProof.Rows
section
variable {P : Program} {w : World} {A : Around} {E : Value → Shared → Prop} {s : Shared}
/-- set(l) of a list of ints, its table known (as the kit shows it for a tuple) -/
theorem k50_set_listI {l : Addr} {items : Array Value} (ns : List Int) {Q : Value → Shared → Prop} (hh : A.handled = none) (hl : s.heap.IsList l items) (hit : IntsAre items.toList ns) (hb : ns.length + 1 < scanBound)
    (h : ∀ (h' : Heap) (tk c : Nat), SetR w h' s.heap.objs.size (fun j => decide (j ∈ ns)) c → c ≤ ns.length → (∀ b o, s.heap.get? b = some o → h'.get? b = some o) → Q (.ref s.heap.objs.size) { s with heap := h', toks := tk }) :
    wpAny (model P w) A (call (.type "set") [.ref l]) Q E s := by
  have hisz : items.size = ns.length := by
    have q := IntsAre.length hit
    rw [Array.length_toList] at q
    exact q
  obtain ⟨c, tl, hmro⟩ := F.called_set.mro
  have hmade := F.called_set.made
  have hsub := F.called_set.sub
  refine wpAny_call (codeAny_of_tree ?_)
  show wpAny _ _ (callAny (.type "set") _) _ _ _
  refine wpAny_pure ⟨Code.quiet_builtin _ (by decide +kernel), codeAny_builtin F.entry_type_call ?_⟩
  rw [Around.under_plain (weight_type_call_type "set" [.ref l] []) rfl]
  have h1 := F.called_set.notType
  have h2 := F.called_set.canCreate
  have hct := F.typeCall_set_1 (.ref l)
  repeat (any_goals (first | assumption | wp_step))

  refine codeAny_mono (code_set_led1 (.ref l) (E := E) (Q₁ := fun obj s₁ => obj = .ref s.heap.objs.size ∧ s₁ = { s with heap := (s.heap.push { cls := .type "set", dict := none, data := .set #[] 0 (.fresh 0 0 (!w.params.followText "set-order")) }) }) ⟨rfl, rfl⟩) fun r s₁ hr => ?_
  cases r with
  | error e => exact hr
  | ok fl =>
    cases fl with
    | ret obj =>
      obtain ⟨rfl, rfl⟩ := hr
      have hS : ((s.heap.push { cls := .type "set", dict := none, data := .set #[] 0 (.fresh 0 0 (!w.params.followText "set-order")) })).get? s.heap.objs.size = some ({ cls := .type "set", dict := none, data := .set #[] 0 (.fresh 0 0 (!w.params.followText "set-order")) }) := Heap.get?_push_size _ rfl
      have hT : Shared.TypeIs { s with heap := (s.heap.push { cls := .type "set", dict := none, data := .set #[] 0 (.fresh 0 0 (!w.params.followText "set-order")) }) } (.ref s.heap.objs.size) "set" := ⟨_, hS, rfl⟩
      have hli := F.called_set.init.lookup
      have hbi := F.called_set.init.bind (.ref s.heap.objs.size)
      repeat (any_goals (first | assumption | wp_step))

      refine codeAny_mono (codeAny_call_builtin (R := wants (fun r s₂ => r = .none ∧ ∃ h' tk c, s₂ = { s with heap := h', toks := tk } ∧ SetR w h' s.heap.objs.size (fun j => decide (j ∈ ns)) c ∧ c ≤ ns.length ∧
          (∀ b o, s.heap.get? b = some o → h'.get? b = some o)) E) F.called_set.init.plain F.entry_set_init (check_set_init_1 hT ?_)) fun r₂ s₂ hr₂ => ?_
      · obtain ⟨ol, hol, hcl, nl, hdl⟩ := hl
        obtain ⟨ocls, odict, odata, oslots⟩ := ol
        simp only at hcl hdl
        subst hcl; subst hdl
        have hol' : ((s.heap.push { cls := .type "set", dict := none, data := .set #[] 0 (.fresh 0 0 (!w.params.followText "set-order")) })).get? l = some { cls := .type "list", dict := odict, data := .seq items nl, slots := oslots } := Heap.get?_push_of_some _ hol
        have hsls := F.sub_list_set
        have hslf := F.sub_list_frozenset
        have hne : (Value.type "list" == Value.type "dict") = false := by decide
        have hl1 : ((s.heap.push { cls := .type "set", dict := none, data := .set #[] 0 (.fresh 0 0 (!w.params.followText "set-order")) })).IsList l items := ⟨_, hol', rfl, nl, rfl⟩
        unfold Builtin.«set.__init__» noKeywords Builtin.Frozenset.updateFrom
        generalize hPI : pyIter = PI
        wp_walk
        subst hPI

        refine wpAny_pyIter_list hl1 ?_
        refine wpAny_bind (wpAny_runValue ?_)
        have hlS : l < s.heap.objs.size := Heap.lt_size hol
        have hh3 : A.in1.in1.in1.handled = none := by simp [hh]
        have hz1 : ((s.heap.push { cls := .type "set", dict := none, data := .set #[] 0 (.fresh 0 0 (!w.params.followText "set-order")) })).objs.size = s.heap.objs.size + 1 := Heap.size_push ..
        have hneI : l ≠ ((s.heap.push { cls := .type "set", dict := none, data := .set #[] 0 (.fresh 0 0 (!w.params.followText "set-order")) })).objs.size := by
          rw [Heap.size_push]; exact Nat.ne_of_lt (Nat.lt_succ_of_lt hlS)
        have hSf : s.heap.objs.size ∉ [((s.heap.push { cls := .type "set", dict := none, data := .set #[] 0 (.fresh 0 0 (!w.params.followText "set-order")) })).objs.size, l] := by
          rw [Heap.size_push]; simp only [List.mem_cons, List.mem_singleton, List.not_mem_nil, or_false, not_or]
          exact ⟨Nat.ne_of_lt (Nat.lt_succ_self _), Nat.ne_of_gt hlS⟩
        have hval : ∀ (i : Nat) (v : Value), items[i]? = some v → ∃ k t, ns[i]? = some k ∧ v = .int k t := fun i v hv => by
          have hi : i < ns.length := by rw [← hisz]; exact (Array.getElem?_eq_some_iff.mp hv).1
          obtain ⟨t, e⟩ := PyProof.Rows.IntsAre.int_at hit i v (by rw [Array.getElem?_toList]; exact hv)
          refine ⟨ns[i], t, List.getElem?_eq_getElem hi, ?_⟩
          rw [e, List.getD_eq_getElem?_getD, List.getElem?_eq_getElem hi] <;> rfl
        refine set_update_ints ((Walks.list hh3 _ l hneI items).toS) s.heap.objs.size
          hSf ns hisz hb hval (items.size - 0) 0 _ (by omega) (Nat.zero_le _)
          ⟨⟨_, Heap.get?_push_size _ rfl, rfl, rfl⟩, (hl1.push _)⟩ ?hS0 ?hR
        case hS0 =>
          have hget : (((s.heap.push { cls := .type "set", dict := none, data := .set #[] 0 (.fresh 0 0 (!w.params.followText "set-order")) })).push { cls := .type "list_iterator", data := .fields #[.ref l, .int 0 0] }).get? s.heap.objs.size
              = some ({ cls := .type "set", dict := none, data := .set #[] 0 (.fresh 0 0 (!w.params.followText "set-order")) }) := Heap.get?_push_of_some _ hS
          exact ⟨0, Nat.le_refl 0, setR_new_at hget⟩
        case hR =>
          intro s' c' hm hc' hS'
          obtain ⟨h', g2, d', tk', os'⟩ := s'
          have eg : g2 = s.gens := hm.gens
          have ed : d' = s.drawn := hm.drawn
          have eo : os' = s.os := hm.os
          subst eg; subst ed; subst eo
          show wpAny _ _ _ _ _ _
          refine wpAny_pure ?_
          show wpAny _ _ (ret Value.none) _ _ _
          rw [hisz] at hc'
          refine wpAny_pure ⟨rfl, h', tk', c', rfl, hS', hc', fun b o e => ?_⟩
          have hb0 : b < s.heap.objs.size := Heap.lt_size e
          have hb1 : b ≠ s.heap.objs.size := Nat.ne_of_lt hb0
          have hb2 : b ≠ ((s.heap.push { cls := .type "set", dict := none, data := .set #[] 0 (.fresh 0 0 (!w.params.followText "set-order")) })).objs.size := by
            rw [Heap.size_push]; exact Nat.ne_of_lt (Nat.lt_succ_of_lt hb0)
          exact hm.heap b o (by simp only [List.mem_cons, List.mem_singleton, List.not_mem_nil, or_false, not_or]; exact ⟨hb1, hb2⟩) (Heap.get?_push_of_some _ (Heap.get?_push_of_some _ e))

      · cases r₂ with
        | error e => exact hr₂
        | ok fl₂ =>
          cases fl₂ with
          | ret r =>
            obtain ⟨rfl, h', tk, c', rfl, hS', hc', hk'⟩ := hr₂
            repeat (any_goals (first | assumption | wp_step))
            exact h _ _ _ hS' hc' hk'
          | _ => exact hr₂.elim
    | _ => exact hr.elim
end
end L2
set_option Elab.async false
set_option linter.all false
set_option maxRecDepth 100000
set_option maxHeartbeats 4000000
namespace K50
open PySem PySem.Spec PyProof.Rows L2

/-! ### sorted(set(l)) -/
def insD (i : Int) : List Int → List Int
  | [] => [i]
  | j :: l => if decide (i < j) then i :: j :: l else if decide (i = j) then j :: l else j :: insD i l
def srtD (l : List Int) : List Int := l.foldr insD []
theorem insD_mem (i k : Int) : ∀ l : List Int, k ∈ insD i l ↔ k = i ∨ k ∈ l
  | [] => by simp [insD]
  | j :: l => by
    have ih := insD_mem i k l
    unfold insD
    split
    · simp
    · split
      · rename_i h
        simp only [decide_eq_true_eq] at h
        subst h
        simp
      · simp only [List.mem_cons, ih]
        constructor
        · rintro (h | h | h)
          · exact .inr (.inl h)
          · exact .inl h
          · exact .inr (.inr h)
        · rintro (h | h | h)
          · exact .inr (.inl h)
          · exact .inl h
          · exact .inr (.inr h)
theorem insD_sorted (i : Int) : ∀ l : List Int, l.Pairwise (· < ·) → (insD i l).Pairwise (· < ·)
  | [], _ => by simp [insD]
  | j :: l, h => by
    have hp := List.pairwise_cons.mp h
    unfold insD
    split
    · rename_i h1
      simp only [decide_eq_true_eq] at h1
      refine List.pairwise_cons.mpr ⟨fun k hk => ?_, h⟩
      rcases List.mem_cons.mp hk with e | hk
      · rw [e]; exact h1
      · exact Int.lt_trans h1 (hp.1 k hk)
    · split
      · exact h
      · rename_i h1 h2
        simp only [decide_eq_true_eq] at h1 h2
        refine List.pairwise_cons.mpr ⟨fun k hk => ?_, insD_sorted i l hp.2⟩
        rcases (insD_mem i k l).mp hk with e | hk
        · omega
        · exact hp.1 k hk
theorem srtD_mem (k : Int) (l : List Int) : k ∈ srtD l ↔ k ∈ l := by
  unfold srtD
  induction l with
  | nil => simp
  | cons i l ih => rw [List.foldr_cons, insD_mem, ih, List.mem_cons]
theorem srtD_sorted (l : List Int) : (srtD l).Pairwise (· < ·) := by
  unfold srtD
  induction l with
  | nil => exact List.Pairwise.nil
  | cons i l ih => exact insD_sorted i _ ih
theorem sorted_eq : ∀ (a b : List Int), a.Pairwise (· < ·) → b.Pairwise (· < ·) → (∀ k, k ∈ a ↔ k ∈ b) → a = b
  | [], [], _, _, _ => rfl
  | [], y :: ys, _, _, h => by have := (h y).mpr List.mem_cons_self; cases this
  | x :: xs, [], _, _, h => by have := (h x).mp List.mem_cons_self; cases this
  | x :: xs, y :: ys, h1, h2, h => by
    obtain ⟨a1, a2⟩ := List.pairwise_cons.mp h1
    obtain ⟨b1, b2⟩ := List.pairwise_cons.mp h2
    have e : x = y := by
      rcases List.mem_cons.mp ((h x).mp List.mem_cons_self) with e | q
      · exact e
      · rcases List.mem_cons.mp ((h y).mpr List.mem_cons_self) with e | q2
        · exact e.symm
        · have := b1 x q
          have := a1 y q2
          omega
    subst e
    congr 1
    refine sorted_eq xs ys a2 b2 fun k => ⟨fun hk => ?_, fun hk => ?_⟩
    · rcases List.mem_cons.mp ((h k).mp (List.mem_cons_of_mem _ hk)) with e | q
      · have := a1 k hk; omega
      · exact q
    · rcases List.mem_cons.mp ((h k).mpr (List.mem_cons_of_mem _ hk)) with e | q
      · have := b1 k hk; omega
      · exact q
def gSortSet (x : D) (S : Sto) : Option (D × Sto) := match lstAt x S with
  | some ds => match mapO intO ds with
    | some is => if Nat.blt is.length 60 then some (.ref S.length, S ++ [.lst ((srtD is).map .int)]) else none
    | none => none
  | none => none
theorem at_ints {K : PySem.W.Frag} {H : Hp} {ρ : List Addr} : ∀ is : List Int, AtL K H ρ (is.map V.int) (is.map D.int)
  | [] => .nil
  | i :: is => .cons (.int i) (at_ints is)
section
variable {X : Cx}
theorem cr_setL (hc : X.calm = true) : CallR X (.type "set") (fun xs H Q => ∃ (a : Addr) (ns : List Int), xs = [.ref a] ∧ SqL X.K H a (ns.map V.int) ∧ ns.length < 60 ∧ ∀ p c, H p = none → c ≤ ns.length → Q (.ref p) (upd H p (SetO X.w p (fun j => decide (j ∈ ns)) c))) := by
  intro pins s σ H xs us Q I r h
  obtain ⟨a, ns, rfl, hs, hz, q⟩ := h
  rw [Vals.ref1 r]
  obtain ⟨its, rv, pl, hlen⟩ := I.list hs
  refine k50_set_listI (P := X.prog) (w := X.w) ns (I.ok.hd hc) pl.isList (by simpa using ints_of_vals rv) (by unfold scanBound; omega) fun h' tk c R hcn k => ?_
  exact ⟨.ref _, _, I.laid (t' := tk) (a := s.heap.objs.size) (o := SetO X.w s.heap.objs.size (fun j => decide (j ∈ ns)) c) k (Nat.le_refl _) (setO_new R), rfl, q _ c (I.hok.fresh (Nat.le_refl _)) hcn⟩
theorem ce_sortSetG {e : Expr} {fa : FE} {p p2 pos pos2 : Pos} (hc : X.calm = true) (hg : Gl X "sorted") (hm : X.mg "sorted" = none) (hg2 : Gl X "set") (hm2 : X.mg "set" = none) (ha : CE X e fa)
    (na : starEach [e] X.env = (false, eval e X.env) :: starEach [] X.env := by rfl)
    (ne : starEach [.Call (.Name "set" p2) [e] [] pos2] X.env = (false, eval (.Call (.Name "set" p2) [e] [] pos2) X.env) :: starEach [] X.env := by rfl) :
    CE X (.Call (.Name "sorted" p) [.Call (.Name "set" p2) [e] [] pos2] [] pos) (e1 gSortSet fa) := by
  refine PE.le (pe_callB (cr_sortedSet hc) hg hm (by decide +kernel) (pa_cons (pe_callTy (cr_setL hc) hg2 hm2 (by decide +kernel) (pa_cons ha pa_nil na) (by decide) (by decide) na (by rfl)) pa_nil ne) (by decide) (by decide) ne (by rfl)) fun σ H Q h => ?_
  refine t1 h fun x H1 q => ?_
  obtain ⟨dx, ρ, S, d, S', rs, ax, e, q⟩ := q
  unfold gSortSet at e
  split at e
  · rename_i ds hl
    split at e
    · rename_i is his
      split at e
      · rename_i hz
        cases e
        obtain ⟨a, vs, rfl, e0, l⟩ := lstAt_of rs ax hl
        have ev := mapO_int l his
        subst ev
        have hz := Nat.blt_eq.mp hz
        refine ⟨a, is, rfl, .of e0, hz, fun p c hp hcn => ?_⟩
        obtain ⟨rs1, x1⟩ := rs.new (o := SetO X.w p (fun j => decide (j ∈ is)) c) hp
        refine ⟨p, _, c, rfl, upd_same, by omega, fun ns p2 hs hmm hl hp2 => ?_⟩
        have en : ns = srtD is := sorted_eq _ _ hs (srtD_sorted is) fun k => by rw [hmm k, srtD_mem, decide_eq_true_eq]
        subst en
        obtain ⟨rs2, x2⟩ := rs1.push (o := .lst ((srtD is).map V.int)) (ob := .lst ((srtD is).map .int)) hp2 ⟨_, upd_same, at_ints _⟩
        refine q _ _ _ (x1.trans x2) rs2 (.ref ?_)
        rw [← rs.len, List.getElem?_append_right (Nat.le_refl _), Nat.sub_self]
        rfl
      · cases e
    · cases e
  · cases e
end

/-! ### len({one: True for one in t}) -/
def addD (acc : List Int) (i : Int) : List Int := if acc.any fun j => decide (j = i) then acc else acc ++ [i]
def gLenSet (x : D) (S : Sto) : Option (D × Sto) := match x with
  | .tup ds => match mapO intO ds with
    | some is => if Nat.blt is.length 60 then some (.int ((is.foldl addD []).length : Nat), S) else none
    | none => none
  | _ => none
theorem putK_keys (kvs : List (Key × V)) (i : Int) (v : V) (acc : List Int) (h : kvs.map (·.1) = acc.map Sum.inl) : (putK kvs (.inl i) v).map (·.1) = (addD acc i).map Sum.inl := by
  have e : (kvs.any fun kv => decide (kv.1 = .inl i)) = (acc.any fun j => decide (j = i)) := by
    have h1 : (kvs.any fun kv => decide (kv.1 = .inl i)) = ((kvs.map (·.1)).any fun k => decide (k = .inl i)) := by rw [List.any_map]; rfl
    rw [h1, h, List.any_map]
    congr 1
    funext j
    simp
  unfold putK addD
  rw [e]
  split
  · rw [List.map_map, ← h]
    refine List.map_congr_left fun x _ => ?_
    simp only [Function.comp]
    split <;> rfl
  · rw [List.map_append, h, List.map_append]
    rfl
theorem addD_len (acc : List Int) (i : Int) : (addD acc i).length ≤ acc.length + 1 := by
  unfold addD
  split
  · omega
  · simp
section
variable {X : Cx}
theorem ce_lenDictG {x : Str} {e : Expr} {fa : FE} {k : Nat} {scope : Scope} {own : List (Str × Nat)} {p pos dpos px pk pc : Pos} {jj : Nat} (hc : X.calm = true) (hN : X.N.Nodup) (hg : Gl X "len") (hm : X.mg "len" = none) (ha : CE X e fa) (ok : BlkOk X.N X.env.scope scope own)
    (hpg : ∀ (s : Shared) (H : Hp) (C : Addr) (cl : List (Str × Addr)) (fp : List Addr), PG (X.blk s H scope (compEnvC scope cl C X.env) fp) (.Name x px) (gName k))
    (hpv : ∀ (s : Shared) (H : Hp) (C : Addr) (cl : List (Str × Addr)) (fp : List Addr), PE (X.blk s H scope (compEnvC scope cl C X.env) fp) (.Name x pk) (tVar k))
    (hk : own.map (·.2) = [k] := by rfl) (hki : X.N[k]? = some x := by rfl)
    (hs : ∀ z, foldedSetIterable e X.env z = pure z := by intro _; rfl)
    (ne : starEach [.DictComp (.Name x pk) (.Constant (.bool true) jj pc) [⟨.Name x px, e, [], 0⟩] scope dpos] X.env = (false, eval (.DictComp (.Name x pk) (.Constant (.bool true) jj pc) [⟨.Name x px, e, [], 0⟩] scope dpos) X.env) :: starEach [] X.env := by rfl) :
    CE X (.Call (.Name "len" p) [.DictComp (.Name x pk) (.Constant (.bool true) jj pc) [⟨.Name x px, e, [], 0⟩] scope dpos] [] pos) (e1 gLenSet fa) := by
  have hlt : k < X.N.length := (List.getElem?_eq_some_iff.mp hki).1
  have hP := (pe_callB (p := p) (pos := pos) call_lenD hg hm boot_len (pa_cons (pe_dc hc hN (pi_tup ha) ok hpg (fun _ _ _ _ _ => pts_nil) hpv (fun _ _ _ _ _ => pe_bl) hs) pa_nil ne) (by decide) (by decide) ne (by rfl))
  refine ⟨fun pins sh σ H Q I h => hP.run pins sh σ H Q I ?_⟩
  have hσ : σ.length = X.N.length := I.len
  refine t1 h fun v H1 q => ?_
  obtain ⟨dx, ρ, S, d, S', rs, ax, e, q⟩ := q
  unfold gLenSet at e
  split at e
  · split at e
    · rename_i is his
      split at e
      · rename_i hz
        cases e
        have hz := Nat.blt_eq.mp hz
        cases ax with
        | tup ht l =>
          rename_i a vs
          have ev := mapO_int l his
          subst ev
          refine ⟨a, rfl, ⟨_, ht⟩, fun D hD => ?_⟩
          rw [hk]
          have keep : ∀ kvs, SqT X.K (upd H1 D (.dK kvs)) a (is.map V.int) := fun kvs => (rs.kp (rs.new hD).2).sqT ht
          refine dc_tup (K := X.K) (a := a) (xs := is.map V.int) (fun i H' => ∃ kvs : List (Key × V), H' = upd H1 D (.dK kvs) ∧ kvs.map (·.1) = ((is.take i).foldl addD []).map Sum.inl) ⟨[], rfl, by simp⟩ (fun i H' hi ⟨kvs, e, _⟩ => by rw [e]; exact keep kvs) (fun i v H' hv ⟨kvs, eH, ek⟩ => ?_) (fun H' ⟨kvs, eH, ek⟩ => ?_)
          · rw [List.getElem?_map] at hv
            cases hi : is[i]? with
            | none => rw [hi] at hv; cases hv
            | some j =>
              rw [hi] at hv
              cases hv
              have hil : i < is.length := (List.getElem?_eq_some_iff.mp hi).1
              have hacc : ∀ l : List Int, (l.foldl addD []).length ≤ l.length := fun l => by
                have : ∀ (l acc : List Int), (l.foldl addD acc).length ≤ acc.length + l.length := by
                  intro l
                  induction l with
                  | nil => intro acc; simp
                  | cons x l ih =>
                    intro acc
                    have h1 := ih (addD acc x)
                    have h2 := addD_len acc x
                    rw [List.foldl_cons, List.length_cons]
                    omega
                simpa using this l []
              have hkl : kvs.length ≤ 60 := by
                have h1 : kvs.length = ((is.take i).foldl addD []).length := by
                  have := congrArg List.length ek
                  simpa using this
                have h2 := hacc (is.take i)
                have h3 : (is.take i).length ≤ is.length := by rw [List.length_take]; omega
                omega
              refine ⟨wipe_set (by simp), ?_⟩
              unfold tYes
              dsimp only
              rw [if_pos rfl]
              by_cases hks : k < σ.length
              · refine ⟨.int j, by rw [List.getElem?_set_self (by rw [wipe_len]; exact hks)], ?_⟩
                refine ⟨kvs, .inl j, rfl, by rw [eH]; exact upd_same, by rw [sizeLine_eq]; omega, putK kvs (.inl j) (.bl true), by rw [eH, upd_upd], ?_⟩
                rw [putK_keys kvs j (.bl true) _ ek, List.take_add_one, hi]
                simp [List.foldl_append]
              · exact absurd (hσ ▸ hlt : k < σ.length) hks
          · rw [List.length_map, List.take_length] at ek
            refine ⟨D, kvs, rfl, by rw [eH]; exact upd_same, ?_⟩
            have h1 : kvs.length = (is.foldl addD []).length := by
              have := congrArg List.length ek
              simpa using this
            rw [h1]
            obtain ⟨rs2, x2⟩ := rs.new (o := .dK kvs) hD
            rw [eH]
            exact q _ _ ρ x2 rs2 (.int _)
      · cases e
    · cases e
  · cases e
end
end K50
set_option Elab.async false
set_option linter.all false
set_option maxRecDepth 100000
set_option maxHeartbeats 4000000
namespace K50
open PySem PySem.Spec PyProof.Rows L2

/-! ### a module's dict of texts: d.get(key, 0) -/
def gRow (x : D) (S : Sto) : Option (D × Sto) := match x with
  | .str z => if strEq z "told" then some (.int 2, S) else if strEq z "fork" then some (.int 5, S) else none
  | _ => none
/-- what stands of it -/
structure RowAt (K : PySem.W.Frag) (mg : Str → Option Value) (w : World) where
  a : Addr
  es : Array DictEntry
  n : Nat
  kd : KDict K w a es n
  g : mg "ROW_SIZES" = some (.ref a)
  told : ∃ t, PySem.W.nsIn K a "told" = some (some (.int 2 t))
  fork : ∃ t, PySem.W.nsIn K a "fork" = some (some (.int 5 t))
section
variable {X : Cx}
theorem mt_kdget {d : Addr} {es : Array DictEntry} {n : Nat} (D : KDict X.K X.w d es n) : MtR X "dict.get" (fun x xs H Q => ∃ (z : Str) (y v0 : V) (u0 : Value), x = .ref d ∧ xs = [.str z, y] ∧ PySem.W.nsIn X.K d z = some (some u0) ∧ RelV v0 u0 ∧ Q v0 H) := by
  intro pins s σ H x xs v us Q I rx rxs h
  obtain ⟨z, y, v0, u0, rfl, rfl, e, r, q⟩ := h
  cases rx
  cases rxs with
  | cons r1 r2 =>
    obtain ⟨u2, rfl, r3⟩ := vals1 r2
    obtain ⟨t, rfl⟩ := r1
    refine call_meetsIn PySem.F.slot_dict_get (kd_type D I) PySem.F.entry_dict_get (PySem.F.args_dict_get_3 _ _ _) (meets_dict_get_default (strKind X.prog X.w) d (PySem.strKind_is X.prog X.w z t) D.low u2) ⟨_, PySem.W.mapOf_K (prog := X.prog) I.kIn D.at_ D.lit, ?_⟩
    rw [PySem.W.find_K D.at_ e]
    exact ⟨v0, H, I.tok _, r, q⟩
theorem ce_rowG {e : Expr} {fa : FE} {p p2 apos cpos : Pos} {j : Nat} (T : RowAt X.K X.mg X.w) (hg : Gl X "ROW_SIZES") (ha : CE X e fa)
    (hbase : attributeBase (.Name "ROW_SIZES" p) "get" X.env (eval (.Name "ROW_SIZES" p) X.env) = eval (.Name "ROW_SIZES" p) X.env := by rfl)
    (hfew : ((backTo cpos (starEach [e, .Constant (.int 0) j p2] X.env)).all (fun x => !x.1) && (backToKw cpos (keywordEach [] X.env)).all (fun x => x.1.isSome)
      && decide ([e, .Constant (.int 0) j p2].length + ([] : List Keyword).length + (if ([] : List Keyword).isEmpty then 0 else 1) < 30)) = true := by rfl)
    (hline : (apos.endLine == cpos.line) = true := by rfl) (hs : starEach [e, .Constant (.int 0) j p2] X.env = (false, eval e X.env) :: starEach [.Constant (.int 0) j p2] X.env := by rfl)
    (hs2 : starEach [.Constant (.int 0) j p2] X.env = (false, eval (.Constant (.int 0) j p2) X.env) :: starEach [] X.env := by rfl) (hplain : (backTo cpos (starEach [.Constant (.int 0) j p2] X.env)).any (·.1) = false := by rfl) :
    CE X (.Call (.Attribute (.Name "ROW_SIZES" p) "get" apos) [e, .Constant (.int 0) j p2] [] cpos) (e1 gRow fa) := by
  refine PE.le (pe_bmT (ty := fun x H => x = .ref T.a) PySem.F.plainAttrs_dict PySem.F.slot_dict_get PySem.F.type_dict_get (fun pins σ H s x v I rx ty => ?_) (mt_kdget T.kd) (pe_glob (v := V.ref T.a) hg T.g rfl (by decide)) (pa_cons ha (pa_cons pe_int pa_nil hs2) hs) hbase hfew hline hs hplain) fun σ H Q h => ?_
  · subst ty
    obtain rfl : v = Value.ref T.a := rx
    refine ⟨kd_type T.kd I, fun a e => ?_⟩
    cases e
    exact ⟨_, I.kIn _ _ T.kd.at_, rfl⟩
  · refine ⟨rfl, ?_⟩
    refine t1 h fun x H1 q => ?_
    obtain ⟨dx, ρ, S, d, S', rs, ax, e, q⟩ := q
    unfold gRow at e
    split at e
    · rename_i z
      cases ax
      split at e
      · rename_i hz
        cases e
        rw [strEq_iff, decide_eq_true_eq] at hz
        subst hz
        obtain ⟨t, ht⟩ := T.told
        exact ⟨_, _, .int 2, _, rfl, rfl, ht, ⟨t, rfl⟩, q _ _ ρ Ext.refl rs (.int 2)⟩
      · split at e
        · rename_i hz
          cases e
          rw [strEq_iff, decide_eq_true_eq] at hz
          subst hz
          obtain ⟨t, ht⟩ := T.fork
          exact ⟨_, _, .int 5, _, rfl, rfl, ht, ⟨t, rfl⟩, q _ _ ρ Ext.refl rs (.int 5)⟩
        · cases e
    · cases e
end
end K50
set_option Elab.async false
set_option linter.all false
set_option maxRecDepth 100000
set_option maxHeartbeats 4000000
namespace K50
open PySem PySem.Spec PyProof.Rows L2
section
variable {P : Program} {w : World} {K : PySem.W.Frag} {mg : Str → Option Value} {base : Heap}
/-! the statements of the text, what stands behind its top -/
def topS (i : Nat) : Stmt := PySem.Challenge.pw_foldsall_k50_whole_seen_forks_and_how_ma.main.body.getD i (.Pass ⟨0, 0, 0, 0⟩)
abbrev s_is_integer : Stmt := topS 7
abbrev s_is_number : Stmt := topS 8
abbrev s_is_below : Stmt := topS 9
abbrev s_is_string : Stmt := topS 10
abbrev s_is_sequence : Stmt := topS 11
abbrev s_is_pair : Stmt := topS 12
abbrev s_power_of : Stmt := topS 13
abbrev s_need_size : Stmt := topS 18
abbrev s_is_table : Stmt := topS 19
abbrev s_is_operation : Stmt := topS 20
abbrev s_in_tuples : Stmt := topS 21
abbrev s_need_operation : Stmt := topS 22
abbrev s_need_book : Stmt := topS 23
abbrev s_row_number : Stmt := topS 24
abbrev s_all_rows : Stmt := topS 25
abbrev s_filled_row : Stmt := topS 26
abbrev s_answer_at : Stmt := topS 27
abbrev s_held_part : Stmt := topS 28
abbrev s_counts_at : Stmt := topS 29
abbrev s_hung_found : Stmt := topS 30
abbrev s_least_table : Stmt := topS 31
abbrev s_last_counting : Stmt := topS 32
abbrev s_two_places : Stmt := topS 33
abbrev s_is_list : Stmt := topS 36
abbrev s_are_seen : Stmt := topS 37
abbrev s_test_holds : Stmt := topS 39
abbrev s_are_pairs : Stmt := topS 40
abbrev s_fork_behind : Stmt := topS 41
abbrev s_row_behind : Stmt := topS 43
abbrev s_rows_behind : Stmt := topS 44
abbrev s_need_program : Stmt := topS 45
abbrev s_look_of : Stmt := topS 47
abbrev s_is_let : Stmt := topS 48
abbrev s_need_sense : Stmt := topS 49
abbrev s_let_part : Stmt := topS 50
abbrev s_seen_program : Stmt := topS 52
abbrev s_let_many : Stmt := topS 53
abbrev s_law_box : Stmt := topS 55
abbrev s_law_take : Stmt := topS 56
abbrev s_law_pick : Stmt := topS 57
abbrev s_law_width : Stmt := topS 58
abbrev s_law_values : Stmt := topS 59
abbrev s_law_set : Stmt := topS 60
abbrev s_law_forget : Stmt := topS 61
abbrev s_law_give : Stmt := topS 62
abbrev s_law_flow : Stmt := topS 63
abbrev s_law_fork : Stmt := topS 64
abbrev s_law_shown : Stmt := topS 66
abbrev s_law_sources : Stmt := topS 67
abbrev s_law_given : Stmt := topS 68
abbrev s_law_kept : Stmt := topS 69
abbrev s_law_hangs : Stmt := topS 70
abbrev s_law_places : Stmt := topS 71
abbrev s_law_lets : Stmt := topS 73
abbrev s_law_tables : Stmt := topS 74
abbrev s_law_seen : Stmt := topS 75
abbrev s_law_heard : Stmt := topS 76
abbrev s_law : Stmt := topS 77
structure Txt (K : PySem.W.Frag) (mg : Str → Option Value) (w : World) where
  d_is_integer : DefAt K mg "is_integer" s_is_integer ["value"]
  d_is_number : DefAt K mg "is_number" s_is_number ["value"]
  d_is_below : DefAt K mg "is_below" s_is_below ["value", "many"]
  d_is_string : DefAt K mg "is_string" s_is_string ["value"]
  d_is_sequence : DefAt K mg "is_sequence" s_is_sequence ["value"]
  d_is_pair : DefAt K mg "is_pair" s_is_pair ["value"]
  d_power_of : DefAt K mg "power_of" s_power_of ["base", "many"]
  d_need_size : DefAt K mg "need_size" s_need_size ["value"]
  d_is_table : DefAt K mg "is_table" s_is_table ["size", "value", "most"]
  d_is_operation : DefAt K mg "is_operation" s_is_operation ["size", "value"]
  d_in_tuples : DefAt K mg "in_tuples" s_in_tuples ["table"]
  d_need_operation : DefAt K mg "need_operation" s_need_operation ["size", "value"]
  d_need_book : DefAt K mg "need_book" s_need_book ["value"]
  d_row_number : DefAt K mg "row_number" s_row_number ["size", "row"]
  d_all_rows : DefAt K mg "all_rows" s_all_rows ["size", "many"]
  d_filled_row : DefAt K mg "filled_row" s_filled_row ["held", "values"]
  d_answer_at : DefAt K mg "answer_at" s_answer_at ["size", "operation", "row"]
  d_held_part : DefAt K mg "held_part" s_held_part ["size", "operation", "held"]
  d_counts_at : DefAt K mg "counts_at" s_counts_at ["size", "operation", "place", "row"]
  d_hung_found : DefAt K mg "hung_found" s_hung_found ["size", "operation"]
  d_least_table : DefAt K mg "least_table" s_least_table ["size", "operation"]
  d_last_counting : DefAt K mg "last_counting" s_last_counting ["size", "operation", "place", "one", "other"]
  d_two_places : DefAt K mg "two_places" s_two_places ["size", "operation"]
  d_is_list : DefAt K mg "is_list" s_is_list ["size", "value"]
  d_are_seen : DefAt K mg "are_seen" s_are_seen ["value", "seen"]
  d_test_holds : DefAt K mg "test_holds" s_test_holds ["book", "test", "seen"]
  d_are_pairs : DefAt K mg "are_pairs" s_are_pairs ["value", "ones", "others"]
  d_fork_behind : DefAt K mg "fork_behind" s_fork_behind ["book", "row", "seen", "number"]
  d_row_behind : DefAt K mg "row_behind" s_row_behind ["book", "row", "seen", "number"]
  d_rows_behind : DefAt K mg "rows_behind" s_rows_behind ["book", "rows", "seen", "number"]
  d_need_program : DefAt K mg "need_program" s_need_program ["book", "value"]
  d_look_of : DefAt K mg "look_of" s_look_of ["book", "number"]
  d_is_let : DefAt K mg "is_let" s_is_let ["book", "number", "word"]
  d_need_sense : DefAt K mg "need_sense" s_need_sense ["value"]
  d_let_part : DefAt K mg "let_part" s_let_part ["book", "word"]
  d_seen_program : DefAt K mg "seen_program" s_seen_program ["size"]
  d_let_many : DefAt K mg "let_many" s_let_many ["size", "places", "word"]
  d_law_box : DefAt K mg "_law_box" s_law_box ["_law_script", "_law_k"]
  d_law_take : DefAt K mg "_law_take" s_law_take ["_law_box_here", "_law_many"]
  d_law_pick : DefAt K mg "_law_pick" s_law_pick ["_law_box_here", "_law_some"]
  d_law_width : DefAt K mg "_law_width" s_law_width ["_law_rows"]
  d_law_values : DefAt K mg "_law_values" s_law_values ["_law_lists"]
  d_law_set : DefAt K mg "_law_set" s_law_set ["_law_state", "_law_cell", "_law_value"]
  d_law_forget : DefAt K mg "_law_forget" s_law_forget ["_law_lot", "_law_first", "_law_many"]
  d_law_give : DefAt K mg "_law_give" s_law_give ["_law_lot", "_law_number", "_law_registers", "_law_shown_here"]
  d_law_flow : DefAt K mg "_law_flow" s_law_flow ["_law_book", "_law_rows", "_law_number", "_law_lot", "_law_shown_here"]
  d_law_fork : DefAt K mg "_law_fork" s_law_fork ["_law_book", "_law_row", "_law_number", "_law_lot", "_law_shown_here"]
  d_law_shown : DefAt K mg "_law_shown" s_law_shown ["_law_book", "_law_program"]
  d_law_sources : DefAt K mg "_law_sources" s_law_sources ["_law_rows", "_law_number"]
  d_law_given : DefAt K mg "_law_given" s_law_given ["_law_book", "_law_source", "_law_kept_here", "_law_k"]
  d_law_kept : DefAt K mg "_law_kept" s_law_kept ["_law_book", "_law_program", "_law_k"]
  d_law_hangs : DefAt K mg "_law_hangs" s_law_hangs ["_law_size", "_law_operation", "_law_held", "_law_place"]
  d_law_places : DefAt K mg "_law_places" s_law_places ["_law_size", "_law_operation"]
  d_law_lets : DefAt K mg "_law_lets" s_law_lets ["_law_size", "_law_operation", "_law_word"]
  d_law_tables : DefAt K mg "_law_tables" s_law_tables ["_law_size", "_law_places_here"]
  d_law_seen : DefAt K mg "_law_seen" s_law_seen ["_law_rows"]
  d_law_heard : DefAt K mg "_law_heard" s_law_heard ["_law_work"]
  d_law : DefAt K mg "law" s_law ["_law_script"]
  n_isinstance : mg "isinstance" = none
  n_int : mg "int" = none
  n_bool : mg "bool" = none
  n_str : mg "str" = none
  n_tuple : mg "tuple" = none
  n_list : mg "list" = none
  n_len : mg "len" = none
  n_any : mg "any" = none
  n_all : mg "all" = none
  n_min : mg "min" = none
  n_max : mg "max" = none
  n_sum : mg "sum" = none
  n_range : mg "range" = none
  n_enumerate : mg "enumerate" = none
  n_sorted : mg "sorted" = none
  n_set : mg "set" = none
  n_abs : mg "abs" = none
  row : RowAt K mg w
  kb_seen_program : KBn K d_seen_program.fd ["size"] 0 ["size"] (fun _ ws => ws) (fun _ zs => zs)
  kb_let_many : KBn K d_let_many.fd ["size", "places", "word"] 0 ["size", "places", "word"] (fun _ ws => ws) (fun _ zs => zs)
  t_MOST_SIZE : Tok
  c_MOST_SIZE : mg "MOST_SIZE" = some (.int 8 t_MOST_SIZE)
  t_MOST_PLACES : Tok
  c_MOST_PLACES : mg "MOST_PLACES" = some (.int 3 t_MOST_PLACES)
  t_MOST_OPERATIONS : Tok
  c_MOST_OPERATIONS : mg "MOST_OPERATIONS" = some (.int 8 t_MOST_OPERATIONS)
end
end K50
set_option Elab.async false
set_option linter.all false
set_option maxRecDepth 100000
set_option maxHeartbeats 4000000
/-! a list comprehension whose test is told of the state in which its block starts -/
namespace K50
open PySem PySem.Spec PyProof.Rows L2
section
variable {Y : Cx}
theorem lc_told {ps : List (Addr × Obj)} {z : Shared} {τ : L2.St} {G : Hp} {W : VK} {body tgt src : Expr} {tests : List Expr} {sc : Scope} {mine : List (Str × Nat)} {q1 q2 : Pos} {wi : TI} {g : TG} {tt : TT} {te : TE}
    (calm : Y.calm = true) (nd : Y.N.Nodup) (J0 : Inv Y ps τ G z) (hsrc : PI Y tgt src wi) (ok : BlkOk Y.N Y.env.scope sc mine)
    (hT : ∀ (a : Shared) (B : Hp) (c : Addr) (l : List (Str × Addr)) (ex : List Addr), Inv Y ps τ B a → (∀ b ∈ ex, FpOk Y ps B b) → PG (Y.blk a B sc (compEnvC sc l c Y.env) ex) tgt g ∧ PTs (Y.blk a B sc (compEnvC sc l c Y.env) ex) tests tt ∧ PE (Y.blk a B sc (compEnvC sc l c Y.env) ex) body te)
    (fold : ∀ x, foldedSetIterable src Y.env x = pure x) (h : tLc wi g tt te (mine.map (·.2)) τ G W) :
    wpAny (model Y.prog Y.w) Y.A (eval (.ListComp body [⟨tgt, src, tests, 0⟩] sc q1) Y.env) (EP Y ps τ W) Y.xe z := by
  rw [eval_ListComp]
  have cap : ∀ n ∈ sc.names, n.2 = .free → ∃ c, Y.env.cells.lookup n.1 = some c := fun n hn e => (ok.free n hn e).elim (fun k => J0.ok.has _ (.inl k)) (fun k => J0.ok.has _ (.inr k))
  refine wpAny_comprehension_free rfl fold (closure_ok cap) ok.kind (fun n hn e => by rw [ok.uniq n hn, e]) (thn (hsrc.run ps z τ G _ J0 h) fun lv z1 h1 => thn h1 fun iv z2 h2 => ?_)
  obtain ⟨it, ex, tn, L, G2, rfl, J2, T, at2, ex2, q⟩ := h2
  refine wpAny_newObj_type (newEnv_comp ?_) (Nat.zero_le _)
  -- the list that grows, at r
  obtain ⟨r, er⟩ : ∃ r, r = z2.heap.objs.size := ⟨_, rfl⟩
  rw [← er]
  obtain ⟨R, ⟨m0, r0⟩, turn⟩ := q r (J2.hok.fresh (Nat.le_of_eq er.symm))
  obtain ⟨z3, ez3⟩ : ∃ z3 : Shared, z3 = { z2 with heap := z2.heap.push { cls := .type "list", data := .seq ([] : List Value).toArray } } := ⟨_, rfl⟩
  have hz3 : z3.heap = z2.heap.push { cls := .type "list", data := .seq ([] : List Value).toArray } := by rw [ez3]
  obtain ⟨G3, eG3⟩ : ∃ G3 : Hp, G3 = upd G2 r (.lst []) := ⟨_, rfl⟩
  rw [← eG3] at r0
  have J3 : Inv Y ps τ G3 z3 := by
    rw [ez3, eG3]
    exact J2.laid (t' := z2.toks) (fun b o e => Heap.get?_push_of_some _ e) (Nat.le_of_eq er.symm) ⟨Nat.zero_le _, [], 0, .nil, by rw [er]; exact Heap.get?_push_size _ rfl⟩
  have low : ∀ b ∈ ex, b < z2.heap.objs.size := fun b hb => let ⟨_, e, _⟩ := T.obj _ _ at2 b hb; Heap.lt_size e
  have ex3 : ∀ b ∈ ex, FpOk Y ps G3 b ∧ b < z3.heap.objs.size := fun b hb => by
    have lt := low b hb
    obtain ⟨e0, e1⟩ := ex2 b hb
    refine ⟨⟨?_, e1⟩, by rw [hz3, Heap.size_push]; exact Nat.lt_succ_of_lt lt⟩
    rw [eG3, upd_ne (by rw [er]; exact Nat.ne_of_lt lt)]
    exact e0
  have up3 : ∀ b o, z2.heap.get? b = some o → z3.heap.get? b = some o := fun b o e => by rw [hz3]; exact Heap.get?_push_of_some _ e
  have J4 := block_start J3 ok nd ex3
  obtain ⟨env, eenv⟩ : ∃ env, env = compEnvC sc (cellsFrom (z3.heap.objs.size + 1) sc.names (cloFrom Y.env.cells sc.names [])) z3.heap.objs.size Y.env := ⟨_, rfl⟩
  obtain ⟨pg, pt, pe⟩ := hT z3 G3 z3.heap.objs.size (cellsFrom (z3.heap.objs.size + 1) sc.names (cloFrom Y.env.cells sc.names [])) ex J3 (fun b hb => (ex3 b hb).1)
  obtain ⟨z4, ez4⟩ : ∃ z4 : Shared, z4 = { z3 with heap := pushCells (z3.heap.push { cls := .type "dict", data := .dict #[] }) sc.names } := ⟨_, rfl⟩
  have eL : env.locals = z3.heap.objs.size := by rw [eenv]; rfl
  rw [← ez3]
  show codeAny _ _ (.compStart _ 0 (.ref it) (.ref r) (compEnvC sc (cellsFrom (z3.heap.objs.size + 1) sc.names (cloFrom Y.env.cells sc.names [])) z3.heap.objs.size Y.env)) _ _
  rw [← ez4, ← eenv]
  rw [← eenv] at pg pt pe
  rw [← ez4, ← eenv] at J4
  let V := Y.blk z3 G3 sc env ex
  let τw := wipe τ (mine.map (·.2))
  have at4 : tn 0 z4.heap := T.keep _ _ _ at2 fun b _ o e => by
    rw [ez4]
    exact pushCells_keeps _ _ _ _ (Heap.get?_push_of_some _ (up3 b o e))
  have held : ∀ {τ' : L2.St} {B : Hp} {x : Shared}, Inv V [] τ' B x → (∀ b ∈ ex, B b = none) → ∀ b ∈ ex, FpOk V [] B b := fun {τ' B x} K n b hb =>
    ⟨n b hb, (K.ok.exf b hb).1, K.ok.exfs b hb, .inl hb, fun y c e => (K.ok.exf b hb).2 y c e, fun p hp => by cases hp⟩
  have main : codeAny (model Y.prog Y.w) Y.A (.compLoop (.ListComp body [⟨tgt, src, tests, 0⟩] sc q1) 0 (.ref it) (.ref r) env) (compPost (model Y.prog Y.w) Y.A Y.xe none (EP Y ps τ W) (.ref r) z3.heap.objs.size) z4 := by
    refine compLoop_any (fun n x => ∃ i B, Inv V [] τw B x ∧ tn i x.heap ∧ (∀ b ∈ ex, B b = none) ∧ R i n B) ?_ m0 ⟨0, G3, J4, at4, fun b hb => (ex3 b hb).1.1, r0⟩
    intro n z5 hz5
    obtain ⟨i, G5, J5, at5, n5, r5⟩ := hz5
    rcases turn i n G5 r5 with ⟨stop, fin⟩ | ⟨go, Nx, hNx, step⟩
    · -- no more: back in the def
      refine thnF (T.done V rfl rfl rfl calm i [] z5 _ G5 (fun _ _ => False) J5 (held J5 n5) at5 stop) fun res z6 hz6 => ?_
      obtain ⟨rfl, J6⟩ := hz6
      have J7 : Inv Y ps τ G5 z6 := J3.call' (ch := ex) J6.os J6.base J6.hok J6.bare fun b hb => by
        obtain ⟨_, a1, a2, a3, a4, a5⟩ := (ex3 b hb).1
        exact ⟨a3, a1, a4, a5⟩
      have free : G5 env.locals = none := J6.free
      obtain ⟨m, hm, _⟩ := J6.loc
      have hm : z6.heap.Ns env.locals m := hm
      rw [eL] at free hm
      obtain ⟨_, b1, b2, b3, b4, b5⟩ := J3.fpOk (Nat.le_refl _) free
      exact ⟨m, hm, fun hh sb => ⟨.ref r, G5, J7.turned (t' := z6.toks) (fun b o hb e => (sb.2 b hb).trans e) free b1 b3 b4 b5, rfl, fin⟩⟩
    · -- a turn
      refine thnF (T.item V rfl rfl rfl calm i [] z5 _ G5 (fun _ _ => False) J5 (held J5 n5) at5 go) fun res z6 hz6 => ?_
      obtain ⟨u, rfl, next⟩ := hz6
      refine thnF next fun _ z7 hz7 => ?_
      obtain ⟨x, G7, J7, ru, y7, at7, n7⟩ := hz7
      refine thnF (pg.run _ z7 _ G7 x u _ (J7.pinned (held J7 n7) (T.obj _ _ at7)) ru (step x G7 y7)) fun _ z8 hz8 => ?_
      obtain ⟨τ8, G8, J8, w8, q8⟩ := hz8
      refine thnF (pt.run _ z8 τ8 G8 _ J8 q8) fun b z9 hz9 => ?_
      obtain ⟨G9, J9, q9⟩ := hz9
      have ends : ∀ {x : Shared} {B : Hp}, Inv V ([] ++ pinsAt ex z7.heap) τ8 B x → Nx B → ∃ k, k < n ∧ ∃ i B, Inv V [] τw B x ∧ tn i x.heap ∧ (∀ b ∈ ex, B b = none) ∧ R i k B := fun {x B} K nx => by
        obtain ⟨k, lt, rk⟩ := hNx B nx
        have there : ∀ b ∈ ex, ∀ o, z7.heap.get? b = some o → x.heap.get? b = some o ∧ B b = none := fun b hb o e => by
          obtain ⟨e1, e2, _⟩ := K.pin (b, o) (List.mem_append_right _ (List.mem_append_right _ (mem_pinsAt hb e)))
          exact ⟨e1, e2⟩
        refine ⟨k, lt, i + 1, B, (K.unpinned (pins := [])).weak (by rw [← wipe_length τ8 (mine.map (·.2)), w8]) (fun j v e => ?_), T.keep _ _ _ at7 fun b hb o e => (there b hb o e).1, fun b hb => ?_, rk⟩
        · have e' : (wipe τ8 (mine.map (·.2)))[j]? = some (some v) := by
            rw [w8]
            exact e
          exact (wipe_some e').1
        · obtain ⟨o, e, _⟩ := T.obj _ _ at7 b hb
          exact (there b hb o e).2
      cases b with
      | false =>
        rw [if_neg Bool.false_ne_true] at q9 ⊢
        exact ends J9 q9
      | true =>
        rw [if_pos rfl] at q9 ⊢
        refine thnF (pe.run _ z9 τ8 G9 _ J9 q9) fun v z10 hz10 => ?_
        obtain ⟨y, G10, J10, ry, acc, gr, lt, nx⟩ := hz10
        exact app_ok (X := V) J10 gr lt ry fun z11 J11 => ends J11 nx
  exact codeAny_compStart_list main (T.self Y.A 0 _ _ _ at4 main)
end
end K50
set_option Elab.async false
set_option linter.all false
set_option maxRecDepth 100000
set_option maxHeartbeats 4000000
/-! a lambda made, its object known from then on -/
namespace K50
open PySem PySem.Spec PyProof.Rows L2 LamX
/-- the object at f is this one -/
def LamO (f : Addr) (o : Obj) : HO := .ext fun h => h.get? f = some o
abbrev lamObj (qual : Str) (params : Arguments) (body : Expr) (scope : Scope) (cl : List (Str × Addr)) (pm : Value) (c' : Addr) (ctv : Value) : Obj := PySem.W.kla_obj "<lambda>" qual params body scope cl pm c' ctv
/-- what a made lambda leaves -/
def tMkLam (X : Cx) (T : List (Addr × Str)) (params : Arguments) (body : Expr) (scope : Scope) : TE := fun σ H Q => Tabs T H ∧ ∀ (f c' : Addr) (pm ctv : Value) (H1 : Hp), ExtN H H1 → Tabs T H1 →
  H1 f = some (LamO f (lamObj (X.env.qual ++ "<lambda>") params body scope (cloFrom X.env.cells scope.names []) pm c' ctv)) → H1 c' = some (CodeO c' (X.env.qual ++ "<lambda>")) → Q (.ref f) H1
theorem tabs_new {T : List (Addr × Str)} {H : Hp} {f : Addr} {o : HO} (t : Tabs T H) (n : H f = none) : Tabs T (upd H f o) := t.ext fun b u e => by rw [upd_ne (ne_of_none e n)]; exact e
section
variable {X : Cx}
theorem lam_laid {pins : List (Addr × Obj)} {σ : L2.St} {H : Hp} {z : Shared} {t : Nat} {h2 : Heap} {o : Obj} {f : Addr} (fr : o.isFreed = false) (J : Inv X pins σ H { z with heap := h2, toks := t }) (hf : f = h2.objs.size) :
    Inv X pins σ (upd H f (LamO f o)) { z with heap := h2.push o, toks := t } := by
  have e : (h2.push o).get? f = some o := by
    rw [hf]
    exact Heap.get?_push_size _ fr
  exact J.laid (t' := t) (fun b u q => Heap.get?_push_of_some _ q) (Nat.le_of_eq hf.symm) ⟨e, ⟨o, e⟩, fun _ _ a st => st _ a⟩
theorem pe_mklam {T : List (Addr × Str)} {c P : Addr} {params : Arguments} {body : Expr} {scope : Scope} {pos : Pos} (TB : TabB X.base X.mg c P) (hcode : X.env.code = .ref c) (hm : (P, X.env.qual ++ "<lambda>") ∈ T) (hu : ∀ p ∈ T, p.1 = P → p.2 = X.env.qual ++ "<lambda>")
    (hdef : defaultsOf params X.env = ([], [])) (L : LamS X.env.scope scope) : PE X (.Lambda params body scope pos) (tMkLam X T params body scope) := by
  refine ⟨fun pins z σ H Q J hq => ?_⟩
  obtain ⟨tabs, q⟩ := hq
  obtain ⟨ps, hP, trip, known⟩ := tabs _ hm
  have free := L.has J.ok
  refine PySem.W.kla_eval hdef ?_
  have gl := J.mod.glob.keeps J.bk
  have bl := TB.bm.keeps J.bk
  have hd := TB.code.keeps J.bk
  have oP : z.heap.get? P = some { cls := .none, data := .fields ps } := J.hok P _ hP
  cases hc : codeAmong pos ps.toList with
  | some cv =>
    obtain ⟨c', rfl, kc⟩ := known pos cv hc
    refine PySem.W.kla_makeFunctionHit (mg := X.mg) (c := c) (P := P) (ps := ps) (closure_ok free) J.ok.glob gl hcode hd oP trip hc bl fun ctv h2 t2 keep sz => ?_
    have J1 : Inv X pins σ H { z with heap := h2, toks := t2 } := J.kept fun b o e => keep b o e
    have n : H h2.objs.size = none := J1.hok.fresh (Nat.le_refl _)
    have J2 := lam_laid (o := lamObj (X.env.qual ++ "<lambda>") params body scope (cloFrom X.env.cells scope.names []) ((X.mg "__name__").getD .none) c' ctv) rfl J1 rfl
    exact ⟨.ref h2.objs.size, _, J2, rfl, q _ c' _ ctv _ (fun b u e _ => by rw [upd_ne (ne_of_none e n)]; exact e) (tabs_new tabs n) upd_same (by rw [upd_ne (ne_of_none kc n)]; exact kc)⟩
  | none =>
    refine PySem.W.kla_makeFunction (mg := X.mg) (c := c) (P := P) (ps := ps) (closure_ok free) J.ok.glob gl hcode hd oP trip hc TB.gP bl fun c' ctv h2 t2 keep ge lt rec tab => ?_
    obtain ⟨_, oc, vs, tk, e0, e1, e2, e3⟩ := rec
    cases e0
    have J1 := inv_table (t' := t2) (more := #[rawInt pos.line, rawInt pos.col, .ref c']) (h' := h2) J hP (fun b o hb e => keep b o hb e) tab ge ⟨oc, vs, tk, e1, e2, e3⟩
    obtain ⟨H', eH'⟩ : ∃ H', H' = upd (upd H P (.tbl (ps ++ #[rawInt pos.line, rawInt pos.col, .ref c']))) c' (CodeO c' (X.env.qual ++ "<lambda>")) := ⟨_, rfl⟩
    rw [← eH'] at J1
    have nc : H c' = none := J.hok.fresh ge
    have newC : H' c' = some (CodeO c' (X.env.qual ++ "<lambda>")) := by rw [eH', upd_same]
    have newP : H' P = some (.tbl (ps ++ #[rawInt pos.line, rawInt pos.col, .ref c'])) := by rw [eH', upd_ne (ne_of_none hP nc), upd_same]
    have oldH : ∀ b o, H b = some o → b ≠ P → H' b = some o := fun b o e n => by rw [eH', upd_ne (ne_of_none e nc), upd_ne n]; exact e
    have ext1 : ExtN H H' := fun b o e n => oldH b o e fun z => n ps (by rw [z, hP] at e; exact (Option.some.inj e).symm)
    have more : ∀ p', ∀ cv, codeAmong p' (ps ++ #[rawInt pos.line, rawInt pos.col, .ref c']).toList = some cv → codeAmong p' ps.toList = some cv ∨ cv = .ref c' := fun p' cv h => by
      rw [Array.toList_append] at h
      exact among_app _ trip h
    have tabs1 : Tabs T H' := fun p hp => by
      by_cases hb : p.1 = P
      · refine ⟨_, by rw [hb]; exact newP, ?_, fun p' cv hcv => ?_⟩
        · rw [Array.toList_append]
          exact PySem.TriplesOk_snoc _ _ _ _ trip
        · rcases more p' cv hcv with q | q
          · obtain ⟨d, e1, e2⟩ := known p' cv q
            refine ⟨d, e1, ?_⟩
            rw [hu p hp hb]
            exact ext1 _ _ e2 codeO_ne
          · exact ⟨c', q, by rw [hu p hp hb]; exact newC⟩
      · obtain ⟨l, t1, t2, t3⟩ := tabs p hp
        refine ⟨l, oldH _ _ t1 hb, t2, fun p' cv hcv => ?_⟩
        obtain ⟨d, e1, e2⟩ := t3 p' cv hcv
        exact ⟨d, e1, ext1 _ _ e2 codeO_ne⟩
    have n : H' h2.objs.size = none := J1.hok.fresh (Nat.le_refl _)
    have J2 := lam_laid (o := lamObj (X.env.qual ++ "<lambda>") params body scope (cloFrom X.env.cells scope.names []) ((X.mg "__name__").getD .none) c' ctv) rfl J1 rfl
    exact ⟨.ref h2.objs.size, _, J2, rfl, q _ c' _ ctv _ (fun b u e m => by rw [upd_ne (ne_of_none (ext1 b u e m) n)]; exact ext1 b u e m) (tabs_new tabs1 n) upd_same (by rw [upd_ne (ne_of_none newC n)]; exact newC)⟩
end
end K50
set_option Elab.async false
set_option linter.all false
set_option maxRecDepth 100000
set_option maxHeartbeats 4000000
namespace K50
open PySem PySem.Spec PyProof.Rows PySem.Calls L2
/-! ### the program's own error: InvalidSize(word) -/
abbrev eTl : List Value := [.type "Exception", .type "BaseException", .type "object"]
def clsBody : Stmt → List Stmt
  | .ClassDef _ _ _ b _ _ _ _ _ _ _ => b
  | _ => []
abbrev s_isz : Stmt := (clsBody (topS 5)).getD 0 (.Pass ⟨0, 0, 0, 0⟩)
structure SizTxt (P : Program) (K : PySem.W.Frag) (mg : Str → Option Value) (C fI cc cda : Addr) : Prop where
  gC : mg "InvalidSize" = some (.ref C)
  kC : PySem.W.keepIn K (.ref C) = true
  xI : PySem.W.excInitIn K C eTl "Exception.__new__" = true
  xO : PySem.W.excOver K C eTl = true
  tw : PySem.W.takerIn K C "word" = some none
  noN : PySem.W.findIn K (.ref C) "word" = some none
  sa : PySem.W.findIn K (.ref C) "__setattr__" = some (some (.builtin "object.__setattr__"))
  ga : PySem.W.findIn K (.ref C) "__getattribute__" = some (some (.builtin "BaseException.__getattribute__"))
  gg : PySem.W.findIn K (.ref C) "__getattr__" = some none
  iC : PySem.W.findIn K (.ref C) "__init__" = some (some (.ref fI))
  tI : PySem.W.typeIn K (.ref fI) = some (.type "function")
  hdC : PySem.W.hasDictIn K C = true
  exC : PySem.W.subIn K (.ref C) (.type "BaseException") = some true
  exE : PySem.W.subIn K (.ref C) (.type "Exception") = some true
  tyC : PySem.W.typeIn K (.ref C) = some (.type "type")
  te : PySem.W.exmOne K (.ref C) (.ref C) = some true
  sup : PySem.W.ks_superIn K C C "__init__" = some (some (.builtin "Exception.__init__"))
  opq : PySem.W.nsIn K cStatics "thirdparty.any" = some none
  sub : PySem.W.mroIn K C (.ref C) = some true
  gs : mg "super" = none
  fn : ∃ (oc kV dc pm ct : Value) (od an : Option Addr) (sl : Array (Option Value)), K.lookup fI = some ⟨oc, od, .func (PySem.W.ksFn "__init__" "InvalidSize.__init__" (defArgs s_isz) (defBody s_isz) (defScope s_isz) .none kV dc pm an (.ref cda) ct cc), sl⟩
  ci : PySem.W.codeIn K (.ref cda) "InvalidSize.__init__" = true
  cd : ∃ (ccl : Value) (cdd : Option Addr) (vs : Array Value) (ccs : Array (Option Value)) (file : Str) (tf : Tok), K.lookup cda = some ⟨ccl, cdd, .fields vs, ccs⟩ ∧ vs[2]? = some (.str file tf) ∧ ((P.main.file : Str) == file) = true
  ce : ∃ (cl : Value) (cld : Option Addr) (csl : Array (Option Value)), K.lookup cc = some ⟨cl, cld, .cell (some (.ref C)), csl⟩
  top : (P.main.scope.names.lookup ("super" : Str)).isSome = false
/-- what is left of a fresh error at x behind __init__ -/
structure InitEnd (h h' : Heap) (x C dx t1 : Addr) (v : Value) : Prop where
  keep : ∀ b o, b ≠ x → h.get? b = some o → h'.get? b = some o
  obj : h'.get? x = some { cls := .ref C, dict := some dx, data := .fields #[.ref t1, .none, .none, .none, .bool false, .none] }
  dbig : h.objs.size ≤ dx
  dne : dx ≠ x
  ns : h'.Ns1 dx (fun y => if y = "word" then some v else none)
/-- a made error -/
structure OwnMade (h h' : Heap) (e C d : Addr) (v : Value) : Prop where
  keep : ∀ b o, h.get? b = some o → h'.get? b = some o
  new : h.objs.size ≤ e
  obj : ∃ oe vs, h'.get? e = some oe ∧ oe.cls = .ref C ∧ oe.dict = some d ∧ oe.data = .fields vs ∧ vs[1]? = some .none
  dbig : h.objs.size ≤ d
  dne : d ≠ e
  ns : h'.Ns1 d (fun y => if y = "word" then some v else none)
section
open Builtin Builtin.ObjectAttr
variable {prog : Program} {w : World} {A : Around} {E : Value → Shared → Prop} {R : Result → Shared → Prop} {hp : Heap} {g : Array GenState} {d : Drawn} {t : Nat} {os : OsState} {K : PySem.W.Frag} {mg : Str → Option Value} {C fI cc cda : Addr}
/-- self.word = v on the fresh error -/
theorem siz_osa (T : SizTxt prog K mg C fI cc cda) {tk : Tok} {v : Value} {x : Addr} {fv : Array Value} (X : K.In hp) (hx : hp.get? x = some { cls := .ref C, data := .fields fv })
    (hq : ∀ h' tk' dx, (∀ b o, b ≠ x → hp.get? b = some o → h'.get? b = some o) → hp.objs.size ≤ dx → dx ≠ x → h'.get? x = some { cls := .ref C, dict := some dx, data := .fields fv } →
      h'.Ns1 dx (fun y => if y = "word" then some v else none) → R (.ok (.ret .none)) ⟨h', g, d, tk', os⟩) :
    codeAny (model prog w) A (.call (.builtin "object.__setattr__") ⟨[.ref x, .str "word" tk, v], []⟩) R ⟨hp, g, d, t, os⟩ := by
  have hxs : x ≠ hp.objs.size := Nat.ne_of_lt (Heap.lt_size hx)
  refine PySem.W.osa_openX (od := none) F.store_Exception X ⟨hx, rfl, rfl, trivial⟩ T.xO T.tw fun b => ?_
  obtain ⟨cd, hc, hh⟩ := PySem.W.any_some T.hdC
  have hcls : PySem.W.Looks (model prog w) hp (classData C) cd := PySem.W.looks_clsIn X hc
  obtain ⟨nm, bs, mro, ns, qn, hd, sn, sb, ab, col, del⟩ := cd
  dsimp only at hh
  subst hh
  show wpAny _ _ (storeInOwnDict (.ref x) (.ref C) (.str "word" tk) "word" v b) _ _ _
  unfold storeInOwnDict ownDictForStores
  repeat (first | with_reducible refine HandSPX.store_in_new ?_ ?_ | with_reducible refine wpAny_loadPart_at hx ?_ | with_reducible refine hcls.at ?_ | wp_step)
  · exact ⟨_, #[], _, (Heap.get?_update_ne _ _ _ _ hxs.symm).trans (Heap.get?_push_at rfl rfl), rfl, fun e he => absurd he (by simp), fun _ => rfl⟩
  · intro h' tk' hn' hs
    have hx₁ : (hp.push { cls := .type "dict", data := .dict #[] }).get? x = some { cls := .ref C, data := .fields fv } := Heap.get?_push_of_some _ hx
    refine hq h' tk' hp.objs.size (fun b o hb ho => ?_) (Nat.le_refl _) hxs.symm ?_ hn'
    · exact (hs.2 b (Nat.ne_of_lt (Heap.lt_size ho))).trans ((Heap.get?_update_ne _ _ _ _ hb).trans (Heap.get?_push_of_some _ ho))
    · exact (hs.2 x hxs).trans (Heap.get?_update_self _ hx₁ rfl)
abbrev iszB : List Stmt := [.Expr (.Call (.Attribute (.Call (.Name "super" ⟨22, 8, 22, 13⟩) [] [] ⟨22, 8, 22, 15⟩) "__init__" ⟨22, 8, 22, 24⟩) [.Constant (.str ⟨#[110, 111, 32, 115, 117, 99, 104, 32, 115, 105, 122, 101]⟩) 0 ⟨22, 25, 22, 39⟩] [] ⟨22, 8, 22, 40⟩) ⟨22, 8, 22, 40⟩, .Assign [.Attribute (.Name "self" ⟨23, 8, 23, 12⟩) "word" ⟨23, 8, 23, 17⟩] (.Name "word" ⟨23, 20, 23, 24⟩) ⟨23, 8, 23, 24⟩]
theorem isz_body : defBody s_isz = iszB := rfl
theorem isz_nocell : ∀ x ∈ (defScope s_isz).names, x.2 ≠ .cell := by decide +kernel
theorem siz_init (T : SizTxt prog K mg C fI cc cda) {mb : Str → Option Value} {x t0 : Addr} {v : Value} (X : K.In hp) (G : hp.Ns mainGlobals mg) (Gb : hp.Ns builtinsNs mb) (hb : ∀ x : Str, x ≠ "__name__" → mb x = bootBuiltins x) (hlim : hp.NoLimit)
    (hx : hp.get? x = some (HandSPX.excO C t0)) (hnx : K.lookup x = none) (hroom : A.depth < recursionLimit)
    (hq : ∀ h' tk dx t1, InitEnd hp h' x C dx t1 v → R (.ok (.ret .none)) ⟨h', g, d, tk, os⟩) :
    codeAny (model prog w) A (.call (.ref fI) ⟨[.ref x, v], []⟩) R ⟨hp, g, d, t, os⟩ := by
  obtain ⟨oc, kV, dc, pm, ct, od, an, sl, ho⟩ := T.fn
  obtain ⟨ccl, cdd, cvs, ccs, file, tf, hcd, hvs, hfile⟩ := T.cd
  obtain ⟨cl, cld, csl, hcell⟩ := T.ce
  obtain ⟨nm, N', qn, bs, bm, hdct, sn, sub, ab, col, dd, k0, k1, k2, k3, k5, hC, hT⟩ := PySem.W.excInit_of X T.xI
  obtain ⟨cdD, hcD⟩ : ∃ cdD, PySem.W.clsIn K C = some cdD := by
    obtain ⟨cd, h1, _⟩ := PySem.W.any_some T.hdC
    exact ⟨cd, h1⟩
  refine PySem.ks_codeAny_call_defAt (s := ⟨hp, g, d, t, os⟩) (fd := PySem.W.ksFn "__init__" "InvalidSize.__init__" (defArgs s_isz) (defBody s_isz) (defScope s_isz) .none kV dc pm an (.ref cda) ct cc) (body := defBody s_isz)
    (binds := [("self", .ref x), ("word", v)]) hroom (X _ _ ho) rfl hlim (PySem.W.codeRec_of X T.ci) rfl (BindsTo.of_eq (by first | rfl | with_unfolding_all rfl)) (isz_nocell) (by
      intro y hy
      rcases List.mem_cons.mp hy with rfl | hy
      · rfl
      · rcases List.mem_cons.mp hy with rfl | hy
        · rfl
        · cases hy) (fun h₁ hns k₁ => ?_) rfl rfl rfl
  have X₁ : K.In h₁ := X.keeps k₁
  have hx₁ := k₁ _ _ hx
  have hL : hp.objs.size < h₁.objs.size := hns.lt
  obtain ⟨oD, hD1, hD2⟩ : ∃ oD, h₁.get? C = some oD ∧ oD.data = .cls cdD := by
    unfold PySem.W.clsIn at hcD
    split at hcD
    · rename_i c d cd' sl ho
      cases hcD
      exact ⟨_, X₁ _ _ ho, rfl⟩
    · cases hcD
  have nCx : x ≠ C := fun e => by
    rw [e, hD1] at hx₁
    have hx₂ := Option.some.inj hx₁
    rw [hx₂] at hD2
    cases hD2
  have nL : x ≠ hp.objs.size := Nat.ne_of_lt (Heap.lt_size hx)
  show _root_.PySem.wpAt (model prog w) (A.deeper (PySem.W.ksEnv "InvalidSize.__init__" (defScope s_isz) hp.objs.size fI (.ref cda) cc)) (.func (defBody s_isz) (PySem.W.ksEnv "InvalidSize.__init__" (defScope s_isz) hp.objs.size fI (.ref cda) cc)) (execs (defBody s_isz) (PySem.W.ksEnv "InvalidSize.__init__" (defScope s_isz) hp.objs.size fI (.ref cda) cc)) _ _ _
  generalize hcd' : (Code.func (defBody s_isz) (PySem.W.ksEnv "InvalidSize.__init__" (defScope s_isz) hp.objs.size fI (.ref cda) cc)) = cde
  rw [isz_body]
  subst hcd'
  refine ks_wpAt_execs_cons (ks_wpAt_Expr_any (ks_wpAt_MethodCall ?_))
  refine ks_wpAt_super_base (env := PySem.W.ksEnv "InvalidSize.__init__" (defScope s_isz) hp.objs.size fI (.ref cda) cc) rfl rfl rfl rfl (k₁ _ _ (X _ _ ho)) rfl rfl rfl (k₁ _ _ (X _ _ hcd)) rfl hvs hfile T.top ?_
  refine PySem.W.ks_loadName_global rfl rfl (loadGlobal_builtin (env := PySem.W.ksEnv "InvalidSize.__init__" (defScope s_isz) hp.objs.size fI (.ref cda) cc) (G.keeps k₁) T.gs (Gb.keeps k₁) ((hb _ (by decide +kernel)).trans (by first | rfl | kernel_rfl)) ⟨rfl, ?_⟩)
  refine wpAny_loadName_free rfl rfl rfl ⟨_, X₁ _ _ hcell, rfl⟩ ?_
  refine wpAny_loadName_local rfl rfl hns (v := .ref x) rfl ?_
  refine ks_wpAny_isType_cls hD1 hD2 ⟨rfl, ?_⟩
  refine ks_wpAny_call_super hD1 hD2 hx₁ rfl (fun c e => by cases e) (PySem.W.looks_mroIn X₁ T.sub) (fun h₂ e₂ k₂ => ?_)
  have X₂ : K.In h₂ := X₁.keeps k₂
  have hx₂ := k₂ _ _ hx₁
  have I₂ : PySem.W.InstAt h₂ x (HandSPX.excO C t0) C none := ⟨hx₂, rfl, rfl, trivial⟩
  have hI : PySem.W.Looks (model prog w) h₂ (isInstance (.ref x) (.type "Exception")) true := I₂.type.andThen (PySem.W.looks_subIn X₂ T.exE)
  have hsup := T.sup
  unfold PySem.W.ks_superIn at hsup
  rw [hcD] at hsup
  refine PySem.W.kxs_getMethod PySem.W.kxs_Exception e₂ (PySem.W.looks_opaque X₂ T.opq) (l₀ := cdD.mro) (fun A Q E s k q => wpAny_bind ((PySem.W.looks_clsIn X₂ hcD) A _ E s k (wpAny_pure q))) rfl X₂ hsup hI nCx rfl ?_
  have k₃ : ∀ b o, h₂.get? b = some o → (h₂.push (PySem.W.kxs_mw "Exception.__init__" x)).get? b = some o := fun b o e => Heap.get?_push_of_some _ e
  have hu : (h₂.push (PySem.W.kxs_mw "Exception.__init__" x)).get? h₂.objs.size = some (ESX.bw x) := Heap.get?_push_at rfl rfl
  refine ESX.callWith_bound (x := x) ?_
  refine Calls.spliced_cons ?_
  refine Calls.Constant_str (k := 0) (pos := ⟨0, 0, 0, 0⟩) ?_
  refine Calls.spliced_nil ⟨hu, ?_⟩
  refine ESX.call_bw (k₃ _ _ (k₂ _ _ (k₁ _ _ hC))) (k₃ _ _ hx₂) hu (by rw [sizeLine_eq]; exact (by decide : 1 ≤ 16777216)) fun h₄ t1 k₄ hx₄ => ?_
  have k24 : ∀ b o, b ≠ x → h₁.get? b = some o → h₄.get? b = some o := fun b o hb e => k₄ b o hb (k₃ b o (k₂ b o e))
  have k' : ∀ b o, b ≠ x → hp.get? b = some o → h₄.get? b = some o := fun b o hb e => k24 b o hb (k₁ b o e)
  have X₄ : K.In h₄ := fun a o e => k24 a o (fun z => by rw [z, hnx] at e; cases e) (X₁ a o e)
  have hns₄ : h₄.Ns hp.objs.size (fun y => ([("self", .ref x), ("word", v)] : List (Str × Value)).reverse.lookup y) := hns.at fun o e => k24 _ o nL.symm e
  show _root_.PySem.wpAt _ _ _ (execs _ _) _ _ _
  refine PySem.wpAt_of_wpAny (wpAny_execs_cons (plainObj_wpAny_Assign_Attribute ?_))
  refine ESX.ldL hns₄ (v := v) rfl ?_
  refine ESX.ldL hns₄ (v := .ref x) rfl ?_
  refine PySem.W.set_plain X₄ (ox := HandSPX.excO C t1) (od := none) ⟨hx₄, rfl, rfl, trivial⟩ T.sa ?_
  refine siz_osa T X₄ hx₄ fun h₅ tk₅ dx k₅ dn dne hx₅ hn₅ => ?_
  show wpAny _ _ (execs _ _) _ _ _
  refine wpAny_execs_nil (hq h₅ tk₅ dx t1 ⟨fun b o hb e => k₅ b o hb (k' b o hb e), hx₅, ?_, dne, hn₅⟩)
  have z : hp.objs.size < h₄.objs.size := hns₄.lt
  exact Nat.le_of_lt (Nat.lt_of_lt_of_le z dn)
theorem siz_made (T : SizTxt prog K mg C fI cc cda) {mb : Str → Option Value} {v : Value} (X : K.In hp) (G : hp.Ns mainGlobals mg) (Gb : hp.Ns builtinsNs mb) (hb : ∀ x : Str, x ≠ "__name__" → mb x = bootBuiltins x) (hlim : hp.NoLimit)
    (hroom : A.depth + 1 < recursionLimit) (hq : ∀ h' tk e dx, OwnMade hp h' e C dx v → R (.ok (.ret (.ref e))) ⟨h', g, d, tk, os⟩) :
    codeAny (model prog w) A (.call (.ref C) ⟨[v], []⟩) R ⟨hp, g, d, t, os⟩ := by
  obtain ⟨nm, N', qn, bs, bm, hdct, sn, sub, ab, col, dd, k0, k1, k2, k3, k5, hC, hT⟩ := PySem.W.excInit_of X T.xI
  have k : ∀ b o, hp.get? b = some o → ((hp.push (PySem.W.kdv_tup [v])).push (HandSPX.excO C hp.objs.size)).get? b = some o := fun b o e => Heap.get?_push_of_some _ (Heap.get?_push_of_some _ e)
  have hget : ((hp.push (PySem.W.kdv_tup [v])).push (HandSPX.excO C hp.objs.size)).get? (hp.objs.size + 1) = some (HandSPX.excO C hp.objs.size) := by
    rw [← Heap.size_push hp (PySem.W.kdv_tup [v])]
    exact Heap.get?_push_at rfl rfl
  have hnx : K.lookup (hp.objs.size + 1) = none := by
    cases e : K.lookup (hp.objs.size + 1) with
    | none => rfl
    | some o =>
      have z : hp.get? (hp.objs.size + 1) = some o := X _ _ e
      exact absurd (Nat.lt_of_succ_lt (Heap.lt_size z)) (Nat.lt_irrefl _)
  refine HandSPX.call_own PySem.F.excBase_Exception hT hC (PySem.W.looks_findIn X T.iC) (fun self => PySem.W.bind_fn X self T.tI) (by rw [sizeLine_eq]; exact (by decide : 1 ≤ 16777216)) ?_
  refine siz_init T (mb := mb) (X.keeps k) (G.keeps k) (Gb.keeps k) hb (hlim.keeps k) hget hnx ?_ fun h' tk' dx t1 ⟨k', hx, dn, dne, hns⟩ => ?_
  · show A.depth + 1 < recursionLimit
    exact hroom
  · have old : ∀ b o, hp.get? b = some o → h'.get? b = some o := fun b o e => k' b o (Nat.ne_of_lt (Nat.lt_succ_of_lt (Heap.lt_size e))) (k b o e)
    have z : hp.objs.size + 1 + 1 ≤ dx := by
      have q := dn
      rw [Heap.size_push, Heap.size_push] at q
      exact q
    exact ⟨rfl, hq h' tk' (hp.objs.size + 1) dx ⟨old, Nat.le_succ _, ⟨_, _, hx, rfl, rfl, rfl, rfl⟩, Nat.le_trans (Nat.le_trans (Nat.le_succ _) (Nat.le_succ _)) z, dne, hns⟩⟩
end
theorem relO_word {v : V} {v' : Value} (r : RelV v v') (f : Str) : RelO (List.lookup f [(("word" : Str), v)]) (if f = "word" then some v' else none) := by
  by_cases hw : f = "word"
  · subst hw
    rw [if_pos rfl]
    have q : List.lookup ("word" : Str) [(("word" : Str), v)] = some v := by simp [List.lookup]
    rw [q]
    exact r
  · rw [if_neg hw]
    have qw : (f == ("word" : Str)) = false := by simpa using hw
    have q2 : List.lookup f [(("word" : Str), v)] = none := by simp [List.lookup, qw]
    rw [q2]
    trivial
section
variable {X : Cx} {C fI cc cda : Addr}
/-- InvalidSize(e) -/
def tMkSiz (C : Addr) (ta : TA) : L2.St → Hp → XK → Prop := fun σ H Q => ta σ H fun vs H1 => ∃ v, vs = [v] ∧ ∀ d, H1 d = none → Q (.ref C) (some d) (upd H1 d (.xd [(("word" : Str), v)]))
theorem pmk_siz {a : Expr} {ta : TA} {p pos : Pos} {k : Nat} (T : SizTxt X.prog X.K X.mg C fI cc cda) (hr : Room k X.A) (ha : PA X [a] ta) (hg : Gl X "InvalidSize" := by rfl)
    (he : starEach (a :: []) X.env = (false, eval a X.env) :: starEach [] X.env := by rfl) (hpl : (backTo pos (starEach [] X.env)).any (·.1) = false := by rfl) :
    PMk X (.Call (.Name "InvalidSize" p) [a] [] pos) (tMkSiz C ta) := by
  intro pins s σ H Q I h
  refine wpAny_Call_Name_kw (ld_glob I hg T.gC ?_)
  refine PySem.W.callWith_K (h₀ := X.base) I.ok.mod.kin T.kC (thn (ha.run pos pins s σ H _ I h) fun us s1 hh => ?_) he hpl
  obtain ⟨vs, H1, I1, r1, v, ev, q1⟩ := hh
  subst ev
  refine ⟨I1.kIn, ?_⟩
  cases r1 with
  | cons rv rn =>
    rename_i v' us'
    cases rn
    show wpAny _ _ (call (.ref C) [v']) _ _ _
    have hlim := I1.nolimit
    have hG := I1.mod.glob.keeps I1.bk
    obtain ⟨mb, hGb, hbb⟩ := I1.mod.blt
    have hGb' := hGb.keeps I1.bk
    have hK := I1.kIn
    obtain ⟨hp, g, d, t, os⟩ := s1
    refine wpAny_call (siz_made T hK hG hGb' hbb hlim (by have := hr.dp; omega) fun h' tk' e d M => ?_)
    show MkP X pins σ Q (.ref e) ⟨h', g, _, tk', os⟩
    obtain ⟨oe, fv, hoe, hc, hd, hdat, h1⟩ := M.obj
    have hns := M.ns
    obtain ⟨G', g1, g2⟩ := restrict h' fun b => decide (b ≠ e)
    have gk : ∀ b, b ≠ e → G'.get? b = h'.get? b := fun b hb => g1 b (decide_eq_true hb)
    have ge : G'.get? e = none := g2 e (by simp)
    have old : ∀ b o, hp.get? b = some o → G'.get? b = some o := fun b o q => (gk b (Nat.ne_of_lt (Nat.lt_of_lt_of_le (Heap.lt_size q) M.new))).trans (M.keep b o q)
    have ob : ObjOk X.prog X.w (upd H1 d (.xd [(("word" : Str), v)])) G' d (.xd [(("word" : Str), v)]) :=
      ⟨_, hns.at (fun o q => (gk d M.dne).trans q), fun f => relO_word rv f⟩
    have J : Inv X pins σ (upd H1 d (.xd [(("word" : Str), v)])) ⟨G', g, _, tk', os⟩ := I1.laid (t' := tk') old M.dbig ob
    refine ⟨e, oe, fv, ⟨G', g, _, tk', os⟩, _, .ref C, some d, rfl, J, fun b o q => ?_, ge, hoe, ⟨hc, hd⟩, hdat, h1, ?_, rfl, I1.bare, raises_own T.exC T.tyC, q1 d (I1.hok.fresh M.dbig)⟩
    · by_cases hb : b = e
      · have q' : G'.get? b = some o := q
        rw [hb, ge] at q'; cases q'
      · exact (gk b hb).symm.trans q
    · rw [upd_ne (Ne.symm M.dne)]
      exact I1.hok.fresh M.new
/-- raise InvalidSize(e) -/
def tRaiseSiz (C : Addr) (W : WX) (ta : TA) : TS := fun _ σ H => tMkSiz C ta σ H fun cls d H' => W cls d σ H'
theorem ps_raiseSiz {a : Expr} {ta : TA} {W : WX} {p pos pos2 : Pos} {k : Nat} (hc : X.calm = true) (T : SizTxt X.prog X.K X.mg C fI cc cda) (hr : Room k X.A) (tk : Takes X W) (ha : PA X [a] ta) (hg : Gl X "InvalidSize" := by rfl)
    (he : starEach (a :: []) X.env = (false, eval a X.env) :: starEach [] X.env := by rfl) (hpl : (backTo pos (starEach [] X.env)).any (·.1) = false := by rfl) :
    PS X (.Raise (some (.Call (.Name "InvalidSize" p) [a] [] pos)) none pos2) (tRaiseSiz C W ta) := ps_raise hc tk (pmk_siz T hr ha hg he hpl)
theorem sizXf {P : Program} {K : PySem.W.Frag} {mg : Str → Option Value} (T : SizTxt P K mg C fI cc cda) : XfC K C := ⟨T.ga, T.gg, T.exC, T.hdC⟩
end
end K50
set_option Elab.async false
set_option linter.all false
set_option maxRecDepth 100000
set_option maxHeartbeats 4000000
namespace K50
open PySem PySem.Spec PyProof.Rows L2
section
variable {P : Program} {w : World} {K : PySem.W.Frag} {mg : Str → Option Value} {base : Heap}
/-! is_integer -/
theorem sc_is_integer : FnScope ["value"] ["value"] (defScope s_is_integer) := ⟨rfl, rfl, rfl, by decide +kernel, rfl, by decide +kernel, by decide +kernel⟩
def f_is_integer : FF := fnD 1 1 (sRet (eAnd (eIsi .int (eVar 0)) (eNot (eIsi .bool (eVar 0)))))
theorem fl_is_integer : FLen f_is_integer 1 := FLen.fn
theorem ok_is_integer (T : Txt K mg w) : FnOk P w K mg base CX0 1 T.d_is_integer.f T.d_is_integer.fd ["value"] (spF P w K 1 f_is_integer) :=
  fn_ok T.d_is_integer.F sc_is_integer fun cdv A outer s H E hr => (css_one (cs_ret (ce_and (ce_isi .int (by decide) (by rfl) T.n_isinstance (ce_var 0) (by rfl) T.n_int (by decide +kernel)) (ce_one (ce_not (ce_isi .bool (by decide) (by rfl) T.n_isinstance (ce_var 0) (by rfl) T.n_bool (by decide +kernel)))))))
/-! is_number -/
theorem sc_is_number : FnScope ["value"] ["value"] (defScope s_is_number) := ⟨rfl, rfl, rfl, by decide +kernel, rfl, by decide +kernel, by decide +kernel⟩
def f_is_number : FF := fnD 1 1 (sRet (eAnd (eN (pureF f_is_integer) (aCons (eVar 0) (aNil))) (e2 gGe (eVar 0) (eC (.int 0)))))
theorem fl_is_number : FLen f_is_number 1 := FLen.fn
theorem ok_is_number (T : Txt K mg w) : FnOk P w K mg base CX0 2 T.d_is_number.f T.d_is_number.fd ["value"] (spF P w K 1 f_is_number) :=
  fn_ok T.d_is_number.F sc_is_number fun cdv A outer s H E hr => (css_one (cs_ret (ce_and (ce_call (FnOk.pureF (ok_is_integer T)) (FLen.pure fl_is_integer) (hr.mono (by decide)) (by rfl) T.d_is_integer.g T.d_is_integer.F.kp T.d_is_integer.b (ca_cons (ce_var 0) ca_nil)) (ce_one (ce_cmp or_ge (ce_var 0) ce_int)))))
/-! is_below -/
theorem sc_is_below : FnScope ["value", "many"] ["value", "many"] (defScope s_is_below) := ⟨rfl, rfl, rfl, by decide +kernel, rfl, by decide +kernel, by decide +kernel⟩
def f_is_below : FF := fnD 2 2 (sRet (eAnd (eN (pureF f_is_number) (aCons (eVar 0) (aNil))) (e2 gLt (eVar 0) (eVar 1))))
theorem fl_is_below : FLen f_is_below 2 := FLen.fn
theorem ok_is_below (T : Txt K mg w) : FnOk P w K mg base CX0 3 T.d_is_below.f T.d_is_below.fd ["value", "many"] (spF P w K 2 f_is_below) :=
  fn_ok T.d_is_below.F sc_is_below fun cdv A outer s H E hr => (css_one (cs_ret (ce_and (ce_call (FnOk.pureF (ok_is_number T)) (FLen.pure fl_is_number) (hr.mono (by decide)) (by rfl) T.d_is_number.g T.d_is_number.F.kp T.d_is_number.b (ca_cons (ce_var 0) ca_nil)) (ce_one (ce_cmp or_lt (ce_var 0) (ce_var 1))))))
/-! is_string -/
theorem sc_is_string : FnScope ["value"] ["value"] (defScope s_is_string) := ⟨rfl, rfl, rfl, by decide +kernel, rfl, by decide +kernel, by decide +kernel⟩
def f_is_string : FF := fnD 1 1 (sRet (eIsi .str (eVar 0)))
theorem fl_is_string : FLen f_is_string 1 := FLen.fn
theorem ok_is_string (T : Txt K mg w) : FnOk P w K mg base CX0 1 T.d_is_string.f T.d_is_string.fd ["value"] (spF P w K 1 f_is_string) :=
  fn_ok T.d_is_string.F sc_is_string fun cdv A outer s H E hr => (css_one (cs_ret (ce_isi .str (by decide) (by rfl) T.n_isinstance (ce_var 0) (by rfl) T.n_str (by decide +kernel))))
/-! is_sequence -/
theorem sc_is_sequence : FnScope ["value"] ["value"] (defScope s_is_sequence) := ⟨rfl, rfl, rfl, by decide +kernel, rfl, by decide +kernel, by decide +kernel⟩
def f_is_sequence : FF := fnD 1 1 (sRet (eIsi .seq (eVar 0)))
theorem fl_is_sequence : FLen f_is_sequence 1 := FLen.fn
theorem ok_is_sequence (T : Txt K mg w) : FnOk P w K mg base CX0 1 T.d_is_sequence.f T.d_is_sequence.fd ["value"] (spF P w K 1 f_is_sequence) :=
  fn_ok T.d_is_sequence.F sc_is_sequence fun cdv A outer s H E hr => (css_one (cs_ret (ce_isSeq (by rfl) T.n_isinstance (ce_var 0) (by rfl) T.n_list (by rfl) T.n_tuple)))
/-! is_pair -/
theorem sc_is_pair : FnScope ["value"] ["value"] (defScope s_is_pair) := ⟨rfl, rfl, rfl, by decide +kernel, rfl, by decide +kernel, by decide +kernel⟩
def f_is_pair : FF := fnD 1 1 (sRet (eAnd (eN (pureF f_is_sequence) (aCons (eVar 0) (aNil))) (e2 gEq (eN (g1 gLen) (aCons (eVar 0) (aNil))) (eC (.int 2)))))
theorem fl_is_pair : FLen f_is_pair 1 := FLen.fn
theorem ok_is_pair (T : Txt K mg w) : FnOk P w K mg base CX0 2 T.d_is_pair.f T.d_is_pair.fd ["value"] (spF P w K 1 f_is_pair) :=
  fn_ok T.d_is_pair.F sc_is_pair fun cdv A outer s H E hr => (css_one (cs_ret (ce_and (ce_call (FnOk.pureF (ok_is_sequence T)) (FLen.pure fl_is_sequence) (hr.mono (by decide)) (by rfl) T.d_is_sequence.g T.d_is_sequence.F.kp T.d_is_sequence.b (ca_cons (ce_var 0) ca_nil)) (ce_one (ce_cmp (or_eq hr.units) (ce_callB cr_len (by rfl) T.n_len (by decide +kernel) (ca_cons (ce_var 0) ca_nil)) ce_int)))))
/-! power_of -/
theorem sc_power_of : FnScope ["base", "many", "found", "turn"] ["base", "many"] (defScope s_power_of) := ⟨rfl, rfl, rfl, by decide +kernel, rfl, by decide +kernel, by decide +kernel⟩
def f_power_of : FF := fnD 2 4 (sSeq (sSet 2 (eC (.int 1))) (sSeq (sFor (iRg1 (eVar 1)) (.inl 3) (sAug 2 gMulI (eVar 0))) (sRet (eVar 2))))
theorem fl_power_of : FLen f_power_of 2 := FLen.fn
theorem ok_power_of (T : Txt K mg w) : FnOk P w K mg base CX0 1 T.d_power_of.f T.d_power_of.fd ["base", "many"] (spF P w K 2 f_power_of) :=
  fn_ok T.d_power_of.F sc_power_of fun cdv A outer s H E hr => (css_cons (cs_set sc_power_of.nd ce_int) (css_cons (cs_for PassesOwn.never rfl (ci_rg1 (by rfl) T.n_range (ce_var 1)) (cg_name sc_power_of.nd) (css_one (cs_aug sc_power_of.nd oi_mul (ce_var 0)))) (css_one (cs_ret (ce_var 2)))))
end
end K50
set_option Elab.async false
set_option linter.all false
set_option maxRecDepth 100000
set_option maxHeartbeats 4000000
namespace K50
open PySem PySem.Spec PyProof.Rows L2
section
variable {P : Program} {w : World} {K : PySem.W.Frag} {mg : Str → Option Value} {base : Heap}
/-! need_size -/
theorem sc_need_size : FnScope ["value"] ["value"] (defScope s_need_size) := ⟨rfl, rfl, rfl, by decide +kernel, rfl, by decide +kernel, by decide +kernel⟩
def f_need_size : FF := fnD 1 1 (sSeq (sIf (bOr (bNot (bV (eN (pureF f_is_integer) (aCons (eVar 0) (aNil))))) (bNot (bV (eCh gLe gLe (eC (.int 2)) (eVar 0) (eC (.int 8)))))) (sNever) (sNil)) (sRet (eVar 0)))
theorem fl_need_size : FLen f_need_size 1 := FLen.fn
theorem ok_need_size (T : Txt K mg w) : FnOk P w K mg base CX0 2 T.d_need_size.f T.d_need_size.fd ["value"] (spF P w K 1 f_need_size) :=
  fn_ok T.d_need_size.F sc_need_size fun cdv A outer s H E hr => (css_cons (cs_if (ct_w (cw_or (ct_not (ct_val (ce_call (FnOk.pureF (ok_is_integer T)) (FLen.pure fl_is_integer) (hr.mono (by decide)) (by rfl) T.d_is_integer.g T.d_is_integer.F.kp T.d_is_integer.b (ca_cons (ce_var 0) ca_nil)))) (cw_or1 (ct_not (ct_chain or_le or_le ce_int (ce_var 0) (ce_gint (by rfl) T.c_MOST_SIZE)))))) (css_one cs_never) css_nil) (css_one (cs_ret (ce_var 0))))
/-! is_table -/
theorem sc_is_table : FnScope ["size", "value", "most", "one"] ["size", "value", "most"] (defScope s_is_table) := ⟨rfl, rfl, rfl, by decide +kernel, rfl, by decide +kernel, by decide +kernel⟩
def f_is_table : FF := fnD 3 4 (sSeq (sIf (bOr (bNot (bV (eN (pureF f_is_pair) (aCons (eVar 1) (aNil))))) (bOr (bNot (bV (eN (pureF f_is_below) (aCons (e2 gIx (eVar 1) (eC (.int 0))) (aCons (e2 gAdd (eVar 2) (eC (.int 1))) (aNil)))))) (bNot (bV (eN (pureF f_is_sequence) (aCons (e2 gIx (eVar 1) (eC (.int 1))) (aNil))))))) (sRet (eC (.bl false))) (sNil)) (sRet (eAnd (e2 gEq (eN (g1 gLen) (aCons (e2 gIx (eVar 1) (eC (.int 1))) (aNil))) (eN (pureF f_power_of) (aCons (eVar 0) (aCons (e2 gIx (eVar 1) (eC (.int 0))) (aNil))))) (eN (g1 gAll) (aCons (eLc (iAny (e2 gIx (eVar 1) (eC (.int 1)))) 3 (bYes) (eN (pureF f_is_below) (aCons (eVar 3) (aCons (eVar 0) (aNil)))) [3]) (aNil))))))
theorem fl_is_table : FLen f_is_table 3 := FLen.fn
theorem ok_is_table (T : Txt K mg w) : FnOk P w K mg base CX0 4 T.d_is_table.f T.d_is_table.fd ["size", "value", "most"] (spF P w K 3 f_is_table) :=
  fn_ok T.d_is_table.F sc_is_table fun cdv A outer s H E hr => (css_cons (cs_if (ct_w (cw_or (ct_not (ct_val (ce_call (FnOk.pureF (ok_is_pair T)) (FLen.pure fl_is_pair) (hr.mono (by decide)) (by rfl) T.d_is_pair.g T.d_is_pair.F.kp T.d_is_pair.b (ca_cons (ce_var 1) ca_nil)))) (cw_or (ct_not (ct_val (ce_call (FnOk.pureF (ok_is_below T)) (FLen.pure fl_is_below) (hr.mono (by decide)) (by rfl) T.d_is_below.g T.d_is_below.F.kp T.d_is_below.b (ca_cons (ce_ix (ce_var 1) ce_int) (ca_cons (ce_op or_add (ce_var 2) ce_int) ca_nil))))) (cw_or1 (ct_not (ct_val (ce_call (FnOk.pureF (ok_is_sequence T)) (FLen.pure fl_is_sequence) (hr.mono (by decide)) (by rfl) T.d_is_sequence.g T.d_is_sequence.F.kp T.d_is_sequence.b (ca_cons (ce_ix (ce_var 1) ce_int) ca_nil)))))))) (css_one (cs_ret ce_bl)) css_nil) (css_one (cs_ret (ce_and (ce_cmp (or_eq hr.units) (ce_callB cr_len (by rfl) T.n_len (by decide +kernel) (ca_cons (ce_ix (ce_var 1) ce_int) ca_nil)) (ce_call (FnOk.pureF (ok_power_of T)) (FLen.pure fl_power_of) (hr.mono (by decide)) (by rfl) T.d_power_of.g T.d_power_of.F.kp T.d_power_of.b (ca_cons (ce_var 0) (ca_cons (ce_ix (ce_var 1) ce_int) ca_nil)))) (ce_one (ce_callB (cr_all rfl) (by rfl) T.n_all (by decide +kernel) (ca_cons (ce_lc (own := [("one", 3)]) rfl sc_is_table.nd (ci_any (ce_ix (ce_var 1) ce_int)) (blkOk_by (own := [("one", 3)]) (by kernel_rfl)) (fun _ _ _ _ _ => pg_name (i := 3) sc_is_table.nd rfl (by first | exact Or.inl rfl | exact Or.inr rfl)) (fun _ _ _ _ _ => cts_nil) (fun _ _ _ _ _ => (ce_call (FnOk.pureF (ok_is_below T)) (FLen.pure fl_is_below) (hr.mono (by decide)) (by rfl) T.d_is_below.g T.d_is_below.F.kp T.d_is_below.b (ca_cons (ce_var 3) (ca_cons (ce_var 0) ca_nil))))) ca_nil)))))))
/-! is_operation -/
theorem sc_is_operation : FnScope ["size", "value"] ["size", "value"] (defScope s_is_operation) := ⟨rfl, rfl, rfl, by decide +kernel, rfl, by decide +kernel, by decide +kernel⟩
def f_is_operation : FF := fnD 2 2 (sRet (eAnd (eN (pureF f_is_table) (aCons (eVar 0) (aCons (eVar 1) (aCons (eC (.int 3)) (aNil))))) (e2 gGt (e2 gIx (eVar 1) (eC (.int 0))) (eC (.int 0)))))
theorem fl_is_operation : FLen f_is_operation 2 := FLen.fn
theorem ok_is_operation (T : Txt K mg w) : FnOk P w K mg base CX0 5 T.d_is_operation.f T.d_is_operation.fd ["size", "value"] (spF P w K 2 f_is_operation) :=
  fn_ok T.d_is_operation.F sc_is_operation fun cdv A outer s H E hr => (css_one (cs_ret (ce_and (ce_call (FnOk.pureF (ok_is_table T)) (FLen.pure fl_is_table) (hr.mono (by decide)) (by rfl) T.d_is_table.g T.d_is_table.F.kp T.d_is_table.b (ca_cons (ce_var 0) (ca_cons (ce_var 1) (ca_cons (ce_gint (by rfl) T.c_MOST_PLACES) ca_nil)))) (ce_one (ce_cmp or_gt (ce_ix (ce_var 1) ce_int) ce_int)))))
/-! in_tuples -/
theorem sc_in_tuples : FnScope ["table"] ["table"] (defScope s_in_tuples) := ⟨rfl, rfl, rfl, by decide +kernel, rfl, by decide +kernel, by decide +kernel⟩
def f_in_tuples : FF := fnD 1 1 (sRet (eN dTup (aCons (e2 gIx (eVar 0) (eC (.int 0))) (aCons (eN (g1 gTupOf) (aCons (e2 gIx (eVar 0) (eC (.int 1))) (aNil))) (aNil)))))
theorem fl_in_tuples : FLen f_in_tuples 1 := FLen.fn
theorem ok_in_tuples (T : Txt K mg w) : FnOk P w K mg base CX0 1 T.d_in_tuples.f T.d_in_tuples.fd ["table"] (spF P w K 1 f_in_tuples) :=
  fn_ok T.d_in_tuples.F sc_in_tuples fun cdv A outer s H E hr => (css_one (cs_ret (ce_tup (ca_cons (ce_ix (ce_var 0) ce_int) (ca_cons (ce_callTy cr_tuple (by rfl) T.n_tuple (by decide +kernel) (ca_cons (ce_ix (ce_var 0) ce_int) ca_nil)) ca_nil)))))
/-! need_operation -/
theorem sc_need_operation : FnScope ["size", "value"] ["size", "value"] (defScope s_need_operation) := ⟨rfl, rfl, rfl, by decide +kernel, rfl, by decide +kernel, by decide +kernel⟩
def f_need_operation : FF := fnD 2 2 (sSeq (sIf (bNot (bV (eN (pureF f_is_operation) (aCons (eN (pureF f_need_size) (aCons (eVar 0) (aNil))) (aCons (eVar 1) (aNil)))))) (sNever) (sNil)) (sRet (eN (pureF f_in_tuples) (aCons (eVar 1) (aNil)))))
theorem fl_need_operation : FLen f_need_operation 2 := FLen.fn
theorem ok_need_operation (T : Txt K mg w) : FnOk P w K mg base CX0 6 T.d_need_operation.f T.d_need_operation.fd ["size", "value"] (spF P w K 2 f_need_operation) :=
  fn_ok T.d_need_operation.F sc_need_operation fun cdv A outer s H E hr => (css_cons (cs_if (ct_not (ct_val (ce_call (FnOk.pureF (ok_is_operation T)) (FLen.pure fl_is_operation) (hr.mono (by decide)) (by rfl) T.d_is_operation.g T.d_is_operation.F.kp T.d_is_operation.b (ca_cons (ce_call (FnOk.pureF (ok_need_size T)) (FLen.pure fl_need_size) (hr.mono (by decide)) (by rfl) T.d_need_size.g T.d_need_size.F.kp T.d_need_size.b (ca_cons (ce_var 0) ca_nil)) (ca_cons (ce_var 1) ca_nil))))) (css_one cs_never) css_nil) (css_one (cs_ret (ce_call (FnOk.pureF (ok_in_tuples T)) (FLen.pure fl_in_tuples) (hr.mono (by decide)) (by rfl) T.d_in_tuples.g T.d_in_tuples.F.kp T.d_in_tuples.b (ca_cons (ce_var 1) ca_nil)))))
/-! row_number -/
theorem sc_row_number : FnScope ["size", "row", "number", "value"] ["size", "row"] (defScope s_row_number) := ⟨rfl, rfl, rfl, by decide +kernel, rfl, by decide +kernel, by decide +kernel⟩
def f_row_number : FF := fnD 2 4 (sSeq (sSet 2 (eC (.int 0))) (sSeq (sFor (iAny (eVar 1)) (.inl 3) (sSet 2 (e2 gAdd (e2 gMul (eVar 2) (eVar 0)) (eVar 3)))) (sRet (eVar 2))))
theorem fl_row_number : FLen f_row_number 2 := FLen.fn
theorem ok_row_number (T : Txt K mg w) : FnOk P w K mg base CX0 1 T.d_row_number.f T.d_row_number.fd ["size", "row"] (spF P w K 2 f_row_number) :=
  fn_ok T.d_row_number.F sc_row_number fun cdv A outer s H E hr => (css_cons (cs_set sc_row_number.nd ce_int) (css_cons (cs_for PassesOwn.never rfl (ci_any (ce_var 1)) (cg_name sc_row_number.nd) (css_one (cs_set sc_row_number.nd (ce_op or_add (ce_op or_mul (ce_var 2) (ce_var 0)) (ce_var 3))))) (css_one (cs_ret (ce_var 2)))))
/-! all_rows -/
theorem sc_all_rows : FnScope ["size", "many", "rows", "turn", "row", "value"] ["size", "many"] (defScope s_all_rows) := ⟨rfl, rfl, rfl, by decide +kernel, rfl, by decide +kernel, by decide +kernel⟩
def f_all_rows : FF := fnD 2 6 (sSeq (sSet 2 (eN dLst (aCons (eN dTup (aNil)) (aNil)))) (sSeq (sFor (iRg1 (eVar 1)) (.inl 3) (sSet 2 (eLc2 (iAny (eVar 2)) 4 (bYes) (iRg1 (eVar 0)) 5 (bYes) (e2 gAdd (eVar 4) (eN dTup (aCons (eVar 5) (aNil)))) [4, 5] [5]))) (sRet (eVar 2))))
theorem fl_all_rows : FLen f_all_rows 2 := FLen.fn
theorem ok_all_rows (T : Txt K mg w) : FnOk P w K mg base CX0 1 T.d_all_rows.f T.d_all_rows.fd ["size", "many"] (spF P w K 2 f_all_rows) :=
  fn_ok T.d_all_rows.F sc_all_rows fun cdv A outer s H E hr => (css_cons (cs_set sc_all_rows.nd (ce_lst (ca_cons (ce_tup ca_nil) ca_nil))) (css_cons (cs_for PassesOwn.never rfl (ci_rg1 (by rfl) T.n_range (ce_var 1)) (cg_name sc_all_rows.nd) (css_one (cs_setLc2 (own := [("row", 4), ("value", 5)]) (vs1 := [5]) rfl sc_all_rows.nd (sw_true rfl rfl rfl (by decide +kernel)) (ci_any (ce_var 2)) (blkOk_by (own := [("row", 4), ("value", 5)]) (by kernel_rfl)) (fun _ _ _ _ _ => pg_name (i := 4) sc_all_rows.nd rfl (by first | exact Or.inl rfl | exact Or.inr rfl)) (fun _ _ _ _ _ => cts_nil) (fun _ _ _ _ _ => (ci_rg1 (by rfl) T.n_range (ce_var 0))) (fun _ _ _ _ _ => pg_name (i := 5) sc_all_rows.nd rfl (by first | exact Or.inl rfl | exact Or.inr rfl)) (fun _ _ _ _ _ => cts_nil) (fun _ _ _ _ _ => (ce_op or_add (ce_var 4) (ce_tup (ca_cons (ce_var 5) ca_nil))))))) (css_one (cs_ret (ce_var 2)))))
/-! filled_row -/
theorem sc_filled_row : FnScope ["held", "values", "row", "at", "one"] ["held", "values"] (defScope s_filled_row) := ⟨rfl, rfl, rfl, by decide +kernel, rfl, by decide +kernel, by decide +kernel⟩
def f_filled_row : FF := fnD 2 5 (sSeq (sPar 2 3 (eN dLst (aNil)) (eC (.int 0))) (sSeq (sFor (iAny (eVar 0)) (.inl 4) (sSeq (sExpr (eML gAppend (eVar 2) (aCons (eIf (bV (e2 gIsN (eVar 4) (eC .non))) (e2 gIx (eVar 1) (eVar 3)) (eVar 4)) (aNil)))) (sAug 3 gAddI (eIf (bV (e2 gIsN (eVar 4) (eC .non))) (eC (.int 1)) (eC (.int 0)))))) (sRet (eN (g1 gTupOf) (aCons (eVar 2) (aNil))))))
theorem fl_filled_row : FLen f_filled_row 2 := FLen.fn
theorem ok_filled_row (T : Txt K mg w) : FnOk P w K mg base CX0 1 T.d_filled_row.f T.d_filled_row.fd ["held", "values"] (spF P w K 2 f_filled_row) :=
  fn_ok T.d_filled_row.F sc_filled_row fun cdv A outer s H E hr => (css_cons (cs_par rfl sc_filled_row.nd (ce_lst ca_nil) ce_int) (css_cons (cs_for PassesOwn.never rfl (ci_any (ce_var 0)) (cg_name sc_filled_row.nd) (css_cons (cs_expr (ce_ml PySem.F.slot_list_append PySem.F.type_list_append mr_append (ce_var 2) (ca_cons (ce_if (ct_cmp or_isN (ce_var 4) ce_non) (ce_ix (ce_var 1) (ce_var 3)) (ce_var 4)) ca_nil))) (css_one (cs_aug sc_filled_row.nd oi_add (ce_if (ct_cmp or_isN (ce_var 4) ce_non) ce_int ce_int))))) (css_one (cs_ret (ce_callTy cr_tuple (by rfl) T.n_tuple (by decide +kernel) (ca_cons (ce_var 2) ca_nil))))))
/-! answer_at -/
theorem sc_answer_at : FnScope ["size", "operation", "row"] ["size", "operation", "row"] (defScope s_answer_at) := ⟨rfl, rfl, rfl, by decide +kernel, rfl, by decide +kernel, by decide +kernel⟩
def f_answer_at : FF := fnD 3 3 (sRet (e2 gIx (e2 gIx (eVar 1) (eC (.int 1))) (eN (pureF f_row_number) (aCons (eVar 0) (aCons (eVar 2) (aNil))))))
theorem fl_answer_at : FLen f_answer_at 3 := FLen.fn
theorem ok_answer_at (T : Txt K mg w) : FnOk P w K mg base CX0 2 T.d_answer_at.f T.d_answer_at.fd ["size", "operation", "row"] (spF P w K 3 f_answer_at) :=
  fn_ok T.d_answer_at.F sc_answer_at fun cdv A outer s H E hr => (css_one (cs_ret (ce_ix (ce_ix (ce_var 1) ce_int) (ce_call (FnOk.pureF (ok_row_number T)) (FLen.pure fl_row_number) (hr.mono (by decide)) (by rfl) T.d_row_number.g T.d_row_number.F.kp T.d_row_number.b (ca_cons (ce_var 0) (ca_cons (ce_var 2) ca_nil))))))
/-! held_part -/
theorem sc_held_part : FnScope ["size", "operation", "held", "many", "one", "row"] ["size", "operation", "held"] (defScope s_held_part) := ⟨rfl, rfl, rfl, by decide +kernel, rfl, by decide +kernel, by decide +kernel⟩
def f_held_part : FF := fnD 3 6 (sSeq (sSet 3 (eN (g1 gLen) (aCons (eLc (iAny (eVar 2)) 4 (bV (e2 gIsN (eVar 4) (eC .non))) (eVar 4) [4]) (aNil)))) (sRet (eN dTup (aCons (eVar 3) (aCons (eN (g1 gTupOf) (aCons (eLc (iAny (eN f_all_rows (aCons (eVar 0) (aCons (eVar 3) (aNil))))) 5 (bYes) (eN (pureF f_answer_at) (aCons (eVar 0) (aCons (eVar 1) (aCons (eN (pureF f_filled_row) (aCons (eVar 2) (aCons (eVar 5) (aNil)))) (aNil))))) [5]) (aNil))) (aNil))))))
theorem fl_held_part : FLen f_held_part 3 := FLen.fn
theorem ok_held_part (T : Txt K mg w) : FnOk P w K mg base CX0 3 T.d_held_part.f T.d_held_part.fd ["size", "operation", "held"] (spF P w K 3 f_held_part) :=
  fn_ok T.d_held_part.F sc_held_part fun cdv A outer s H E hr => (css_cons (cs_set sc_held_part.nd (ce_callB cr_len (by rfl) T.n_len (by decide +kernel) (ca_cons (ce_lc (own := [("one", 4)]) rfl sc_held_part.nd (ci_any (ce_var 2)) (blkOk_by (own := [("one", 4)]) (by kernel_rfl)) (fun _ _ _ _ _ => pg_name (i := 4) sc_held_part.nd rfl (by first | exact Or.inl rfl | exact Or.inr rfl)) (fun _ _ _ _ _ => cts_one (ct_cmp or_isN (ce_var 4) ce_non)) (fun _ _ _ _ _ => (ce_var 4))) ca_nil))) (css_one (cs_ret (ce_tup (ca_cons (ce_var 3) (ca_cons (ce_callTy cr_tuple (by rfl) T.n_tuple (by decide +kernel) (ca_cons (ce_lc (own := [("row", 5)]) rfl sc_held_part.nd (ci_any (ce_call (ok_all_rows T) fl_all_rows (hr.mono (by decide)) (by rfl) T.d_all_rows.g T.d_all_rows.F.kp T.d_all_rows.b (ca_cons (ce_var 0) (ca_cons (ce_var 3) ca_nil)))) (blkOk_by (own := [("row", 5)]) (by kernel_rfl)) (fun _ _ _ _ _ => pg_name (i := 5) sc_held_part.nd rfl (by first | exact Or.inl rfl | exact Or.inr rfl)) (fun _ _ _ _ _ => cts_nil) (fun _ _ _ _ _ => (ce_call (FnOk.pureF (ok_answer_at T)) (FLen.pure fl_answer_at) (hr.mono (by decide)) (by rfl) T.d_answer_at.g T.d_answer_at.F.kp T.d_answer_at.b (ca_cons (ce_var 0) (ca_cons (ce_var 1) (ca_cons (ce_call (FnOk.pureF (ok_filled_row T)) (FLen.pure fl_filled_row) (hr.mono (by decide)) (by rfl) T.d_filled_row.g T.d_filled_row.F.kp T.d_filled_row.b (ca_cons (ce_var 2) (ca_cons (ce_var 5) ca_nil))) ca_nil)))))) ca_nil)) ca_nil))))))
/-! counts_at -/
theorem sc_counts_at : FnScope ["size", "operation", "place", "row", "ends", "value", "end"] ["size", "operation", "place", "row"] (defScope s_counts_at) := ⟨rfl, rfl, rfl, by decide +kernel, rfl, by decide +kernel, by decide +kernel⟩
def f_counts_at : FF := fnD 4 7 (sSeq (sSet 4 (eLc (iRg1 (eVar 0)) 5 (bYes) (eN (pureF f_answer_at) (aCons (eVar 0) (aCons (eVar 1) (aCons (e2 gAdd (e2 gAdd (eSl (eVar 3) oNone (oSome (eVar 2))) (eN dTup (aCons (eVar 5) (aNil)))) (eSl (eVar 3) (oSome (e2 gAdd (eVar 2) (eC (.int 1)))) oNone)) (aNil))))) [5])) (sRet (eN (g1 gAny) (aCons (eLc (iAny (eVar 4)) 6 (bYes) (e2 gNe (eVar 6) (e2 gIx (eVar 4) (eC (.int 0)))) [6]) (aNil)))))
theorem fl_counts_at : FLen f_counts_at 4 := FLen.fn
theorem ok_counts_at (T : Txt K mg w) : FnOk P w K mg base CX0 3 T.d_counts_at.f T.d_counts_at.fd ["size", "operation", "place", "row"] (spF P w K 4 f_counts_at) :=
  fn_ok T.d_counts_at.F sc_counts_at fun cdv A outer s H E hr => (css_cons (cs_set sc_counts_at.nd (ce_lc (own := [("value", 5)]) rfl sc_counts_at.nd (ci_rg1 (by rfl) T.n_range (ce_var 0)) (blkOk_by (own := [("value", 5)]) (by kernel_rfl)) (fun _ _ _ _ _ => pg_name (i := 5) sc_counts_at.nd rfl (by first | exact Or.inl rfl | exact Or.inr rfl)) (fun _ _ _ _ _ => cts_nil) (fun _ _ _ _ _ => (ce_call (FnOk.pureF (ok_answer_at T)) (FLen.pure fl_answer_at) (hr.mono (by decide)) (by rfl) T.d_answer_at.g T.d_answer_at.F.kp T.d_answer_at.b (ca_cons (ce_var 0) (ca_cons (ce_var 1) (ca_cons (ce_op or_add (ce_op or_add (ce_sl (ce_var 3) co_none (co_some (ce_var 2))) (ce_tup (ca_cons (ce_var 5) ca_nil))) (ce_sl (ce_var 3) (co_some (ce_op or_add (ce_var 2) ce_int)) co_none)) ca_nil))))))) (css_one (cs_ret (ce_callB (cr_any rfl) (by rfl) T.n_any (by decide +kernel) (ca_cons (ce_lc (own := [("end", 6)]) rfl sc_counts_at.nd (ci_any (ce_var 4)) (blkOk_by (own := [("end", 6)]) (by kernel_rfl)) (fun _ _ _ _ _ => pg_name (i := 6) sc_counts_at.nd rfl (by first | exact Or.inl rfl | exact Or.inr rfl)) (fun _ _ _ _ _ => cts_nil) (fun _ _ _ _ _ => (ce_cmp (or_ne hr.units) (ce_var 6) (ce_ix (ce_var 4) ce_int)))) ca_nil)))))
/-! hung_found -/
theorem sc_hung_found : FnScope ["size", "operation", "rows", "at", "row"] ["size", "operation"] (defScope s_hung_found) := ⟨rfl, rfl, rfl, by decide +kernel, rfl, by decide +kernel, by decide +kernel⟩
def f_hung_found : FF := fnD 2 5 (sSeq (sSet 2 (eN f_all_rows (aCons (eVar 0) (aCons (e2 gIx (eVar 1) (eC (.int 0))) (aNil))))) (sRet (eN (g1 gTupOf) (aCons (eLc (iRg1 (e2 gIx (eVar 1) (eC (.int 0)))) 3 (bV (eN (g1 gAny) (aCons (eLc (iAny (eVar 2)) 4 (bYes) (eN (pureF f_counts_at) (aCons (eVar 0) (aCons (eVar 1) (aCons (eVar 3) (aCons (eVar 4) (aNil)))))) [4]) (aNil)))) (eVar 3) [3]) (aNil)))))
theorem fl_hung_found : FLen f_hung_found 2 := FLen.fn
theorem ok_hung_found (T : Txt K mg w) : FnOk P w K mg base CX0 4 T.d_hung_found.f T.d_hung_found.fd ["size", "operation"] (spF P w K 2 f_hung_found) :=
  fn_ok T.d_hung_found.F sc_hung_found fun cdv A outer s H E hr => (css_cons (cs_set sc_hung_found.nd (ce_call (ok_all_rows T) fl_all_rows (hr.mono (by decide)) (by rfl) T.d_all_rows.g T.d_all_rows.F.kp T.d_all_rows.b (ca_cons (ce_var 0) (ca_cons (ce_ix (ce_var 1) ce_int) ca_nil)))) (css_one (cs_ret (ce_callTy cr_tuple (by rfl) T.n_tuple (by decide +kernel) (ca_cons (ce_lc (own := [("at", 3)]) rfl sc_hung_found.nd (ci_rg1 (by rfl) T.n_range (ce_ix (ce_var 1) ce_int)) (blkOk_by (own := [("at", 3)]) (by kernel_rfl)) (fun _ _ _ _ _ => pg_name (i := 3) sc_hung_found.nd rfl (by first | exact Or.inl rfl | exact Or.inr rfl)) (fun _ _ _ _ _ => cts_one (ct_val (ce_callB (cr_any rfl) (by rfl) T.n_any (by decide +kernel) (ca_cons (ce_lc (own := [("row", 4)]) rfl sc_hung_found.nd (ci_any (ce_var 2)) (blkOk_by (own := [("row", 4)]) (by kernel_rfl)) (fun _ _ _ _ _ => pg_name (i := 4) sc_hung_found.nd rfl (by first | exact Or.inl rfl | exact Or.inr rfl)) (fun _ _ _ _ _ => cts_nil) (fun _ _ _ _ _ => (ce_call (FnOk.pureF (ok_counts_at T)) (FLen.pure fl_counts_at) (hr.mono (by decide)) (by rfl) T.d_counts_at.g T.d_counts_at.F.kp T.d_counts_at.b (ca_cons (ce_var 0) (ca_cons (ce_var 1) (ca_cons (ce_var 3) (ca_cons (ce_var 4) ca_nil))))))) ca_nil)))) (fun _ _ _ _ _ => (ce_var 3))) ca_nil)))))
end
end K50
set_option Elab.async false
set_option linter.all false
set_option maxRecDepth 100000
set_option maxHeartbeats 4000000
namespace K50
open PySem PySem.Spec PyProof.Rows L2
section
variable {P : Program} {w : World} {K : PySem.W.Frag} {mg : Str → Option Value} {base : Heap}
/-! least_table -/
theorem sc_least_table : FnScope ["size", "operation", "places", "held", "at"] ["size", "operation"] (defScope s_least_table) := ⟨rfl, rfl, rfl, by decide +kernel, rfl, by decide +kernel, by decide +kernel⟩
def f_least_table : FF := fnD 2 5 (sSeq (sSet 1 (eN (pureF f_need_operation) (aCons (eVar 0) (aCons (eVar 1) (aNil))))) (sSeq (sSet 2 (eN (pureF f_hung_found) (aCons (eVar 0) (aCons (eVar 1) (aNil))))) (sSeq (sSet 3 (eN (g1 gTupOf) (aCons (eLc (iRg1 (e2 gIx (eVar 1) (eC (.int 0)))) 4 (bYes) (eIf (bV (e2 gIn (eVar 4) (eVar 2))) (eC .non) (eC (.int 0))) [4]) (aNil)))) (sRet (eN dTup (aCons (eVar 2) (aCons (e2 gIx (eN (pureF f_held_part) (aCons (eVar 0) (aCons (eVar 1) (aCons (eVar 3) (aNil))))) (eC (.int 1))) (aNil))))))))
theorem fl_least_table : FLen f_least_table 2 := FLen.fn
theorem ok_least_table (T : Txt K mg w) : FnOk P w K mg base CX0 7 T.d_least_table.f T.d_least_table.fd ["size", "operation"] (spF P w K 2 f_least_table) :=
  fn_ok T.d_least_table.F sc_least_table fun cdv A outer s H E hr => (css_cons (cs_set sc_least_table.nd (ce_call (FnOk.pureF (ok_need_operation T)) (FLen.pure fl_need_operation) (hr.mono (by decide)) (by rfl) T.d_need_operation.g T.d_need_operation.F.kp T.d_need_operation.b (ca_cons (ce_var 0) (ca_cons (ce_var 1) ca_nil)))) (css_cons (cs_set sc_least_table.nd (ce_call (FnOk.pureF (ok_hung_found T)) (FLen.pure fl_hung_found) (hr.mono (by decide)) (by rfl) T.d_hung_found.g T.d_hung_found.F.kp T.d_hung_found.b (ca_cons (ce_var 0) (ca_cons (ce_var 1) ca_nil)))) (css_cons (cs_set sc_least_table.nd (ce_callTy cr_tuple (by rfl) T.n_tuple (by decide +kernel) (ca_cons (ce_lc (own := [("at", 4)]) rfl sc_least_table.nd (ci_rg1 (by rfl) T.n_range (ce_ix (ce_var 1) ce_int)) (blkOk_by (own := [("at", 4)]) (by kernel_rfl)) (fun _ _ _ _ _ => pg_name (i := 4) sc_least_table.nd rfl (by first | exact Or.inl rfl | exact Or.inr rfl)) (fun _ _ _ _ _ => cts_nil) (fun _ _ _ _ _ => (ce_if (ct_cmp (or_in (u65 hr)) (ce_var 4) (ce_var 2)) ce_non ce_int))) ca_nil))) (css_one (cs_ret (ce_tup (ca_cons (ce_var 2) (ca_cons (ce_ix (ce_call (FnOk.pureF (ok_held_part T)) (FLen.pure fl_held_part) (hr.mono (by decide)) (by rfl) T.d_held_part.g T.d_held_part.F.kp T.d_held_part.b (ca_cons (ce_var 0) (ca_cons (ce_var 1) (ca_cons (ce_var 3) ca_nil)))) ce_int) ca_nil))))))))
/-! last_counting -/
theorem sc_last_counting : FnScope ["size", "operation", "place", "one", "other", "row", "at", "later"] ["size", "operation", "place", "one", "other"] (defScope s_last_counting) := ⟨rfl, rfl, rfl, by decide +kernel, rfl, by decide +kernel, by decide +kernel⟩
def f_last_counting : FF := fnD 5 8 (sSeq (sSet 5 (eVar 3)) (sSeq (sFor (iRg1 (e2 gIx (eVar 1) (eC (.int 0)))) (.inl 6) (sSeq (sSet 7 (e2 gAdd (e2 gAdd (eSl (eVar 5) oNone (oSome (eVar 6))) (eN dTup (aCons (e2 gIx (eVar 4) (eVar 6)) (aNil)))) (eSl (eVar 5) (oSome (e2 gAdd (eVar 6) (eC (.int 1)))) oNone))) (sSeq (sIf (bAnd (bV (e2 gNe (eVar 6) (eVar 2))) (bNot (bV (eN (pureF f_counts_at) (aCons (eVar 0) (aCons (eVar 1) (aCons (eVar 2) (aCons (eVar 7) (aNil))))))))) (sRet (eN dTup (aCons (eVar 5) (aCons (eVar 6) (aNil))))) (sNil)) (sSet 5 (eIf (bV (e2 gEq (eVar 6) (eVar 2))) (eVar 5) (eVar 7)))))) (sRet (eN dTup (aCons (eVar 5) (aCons (eVar 2) (aNil)))))))
theorem fl_last_counting : FLen f_last_counting 5 := FLen.fn
theorem ok_last_counting (T : Txt K mg w) : FnOk P w K mg base CX0 4 T.d_last_counting.f T.d_last_counting.fd ["size", "operation", "place", "one", "other"] (spF P w K 5 f_last_counting) :=
  fn_ok T.d_last_counting.F sc_last_counting fun cdv A outer s H E hr => (css_cons (cs_set sc_last_counting.nd (ce_var 3)) (css_cons (cs_for PassesOwn.never rfl (ci_rg1 (by rfl) T.n_range (ce_ix (ce_var 1) ce_int)) (cg_name sc_last_counting.nd) (css_cons (cs_set sc_last_counting.nd (ce_op or_add (ce_op or_add (ce_sl (ce_var 5) co_none (co_some (ce_var 6))) (ce_tup (ca_cons (ce_ix (ce_var 4) (ce_var 6)) ca_nil))) (ce_sl (ce_var 5) (co_some (ce_op or_add (ce_var 6) ce_int)) co_none))) (css_cons (cs_if (ct_w (cw_and (ct_cmp (or_ne hr.units) (ce_var 6) (ce_var 2)) (cw_and1 (ct_not (ct_val (ce_call (FnOk.pureF (ok_counts_at T)) (FLen.pure fl_counts_at) (hr.mono (by decide)) (by rfl) T.d_counts_at.g T.d_counts_at.F.kp T.d_counts_at.b (ca_cons (ce_var 0) (ca_cons (ce_var 1) (ca_cons (ce_var 2) (ca_cons (ce_var 7) ca_nil)))))))))) (css_one (cs_ret (ce_tup (ca_cons (ce_var 5) (ca_cons (ce_var 6) ca_nil))))) css_nil) (css_one (cs_set sc_last_counting.nd (ce_if (ct_cmp (or_eq hr.units) (ce_var 6) (ce_var 2)) (ce_var 5) (ce_var 7))))))) (css_one (cs_ret (ce_tup (ca_cons (ce_var 5) (ca_cons (ce_var 2) ca_nil)))))))
/-! two_places -/
theorem sc_two_places : FnScope ["size", "operation", "places", "rows", "place", "other", "counting", "row", "idle", "found", "held", "at"] ["size", "operation"] (defScope s_two_places) := ⟨rfl, rfl, rfl, by decide +kernel, rfl, by decide +kernel, by decide +kernel⟩
def f_two_places : FF := fnD 2 12 (sSeq (sSet 1 (eN (pureF f_need_operation) (aCons (eVar 0) (aCons (eVar 1) (aNil))))) (sSeq (sPar 2 3 (eN (pureF f_hung_found) (aCons (eVar 0) (aCons (eVar 1) (aNil)))) (eN f_all_rows (aCons (eVar 0) (aCons (e2 gIx (eVar 1) (eC (.int 0))) (aNil))))) (sSeq (sIf (bV (e2 gLt (eN (g1 gLen) (aCons (eVar 2) (aNil))) (eC (.int 2)))) (sRet (eC .non)) (sNil)) (sSeq (sTup [4, 5] (eN dTup (aCons (e2 gIx (eVar 2) (eC (.int 0))) (aCons (e2 gIx (eVar 2) (eC (.int 1))) (aNil))))) (sSeq (sSet 6 (eLc (iAny (eVar 3)) 7 (bV (eN (pureF f_counts_at) (aCons (eVar 0) (aCons (eVar 1) (aCons (eVar 4) (aCons (eVar 7) (aNil))))))) (eVar 7) [7])) (sSeq (sSet 8 (eLc (iAny (eVar 3)) 7 (bV (e2 gNotIn (eVar 7) (eVar 6))) (eVar 7) [7])) (sSeq (sSet 7 (eSl (eLc (iAny (eVar 6)) 7 (bV (eN (pureF f_counts_at) (aCons (eVar 0) (aCons (eVar 1) (aCons (eVar 5) (aCons (eVar 7) (aNil))))))) (eVar 7) [7]) oNone (oSome (eC (.int 1))))) (sSeq (sIf (bV (e2 gGt (eN (g1 gLen) (aCons (eVar 8) (aNil))) (eC (.int 0)))) (sSeq (sTup [9, 5] (eN (pureF f_last_counting) (aCons (eVar 0) (aCons (eVar 1) (aCons (eVar 4) (aCons (e2 gIx (eVar 6) (eC (.int 0))) (aCons (e2 gIx (eVar 8) (eC (.int 0))) (aNil)))))))) (sSet 7 (eN dLst (aCons (eVar 9) (aNil))))) (sNil)) (sSeq (sSet 10 (eN (g1 gTupOf) (aCons (eLc (iRg1 (e2 gIx (eVar 1) (eC (.int 0)))) 11 (bYes) (eIf (bV (e2 gIn (eVar 11) (eN dTup (aCons (eVar 4) (aCons (eVar 5) (aNil)))))) (eC .non) (e2 gIx (e2 gIx (eVar 7) (eC (.int 0))) (eVar 11))) [11]) (aNil)))) (sRet (eN dTup (aCons (eN (g2 gMin) (aCons (eVar 4) (aCons (eVar 5) (aNil)))) (aCons (eN (g2 gMax) (aCons (eVar 4) (aCons (eVar 5) (aNil)))) (aCons (eVar 10) (aNil)))))))))))))))
theorem fl_two_places : FLen f_two_places 2 := FLen.fn
theorem ok_two_places (T : Txt K mg w) : FnOk P w K mg base CX0 7 T.d_two_places.f T.d_two_places.fd ["size", "operation"] (spF P w K 2 f_two_places) :=
  fn_ok T.d_two_places.F sc_two_places fun cdv A outer s H E hr => (css_cons (cs_set sc_two_places.nd (ce_call (FnOk.pureF (ok_need_operation T)) (FLen.pure fl_need_operation) (hr.mono (by decide)) (by rfl) T.d_need_operation.g T.d_need_operation.F.kp T.d_need_operation.b (ca_cons (ce_var 0) (ca_cons (ce_var 1) ca_nil)))) (css_cons (cs_par rfl sc_two_places.nd (ce_call (FnOk.pureF (ok_hung_found T)) (FLen.pure fl_hung_found) (hr.mono (by decide)) (by rfl) T.d_hung_found.g T.d_hung_found.F.kp T.d_hung_found.b (ca_cons (ce_var 0) (ca_cons (ce_var 1) ca_nil))) (ce_call (ok_all_rows T) fl_all_rows (hr.mono (by decide)) (by rfl) T.d_all_rows.g T.d_all_rows.F.kp T.d_all_rows.b (ca_cons (ce_var 0) (ca_cons (ce_ix (ce_var 1) ce_int) ca_nil)))) (css_cons (cs_if (ct_cmp or_lt (ce_callB cr_len (by rfl) T.n_len (by decide +kernel) (ca_cons (ce_var 2) ca_nil)) ce_int) (css_one (cs_ret ce_non)) css_nil) (css_cons (cs_tup rfl (cg_cons sc_two_places.nd (cg_cons sc_two_places.nd cg_nil)) (ce_tup (ca_cons (ce_ix (ce_var 2) ce_int) (ca_cons (ce_ix (ce_var 2) ce_int) ca_nil)))) (css_cons (cs_set sc_two_places.nd (ce_lc (own := [("row", 7)]) rfl sc_two_places.nd (ci_any (ce_var 3)) (blkOk_by (own := [("row", 7)]) (by kernel_rfl)) (fun _ _ _ _ _ => pg_name (i := 7) sc_two_places.nd rfl (by first | exact Or.inl rfl | exact Or.inr rfl)) (fun _ _ _ _ _ => cts_one (ct_val (ce_call (FnOk.pureF (ok_counts_at T)) (FLen.pure fl_counts_at) (hr.mono (by decide)) (by rfl) T.d_counts_at.g T.d_counts_at.F.kp T.d_counts_at.b (ca_cons (ce_var 0) (ca_cons (ce_var 1) (ca_cons (ce_var 4) (ca_cons (ce_var 7) ca_nil))))))) (fun _ _ _ _ _ => (ce_var 7)))) (css_cons (cs_setLc (own := [("row", 7)]) rfl sc_two_places.nd (sw_true rfl rfl rfl (by decide +kernel)) (ci_any (ce_var 3)) (blkOk_by (own := [("row", 7)]) (by kernel_rfl)) (fun _ _ _ _ _ => pg_name (i := 7) sc_two_places.nd rfl (by first | exact Or.inl rfl | exact Or.inr rfl)) (fun _ _ _ _ _ => cts_one (ct_cmp (or_notIn (u65 hr)) (ce_var 7) (ce_var 6))) (fun _ _ _ _ _ => (ce_var 7))) (css_cons (cs_set sc_two_places.nd (ce_sl (ce_lc (own := [("row", 7)]) rfl sc_two_places.nd (ci_any (ce_var 6)) (blkOk_by (own := [("row", 7)]) (by kernel_rfl)) (fun _ _ _ _ _ => pg_name (i := 7) sc_two_places.nd rfl (by first | exact Or.inl rfl | exact Or.inr rfl)) (fun _ _ _ _ _ => cts_one (ct_val (ce_call (FnOk.pureF (ok_counts_at T)) (FLen.pure fl_counts_at) (hr.mono (by decide)) (by rfl) T.d_counts_at.g T.d_counts_at.F.kp T.d_counts_at.b (ca_cons (ce_var 0) (ca_cons (ce_var 1) (ca_cons (ce_var 5) (ca_cons (ce_var 7) ca_nil))))))) (fun _ _ _ _ _ => (ce_var 7))) co_none (co_some ce_int))) (css_cons (cs_if (ct_cmp or_gt (ce_callB cr_len (by rfl) T.n_len (by decide +kernel) (ca_cons (ce_var 8) ca_nil)) ce_int) (css_cons (cs_tup rfl (cg_cons sc_two_places.nd (cg_cons sc_two_places.nd cg_nil)) (ce_call (FnOk.pureF (ok_last_counting T)) (FLen.pure fl_last_counting) (hr.mono (by decide)) (by rfl) T.d_last_counting.g T.d_last_counting.F.kp T.d_last_counting.b (ca_cons (ce_var 0) (ca_cons (ce_var 1) (ca_cons (ce_var 4) (ca_cons (ce_ix (ce_var 6) ce_int) (ca_cons (ce_ix (ce_var 8) ce_int) ca_nil))))))) (css_one (cs_set sc_two_places.nd (ce_lst (ca_cons (ce_var 9) ca_nil))))) css_nil) (css_cons (cs_set sc_two_places.nd (ce_callTy cr_tuple (by rfl) T.n_tuple (by decide +kernel) (ca_cons (ce_lc (own := [("at", 11)]) rfl sc_two_places.nd (ci_rg1 (by rfl) T.n_range (ce_ix (ce_var 1) ce_int)) (blkOk_by (own := [("at", 11)]) (by kernel_rfl)) (fun _ _ _ _ _ => pg_name (i := 11) sc_two_places.nd rfl (by first | exact Or.inl rfl | exact Or.inr rfl)) (fun _ _ _ _ _ => cts_nil) (fun _ _ _ _ _ => (ce_if (ct_cmp (or_in (u65 hr)) (ce_var 11) (ce_tup (ca_cons (ce_var 4) (ca_cons (ce_var 5) ca_nil)))) ce_non (ce_ix (ce_ix (ce_var 7) ce_int) (ce_var 11))))) ca_nil))) (css_one (cs_ret (ce_tup (ca_cons (ce_callB (cr_min rfl) (by rfl) T.n_min (by decide +kernel) (ca_cons (ce_var 4) (ca_cons (ce_var 5) ca_nil))) (ca_cons (ce_callB (cr_max rfl) (by rfl) T.n_max (by decide +kernel) (ca_cons (ce_var 4) (ca_cons (ce_var 5) ca_nil))) (ca_cons (ce_var 10) ca_nil)))))))))))))))
/-! is_list -/
theorem sc_is_list : FnScope ["size", "value", "one", "at"] ["size", "value"] (defScope s_is_list) := ⟨rfl, rfl, rfl, by decide +kernel, rfl, by decide +kernel, by decide +kernel⟩
def f_is_list : FF := fnD 2 4 (sSeq (sIf (bOr (bNot (bV (eIsi .tup (eVar 1)))) (bOr (bV (e2 gEq (eN (g1 gLen) (aCons (eVar 1) (aNil))) (eC (.int 0)))) (bNot (bV (eN (g1 gAll) (aCons (eLc (iAny (eVar 1)) 2 (bYes) (eN (pureF f_is_below) (aCons (eVar 2) (aCons (eVar 0) (aNil)))) [2]) (aNil))))))) (sRet (eC (.bl false))) (sNil)) (sRet (eN (g1 gAll) (aCons (eLc (iRg1 (e2 gSub (eN (g1 gLen) (aCons (eVar 1) (aNil))) (eC (.int 1)))) 3 (bYes) (e2 gLt (e2 gIx (eVar 1) (eVar 3)) (e2 gIx (eVar 1) (e2 gAdd (eVar 3) (eC (.int 1))))) [3]) (aNil)))))
theorem fl_is_list : FLen f_is_list 2 := FLen.fn
theorem ok_is_list (T : Txt K mg w) : FnOk P w K mg base CX0 4 T.d_is_list.f T.d_is_list.fd ["size", "value"] (spF P w K 2 f_is_list) :=
  fn_ok T.d_is_list.F sc_is_list fun cdv A outer s H E hr => (css_cons (cs_if (ct_w (cw_or (ct_not (ct_val (ce_isi .tup (by decide) (by rfl) T.n_isinstance (ce_var 1) (by rfl) T.n_tuple (by decide +kernel)))) (cw_or (ct_cmp (or_eq hr.units) (ce_callB cr_len (by rfl) T.n_len (by decide +kernel) (ca_cons (ce_var 1) ca_nil)) ce_int) (cw_or1 (ct_not (ct_val (ce_callB (cr_all rfl) (by rfl) T.n_all (by decide +kernel) (ca_cons (ce_lc (own := [("one", 2)]) rfl sc_is_list.nd (ci_any (ce_var 1)) (blkOk_by (own := [("one", 2)]) (by kernel_rfl)) (fun _ _ _ _ _ => pg_name (i := 2) sc_is_list.nd rfl (by first | exact Or.inl rfl | exact Or.inr rfl)) (fun _ _ _ _ _ => cts_nil) (fun _ _ _ _ _ => (ce_call (FnOk.pureF (ok_is_below T)) (FLen.pure fl_is_below) (hr.mono (by decide)) (by rfl) T.d_is_below.g T.d_is_below.F.kp T.d_is_below.b (ca_cons (ce_var 2) (ca_cons (ce_var 0) ca_nil))))) ca_nil)))))))) (css_one (cs_ret ce_bl)) css_nil) (css_one (cs_ret (ce_callB (cr_all rfl) (by rfl) T.n_all (by decide +kernel) (ca_cons (ce_lc (own := [("at", 3)]) rfl sc_is_list.nd (ci_rg1 (by rfl) T.n_range (ce_op or_sub (ce_callB cr_len (by rfl) T.n_len (by decide +kernel) (ca_cons (ce_var 1) ca_nil)) ce_int)) (blkOk_by (own := [("at", 3)]) (by kernel_rfl)) (fun _ _ _ _ _ => pg_name (i := 3) sc_is_list.nd rfl (by first | exact Or.inl rfl | exact Or.inr rfl)) (fun _ _ _ _ _ => cts_nil) (fun _ _ _ _ _ => (ce_cmp or_lt (ce_ix (ce_var 1) (ce_var 3)) (ce_ix (ce_var 1) (ce_op or_add (ce_var 3) ce_int))))) ca_nil)))))
/-! are_seen -/
theorem sc_are_seen : FnScope ["value", "seen", "cell"] ["value", "seen"] (defScope s_are_seen) := ⟨rfl, rfl, rfl, by decide +kernel, rfl, by decide +kernel, by decide +kernel⟩
def f_are_seen : FF := fnD 2 3 (sRet (eAnd (eIsi .tup (eVar 0)) (eN (g1 gAll) (aCons (eLc (iAny (eVar 0)) 2 (bYes) (eAnd (eN (pureF f_is_number) (aCons (eVar 2) (aNil))) (e2 gIn (eVar 2) (eVar 1))) [2]) (aNil)))))
theorem fl_are_seen : FLen f_are_seen 2 := FLen.fn
theorem ok_are_seen (T : Txt K mg w) : FnOk P w K mg base CX0 3 T.d_are_seen.f T.d_are_seen.fd ["value", "seen"] (spF P w K 2 f_are_seen) :=
  fn_ok T.d_are_seen.F sc_are_seen fun cdv A outer s H E hr => (css_one (cs_ret (ce_and (ce_isi .tup (by decide) (by rfl) T.n_isinstance (ce_var 0) (by rfl) T.n_tuple (by decide +kernel)) (ce_one (ce_callB (cr_all rfl) (by rfl) T.n_all (by decide +kernel) (ca_cons (ce_lc (own := [("cell", 2)]) rfl sc_are_seen.nd (ci_any (ce_var 0)) (blkOk_by (own := [("cell", 2)]) (by kernel_rfl)) (fun _ _ _ _ _ => pg_name (i := 2) sc_are_seen.nd rfl (by first | exact Or.inl rfl | exact Or.inr rfl)) (fun _ _ _ _ _ => cts_nil) (fun _ _ _ _ _ => (ce_and (ce_call (FnOk.pureF (ok_is_number T)) (FLen.pure fl_is_number) (hr.mono (by decide)) (by rfl) T.d_is_number.g T.d_is_number.F.kp T.d_is_number.b (ca_cons (ce_var 2) ca_nil)) (ce_one (ce_cmp (or_in (u65 hr)) (ce_var 2) (ce_var 1)))))) ca_nil))))))
/-! test_holds -/
theorem sc_test_holds : FnScope ["book", "test", "seen"] ["book", "test", "seen"] (defScope s_test_holds) := ⟨rfl, rfl, rfl, by decide +kernel, rfl, by decide +kernel, by decide +kernel⟩
def f_test_holds : FF := fnD 3 3 (sSeq (sIf (bV (e2 gIsN (eVar 1) (eC .non))) (sRet (eC (.bl true))) (sNil)) (sSeq (sIf (bOr (bNot (bV (eIsi .tup (eVar 1)))) (bV (e2 gNe (eN (g1 gLen) (aCons (eVar 1) (aNil))) (eC (.int 2))))) (sRet (eC (.bl false))) (sNil)) (sRet (eAnd (eN (pureF f_is_number) (aCons (e2 gIx (eVar 1) (eC (.int 0))) (aNil))) (eAnd (e2 gIn (e2 gIx (eVar 1) (eC (.int 0))) (eVar 2)) (eN (pureF f_is_below) (aCons (e2 gIx (eVar 1) (eC (.int 1))) (aCons (e2 gIx (eVar 0) (eC (.int 0))) (aNil)))))))))
theorem fl_test_holds : FLen f_test_holds 3 := FLen.fn
theorem ok_test_holds (T : Txt K mg w) : FnOk P w K mg base CX0 4 T.d_test_holds.f T.d_test_holds.fd ["book", "test", "seen"] (spF P w K 3 f_test_holds) :=
  fn_ok T.d_test_holds.F sc_test_holds fun cdv A outer s H E hr => (css_cons (cs_if (ct_cmp or_isN (ce_var 1) ce_non) (css_one (cs_ret ce_bl)) css_nil) (css_cons (cs_if (ct_w (cw_or (ct_not (ct_val (ce_isi .tup (by decide) (by rfl) T.n_isinstance (ce_var 1) (by rfl) T.n_tuple (by decide +kernel)))) (cw_or1 (ct_cmp (or_ne hr.units) (ce_callB cr_len (by rfl) T.n_len (by decide +kernel) (ca_cons (ce_var 1) ca_nil)) ce_int)))) (css_one (cs_ret ce_bl)) css_nil) (css_one (cs_ret (ce_and (ce_call (FnOk.pureF (ok_is_number T)) (FLen.pure fl_is_number) (hr.mono (by decide)) (by rfl) T.d_is_number.g T.d_is_number.F.kp T.d_is_number.b (ca_cons (ce_ix (ce_var 1) ce_int) ca_nil)) (ce_and (ce_cmp (or_in (u65 hr)) (ce_ix (ce_var 1) ce_int) (ce_var 2)) (ce_one (ce_call (FnOk.pureF (ok_is_below T)) (FLen.pure fl_is_below) (hr.mono (by decide)) (by rfl) T.d_is_below.g T.d_is_below.F.kp T.d_is_below.b (ca_cons (ce_ix (ce_var 1) ce_int) (ca_cons (ce_ix (ce_var 0) ce_int) ca_nil))))))))))
/-! are_pairs -/
theorem sc_are_pairs : FnScope ["value", "ones", "others", "pair"] ["value", "ones", "others"] (defScope s_are_pairs) := ⟨rfl, rfl, rfl, by decide +kernel, rfl, by decide +kernel, by decide +kernel⟩
def f_are_pairs : FF := fnD 3 4 (sSeq (sIf (bOr (bNot (bV (eIsi .tup (eVar 0)))) (bNot (bV (eN (g1 gAll) (aCons (eLc (iAny (eVar 0)) 3 (bYes) (eAnd (eIsi .tup (eVar 3)) (e2 gEq (eN (g1 gLen) (aCons (eVar 3) (aNil))) (eC (.int 2)))) [3]) (aNil)))))) (sRet (eC (.bl false))) (sNil)) (sRet (eAnd (eN f_are_seen (aCons (eN (g1 gTupOf) (aCons (eLc (iAny (eVar 0)) 3 (bYes) (e2 gIx (eVar 3) (eC (.int 0))) [3]) (aNil))) (aCons (eVar 1) (aNil)))) (eN f_are_seen (aCons (eN (g1 gTupOf) (aCons (eLc (iAny (eVar 0)) 3 (bYes) (e2 gIx (eVar 3) (eC (.int 1))) [3]) (aNil))) (aCons (eVar 2) (aNil)))))))
theorem fl_are_pairs : FLen f_are_pairs 3 := FLen.fn
theorem ok_are_pairs (T : Txt K mg w) : FnOk P w K mg base CX0 4 T.d_are_pairs.f T.d_are_pairs.fd ["value", "ones", "others"] (spF P w K 3 f_are_pairs) :=
  fn_ok T.d_are_pairs.F sc_are_pairs fun cdv A outer s H E hr => (css_cons (cs_if (ct_w (cw_or (ct_not (ct_val (ce_isi .tup (by decide) (by rfl) T.n_isinstance (ce_var 0) (by rfl) T.n_tuple (by decide +kernel)))) (cw_or1 (ct_not (ct_val (ce_callB (cr_all rfl) (by rfl) T.n_all (by decide +kernel) (ca_cons (ce_lc (own := [("pair", 3)]) rfl sc_are_pairs.nd (ci_any (ce_var 0)) (blkOk_by (own := [("pair", 3)]) (by kernel_rfl)) (fun _ _ _ _ _ => pg_name (i := 3) sc_are_pairs.nd rfl (by first | exact Or.inl rfl | exact Or.inr rfl)) (fun _ _ _ _ _ => cts_nil) (fun _ _ _ _ _ => (ce_and (ce_isi .tup (by decide) (by rfl) T.n_isinstance (ce_var 3) (by rfl) T.n_tuple (by decide +kernel)) (ce_one (ce_cmp (or_eq hr.units) (ce_callB cr_len (by rfl) T.n_len (by decide +kernel) (ca_cons (ce_var 3) ca_nil)) ce_int))))) ca_nil))))))) (css_one (cs_ret ce_bl)) css_nil) (css_one (cs_ret (ce_and (ce_call (ok_are_seen T) fl_are_seen (hr.mono (by decide)) (by rfl) T.d_are_seen.g T.d_are_seen.F.kp T.d_are_seen.b (ca_cons (ce_callTy cr_tuple (by rfl) T.n_tuple (by decide +kernel) (ca_cons (ce_lc (own := [("pair", 3)]) rfl sc_are_pairs.nd (ci_any (ce_var 0)) (blkOk_by (own := [("pair", 3)]) (by kernel_rfl)) (fun _ _ _ _ _ => pg_name (i := 3) sc_are_pairs.nd rfl (by first | exact Or.inl rfl | exact Or.inr rfl)) (fun _ _ _ _ _ => cts_nil) (fun _ _ _ _ _ => (ce_ix (ce_var 3) ce_int))) ca_nil)) (ca_cons (ce_var 1) ca_nil))) (ce_one (ce_call (ok_are_seen T) fl_are_seen (hr.mono (by decide)) (by rfl) T.d_are_seen.g T.d_are_seen.F.kp T.d_are_seen.b (ca_cons (ce_callTy cr_tuple (by rfl) T.n_tuple (by decide +kernel) (ca_cons (ce_lc (own := [("pair", 3)]) rfl sc_are_pairs.nd (ci_any (ce_var 0)) (blkOk_by (own := [("pair", 3)]) (by kernel_rfl)) (fun _ _ _ _ _ => pg_name (i := 3) sc_are_pairs.nd rfl (by first | exact Or.inl rfl | exact Or.inr rfl)) (fun _ _ _ _ _ => cts_nil) (fun _ _ _ _ _ => (ce_ix (ce_var 3) ce_int))) ca_nil)) (ca_cons (ce_var 2) ca_nil))))))))
/-! need_sense -/
theorem sc_need_sense : FnScope ["value"] ["value"] (defScope s_need_sense) := ⟨rfl, rfl, rfl, by decide +kernel, rfl, by decide +kernel, by decide +kernel⟩
def f_need_sense : FF := fnD 1 1 (sSeq (sIf (bOr (bNot (bV (eN (pureF f_is_string) (aCons (eVar 0) (aNil))))) (bV (e2 gNotIn (eVar 0) (eN dTup (aCons (eC (.str ⟨#[101, 120, 97, 99, 116]⟩)) (aCons (eC (.str ⟨#[102, 105, 110, 100, 115]⟩)) (aNil))))))) (sNever) (sNil)) (sRet (eVar 0)))
theorem fl_need_sense : FLen f_need_sense 1 := FLen.fn
theorem ok_need_sense (T : Txt K mg w) : FnOk P w K mg base CX0 2 T.d_need_sense.f T.d_need_sense.fd ["value"] (spF P w K 1 f_need_sense) :=
  fn_ok T.d_need_sense.F sc_need_sense fun cdv A outer s H E hr => (css_cons (cs_if (ct_w (cw_or (ct_not (ct_val (ce_call (FnOk.pureF (ok_is_string T)) (FLen.pure fl_is_string) (hr.mono (by decide)) (by rfl) T.d_is_string.g T.d_is_string.F.kp T.d_is_string.b (ca_cons (ce_var 0) ca_nil)))) (cw_or1 (ct_cmp (or_notIn (u65 hr)) (ce_var 0) (ce_tup (ca_cons (ce_str ⟨#[101, 120, 97, 99, 116]⟩ (by decide +kernel)) (ca_cons (ce_str ⟨#[102, 105, 110, 100, 115]⟩ (by decide +kernel)) ca_nil))))))) (css_one cs_never) css_nil) (css_one (cs_ret (ce_var 0))))
end
end K50
set_option Elab.async false
set_option linter.all false
set_option maxRecDepth 100000
set_option maxHeartbeats 4000000
namespace K50
open PySem PySem.Spec PyProof.Rows L2
section
variable {P : Program} {w : World} {K : PySem.W.Frag} {mg : Str → Option Value} {base : Heap}
/-! law_width -/
theorem sc_law_width : FnScope ["_law_rows", "_law_many", "_law_row"] ["_law_rows"] (defScope s_law_width) := ⟨rfl, rfl, rfl, by decide +kernel, rfl, by decide +kernel, by decide +kernel⟩
def g_law_width (R : FF) : FF := fnD 1 3 (sSeq (sSet 1 (eC (.int 0))) (sSeq (sFor (iAny (eVar 0)) (.inl 2) (sIf (bV (e2 gEq (e2 gIx (eVar 2) (eC (.int 0))) (eC (.str ⟨#[102, 111, 114, 107]⟩)))) (sSet 1 (e2 gAdd (e2 gAdd (e2 gAdd (eVar 1) (eN (pureF R) (aCons (e2 gIx (eVar 2) (eC (.int 2))) (aNil)))) (eN (pureF R) (aCons (e2 gIx (eVar 2) (eC (.int 3))) (aNil)))) (eN (g1 gLen) (aCons (e2 gIx (eVar 2) (eC (.int 4))) (aNil))))) (sSet 1 (e2 gAdd (eVar 1) (eIf (bV (e2 gEq (e2 gIx (eVar 2) (eC (.int 0))) (eC (.str ⟨#[108, 111, 111, 112]⟩)))) (e2 gAdd (eN (g1 gLen) (aCons (e2 gIx (eVar 2) (eC (.int 2))) (aNil))) (eN (pureF R) (aCons (e2 gIx (eVar 2) (eC (.int 3))) (aNil)))) (eC (.int 1))))))) (sRet (eVar 1))))
theorem flg_law_width (R : FF) : FLen (g_law_width R) 1 := FLen.fn
theorem okg_law_width (T : Txt K mg w) {R : FF} {j : Nat} (hj : 0 ≤ j := by assumption) (hl : FLen R 1 := by assumption) (hR : FnOk P w K mg base CX0 j T.d_law_width.f T.d_law_width.fd ["_law_rows"] (spF P w K 1 R)) : FnOk P w K mg base CX0 (j + 1) T.d_law_width.f T.d_law_width.fd ["_law_rows"] (spF P w K 1 (g_law_width R)) :=
  fn_ok T.d_law_width.F sc_law_width fun cdv A outer s H E hr => (css_cons (cs_set sc_law_width.nd ce_int) (css_cons (cs_for PassesOwn.never rfl (ci_any (ce_var 0)) (cg_name sc_law_width.nd) (css_one (cs_if (ct_cmp (or_eq hr.units) (ce_ix (ce_var 2) ce_int) (ce_str ⟨#[102, 111, 114, 107]⟩ (by decide +kernel))) (css_one (cs_set sc_law_width.nd (ce_op or_add (ce_op or_add (ce_op or_add (ce_var 1) (ce_call (FnOk.pureF hR) (FLen.pure hl) (hr.mono (by omega)) (by rfl) T.d_law_width.g T.d_law_width.F.kp T.d_law_width.b (ca_cons (ce_ix (ce_var 2) ce_int) ca_nil))) (ce_call (FnOk.pureF hR) (FLen.pure hl) (hr.mono (by omega)) (by rfl) T.d_law_width.g T.d_law_width.F.kp T.d_law_width.b (ca_cons (ce_ix (ce_var 2) ce_int) ca_nil))) (ce_callB cr_len (by rfl) T.n_len (by decide +kernel) (ca_cons (ce_ix (ce_var 2) ce_int) ca_nil))))) (css_one (cs_set sc_law_width.nd (ce_op or_add (ce_var 1) (ce_if (ct_cmp (or_eq hr.units) (ce_ix (ce_var 2) ce_int) (ce_str ⟨#[108, 111, 111, 112]⟩ (by decide +kernel))) (ce_op or_add (ce_callB cr_len (by rfl) T.n_len (by decide +kernel) (ca_cons (ce_ix (ce_var 2) ce_int) ca_nil)) (ce_call (FnOk.pureF hR) (FLen.pure hl) (hr.mono (by omega)) (by rfl) T.d_law_width.g T.d_law_width.F.kp T.d_law_width.b (ca_cons (ce_ix (ce_var 2) ce_int) ca_nil))) ce_int))))))) (css_one (cs_ret (ce_var 1)))))
def f_law_width : Nat → FF
  | 0 => fun _ _ => none
  | n + 1 => g_law_width (f_law_width n)
theorem fl_law_width : ∀ n, FLen (f_law_width n) 1
  | 0 => FLen.none 1
  | n + 1 => flg_law_width _
theorem okn_law_width (T : Txt K mg w) : ∀ n, FnOk P w K mg base CX0 (0 + n * 1) T.d_law_width.f T.d_law_width.fd ["_law_rows"] (spF P w K 1 (f_law_width n))
  | 0 => fn_none rfl
  | n + 1 => by
    have h := okg_law_width T (j := 0 + n * 1) (hj := by omega) (hl := fl_law_width n) (okn_law_width T n)
    exact h.mono (by omega)
theorem ok_law_width (T : Txt K mg w) : ∀ n, FnOk P w K mg base CX0 (0 + n * 1) T.d_law_width.f T.d_law_width.fd ["_law_rows"] (spF P w K 1 (f_law_width n)) := okn_law_width T
/-! law_values -/
theorem sc_law_values : FnScope ["_law_lists", "_law_rows", "_law_one", "_law_longer", "_law_row", "_law_value"] ["_law_lists"] (defScope s_law_values) := ⟨rfl, rfl, rfl, by decide +kernel, rfl, by decide +kernel, by decide +kernel⟩
def f_law_values : FF := fnD 1 6 (sSeq (sSet 1 (eN dLst (aCons (eN dTup (aNil)) (aNil)))) (sSeq (sFor (iAny (eVar 0)) (.inl 2) (sSeq (sSet 3 (eN dLst (aNil))) (sSeq (sFor (iAny (eVar 1)) (.inl 4) (sExpr (eML gExtend (eVar 3) (aCons (eLc (iAny (eVar 2)) 5 (bYes) (e2 gAdd (eVar 4) (eN dTup (aCons (eVar 5) (aNil)))) [5]) (aNil))))) (sSet 1 (eVar 3))))) (sRet (eVar 1))))
theorem fl_law_values : FLen f_law_values 1 := FLen.fn
theorem ok_law_values (T : Txt K mg w) : FnOk P w K mg base CX0 1 T.d_law_values.f T.d_law_values.fd ["_law_lists"] (spF P w K 1 f_law_values) :=
  fn_ok T.d_law_values.F sc_law_values fun cdv A outer s H E hr => (css_cons (cs_set sc_law_values.nd (ce_lst (ca_cons (ce_tup ca_nil) ca_nil))) (css_cons (cs_for PassesOwn.never rfl (ci_any (ce_var 0)) (cg_name sc_law_values.nd) (css_cons (cs_set sc_law_values.nd (ce_lst ca_nil)) (css_cons (cs_for PassesOwn.never rfl (ci_any (ce_var 1)) (cg_name sc_law_values.nd) (css_one (cs_expr (ce_ml PySem.F.slot_list_extend PySem.F.type_list_extend mr_extend (ce_var 3) (ca_cons (ce_lc (own := [("_law_value", 5)]) rfl sc_law_values.nd (ci_any (ce_var 2)) (blkOk_by (own := [("_law_value", 5)]) (by kernel_rfl)) (fun _ _ _ _ _ => pg_name (i := 5) sc_law_values.nd rfl (by first | exact Or.inl rfl | exact Or.inr rfl)) (fun _ _ _ _ _ => cts_nil) (fun _ _ _ _ _ => (ce_op or_add (ce_var 4) (ce_tup (ca_cons (ce_var 5) ca_nil))))) ca_nil))))) (css_one (cs_set sc_law_values.nd (ce_var 3)))))) (css_one (cs_ret (ce_var 1)))))
/-! law_set -/
theorem sc_law_set : FnScope ["_law_state", "_law_cell", "_law_value"] ["_law_state", "_law_cell", "_law_value"] (defScope s_law_set) := ⟨rfl, rfl, rfl, by decide +kernel, rfl, by decide +kernel, by decide +kernel⟩
def f_law_set : FF := fnD 3 3 (sRet (e2 gAdd (e2 gAdd (eSl (eVar 0) oNone (oSome (eVar 1))) (eN dTup (aCons (eVar 2) (aNil)))) (eSl (eVar 0) (oSome (e2 gAdd (eVar 1) (eC (.int 1)))) oNone)))
theorem fl_law_set : FLen f_law_set 3 := FLen.fn
theorem ok_law_set (T : Txt K mg w) : FnOk P w K mg base CX0 1 T.d_law_set.f T.d_law_set.fd ["_law_state", "_law_cell", "_law_value"] (spF P w K 3 f_law_set) :=
  fn_ok T.d_law_set.F sc_law_set fun cdv A outer s H E hr => (css_one (cs_ret (ce_op or_add (ce_op or_add (ce_sl (ce_var 0) co_none (co_some (ce_var 1))) (ce_tup (ca_cons (ce_var 2) ca_nil))) (ce_sl (ce_var 0) (co_some (ce_op or_add (ce_var 1) ce_int)) co_none))))
/-! law_sources -/
theorem sc_law_sources : FnScope ["_law_rows", "_law_number", "_law_found", "_law_row", "_law_at", "_law_first", "_law_second", "_law_pair", "_law_heads", "_law_spot"] ["_law_rows", "_law_number"] (defScope s_law_sources) := ⟨rfl, rfl, rfl, by decide +kernel, rfl, by decide +kernel, by decide +kernel⟩
def g_law_sources (R : FF) : FF := fnD 2 10 (sSeq (sSet 2 (eN dLst (aNil))) (sSeq (sFor (iAny (eVar 0)) (.inl 3) (sSeq (sSet 4 (e2 gAdd (eVar 1) (eN (g1 gLen) (aCons (eVar 2) (aNil))))) (sIf (bV (e2 gEq (e2 gIx (eVar 3) (eC (.int 0))) (eC (.str ⟨#[102, 111, 114, 107]⟩)))) (sSeq (sSet 5 (eN R (aCons (e2 gIx (eVar 3) (eC (.int 2))) (aCons (eVar 4) (aNil))))) (sSeq (sSet 6 (eN R (aCons (e2 gIx (eVar 3) (eC (.int 3))) (aCons (e2 gAdd (eVar 4) (eN (g1 gLen) (aCons (eVar 5) (aNil)))) (aNil))))) (sSet 2 (e2 gAdd (e2 gAdd (e2 gAdd (eVar 2) (eVar 5)) (eVar 6)) (eLc (iAny (e2 gIx (eVar 3) (eC (.int 4)))) 7 (bYes) (eN dTup (aCons (eC (.str ⟨#[101, 105, 116, 104, 101, 114]⟩)) (aCons (e2 gIx (eVar 7) (eC (.int 0))) (aCons (e2 gIx (eVar 7) (eC (.int 1))) (aNil))))) [7]))))) (sIf (bV (e2 gEq (e2 gIx (eVar 3) (eC (.int 0))) (eC (.str ⟨#[108, 111, 111, 112]⟩)))) (sSeq (sSet 8 (eLc (iRg1 (eN (g1 gLen) (aCons (e2 gIx (eVar 3) (eC (.int 2))) (aNil)))) 9 (bYes) (eN dTup (aCons (eC (.str ⟨#[101, 105, 116, 104, 101, 114]⟩)) (aCons (e2 gIx (e2 gIx (eVar 3) (eC (.int 2))) (eVar 9)) (aCons (e2 gIx (e2 gIx (eVar 3) (eC (.int 4))) (eVar 9)) (aNil))))) [9])) (sSet 2 (e2 gAdd (e2 gAdd (eVar 2) (eVar 8)) (eN R (aCons (e2 gIx (eVar 3) (eC (.int 3))) (aCons (e2 gAdd (eVar 4) (eN (g1 gLen) (aCons (eVar 8) (aNil)))) (aNil))))))) (sExpr (eML gAppend (eVar 2) (aCons (eVar 3) (aNil)))))))) (sRet (eVar 2))))
theorem flg_law_sources (R : FF) : FLen (g_law_sources R) 2 := FLen.fn
theorem okg_law_sources (T : Txt K mg w) {R : FF} {j : Nat} (hj : 0 ≤ j := by assumption) (hl : FLen R 2 := by assumption) (hR : FnOk P w K mg base CX0 j T.d_law_sources.f T.d_law_sources.fd ["_law_rows", "_law_number"] (spF P w K 2 R)) : FnOk P w K mg base CX0 (j + 1) T.d_law_sources.f T.d_law_sources.fd ["_law_rows", "_law_number"] (spF P w K 2 (g_law_sources R)) :=
  fn_ok T.d_law_sources.F sc_law_sources fun cdv A outer s H E hr => (css_cons (cs_set sc_law_sources.nd (ce_lst ca_nil)) (css_cons (cs_for PassesOwn.never rfl (ci_any (ce_var 0)) (cg_name sc_law_sources.nd) (css_cons (cs_set sc_law_sources.nd (ce_op or_add (ce_var 1) (ce_callB cr_len (by rfl) T.n_len (by decide +kernel) (ca_cons (ce_var 2) ca_nil)))) (css_one (cs_if (ct_cmp (or_eq hr.units) (ce_ix (ce_var 3) ce_int) (ce_str ⟨#[102, 111, 114, 107]⟩ (by decide +kernel))) (css_cons (cs_set sc_law_sources.nd (ce_call hR hl (hr.mono (by omega)) (by rfl) T.d_law_sources.g T.d_law_sources.F.kp T.d_law_sources.b (ca_cons (ce_ix (ce_var 3) ce_int) (ca_cons (ce_var 4) ca_nil)))) (css_cons (cs_set sc_law_sources.nd (ce_call hR hl (hr.mono (by omega)) (by rfl) T.d_law_sources.g T.d_law_sources.F.kp T.d_law_sources.b (ca_cons (ce_ix (ce_var 3) ce_int) (ca_cons (ce_op or_add (ce_var 4) (ce_callB cr_len (by rfl) T.n_len (by decide +kernel) (ca_cons (ce_var 5) ca_nil))) ca_nil)))) (css_one (cs_set sc_law_sources.nd (ce_op or_add (ce_op or_add (ce_op or_add (ce_var 2) (ce_var 5)) (ce_var 6)) (ce_lc (own := [("_law_pair", 7)]) rfl sc_law_sources.nd (ci_any (ce_ix (ce_var 3) ce_int)) (blkOk_by (own := [("_law_pair", 7)]) (by kernel_rfl)) (fun _ _ _ _ _ => pg_name (i := 7) sc_law_sources.nd rfl (by first | exact Or.inl rfl | exact Or.inr rfl)) (fun _ _ _ _ _ => cts_nil) (fun _ _ _ _ _ => (ce_tup (ca_cons (ce_str ⟨#[101, 105, 116, 104, 101, 114]⟩ (by decide +kernel)) (ca_cons (ce_ix (ce_var 7) ce_int) (ca_cons (ce_ix (ce_var 7) ce_int) ca_nil))))))))))) (css_one (cs_if (ct_cmp (or_eq hr.units) (ce_ix (ce_var 3) ce_int) (ce_str ⟨#[108, 111, 111, 112]⟩ (by decide +kernel))) (css_cons (cs_setLc (own := [("_law_spot", 9)]) rfl sc_law_sources.nd (sw_true rfl rfl rfl (by decide +kernel)) (ci_rg1 (by rfl) T.n_range (ce_callB cr_len (by rfl) T.n_len (by decide +kernel) (ca_cons (ce_ix (ce_var 3) ce_int) ca_nil))) (blkOk_by (own := [("_law_spot", 9)]) (by kernel_rfl)) (fun _ _ _ _ _ => pg_name (i := 9) sc_law_sources.nd rfl (by first | exact Or.inl rfl | exact Or.inr rfl)) (fun _ _ _ _ _ => cts_nil) (fun _ _ _ _ _ => (ce_tup (ca_cons (ce_str ⟨#[101, 105, 116, 104, 101, 114]⟩ (by decide +kernel)) (ca_cons (ce_ix (ce_ix (ce_var 3) ce_int) (ce_var 9)) (ca_cons (ce_ix (ce_ix (ce_var 3) ce_int) (ce_var 9)) ca_nil)))))) (css_one (cs_set sc_law_sources.nd (ce_op or_add (ce_op or_add (ce_var 2) (ce_var 8)) (ce_call hR hl (hr.mono (by omega)) (by rfl) T.d_law_sources.g T.d_law_sources.F.kp T.d_law_sources.b (ca_cons (ce_ix (ce_var 3) ce_int) (ca_cons (ce_op or_add (ce_var 4) (ce_callB cr_len (by rfl) T.n_len (by decide +kernel) (ca_cons (ce_var 8) ca_nil))) ca_nil))))))) (css_one (cs_expr (ce_ml PySem.F.slot_list_append PySem.F.type_list_append mr_append (ce_var 2) (ca_cons (ce_var 3) ca_nil)))))))))) (css_one (cs_ret (ce_var 2)))))
def f_law_sources : Nat → FF
  | 0 => fun _ _ => none
  | n + 1 => g_law_sources (f_law_sources n)
theorem fl_law_sources : ∀ n, FLen (f_law_sources n) 2
  | 0 => FLen.none 2
  | n + 1 => flg_law_sources _
theorem okn_law_sources (T : Txt K mg w) : ∀ n, FnOk P w K mg base CX0 (0 + n * 1) T.d_law_sources.f T.d_law_sources.fd ["_law_rows", "_law_number"] (spF P w K 2 (f_law_sources n))
  | 0 => fn_none rfl
  | n + 1 => by
    have h := okg_law_sources T (j := 0 + n * 1) (hj := by omega) (hl := fl_law_sources n) (okn_law_sources T n)
    exact h.mono (by omega)
theorem ok_law_sources (T : Txt K mg w) : ∀ n, FnOk P w K mg base CX0 (0 + n * 1) T.d_law_sources.f T.d_law_sources.fd ["_law_rows", "_law_number"] (spF P w K 2 (f_law_sources n)) := okn_law_sources T
/-! law_hangs -/
theorem sc_law_hangs : FnScope ["_law_size", "_law_operation", "_law_held", "_law_place", "_law_rows", "_law_at", "_law_longer", "_law_row", "_law_value", "_law_ends", "_law_spot", "_law_one", "_law_end"] ["_law_size", "_law_operation", "_law_held", "_law_place"] (defScope s_law_hangs) := ⟨rfl, rfl, rfl, by decide +kernel, rfl, by decide +kernel, by decide +kernel⟩
def f_law_hangs : FF := fnD 4 13 (sSeq (sSet 4 (eN dLst (aCons (eN dTup (aNil)) (aNil)))) (sSeq (sFor (iRg1 (e2 gIx (eVar 1) (eC (.int 0)))) (.inl 5) (sSeq (sSet 6 (eN dLst (aNil))) (sSeq (sFor (iAny (eVar 4)) (.inl 7) (sExpr (eML gExtend (eVar 6) (aCons (eLc (iAny (eIf (bV (e2 gIsN (e2 gIx (eVar 2) (eVar 5)) (eC .non))) (e1 gRgL1 (eVar 0)) (eN dLst (aCons (e2 gIx (eVar 2) (eVar 5)) (aNil))))) 8 (bYes) (e2 gAdd (eVar 7) (eN dTup (aCons (eVar 8) (aNil)))) [8]) (aNil))))) (sSet 4 (eVar 6))))) (sSeq (sFor (iAny (eVar 4)) (.inl 7) (sSeq (sSet 9 (eN dLst (aNil))) (sSeq (sFor (iRg1 (eVar 0)) (.inl 8) (sSeq (sSet 10 (eC (.int 0))) (sSeq (sFor (iAny (e2 gAdd (e2 gAdd (eSl (eVar 7) oNone (oSome (eVar 3))) (eN dTup (aCons (eVar 8) (aNil)))) (eSl (eVar 7) (oSome (e2 gAdd (eVar 3) (eC (.int 1)))) oNone))) (.inl 11) (sSet 10 (e2 gAdd (e2 gMul (eVar 10) (eVar 0)) (eVar 11)))) (sExpr (eML gAppend (eVar 9) (aCons (e2 gIx (e2 gIx (eVar 1) (eC (.int 1))) (eVar 10)) (aNil))))))) (sIf (bV (e2 gNe (eLc (iAny (eVar 9)) 12 (bV (e2 gNe (eVar 12) (e2 gIx (eVar 9) (eC (.int 0))))) (eVar 12) [12]) (eN dLst (aNil)))) (sRet (eC (.bl true))) (sNil))))) (sRet (eC (.bl false))))))
theorem fl_law_hangs : FLen f_law_hangs 4 := FLen.fn
theorem ok_law_hangs (T : Txt K mg w) : FnOk P w K mg base CX0 1 T.d_law_hangs.f T.d_law_hangs.fd ["_law_size", "_law_operation", "_law_held", "_law_place"] (spF P w K 4 f_law_hangs) :=
  fn_ok T.d_law_hangs.F sc_law_hangs fun cdv A outer s H E hr => (css_cons (cs_set sc_law_hangs.nd (ce_lst (ca_cons (ce_tup ca_nil) ca_nil))) (css_cons (cs_for PassesOwn.never rfl (ci_rg1 (by rfl) T.n_range (ce_ix (ce_var 1) ce_int)) (cg_name sc_law_hangs.nd) (css_cons (cs_set sc_law_hangs.nd (ce_lst ca_nil)) (css_cons (cs_for PassesOwn.never rfl (ci_any (ce_var 4)) (cg_name sc_law_hangs.nd) (css_one (cs_expr (ce_ml PySem.F.slot_list_extend PySem.F.type_list_extend mr_extend (ce_var 6) (ca_cons (ce_lc (own := [("_law_value", 8)]) rfl sc_law_hangs.nd (ci_any (ce_if (ct_cmp or_isN (ce_ix (ce_var 2) (ce_var 5)) ce_non) (ce_listRg1 rfl (by rfl) T.n_list (by rfl) T.n_range (ce_var 0)) (ce_lst (ca_cons (ce_ix (ce_var 2) (ce_var 5)) ca_nil)))) (blkOk_by (own := [("_law_value", 8)]) (by kernel_rfl)) (fun _ _ _ _ _ => pg_name (i := 8) sc_law_hangs.nd rfl (by first | exact Or.inl rfl | exact Or.inr rfl)) (fun _ _ _ _ _ => cts_nil) (fun _ _ _ _ _ => (ce_op or_add (ce_var 7) (ce_tup (ca_cons (ce_var 8) ca_nil))))) ca_nil))))) (css_one (cs_set sc_law_hangs.nd (ce_var 6)))))) (css_cons (cs_for PassesOwn.never rfl (ci_any (ce_var 4)) (cg_name sc_law_hangs.nd) (css_cons (cs_set sc_law_hangs.nd (ce_lst ca_nil)) (css_cons (cs_for PassesOwn.never rfl (ci_rg1 (by rfl) T.n_range (ce_var 0)) (cg_name sc_law_hangs.nd) (css_cons (cs_set sc_law_hangs.nd ce_int) (css_cons (cs_for PassesOwn.never rfl (ci_any (ce_op or_add (ce_op or_add (ce_sl (ce_var 7) co_none (co_some (ce_var 3))) (ce_tup (ca_cons (ce_var 8) ca_nil))) (ce_sl (ce_var 7) (co_some (ce_op or_add (ce_var 3) ce_int)) co_none))) (cg_name sc_law_hangs.nd) (css_one (cs_set sc_law_hangs.nd (ce_op or_add (ce_op or_mul (ce_var 10) (ce_var 0)) (ce_var 11))))) (css_one (cs_expr (ce_ml PySem.F.slot_list_append PySem.F.type_list_append mr_append (ce_var 9) (ca_cons (ce_ix (ce_ix (ce_var 1) ce_int) (ce_var 10)) ca_nil))))))) (css_one (cs_if (ct_cmp (or_ne hr.units) (ce_lc (own := [("_law_end", 12)]) rfl sc_law_hangs.nd (ci_any (ce_var 9)) (blkOk_by (own := [("_law_end", 12)]) (by kernel_rfl)) (fun _ _ _ _ _ => pg_name (i := 12) sc_law_hangs.nd rfl (by first | exact Or.inl rfl | exact Or.inr rfl)) (fun _ _ _ _ _ => cts_one (ct_cmp (or_ne hr.units) (ce_var 12) (ce_ix (ce_var 9) ce_int))) (fun _ _ _ _ _ => (ce_var 12))) (ce_lst ca_nil)) (css_one (cs_ret ce_bl)) css_nil))))) (css_one (cs_ret ce_bl)))))
/-! law_places -/
theorem sc_law_places : FnScope ["_law_size", "_law_operation", "_law_place"] ["_law_size", "_law_operation"] (defScope s_law_places) := ⟨rfl, rfl, rfl, by decide +kernel, rfl, by decide +kernel, by decide +kernel⟩
def f_law_places : FF := fnD 2 3 (sRet (eLc (iRg1 (e2 gIx (eVar 1) (eC (.int 0)))) 2 (bV (eN (pureF f_law_hangs) (aCons (eVar 0) (aCons (eVar 1) (aCons (e2 gMul (eN dTup (aCons (eC .non) (aNil))) (e2 gIx (eVar 1) (eC (.int 0)))) (aCons (eVar 2) (aNil))))))) (eVar 2) [2]))
theorem fl_law_places : FLen f_law_places 2 := FLen.fn
theorem ok_law_places (T : Txt K mg w) : FnOk P w K mg base CX0 2 T.d_law_places.f T.d_law_places.fd ["_law_size", "_law_operation"] (spF P w K 2 f_law_places) :=
  fn_ok T.d_law_places.F sc_law_places fun cdv A outer s H E hr => (css_one (cs_ret (ce_lc (own := [("_law_place", 2)]) rfl sc_law_places.nd (ci_rg1 (by rfl) T.n_range (ce_ix (ce_var 1) ce_int)) (blkOk_by (own := [("_law_place", 2)]) (by kernel_rfl)) (fun _ _ _ _ _ => pg_name (i := 2) sc_law_places.nd rfl (by first | exact Or.inl rfl | exact Or.inr rfl)) (fun _ _ _ _ _ => cts_one (ct_val (ce_call (FnOk.pureF (ok_law_hangs T)) (FLen.pure fl_law_hangs) (hr.mono (by decide)) (by rfl) T.d_law_hangs.g T.d_law_hangs.F.kp T.d_law_hangs.b (ca_cons (ce_var 0) (ca_cons (ce_var 1) (ca_cons (ce_op or_mul (ce_tup (ca_cons ce_non ca_nil)) (ce_ix (ce_var 1) ce_int)) (ca_cons (ce_var 2) ca_nil))))))) (fun _ _ _ _ _ => (ce_var 2)))))
/-! law_tables -/
theorem sc_law_tables : FnScope ["_law_size", "_law_places_here", "_law_rows", "_law_cell", "_law_longer", "_law_row", "_law_value"] ["_law_size", "_law_places_here"] (defScope s_law_tables) := ⟨rfl, rfl, rfl, by decide +kernel, rfl, by decide +kernel, by decide +kernel⟩
def f_law_tables : FF := fnD 2 7 (sSeq (sSet 2 (eN dLst (aCons (eN dTup (aNil)) (aNil)))) (sSeq (sFor (iRg1 (e2 gIx (eN dLst (aCons (eVar 0) (aCons (e2 gPow (eVar 0) (eC (.int 2))) (aCons (e2 gPow (eVar 0) (eC (.int 3))) (aNil))))) (e2 gSub (eVar 1) (eC (.int 1))))) (.inl 3) (sSeq (sSet 4 (eN dLst (aNil))) (sSeq (sFor (iAny (eVar 2)) (.inl 5) (sExpr (eML gExtend (eVar 4) (aCons (eLc (iRg1 (eVar 0)) 6 (bYes) (e2 gAddT (eVar 5) (eN dTup (aCons (eVar 6) (aNil)))) [6]) (aNil))))) (sSet 2 (eVar 4))))) (sRet (eLc (iAny (eVar 2)) 5 (bYes) (eN dTup (aCons (eVar 1) (aCons (eVar 5) (aNil)))) [5]))))
theorem fl_law_tables : FLen f_law_tables 2 := FLen.fn
theorem ok_law_tables (T : Txt K mg w) : FnOk P w K mg base CX0 1 T.d_law_tables.f T.d_law_tables.fd ["_law_size", "_law_places_here"] (spF P w K 2 f_law_tables) :=
  fn_ok T.d_law_tables.F sc_law_tables fun cdv A outer s H E hr => (css_cons (cs_set sc_law_tables.nd (ce_lst (ca_cons (ce_tup ca_nil) ca_nil))) (css_cons (cs_for PassesOwn.never rfl (ci_rg1 (by rfl) T.n_range (ce_ix (ce_lst (ca_cons (ce_var 0) (ca_cons (ce_op or_pow (ce_var 0) ce_int) (ca_cons (ce_op or_pow (ce_var 0) ce_int) ca_nil)))) (ce_op or_sub (ce_var 1) ce_int))) (cg_name sc_law_tables.nd) (css_cons (cs_set sc_law_tables.nd (ce_lst ca_nil)) (css_cons (cs_for PassesOwn.never rfl (ci_any (ce_var 2)) (cg_name sc_law_tables.nd) (css_one (cs_expr (ce_ml PySem.F.slot_list_extend PySem.F.type_list_extend mr_extend (ce_var 4) (ca_cons (ce_lc (own := [("_law_value", 6)]) rfl sc_law_tables.nd (ci_rg1 (by rfl) T.n_range (ce_var 0)) (blkOk_by (own := [("_law_value", 6)]) (by kernel_rfl)) (fun _ _ _ _ _ => pg_name (i := 6) sc_law_tables.nd rfl (by first | exact Or.inl rfl | exact Or.inr rfl)) (fun _ _ _ _ _ => cts_nil) (fun _ _ _ _ _ => (ce_op or_addT (ce_var 5) (ce_tup (ca_cons (ce_var 6) ca_nil))))) ca_nil))))) (css_one (cs_set sc_law_tables.nd (ce_var 4)))))) (css_one (cs_ret (ce_lc (own := [("_law_row", 5)]) rfl sc_law_tables.nd (ci_any (ce_var 2)) (blkOk_by (own := [("_law_row", 5)]) (by kernel_rfl)) (fun _ _ _ _ _ => pg_name (i := 5) sc_law_tables.nd rfl (by first | exact Or.inl rfl | exact Or.inr rfl)) (fun _ _ _ _ _ => cts_nil) (fun _ _ _ _ _ => (ce_tup (ca_cons (ce_var 1) (ca_cons (ce_var 5) ca_nil)))))))))
/-! law_seen -/
theorem sc_law_seen : FnScope ["_law_rows", "_law_found", "_law_row", "_law_inner", "_law_one"] ["_law_rows"] (defScope s_law_seen) := ⟨rfl, rfl, rfl, by decide +kernel, rfl, by decide +kernel, by decide +kernel⟩
def g_law_seen (R : FF) : FF := fnD 1 5 (sSeq (sSet 1 (eN dLst (aNil))) (sSeq (sFor (iAny (eVar 0)) (.inl 2) (sSeq (sIf (bOr (bV (e2 gEq (e2 gIx (eVar 2) (eC (.int 0))) (eC (.str ⟨#[108, 111, 111, 112]⟩)))) (bAnd (bV (e2 gEq (e2 gIx (eVar 2) (eC (.int 0))) (eC (.str ⟨#[102, 111, 114, 107]⟩)))) (bV (e2 gIsN (e2 gIx (eVar 2) (eC (.int 1))) (eC .non))))) (sRet (eC (.bl false))) (sNil)) (sIf (bV (e2 gEq (e2 gIx (eVar 2) (eC (.int 0))) (eC (.str ⟨#[102, 111, 114, 107]⟩)))) (sSeq (sExpr (eML gAppend (eVar 1) (aCons (eVar 2) (aNil)))) (sSeq (sSet 3 (eLc (iAny (e2 gAdd (e2 gIx (eVar 2) (eC (.int 2))) (e2 gIx (eVar 2) (eC (.int 3))))) 4 (bV (e2 gIn (e2 gIx (eVar 4) (eC (.int 0))) (eN dLst (aCons (eC (.str ⟨#[102, 111, 114, 107]⟩)) (aCons (eC (.str ⟨#[108, 111, 111, 112]⟩)) (aNil)))))) (eVar 4) [4])) (sIf (bAnd (bV (e2 gNe (eVar 3) (eN dLst (aNil)))) (bNot (bV (eN R (aCons (eVar 3) (aNil)))))) (sRet (eC (.bl false))) (sNil)))) (sNil)))) (sRet (e2 gNe (eVar 1) (eN dLst (aNil))))))
theorem flg_law_seen (R : FF) : FLen (g_law_seen R) 1 := FLen.fn
theorem okg_law_seen (T : Txt K mg w) {R : FF} {j : Nat} (hj : 0 ≤ j := by assumption) (hl : FLen R 1 := by assumption) (hR : FnOk P w K mg base CX0 j T.d_law_seen.f T.d_law_seen.fd ["_law_rows"] (spF P w K 1 R)) : FnOk P w K mg base CX0 (j + 1) T.d_law_seen.f T.d_law_seen.fd ["_law_rows"] (spF P w K 1 (g_law_seen R)) :=
  fn_ok T.d_law_seen.F sc_law_seen fun cdv A outer s H E hr => (css_cons (cs_set sc_law_seen.nd (ce_lst ca_nil)) (css_cons (cs_for PassesOwn.never rfl (ci_any (ce_var 0)) (cg_name sc_law_seen.nd) (css_cons (cs_if (ct_w (cw_or (ct_cmp (or_eq hr.units) (ce_ix (ce_var 2) ce_int) (ce_str ⟨#[108, 111, 111, 112]⟩ (by decide +kernel))) (cw_or1 (ct_w (cw_and (ct_cmp (or_eq hr.units) (ce_ix (ce_var 2) ce_int) (ce_str ⟨#[102, 111, 114, 107]⟩ (by decide +kernel))) (cw_and1 (ct_cmp or_isN (ce_ix (ce_var 2) ce_int) ce_non))))))) (css_one (cs_ret ce_bl)) css_nil) (css_one (cs_if (ct_cmp (or_eq hr.units) (ce_ix (ce_var 2) ce_int) (ce_str ⟨#[102, 111, 114, 107]⟩ (by decide +kernel))) (css_cons (cs_expr (ce_ml PySem.F.slot_list_append PySem.F.type_list_append mr_append (ce_var 1) (ca_cons (ce_var 2) ca_nil))) (css_cons (cs_setLc (own := [("_law_one", 4)]) rfl sc_law_seen.nd (sw_true rfl rfl rfl (by decide +kernel)) (ci_any (ce_op or_add (ce_ix (ce_var 2) ce_int) (ce_ix (ce_var 2) ce_int))) (blkOk_by (own := [("_law_one", 4)]) (by kernel_rfl)) (fun _ _ _ _ _ => pg_name (i := 4) sc_law_seen.nd rfl (by first | exact Or.inl rfl | exact Or.inr rfl)) (fun _ _ _ _ _ => cts_one (ct_cmp (or_in (u65 hr)) (ce_ix (ce_var 4) ce_int) (ce_lst (ca_cons (ce_str ⟨#[102, 111, 114, 107]⟩ (by decide +kernel)) (ca_cons (ce_str ⟨#[108, 111, 111, 112]⟩ (by decide +kernel)) ca_nil))))) (fun _ _ _ _ _ => (ce_var 4))) (css_one (cs_if (ct_w (cw_and (ct_cmp (or_ne hr.units) (ce_var 3) (ce_lst ca_nil)) (cw_and1 (ct_not (ct_val (ce_call hR hl (hr.mono (by omega)) (by rfl) T.d_law_seen.g T.d_law_seen.F.kp T.d_law_seen.b (ca_cons (ce_var 3) ca_nil))))))) (css_one (cs_ret ce_bl)) css_nil)))) css_nil)))) (css_one (cs_ret (ce_cmp (or_ne hr.units) (ce_var 1) (ce_lst ca_nil))))))
def f_law_seen : Nat → FF
  | 0 => fun _ _ => none
  | n + 1 => g_law_seen (f_law_seen n)
theorem fl_law_seen : ∀ n, FLen (f_law_seen n) 1
  | 0 => FLen.none 1
  | n + 1 => flg_law_seen _
theorem okn_law_seen (T : Txt K mg w) : ∀ n, FnOk P w K mg base CX0 (0 + n * 1) T.d_law_seen.f T.d_law_seen.fd ["_law_rows"] (spF P w K 1 (f_law_seen n))
  | 0 => fn_none rfl
  | n + 1 => by
    have h := okg_law_seen T (j := 0 + n * 1) (hj := by omega) (hl := fl_law_seen n) (okn_law_seen T n)
    exact h.mono (by omega)
theorem ok_law_seen (T : Txt K mg w) : ∀ n, FnOk P w K mg base CX0 (0 + n * 1) T.d_law_seen.f T.d_law_seen.fd ["_law_rows"] (spF P w K 1 (f_law_seen n)) := okn_law_seen T
end
end K50
set_option Elab.async false
set_option linter.all false
set_option maxRecDepth 100000
set_option maxHeartbeats 4000000
namespace K50
open PySem PySem.Spec PyProof.Rows L2
section
variable {P : Program} {w : World} {K : PySem.W.Frag} {mg : Str → Option Value} {base : Heap}
/-! need_book -/
theorem sc_need_book : FnScope ["value", "at", "operation"] ["value"] (defScope s_need_book) := ⟨rfl, rfl, rfl, by decide +kernel, rfl, by decide +kernel, by decide +kernel⟩
def f_need_book : FF := fnD 1 3 (sSeq (sIf (bOr (bNot (bV (eN (pureF f_is_pair) (aCons (eVar 0) (aNil))))) (bOr (bNot (bV (eN (pureF f_is_integer) (aCons (e2 gIx (eVar 0) (eC (.int 0))) (aNil))))) (bNot (bV (eCh gLe gLe (eC (.int 2)) (e2 gIx (eVar 0) (eC (.int 0))) (eC (.int 8))))))) (sNever) (sNil)) (sSeq (sIf (bOr (bNot (bV (eN (pureF f_is_sequence) (aCons (e2 gIx (eVar 0) (eC (.int 1))) (aNil))))) (bV (e2 gGt (eN (g1 gLen) (aCons (e2 gIx (eVar 0) (eC (.int 1))) (aNil))) (eC (.int 8))))) (sNever) (sNil)) (sSeq (sFor (iEn (e2 gIx (eVar 0) (eC (.int 1)))) (.inr [1, 2]) (sIf (bNot (bV (eN (pureF f_is_operation) (aCons (e2 gIx (eVar 0) (eC (.int 0))) (aCons (eVar 2) (aNil)))))) (sNever) (sNil))) (sRet (eN dTup (aCons (e2 gIx (eVar 0) (eC (.int 0))) (aCons (eN (g1 gTupOf) (aCons (eLc (iAny (e2 gIx (eVar 0) (eC (.int 1)))) 2 (bYes) (eN (pureF f_in_tuples) (aCons (eVar 2) (aNil))) [2]) (aNil))) (aNil))))))))
theorem fl_need_book : FLen f_need_book 1 := FLen.fn
theorem ok_need_book (T : Txt K mg w) : FnOk P w K mg base CX0 6 T.d_need_book.f T.d_need_book.fd ["value"] (spF P w K 1 f_need_book) :=
  fn_ok T.d_need_book.F sc_need_book fun cdv A outer s H E hr => (css_cons (cs_if (ct_w (cw_or (ct_not (ct_val (ce_call (FnOk.pureF (ok_is_pair T)) (FLen.pure fl_is_pair) (hr.mono (by decide)) (by rfl) T.d_is_pair.g T.d_is_pair.F.kp T.d_is_pair.b (ca_cons (ce_var 0) ca_nil)))) (cw_or (ct_not (ct_val (ce_call (FnOk.pureF (ok_is_integer T)) (FLen.pure fl_is_integer) (hr.mono (by decide)) (by rfl) T.d_is_integer.g T.d_is_integer.F.kp T.d_is_integer.b (ca_cons (ce_ix (ce_var 0) ce_int) ca_nil)))) (cw_or1 (ct_not (ct_chain or_le or_le ce_int (ce_ix (ce_var 0) ce_int) (ce_gint (by rfl) T.c_MOST_SIZE))))))) (css_one cs_never) css_nil) (css_cons (cs_if (ct_w (cw_or (ct_not (ct_val (ce_call (FnOk.pureF (ok_is_sequence T)) (FLen.pure fl_is_sequence) (hr.mono (by decide)) (by rfl) T.d_is_sequence.g T.d_is_sequence.F.kp T.d_is_sequence.b (ca_cons (ce_ix (ce_var 0) ce_int) ca_nil)))) (cw_or1 (ct_cmp or_gt (ce_callB cr_len (by rfl) T.n_len (by decide +kernel) (ca_cons (ce_ix (ce_var 0) ce_int) ca_nil)) (ce_gint (by rfl) T.c_MOST_OPERATIONS))))) (css_one cs_never) css_nil) (css_cons (cs_for PassesOwn.never rfl (ci_enum (by rfl) T.n_enumerate (ce_ix (ce_var 0) ce_int)) (cg_tup rfl (cg_cons sc_need_book.nd (cg_cons sc_need_book.nd cg_nil))) (css_one (cs_if (ct_not (ct_val (ce_call (FnOk.pureF (ok_is_operation T)) (FLen.pure fl_is_operation) (hr.mono (by decide)) (by rfl) T.d_is_operation.g T.d_is_operation.F.kp T.d_is_operation.b (ca_cons (ce_ix (ce_var 0) ce_int) (ca_cons (ce_var 2) ca_nil))))) (css_one cs_never) css_nil))) (css_one (cs_ret (ce_tup (ca_cons (ce_ix (ce_var 0) ce_int) (ca_cons (ce_callTy cr_tuple (by rfl) T.n_tuple (by decide +kernel) (ca_cons (ce_lc (own := [("operation", 2)]) rfl sc_need_book.nd (ci_any (ce_ix (ce_var 0) ce_int)) (blkOk_by (own := [("operation", 2)]) (by kernel_rfl)) (fun _ _ _ _ _ => pg_name (i := 2) sc_need_book.nd rfl (by first | exact Or.inl rfl | exact Or.inr rfl)) (fun _ _ _ _ _ => cts_nil) (fun _ _ _ _ _ => (ce_call (FnOk.pureF (ok_in_tuples T)) (FLen.pure fl_in_tuples) (hr.mono (by decide)) (by rfl) T.d_in_tuples.g T.d_in_tuples.F.kp T.d_in_tuples.b (ca_cons (ce_var 2) ca_nil)))) ca_nil)) ca_nil))))))))
/-! look_of -/
theorem sc_look_of : FnScope ["book", "number", "operation", "two", "places", "answers"] ["book", "number"] (defScope s_look_of) := ⟨rfl, rfl, rfl, by decide +kernel, rfl, by decide +kernel, by decide +kernel⟩
def f_look_of : FF := fnD 2 6 (sSeq (sSet 2 (e2 gIx (e2 gIx (eVar 0) (eC (.int 1))) (eVar 1))) (sSeq (sSet 3 (eN (pureF f_two_places) (aCons (e2 gIx (eVar 0) (eC (.int 0))) (aCons (eVar 2) (aNil))))) (sSeq (sIf (bV (e2 gNotN (eVar 3) (eC .non))) (sRet (e2 gAdd (eN dTup (aCons (eC (.str ⟨#[116, 119, 111]⟩)) (aNil))) (eVar 3))) (sNil)) (sSeq (sTup [4, 5] (eN (pureF f_least_table) (aCons (e2 gIx (eVar 0) (eC (.int 0))) (aCons (eVar 2) (aNil))))) (sRet (eIf (bV (e2 gEq (eN (g1 gLen) (aCons (eVar 4) (aNil))) (eC (.int 1)))) (eN dTup (aCons (eC (.str ⟨#[111, 110, 101]⟩)) (aCons (e2 gIx (eVar 4) (eC (.int 0))) (aCons (eVar 5) (aNil))))) (eN dTup (aCons (eC (.str ⟨#[99, 111, 110, 115, 116, 97, 110, 116]⟩)) (aCons (e2 gIx (eVar 5) (eC (.int 0))) (aNil))))))))))
theorem fl_look_of : FLen f_look_of 2 := FLen.fn
theorem ok_look_of (T : Txt K mg w) : FnOk P w K mg base CX0 8 T.d_look_of.f T.d_look_of.fd ["book", "number"] (spF P w K 2 f_look_of) :=
  fn_ok T.d_look_of.F sc_look_of fun cdv A outer s H E hr => (css_cons (cs_set sc_look_of.nd (ce_ix (ce_ix (ce_var 0) ce_int) (ce_var 1))) (css_cons (cs_set sc_look_of.nd (ce_call (FnOk.pureF (ok_two_places T)) (FLen.pure fl_two_places) (hr.mono (by decide)) (by rfl) T.d_two_places.g T.d_two_places.F.kp T.d_two_places.b (ca_cons (ce_ix (ce_var 0) ce_int) (ca_cons (ce_var 2) ca_nil)))) (css_cons (cs_if (ct_cmp or_notN (ce_var 3) ce_non) (css_one (cs_ret (ce_op or_add (ce_tup (ca_cons (ce_str ⟨#[116, 119, 111]⟩ (by decide +kernel)) ca_nil)) (ce_var 3)))) css_nil) (css_cons (cs_tup rfl (cg_cons sc_look_of.nd (cg_cons sc_look_of.nd cg_nil)) (ce_call (FnOk.pureF (ok_least_table T)) (FLen.pure fl_least_table) (hr.mono (by decide)) (by rfl) T.d_least_table.g T.d_least_table.F.kp T.d_least_table.b (ca_cons (ce_ix (ce_var 0) ce_int) (ca_cons (ce_var 2) ca_nil)))) (css_one (cs_ret (ce_if (ct_cmp (or_eq hr.units) (ce_callB cr_len (by rfl) T.n_len (by decide +kernel) (ca_cons (ce_var 4) ca_nil)) ce_int) (ce_tup (ca_cons (ce_str ⟨#[111, 110, 101]⟩ (by decide +kernel)) (ca_cons (ce_ix (ce_var 4) ce_int) (ca_cons (ce_var 5) ca_nil)))) (ce_tup (ca_cons (ce_str ⟨#[99, 111, 110, 115, 116, 97, 110, 116]⟩ (by decide +kernel)) (ca_cons (ce_ix (ce_var 5) ce_int) ca_nil))))))))))
/-! seen_program -/
theorem sc_seen_program : FnScope ["size", "inner", "rows"] ["size"] (defScope s_seen_program) := ⟨rfl, rfl, rfl, by decide +kernel, rfl, by decide +kernel, by decide +kernel⟩
def f_seen_program : FF := fnD 1 3 (sSeq (sExpr (eN (pureF f_need_size) (aCons (eVar 0) (aNil)))) (sSeq (sSet 1 (eN dTup (aCons (eC (.str ⟨#[102, 111, 114, 107]⟩)) (aCons (eN dTup (aCons (eC (.int 0)) (aCons (eC (.int 0)) (aNil)))) (aCons (eN dTup (aNil)) (aCons (eN dTup (aNil)) (aCons (eN dTup (aCons (eN dTup (aCons (eC (.int 1)) (aCons (eC (.int 2)) (aNil)))) (aNil))) (aNil)))))))) (sSeq (sSet 2 (eN dTup (aCons (eN dTup (aCons (eC (.str ⟨#[116, 111, 108, 100]⟩)) (aCons (eC (.int 0)) (aNil)))) (aCons (eN dTup (aCons (eC (.str ⟨#[116, 111, 108, 100]⟩)) (aCons (eC (.int 1)) (aNil)))) (aCons (eN dTup (aCons (eC (.str ⟨#[102, 111, 114, 107]⟩)) (aCons (eN dTup (aCons (eC (.int 0)) (aCons (eC (.int 0)) (aNil)))) (aCons (eN dTup (aCons (eVar 1) (aNil))) (aCons (eN dTup (aNil)) (aCons (eN dTup (aNil)) (aNil))))))) (aNil)))))) (sRet (eN dTup (aCons (eN dTup (aCons (eN dTup (aCons (eN dTup (aCons (eC (.int 0)) (aCons (eC (.int 1)) (aNil)))) (aNil))) (aCons (eVar 2) (aCons (eN dTup (aCons (eC (.int 0)) (aNil))) (aNil))))) (aCons (eC (.int 3)) (aCons (eC (.int 1)) (aNil)))))))))
theorem fl_seen_program : FLen f_seen_program 1 := FLen.fn
theorem ok_seen_program (T : Txt K mg w) : FnOk P w K mg base CX0 3 T.d_seen_program.f T.d_seen_program.fd ["size"] (spF P w K 1 f_seen_program) :=
  fn_ok T.d_seen_program.F sc_seen_program fun cdv A outer s H E hr => (css_cons (cs_expr (ce_call (FnOk.pureF (ok_need_size T)) (FLen.pure fl_need_size) (hr.mono (by decide)) (by rfl) T.d_need_size.g T.d_need_size.F.kp T.d_need_size.b (ca_cons (ce_var 0) ca_nil))) (css_cons (cs_set sc_seen_program.nd (ce_tup (ca_cons (ce_str ⟨#[102, 111, 114, 107]⟩ (by decide +kernel)) (ca_cons (ce_tup (ca_cons ce_int (ca_cons ce_int ca_nil))) (ca_cons (ce_tup ca_nil) (ca_cons (ce_tup ca_nil) (ca_cons (ce_tup (ca_cons (ce_tup (ca_cons ce_int (ca_cons ce_int ca_nil))) ca_nil)) ca_nil))))))) (css_cons (cs_set sc_seen_program.nd (ce_tup (ca_cons (ce_tup (ca_cons (ce_str ⟨#[116, 111, 108, 100]⟩ (by decide +kernel)) (ca_cons ce_int ca_nil))) (ca_cons (ce_tup (ca_cons (ce_str ⟨#[116, 111, 108, 100]⟩ (by decide +kernel)) (ca_cons ce_int ca_nil))) (ca_cons (ce_tup (ca_cons (ce_str ⟨#[102, 111, 114, 107]⟩ (by decide +kernel)) (ca_cons (ce_tup (ca_cons ce_int (ca_cons ce_int ca_nil))) (ca_cons (ce_tup (ca_cons (ce_var 1) ca_nil)) (ca_cons (ce_tup ca_nil) (ca_cons (ce_tup ca_nil) ca_nil)))))) ca_nil))))) (css_one (cs_ret (ce_tup (ca_cons (ce_tup (ca_cons (ce_tup (ca_cons (ce_tup (ca_cons ce_int (ca_cons ce_int ca_nil))) ca_nil)) (ca_cons (ce_var 2) (ca_cons (ce_tup (ca_cons ce_int ca_nil)) ca_nil)))) (ca_cons ce_int (ca_cons ce_int ca_nil)))))))))
/-! let_many -/
theorem sc_let_many : FnScope ["size", "places", "word", "maps", "one"] ["size", "places", "word"] (defScope s_let_many) := ⟨rfl, rfl, rfl, by decide +kernel, rfl, by decide +kernel, by decide +kernel⟩
def f_let_many : FF := fnD 3 5 (sSeq (sSet 0 (eN (pureF f_need_size) (aCons (eVar 0) (aNil)))) (sSeq (sIf (bOr (bNot (bV (eN (pureF f_is_integer) (aCons (eVar 1) (aNil))))) (bNot (bV (eCh gLe gLe (eC (.int 1)) (eVar 1) (eC (.int 3)))))) (sNever) (sNil)) (sSeq (sSet 2 (eN (pureF f_need_sense) (aCons (eVar 2) (aNil)))) (sSeq (sSet 3 (e2 gSub (eN (pureF f_power_of) (aCons (eVar 0) (aCons (eVar 0) (aNil)))) (eVar 0))) (sSeq (sIf (bV (e2 gEq (eVar 2) (eC (.str ⟨#[102, 105, 110, 100, 115]⟩)))) (sSeq (sSet 3 (eC (.int 1))) (sFor (iRg2 (eC (.int 2)) (e2 gAdd (eVar 0) (eC (.int 1)))) (.inl 4) (sAug 3 gMulI (eVar 4)))) (sNil)) (sRet (e2 gAdd (eVar 0) (e2 gMul (eVar 1) (eVar 3)))))))))
theorem fl_let_many : FLen f_let_many 3 := FLen.fn
theorem ok_let_many (T : Txt K mg w) : FnOk P w K mg base CX0 3 T.d_let_many.f T.d_let_many.fd ["size", "places", "word"] (spF P w K 3 f_let_many) :=
  fn_ok T.d_let_many.F sc_let_many fun cdv A outer s H E hr => (css_cons (cs_set sc_let_many.nd (ce_call (FnOk.pureF (ok_need_size T)) (FLen.pure fl_need_size) (hr.mono (by decide)) (by rfl) T.d_need_size.g T.d_need_size.F.kp T.d_need_size.b (ca_cons (ce_var 0) ca_nil))) (css_cons (cs_if (ct_w (cw_or (ct_not (ct_val (ce_call (FnOk.pureF (ok_is_integer T)) (FLen.pure fl_is_integer) (hr.mono (by decide)) (by rfl) T.d_is_integer.g T.d_is_integer.F.kp T.d_is_integer.b (ca_cons (ce_var 1) ca_nil)))) (cw_or1 (ct_not (ct_chain or_le or_le ce_int (ce_var 1) ce_int))))) (css_one cs_never) css_nil) (css_cons (cs_set sc_let_many.nd (ce_call (FnOk.pureF (ok_need_sense T)) (FLen.pure fl_need_sense) (hr.mono (by decide)) (by rfl) T.d_need_sense.g T.d_need_sense.F.kp T.d_need_sense.b (ca_cons (ce_var 2) ca_nil))) (css_cons (cs_set sc_let_many.nd (ce_op or_sub (ce_call (FnOk.pureF (ok_power_of T)) (FLen.pure fl_power_of) (hr.mono (by decide)) (by rfl) T.d_power_of.g T.d_power_of.F.kp T.d_power_of.b (ca_cons (ce_var 0) (ca_cons (ce_var 0) ca_nil))) (ce_var 0))) (css_cons (cs_if (ct_cmp (or_eq hr.units) (ce_var 2) (ce_str ⟨#[102, 105, 110, 100, 115]⟩ (by decide +kernel))) (css_cons (cs_set sc_let_many.nd ce_int) (css_one (cs_for PassesOwn.never rfl (ci_rg2 (by rfl) T.n_range ce_int (ce_op or_add (ce_var 0) ce_int)) (cg_name sc_let_many.nd) (css_one (cs_aug sc_let_many.nd oi_mul (ce_var 4)))))) css_nil) (css_one (cs_ret (ce_op or_add (ce_var 0) (ce_op or_mul (ce_var 1) (ce_var 3))))))))))
end
end K50
set_option Elab.async false
set_option linter.all false
set_option maxRecDepth 100000
set_option maxHeartbeats 4000000
namespace K50
open PySem PySem.Spec PyProof.Rows L2
section
variable {P : Program} {w : World} {K : PySem.W.Frag} {mg : Str → Option Value} {base : Heap}
/-! is_let -/
theorem sc_is_let : FnScope ["book", "number", "word", "look", "one"] ["book", "number", "word"] (defScope s_is_let) := ⟨rfl, rfl, rfl, by decide +kernel, rfl, by decide +kernel, by decide +kernel⟩
def f_is_let : FF := fnD 3 5 (sSeq (sSet 3 (eN (pureF f_look_of) (aCons (eVar 0) (aCons (eVar 1) (aNil))))) (sSeq (sIf (bV (e2 gEq (eVar 2) (eC (.str ⟨#[101, 120, 97, 99, 116]⟩)))) (sRet (e2 gNe (e2 gIx (eVar 3) (eC (.int 0))) (eC (.str ⟨#[116, 119, 111]⟩)))) (sNil)) (sRet (eOr (e2 gEq (e2 gIx (eVar 3) (eC (.int 0))) (eC (.str ⟨#[99, 111, 110, 115, 116, 97, 110, 116]⟩))) (eAnd (e2 gEq (e2 gIx (eVar 3) (eC (.int 0))) (eC (.str ⟨#[111, 110, 101]⟩))) (e2 gEq (e1 gLenSet (e2 gIx (eVar 3) (eC (.int 2)))) (e2 gIx (eVar 0) (eC (.int 0)))))))))
theorem fl_is_let : FLen f_is_let 3 := FLen.fn
theorem ok_is_let (T : Txt K mg w) : FnOk P w K mg base CX0 9 T.d_is_let.f T.d_is_let.fd ["book", "number", "word"] (spF P w K 3 f_is_let) :=
  fn_ok T.d_is_let.F sc_is_let fun cdv A outer s H E hr => (css_cons (cs_set sc_is_let.nd (ce_call (FnOk.pureF (ok_look_of T)) (FLen.pure fl_look_of) (hr.mono (by decide)) (by rfl) T.d_look_of.g T.d_look_of.F.kp T.d_look_of.b (ca_cons (ce_var 0) (ca_cons (ce_var 1) ca_nil)))) (css_cons (cs_if (ct_cmp (or_eq hr.units) (ce_var 2) (ce_str ⟨#[101, 120, 97, 99, 116]⟩ (by decide +kernel))) (css_one (cs_ret (ce_cmp (or_ne hr.units) (ce_ix (ce_var 3) ce_int) (ce_str ⟨#[116, 119, 111]⟩ (by decide +kernel))))) css_nil) (css_one (cs_ret (ce_or (ce_cmp (or_eq hr.units) (ce_ix (ce_var 3) ce_int) (ce_str ⟨#[99, 111, 110, 115, 116, 97, 110, 116]⟩ (by decide +kernel))) (ce_one (ce_and (ce_cmp (or_eq hr.units) (ce_ix (ce_var 3) ce_int) (ce_str ⟨#[111, 110, 101]⟩ (by decide +kernel))) (ce_one (ce_cmp (or_eq hr.units) (ce_lenDictG (own := [("one", 4)]) rfl sc_is_let.nd (by rfl) T.n_len (ce_ix (ce_var 3) ce_int) (blkOk_by (own := [("one", 4)]) (by kernel_rfl)) (fun _ _ _ _ _ => pg_name (i := 4) sc_is_let.nd rfl (by first | exact Or.inl rfl | exact Or.inr rfl)) (fun _ _ _ _ _ => pe_var (i := 4) rfl (by first | exact Or.inl rfl | exact Or.inr (Or.inl rfl) | exact Or.inr (Or.inr rfl)))) (ce_ix (ce_var 0) ce_int))))))))))
/-! let_part -/
theorem sc_let_part : FnScope ["book", "word", "number"] ["book", "word"] (defScope s_let_part) := ⟨rfl, rfl, rfl, by decide +kernel, rfl, by decide +kernel, by decide +kernel⟩
def f_let_part : FF := fnD 2 3 (sSeq (sTup [0, 1] (eN dTup (aCons (eN (pureF f_need_book) (aCons (eVar 0) (aNil))) (aCons (eN (pureF f_need_sense) (aCons (eVar 1) (aNil))) (aNil))))) (sRet (eN (g1 gTupOf) (aCons (eLc (iRg1 (eN (g1 gLen) (aCons (e2 gIx (eVar 0) (eC (.int 1))) (aNil)))) 2 (bV (eN (pureF f_is_let) (aCons (eVar 0) (aCons (eVar 2) (aCons (eVar 1) (aNil)))))) (eVar 2) [2]) (aNil)))))
theorem fl_let_part : FLen f_let_part 2 := FLen.fn
theorem ok_let_part (T : Txt K mg w) : FnOk P w K mg base CX0 10 T.d_let_part.f T.d_let_part.fd ["book", "word"] (spF P w K 2 f_let_part) :=
  fn_ok T.d_let_part.F sc_let_part fun cdv A outer s H E hr => (css_cons (cs_tup rfl (cg_cons sc_let_part.nd (cg_cons sc_let_part.nd cg_nil)) (ce_tup (ca_cons (ce_call (FnOk.pureF (ok_need_book T)) (FLen.pure fl_need_book) (hr.mono (by decide)) (by rfl) T.d_need_book.g T.d_need_book.F.kp T.d_need_book.b (ca_cons (ce_var 0) ca_nil)) (ca_cons (ce_call (FnOk.pureF (ok_need_sense T)) (FLen.pure fl_need_sense) (hr.mono (by decide)) (by rfl) T.d_need_sense.g T.d_need_sense.F.kp T.d_need_sense.b (ca_cons (ce_var 1) ca_nil)) ca_nil)))) (css_one (cs_ret (ce_callTy cr_tuple (by rfl) T.n_tuple (by decide +kernel) (ca_cons (ce_lc (own := [("number", 2)]) rfl sc_let_part.nd (ci_rg1 (by rfl) T.n_range (ce_callB cr_len (by rfl) T.n_len (by decide +kernel) (ca_cons (ce_ix (ce_var 0) ce_int) ca_nil))) (blkOk_by (own := [("number", 2)]) (by kernel_rfl)) (fun _ _ _ _ _ => pg_name (i := 2) sc_let_part.nd rfl (by first | exact Or.inl rfl | exact Or.inr rfl)) (fun _ _ _ _ _ => cts_one (ct_val (ce_call (FnOk.pureF (ok_is_let T)) (FLen.pure fl_is_let) (hr.mono (by decide)) (by rfl) T.d_is_let.g T.d_is_let.F.kp T.d_is_let.b (ca_cons (ce_var 0) (ca_cons (ce_var 2) (ca_cons (ce_var 1) ca_nil)))))) (fun _ _ _ _ _ => (ce_var 2))) ca_nil)))))
/-! fork_behind -/
theorem sc_fork_behind : FnScope ["book", "row", "seen", "number", "first", "second", "later"] ["book", "row", "seen", "number"] (defScope s_fork_behind) := ⟨rfl, rfl, rfl, by decide +kernel, rfl, by decide +kernel, by decide +kernel⟩
def f_fork_behind (R : FF) : FF := fnD 4 7 (sSeq (sIf (bNot (bV (eN f_test_holds (aCons (eVar 0) (aCons (e2 gIx (eVar 1) (eC (.int 1))) (aCons (eVar 2) (aNil))))))) (sRet (eC .non)) (sNil)) (sSeq (sSet 4 (eN R (aCons (eVar 0) (aCons (e2 gIx (eVar 1) (eC (.int 2))) (aCons (eVar 2) (aCons (eVar 3) (aNil))))))) (sSeq (sSet 5 (eIf (bV (e2 gIsN (eVar 4) (eC .non))) (eC .non) (eN R (aCons (eVar 0) (aCons (e2 gIx (eVar 1) (eC (.int 3))) (aCons (eVar 2) (aCons (e2 gIx (eVar 4) (eC (.int 1))) (aNil)))))))) (sSeq (sIf (bOr (bV (e2 gIsN (eVar 5) (eC .non))) (bNot (bV (eN f_are_pairs (aCons (e2 gIx (eVar 1) (eC (.int 4))) (aCons (e2 gIx (eVar 4) (eC (.int 0))) (aCons (e2 gIx (eVar 5) (eC (.int 0))) (aNil)))))))) (sRet (eC .non)) (sNil)) (sSeq (sSet 6 (e2 gAdd (e2 gIx (eVar 5) (eC (.int 1))) (eN (g1 gLen) (aCons (e2 gIx (eVar 1) (eC (.int 4))) (aNil))))) (sRet (eN dTup (aCons (e2 gAdd (eVar 2) (e2 gRgL (e2 gIx (eVar 5) (eC (.int 1))) (eVar 6))) (aCons (eVar 6) (aNil))))))))))
theorem fl_fork_behind (R : FF) : FLen (f_fork_behind R) 4 := FLen.fn
theorem ok_fork_behind (T : Txt K mg w) {R : FF} {j : Nat} (hj : 4 ≤ j := by assumption) (hl : FLen R 4 := by assumption) (hR : FnOk P w K mg base CX0 j T.d_rows_behind.f T.d_rows_behind.fd ["book", "rows", "seen", "number"] (spF P w K 4 R)) : FnOk P w K mg base CX0 (j + 1) T.d_fork_behind.f T.d_fork_behind.fd ["book", "row", "seen", "number"] (spF P w K 4 (f_fork_behind R)) :=
  fn_ok T.d_fork_behind.F sc_fork_behind fun cdv A outer s H E hr => (css_cons (cs_if (ct_not (ct_val (ce_call (ok_test_holds T) fl_test_holds (hr.mono (by omega)) (by rfl) T.d_test_holds.g T.d_test_holds.F.kp T.d_test_holds.b (ca_cons (ce_var 0) (ca_cons (ce_ix (ce_var 1) ce_int) (ca_cons (ce_var 2) ca_nil)))))) (css_one (cs_ret ce_non)) css_nil) (css_cons (cs_set sc_fork_behind.nd (ce_call hR hl (hr.mono (by omega)) (by rfl) T.d_rows_behind.g T.d_rows_behind.F.kp T.d_rows_behind.b (ca_cons (ce_var 0) (ca_cons (ce_ix (ce_var 1) ce_int) (ca_cons (ce_var 2) (ca_cons (ce_var 3) ca_nil)))))) (css_cons (cs_set sc_fork_behind.nd (ce_if (ct_cmp or_isN (ce_var 4) ce_non) ce_non (ce_call hR hl (hr.mono (by omega)) (by rfl) T.d_rows_behind.g T.d_rows_behind.F.kp T.d_rows_behind.b (ca_cons (ce_var 0) (ca_cons (ce_ix (ce_var 1) ce_int) (ca_cons (ce_var 2) (ca_cons (ce_ix (ce_var 4) ce_int) ca_nil))))))) (css_cons (cs_if (ct_w (cw_or (ct_cmp or_isN (ce_var 5) ce_non) (cw_or1 (ct_not (ct_val (ce_call (ok_are_pairs T) fl_are_pairs (hr.mono (by omega)) (by rfl) T.d_are_pairs.g T.d_are_pairs.F.kp T.d_are_pairs.b (ca_cons (ce_ix (ce_var 1) ce_int) (ca_cons (ce_ix (ce_var 4) ce_int) (ca_cons (ce_ix (ce_var 5) ce_int) ca_nil))))))))) (css_one (cs_ret ce_non)) css_nil) (css_cons (cs_set sc_fork_behind.nd (ce_op or_add (ce_ix (ce_var 5) ce_int) (ce_callB cr_len (by rfl) T.n_len (by decide +kernel) (ca_cons (ce_ix (ce_var 1) ce_int) ca_nil)))) (css_one (cs_ret (ce_tup (ca_cons (ce_op or_add (ce_var 2) (ce_listRg2 rfl (by rfl) T.n_list (by rfl) T.n_range (ce_ix (ce_var 5) ce_int) (ce_var 6))) (ca_cons (ce_var 6) ca_nil))))))))))
/-! row_behind -/
theorem sc_row_behind : FnScope ["book", "row", "seen", "number", "fits"] ["book", "row", "seen", "number"] (defScope s_row_behind) := ⟨rfl, rfl, rfl, by decide +kernel, rfl, by decide +kernel, by decide +kernel⟩
def f_row_behind (R : FF) : FF := fnD 4 5 (sSeq (sIf (bOr (bNot (bV (eIsi .tup (eVar 1)))) (bOr (bV (e2 gEq (eN (g1 gLen) (aCons (eVar 1) (aNil))) (eC (.int 0)))) (bOr (bNot (bV (eN (pureF f_is_string) (aCons (e2 gIx (eVar 1) (eC (.int 0))) (aNil))))) (bV (e2 gNe (eN (g1 gLen) (aCons (eVar 1) (aNil))) (e1 gRow (e2 gIx (eVar 1) (eC (.int 0))))))))) (sRet (eC .non)) (sNil)) (sSeq (sIf (bV (e2 gEq (e2 gIx (eVar 1) (eC (.int 0))) (eC (.str ⟨#[102, 111, 114, 107]⟩)))) (sRet (eN (f_fork_behind R) (aCons (eVar 0) (aCons (eVar 1) (aCons (eVar 2) (aCons (eVar 3) (aNil))))))) (sNil)) (sSeq (sIf (bV (e2 gEq (e2 gIx (eVar 1) (eC (.int 0))) (eC (.str ⟨#[108, 111, 111, 112]⟩)))) (sRet (eNever)) (sNil)) (sSeq (sSet 4 (eIf (bV (e2 gEq (e2 gIx (eVar 1) (eC (.int 0))) (eC (.str ⟨#[111, 102]⟩)))) (eNever) (eN (pureF f_is_below) (aCons (e2 gIx (eVar 1) (eC (.int 1))) (aCons (e2 gIx (eVar 0) (eC (.int 0))) (aNil)))))) (sRet (eIf (bV (eVar 4)) (eN dTup (aCons (e2 gAdd (eVar 2) (eN dLst (aCons (eVar 3) (aNil)))) (aCons (e2 gAdd (eVar 3) (eC (.int 1))) (aNil)))) (eC .non)))))))
theorem fl_row_behind (R : FF) : FLen (f_row_behind R) 4 := FLen.fn
theorem ok_row_behind (T : Txt K mg w) {R : FF} {j : Nat} (hj : 4 ≤ j := by assumption) (hl : FLen R 4 := by assumption) (hR : FnOk P w K mg base CX0 j T.d_rows_behind.f T.d_rows_behind.fd ["book", "rows", "seen", "number"] (spF P w K 4 R)) : FnOk P w K mg base CX0 (j + 1 + 1) T.d_row_behind.f T.d_row_behind.fd ["book", "row", "seen", "number"] (spF P w K 4 (f_row_behind R)) :=
  fn_ok T.d_row_behind.F sc_row_behind fun cdv A outer s H E hr => (css_cons (cs_if (ct_w (cw_or (ct_not (ct_val (ce_isi .tup (by decide) (by rfl) T.n_isinstance (ce_var 1) (by rfl) T.n_tuple (by decide +kernel)))) (cw_or (ct_cmp (or_eq hr.units) (ce_callB cr_len (by rfl) T.n_len (by decide +kernel) (ca_cons (ce_var 1) ca_nil)) ce_int) (cw_or (ct_not (ct_val (ce_call (FnOk.pureF (ok_is_string T)) (FLen.pure fl_is_string) (hr.mono (by omega)) (by rfl) T.d_is_string.g T.d_is_string.F.kp T.d_is_string.b (ca_cons (ce_ix (ce_var 1) ce_int) ca_nil)))) (cw_or1 (ct_cmp (or_ne hr.units) (ce_callB cr_len (by rfl) T.n_len (by decide +kernel) (ca_cons (ce_var 1) ca_nil)) (ce_rowG T.row (by rfl) (ce_ix (ce_var 1) ce_int)))))))) (css_one (cs_ret ce_non)) css_nil) (css_cons (cs_if (ct_cmp (or_eq hr.units) (ce_ix (ce_var 1) ce_int) (ce_str ⟨#[102, 111, 114, 107]⟩ (by decide +kernel))) (css_one (cs_ret (ce_call (ok_fork_behind T (hR := hR)) (fl_fork_behind R) (hr.mono (by omega)) (by rfl) T.d_fork_behind.g T.d_fork_behind.F.kp T.d_fork_behind.b (ca_cons (ce_var 0) (ca_cons (ce_var 1) (ca_cons (ce_var 2) (ca_cons (ce_var 3) ca_nil))))))) css_nil) (css_cons (cs_if (ct_cmp (or_eq hr.units) (ce_ix (ce_var 1) ce_int) (ce_str ⟨#[108, 111, 111, 112]⟩ (by decide +kernel))) (css_one (cs_ret ce_never)) css_nil) (css_cons (cs_set sc_row_behind.nd (ce_if (ct_cmp (or_eq hr.units) (ce_ix (ce_var 1) ce_int) (ce_str ⟨#[111, 102]⟩ (by decide +kernel))) ce_never (ce_call (FnOk.pureF (ok_is_below T)) (FLen.pure fl_is_below) (hr.mono (by omega)) (by rfl) T.d_is_below.g T.d_is_below.F.kp T.d_is_below.b (ca_cons (ce_ix (ce_var 1) ce_int) (ca_cons (ce_ix (ce_var 0) ce_int) ca_nil))))) (css_one (cs_ret (ce_if (ct_val (ce_var 4)) (ce_tup (ca_cons (ce_op or_add (ce_var 2) (ce_lst (ca_cons (ce_var 3) ca_nil))) (ca_cons (ce_op or_add (ce_var 3) ce_int) ca_nil))) ce_non)))))))
/-! rows_behind -/
theorem sc_rows_behind : FnScope ["book", "rows", "seen", "number", "behind", "row"] ["book", "rows", "seen", "number"] (defScope s_rows_behind) := ⟨rfl, rfl, rfl, by decide +kernel, rfl, by decide +kernel, by decide +kernel⟩
def g_rows_behind (R : FF) : FF := fnD 4 6 (sSeq (sIf (bNot (bV (eIsi .tup (eVar 1)))) (sRet (eC .non)) (sNil)) (sSeq (sSet 4 (eN dTup (aCons (eVar 2) (aCons (eVar 3) (aNil))))) (sSeq (sFor (iAny (eVar 1)) (.inl 5) (sSet 4 (eIf (bV (e2 gIsN (eVar 4) (eC .non))) (eC .non) (eN (f_row_behind R) (aCons (eVar 0) (aCons (eVar 5) (aCons (e2 gIx (eVar 4) (eC (.int 0))) (aCons (e2 gIx (eVar 4) (eC (.int 1))) (aNil))))))))) (sRet (eVar 4)))))
theorem flg_rows_behind (R : FF) : FLen (g_rows_behind R) 4 := FLen.fn
theorem okg_rows_behind (T : Txt K mg w) {R : FF} {j : Nat} (hj : 4 ≤ j := by assumption) (hl : FLen R 4 := by assumption) (hR : FnOk P w K mg base CX0 j T.d_rows_behind.f T.d_rows_behind.fd ["book", "rows", "seen", "number"] (spF P w K 4 R)) : FnOk P w K mg base CX0 (j + 2 + 1) T.d_rows_behind.f T.d_rows_behind.fd ["book", "rows", "seen", "number"] (spF P w K 4 (g_rows_behind R)) :=
  fn_ok T.d_rows_behind.F sc_rows_behind fun cdv A outer s H E hr => (css_cons (cs_if (ct_not (ct_val (ce_isi .tup (by decide) (by rfl) T.n_isinstance (ce_var 1) (by rfl) T.n_tuple (by decide +kernel)))) (css_one (cs_ret ce_non)) css_nil) (css_cons (cs_set sc_rows_behind.nd (ce_tup (ca_cons (ce_var 2) (ca_cons (ce_var 3) ca_nil)))) (css_cons (cs_for PassesOwn.never rfl (ci_any (ce_var 1)) (cg_name sc_rows_behind.nd) (css_one (cs_set sc_rows_behind.nd (ce_if (ct_cmp or_isN (ce_var 4) ce_non) ce_non (ce_call (ok_row_behind T (hR := hR)) (fl_row_behind R) (hr.mono (by omega)) (by rfl) T.d_row_behind.g T.d_row_behind.F.kp T.d_row_behind.b (ca_cons (ce_var 0) (ca_cons (ce_var 5) (ca_cons (ce_ix (ce_var 4) ce_int) (ca_cons (ce_ix (ce_var 4) ce_int) ca_nil))))))))) (css_one (cs_ret (ce_var 4))))))
def f_rows_behind : Nat → FF
  | 0 => fun _ _ => none
  | n + 1 => g_rows_behind (f_rows_behind n)
theorem fl_rows_behind : ∀ n, FLen (f_rows_behind n) 4
  | 0 => FLen.none 4
  | n + 1 => flg_rows_behind _
theorem okn_rows_behind (T : Txt K mg w) : ∀ n, FnOk P w K mg base CX0 (4 + n * 3) T.d_rows_behind.f T.d_rows_behind.fd ["book", "rows", "seen", "number"] (spF P w K 4 (f_rows_behind n))
  | 0 => fn_none rfl
  | n + 1 => by
    have h := okg_rows_behind T (j := 4 + n * 3) (hj := by omega) (hl := fl_rows_behind n) (okn_rows_behind T n)
    exact h.mono (by omega)
theorem ok_rows_behind (T : Txt K mg w) : ∀ n, FnOk P w K mg base CX0 (4 + n * 3) T.d_rows_behind.f T.d_rows_behind.fd ["book", "rows", "seen", "number"] (spF P w K 4 (f_rows_behind n)) := okn_rows_behind T
/-! need_program -/
theorem sc_need_program : FnScope ["book", "value", "inputs", "rows", "ends", "one", "behind"] ["book", "value"] (defScope s_need_program) := ⟨rfl, rfl, rfl, by decide +kernel, rfl, by decide +kernel, by decide +kernel⟩
def f_need_program : FF := fnD 2 7 (sSeq (sSet 0 (eN (pureF f_need_book) (aCons (eVar 0) (aNil)))) (sSeq (sIf (bOr (bNot (bV (eIsi .tup (eVar 1)))) (bV (e2 gNe (eN (g1 gLen) (aCons (eVar 1) (aNil))) (eC (.int 3))))) (sNever) (sNil)) (sSeq (sTup [2, 3, 4] (eVar 1)) (sSeq (sIf (bOr (bNot (bV (eIsi .tup (eVar 2)))) (bNot (bV (eN (g1 gAll) (aCons (eLc (iAny (eVar 2)) 5 (bYes) (eN (pureF f_is_list) (aCons (e2 gIx (eVar 0) (eC (.int 0))) (aCons (eVar 5) (aNil)))) [5]) (aNil)))))) (sNever) (sNil)) (sSeq (sSet 6 (eN (f_rows_behind 4) (aCons (eVar 0) (aCons (eVar 3) (aCons (e1 gRgL1 (eN (g1 gLen) (aCons (eVar 2) (aNil)))) (aCons (eN (g1 gLen) (aCons (eVar 2) (aNil))) (aNil))))))) (sSeq (sIf (bV (e2 gIsN (eVar 6) (eC .non))) (sNever) (sNil)) (sSeq (sIf (bNot (bV (eN f_are_seen (aCons (eVar 4) (aCons (e2 gIx (eVar 6) (eC (.int 0))) (aNil)))))) (sNever) (sNil)) (sRet (eVar 1)))))))))
theorem fl_need_program : FLen f_need_program 2 := FLen.fn
theorem ok_need_program (T : Txt K mg w) : FnOk P w K mg base CX0 17 T.d_need_program.f T.d_need_program.fd ["book", "value"] (spF P w K 2 f_need_program) :=
  fn_ok T.d_need_program.F sc_need_program fun cdv A outer s H E hr => (css_cons (cs_set sc_need_program.nd (ce_call (FnOk.pureF (ok_need_book T)) (FLen.pure fl_need_book) (hr.mono (by decide)) (by rfl) T.d_need_book.g T.d_need_book.F.kp T.d_need_book.b (ca_cons (ce_var 0) ca_nil))) (css_cons (cs_if (ct_w (cw_or (ct_not (ct_val (ce_isi .tup (by decide) (by rfl) T.n_isinstance (ce_var 1) (by rfl) T.n_tuple (by decide +kernel)))) (cw_or1 (ct_cmp (or_ne hr.units) (ce_callB cr_len (by rfl) T.n_len (by decide +kernel) (ca_cons (ce_var 1) ca_nil)) ce_int)))) (css_one cs_never) css_nil) (css_cons (cs_tup rfl (cg_cons sc_need_program.nd (cg_cons sc_need_program.nd (cg_cons sc_need_program.nd cg_nil))) (ce_var 1)) (css_cons (cs_if (ct_w (cw_or (ct_not (ct_val (ce_isi .tup (by decide) (by rfl) T.n_isinstance (ce_var 2) (by rfl) T.n_tuple (by decide +kernel)))) (cw_or1 (ct_not (ct_val (ce_callB (cr_all rfl) (by rfl) T.n_all (by decide +kernel) (ca_cons (ce_lc (own := [("one", 5)]) rfl sc_need_program.nd (ci_any (ce_var 2)) (blkOk_by (own := [("one", 5)]) (by kernel_rfl)) (fun _ _ _ _ _ => pg_name (i := 5) sc_need_program.nd rfl (by first | exact Or.inl rfl | exact Or.inr rfl)) (fun _ _ _ _ _ => cts_nil) (fun _ _ _ _ _ => (ce_call (FnOk.pureF (ok_is_list T)) (FLen.pure fl_is_list) (hr.mono (by decide)) (by rfl) T.d_is_list.g T.d_is_list.F.kp T.d_is_list.b (ca_cons (ce_ix (ce_var 0) ce_int) (ca_cons (ce_var 5) ca_nil))))) ca_nil))))))) (css_one cs_never) css_nil) (css_cons (cs_set sc_need_program.nd (ce_call (ok_rows_behind T 4) (fl_rows_behind 4) (hr.mono (by decide)) (by rfl) T.d_rows_behind.g T.d_rows_behind.F.kp T.d_rows_behind.b (ca_cons (ce_var 0) (ca_cons (ce_var 3) (ca_cons (ce_listRg1 rfl (by rfl) T.n_list (by rfl) T.n_range (ce_callB cr_len (by rfl) T.n_len (by decide +kernel) (ca_cons (ce_var 2) ca_nil))) (ca_cons (ce_callB cr_len (by rfl) T.n_len (by decide +kernel) (ca_cons (ce_var 2) ca_nil)) ca_nil)))))) (css_cons (cs_if (ct_cmp or_isN (ce_var 6) ce_non) (css_one cs_never) css_nil) (css_cons (cs_if (ct_not (ct_val (ce_call (ok_are_seen T) fl_are_seen (hr.mono (by decide)) (by rfl) T.d_are_seen.g T.d_are_seen.F.kp T.d_are_seen.b (ca_cons (ce_var 4) (ca_cons (ce_ix (ce_var 6) ce_int) ca_nil))))) (css_one cs_never) css_nil) (css_one (cs_ret (ce_var 1))))))))))
end
end K50
set_option Elab.async false
set_option linter.all false
set_option maxRecDepth 100000
set_option maxHeartbeats 4000000
namespace K50
open PySem PySem.Spec PyProof.Rows L2
section
variable {P : Program} {w : World} {K : PySem.W.Frag} {mg : Str → Option Value} {base : Heap}
/-! law_given -/
theorem sc_law_given : FnScope ["_law_book", "_law_source", "_law_kept_here", "_law_k", "_law_found", "_law_spots", "_law_cell", "_law_longer", "_law_spot", "_law_value"] ["_law_book", "_law_source", "_law_kept_here", "_law_k"] (defScope s_law_given) := ⟨rfl, rfl, rfl, by decide +kernel, rfl, by decide +kernel, by decide +kernel⟩
def f_law_given : FF := fnD 4 10 (sSeq (sIf (bV (e2 gEq (e2 gIx (eVar 1) (eC (.int 0))) (eC (.str ⟨#[108, 105, 115, 116]⟩)))) (sSet 4 (eN (g1 gLstOf) (aCons (e2 gIx (eVar 1) (eC (.int 1))) (aNil)))) (sIf (bV (e2 gEq (e2 gIx (eVar 1) (eC (.int 0))) (eC (.str ⟨#[116, 111, 108, 100]⟩)))) (sSet 4 (eN dLst (aCons (e2 gIx (eVar 1) (eC (.int 1))) (aNil)))) (sIf (bV (e2 gEq (e2 gIx (eVar 1) (eC (.int 0))) (eC (.str ⟨#[101, 105, 116, 104, 101, 114]⟩)))) (sSet 4 (e2 gAdd (e2 gIx (eVar 2) (e2 gIx (eVar 1) (eC (.int 1)))) (e2 gIx (eVar 2) (e2 gIx (eVar 1) (eC (.int 2)))))) (sSeq (sSet 5 (eN dLst (aCons (eC (.int 0)) (aNil)))) (sSeq (sFor (iAny (e2 gIx (eVar 1) (eC (.int 2)))) (.inl 6) (sSeq (sSet 7 (eN dLst (aNil))) (sSeq (sFor (iAny (eVar 5)) (.inl 8) (sExpr (eML gExtend (eVar 7) (aCons (eLc (iAny (e2 gIx (eVar 2) (eVar 6))) 9 (bYes) (e2 gAdd (e2 gMul (eVar 8) (e2 gIx (eVar 0) (eC (.int 0)))) (eVar 9)) [9]) (aNil))))) (sSet 5 (eVar 7))))) (sSet 4 (eLc (iAny (eVar 5)) 8 (bYes) (e2 gIx (e2 gIx (e2 gIx (e2 gIx (eVar 0) (eC (.int 1))) (e2 gIx (eVar 1) (eC (.int 1)))) (eC (.int 1))) (eVar 8)) [8]))))))) (sSeq (sSet 4 (e1 gSortSet (eVar 4))) (sRet (eIf (bOr (bV (e2 gIsN (eVar 3) (eC .non))) (bV (e2 gLe (eN (g1 gLen) (aCons (eVar 4) (aNil))) (eVar 3)))) (eVar 4) (e1 gRgL1 (e2 gIx (eVar 0) (eC (.int 0))))))))
theorem fl_law_given : FLen f_law_given 4 := FLen.fn
theorem ok_law_given (T : Txt K mg w) : FnOk P w K mg base CX0 1 T.d_law_given.f T.d_law_given.fd ["_law_book", "_law_source", "_law_kept_here", "_law_k"] (spF P w K 4 f_law_given) :=
  fn_ok T.d_law_given.F sc_law_given fun cdv A outer s H E hr => (css_cons (cs_if (ct_cmp (or_eq hr.units) (ce_ix (ce_var 1) ce_int) (ce_str ⟨#[108, 105, 115, 116]⟩ (by decide +kernel))) (css_one (cs_set sc_law_given.nd (ce_callTy cr_list (by rfl) T.n_list (by decide +kernel) (ca_cons (ce_ix (ce_var 1) ce_int) ca_nil)))) (css_one (cs_if (ct_cmp (or_eq hr.units) (ce_ix (ce_var 1) ce_int) (ce_str ⟨#[116, 111, 108, 100]⟩ (by decide +kernel))) (css_one (cs_set sc_law_given.nd (ce_lst (ca_cons (ce_ix (ce_var 1) ce_int) ca_nil)))) (css_one (cs_if (ct_cmp (or_eq hr.units) (ce_ix (ce_var 1) ce_int) (ce_str ⟨#[101, 105, 116, 104, 101, 114]⟩ (by decide +kernel))) (css_one (cs_set sc_law_given.nd (ce_op or_add (ce_ix (ce_var 2) (ce_ix (ce_var 1) ce_int)) (ce_ix (ce_var 2) (ce_ix (ce_var 1) ce_int))))) (css_cons (cs_set sc_law_given.nd (ce_lst (ca_cons ce_int ca_nil))) (css_cons (cs_for PassesOwn.never rfl (ci_any (ce_ix (ce_var 1) ce_int)) (cg_name sc_law_given.nd) (css_cons (cs_set sc_law_given.nd (ce_lst ca_nil)) (css_cons (cs_for PassesOwn.never rfl (ci_any (ce_var 5)) (cg_name sc_law_given.nd) (css_one (cs_expr (ce_ml PySem.F.slot_list_extend PySem.F.type_list_extend mr_extend (ce_var 7) (ca_cons (ce_lc (own := [("_law_value", 9)]) rfl sc_law_given.nd (ci_any (ce_ix (ce_var 2) (ce_var 6))) (blkOk_by (own := [("_law_value", 9)]) (by kernel_rfl)) (fun _ _ _ _ _ => pg_name (i := 9) sc_law_given.nd rfl (by first | exact Or.inl rfl | exact Or.inr rfl)) (fun _ _ _ _ _ => cts_nil) (fun _ _ _ _ _ => (ce_op or_add (ce_op or_mul (ce_var 8) (ce_ix (ce_var 0) ce_int)) (ce_var 9)))) ca_nil))))) (css_one (cs_set sc_law_given.nd (ce_var 7)))))) (css_one (cs_setLc (own := [("_law_spot", 8)]) rfl sc_law_given.nd (sw_true rfl rfl rfl (by decide +kernel)) (ci_any (ce_var 5)) (blkOk_by (own := [("_law_spot", 8)]) (by kernel_rfl)) (fun _ _ _ _ _ => pg_name (i := 8) sc_law_given.nd rfl (by first | exact Or.inl rfl | exact Or.inr rfl)) (fun _ _ _ _ _ => cts_nil) (fun _ _ _ _ _ => (ce_ix (ce_ix (ce_ix (ce_ix (ce_var 0) ce_int) (ce_ix (ce_var 1) ce_int)) ce_int) (ce_var 8)))))))))))) (css_cons (cs_set sc_law_given.nd (ce_sortSetG rfl (by rfl) T.n_sorted (by rfl) T.n_set (ce_var 4))) (css_one (cs_ret (ce_if (ct_w (cw_or (ct_cmp or_isN (ce_var 3) ce_non) (cw_or1 (ct_cmp or_le (ce_callB cr_len (by rfl) T.n_len (by decide +kernel) (ca_cons (ce_var 4) ca_nil)) (ce_var 3))))) (ce_var 4) (ce_listRg1 rfl (by rfl) T.n_list (by rfl) T.n_range (ce_ix (ce_var 0) ce_int)))))))
/-! law_kept -/
theorem sc_law_kept : FnScope ["_law_book", "_law_program", "_law_k", "_law_sources_here", "_law_one", "_law_kept_here", "_law_source", "_law_turn", "_law_later", "_law_row"] ["_law_book", "_law_program", "_law_k"] (defScope s_law_kept) := ⟨rfl, rfl, rfl, by decide +kernel, rfl, by decide +kernel, by decide +kernel⟩
def f_law_kept : FF := fnD 3 10 (sSeq (sSet 3 (e2 gAdd (eLc (iAny (e2 gIx (eVar 1) (eC (.int 0)))) 4 (bYes) (eN dTup (aCons (eC (.str ⟨#[108, 105, 115, 116]⟩)) (aCons (eVar 4) (aNil)))) [4]) (eN (f_law_sources 4) (aCons (e2 gIx (eVar 1) (eC (.int 1))) (aCons (eN (g1 gLen) (aCons (e2 gIx (eVar 1) (eC (.int 0))) (aNil))) (aNil)))))) (sSeq (sSet 5 (eLc (iAny (eVar 3)) 6 (bYes) (eN dLst (aNil)) [6])) (sSeq (sFor (iRg1 (e2 gAdd (e2 gMul (e2 gIx (eVar 0) (eC (.int 0))) (eN (g1 gLen) (aCons (eVar 3) (aNil)))) (eC (.int 1)))) (.inl 7) (sSeq (sSet 8 (eLc (iAny (eVar 3)) 6 (bYes) (eN f_law_given (aCons (eVar 0) (aCons (eVar 6) (aCons (eVar 5) (aCons (eVar 2) (aNil)))))) [6])) (sSeq (sIf (bV (e2 gEq (eVar 8) (eVar 5))) (sBrk) (sNil)) (sSet 5 (eVar 8))))) (sRet (eN (g1 gTupOf) (aCons (eLc (iAny (eVar 5)) 9 (bYes) (eN (g1 gTupOf) (aCons (eVar 9) (aNil))) [9]) (aNil)))))))
theorem fl_law_kept : FLen f_law_kept 3 := FLen.fn
theorem ok_law_kept (T : Txt K mg w) : FnOk P w K mg base CX0 5 T.d_law_kept.f T.d_law_kept.fd ["_law_book", "_law_program", "_law_k"] (spF P w K 3 f_law_kept) :=
  fn_ok T.d_law_kept.F sc_law_kept fun cdv A outer s H E hr => (css_cons (cs_set sc_law_kept.nd (ce_op or_add (ce_lc (own := [("_law_one", 4)]) rfl sc_law_kept.nd (ci_any (ce_ix (ce_var 1) ce_int)) (blkOk_by (own := [("_law_one", 4)]) (by kernel_rfl)) (fun _ _ _ _ _ => pg_name (i := 4) sc_law_kept.nd rfl (by first | exact Or.inl rfl | exact Or.inr rfl)) (fun _ _ _ _ _ => cts_nil) (fun _ _ _ _ _ => (ce_tup (ca_cons (ce_str ⟨#[108, 105, 115, 116]⟩ (by decide +kernel)) (ca_cons (ce_var 4) ca_nil))))) (ce_call (ok_law_sources T 4) (fl_law_sources 4) (hr.mono (by decide)) (by rfl) T.d_law_sources.g T.d_law_sources.F.kp T.d_law_sources.b (ca_cons (ce_ix (ce_var 1) ce_int) (ca_cons (ce_callB cr_len (by rfl) T.n_len (by decide +kernel) (ca_cons (ce_ix (ce_var 1) ce_int) ca_nil)) ca_nil))))) (css_cons (cs_set sc_law_kept.nd (ce_lc (own := [("_law_source", 6)]) rfl sc_law_kept.nd (ci_any (ce_var 3)) (blkOk_by (own := [("_law_source", 6)]) (by kernel_rfl)) (fun _ _ _ _ _ => pg_name (i := 6) sc_law_kept.nd rfl (by first | exact Or.inl rfl | exact Or.inr rfl)) (fun _ _ _ _ _ => cts_nil) (fun _ _ _ _ _ => (ce_lst ca_nil)))) (css_cons (cs_for PassesOwn.never rfl (ci_rg1 (by rfl) T.n_range (ce_op or_add (ce_op or_mul (ce_ix (ce_var 0) ce_int) (ce_callB cr_len (by rfl) T.n_len (by decide +kernel) (ca_cons (ce_var 3) ca_nil))) ce_int)) (cg_name sc_law_kept.nd) (css_cons (cs_setLc (own := [("_law_source", 6)]) rfl sc_law_kept.nd (sw_true rfl rfl rfl (by decide +kernel)) (ci_any (ce_var 3)) (blkOk_by (own := [("_law_source", 6)]) (by kernel_rfl)) (fun _ _ _ _ _ => pg_name (i := 6) sc_law_kept.nd rfl (by first | exact Or.inl rfl | exact Or.inr rfl)) (fun _ _ _ _ _ => cts_nil) (fun _ _ _ _ _ => (ce_call (ok_law_given T) fl_law_given (hr.mono (by decide)) (by rfl) T.d_law_given.g T.d_law_given.F.kp T.d_law_given.b (ca_cons (ce_var 0) (ca_cons (ce_var 6) (ca_cons (ce_var 5) (ca_cons (ce_var 2) ca_nil))))))) (css_cons (cs_if (ct_cmp (or_eq hr.units) (ce_var 8) (ce_var 5)) (css_one cs_brk) css_nil) (css_one (cs_set sc_law_kept.nd (ce_var 8)))))) (css_one (cs_ret (ce_callTy cr_tuple (by rfl) T.n_tuple (by decide +kernel) (ca_cons (ce_lc (own := [("_law_row", 9)]) rfl sc_law_kept.nd (ci_any (ce_var 5)) (blkOk_by (own := [("_law_row", 9)]) (by kernel_rfl)) (fun _ _ _ _ _ => pg_name (i := 9) sc_law_kept.nd rfl (by first | exact Or.inl rfl | exact Or.inr rfl)) (fun _ _ _ _ _ => cts_nil) (fun _ _ _ _ _ => (ce_callTy cr_tuple (by rfl) T.n_tuple (by decide +kernel) (ca_cons (ce_var 9) ca_nil)))) ca_nil)))))))
/-! law_lets -/
theorem sc_law_lets : FnScope ["_law_size", "_law_operation", "_law_word", "_law_places_here", "_law_counts", "_law_value", "_law_many"] ["_law_size", "_law_operation", "_law_word"] (defScope s_law_lets) := ⟨rfl, rfl, rfl, by decide +kernel, rfl, by decide +kernel, by decide +kernel⟩
def f_law_lets : FF := fnD 3 7 (sSeq (sSet 3 (eN f_law_places (aCons (eVar 0) (aCons (eVar 1) (aNil))))) (sSeq (sIf (bOr (bV (e2 gGt (eN (g1 gLen) (aCons (eVar 3) (aNil))) (eC (.int 1)))) (bV (e2 gEq (eVar 3) (eN dLst (aNil))))) (sRet (e2 gEq (eVar 3) (eN dLst (aNil)))) (sNil)) (sSeq (sSet 4 (eLc (iRg1 (eVar 0)) 5 (bYes) (eMT gCount (e2 gIxS (eVar 1) (eC (.int 1))) (aCons (eVar 5) (aNil))) [5])) (sRet (eOr (e2 gEq (eVar 2) (eC (.str ⟨#[101, 120, 97, 99, 116]⟩))) (e2 gEq (eLc (iAny (eVar 4)) 6 (bV (e2 gNe (eVar 6) (e2 gIx (eVar 4) (eC (.int 0))))) (eVar 6) [6]) (eN dLst (aNil))))))))
theorem fl_law_lets : FLen f_law_lets 3 := FLen.fn
theorem ok_law_lets (T : Txt K mg w) : FnOk P w K mg base CX0 3 T.d_law_lets.f T.d_law_lets.fd ["_law_size", "_law_operation", "_law_word"] (spF P w K 3 f_law_lets) :=
  fn_ok T.d_law_lets.F sc_law_lets fun cdv A outer s H E hr => (css_cons (cs_set sc_law_lets.nd (ce_call (ok_law_places T) fl_law_places (hr.mono (by decide)) (by rfl) T.d_law_places.g T.d_law_places.F.kp T.d_law_places.b (ca_cons (ce_var 0) (ca_cons (ce_var 1) ca_nil)))) (css_cons (cs_if (ct_w (cw_or (ct_cmp or_gt (ce_callB cr_len (by rfl) T.n_len (by decide +kernel) (ca_cons (ce_var 3) ca_nil)) ce_int) (cw_or1 (ct_cmp (or_eq hr.units) (ce_var 3) (ce_lst ca_nil))))) (css_one (cs_ret (ce_cmp (or_eq hr.units) (ce_var 3) (ce_lst ca_nil)))) css_nil) (css_cons (cs_set sc_law_lets.nd (ce_lc (own := [("_law_value", 5)]) rfl sc_law_lets.nd (ci_rg1 (by rfl) T.n_range (ce_var 0)) (blkOk_by (own := [("_law_value", 5)]) (by kernel_rfl)) (fun _ _ _ _ _ => pg_name (i := 5) sc_law_lets.nd rfl (by first | exact Or.inl rfl | exact Or.inr rfl)) (fun _ _ _ _ _ => cts_nil) (fun _ _ _ _ _ => (ce_count (ce_ixS (ce_var 1) ce_int) (ca_cons (ce_var 5) ca_nil))))) (css_one (cs_ret (ce_or (ce_cmp (or_eq hr.units) (ce_var 2) (ce_str ⟨#[101, 120, 97, 99, 116]⟩ (by decide +kernel))) (ce_one (ce_cmp (or_eq hr.units) (ce_lc (own := [("_law_many", 6)]) rfl sc_law_lets.nd (ci_any (ce_var 4)) (blkOk_by (own := [("_law_many", 6)]) (by kernel_rfl)) (fun _ _ _ _ _ => pg_name (i := 6) sc_law_lets.nd rfl (by first | exact Or.inl rfl | exact Or.inr rfl)) (fun _ _ _ _ _ => cts_one (ct_cmp (or_ne hr.units) (ce_var 6) (ce_ix (ce_var 4) ce_int))) (fun _ _ _ _ _ => (ce_var 6))) (ce_lst ca_nil)))))))))
/-! law_give -/
theorem sc_law_give : FnScope ["_law_lot", "_law_number", "_law_registers", "_law_shown_here", "_law_found", "_law_state", "_law_later", "_law_at", "_law_cell"] ["_law_lot", "_law_number", "_law_registers", "_law_shown_here"] (defScope s_law_give) := ⟨rfl, rfl, rfl, by decide +kernel, rfl, by decide +kernel, by decide +kernel⟩
def f_law_give : FF := fnD 4 9 (sSeq (sSet 4 (eDic0)) (sSeq (sForD 0 5 (sSeq (sSet 6 (eVar 5)) (sSeq (sFor (iEn (eVar 2)) (.inr [7, 8]) (sSeq (sSet 6 (eN (pureF f_law_set) (aCons (eVar 6) (aCons (e2 gAdd (eVar 1) (eVar 7)) (aCons (e2 gIx (eVar 5) (eVar 8)) (aNil)))))) (sPut (eVar 3) (eN dTup (aCons (e2 gAdd (eVar 1) (eVar 7)) (aCons (e2 gIx (eVar 5) (eVar 8)) (aNil))))))) (sPut (eVar 4) (eVar 6))))) (sRet (eVar 4))))
theorem fl_law_give : FLen f_law_give 4 := FLen.fn
theorem ok_law_give (T : Txt K mg w) : FnOk P w K mg base CX0 2 T.d_law_give.f T.d_law_give.fd ["_law_lot", "_law_number", "_law_registers", "_law_shown_here"] (spF P w K 4 f_law_give) :=
  fn_ok T.d_law_give.F sc_law_give fun cdv A outer s H E hr => (css_cons (cs_set sc_law_give.nd ce_dict0) (css_cons (cs_forD rfl PassesOwn.never sc_law_give.nd (ce_var 0) (css_cons (cs_set sc_law_give.nd (ce_var 5)) (css_cons (cs_for PassesOwn.never rfl (ci_enum (by rfl) T.n_enumerate (ce_var 2)) (cg_tup rfl (cg_cons sc_law_give.nd (cg_cons sc_law_give.nd cg_nil))) (css_cons (cs_set sc_law_give.nd (ce_call (FnOk.pureF (ok_law_set T)) (FLen.pure fl_law_set) (hr.mono (by decide)) (by rfl) T.d_law_set.g T.d_law_set.F.kp T.d_law_set.b (ca_cons (ce_var 6) (ca_cons (ce_op or_add (ce_var 1) (ce_var 7)) (ca_cons (ce_ix (ce_var 5) (ce_var 8)) ca_nil))))) (css_one (cs_put (u65 hr) (ce_var 3) (ce_tup (ca_cons (ce_op or_add (ce_var 1) (ce_var 7)) (ca_cons (ce_ix (ce_var 5) (ce_var 8)) ca_nil))) ce_bl)))) (css_one (cs_put (u65 hr) (ce_var 4) (ce_var 6) ce_bl))))) (css_one (cs_ret (ce_var 4)))))
/-! law_forget -/
theorem sc_law_forget : FnScope ["_law_lot", "_law_first", "_law_many", "_law_found", "_law_state"] ["_law_lot", "_law_first", "_law_many"] (defScope s_law_forget) := ⟨rfl, rfl, rfl, by decide +kernel, rfl, by decide +kernel, by decide +kernel⟩
def f_law_forget : FF := fnD 3 5 (sSeq (sSet 3 (eDic0)) (sSeq (sForD 0 4 (sPut (eVar 3) (e2 gAdd (e2 gAdd (eSl (eVar 4) oNone (oSome (eVar 1))) (e2 gMul (eN dTup (aCons (eC .non) (aNil))) (eVar 2))) (eSl (eVar 4) (oSome (e2 gAdd (eVar 1) (eVar 2))) oNone)))) (sRet (eVar 3))))
theorem fl_law_forget : FLen f_law_forget 3 := FLen.fn
theorem ok_law_forget (T : Txt K mg w) : FnOk P w K mg base CX0 1 T.d_law_forget.f T.d_law_forget.fd ["_law_lot", "_law_first", "_law_many"] (spF P w K 3 f_law_forget) :=
  fn_ok T.d_law_forget.F sc_law_forget fun cdv A outer s H E hr => (css_cons (cs_set sc_law_forget.nd ce_dict0) (css_cons (cs_forD rfl PassesOwn.never sc_law_forget.nd (ce_var 0) (css_one (cs_put (u65 hr) (ce_var 3) (ce_op or_add (ce_op or_add (ce_sl (ce_var 4) co_none (co_some (ce_var 1))) (ce_op or_mul (ce_tup (ca_cons ce_non ca_nil)) (ce_var 2))) (ce_sl (ce_var 4) (co_some (ce_op or_add (ce_var 1) (ce_var 2))) co_none)) ce_bl))) (css_one (cs_ret (ce_var 3)))))
/-! law_fork -/
theorem sc_law_fork : FnScope ["_law_book", "_law_row", "_law_number", "_law_lot", "_law_shown_here", "_law_found", "_law_wide", "_law_side", "_law_part", "_law_state", "_law_pair"] ["_law_book", "_law_row", "_law_number", "_law_lot", "_law_shown_here"] (defScope s_law_fork) := ⟨rfl, rfl, rfl, by decide +kernel, rfl, by decide +kernel, by decide +kernel⟩
def f_law_fork (R : FF) : FF := fnD 5 11 (sSeq (sPar 5 6 (eDic0) (eN dLst (aCons (eN (pureF (f_law_width 5)) (aCons (e2 gIx (eVar 1) (eC (.int 2))) (aNil))) (aCons (eN (pureF (f_law_width 5)) (aCons (e2 gIx (eVar 1) (eC (.int 3))) (aNil))) (aNil))))) (sSeq (sFor (iRg1 (eC (.int 2))) (.inl 7) (sSeq (sSet 8 (eDic0)) (sSeq (sForD 3 9 (sIf (bOr (bV (e2 gIsN (e2 gIx (eVar 1) (eC (.int 1))) (eC .non))) (bV (e2 gEq (eN (g1 gInt) (aCons (e2 gNe (e2 gIx (eVar 9) (e2 gIx (e2 gIx (eVar 1) (eC (.int 1))) (eC (.int 0)))) (e2 gIx (e2 gIx (eVar 1) (eC (.int 1))) (eC (.int 1)))) (aNil))) (eVar 7)))) (sPut (eVar 8) (eVar 9)) (sNil))) (sSeq (sSet 8 (eN R (aCons (eVar 0) (aCons (e2 gIx (eVar 1) (e2 gAdd (eC (.int 2)) (eVar 7))) (aCons (e2 gAdd (eVar 2) (e2 gMul (eVar 7) (e2 gIx (eVar 6) (eC (.int 0))))) (aCons (eVar 8) (aCons (eVar 4) (aNil)))))))) (sSeq (sSet 8 (eN f_law_give (aCons (eVar 8) (aCons (e2 gAdd (eVar 2) (eN (g1 gSum) (aCons (eVar 6) (aNil)))) (aCons (eLc (iAny (e2 gIx (eVar 1) (eC (.int 4)))) 10 (bYes) (e2 gIx (eVar 10) (eVar 7)) [10]) (aCons (eVar 4) (aNil))))))) (sExpr (eUpd (eVar 5) (eN f_law_forget (aCons (eVar 8) (aCons (eVar 2) (aCons (eN (g1 gSum) (aCons (eVar 6) (aNil))) (aNil)))))))))))) (sRet (eVar 5))))
theorem fl_law_fork (R : FF) : FLen (f_law_fork R) 5 := FLen.fn
theorem ok_law_fork (T : Txt K mg w) {R : FF} {j : Nat} (hj : 5 ≤ j := by assumption) (hl : FLen R 5 := by assumption) (hR : FnOk P w K mg base CX0 j T.d_law_flow.f T.d_law_flow.fd ["_law_book", "_law_rows", "_law_number", "_law_lot", "_law_shown_here"] (spF P w K 5 R)) : FnOk P w K mg base CX0 (j + 1) T.d_law_fork.f T.d_law_fork.fd ["_law_book", "_law_row", "_law_number", "_law_lot", "_law_shown_here"] (spF P w K 5 (f_law_fork R)) :=
  fn_ok T.d_law_fork.F sc_law_fork fun cdv A outer s H E hr => (css_cons (cs_par rfl sc_law_fork.nd ce_dict0 (ce_lst (ca_cons (ce_call (FnOk.pureF (ok_law_width T 5)) (FLen.pure (fl_law_width 5)) (hr.mono (by omega)) (by rfl) T.d_law_width.g T.d_law_width.F.kp T.d_law_width.b (ca_cons (ce_ix (ce_var 1) ce_int) ca_nil)) (ca_cons (ce_call (FnOk.pureF (ok_law_width T 5)) (FLen.pure (fl_law_width 5)) (hr.mono (by omega)) (by rfl) T.d_law_width.g T.d_law_width.F.kp T.d_law_width.b (ca_cons (ce_ix (ce_var 1) ce_int) ca_nil)) ca_nil)))) (css_cons (cs_for PassesOwn.never rfl (ci_rg1 (by rfl) T.n_range ce_int) (cg_name sc_law_fork.nd) (css_cons (cs_set sc_law_fork.nd ce_dict0) (css_cons (cs_forD rfl PassesOwn.never sc_law_fork.nd (ce_var 3) (css_one (cs_if (ct_w (cw_or (ct_cmp or_isN (ce_ix (ce_var 1) ce_int) ce_non) (cw_or1 (ct_cmp (or_eq hr.units) (ce_callTy cr_int (by rfl) T.n_int (by decide +kernel) (ca_cons (ce_cmp (or_ne hr.units) (ce_ix (ce_var 9) (ce_ix (ce_ix (ce_var 1) ce_int) ce_int)) (ce_ix (ce_ix (ce_var 1) ce_int) ce_int)) ca_nil)) (ce_var 7))))) (css_one (cs_put (u65 hr) (ce_var 8) (ce_var 9) ce_bl)) css_nil))) (css_cons (cs_set sc_law_fork.nd (ce_call hR hl (hr.mono (by omega)) (by rfl) T.d_law_flow.g T.d_law_flow.F.kp T.d_law_flow.b (ca_cons (ce_var 0) (ca_cons (ce_ix (ce_var 1) (ce_op or_add ce_int (ce_var 7))) (ca_cons (ce_op or_add (ce_var 2) (ce_op or_mul (ce_var 7) (ce_ix (ce_var 6) ce_int))) (ca_cons (ce_var 8) (ca_cons (ce_var 4) ca_nil))))))) (css_cons (cs_set sc_law_fork.nd (ce_call (ok_law_give T) fl_law_give (hr.mono (by omega)) (by rfl) T.d_law_give.g T.d_law_give.F.kp T.d_law_give.b (ca_cons (ce_var 8) (ca_cons (ce_op or_add (ce_var 2) (ce_callB (cr_sum rfl) (by rfl) T.n_sum (by decide +kernel) (ca_cons (ce_var 6) ca_nil))) (ca_cons (ce_lc (own := [("_law_pair", 10)]) rfl sc_law_fork.nd (ci_any (ce_ix (ce_var 1) ce_int)) (blkOk_by (own := [("_law_pair", 10)]) (by kernel_rfl)) (fun _ _ _ _ _ => pg_name (i := 10) sc_law_fork.nd rfl (by first | exact Or.inl rfl | exact Or.inr rfl)) (fun _ _ _ _ _ => cts_nil) (fun _ _ _ _ _ => (ce_ix (ce_var 10) (ce_var 7)))) (ca_cons (ce_var 4) ca_nil)))))) (css_one (cs_expr (ce_upd (u65 hr) (ce_var 5) (ce_call (ok_law_forget T) fl_law_forget (hr.mono (by omega)) (by rfl) T.d_law_forget.g T.d_law_forget.F.kp T.d_law_forget.b (ca_cons (ce_var 8) (ca_cons (ce_var 2) (ca_cons (ce_callB (cr_sum rfl) (by rfl) T.n_sum (by decide +kernel) (ca_cons (ce_var 6) ca_nil)) ca_nil)))))))))))) (css_one (cs_ret (ce_var 5)))))
/-! law_flow -/
theorem sc_law_flow : FnScope ["_law_book", "_law_rows", "_law_number", "_law_lot", "_law_shown_here", "_law_row", "_law_found", "_law_state", "_law_value", "_law_spot", "_law_cell"] ["_law_book", "_law_rows", "_law_number", "_law_lot", "_law_shown_here"] (defScope s_law_flow) := ⟨rfl, rfl, rfl, by decide +kernel, rfl, by decide +kernel, by decide +kernel⟩
def g_law_flow (R : FF) : FF := fnD 5 11 (sSeq (sFor (iAny (eVar 1)) (.inl 5) (sSeq (sIf (bV (e2 gIn (e2 gIx (eVar 5) (eC (.int 0))) (eN dLst (aCons (eC (.str ⟨#[116, 111, 108, 100]⟩)) (aCons (eC (.str ⟨#[111, 102]⟩)) (aNil)))))) (sSeq (sSet 6 (eDic0)) (sSeq (sForD 3 7 (sSeq (sSet 8 (e2 gIx (eVar 5) (eC (.int 1)))) (sSeq (sIf (bV (e2 gEq (e2 gIx (eVar 5) (eC (.int 0))) (eC (.str ⟨#[111, 102]⟩)))) (sSeq (sSet 9 (eC (.int 0))) (sSeq (sFor (iAny (e2 gIx (eVar 5) (eC (.int 2)))) (.inl 10) (sSet 9 (e2 gAdd (e2 gMul (eVar 9) (e2 gIx (eVar 0) (eC (.int 0)))) (e2 gIx (eVar 7) (eVar 10))))) (sSet 8 (e2 gIx (e2 gIx (e2 gIx (e2 gIx (eVar 0) (eC (.int 1))) (e2 gIx (eVar 5) (eC (.int 1)))) (eC (.int 1))) (eVar 9))))) (sNil)) (sSeq (sPut (eVar 4) (eN dTup (aCons (eVar 2) (aCons (eVar 8) (aNil))))) (sPut (eVar 6) (eN (pureF f_law_set) (aCons (eVar 7) (aCons (eVar 2) (aCons (eVar 8) (aNil)))))))))) (sSet 3 (eVar 6)))) (sNil)) (sSeq (sIf (bV (e2 gEq (e2 gIx (eVar 5) (eC (.int 0))) (eC (.str ⟨#[102, 111, 114, 107]⟩)))) (sSet 3 (eN (f_law_fork R) (aCons (eVar 0) (aCons (eVar 5) (aCons (eVar 2) (aCons (eVar 3) (aCons (eVar 4) (aNil)))))))) (sNil)) (sSeq (sIf (bV (e2 gEq (e2 gIx (eVar 5) (eC (.int 0))) (eC (.str ⟨#[108, 111, 111, 112]⟩)))) (sSet 3 (eNever)) (sNil)) (sSet 2 (e2 gAdd (eVar 2) (eN (pureF (f_law_width 5)) (aCons (eN dTup (aCons (eVar 5) (aNil))) (aNil))))))))) (sRet (eVar 3)))
theorem flg_law_flow (R : FF) : FLen (g_law_flow R) 5 := FLen.fn
theorem okg_law_flow (T : Txt K mg w) {R : FF} {j : Nat} (hj : 5 ≤ j := by assumption) (hl : FLen R 5 := by assumption) (hR : FnOk P w K mg base CX0 j T.d_law_flow.f T.d_law_flow.fd ["_law_book", "_law_rows", "_law_number", "_law_lot", "_law_shown_here"] (spF P w K 5 R)) : FnOk P w K mg base CX0 (j + 1 + 1) T.d_law_flow.f T.d_law_flow.fd ["_law_book", "_law_rows", "_law_number", "_law_lot", "_law_shown_here"] (spF P w K 5 (g_law_flow R)) :=
  fn_ok T.d_law_flow.F sc_law_flow fun cdv A outer s H E hr => (css_cons (cs_for PassesOwn.never rfl (ci_any (ce_var 1)) (cg_name sc_law_flow.nd) (css_cons (cs_if (ct_cmp (or_in (u65 hr)) (ce_ix (ce_var 5) ce_int) (ce_lst (ca_cons (ce_str ⟨#[116, 111, 108, 100]⟩ (by decide +kernel)) (ca_cons (ce_str ⟨#[111, 102]⟩ (by decide +kernel)) ca_nil)))) (css_cons (cs_set sc_law_flow.nd ce_dict0) (css_cons (cs_forD rfl PassesOwn.never sc_law_flow.nd (ce_var 3) (css_cons (cs_set sc_law_flow.nd (ce_ix (ce_var 5) ce_int)) (css_cons (cs_if (ct_cmp (or_eq hr.units) (ce_ix (ce_var 5) ce_int) (ce_str ⟨#[111, 102]⟩ (by decide +kernel))) (css_cons (cs_set sc_law_flow.nd ce_int) (css_cons (cs_for PassesOwn.never rfl (ci_any (ce_ix (ce_var 5) ce_int)) (cg_name sc_law_flow.nd) (css_one (cs_set sc_law_flow.nd (ce_op or_add (ce_op or_mul (ce_var 9) (ce_ix (ce_var 0) ce_int)) (ce_ix (ce_var 7) (ce_var 10)))))) (css_one (cs_set sc_law_flow.nd (ce_ix (ce_ix (ce_ix (ce_ix (ce_var 0) ce_int) (ce_ix (ce_var 5) ce_int)) ce_int) (ce_var 9)))))) css_nil) (css_cons (cs_put (u65 hr) (ce_var 4) (ce_tup (ca_cons (ce_var 2) (ca_cons (ce_var 8) ca_nil))) ce_bl) (css_one (cs_put (u65 hr) (ce_var 6) (ce_call (FnOk.pureF (ok_law_set T)) (FLen.pure fl_law_set) (hr.mono (by omega)) (by rfl) T.d_law_set.g T.d_law_set.F.kp T.d_law_set.b (ca_cons (ce_var 7) (ca_cons (ce_var 2) (ca_cons (ce_var 8) ca_nil)))) ce_bl)))))) (css_one (cs_set sc_law_flow.nd (ce_var 6))))) css_nil) (css_cons (cs_if (ct_cmp (or_eq hr.units) (ce_ix (ce_var 5) ce_int) (ce_str ⟨#[102, 111, 114, 107]⟩ (by decide +kernel))) (css_one (cs_set sc_law_flow.nd (ce_call (ok_law_fork T (hR := hR)) (fl_law_fork R) (hr.mono (by omega)) (by rfl) T.d_law_fork.g T.d_law_fork.F.kp T.d_law_fork.b (ca_cons (ce_var 0) (ca_cons (ce_var 5) (ca_cons (ce_var 2) (ca_cons (ce_var 3) (ca_cons (ce_var 4) ca_nil)))))))) css_nil) (css_cons (cs_if (ct_cmp (or_eq hr.units) (ce_ix (ce_var 5) ce_int) (ce_str ⟨#[108, 111, 111, 112]⟩ (by decide +kernel))) (css_one (cs_set sc_law_flow.nd ce_never)) css_nil) (css_one (cs_set sc_law_flow.nd (ce_op or_add (ce_var 2) (ce_call (FnOk.pureF (ok_law_width T 5)) (FLen.pure (fl_law_width 5)) (hr.mono (by omega)) (by rfl) T.d_law_width.g T.d_law_width.F.kp T.d_law_width.b (ca_cons (ce_tup (ca_cons (ce_var 5) ca_nil)) ca_nil))))))))) (css_one (cs_ret (ce_var 3))))
def f_law_flow : Nat → FF
  | 0 => fun _ _ => none
  | n + 1 => g_law_flow (f_law_flow n)
theorem fl_law_flow : ∀ n, FLen (f_law_flow n) 5
  | 0 => FLen.none 5
  | n + 1 => flg_law_flow _
theorem okn_law_flow (T : Txt K mg w) : ∀ n, FnOk P w K mg base CX0 (5 + n * 2) T.d_law_flow.f T.d_law_flow.fd ["_law_book", "_law_rows", "_law_number", "_law_lot", "_law_shown_here"] (spF P w K 5 (f_law_flow n))
  | 0 => fn_none rfl
  | n + 1 => by
    have h := okg_law_flow T (j := 5 + n * 2) (hj := by omega) (hl := fl_law_flow n) (okn_law_flow T n)
    exact h.mono (by omega)
theorem ok_law_flow (T : Txt K mg w) : ∀ n, FnOk P w K mg base CX0 (5 + n * 2) T.d_law_flow.f T.d_law_flow.fd ["_law_book", "_law_rows", "_law_number", "_law_lot", "_law_shown_here"] (spF P w K 5 (f_law_flow n)) := okn_law_flow T
/-! law_shown -/
theorem sc_law_shown : FnScope ["_law_book", "_law_program", "_law_many", "_law_shown_here", "_law_lot", "_law_values_here", "_law_cell", "_law_value"] ["_law_book", "_law_program"] (defScope s_law_shown) := ⟨rfl, rfl, rfl, by decide +kernel, rfl, by decide +kernel, by decide +kernel⟩
def f_law_shown : FF := fnD 2 8 (sSeq (sSet 2 (eN (pureF (f_law_width 5)) (aCons (e2 gIx (eVar 1) (eC (.int 1))) (aNil)))) (sSeq (sTup [3, 4] (eN dTup (aCons (eDic0) (aCons (eDic0) (aNil))))) (sSeq (sFor (iAny (eN f_law_values (aCons (e2 gIx (eVar 1) (eC (.int 0))) (aNil)))) (.inl 5) (sSeq (sPut (eVar 4) (e2 gAdd (eVar 5) (e2 gMul (eN dTup (aCons (eC .non) (aNil))) (eVar 2)))) (sFor (iEn (eVar 5)) (.inr [6, 7]) (sPut (eVar 3) (eN dTup (aCons (eVar 6) (aCons (eVar 7) (aNil)))))))) (sSeq (sExpr (eN (f_law_flow 4) (aCons (eVar 0) (aCons (e2 gIx (eVar 1) (eC (.int 1))) (aCons (eN (g1 gLen) (aCons (e2 gIx (eVar 1) (eC (.int 0))) (aNil))) (aCons (eVar 4) (aCons (eVar 3) (aNil)))))))) (sRet (eN (g1 gTupOf) (aCons (eLc (iRg1 (e2 gAdd (eN (g1 gLen) (aCons (e2 gIx (eVar 1) (eC (.int 0))) (aNil))) (eVar 2))) 6 (bYes) (eN (g1 gTupOf) (aCons (eLc (iRg1 (e2 gIx (eVar 0) (eC (.int 0)))) 7 (bV (e2 gInK (eN dTup (aCons (eVar 6) (aCons (eVar 7) (aNil)))) (eVar 3))) (eVar 7) [7]) (aNil))) [6]) (aNil))))))))
theorem fl_law_shown : FLen f_law_shown 2 := FLen.fn
theorem ok_law_shown (T : Txt K mg w) : FnOk P w K mg base CX0 14 T.d_law_shown.f T.d_law_shown.fd ["_law_book", "_law_program"] (spF P w K 2 f_law_shown) :=
  fn_ok T.d_law_shown.F sc_law_shown fun cdv A outer s H E hr => (css_cons (cs_set sc_law_shown.nd (ce_call (FnOk.pureF (ok_law_width T 5)) (FLen.pure (fl_law_width 5)) (hr.mono (by decide)) (by rfl) T.d_law_width.g T.d_law_width.F.kp T.d_law_width.b (ca_cons (ce_ix (ce_var 1) ce_int) ca_nil))) (css_cons (cs_tup rfl (cg_cons sc_law_shown.nd (cg_cons sc_law_shown.nd cg_nil)) (ce_tup (ca_cons ce_dict0 (ca_cons ce_dict0 ca_nil)))) (css_cons (cs_for PassesOwn.never rfl (ci_any (ce_call (ok_law_values T) fl_law_values (hr.mono (by decide)) (by rfl) T.d_law_values.g T.d_law_values.F.kp T.d_law_values.b (ca_cons (ce_ix (ce_var 1) ce_int) ca_nil))) (cg_name sc_law_shown.nd) (css_cons (cs_put (u65 hr) (ce_var 4) (ce_op or_add (ce_var 5) (ce_op or_mul (ce_tup (ca_cons ce_non ca_nil)) (ce_var 2))) ce_bl) (css_one (cs_for PassesOwn.never rfl (ci_enum (by rfl) T.n_enumerate (ce_var 5)) (cg_tup rfl (cg_cons sc_law_shown.nd (cg_cons sc_law_shown.nd cg_nil))) (css_one (cs_put (u65 hr) (ce_var 3) (ce_tup (ca_cons (ce_var 6) (ca_cons (ce_var 7) ca_nil))) ce_bl)))))) (css_cons (cs_expr (ce_call (ok_law_flow T 4) (fl_law_flow 4) (hr.mono (by decide)) (by rfl) T.d_law_flow.g T.d_law_flow.F.kp T.d_law_flow.b (ca_cons (ce_var 0) (ca_cons (ce_ix (ce_var 1) ce_int) (ca_cons (ce_callB cr_len (by rfl) T.n_len (by decide +kernel) (ca_cons (ce_ix (ce_var 1) ce_int) ca_nil)) (ca_cons (ce_var 4) (ca_cons (ce_var 3) ca_nil))))))) (css_one (cs_ret (ce_callTy cr_tuple (by rfl) T.n_tuple (by decide +kernel) (ca_cons (ce_lc (own := [("_law_cell", 6)]) rfl sc_law_shown.nd (ci_rg1 (by rfl) T.n_range (ce_op or_add (ce_callB cr_len (by rfl) T.n_len (by decide +kernel) (ca_cons (ce_ix (ce_var 1) ce_int) ca_nil)) (ce_var 2))) (blkOk_by (own := [("_law_cell", 6)]) (by kernel_rfl)) (fun _ _ _ _ _ => pg_name (i := 6) sc_law_shown.nd rfl (by first | exact Or.inl rfl | exact Or.inr rfl)) (fun _ _ _ _ _ => cts_nil) (fun _ _ _ _ _ => (ce_callTy cr_tuple (by rfl) T.n_tuple (by decide +kernel) (ca_cons (ce_lc (own := [("_law_value", 7)]) rfl sc_law_shown.nd (ci_rg1 (by rfl) T.n_range (ce_ix (ce_var 0) ce_int)) (blkOk_by (own := [("_law_value", 7)]) (by kernel_rfl)) (fun _ _ _ _ _ => pg_name (i := 7) sc_law_shown.nd rfl (by first | exact Or.inl rfl | exact Or.inr rfl)) (fun _ _ _ _ _ => cts_one (ct_cmp (or_inK (u65 hr)) (ce_tup (ca_cons (ce_var 6) (ca_cons (ce_var 7) ca_nil))) (ce_var 3))) (fun _ _ _ _ _ => (ce_var 7))) ca_nil)))) ca_nil))))))))
end
end K50
set_option Elab.async false
set_option linter.all false
set_option maxRecDepth 100000
set_option maxHeartbeats 4000000
namespace K50
open PySem PySem.Spec PyProof.Rows L2
/-! ### %, //, l[i] = v -/
def gMod : D → D → Sto → Option (D × Sto)
  | .int i, .int j, S => if decide (0 < j) then some (.int (i % j), S) else none
  | _, _, _ => none
def gFdiv : D → D → Sto → Option (D × Sto)
  | .int i, .int j, S => if decide (0 < j) && decide (j < 1073741824) then some (.int (i / j), S) else none
  | _, _, _ => none
def gLSet (x i v : D) (S : Sto) : Option Sto := match x, i with
  | .ref r, .int k => match S[r]? with
    | some (.lst xs) => match ixN xs.length k with
      | some j => some (S.set r (.lst (xs.set j v)))
      | none => none
    | _ => none
  | _, _ => none
def sLSet (f g e : FE) : FS := fun τ S => match e τ S with
  | some (v, S1) => match f τ S1 with
    | some (x, S2) => match g τ S2 with
      | some (i, S3) => match gLSet x i v S3 with
        | some S4 => some (.nx τ, S4)
        | none => none
      | none => none
    | none => none
  | none => none
section
variable {X : Cx}
theorem or_mod : OpR X (binaryOp .Mod) (rD X.prog X.w X.K gMod) := by
  intro pins s σ H x y v u Q I rx ry h
  obtain ⟨dx, dy, ρ, S, d, S', rs, ax, ay, e, q⟩ := h
  unfold gMod at e
  split at e
  · split at e
    · rename_i hc
      cases e
      cases ax
      cases ay
      exact op_mod pins s σ H _ _ v u Q I rx ry ⟨_, _, rfl, rfl, of_decide_eq_true hc, q _ H ρ Ext.refl rs (.int _)⟩
    · cases e
  · cases e
theorem or_fdiv : OpR X (binaryOp .FloorDiv) (rD X.prog X.w X.K gFdiv) := by
  intro pins s σ H x y v u Q I rx ry h
  obtain ⟨dx, dy, ρ, S, d, S', rs, ax, ay, e, q⟩ := h
  unfold gFdiv at e
  split at e
  · split at e
    · rename_i hc
      rw [Bool.and_eq_true, decide_eq_true_eq, decide_eq_true_eq] at hc
      cases e
      cases ax
      cases ay
      exact op_fdiv pins s σ H _ _ v u Q I rx ry ⟨_, _, rfl, rfl, hc, q _ H ρ Ext.refl rs (.int _)⟩
    · cases e
  · cases e
theorem AtL.set {K : PySem.W.Frag} {H : Hp} {ρ : List Addr} {v : V} {d : D} (a : At K H ρ v d) : ∀ {vs : List V} {ds : List D} (j : Nat), AtL K H ρ vs ds → AtL K H ρ (vs.set j v) (ds.set j d)
  | _, _, _, .nil => .nil
  | _, _, 0, .cons h1 h2 => .cons a h2
  | _, _, j + 1, .cons h1 h2 => .cons h1 (AtL.set a j h2)
theorem cs_lset {o i e : Expr} {f g fe : FE} {pos pos' : Pos} (ho : CE X o f) (hi : CE X i g) (he : CE X e fe) (hs : swapsWithSole [.Subscript o i pos'] e pos.line X.env = pure false := by rfl) (hw : swappedStores [.Subscript o i pos'] e X.env = pure none := by rfl)
    (h1 : (assignEach [.Subscript o i pos'] X.env).map (·.2) = [assign (.Subscript o i pos') X.env] := by rfl)
    (hA : ∀ v, assign (.Subscript o i pos') X.env v = (do
      let ov ← holding [v] (eval o X.env)
      let iv ← holding [v, ov] (eval i X.env)
      standAt pos'
      holding [v, ov, iv] (setItem ov iv v)
      release [v, ov, iv] []) := by intro _; rfl) : CS X (.Assign [.Subscript o i pos'] e pos) (sLSet f g fe) := by
  refine PS.le (ps_asg he (pg_sub ho hi set_list hA) hs hw h1) fun D σ H h => ?_
  obtain ⟨τ, ρ, S, fl, S', rs, sr, e, q⟩ := h
  unfold sLSet at e
  split at e
  · rename_i v S1 h1
    split at e
    · rename_i x S2 h2
      split at e
      · rename_i i S3 h3
        split at e
        · rename_i S4 h4
          cases e
          refine ⟨τ, ρ, S, v, S1, rs, sr, h1, fun v1 H1 ρ1 x1 rs1 a1 => ⟨τ, ρ1, S1, x, S2, rs1, sr.ext rs x1, h2, fun v2 H2 ρ2 x2 rs2 a2 => ⟨τ, ρ2, S2, i, S3, rs2, (sr.ext rs x1).ext rs1 x2, h3, fun v3 H3 ρ3 x3 rs3 a3 => ?_⟩⟩⟩
          unfold gLSet at h4
          split at h4
          · rename_i r k
            split at h4
            · rename_i xs hxs
              split at h4
              · rename_i j hj
                cases h4
                have a2' := At.kp (rs2.kp x3) _ _ a2
                cases a3
                cases a2' with
                | ref hr =>
                  rename_i a
                  obtain ⟨vs, e0, l⟩ := rs3.lst hr hxs
                  refine ⟨a, vs, k, j, rfl, rfl, e0, by rw [l.length]; exact hj, ?_⟩
                  have a1' := At.kp (rs2.kp x3) _ _ (At.kp (rs1.kp x2) _ _ a1)
                  obtain ⟨rs4, x4⟩ := rs3.setLst (ds := xs) hr e0 (AtL.set a1' j l)
                  exact q σ _ ρ3 (((x1.trans x2).trans x3).trans x4) rs4 ((((sr.ext rs x1).ext rs1 x2).ext rs2 x3).ext rs3 x4)
              · cases h4
            · cases h4
          · cases h4
        · cases e
      · cases e
    · cases e
  · cases e
end
end K50
set_option Elab.async false
set_option linter.all false
set_option maxRecDepth 100000
set_option maxHeartbeats 4000000
namespace K50
open PySem PySem.Spec PyProof.Rows L2
section
variable {P : Program} {w : World} {K : PySem.W.Frag} {mg : Str → Option Value} {base : Heap}
/-! law_take -/
theorem sc_law_take : FnScope ["_law_box_here", "_law_many", "_law_digit", "_law_raw"] ["_law_box_here", "_law_many"] (defScope s_law_take) := ⟨rfl, rfl, rfl, by decide +kernel, rfl, by decide +kernel, by decide +kernel⟩
def f_law_take : FF := fnD 2 4 (sSeq (sIf (bV (e2 gGt (e2 gIx (eVar 0) (eC (.int 0))) (eC (.int 0)))) (sSeq (sSet 2 (e2 gMod (eN (g1 gInt) (aCons (e2 gIx (eVar 0) (eC (.int 0))) (aNil))) (eVar 1))) (sSeq (sLSet (eVar 0) (eC (.int 0)) (e2 gFdiv (e2 gIx (eVar 0) (eC (.int 0))) (eVar 1))) (sRet (eVar 2)))) (sNil)) (sSeq (sLSet (eVar 0) (eC (.int 2)) (e2 gAdd (e2 gIx (eVar 0) (eC (.int 2))) (eC (.int 1)))) (sSeq (sSet 3 (e2 gMod (eN (g1 gInt) (aCons (e2 gAdd (e2 gMul (e2 gAdd (e2 gIx (eVar 0) (eC (.int 1))) (e2 gMul (eC (.int 90089)) (e2 gIx (eVar 0) (eC (.int 2))))) (eC (.int 58217))) (eC (.int 43))) (aNil))) (eC (.int 2147483563)))) (sSeq (sLSet (eVar 0) (eC (.int 1)) (e2 gAdd (e2 gMod (eN (g1 gInt) (aCons (e2 gAdd (e2 gMul (eVar 3) (eC (.int 40289))) (eC (.int 27367))) (aNil))) (eC (.int 2147483629))) (eC (.int 1)))) (sRet (e2 gMod (eN (g1 gInt) (aCons (e2 gFdiv (e2 gAdd (e2 gMul (eVar 3) (eC (.int 2147483647))) (e2 gIx (eVar 0) (eC (.int 1)))) (eC (.int 8191))) (aNil))) (eVar 1)))))))
theorem fl_law_take : FLen f_law_take 2 := FLen.fn
theorem ok_law_take (T : Txt K mg w) : FnOk P w K mg base CX0 1 T.d_law_take.f T.d_law_take.fd ["_law_box_here", "_law_many"] (spF P w K 2 f_law_take) :=
  fn_ok T.d_law_take.F sc_law_take fun cdv A outer s H E hr => (css_cons (cs_if (ct_cmp or_gt (ce_ix (ce_var 0) ce_int) ce_int) (css_cons (cs_set sc_law_take.nd (ce_op or_mod (ce_callTy cr_int (by rfl) T.n_int (by decide +kernel) (ca_cons (ce_ix (ce_var 0) ce_int) ca_nil)) (ce_var 1))) (css_cons (cs_lset (ce_var 0) ce_int (ce_op or_fdiv (ce_ix (ce_var 0) ce_int) (ce_var 1))) (css_one (cs_ret (ce_var 2))))) css_nil) (css_cons (cs_lset (ce_var 0) ce_int (ce_op or_add (ce_ix (ce_var 0) ce_int) ce_int)) (css_cons (cs_set sc_law_take.nd (ce_op or_mod (ce_callTy cr_int (by rfl) T.n_int (by decide +kernel) (ca_cons (ce_op or_add (ce_op or_mul (ce_op or_add (ce_ix (ce_var 0) ce_int) (ce_op or_mul ce_int (ce_ix (ce_var 0) ce_int))) ce_int) ce_int) ca_nil)) ce_int)) (css_cons (cs_lset (ce_var 0) ce_int (ce_op or_add (ce_op or_mod (ce_callTy cr_int (by rfl) T.n_int (by decide +kernel) (ca_cons (ce_op or_add (ce_op or_mul (ce_var 3) ce_int) ce_int) ca_nil)) ce_int) ce_int)) (css_one (cs_ret (ce_op or_mod (ce_callTy cr_int (by rfl) T.n_int (by decide +kernel) (ca_cons (ce_op or_fdiv (ce_op or_add (ce_op or_mul (ce_var 3) ce_int) (ce_ix (ce_var 0) ce_int)) ce_int) ca_nil)) (ce_var 1))))))))
end
end K50
set_option Elab.async false
set_option linter.all false
set_option maxRecDepth 100000
set_option maxHeartbeats 4000000
namespace K50
open PySem PySem.Spec PyProof.Rows L2
theorem take_D (d s c m : Int) (hm : 0 < m) (h2 : m < 1073741824) : ∃ k d' s' c' : Int, 0 ≤ k ∧ k < m ∧ f_law_take [.ref 0, .int m] [.lst [.int d, .int s, .int c]] = some (.int k, [.lst [.int d', .int s', .int c']]) := by
  have hn : ∀ i : Int, 0 ≤ i % m ∧ i % m < m := fun i => ⟨Int.emod_nonneg i (by omega), Int.emod_lt_of_pos i hm⟩
  have i0 : ixN 3 0 = some 0 := by decide
  have i1 : ixN 3 1 = some 1 := by decide
  have i2 : ixN 3 2 = some 2 := by decide
  by_cases hd : 0 < d
  · refine ⟨d % m, d / m, s, c, (hn d).1, (hn d).2, ?_⟩
    simp [f_law_take, fnD, sSeq, sIf, bV, e2, eVar, eC, gGt, gIx, atI, wk, sSet, eN, aCons, aNil, g1, gInt, gMod, gFdiv, sLSet, gLSet, sRet, hd, hm, h2, i0, i1, i2]
  · refine ⟨((((s + 90089 * (c + 1)) * 58217 + 43) % 2147483563 * 2147483647 + (((((s + 90089 * (c + 1)) * 58217 + 43) % 2147483563) * 40289 + 27367) % 2147483629 + 1)) / 8191) % m, d, ((((s + 90089 * (c + 1)) * 58217 + 43) % 2147483563) * 40289 + 27367) % 2147483629 + 1, c + 1, (hn _).1, (hn _).2, ?_⟩
    simp [f_law_take, fnD, sSeq, sIf, bV, e2, eVar, eC, gGt, gIx, atI, wk, sSet, eN, aCons, aNil, g1, gInt, gMod, gFdiv, sLSet, gLSet, sRet, hd, hm, h2, i0, i1, i2, sNil, gAdd, gMul]
end K50
set_option Elab.async false
set_option linter.all false
set_option maxRecDepth 100000
set_option maxHeartbeats 4000000
namespace K50
open PySem PySem.Spec PyProof.Rows L2
/-! ### calls with keywords alone -/
abbrev CK (X : Cx) (kws : List Keyword) (f : FA) : Prop := PK X kws (tAa X.prog X.w X.K f)
theorem PK.le {X : Cx} {e : List Keyword} {t t' : TA} (h : PK X e t) (s : ∀ σ H Q, t' σ H Q → t σ H Q) : PK X e t' := ⟨fun pos pins sh σ H Q I q => h.run pos pins sh σ H Q I (s σ H Q q)⟩
section
variable {X : Cx} {e : Expr} {kws : List Keyword} {nm : Option Str} {kpos p pos : Pos} {fa : FE} {fr : FA} {x : Str} {k n : Nat} {f : Addr} {fd : FuncData} {ps ks : List Str} {F : FF}
theorem ck_nil : CK X [] aNil := by
  refine PK.le pk_nil fun σ H Q h => ?_
  obtain ⟨τ, ρ, S, d, S', rs, sr, e, q⟩ := h
  cases e
  exact q [] H ρ Ext.refl rs .nil
theorem ck_cons (h : CE X e fa) (hr : CK X kws fr) : CK X (⟨nm, e, kpos⟩ :: kws) (aCons fa fr) := by
  refine PK.le (pk_cons h hr) fun σ H Q h => ?_
  obtain ⟨τ, ρ, S, d, S', rs, sr, e, q⟩ := h
  unfold aCons at e
  split at e
  · rename_i x S1 ea
    split at e
    · rename_i y S2 eb
      cases e
      refine ⟨τ, ρ, S, x, S1, rs, sr, ea, fun v H1 ρ1 x1 rs1 a1 => ⟨τ, ρ1, S1, y, _, rs1, sr.ext rs x1, eb, fun u H2 ρ2 x2 rs2 a2 => ?_⟩⟩
      exact q (v :: u) H2 ρ2 (x1.trans x2) rs2 (.cons (At.kp (rs1.kp x2) _ _ a1) a2)
    · cases e
  · cases e
theorem ce_callK0 (G : FnOk X.prog X.w X.K X.mg X.base CX0 k f fd ps (spF X.prog X.w X.K n F)) (hl : FLen F n) (hr : Room k X.A) (hg : Gl X x) (hm : X.mg x = some (.ref f)) (hk : PySem.W.keepIn X.K (.ref f) = true) (hb : KBn X.K fd ps 0 ks (fun _ ws => ws) (fun _ zs => zs)) (hn : ks.length = n)
    (hkw : CK X kws fr) (hall : (backToKw pos (keywordEach kws X.env)).all (·.1.isSome) = true := by rfl) (hks : (backToKw pos (keywordEach kws X.env)).filterMap (·.1) = ks := by rfl) (hdb : (x == ("__debug__" : Str)) = false := by decide)
    (hpl : ((backTo pos (starEach [] X.env)).any (·.1) || (backToKw pos (keywordEach kws X.env)).any (·.1.isNone)) = false := by rfl) : CE X (.Call (.Name x p) [] kws pos) (eN F fr) := by
  refine ⟨fun pins s σ H Q I h => ?_⟩
  refine wpAny_Call_Name_kw (ld_glob I hg hm ?_ hdb)
  refine PySem.W.callWith_KW0 (h₀ := X.base) I.ok.mod.kin hk hall ?_ hpl
  have h2 : tAa X.prog X.w X.K fr σ H fun xs H2 => xs.length = n ∧ rC X.prog X.w X.K F xs H2 Q := tN h fun xs H2 q => ⟨by
    obtain ⟨ds, ρ, S, d, S', rs, al, e, q⟩ := q
    rw [al.length]
    exact hl _ _ _ e, q⟩
  refine thn (hkw.run pos pins s σ H _ I h2) fun ws s2 ⟨zs, H2, I2, rz, l2, q2⟩ => ⟨I2.kIn, ?_⟩
  rw [hks]
  exact run_fnN (us := []) (vs := []) G hr hb pass0 I2 .nil rz rfl (by rw [hn]; exact l2) ⟨l2, q2⟩
end
end K50
set_option Elab.async false
set_option linter.all false
set_option maxRecDepth 100000
set_option maxHeartbeats 4000000
namespace K50
open PySem PySem.Spec PyProof.Rows L2
/-! ### the box of drawn numbers -/
def BoxAt (H : Hp) (a : Addr) : Prop := ∃ d s c : Int, H a = some (.lst [.int d, .int s, .int c])
/-- all else stays -/
structure BoxStep (H : Hp) (a : Addr) (H' : Hp) : Prop where
  keep : ∀ b o, H b = some o → b ≠ a → H' b = some o
  box : BoxAt H' a
def spTake : Sp := fun vs H Q _ => ∃ (a : Addr) (m : Int), vs = [.ref a, .int m] ∧ BoxAt H a ∧ 0 < m ∧ m < 1073741824 ∧ ∀ k H', 0 ≤ k → k < m → BoxStep H a H' → Q (.int k) H'
def spPick (K : PySem.W.Frag) : Sp := fun vs H Q _ => ∃ (a l : Addr) (xs : List V), vs = [.ref a, .ref l] ∧ BoxAt H a ∧ l ≠ a ∧ (SqL K H l xs ∨ SqT K H l xs) ∧ xs ≠ [] ∧ xs.length ≤ 4000 ∧ ∀ v H', v ∈ xs → BoxStep H a H' → Q v H'
section
variable {P : Program} {w : World} {K : PySem.W.Frag} {mg : Str → Option Value} {base : Heap} {H H' : Hp} {a l : Addr} {xs : List V}
theorem BoxStep.notA {o : HO} (b : BoxAt H a) (h : H l = some o) (ho : ∀ ys, o ≠ .lst ys) : l ≠ a := fun e => by
  obtain ⟨d, s, c, z⟩ := b
  rw [e, z] at h
  exact ho _ (Option.some.inj h).symm
theorem BoxStep.seqL (st : BoxStep H a H') (b : BoxAt H a) (hl : l ≠ a) (h : SqL K H l xs) : SqL K H' l xs := by
  rcases h with (h | ⟨o, h⟩) | h
  · exact .inl (.inl (st.keep _ _ h hl))
  · exact .inl (.inr ⟨o, st.keep _ _ h hl⟩)
  · exact .inr h
theorem BoxStep.seqT (st : BoxStep H a H') (b : BoxAt H a) (h : SqT K H l xs) : SqT K H' l xs := by
  rcases h with (h | ⟨o, h⟩) | h
  · exact .inl (.inl (st.keep _ _ h (BoxStep.notA b h fun _ z => nomatch z)))
  · exact .inl (.inr ⟨o, st.keep _ _ h (BoxStep.notA b h fun _ z => nomatch z)⟩)
  · exact .inr h
theorem ok_take (T : Txt K mg w) : FnOk P w K mg base CX0 1 T.d_law_take.f T.d_law_take.fd ["_law_box_here", "_law_many"] spTake := by
  refine (ok_law_take T).imp fun vs H Q E h => ?_
  obtain ⟨a, m, rfl, ⟨d, s, c, hb⟩, h0, h1, q⟩ := h
  refine ⟨rfl, ?_⟩
  obtain ⟨k, d', s', c', k0, k1, e⟩ := take_D d s c m h0 h1
  have rs : RS P w K H [a] [.lst [.int d, .int s, .int c]] := ⟨rfl, by simp, fun i b o h1 h2 => by
    cases i with
    | zero =>
      have e1 : a = b := by simpa using h1
      have e2 : Ob.lst [.int d, .int s, .int c] = o := by simpa using h2
      subst e1 e2
      exact ⟨_, hb, .cons (.int d) (.cons (.int s) (.cons (.int c) .nil))⟩
    | succ i => simp at h1⟩
  refine ⟨[.ref 0, .int m], [a], _, _, _, rs, .cons (.ref rfl) (.cons (.int m) .nil), e, fun v H' ρ' x rs' a' => ?_⟩
  cases a'
  refine q k H' k0 k1 ⟨fun b o hbo hn => x.out b o hbo (by simpa using hn), ?_⟩
  obtain ⟨ρ1, e1, _⟩ := x.more
  have e2 : ρ'[0]? = some a := by rw [e1]; rfl
  obtain ⟨us, e3, l⟩ := rs'.lst e2 rfl
  cases l with
  | cons a1 l =>
    cases l with
    | cons a2 l =>
      cases l with
      | cons a3 l =>
        cases l
        cases a1
        cases a2
        cases a3
        exact ⟨_, _, _, e3⟩
end
end K50
set_option Elab.async false
set_option linter.all false
set_option maxRecDepth 100000
set_option maxHeartbeats 4000000
namespace K50
open PySem PySem.Spec PyProof.Rows L2
theorem none_of {H H' : Hp} {p : Addr} (sm : ∀ b o, H b = some o → H' b = some o) (h : H' p = none) : H p = none := by
  cases e : H p with
  | none => rfl
  | some o => rw [sm _ _ e] at h; cases h
section
variable {P : Program} {w : World} {K : PySem.W.Frag} {mg : Str → Option Value} {base : Heap} {H H' : Hp} {a l : Addr} {xs : List V}
theorem sc_law_pick : FnScope ["_law_box_here", "_law_some"] ["_law_box_here", "_law_some"] (defScope s_law_pick) := ⟨rfl, rfl, rfl, by decide +kernel, rfl, by decide +kernel, by decide +kernel⟩
theorem ok_pick (T : Txt K mg w) : FnOk P w K mg base CX0 2 T.d_law_pick.f T.d_law_pick.fd ["_law_box_here", "_law_some"] (spPick K) := by
  refine T.d_law_pick.F.ok sc_law_pick (fun vs H Q E h => ?_) (fun cdv A outer s H vs Q E hr h => ?_)
  · obtain ⟨a, l, xs, rfl, _⟩ := h
    rfl
  · refine ⟨_, pss_one (ps_ret (pe_ix ix_seq (pv 1) (pe_call (ok_take T) (hr.mono (by decide)) (by rfl) T.d_law_take.g T.d_law_take.F.kp T.d_law_take.b .nil pass0 (pa_cons (pv 0) (pa_cons (pe_callB call_len_seq (by rfl) T.n_len (by decide +kernel) (pa_cons (pv 1) pa_nil)) pa_nil))) (fun _ _ => rfl))), ?_⟩
    obtain ⟨a, l, xs, rfl, hb, hl, hs, hx, hz, q⟩ := h
    have hlen : 0 < xs.length := List.length_pos_iff.mpr hx
    refine ⟨.ref l, rfl, .ref a, rfl, .ref l, rfl, l, xs, rfl, hs, a, xs.length, rfl, hb, by omega, by omega, fun k H' k0 k1 st => ?_⟩
    have hk : k.toNat < xs.length := by omega
    have hat : atI xs k = some xs[k.toNat] := by
      unfold atI ixN
      rw [if_pos k0, if_pos (by omega)]
      exact List.getElem?_eq_getElem hk
    have hm : xs[k.toNat] ∈ xs := List.getElem_mem hk
    rcases hs with hs | hs
    · exact .inl ⟨l, xs, k, _, rfl, rfl, st.seqL hb hl hs, hat, q _ H' hm st⟩
    · exact .inr (.inl ⟨l, xs, k, _, rfl, rfl, st.seqT hb hs, hat, q _ H' hm st⟩)
/-- the box is made -/
def spBox (K : PySem.W.Frag) : Sp := fun vs H Q _ => ∃ (l : Addr) (ns : List Int), vs = [.ref l, .int 0] ∧ SqL K H l (ns.map V.int) ∧ ∀ p H', (∀ b o, H b = some o → H' b = some o) → H p = none → BoxAt H' p → Q (.ref p) H'
theorem sc_law_box : FnScope ["_law_script", "_law_k", "_law_cell"] ["_law_script", "_law_k"] (defScope s_law_box) := ⟨rfl, rfl, rfl, by decide +kernel, rfl, by decide +kernel, by decide +kernel⟩
theorem ok_box (T : Txt K mg w) : FnOk P w K mg base CX0 1 T.d_law_box.f T.d_law_box.fd ["_law_script", "_law_k"] (spBox K) := by
  refine T.d_law_box.F.ok sc_law_box (fun vs H Q E h => ?_) (fun cdv A outer s H vs Q E hr h => ?_)
  · obtain ⟨l, ns, rfl, _⟩ := h
    rfl
  · refine ⟨_, pss_cons (ps_set (i := 2) sc_law_box.nd rfl (.inl rfl) (pe_op op_add (pe_op op_mul pe_int (pv 1)) pe_int))
      (pss_cons (ps_if (pt_cmpR op_lt (pv 1) (pe_callB call_len_seq (by rfl) T.n_len (by decide +kernel) (pa_cons (pv 0) pa_nil)) (nomark _))
        (pss_one (ps_set (i := 2) sc_law_box.nd rfl (.inl rfl) (pe_callB call_abs (by rfl) T.n_abs (by decide +kernel) (pa_cons (pe_ix ix_list (pv 0) (pv 1) (fun _ _ => rfl)) pa_nil))))
        (pss_one (ps_if (pt_cmpR op_gt (pe_callB call_len_seq (by rfl) T.n_len (by decide +kernel) (pa_cons (pv 0) pa_nil)) pe_int (nomark _)) pss_never pss_nil)))
      (pss_one (ps_ret (pe_lst (pa_cons (pe_ix ix_list (pe_lst (pa_cons pe_int (pa_cons (pv 2) pa_nil))) (pe_callTy call_int1 (by rfl) T.n_int (by decide +kernel) (pa_cons (pe_cmpR op_ge (pv 2) (pe_op op_pow pe_int pe_int) (nomark _)) pa_nil)) (fun _ _ => rfl))
        (pa_cons (pe_op op_add (pe_op op_mod (pe_callTy call_int1 (by rfl) T.n_int (by decide +kernel) (pa_cons (pe_op op_add (pe_op op_mul (pe_op op_mod (pe_callTy call_int1 (by rfl) T.n_int (by decide +kernel) (pa_cons (pv 2) pa_nil)) pe_int) pe_int) (pe_op op_mul pe_int (pv 1))) pa_nil)) pe_int) pe_int)
        (pa_cons pe_int pa_nil))))))), ?_⟩
    obtain ⟨l, ns, rfl, hs, q⟩ := h
    have boxI : ∀ (k : Bool) (c : Int), atI [V.int 0, V.int c] (if k = true then 1 else 0) = some (V.int (if k then c else 0)) := fun k c => by cases k <;> rfl
    have two : ([V.int 0, V.int 0] : List V).length ≤ sizeLine := by rw [sizeLine_eq]; decide
    have three : ([V.int 0, V.int 0, V.int 0] : List V).length ≤ sizeLine := by rw [sizeLine_eq]; decide
    refine ⟨.int 0, rfl, 8539, 0, rfl, rfl, .inl (by decide), _, _, rfl, rfl, ?_⟩
    refine ⟨.int 0, rfl, .ref l, rfl, l, ns.map V.int, rfl, .inl hs, 0, _, rfl, rfl, _, rfl, ite2 (fun h => ?_) (fun h => ?_)⟩
    · have hn : 0 < ns.length := by
        have h1 := of_decide_eq_true h
        rw [List.length_map] at h1
        omega
      have hat : atI (ns.map V.int) 0 = some (.int ns[0]) := by
        unfold atI ixN
        rw [if_pos (by decide), if_pos (by rw [List.length_map]; omega)]
        show (ns.map V.int)[0]? = _
        rw [List.getElem?_map, List.getElem?_eq_getElem hn]
        rfl
      refine ⟨.ref l, rfl, .int 0, rfl, l, _, 0, _, rfl, rfl, hs, hat, _, rfl, ?_⟩
      refine ⟨_, rfl, two, fun t ht => ?_⟩
      have sm : ∀ b o, H b = some o → upd H t (.lst [.int 0, .int (if ns[0] < 0 then -ns[0] else ns[0])]) b = some o := fun b o e => by rw [upd_ne (ne_of_none e ht)]; exact e
      refine ⟨_, rfl, 10, 18, rfl, rfl, ⟨by decide, by decide, by decide⟩, _, _, rfl, rfl, .inr ⟨_, rfl, t, _, _, _, rfl, rfl, .inl (.inl upd_same), boxI _ _, ?_⟩⟩
      refine ⟨_, rfl, .inl ⟨_, rfl, _, _, rfl, rfl, (by show (0 : Int) < 2147483629; decide), _, _, rfl, rfl, .inr (by decide), ?_⟩⟩
      refine ⟨_, rfl, _, _, rfl, rfl, .inl (by decide), _, _, rfl, rfl, .inl ⟨_, rfl, _, _, rfl, rfl, (by show (0 : Int) < 2147483629; decide), _, _, rfl, rfl, three, fun p hp => ?_⟩⟩
      exact q p _ (fun b o e => by rw [upd_ne (ne_of_none (sm b o e) hp)]; exact sm b o e) (none_of sm hp) ⟨_, _, _, upd_same⟩
    · refine ⟨.ref l, rfl, l, ns.map V.int, rfl, .inl hs, _, _, rfl, rfl, _, rfl, ite2 (fun h2 => absurd (of_decide_eq_true h2) fun h3 => h (decide_eq_true h3)) (fun h2 => ?_)⟩
      refine ⟨_, rfl, two, fun t ht => ?_⟩
      have sm : ∀ b o, H b = some o → upd H t (.lst [.int 0, .int (8539 * 0 + 743)]) b = some o := fun b o e => by rw [upd_ne (ne_of_none e ht)]; exact e
      refine ⟨_, rfl, 10, 18, rfl, rfl, ⟨by decide, by decide, by decide⟩, _, _, rfl, rfl, .inr ⟨_, rfl, t, _, _, _, rfl, rfl, .inl (.inl upd_same), boxI _ _, ?_⟩⟩
      refine ⟨_, rfl, .inl ⟨_, rfl, _, _, rfl, rfl, by decide, _, _, rfl, rfl, .inr (by decide), ?_⟩⟩
      refine ⟨_, rfl, _, _, rfl, rfl, .inl (by decide), _, _, rfl, rfl, .inl ⟨_, rfl, _, _, rfl, rfl, by decide, _, _, rfl, rfl, three, fun p hp => ?_⟩⟩
      exact q p _ (fun b o e => by rw [upd_ne (ne_of_none (sm b o e) hp)]; exact sm b o e) (none_of sm hp) ⟨_, _, _, upd_same⟩
end
end K50
set_option Elab.async false
set_option linter.all false
set_option maxRecDepth 100000
set_option maxHeartbeats 4000000
namespace K50
open PySem PySem.Spec PyProof.Rows L2
/-! ### a comprehension whose target is a pair of names -/
def lcTL (nx : Nx) (k1 k2 : Nat) (tt : FB) (el : FE) (τw : Sl) (r : Nat) : Nat → Nat → Sto → Option Sto
  | 0, _, _ => none
  | n + 1, i, S => match nx i S with
    | none => none
    | some none => some S
    | some (some (.tup [d1, d2])) => match tt ((τw.set k1 (some d1)).set k2 (some d2)) S with
      | some (true, S2) => match el ((τw.set k1 (some d1)).set k2 (some d2)) S2 with
        | some (y, S3) => match S3[r]? with
          | some (.lst acc) => if short acc then lcTL nx k1 k2 tt el τw r n (i + 1) (S3.set r (.lst (acc ++ [y]))) else none
          | _ => none
        | none => none
      | some (false, S2) => lcTL nx k1 k2 tt el τw r n (i + 1) S2
      | none => none
    | some (some _) => none
def eLcT (fi : FI) (k1 k2 : Nat) (tt : FB) (el : FE) (vs : List Nat) : FE := fun τ S => match fi τ S with
  | some (nx, n, S1) => match lcTL nx k1 k2 tt el (wipeD τ vs) S1.length (n + 1) 0 (S1 ++ [.lst []]) with
    | some S2 => some (.ref S1.length, S2)
    | none => none
  | none => none
/-- a pair taken apart into two slots -/
def gPair (K : PySem.W.Frag) (k1 k2 : Nat) : TG := fun v σ H Q => ∃ a x y, v = .ref a ∧ SqT K H a [x, y] ∧ Q ((σ.set k1 (some x)).set k2 (some y)) H
theorem pg_pair {X : Cx} {k1 k2 : Nat} {x y : Str} {px py pos : Pos} {kk : Nat} (hc : X.calm = true) (hN : X.N.Nodup) (hi : X.N[k1]? = some x := by rfl) (hj : X.N[k2]? = some y := by rfl) (hx : Loc X.env.scope x := by first | exact Or.inl rfl | exact Or.inr rfl) (hy : Loc X.env.scope y := by first | exact Or.inl rfl | exact Or.inr rfl)
    (hf : X.fn x = true ∨ X.env.scope.names.lookup x = some .local := by first | exact .inl rfl | exact .inr rfl | assumption) (hf2 : X.fn y = true ∨ X.env.scope.names.lookup y = some .local := by first | exact .inl rfl | exact .inr rfl | assumption)
    (hs : (assignEach [.Name x px, .Name y py] X.env).map (·.2) = assign (.Name x px) X.env :: (assignEach [.Name y py] X.env).map (·.2) := by rfl) (hs2 : (assignEach [.Name y py] X.env).map (·.2) = assign (.Name y py) X.env :: (assignEach [] X.env).map (·.2) := by rfl)
    (hn : (assignEach [.Name x px, .Name y py] X.env).length = 2 := by rfl) (hst : (assignEach [.Name x px, .Name y py] X.env).findIdx? (·.1) = none := by rfl) : PG X (.Tuple [.Name x px, .Name y py] kk pos) (gPair X.K k1 k2) := by
  refine PG.le (pg_tup hc (pgs_cons (pg_name hN hi hx hf) (pgs_cons (pg_name hN hj hy hf2) pgs_nil hs2) hs) hn hst) fun v σ H Q h => ?_
  obtain ⟨a, x, y, rfl, ht, q⟩ := h
  exact ⟨a, [x, y], rfl, ht, rfl, x, [y], rfl, y, [], rfl, rfl, q⟩
theorem lcT_loop {P : Program} {w : World} {K : PySem.W.Frag} {nx : Nx} {J : It} {k1 k2 : Nat} {tt : FB} {el : FE} {is : List Nat} {H0 H1 : Hp} {ρ0 ρ1 : List Addr} {S1 Sf : Sto} {r n : Nat} {D : Addr} {σ : L2.St} {τw : Sl} {Qd : Hp → Prop} (hk : k1 ∈ is) (hk2 : k2 ∈ is)
    (ok : ItOk P w K H0 ρ0 nx J) (x0 : Ext H0 ρ0 H1 ρ1) (rs1 : RS P w K H1 ρ1 S1) (hDi : ρ1[r]? = some D) (srw : SR K H1 ρ1 (wipe σ is) τw) (h : lcTL nx k1 k2 tt el τw r n 0 S1 = some Sf) (fin : ∀ H2 ρ2, Ext H1 ρ1 H2 ρ2 → RS P w K H2 ρ2 Sf → Qd H2) :
    ∃ W : Nat → Nat → Hp → Prop, (∃ m, W 0 m H1) ∧ ∀ i m H, W i m H → (J.stop i H ∧ Qd H) ∨ (J.go i H ∧ ∃ Nx : Hp → Prop, (∀ H', Nx H' → ∃ m', m' < m ∧ W (i + 1) m' H') ∧ ∀ x H', J.yld i H x H' → gPair K k1 k2 x (wipe σ is) H' fun σ2 H2 => wipe σ2 is = wipe σ is ∧ tBb P w K tt σ2 H2 fun b H3 =>
      if b = true then tE P w K el σ2 H3 fun y H4 => ∃ acc, H4 D = some (.lst acc) ∧ acc.length < sizeLine ∧ Nx (upd H4 D (.lst (acc ++ [y]))) else Nx H3) := by
  refine ⟨fun i m H2 => ∃ ρ2 S2', Ext H1 ρ1 H2 ρ2 ∧ RS P w K H2 ρ2 S2' ∧ lcTL nx k1 k2 tt el τw r m i S2' = some Sf, ⟨n, _, _, Ext.refl, rs1, h⟩, ?_⟩
  rintro i m H2 ⟨ρ2, S2', x2, rs2, e2⟩
  obtain ⟨o1, o2⟩ := ok i H2 ρ2 S2' (x0.trans x2) rs2
  have sr2 : SR K H2 ρ2 (L2.wipe σ is) τw := srw.ext rs1 x2
  cases m with
  | zero => cases e2
  | succ m =>
    unfold lcTL at e2
    split at e2
    · cases e2
    · rename_i hn
      cases e2
      exact .inl ⟨o1 hn, fin H2 ρ2 x2 rs2⟩
    · rename_i d1 d2 hn
      obtain ⟨g, y⟩ := o2 _ hn
      refine .inr ⟨g, fun H' => ∃ ρ3 S3, Ext H1 ρ1 H' ρ3 ∧ RS P w K H' ρ3 S3 ∧ lcTL nx k1 k2 tt el τw r m (i + 1) S3 = some Sf, fun H' h => ⟨m, Nat.lt_succ_self m, h⟩, fun x H3 hy => ?_⟩
      obtain ⟨x3, rs3, a3⟩ := y x H3 hy
      cases a3 with
      | tup ht l =>
        obtain ⟨v1, v2, rfl, a1, a2⟩ := al2 l
        refine ⟨_, v1, v2, rfl, ht, ?_, ?_⟩
        · have z : ∀ σ' : L2.St, wipe σ' is = wipe σ is → wipe (σ'.set k2 (some v2)) is = wipe σ is := fun σ' e => by
            refine List.ext_getElem? fun j => ?_
            rw [← e, wipe_get, wipe_get, List.length_set]
            by_cases hm : j ∈ is
            · rw [if_pos hm, if_pos hm]
            · rw [if_neg hm, if_neg hm]
              have : k2 ≠ j := fun e => hm (e ▸ hk2)
              rw [List.getElem?_set_ne this]
          exact z _ (wipe_set hk)
        have sr3 := ((sr2.ext rs2 x3).set a1 k1).set a2 k2
        split at e2
        · rename_i S4 h4
          refine ⟨_, ρ2, S2', true, S4, rs3, sr3, h4, fun H4 ρ4 x4 rs4 => iteT ?_⟩
          split at e2
          · rename_i y S5 h5
            refine ⟨_, ρ4, S4, y, S5, rs4, sr3.ext rs3 x4, h5, fun v H5 ρ5 x5 rs5 a5 => ?_⟩
            split at e2
            · rename_i acc hacc
              split at e2
              · rename_i hsh
                have hD5 : ρ5[r]? = some D := ((x2.trans x3).trans (x4.trans x5)).pre hDi
                obtain ⟨us, e5, l5⟩ := rs5.lst hD5 hacc
                refine ⟨us, e5, by rw [l5.length, sizeLine_eq]; have := short_le hsh; omega, ?_⟩
                have kp := rs5.writeKp (.lst (us ++ [v])) hD5
                obtain ⟨rs6, x6⟩ := rs5.write (o := .lst (us ++ [v])) (ob := .lst (acc ++ [y])) hD5 e5 (fun _ _ z => nomatch z) ⟨_, upd_same, AtL.kp kp _ _ (l5.append (AtL.one a5))⟩
                exact ⟨ρ5, _, (((x2.trans x3).trans x4).trans x5).trans x6, rs6, e2⟩
              · cases e2
            · cases e2
          · cases e2
        · rename_i S4 h4
          exact ⟨_, ρ2, S2', false, S4, rs3, sr3, h4, fun H4 ρ4 x4 rs4 => iteF ⟨ρ4, S4, (x2.trans x3).trans x4, rs4, e2⟩⟩
        · cases e2
    · cases e2
theorem lcT_to {P : Program} {w : World} {K : PySem.W.Frag} {fi : FI} {k1 k2 : Nat} {tt : FB} {el : FE} {is : List Nat} (hk : k1 ∈ is) (hk2 : k2 ∈ is) {σ : L2.St} {H : Hp} {Q : VK} (h : tE P w K (eLcT fi k1 k2 tt el is) σ H Q) :
    tLc (tIi P w K fi) (gPair K k1 k2) (tBb P w K tt) (tE P w K el) is σ H Q := by
  obtain ⟨τ, ρ, S, d, Sf, rs, sr, e, q⟩ := h
  unfold eLcT at e
  split at e
  · rename_i nx n S1 h1
    split at e
    · rename_i S2 h2
      cases e
      refine ⟨τ, ρ, S, nx, n, S1, rs, sr, h1, fun J H1 ρ1 x1 rs1 ok D hD => ?_⟩
      obtain ⟨rs1', x1'⟩ := rs1.push (o := .lst []) (ob := .lst []) hD ⟨[], upd_same, .nil⟩
      have hDi : (ρ1 ++ [D])[S1.length]? = some D := by
        rw [← rs1.len, List.getElem?_append_right (Nat.le_refl _), Nat.sub_self]
        rfl
      have srw' : SR K (upd H1 D (.lst [])) (ρ1 ++ [D]) (L2.wipe σ is) (wipeD τ is) := ((sr.ext rs x1).wipe is).ext rs1 x1'
      exact lcT_loop hk hk2 ok x1' rs1' hDi srw' h2 fun H2 ρ2 x2 rs2 => q _ H2 ρ2 ((x1.trans x1').trans x2) rs2 (.ref (x2.pre hDi))
    · cases e
  · cases e
theorem ce_lcT {X : Cx} {elt tg iter : Expr} {ifs : List Expr} {scope : Scope} {own : List (Str × Nat)} {pos : Pos} {fi : FI} {k1 k2 : Nat} {tt : FB} {el : FE} (hc : X.calm = true) (hN : X.N.Nodup) (hi : CI X tg iter fi) (ok : BlkOk X.N X.env.scope scope own)
    (hg : ∀ (s : Shared) (H : Hp) (C : Addr) (cl : List (Str × Addr)) (fp : List Addr), PG (X.blk s H scope (compEnvC scope cl C X.env) fp) tg (gPair X.K k1 k2))
    (ht : ∀ (s : Shared) (H : Hp) (C : Addr) (cl : List (Str × Addr)) (fp : List Addr), CTs (X.blk s H scope (compEnvC scope cl C X.env) fp) ifs tt)
    (he : ∀ (s : Shared) (H : Hp) (C : Addr) (cl : List (Str × Addr)) (fp : List Addr), CE (X.blk s H scope (compEnvC scope cl C X.env) fp) elt el) (hk : k1 ∈ own.map (·.2) := by decide) (hk2 : k2 ∈ own.map (·.2) := by decide) (hs : ∀ x, foldedSetIterable iter X.env x = pure x := by intro _; rfl) :
    CE X (.ListComp elt [⟨tg, iter, ifs, 0⟩] scope pos) (eLcT fi k1 k2 tt el (own.map (·.2))) :=
  PE.le (pe_lc hc hN hi ok hg ht he hs) fun σ H Q h => lcT_to hk hk2 h
end K50
set_option Elab.async false
set_option linter.all false
set_option maxRecDepth 100000
set_option maxHeartbeats 4000000
namespace K50
open PySem PySem.Spec PyProof.Rows L2
section
variable {P : Program} {w : World} {K : PySem.W.Frag} {mg : Str → Option Value} {base : Heap}
theorem sc_law : FnScope ["_law_script", "_law_box_here", "_law_size", "_law_told", "_law_places_here", "_law_word", "_law_power", "_law_product", "_law_value", "_law_due", "_law_tables_here", "_law_sense", "_law_one", "_law_some", "_law_turn", "_law_at", "_law_works", "_law_work"] ["_law_script"] (defScope s_law) := ⟨rfl, rfl, rfl, by decide +kernel, rfl, by decide +kernel, by decide +kernel⟩
abbrev lawS (i : Nat) : Stmt := (defBody s_law).getD i (.Pass ⟨0, 0, 0, 0⟩)
abbrev forBody : Stmt → List Stmt
  | .For _ _ b _ _ => b
  | _ => []
abbrev lawB (i : Nat) : Stmt := (forBody (lawS 10)).getD i (.Pass ⟨0, 0, 0, 0⟩)
def f_law2 : FS := sSet 3 (eN (pureF f_seen_program) (aCons (eVar 2) (aNil)))
theorem cs_law2 (T : Txt K mg w) {cdv : Value} {A : Around} {outer : List Env} {s : Shared} {H : Hp} {E : XK} (hr : Room 40 (A.deeper (envOfC "law" (defScope s_law) s.heap.objs.size T.d_law.f cdv))) : CS (cxOf CX0 P w K mg base ["_law_script", "_law_box_here", "_law_size", "_law_told", "_law_places_here", "_law_word", "_law_power", "_law_product", "_law_value", "_law_due", "_law_tables_here", "_law_sense", "_law_one", "_law_some", "_law_turn", "_law_at", "_law_works", "_law_work"] "law" (defScope s_law) T.d_law.f cdv A outer s H E).nox (lawS 2) f_law2 := (cs_set sc_law.nd (ce_callK0 (FnOk.pureF (ok_seen_program T)) (FLen.pure fl_seen_program) (hr.mono (by decide)) (by rfl) T.d_seen_program.g T.d_seen_program.F.kp T.kb_seen_program rfl (ck_cons (ce_var 2) ck_nil)))
def f_law3 : FS := sIf (bOr (bNot (bV (eIsi .tup (eVar 3)))) (bOr (bV (e2 gNe (eN (g1 gLen) (aCons (eVar 3) (aNil))) (eC (.int 3)))) (bOr (bV (e2 gNe (eN (pureF f_need_program) (aCons (eN dTup (aCons (eVar 2) (aCons (eN dTup (aNil)) (aNil)))) (aCons (e2 gIx (eVar 3) (eC (.int 0))) (aNil)))) (e2 gIx (eVar 3) (eC (.int 0))))) (bNot (bV (eN (f_law_seen 4) (aCons (e2 gIx (e2 gIx (eVar 3) (eC (.int 0))) (eC (.int 1))) (aNil)))))))) (sRet (eC (.bl false))) (sNil)
theorem cs_law3 (T : Txt K mg w) {cdv : Value} {A : Around} {outer : List Env} {s : Shared} {H : Hp} {E : XK} (hr : Room 40 (A.deeper (envOfC "law" (defScope s_law) s.heap.objs.size T.d_law.f cdv))) : CS (cxOf CX0 P w K mg base ["_law_script", "_law_box_here", "_law_size", "_law_told", "_law_places_here", "_law_word", "_law_power", "_law_product", "_law_value", "_law_due", "_law_tables_here", "_law_sense", "_law_one", "_law_some", "_law_turn", "_law_at", "_law_works", "_law_work"] "law" (defScope s_law) T.d_law.f cdv A outer s H E).nox (lawS 3) f_law3 := (cs_if (ct_w (cw_or (ct_not (ct_val (ce_isi .tup (by decide) (by rfl) T.n_isinstance (ce_var 3) (by rfl) T.n_tuple (by decide +kernel)))) (cw_or (ct_cmp (or_ne hr.units) (ce_callB cr_len (by rfl) T.n_len (by decide +kernel) (ca_cons (ce_var 3) ca_nil)) ce_int) (cw_or (ct_cmp (or_ne hr.units) (ce_call (FnOk.pureF (ok_need_program T)) (FLen.pure fl_need_program) (hr.mono (by decide)) (by rfl) T.d_need_program.g T.d_need_program.F.kp T.d_need_program.b (ca_cons (ce_tup (ca_cons (ce_var 2) (ca_cons (ce_tup ca_nil) ca_nil))) (ca_cons (ce_ix (ce_var 3) ce_int) ca_nil))) (ce_ix (ce_var 3) ce_int)) (cw_or1 (ct_not (ct_val (ce_call (ok_law_seen T 4) (fl_law_seen 4) (hr.mono (by decide)) (by rfl) T.d_law_seen.g T.d_law_seen.F.kp T.d_law_seen.b (ca_cons (ce_ix (ce_ix (ce_var 3) ce_int) ce_int) ca_nil))))))))) (css_one (cs_ret ce_bl)) css_nil)
def f_law4 : FS := sIf (bOr (bV (e2 gNotIn (e2 gIx (eVar 3) (eC (.int 2))) (e2 gIx (eN (pureF f_law_kept) (aCons (eN dTup (aCons (eVar 2) (aCons (eN dTup (aNil)) (aNil)))) (aCons (e2 gIx (eVar 3) (eC (.int 0))) (aCons (eC .non) (aNil))))) (e2 gIx (eVar 3) (eC (.int 1)))))) (bV (e2 gIn (e2 gIx (eVar 3) (eC (.int 2))) (e2 gIx (eN (pureF f_law_shown) (aCons (eN dTup (aCons (eVar 2) (aCons (eN dTup (aNil)) (aNil)))) (aCons (e2 gIx (eVar 3) (eC (.int 0))) (aNil)))) (e2 gIx (eVar 3) (eC (.int 1))))))) (sRet (eC (.bl false))) (sNil)
theorem cs_law4 (T : Txt K mg w) {cdv : Value} {A : Around} {outer : List Env} {s : Shared} {H : Hp} {E : XK} (hr : Room 40 (A.deeper (envOfC "law" (defScope s_law) s.heap.objs.size T.d_law.f cdv))) : CS (cxOf CX0 P w K mg base ["_law_script", "_law_box_here", "_law_size", "_law_told", "_law_places_here", "_law_word", "_law_power", "_law_product", "_law_value", "_law_due", "_law_tables_here", "_law_sense", "_law_one", "_law_some", "_law_turn", "_law_at", "_law_works", "_law_work"] "law" (defScope s_law) T.d_law.f cdv A outer s H E).nox (lawS 4) f_law4 := (cs_if (ct_w (cw_or (ct_cmp (or_notIn (u65 hr)) (ce_ix (ce_var 3) ce_int) (ce_ix (ce_call (FnOk.pureF (ok_law_kept T)) (FLen.pure fl_law_kept) (hr.mono (by decide)) (by rfl) T.d_law_kept.g T.d_law_kept.F.kp T.d_law_kept.b (ca_cons (ce_tup (ca_cons (ce_var 2) (ca_cons (ce_tup ca_nil) ca_nil))) (ca_cons (ce_ix (ce_var 3) ce_int) (ca_cons ce_non ca_nil)))) (ce_ix (ce_var 3) ce_int))) (cw_or1 (ct_cmp (or_in (u65 hr)) (ce_ix (ce_var 3) ce_int) (ce_ix (ce_call (FnOk.pureF (ok_law_shown T)) (FLen.pure fl_law_shown) (hr.mono (by decide)) (by rfl) T.d_law_shown.g T.d_law_shown.F.kp T.d_law_shown.b (ca_cons (ce_tup (ca_cons (ce_var 2) (ca_cons (ce_tup ca_nil) ca_nil))) (ca_cons (ce_ix (ce_var 3) ce_int) ca_nil))) (ce_ix (ce_var 3) ce_int)))))) (css_one (cs_ret ce_bl)) css_nil)
def f_law6 : FS := sTup [6, 7] (eN dTup (aCons (eC (.int 1)) (aCons (eC (.int 1)) (aNil))))
theorem cs_law6 (T : Txt K mg w) {cdv : Value} {A : Around} {outer : List Env} {s : Shared} {H : Hp} {E : XK} (hr : Room 40 (A.deeper (envOfC "law" (defScope s_law) s.heap.objs.size T.d_law.f cdv))) : CS (cxOf CX0 P w K mg base ["_law_script", "_law_box_here", "_law_size", "_law_told", "_law_places_here", "_law_word", "_law_power", "_law_product", "_law_value", "_law_due", "_law_tables_here", "_law_sense", "_law_one", "_law_some", "_law_turn", "_law_at", "_law_works", "_law_work"] "law" (defScope s_law) T.d_law.f cdv A outer s H E).nox (lawS 6) f_law6 := (cs_tup rfl (cg_cons sc_law.nd (cg_cons sc_law.nd cg_nil)) (ce_tup (ca_cons ce_int (ca_cons ce_int ca_nil))))
def f_law7 : FS := sFor (iRg1 (eVar 2)) (.inl 8) (sPar 6 7 (e2 gMul (eVar 6) (eVar 2)) (e2 gMul (eVar 7) (e2 gAdd (eVar 8) (eC (.int 1)))))
theorem cs_law7 (T : Txt K mg w) {cdv : Value} {A : Around} {outer : List Env} {s : Shared} {H : Hp} {E : XK} (hr : Room 40 (A.deeper (envOfC "law" (defScope s_law) s.heap.objs.size T.d_law.f cdv))) : CS (cxOf CX0 P w K mg base ["_law_script", "_law_box_here", "_law_size", "_law_told", "_law_places_here", "_law_word", "_law_power", "_law_product", "_law_value", "_law_due", "_law_tables_here", "_law_sense", "_law_one", "_law_some", "_law_turn", "_law_at", "_law_works", "_law_work"] "law" (defScope s_law) T.d_law.f cdv A outer s H E).nox (lawS 7) f_law7 := (cs_for PassesOwn.never rfl (ci_rg1 (by rfl) T.n_range (ce_var 2)) (cg_name sc_law.nd) (css_one (cs_par rfl sc_law.nd (ce_op or_mul (ce_var 6) (ce_var 2)) (ce_op or_mul (ce_var 7) (ce_op or_add (ce_var 8) ce_int)))))
def f_law8 : FS := sSet 9 (e2 gAdd (eVar 2) (e2 gMul (eVar 4) (eIf (bV (e2 gEq (eVar 5) (eC (.str ⟨#[101, 120, 97, 99, 116]⟩)))) (e2 gSub (eVar 6) (eVar 2)) (eVar 7))))
theorem cs_law8 (T : Txt K mg w) {cdv : Value} {A : Around} {outer : List Env} {s : Shared} {H : Hp} {E : XK} (hr : Room 40 (A.deeper (envOfC "law" (defScope s_law) s.heap.objs.size T.d_law.f cdv))) : CS (cxOf CX0 P w K mg base ["_law_script", "_law_box_here", "_law_size", "_law_told", "_law_places_here", "_law_word", "_law_power", "_law_product", "_law_value", "_law_due", "_law_tables_here", "_law_sense", "_law_one", "_law_some", "_law_turn", "_law_at", "_law_works", "_law_work"] "law" (defScope s_law) T.d_law.f cdv A outer s H E).nox (lawS 8) f_law8 := (cs_set sc_law.nd (ce_op or_add (ce_var 2) (ce_op or_mul (ce_var 4) (ce_if (ct_cmp (or_eq hr.units) (ce_var 5) (ce_str ⟨#[101, 120, 97, 99, 116]⟩ (by decide +kernel))) (ce_op or_sub (ce_var 6) (ce_var 2)) (ce_var 7)))))
def f_law9 : FS := sIf (bV (e2 gNe (eN (pureF f_let_many) (aCons (eVar 2) (aCons (eVar 4) (aCons (eVar 5) (aNil))))) (eVar 9))) (sRet (eC (.bl false))) (sNil)
theorem cs_law9 (T : Txt K mg w) {cdv : Value} {A : Around} {outer : List Env} {s : Shared} {H : Hp} {E : XK} (hr : Room 40 (A.deeper (envOfC "law" (defScope s_law) s.heap.objs.size T.d_law.f cdv))) : CS (cxOf CX0 P w K mg base ["_law_script", "_law_box_here", "_law_size", "_law_told", "_law_places_here", "_law_word", "_law_power", "_law_product", "_law_value", "_law_due", "_law_tables_here", "_law_sense", "_law_one", "_law_some", "_law_turn", "_law_at", "_law_works", "_law_work"] "law" (defScope s_law) T.d_law.f cdv A outer s H E).nox (lawS 9) f_law9 := (cs_if (ct_cmp (or_ne hr.units) (ce_callK0 (FnOk.pureF (ok_let_many T)) (FLen.pure fl_let_many) (hr.mono (by decide)) (by rfl) T.d_let_many.g T.d_let_many.F.kp T.kb_let_many rfl (ck_cons (ce_var 2) (ck_cons (ce_var 4) (ck_cons (ce_var 5) ck_nil)))) (ce_var 9)) (css_one (cs_ret ce_bl)) css_nil)
def f_lawB0 : FS := sSet 10 (eN f_law_tables (aCons (eVar 2) (aCons (eVar 4) (aNil))))
theorem cs_lawB0 (T : Txt K mg w) {cdv : Value} {A : Around} {outer : List Env} {s : Shared} {H : Hp} {E : XK} (hr : Room 40 (A.deeper (envOfC "law" (defScope s_law) s.heap.objs.size T.d_law.f cdv))) : CS (cxOf CX0 P w K mg base ["_law_script", "_law_box_here", "_law_size", "_law_told", "_law_places_here", "_law_word", "_law_power", "_law_product", "_law_value", "_law_due", "_law_tables_here", "_law_sense", "_law_one", "_law_some", "_law_turn", "_law_at", "_law_works", "_law_work"] "law" (defScope s_law) T.d_law.f cdv A outer s H E).nox (lawB 0) f_lawB0 := (cs_set sc_law.nd (ce_call (ok_law_tables T) fl_law_tables (hr.mono (by decide)) (by rfl) T.d_law_tables.g T.d_law_tables.F.kp T.d_law_tables.b (ca_cons (ce_var 2) (ca_cons (ce_var 4) ca_nil))))
def f_lawB1 : FS := sFor (iAny (eN dTup (aCons (eC (.str ⟨#[101, 120, 97, 99, 116]⟩)) (aCons (eC (.str ⟨#[102, 105, 110, 100, 115]⟩)) (aNil))))) (.inl 11) (sIf (bV (e2 gNe (eN (pureF f_let_many) (aCons (eVar 2) (aCons (eVar 4) (aCons (eVar 11) (aNil))))) (eN (g1 gLen) (aCons (eLc (iAny (eVar 10)) 12 (bV (eN (pureF f_law_lets) (aCons (eVar 2) (aCons (eVar 12) (aCons (eVar 11) (aNil)))))) (eVar 12) [12]) (aNil))))) (sRet (eC (.bl false))) (sNil))
theorem cs_lawB1 (T : Txt K mg w) {cdv : Value} {A : Around} {outer : List Env} {s : Shared} {H : Hp} {E : XK} (hr : Room 40 (A.deeper (envOfC "law" (defScope s_law) s.heap.objs.size T.d_law.f cdv))) : CS (cxOf CX0 P w K mg base ["_law_script", "_law_box_here", "_law_size", "_law_told", "_law_places_here", "_law_word", "_law_power", "_law_product", "_law_value", "_law_due", "_law_tables_here", "_law_sense", "_law_one", "_law_some", "_law_turn", "_law_at", "_law_works", "_law_work"] "law" (defScope s_law) T.d_law.f cdv A outer s H E).nox (lawB 1) f_lawB1 := (cs_for PassesOwn.never rfl (ci_any (ce_tup (ca_cons (ce_str ⟨#[101, 120, 97, 99, 116]⟩ (by decide +kernel)) (ca_cons (ce_str ⟨#[102, 105, 110, 100, 115]⟩ (by decide +kernel)) ca_nil)))) (cg_name sc_law.nd) (css_one (cs_if (ct_cmp (or_ne hr.units) (ce_call (FnOk.pureF (ok_let_many T)) (FLen.pure fl_let_many) (hr.mono (by decide)) (by rfl) T.d_let_many.g T.d_let_many.F.kp T.d_let_many.b (ca_cons (ce_var 2) (ca_cons (ce_var 4) (ca_cons (ce_var 11) ca_nil)))) (ce_callB cr_len (by rfl) T.n_len (by decide +kernel) (ca_cons (ce_lc (own := [("_law_one", 12)]) rfl sc_law.nd (ci_any (ce_var 10)) (blkOk_by (own := [("_law_one", 12)]) (by kernel_rfl)) (fun _ _ _ _ _ => pg_name (i := 12) sc_law.nd rfl (by first | exact Or.inl rfl | exact Or.inr rfl)) (fun _ _ _ _ _ => cts_one (ct_val (ce_call (FnOk.pureF (ok_law_lets T)) (FLen.pure fl_law_lets) (hr.mono (by decide)) (by rfl) T.d_law_lets.g T.d_law_lets.F.kp T.d_law_lets.b (ca_cons (ce_var 2) (ca_cons (ce_var 12) (ca_cons (ce_var 11) ca_nil)))))) (fun _ _ _ _ _ => (ce_var 12))) ca_nil))) (css_one (cs_ret ce_bl)) css_nil)))
def f_lawB3 : FS := sIf (bV (e2 gNe (eN (pureF f_let_part) (aCons (eN dTup (aCons (eVar 2) (aCons (eVar 13) (aNil)))) (aCons (eVar 5) (aNil)))) (eN (g1 gTupOf) (aCons (eLcT (iEn (eVar 13)) 15 12 (bV (eN (pureF f_law_lets) (aCons (eVar 2) (aCons (eVar 12) (aCons (eVar 5) (aNil)))))) (eVar 15) [15, 12]) (aNil))))) (sRet (eC (.bl false))) (sNil)
theorem cs_lawB3 (T : Txt K mg w) {cdv : Value} {A : Around} {outer : List Env} {s : Shared} {H : Hp} {E : XK} (hr : Room 40 (A.deeper (envOfC "law" (defScope s_law) s.heap.objs.size T.d_law.f cdv))) : CS (cxOf CX0 P w K mg base ["_law_script", "_law_box_here", "_law_size", "_law_told", "_law_places_here", "_law_word", "_law_power", "_law_product", "_law_value", "_law_due", "_law_tables_here", "_law_sense", "_law_one", "_law_some", "_law_turn", "_law_at", "_law_works", "_law_work"] "law" (defScope s_law) T.d_law.f cdv A outer s H E).nox (lawB 3) f_lawB3 := (cs_if (ct_cmp (or_ne hr.units) (ce_call (FnOk.pureF (ok_let_part T)) (FLen.pure fl_let_part) (hr.mono (by decide)) (by rfl) T.d_let_part.g T.d_let_part.F.kp T.d_let_part.b (ca_cons (ce_tup (ca_cons (ce_var 2) (ca_cons (ce_var 13) ca_nil))) (ca_cons (ce_var 5) ca_nil))) (ce_callTy cr_tuple (by rfl) T.n_tuple (by decide +kernel) (ca_cons (ce_lcT (own := [("_law_at", 15), ("_law_one", 12)]) rfl sc_law.nd (ci_enum (by rfl) T.n_enumerate (ce_var 13)) (blkOk_by (own := [("_law_at", 15), ("_law_one", 12)]) (by kernel_rfl)) (fun _ _ _ _ _ => pg_pair (k1 := 15) (k2 := 12) rfl sc_law.nd) (fun _ _ _ _ _ => cts_one (ct_val (ce_call (FnOk.pureF (ok_law_lets T)) (FLen.pure fl_law_lets) (hr.mono (by decide)) (by rfl) T.d_law_lets.g T.d_law_lets.F.kp T.d_law_lets.b (ca_cons (ce_var 2) (ca_cons (ce_var 12) (ca_cons (ce_var 5) ca_nil)))))) (fun _ _ _ _ _ => (ce_var 15))) ca_nil))) (css_one (cs_ret ce_bl)) css_nil)
end
end K50
set_option Elab.async false
set_option linter.all false
set_option maxRecDepth 100000
set_option maxHeartbeats 4000000
namespace K50
open PySem PySem.Spec PyProof.Rows L2
def nxAt (r : Option (Fl × Sto)) (is : List Nat) : Option (List D) := match r with
  | some (.nx τ, _) => mapO (fun i => match τ[i]? with
    | some (some d) => some d
    | _ => none) is
  | _ => none
def wEx : D := .str ⟨#[101, 120, 97, 99, 116]⟩
def wFi : D := .str ⟨#[102, 105, 110, 100, 115]⟩
def tau2 (a : Addr) (s : Int) : Sl := [none, some (.obj a), some (.int s), none, none, none, none, none, none, none, none, none, none, none, none, none, none, none]
def f_segA : FS := sSeq f_law2 (sSeq f_law3 f_law4)
theorem segA2 (a : Addr) : nxAt (f_segA (tau2 a 2) []) [1, 2] = some [.obj a, .int 2] := by kernel_rfl
theorem segA3 (a : Addr) : nxAt (f_segA (tau2 a 3) []) [1, 2] = some [.obj a, .int 3] := by kernel_rfl
theorem segA4 (a : Addr) : nxAt (f_segA (tau2 a 4) []) [1, 2] = some [.obj a, .int 4] := by kernel_rfl
theorem segA5 (a : Addr) : nxAt (f_segA (tau2 a 5) []) [1, 2] = some [.obj a, .int 5] := by kernel_rfl
theorem segA6 (a : Addr) : nxAt (f_segA (tau2 a 6) []) [1, 2] = some [.obj a, .int 6] := by kernel_rfl
theorem segA7 (a : Addr) : nxAt (f_segA (tau2 a 7) []) [1, 2] = some [.obj a, .int 7] := by kernel_rfl
theorem segA8 (a : Addr) : nxAt (f_segA (tau2 a 8) []) [1, 2] = some [.obj a, .int 8] := by kernel_rfl
end K50
set_option Elab.async false
set_option linter.all false
set_option maxRecDepth 100000
set_option maxHeartbeats 4000000
namespace K50
open PySem PySem.Spec PyProof.Rows L2
/-! ### let_part, four tables not told -/
def Tb (p : Int) (l : List Int) : D := .tup [.int p, .tpl (l.map .int)]
def Nb (p : Int) (l : List Int) : D := .tup [.int p, .tup (l.map .int)]
theorem nr_ints (n : Nat) : ∀ l : List Int, (l.map D.int).all (noRef (n + 1)) = true
  | [] => rfl
  | i :: l => by rw [List.map_cons, List.all_cons, nr_ints n l]; rfl
theorem nr_tup (n : Nat) (ds : List D) : noRef (n + 1) (.tup ds) = ds.all (noRef n) := rfl
theorem nr_tpl (n : Nat) (ds : List D) : noRef (n + 1) (.tpl ds) = ds.all (noRef n) := rfl
theorem nr_int (n : Nat) (i : Int) : noRef (n + 1) (.int i) = true := rfl
theorem nr_str (n : Nat) (i : Str) : noRef (n + 1) (.str i) = true := rfl
theorem nr_Tb (n : Nat) (p : Int) (l : List Int) : noRef (n + 3) (Tb p l) = true := by
  show ([D.int p, .tpl (l.map .int)].all (noRef (n + 2))) = true
  simp only [List.all_cons, List.all_nil, nr_tup, nr_tpl, nr_int, nr_ints, Bool.and_self]
theorem nr_Nb (n : Nat) (p : Int) (l : List Int) : noRef (n + 3) (Nb p l) = true := by
  show ([D.int p, .tup (l.map .int)].all (noRef (n + 2))) = true
  simp only [List.all_cons, List.all_nil, nr_tup, nr_tpl, nr_int, nr_ints, Bool.and_self]
theorem pureF_of {F : FF} {ds : List D} {d : D} {S0 : Sto} (h1 : ds.all (noRef 14) = true) (h2 : F ds [] = some (d, S0)) (h3 : noRef 14 d = true) (S : Sto) : pureF F ds S = some (d, S) := by
  unfold pureF
  rw [if_pos h1, h2]
  simp only [h3, if_true]
theorem pureF_any {F : FF} {ds : List D} {d : D} {S0 : Sto} (h : pureF F ds [] = some (d, S0)) (S : Sto) : pureF F ds S = some (d, S) := by
  unfold pureF at h ⊢
  split at h
  · rename_i h1
    rw [if_pos h1]
    split at h
    · rename_i d1 S1 h2
      split at h
      · rename_i h3
        cases h
        simp only [h3, if_true]
      · cases h
    · cases h
  · cases h
theorem pureF_congr {F : FF} {ds ds' : List D} (h1 : ds.all (noRef 14) = true) (h2 : ds'.all (noRef 14) = true) (h : F ds [] = F ds' []) (S : Sto) : pureF F ds S = pureF F ds' S := by
  unfold pureF
  rw [if_pos h1, if_pos h2, h]
section
variable (s p : Int) (a b c d : List Int) (S : Sto)
abbrev bk4 : D := .tup [.int s, .tup [Nb p a, Nb p b, Nb p c, Nb p d]]
abbrev bk1 : D := .tup [.int s, .tup [Nb p a]]
abbrev tk4 : D := .tup [.int s, .tup [Tb p a, Tb p b, Tb p c, Tb p d]]
theorem nr_bk4 (n : Nat) : noRef (n + 5) (bk4 s p a b c d) = true := by
  show ([D.int s, .tup [Nb p a, Nb p b, Nb p c, Nb p d]].all (noRef (n + 4))) = true
  simp only [List.all_cons, List.all_nil, nr_tup, nr_tpl, nr_int, nr_Nb n, Bool.and_self]
theorem nr_tk4 (n : Nat) : noRef (n + 5) (tk4 s p a b c d) = true := by
  show ([D.int s, .tup [Tb p a, Tb p b, Tb p c, Tb p d]].all (noRef (n + 4))) = true
  simp only [List.all_cons, List.all_nil, nr_tup, nr_tpl, nr_int, nr_Tb n, Bool.and_self]
theorem nr_bk1 (n : Nat) : noRef (n + 5) (bk1 s p a) = true := by
  show ([D.int s, .tup [Nb p a]].all (noRef (n + 4))) = true
  simp only [List.all_cons, List.all_nil, nr_tup, nr_tpl, nr_int, nr_Nb n, Bool.and_self]
end
/-- the two defs, the defs that they call left open -/
def lookG (F1 F2 : FF) : FF := fnD 2 6 (sSeq (sSet 2 (e2 gIx (e2 gIx (eVar 0) (eC (.int 1))) (eVar 1))) (sSeq (sSet 3 (eN F1 (aCons (e2 gIx (eVar 0) (eC (.int 0))) (aCons (eVar 2) (aNil))))) (sSeq (sIf (bV (e2 gNotN (eVar 3) (eC .non))) (sRet (e2 gAdd (eN dTup (aCons (eC (.str ⟨#[116, 119, 111]⟩)) (aNil))) (eVar 3))) (sNil)) (sSeq (sTup [4, 5] (eN F2 (aCons (e2 gIx (eVar 0) (eC (.int 0))) (aCons (eVar 2) (aNil))))) (sRet (eIf (bV (e2 gEq (eN (g1 gLen) (aCons (eVar 4) (aNil))) (eC (.int 1)))) (eN dTup (aCons (eC (.str ⟨#[111, 110, 101]⟩)) (aCons (e2 gIx (eVar 4) (eC (.int 0))) (aCons (eVar 5) (aNil))))) (eN dTup (aCons (eC (.str ⟨#[99, 111, 110, 115, 116, 97, 110, 116]⟩)) (aCons (e2 gIx (eVar 5) (eC (.int 0))) (aNil))))))))))
theorem look_is : f_look_of = lookG (pureF f_two_places) (pureF f_least_table) := rfl
def letG (F1 : FF) : FF := fnD 3 5 (sSeq (sSet 3 (eN F1 (aCons (eVar 0) (aCons (eVar 1) (aNil))))) (sSeq (sIf (bV (e2 gEq (eVar 2) (eC (.str ⟨#[101, 120, 97, 99, 116]⟩)))) (sRet (e2 gNe (e2 gIx (eVar 3) (eC (.int 0))) (eC (.str ⟨#[116, 119, 111]⟩)))) (sNil)) (sRet (eOr (e2 gEq (e2 gIx (eVar 3) (eC (.int 0))) (eC (.str ⟨#[99, 111, 110, 115, 116, 97, 110, 116]⟩))) (eAnd (e2 gEq (e2 gIx (eVar 3) (eC (.int 0))) (eC (.str ⟨#[111, 110, 101]⟩))) (e2 gEq (e1 gLenSet (e2 gIx (eVar 3) (eC (.int 2)))) (e2 gIx (eVar 0) (eC (.int 0)))))))))
theorem let_is : f_is_let = letG (pureF f_look_of) := rfl
section
variable (s p : Int) (a b c d : List Int) (S : Sto) (F1 F2 : FF)
theorem lookG0 : lookG F1 F2 [bk4 s p a b c d, .int 0] S = lookG F1 F2 [bk1 s p a, .int 0] S := by
  have e1 : lookG F1 F2 [bk4 s p a b c d, .int 0] S = lookG (fun _ _ => F1 [.int s, Nb p a] S) F2 [bk4 s p a b c d, .int 0] S := by kernel_rfl
  have e2 : lookG F1 F2 [bk1 s p a, .int 0] S = lookG (fun _ _ => F1 [.int s, Nb p a] S) F2 [bk1 s p a, .int 0] S := by kernel_rfl
  rw [e1, e2]
  generalize F1 [.int s, Nb p a] S = r
  rcases r with _ | ⟨t, S1⟩
  · rfl
  · cases t with
    | non =>
      have e3 : lookG (fun _ _ => some (.non, S1)) F2 [bk4 s p a b c d, .int 0] S = lookG (fun _ _ => some (.non, S1)) (fun _ _ => F2 [.int s, Nb p a] S1) [bk4 s p a b c d, .int 0] S := by kernel_rfl
      have e4 : lookG (fun _ _ => some (.non, S1)) F2 [bk1 s p a, .int 0] S = lookG (fun _ _ => some (.non, S1)) (fun _ _ => F2 [.int s, Nb p a] S1) [bk1 s p a, .int 0] S := by kernel_rfl
      rw [e3, e4]
      generalize F2 [.int s, Nb p a] S1 = r2
      rcases r2 with _ | ⟨u, S2⟩
      · kernel_rfl
      · cases u with
        | tup ds => rcases ds with _ | ⟨x, _ | ⟨y, _ | ⟨z, l⟩⟩⟩ <;> kernel_rfl
        | _ => kernel_rfl
    | _ => kernel_rfl
theorem lookG1 : lookG F1 F2 [bk4 s p a b c d, .int 1] S = lookG F1 F2 [bk1 s p b, .int 0] S := by
  have e1 : lookG F1 F2 [bk4 s p a b c d, .int 1] S = lookG (fun _ _ => F1 [.int s, Nb p b] S) F2 [bk4 s p a b c d, .int 1] S := by kernel_rfl
  have e2 : lookG F1 F2 [bk1 s p b, .int 0] S = lookG (fun _ _ => F1 [.int s, Nb p b] S) F2 [bk1 s p b, .int 0] S := by kernel_rfl
  rw [e1, e2]
  generalize F1 [.int s, Nb p b] S = r
  rcases r with _ | ⟨t, S1⟩
  · rfl
  · cases t with
    | non =>
      have e3 : lookG (fun _ _ => some (.non, S1)) F2 [bk4 s p a b c d, .int 1] S = lookG (fun _ _ => some (.non, S1)) (fun _ _ => F2 [.int s, Nb p b] S1) [bk4 s p a b c d, .int 1] S := by kernel_rfl
      have e4 : lookG (fun _ _ => some (.non, S1)) F2 [bk1 s p b, .int 0] S = lookG (fun _ _ => some (.non, S1)) (fun _ _ => F2 [.int s, Nb p b] S1) [bk1 s p b, .int 0] S := by kernel_rfl
      rw [e3, e4]
      generalize F2 [.int s, Nb p b] S1 = r2
      rcases r2 with _ | ⟨u, S2⟩
      · kernel_rfl
      · cases u with
        | tup ds => rcases ds with _ | ⟨x, _ | ⟨y, _ | ⟨z, l⟩⟩⟩ <;> kernel_rfl
        | _ => kernel_rfl
    | _ => kernel_rfl
theorem lookG2 : lookG F1 F2 [bk4 s p a b c d, .int 2] S = lookG F1 F2 [bk1 s p c, .int 0] S := by
  have e1 : lookG F1 F2 [bk4 s p a b c d, .int 2] S = lookG (fun _ _ => F1 [.int s, Nb p c] S) F2 [bk4 s p a b c d, .int 2] S := by kernel_rfl
  have e2 : lookG F1 F2 [bk1 s p c, .int 0] S = lookG (fun _ _ => F1 [.int s, Nb p c] S) F2 [bk1 s p c, .int 0] S := by kernel_rfl
  rw [e1, e2]
  generalize F1 [.int s, Nb p c] S = r
  rcases r with _ | ⟨t, S1⟩
  · rfl
  · cases t with
    | non =>
      have e3 : lookG (fun _ _ => some (.non, S1)) F2 [bk4 s p a b c d, .int 2] S = lookG (fun _ _ => some (.non, S1)) (fun _ _ => F2 [.int s, Nb p c] S1) [bk4 s p a b c d, .int 2] S := by kernel_rfl
      have e4 : lookG (fun _ _ => some (.non, S1)) F2 [bk1 s p c, .int 0] S = lookG (fun _ _ => some (.non, S1)) (fun _ _ => F2 [.int s, Nb p c] S1) [bk1 s p c, .int 0] S := by kernel_rfl
      rw [e3, e4]
      generalize F2 [.int s, Nb p c] S1 = r2
      rcases r2 with _ | ⟨u, S2⟩
      · kernel_rfl
      · cases u with
        | tup ds => rcases ds with _ | ⟨x, _ | ⟨y, _ | ⟨z, l⟩⟩⟩ <;> kernel_rfl
        | _ => kernel_rfl
    | _ => kernel_rfl
theorem lookG3 : lookG F1 F2 [bk4 s p a b c d, .int 3] S = lookG F1 F2 [bk1 s p d, .int 0] S := by
  have e1 : lookG F1 F2 [bk4 s p a b c d, .int 3] S = lookG (fun _ _ => F1 [.int s, Nb p d] S) F2 [bk4 s p a b c d, .int 3] S := by kernel_rfl
  have e2 : lookG F1 F2 [bk1 s p d, .int 0] S = lookG (fun _ _ => F1 [.int s, Nb p d] S) F2 [bk1 s p d, .int 0] S := by kernel_rfl
  rw [e1, e2]
  generalize F1 [.int s, Nb p d] S = r
  rcases r with _ | ⟨t, S1⟩
  · rfl
  · cases t with
    | non =>
      have e3 : lookG (fun _ _ => some (.non, S1)) F2 [bk4 s p a b c d, .int 3] S = lookG (fun _ _ => some (.non, S1)) (fun _ _ => F2 [.int s, Nb p d] S1) [bk4 s p a b c d, .int 3] S := by kernel_rfl
      have e4 : lookG (fun _ _ => some (.non, S1)) F2 [bk1 s p d, .int 0] S = lookG (fun _ _ => some (.non, S1)) (fun _ _ => F2 [.int s, Nb p d] S1) [bk1 s p d, .int 0] S := by kernel_rfl
      rw [e3, e4]
      generalize F2 [.int s, Nb p d] S1 = r2
      rcases r2 with _ | ⟨u, S2⟩
      · kernel_rfl
      · cases u with
        | tup ds => rcases ds with _ | ⟨x, _ | ⟨y, _ | ⟨z, l⟩⟩⟩ <;> kernel_rfl
        | _ => kernel_rfl
    | _ => kernel_rfl
theorem letG0E (h : F1 [bk4 s p a b c d, .int 0] S = F1 [bk1 s p a, .int 0] S) : letG F1 [bk4 s p a b c d, .int 0, .str ⟨#[101, 120, 97, 99, 116]⟩] S = letG F1 [bk1 s p a, .int 0, .str ⟨#[101, 120, 97, 99, 116]⟩] S := by
  have e1 : letG F1 [bk4 s p a b c d, .int 0, .str ⟨#[101, 120, 97, 99, 116]⟩] S = letG (fun _ _ => F1 [bk4 s p a b c d, .int 0] S) [bk4 s p a b c d, .int 0, .str ⟨#[101, 120, 97, 99, 116]⟩] S := by kernel_rfl
  have e2 : letG F1 [bk1 s p a, .int 0, .str ⟨#[101, 120, 97, 99, 116]⟩] S = letG (fun _ _ => F1 [bk1 s p a, .int 0] S) [bk1 s p a, .int 0, .str ⟨#[101, 120, 97, 99, 116]⟩] S := by kernel_rfl
  rw [e1, e2, h]
  generalize F1 [bk1 s p a, .int 0] S = r
  rcases r with _ | ⟨t, S1⟩
  · kernel_rfl
  · kernel_rfl
theorem let0E : pureF f_is_let [bk4 s p a b c d, .int 0, .str ⟨#[101, 120, 97, 99, 116]⟩] S = pureF f_is_let [bk1 s p a, .int 0, .str ⟨#[101, 120, 97, 99, 116]⟩] S := by
  refine pureF_congr ?_ ?_ ?_ S
  · simp only [List.all_cons, List.all_nil, nr_bk4 s p a b c d 9, nr_int, nr_str, Bool.and_self]
  · simp only [List.all_cons, List.all_nil, nr_bk1 s p _ 9, nr_int, nr_str, Bool.and_self]
  · rw [let_is]
    refine letG0E s p a b c d [] (pureF f_look_of) (pureF_congr ?_ ?_ ?_ [])
    · simp only [List.all_cons, List.all_nil, nr_bk4 s p a b c d 9, nr_int, Bool.and_self]
    · simp only [List.all_cons, List.all_nil, nr_bk1 s p _ 9, nr_int, Bool.and_self]
    · rw [look_is]
      exact lookG0 s p a b c d [] _ _
theorem letG1E (h : F1 [bk4 s p a b c d, .int 1] S = F1 [bk1 s p b, .int 0] S) : letG F1 [bk4 s p a b c d, .int 1, .str ⟨#[101, 120, 97, 99, 116]⟩] S = letG F1 [bk1 s p b, .int 0, .str ⟨#[101, 120, 97, 99, 116]⟩] S := by
  have e1 : letG F1 [bk4 s p a b c d, .int 1, .str ⟨#[101, 120, 97, 99, 116]⟩] S = letG (fun _ _ => F1 [bk4 s p a b c d, .int 1] S) [bk4 s p a b c d, .int 1, .str ⟨#[101, 120, 97, 99, 116]⟩] S := by kernel_rfl
  have e2 : letG F1 [bk1 s p b, .int 0, .str ⟨#[101, 120, 97, 99, 116]⟩] S = letG (fun _ _ => F1 [bk1 s p b, .int 0] S) [bk1 s p b, .int 0, .str ⟨#[101, 120, 97, 99, 116]⟩] S := by kernel_rfl
  rw [e1, e2, h]
  generalize F1 [bk1 s p b, .int 0] S = r
  rcases r with _ | ⟨t, S1⟩
  · kernel_rfl
  · kernel_rfl
theorem let1E : pureF f_is_let [bk4 s p a b c d, .int 1, .str ⟨#[101, 120, 97, 99, 116]⟩] S = pureF f_is_let [bk1 s p b, .int 0, .str ⟨#[101, 120, 97, 99, 116]⟩] S := by
  refine pureF_congr ?_ ?_ ?_ S
  · simp only [List.all_cons, List.all_nil, nr_bk4 s p a b c d 9, nr_int, nr_str, Bool.and_self]
  · simp only [List.all_cons, List.all_nil, nr_bk1 s p _ 9, nr_int, nr_str, Bool.and_self]
  · rw [let_is]
    refine letG1E s p a b c d [] (pureF f_look_of) (pureF_congr ?_ ?_ ?_ [])
    · simp only [List.all_cons, List.all_nil, nr_bk4 s p a b c d 9, nr_int, Bool.and_self]
    · simp only [List.all_cons, List.all_nil, nr_bk1 s p _ 9, nr_int, Bool.and_self]
    · rw [look_is]
      exact lookG1 s p a b c d [] _ _
theorem letG2E (h : F1 [bk4 s p a b c d, .int 2] S = F1 [bk1 s p c, .int 0] S) : letG F1 [bk4 s p a b c d, .int 2, .str ⟨#[101, 120, 97, 99, 116]⟩] S = letG F1 [bk1 s p c, .int 0, .str ⟨#[101, 120, 97, 99, 116]⟩] S := by
  have e1 : letG F1 [bk4 s p a b c d, .int 2, .str ⟨#[101, 120, 97, 99, 116]⟩] S = letG (fun _ _ => F1 [bk4 s p a b c d, .int 2] S) [bk4 s p a b c d, .int 2, .str ⟨#[101, 120, 97, 99, 116]⟩] S := by kernel_rfl
  have e2 : letG F1 [bk1 s p c, .int 0, .str ⟨#[101, 120, 97, 99, 116]⟩] S = letG (fun _ _ => F1 [bk1 s p c, .int 0] S) [bk1 s p c, .int 0, .str ⟨#[101, 120, 97, 99, 116]⟩] S := by kernel_rfl
  rw [e1, e2, h]
  generalize F1 [bk1 s p c, .int 0] S = r
  rcases r with _ | ⟨t, S1⟩
  · kernel_rfl
  · kernel_rfl
theorem let2E : pureF f_is_let [bk4 s p a b c d, .int 2, .str ⟨#[101, 120, 97, 99, 116]⟩] S = pureF f_is_let [bk1 s p c, .int 0, .str ⟨#[101, 120, 97, 99, 116]⟩] S := by
  refine pureF_congr ?_ ?_ ?_ S
  · simp only [List.all_cons, List.all_nil, nr_bk4 s p a b c d 9, nr_int, nr_str, Bool.and_self]
  · simp only [List.all_cons, List.all_nil, nr_bk1 s p _ 9, nr_int, nr_str, Bool.and_self]
  · rw [let_is]
    refine letG2E s p a b c d [] (pureF f_look_of) (pureF_congr ?_ ?_ ?_ [])
    · simp only [List.all_cons, List.all_nil, nr_bk4 s p a b c d 9, nr_int, Bool.and_self]
    · simp only [List.all_cons, List.all_nil, nr_bk1 s p _ 9, nr_int, Bool.and_self]
    · rw [look_is]
      exact lookG2 s p a b c d [] _ _
theorem letG3E (h : F1 [bk4 s p a b c d, .int 3] S = F1 [bk1 s p d, .int 0] S) : letG F1 [bk4 s p a b c d, .int 3, .str ⟨#[101, 120, 97, 99, 116]⟩] S = letG F1 [bk1 s p d, .int 0, .str ⟨#[101, 120, 97, 99, 116]⟩] S := by
  have e1 : letG F1 [bk4 s p a b c d, .int 3, .str ⟨#[101, 120, 97, 99, 116]⟩] S = letG (fun _ _ => F1 [bk4 s p a b c d, .int 3] S) [bk4 s p a b c d, .int 3, .str ⟨#[101, 120, 97, 99, 116]⟩] S := by kernel_rfl
  have e2 : letG F1 [bk1 s p d, .int 0, .str ⟨#[101, 120, 97, 99, 116]⟩] S = letG (fun _ _ => F1 [bk1 s p d, .int 0] S) [bk1 s p d, .int 0, .str ⟨#[101, 120, 97, 99, 116]⟩] S := by kernel_rfl
  rw [e1, e2, h]
  generalize F1 [bk1 s p d, .int 0] S = r
  rcases r with _ | ⟨t, S1⟩
  · kernel_rfl
  · kernel_rfl
theorem let3E : pureF f_is_let [bk4 s p a b c d, .int 3, .str ⟨#[101, 120, 97, 99, 116]⟩] S = pureF f_is_let [bk1 s p d, .int 0, .str ⟨#[101, 120, 97, 99, 116]⟩] S := by
  refine pureF_congr ?_ ?_ ?_ S
  · simp only [List.all_cons, List.all_nil, nr_bk4 s p a b c d 9, nr_int, nr_str, Bool.and_self]
  · simp only [List.all_cons, List.all_nil, nr_bk1 s p _ 9, nr_int, nr_str, Bool.and_self]
  · rw [let_is]
    refine letG3E s p a b c d [] (pureF f_look_of) (pureF_congr ?_ ?_ ?_ [])
    · simp only [List.all_cons, List.all_nil, nr_bk4 s p a b c d 9, nr_int, Bool.and_self]
    · simp only [List.all_cons, List.all_nil, nr_bk1 s p _ 9, nr_int, Bool.and_self]
    · rw [look_is]
      exact lookG3 s p a b c d [] _ _
theorem letG0F (h : F1 [bk4 s p a b c d, .int 0] S = F1 [bk1 s p a, .int 0] S) : letG F1 [bk4 s p a b c d, .int 0, .str ⟨#[102, 105, 110, 100, 115]⟩] S = letG F1 [bk1 s p a, .int 0, .str ⟨#[102, 105, 110, 100, 115]⟩] S := by
  have e1 : letG F1 [bk4 s p a b c d, .int 0, .str ⟨#[102, 105, 110, 100, 115]⟩] S = letG (fun _ _ => F1 [bk4 s p a b c d, .int 0] S) [bk4 s p a b c d, .int 0, .str ⟨#[102, 105, 110, 100, 115]⟩] S := by kernel_rfl
  have e2 : letG F1 [bk1 s p a, .int 0, .str ⟨#[102, 105, 110, 100, 115]⟩] S = letG (fun _ _ => F1 [bk1 s p a, .int 0] S) [bk1 s p a, .int 0, .str ⟨#[102, 105, 110, 100, 115]⟩] S := by kernel_rfl
  rw [e1, e2, h]
  generalize F1 [bk1 s p a, .int 0] S = r
  rcases r with _ | ⟨t, S1⟩
  · kernel_rfl
  · kernel_rfl
theorem let0F : pureF f_is_let [bk4 s p a b c d, .int 0, .str ⟨#[102, 105, 110, 100, 115]⟩] S = pureF f_is_let [bk1 s p a, .int 0, .str ⟨#[102, 105, 110, 100, 115]⟩] S := by
  refine pureF_congr ?_ ?_ ?_ S
  · simp only [List.all_cons, List.all_nil, nr_bk4 s p a b c d 9, nr_int, nr_str, Bool.and_self]
  · simp only [List.all_cons, List.all_nil, nr_bk1 s p _ 9, nr_int, nr_str, Bool.and_self]
  · rw [let_is]
    refine letG0F s p a b c d [] (pureF f_look_of) (pureF_congr ?_ ?_ ?_ [])
    · simp only [List.all_cons, List.all_nil, nr_bk4 s p a b c d 9, nr_int, Bool.and_self]
    · simp only [List.all_cons, List.all_nil, nr_bk1 s p _ 9, nr_int, Bool.and_self]
    · rw [look_is]
      exact lookG0 s p a b c d [] _ _
theorem letG1F (h : F1 [bk4 s p a b c d, .int 1] S = F1 [bk1 s p b, .int 0] S) : letG F1 [bk4 s p a b c d, .int 1, .str ⟨#[102, 105, 110, 100, 115]⟩] S = letG F1 [bk1 s p b, .int 0, .str ⟨#[102, 105, 110, 100, 115]⟩] S := by
  have e1 : letG F1 [bk4 s p a b c d, .int 1, .str ⟨#[102, 105, 110, 100, 115]⟩] S = letG (fun _ _ => F1 [bk4 s p a b c d, .int 1] S) [bk4 s p a b c d, .int 1, .str ⟨#[102, 105, 110, 100, 115]⟩] S := by kernel_rfl
  have e2 : letG F1 [bk1 s p b, .int 0, .str ⟨#[102, 105, 110, 100, 115]⟩] S = letG (fun _ _ => F1 [bk1 s p b, .int 0] S) [bk1 s p b, .int 0, .str ⟨#[102, 105, 110, 100, 115]⟩] S := by kernel_rfl
  rw [e1, e2, h]
  generalize F1 [bk1 s p b, .int 0] S = r
  rcases r with _ | ⟨t, S1⟩
  · kernel_rfl
  · kernel_rfl
theorem let1F : pureF f_is_let [bk4 s p a b c d, .int 1, .str ⟨#[102, 105, 110, 100, 115]⟩] S = pureF f_is_let [bk1 s p b, .int 0, .str ⟨#[102, 105, 110, 100, 115]⟩] S := by
  refine pureF_congr ?_ ?_ ?_ S
  · simp only [List.all_cons, List.all_nil, nr_bk4 s p a b c d 9, nr_int, nr_str, Bool.and_self]
  · simp only [List.all_cons, List.all_nil, nr_bk1 s p _ 9, nr_int, nr_str, Bool.and_self]
  · rw [let_is]
    refine letG1F s p a b c d [] (pureF f_look_of) (pureF_congr ?_ ?_ ?_ [])
    · simp only [List.all_cons, List.all_nil, nr_bk4 s p a b c d 9, nr_int, Bool.and_self]
    · simp only [List.all_cons, List.all_nil, nr_bk1 s p _ 9, nr_int, Bool.and_self]
    · rw [look_is]
      exact lookG1 s p a b c d [] _ _
theorem letG2F (h : F1 [bk4 s p a b c d, .int 2] S = F1 [bk1 s p c, .int 0] S) : letG F1 [bk4 s p a b c d, .int 2, .str ⟨#[102, 105, 110, 100, 115]⟩] S = letG F1 [bk1 s p c, .int 0, .str ⟨#[102, 105, 110, 100, 115]⟩] S := by
  have e1 : letG F1 [bk4 s p a b c d, .int 2, .str ⟨#[102, 105, 110, 100, 115]⟩] S = letG (fun _ _ => F1 [bk4 s p a b c d, .int 2] S) [bk4 s p a b c d, .int 2, .str ⟨#[102, 105, 110, 100, 115]⟩] S := by kernel_rfl
  have e2 : letG F1 [bk1 s p c, .int 0, .str ⟨#[102, 105, 110, 100, 115]⟩] S = letG (fun _ _ => F1 [bk1 s p c, .int 0] S) [bk1 s p c, .int 0, .str ⟨#[102, 105, 110, 100, 115]⟩] S := by kernel_rfl
  rw [e1, e2, h]
  generalize F1 [bk1 s p c, .int 0] S = r
  rcases r with _ | ⟨t, S1⟩
  · kernel_rfl
  · kernel_rfl
theorem let2F : pureF f_is_let [bk4 s p a b c d, .int 2, .str ⟨#[102, 105, 110, 100, 115]⟩] S = pureF f_is_let [bk1 s p c, .int 0, .str ⟨#[102, 105, 110, 100, 115]⟩] S := by
  refine pureF_congr ?_ ?_ ?_ S
  · simp only [List.all_cons, List.all_nil, nr_bk4 s p a b c d 9, nr_int, nr_str, Bool.and_self]
  · simp only [List.all_cons, List.all_nil, nr_bk1 s p _ 9, nr_int, nr_str, Bool.and_self]
  · rw [let_is]
    refine letG2F s p a b c d [] (pureF f_look_of) (pureF_congr ?_ ?_ ?_ [])
    · simp only [List.all_cons, List.all_nil, nr_bk4 s p a b c d 9, nr_int, Bool.and_self]
    · simp only [List.all_cons, List.all_nil, nr_bk1 s p _ 9, nr_int, Bool.and_self]
    · rw [look_is]
      exact lookG2 s p a b c d [] _ _
theorem letG3F (h : F1 [bk4 s p a b c d, .int 3] S = F1 [bk1 s p d, .int 0] S) : letG F1 [bk4 s p a b c d, .int 3, .str ⟨#[102, 105, 110, 100, 115]⟩] S = letG F1 [bk1 s p d, .int 0, .str ⟨#[102, 105, 110, 100, 115]⟩] S := by
  have e1 : letG F1 [bk4 s p a b c d, .int 3, .str ⟨#[102, 105, 110, 100, 115]⟩] S = letG (fun _ _ => F1 [bk4 s p a b c d, .int 3] S) [bk4 s p a b c d, .int 3, .str ⟨#[102, 105, 110, 100, 115]⟩] S := by kernel_rfl
  have e2 : letG F1 [bk1 s p d, .int 0, .str ⟨#[102, 105, 110, 100, 115]⟩] S = letG (fun _ _ => F1 [bk1 s p d, .int 0] S) [bk1 s p d, .int 0, .str ⟨#[102, 105, 110, 100, 115]⟩] S := by kernel_rfl
  rw [e1, e2, h]
  generalize F1 [bk1 s p d, .int 0] S = r
  rcases r with _ | ⟨t, S1⟩
  · kernel_rfl
  · kernel_rfl
theorem let3F : pureF f_is_let [bk4 s p a b c d, .int 3, .str ⟨#[102, 105, 110, 100, 115]⟩] S = pureF f_is_let [bk1 s p d, .int 0, .str ⟨#[102, 105, 110, 100, 115]⟩] S := by
  refine pureF_congr ?_ ?_ ?_ S
  · simp only [List.all_cons, List.all_nil, nr_bk4 s p a b c d 9, nr_int, nr_str, Bool.and_self]
  · simp only [List.all_cons, List.all_nil, nr_bk1 s p _ 9, nr_int, nr_str, Bool.and_self]
  · rw [let_is]
    refine letG3F s p a b c d [] (pureF f_look_of) (pureF_congr ?_ ?_ ?_ [])
    · simp only [List.all_cons, List.all_nil, nr_bk4 s p a b c d 9, nr_int, Bool.and_self]
    · simp only [List.all_cons, List.all_nil, nr_bk1 s p _ 9, nr_int, Bool.and_self]
    · rw [look_is]
      exact lookG3 s p a b c d [] _ _
end
end K50
set_option Elab.async false
set_option linter.all false
set_option maxRecDepth 100000
set_option maxHeartbeats 4000000
namespace K50
open PySem PySem.Spec PyProof.Rows L2
/-! ### loops run -/
def outs (y : Nat → D) (v : Nat → Bool) : Nat → Nat → List D
  | _, 0 => []
  | i, j + 1 => (if v i then [y i] else []) ++ outs y v (i + 1) j
theorem outs_len (y : Nat → D) (v : Nat → Bool) : ∀ i j, (outs y v i j).length ≤ j
  | _, 0 => Nat.le_refl _
  | i, j + 1 => by
    have h := outs_len y v (i + 1) j
    unfold outs
    split <;> simp <;> omega
theorem set_set' {α : Type} (l : List α) (i : Nat) (a b : α) : (l.set i a).set i b = l.set i b := by simp
theorem short_of {α : Type} {l : List α} (h : l.length ≤ 4000) : short l = true := Nat.ble_eq.mpr h
theorem lcL_run {nx : Nx} {k : Nat} {tt : FB} {el : FE} {τw : Sl} {r m : Nat} (e y : Nat → D) (v : Nat → Bool) (hn : ∀ i S, i < m → nx i S = some (some (e i))) (hz : ∀ S, nx m S = some none) (ht : ∀ i S, i < m → tt (τw.set k (some (e i))) S = some (v i, S))
    (hy : ∀ i S, i < m → el (τw.set k (some (e i))) S = some (y i, S)) : ∀ (j i : Nat) (S : Sto) (acc : List D), i + j = m → S[r]? = some (.lst acc) → acc.length + j ≤ 4000 → lcL nx k tt el τw r (j + 1) i S = some (S.set r (.lst (acc ++ outs y v i j)))
  | 0, i, S, acc, h, hr, _ => by
    have e0 : i = m := by omega
    subst e0
    unfold lcL
    rw [hz]
    simp only [outs, List.append_nil]
    refine congrArg some ?_
    refine (List.ext_getElem? fun q => ?_)
    by_cases hq : r = q
    · subst hq
      have hl := (List.getElem?_eq_some_iff.mp hr).1
      rw [List.getElem?_set_self hl, hr]
    · rw [List.getElem?_set_ne hq]
  | j + 1, i, S, acc, h, hr, hl => by
    have hi : i < m := by omega
    have hlt := (List.getElem?_eq_some_iff.mp hr).1
    unfold lcL
    rw [hn i S hi]
    simp only
    rw [ht i S hi]
    cases hv : v i with
    | false =>
      simp only
      rw [lcL_run e y v hn hz ht hy j (i + 1) S acc (by omega) hr (by omega)]
      simp [outs, hv]
    | true =>
      simp only
      rw [hy i S hi]
      simp only [hr]
      rw [if_pos (short_of (by omega)), lcL_run e y v hn hz ht hy j (i + 1) (S.set r (.lst (acc ++ [y i]))) (acc ++ [y i]) (by omega) (List.getElem?_set_self hlt) (by simp; omega), set_set']
      simp [outs, hv]
theorem lcTL_run {nx : Nx} {k1 k2 : Nat} {tt : FB} {el : FE} {τw : Sl} {r m : Nat} (e1 e2 y : Nat → D) (v : Nat → Bool) (hn : ∀ i S, i < m → nx i S = some (some (.tup [e1 i, e2 i]))) (hz : ∀ S, nx m S = some none) (ht : ∀ i S, i < m → tt ((τw.set k1 (some (e1 i))).set k2 (some (e2 i))) S = some (v i, S))
    (hy : ∀ i S, i < m → el ((τw.set k1 (some (e1 i))).set k2 (some (e2 i))) S = some (y i, S)) : ∀ (j i : Nat) (S : Sto) (acc : List D), i + j = m → S[r]? = some (.lst acc) → acc.length + j ≤ 4000 → lcTL nx k1 k2 tt el τw r (j + 1) i S = some (S.set r (.lst (acc ++ outs y v i j)))
  | 0, i, S, acc, h, hr, _ => by
    have e0 : i = m := by omega
    subst e0
    unfold lcTL
    rw [hz]
    simp only [outs, List.append_nil]
    refine congrArg some ?_
    refine (List.ext_getElem? fun q => ?_)
    by_cases hq : r = q
    · subst hq
      have hl := (List.getElem?_eq_some_iff.mp hr).1
      rw [List.getElem?_set_self hl, hr]
    · rw [List.getElem?_set_ne hq]
  | j + 1, i, S, acc, h, hr, hl => by
    have hi : i < m := by omega
    have hlt := (List.getElem?_eq_some_iff.mp hr).1
    unfold lcTL
    rw [hn i S hi]
    simp only
    rw [ht i S hi]
    cases hv : v i with
    | false =>
      simp only
      rw [lcTL_run e1 e2 y v hn hz ht hy j (i + 1) S acc (by omega) hr (by omega)]
      simp [outs, hv]
    | true =>
      simp only
      rw [hy i S hi]
      simp only [hr]
      rw [if_pos (short_of (by omega)), lcTL_run e1 e2 y v hn hz ht hy j (i + 1) (S.set r (.lst (acc ++ [y i]))) (acc ++ [y i]) (by omega) (List.getElem?_set_self hlt) (by simp; omega), set_set']
      simp [outs, hv]
theorem forL_run {nx : Nx} {t : Nat ⊕ List Nat} {body : FS} {m : Nat} (e : Nat → D) (τ : Nat → Sl) (hn : ∀ i S, i < m → nx i S = some (some (e i))) (hz : ∀ S, nx m S = some none) (hs : ∀ i, i < m → stD t (e i) (τ i) = some (τ (i + 1)))
    (hb : ∀ i S, i < m → body (τ (i + 1)) S = some (.nx (τ (i + 1)), S)) : ∀ (j i : Nat) (S : Sto), i + j = m → forL nx t body (j + 1) i (τ i) S = some (.nx (τ m), S)
  | 0, i, S, h => by
    have e0 : i = m := by omega
    subst e0
    unfold forL
    rw [hz]
  | j + 1, i, S, h => by
    have hi : i < m := by omega
    unfold forL
    rw [hn i S hi]
    simp only
    rw [hs i hi]
    simp only
    rw [hb i S hi]
    simp only
    exact forL_run e τ hn hz hs hb j (i + 1) S (by omega)
def rtOf : Option (Fl × Sto) → Option D
  | some (.rt d, _) => some d
  | _ => none
def blR : Option (D × Sto) → Option (Bool × Sto) := fun o => match o with
  | some (.bl b, S1) => some (b, S1)
  | _ => none
/-- of four -/
def p4 {α : Type} (a b c d : α) : Nat → α
  | 0 => a
  | 1 => b
  | 2 => c
  | _ => d
theorem p4_all {α : Type} {Q : Nat → α → Prop} {a b c d : α} (h0 : Q 0 a) (h1 : Q 1 b) (h2 : Q 2 c) (h3 : Q 3 d) : ∀ i, i < 4 → Q i (p4 a b c d i)
  | 0, _ => h0
  | 1, _ => h1
  | 2, _ => h2
  | 3, _ => h3
  | i + 4, h => by omega

def bkC1 : FS := sIf (bOr (bNot (bV (eN (pureF f_is_pair) (aCons (eVar 0) (aNil))))) (bOr (bNot (bV (eN (pureF f_is_integer) (aCons (e2 gIx (eVar 0) (eC (.int 0))) (aNil))))) (bNot (bV (eCh gLe gLe (eC (.int 2)) (e2 gIx (eVar 0) (eC (.int 0))) (eC (.int 8))))))) (sNever) (sNil)
def bkC2 : FS := sIf (bOr (bNot (bV (eN (pureF f_is_sequence) (aCons (e2 gIx (eVar 0) (eC (.int 1))) (aNil))))) (bV (e2 gGt (eN (g1 gLen) (aCons (e2 gIx (eVar 0) (eC (.int 1))) (aNil))) (eC (.int 8))))) (sNever) (sNil)
def bkL : FS := sFor (iEn (e2 gIx (eVar 0) (eC (.int 1)))) (.inr [1, 2]) (sIf (bNot (bV (eN (pureF f_is_operation) (aCons (e2 gIx (eVar 0) (eC (.int 0))) (aCons (eVar 2) (aNil)))))) (sNever) (sNil))
def bkR : FS := sRet (eN dTup (aCons (e2 gIx (eVar 0) (eC (.int 0))) (aCons (eN (g1 gTupOf) (aCons (eLc (iAny (e2 gIx (eVar 0) (eC (.int 1)))) 2 (bYes) (eN (pureF f_in_tuples) (aCons (eVar 2) (aNil))) [2]) (aNil))) (aNil))))
theorem book_is (ds : List D) (S : Sto) : f_need_book ds S = fnD 1 3 (sSeq bkC1 (sSeq bkC2 (sSeq bkL bkR))) ds S := rfl
def bkI : FI := iEn (e2 gIx (eVar 0) (eC (.int 1)))
def bkB : FS := sIf (bNot (bV (eN (pureF f_is_operation) (aCons (e2 gIx (eVar 0) (eC (.int 0))) (aCons (eVar 2) (aNil)))))) (sNever) (sNil)
theorem bkL_is : bkL = sFor bkI (.inr [1, 2]) bkB := rfl
def ptL : FE := eLc (iRg1 (eN (g1 gLen) (aCons (e2 gIx (eVar 0) (eC (.int 1))) (aNil)))) 2 (bV (eN (pureF f_is_let) (aCons (eVar 0) (aCons (eVar 2) (aCons (eVar 1) (aNil)))))) (eVar 2) [2]
def ptG (F1 : FF) (C : FE) : FF := fnD 2 3 (sSeq (sTup [0, 1] (eN dTup (aCons (eN F1 (aCons (eVar 0) (aNil))) (aCons (eN (pureF f_need_sense) (aCons (eVar 1) (aNil))) (aNil))))) (sRet (eN (g1 gTupOf) (aCons C (aNil)))))
theorem pt_is : f_let_part = ptG (pureF f_need_book) ptL := rfl
def tagR : Option Sto → Option (D × Sto) := fun o => match o with
  | some S2 => some (.ref 0, S2)
  | none => none
def ptT : FB := bV (eN (pureF f_is_let) (aCons (eVar 0) (aCons (eVar 2) (aCons (eVar 1) (aNil)))))
def b3T : FB := bV (eN (pureF f_law_lets) (aCons (eVar 2) (aCons (eVar 12) (aCons (eVar 5) (aNil)))))
def b3C : FE := eLcT (iEn (eVar 13)) 15 12 (bV (eN (pureF f_law_lets) (aCons (eVar 2) (aCons (eVar 12) (aCons (eVar 5) (aNil)))))) (eVar 15) [15, 12]
theorem b3C_is : b3C = eLcT (iEn (eVar 13)) 15 12 b3T (eVar 15) [15, 12] := rfl
section
variable (a0 a1 b0 b1 c0 c1 d0 d1 : Int)
theorem book21 (o0 : ∀ S, pureF f_is_operation [.int 2, (Tb 1 [a0, a1])] S = some (.bl true, S)) (o1 : ∀ S, pureF f_is_operation [.int 2, (Tb 1 [b0, b1])] S = some (.bl true, S)) (o2 : ∀ S, pureF f_is_operation [.int 2, (Tb 1 [c0, c1])] S = some (.bl true, S)) (o3 : ∀ S, pureF f_is_operation [.int 2, (Tb 1 [d0, d1])] S = some (.bl true, S)) (S : Sto) : pureF f_need_book [(tk4 2 1 [a0, a1] [b0, b1] [c0, c1] [d0, d1])] S = some ((bk4 2 1 [a0, a1] [b0, b1] [c0, c1] [d0, d1]), S) := by
  have hT : ∀ i S, i < 4 → bkB (p4 [some (tk4 2 1 [a0, a1] [b0, b1] [c0, c1] [d0, d1]), some (.int 0), some (Tb 1 [a0, a1])] [some (tk4 2 1 [a0, a1] [b0, b1] [c0, c1] [d0, d1]), some (.int 1), some (Tb 1 [b0, b1])] [some (tk4 2 1 [a0, a1] [b0, b1] [c0, c1] [d0, d1]), some (.int 2), some (Tb 1 [c0, c1])] [some (tk4 2 1 [a0, a1] [b0, b1] [c0, c1] [d0, d1]), some (.int 3), some (Tb 1 [d0, d1])] i) S = some (.nx (p4 [some (tk4 2 1 [a0, a1] [b0, b1] [c0, c1] [d0, d1]), some (.int 0), some (Tb 1 [a0, a1])] [some (tk4 2 1 [a0, a1] [b0, b1] [c0, c1] [d0, d1]), some (.int 1), some (Tb 1 [b0, b1])] [some (tk4 2 1 [a0, a1] [b0, b1] [c0, c1] [d0, d1]), some (.int 2), some (Tb 1 [c0, c1])] [some (tk4 2 1 [a0, a1] [b0, b1] [c0, c1] [d0, d1]), some (.int 3), some (Tb 1 [d0, d1])] i), S) := by
    have g : ∀ (k : Int) (t : D), (wk t = t ∨ True) → (∀ S, pureF f_is_operation [.int 2, t] S = some (.bl true, S)) → ∀ S, bkB [some (tk4 2 1 [a0, a1] [b0, b1] [c0, c1] [d0, d1]), some (.int k), some t] S = some (.nx [some (tk4 2 1 [a0, a1] [b0, b1] [c0, c1] [d0, d1]), some (.int k), some t], S) := fun k t _ o S => by
      have e : bkB [some (tk4 2 1 [a0, a1] [b0, b1] [c0, c1] [d0, d1]), some (.int k), some t] S = match pureF f_is_operation [.int 2, t] S with
        | some (.bl b, S1) => if b then some (.nx [some (tk4 2 1 [a0, a1] [b0, b1] [c0, c1] [d0, d1]), some (.int k), some t], S1) else none
        | _ => none := by
        have : ∀ F : FF, (sIf (bNot (bV (eN F (aCons (e2 gIx (eVar 0) (eC (.int 0))) (aCons (eVar 2) (aNil)))))) (sNever) (sNil)) [some (tk4 2 1 [a0, a1] [b0, b1] [c0, c1] [d0, d1]), some (.int k), some t] S = match F [.int 2, t] S with
          | some (.bl b, S1) => if b then some (.nx [some (tk4 2 1 [a0, a1] [b0, b1] [c0, c1] [d0, d1]), some (.int k), some t], S1) else none
          | _ => none := fun F => by
          have e1 : (sIf (bNot (bV (eN F (aCons (e2 gIx (eVar 0) (eC (.int 0))) (aCons (eVar 2) (aNil)))))) (sNever) (sNil)) [some (tk4 2 1 [a0, a1] [b0, b1] [c0, c1] [d0, d1]), some (.int k), some t] S = (sIf (bNot (bV (eN (fun _ _ => F [.int 2, t] S) (aCons (e2 gIx (eVar 0) (eC (.int 0))) (aCons (eVar 2) (aNil)))))) (sNever) (sNil)) [some (tk4 2 1 [a0, a1] [b0, b1] [c0, c1] [d0, d1]), some (.int k), some t] S := by kernel_rfl
          rw [e1]
          generalize F [.int 2, t] S = r
          rcases r with _ | ⟨x, S1⟩
          · rfl
          · cases x with
            | bl b => cases b <;> rfl
            | _ => rfl
        exact this (pureF f_is_operation)
      rw [e, o S]
      rfl
    intro i S hi
    match i, hi with
    | 0, _ => exact g 0 _ (.inr trivial) o0 S
    | 1, _ => exact g 1 _ (.inr trivial) o1 S
    | 2, _ => exact g 2 _ (.inr trivial) o2 S
    | 3, _ => exact g 3 _ (.inr trivial) o3 S
  have h1 : bkC1 [some (tk4 2 1 [a0, a1] [b0, b1] [c0, c1] [d0, d1]), none, none] [] = some (.nx [some (tk4 2 1 [a0, a1] [b0, b1] [c0, c1] [d0, d1]), none, none], []) := by kernel_rfl
  have h2 : bkC2 [some (tk4 2 1 [a0, a1] [b0, b1] [c0, c1] [d0, d1]), none, none] [] = some (.nx [some (tk4 2 1 [a0, a1] [b0, b1] [c0, c1] [d0, d1]), none, none], []) := by kernel_rfl
  have h3 : bkL [some (tk4 2 1 [a0, a1] [b0, b1] [c0, c1] [d0, d1]), none, none] [] = some (.nx [some (tk4 2 1 [a0, a1] [b0, b1] [c0, c1] [d0, d1]), some (.int 3), some (Tb 1 [d0, d1])], []) := by
    rw [bkL_is]
    have e : (sFor bkI (.inr [1, 2]) bkB) [some (tk4 2 1 [a0, a1] [b0, b1] [c0, c1] [d0, d1]), none, none] [] = forL (nxEnT [(Tb 1 [a0, a1]), (Tb 1 [b0, b1]), (Tb 1 [c0, c1]), (Tb 1 [d0, d1])]) (.inr [1, 2]) bkB 5 0 [some (tk4 2 1 [a0, a1] [b0, b1] [c0, c1] [d0, d1]), none, none] [] := by kernel_rfl
    rw [e]
    have r := forL_run (nx := nxEnT [(Tb 1 [a0, a1]), (Tb 1 [b0, b1]), (Tb 1 [c0, c1]), (Tb 1 [d0, d1])]) (t := .inr [1, 2]) (body := bkB) (m := 4) (p4 (.tup [.int 0, (Tb 1 [a0, a1])]) (.tup [.int 1, (Tb 1 [b0, b1])]) (.tup [.int 2, (Tb 1 [c0, c1])]) (.tup [.int 3, (Tb 1 [d0, d1])]))
      (fun i => match i with
        | 0 => [some (tk4 2 1 [a0, a1] [b0, b1] [c0, c1] [d0, d1]), none, none]
        | i + 1 => p4 [some (tk4 2 1 [a0, a1] [b0, b1] [c0, c1] [d0, d1]), some (.int 0), some (Tb 1 [a0, a1])] [some (tk4 2 1 [a0, a1] [b0, b1] [c0, c1] [d0, d1]), some (.int 1), some (Tb 1 [b0, b1])] [some (tk4 2 1 [a0, a1] [b0, b1] [c0, c1] [d0, d1]), some (.int 2), some (Tb 1 [c0, c1])] [some (tk4 2 1 [a0, a1] [b0, b1] [c0, c1] [d0, d1]), some (.int 3), some (Tb 1 [d0, d1])] i)
      (fun i S hi => match i, hi with
        | 0, _ => rfl
        | 1, _ => rfl
        | 2, _ => rfl
        | 3, _ => rfl) (fun S => rfl) (fun i hi => match i, hi with
        | 0, _ => rfl
        | 1, _ => rfl
        | 2, _ => rfl
        | 3, _ => rfl) (fun i S hi => hT i S hi) 4 0 [] rfl
    exact r
  have h4 : rtOf (bkR [some (tk4 2 1 [a0, a1] [b0, b1] [c0, c1] [d0, d1]), some (.int 3), some (Tb 1 [d0, d1])] []) = some (bk4 2 1 [a0, a1] [b0, b1] [c0, c1] [d0, d1]) := by kernel_rfl
  have fin : ∃ S0, f_need_book [(tk4 2 1 [a0, a1] [b0, b1] [c0, c1] [d0, d1])] [] = some ((bk4 2 1 [a0, a1] [b0, b1] [c0, c1] [d0, d1]), S0) := by
    rw [book_is]
    have e : fnD 1 3 (sSeq bkC1 (sSeq bkC2 (sSeq bkL bkR))) [(tk4 2 1 [a0, a1] [b0, b1] [c0, c1] [d0, d1])] [] = match sSeq bkC1 (sSeq bkC2 (sSeq bkL bkR)) [some (tk4 2 1 [a0, a1] [b0, b1] [c0, c1] [d0, d1]), none, none] [] with
      | some (.rt d, S') => some (d, S')
      | some (.nx _, S') => some (.non, S')
      | _ => none := rfl
    rw [e]
    have e2 : sSeq bkC1 (sSeq bkC2 (sSeq bkL bkR)) [some (tk4 2 1 [a0, a1] [b0, b1] [c0, c1] [d0, d1]), none, none] [] = bkR [some (tk4 2 1 [a0, a1] [b0, b1] [c0, c1] [d0, d1]), some (.int 3), some (Tb 1 [d0, d1])] [] := by
      unfold sSeq
      rw [h1]
      simp only
      rw [h2]
      simp only
      rw [h3]
    rw [e2]
    cases q : bkR [some (tk4 2 1 [a0, a1] [b0, b1] [c0, c1] [d0, d1]), some (.int 3), some (Tb 1 [d0, d1])] [] with
    | none => rw [q] at h4; cases h4
    | some x =>
      obtain ⟨fl, S1⟩ := x
      rw [q] at h4
      cases fl with
      | rt d =>
        have h5 : some d = some (bk4 2 1 [a0, a1] [b0, b1] [c0, c1] [d0, d1]) := h4
        cases h5
        exact ⟨S1, rfl⟩
      | _ => cases h4
  obtain ⟨S0, e⟩ := fin
  exact pureF_of (by kernel_rfl) e (by kernel_rfl) S
theorem part21E (o0 : ∀ S, pureF f_is_operation [.int 2, (Tb 1 [a0, a1])] S = some (.bl true, S)) (o1 : ∀ S, pureF f_is_operation [.int 2, (Tb 1 [b0, b1])] S = some (.bl true, S)) (o2 : ∀ S, pureF f_is_operation [.int 2, (Tb 1 [c0, c1])] S = some (.bl true, S)) (o3 : ∀ S, pureF f_is_operation [.int 2, (Tb 1 [d0, d1])] S = some (.bl true, S)) (v0 : Bool) (l0 : ∀ S, pureF f_is_let [(bk4 2 1 [a0, a1] [b0, b1] [c0, c1] [d0, d1]), .int 0, .str ⟨#[101, 120, 97, 99, 116]⟩] S = some (.bl v0, S)) (k0 : ∀ S, pureF f_law_lets [.int 2, (Tb 1 [a0, a1]), .str ⟨#[101, 120, 97, 99, 116]⟩] S = some (.bl v0, S)) (v1 : Bool) (l1 : ∀ S, pureF f_is_let [(bk4 2 1 [a0, a1] [b0, b1] [c0, c1] [d0, d1]), .int 1, .str ⟨#[101, 120, 97, 99, 116]⟩] S = some (.bl v1, S)) (k1 : ∀ S, pureF f_law_lets [.int 2, (Tb 1 [b0, b1]), .str ⟨#[101, 120, 97, 99, 116]⟩] S = some (.bl v1, S)) (v2 : Bool) (l2 : ∀ S, pureF f_is_let [(bk4 2 1 [a0, a1] [b0, b1] [c0, c1] [d0, d1]), .int 2, .str ⟨#[101, 120, 97, 99, 116]⟩] S = some (.bl v2, S)) (k2 : ∀ S, pureF f_law_lets [.int 2, (Tb 1 [c0, c1]), .str ⟨#[101, 120, 97, 99, 116]⟩] S = some (.bl v2, S)) (v3 : Bool) (l3 : ∀ S, pureF f_is_let [(bk4 2 1 [a0, a1] [b0, b1] [c0, c1] [d0, d1]), .int 3, .str ⟨#[101, 120, 97, 99, 116]⟩] S = some (.bl v3, S)) (k3 : ∀ S, pureF f_law_lets [.int 2, (Tb 1 [d0, d1]), .str ⟨#[101, 120, 97, 99, 116]⟩] S = some (.bl v3, S)) (S : Sto) : pureF f_let_part [(tk4 2 1 [a0, a1] [b0, b1] [c0, c1] [d0, d1]), .str ⟨#[101, 120, 97, 99, 116]⟩] S = some (.tup (outs (p4 (.int 0) (.int 1) (.int 2) (.int 3)) (p4 v0 v1 v2 v3) 0 4), S) := by
  have hb := book21 a0 a1 b0 b1 c0 c1 d0 d1 o0 o1 o2 o3
  have fin : f_let_part [(tk4 2 1 [a0, a1] [b0, b1] [c0, c1] [d0, d1]), .str ⟨#[101, 120, 97, 99, 116]⟩] [] = some (.tup (outs (p4 (.int 0) (.int 1) (.int 2) (.int 3)) (p4 v0 v1 v2 v3) 0 4), [.lst (outs (p4 (.int 0) (.int 1) (.int 2) (.int 3)) (p4 v0 v1 v2 v3) 0 4)]) := by
    rw [pt_is]
    have e1 : ptG (pureF f_need_book) ptL [(tk4 2 1 [a0, a1] [b0, b1] [c0, c1] [d0, d1]), .str ⟨#[101, 120, 97, 99, 116]⟩] [] = ptG (fun _ _ => pureF f_need_book [(tk4 2 1 [a0, a1] [b0, b1] [c0, c1] [d0, d1])] []) ptL [(tk4 2 1 [a0, a1] [b0, b1] [c0, c1] [d0, d1]), .str ⟨#[101, 120, 97, 99, 116]⟩] [] := by kernel_rfl
    rw [e1, hb []]
    have e2 : ∀ C : FE, ptG (fun _ _ => some ((bk4 2 1 [a0, a1] [b0, b1] [c0, c1] [d0, d1]), [])) C [(tk4 2 1 [a0, a1] [b0, b1] [c0, c1] [d0, d1]), .str ⟨#[101, 120, 97, 99, 116]⟩] [] = ptG (fun _ _ => some ((bk4 2 1 [a0, a1] [b0, b1] [c0, c1] [d0, d1]), [])) (fun _ _ => C [some (bk4 2 1 [a0, a1] [b0, b1] [c0, c1] [d0, d1]), some (.str ⟨#[101, 120, 97, 99, 116]⟩), none] []) [(tk4 2 1 [a0, a1] [b0, b1] [c0, c1] [d0, d1]), .str ⟨#[101, 120, 97, 99, 116]⟩] [] := fun C => by kernel_rfl
    have e3 : ptL [some (bk4 2 1 [a0, a1] [b0, b1] [c0, c1] [d0, d1]), some (.str ⟨#[101, 120, 97, 99, 116]⟩), none] [] = tagR (lcL (nxRg 0 4) 2 ptT (eVar 2) [some (bk4 2 1 [a0, a1] [b0, b1] [c0, c1] [d0, d1]), some (.str ⟨#[101, 120, 97, 99, 116]⟩), none] 0 5 0 [.lst []]) := by kernel_rfl
    have r : lcL (nxRg 0 4) 2 ptT (eVar 2) [some (bk4 2 1 [a0, a1] [b0, b1] [c0, c1] [d0, d1]), some (.str ⟨#[101, 120, 97, 99, 116]⟩), none] 0 5 0 [.lst []] = some [.lst (outs (p4 (.int 0) (.int 1) (.int 2) (.int 3)) (p4 v0 v1 v2 v3) 0 4)] :=
      lcL_run (p4 (.int 0) (.int 1) (.int 2) (.int 3)) (p4 (.int 0) (.int 1) (.int 2) (.int 3)) (p4 v0 v1 v2 v3)
      (fun i S hi => match i, hi with
        | 0, _ => rfl
        | 1, _ => rfl
        | 2, _ => rfl
        | 3, _ => rfl) (fun S => rfl)
      (fun i S hi => by
        have g : ∀ (i : Int) (v : Bool), pureF f_is_let [(bk4 2 1 [a0, a1] [b0, b1] [c0, c1] [d0, d1]), .int i, .str ⟨#[101, 120, 97, 99, 116]⟩] S = some (.bl v, S) → ptT [some (bk4 2 1 [a0, a1] [b0, b1] [c0, c1] [d0, d1]), some (.str ⟨#[101, 120, 97, 99, 116]⟩), some (.int i)] S = some (v, S) := fun i v h => by
          have e : ∀ F : FF, (bV (eN F (aCons (eVar 0) (aCons (eVar 2) (aCons (eVar 1) (aNil)))))) [some (bk4 2 1 [a0, a1] [b0, b1] [c0, c1] [d0, d1]), some (.str ⟨#[101, 120, 97, 99, 116]⟩), some (.int i)] S = blR (F [(bk4 2 1 [a0, a1] [b0, b1] [c0, c1] [d0, d1]), .int i, .str ⟨#[101, 120, 97, 99, 116]⟩] S) := fun F => by kernel_rfl
          exact (e (pureF f_is_let)).trans (congrArg blR h)
        match i, hi with
        | 0, _ => exact g 0 v0 (l0 S)
        | 1, _ => exact g 1 v1 (l1 S)
        | 2, _ => exact g 2 v2 (l2 S)
        | 3, _ => exact g 3 v3 (l3 S))
      (fun i S hi => match i, hi with
        | 0, _ => rfl
        | 1, _ => rfl
        | 2, _ => rfl
        | 3, _ => rfl) 4 0 [.lst []] [] rfl rfl (by decide)
    have e4 : ptL [some (bk4 2 1 [a0, a1] [b0, b1] [c0, c1] [d0, d1]), some (.str ⟨#[101, 120, 97, 99, 116]⟩), none] [] = some (.ref 0, [.lst (outs (p4 (.int 0) (.int 1) (.int 2) (.int 3)) (p4 v0 v1 v2 v3) 0 4)]) := e3.trans (congrArg tagR r)
    refine (e2 ptL).trans ?_
    rw [e4]
    cases v0 <;> cases v1 <;> cases v2 <;> cases v3 <;> kernel_rfl
  refine pureF_of (by kernel_rfl) fin ?_ S
  cases v0 <;> cases v1 <;> cases v2 <;> cases v3 <;> kernel_rfl
theorem b3_21E (box : Addr) (o0 : ∀ S, pureF f_is_operation [.int 2, (Tb 1 [a0, a1])] S = some (.bl true, S)) (o1 : ∀ S, pureF f_is_operation [.int 2, (Tb 1 [b0, b1])] S = some (.bl true, S)) (o2 : ∀ S, pureF f_is_operation [.int 2, (Tb 1 [c0, c1])] S = some (.bl true, S)) (o3 : ∀ S, pureF f_is_operation [.int 2, (Tb 1 [d0, d1])] S = some (.bl true, S)) (v0 : Bool) (l0 : ∀ S, pureF f_is_let [(bk4 2 1 [a0, a1] [b0, b1] [c0, c1] [d0, d1]), .int 0, .str ⟨#[101, 120, 97, 99, 116]⟩] S = some (.bl v0, S)) (k0 : ∀ S, pureF f_law_lets [.int 2, (Tb 1 [a0, a1]), .str ⟨#[101, 120, 97, 99, 116]⟩] S = some (.bl v0, S)) (v1 : Bool) (l1 : ∀ S, pureF f_is_let [(bk4 2 1 [a0, a1] [b0, b1] [c0, c1] [d0, d1]), .int 1, .str ⟨#[101, 120, 97, 99, 116]⟩] S = some (.bl v1, S)) (k1 : ∀ S, pureF f_law_lets [.int 2, (Tb 1 [b0, b1]), .str ⟨#[101, 120, 97, 99, 116]⟩] S = some (.bl v1, S)) (v2 : Bool) (l2 : ∀ S, pureF f_is_let [(bk4 2 1 [a0, a1] [b0, b1] [c0, c1] [d0, d1]), .int 2, .str ⟨#[101, 120, 97, 99, 116]⟩] S = some (.bl v2, S)) (k2 : ∀ S, pureF f_law_lets [.int 2, (Tb 1 [c0, c1]), .str ⟨#[101, 120, 97, 99, 116]⟩] S = some (.bl v2, S)) (v3 : Bool) (l3 : ∀ S, pureF f_is_let [(bk4 2 1 [a0, a1] [b0, b1] [c0, c1] [d0, d1]), .int 3, .str ⟨#[101, 120, 97, 99, 116]⟩] S = some (.bl v3, S)) (k3 : ∀ S, pureF f_law_lets [.int 2, (Tb 1 [d0, d1]), .str ⟨#[101, 120, 97, 99, 116]⟩] S = some (.bl v3, S)) : nxAt (f_lawB3 [none, some (.obj box), some (.int 2), none, some (.int 1), some (.str ⟨#[101, 120, 97, 99, 116]⟩), none, none, none, none, none, none, none, some (.tup [(Tb 1 [a0, a1]), (Tb 1 [b0, b1]), (Tb 1 [c0, c1]), (Tb 1 [d0, d1])]), none, none, none, none] []) [1, 5] = some [.obj box, .str ⟨#[101, 120, 97, 99, 116]⟩] := by
  have hp := part21E a0 a1 b0 b1 c0 c1 d0 d1 o0 o1 o2 o3 v0 l0 k0 v1 l1 k1 v2 l2 k2 v3 l3 k3 []
  have q1 : ∀ F : FF, nxAt ((sIf (bV (e2 gNe (eN F (aCons (eN dTup (aCons (eVar 2) (aCons (eVar 13) (aNil)))) (aCons (eVar 5) (aNil)))) (eN (g1 gTupOf) (aCons (eLcT (iEn (eVar 13)) 15 12 (bV (eN (pureF f_law_lets) (aCons (eVar 2) (aCons (eVar 12) (aCons (eVar 5) (aNil)))))) (eVar 15) [15, 12]) (aNil))))) (sRet (eC (.bl false))) (sNil)) [none, some (.obj box), some (.int 2), none, some (.int 1), some (.str ⟨#[101, 120, 97, 99, 116]⟩), none, none, none, none, none, none, none, some (.tup [(Tb 1 [a0, a1]), (Tb 1 [b0, b1]), (Tb 1 [c0, c1]), (Tb 1 [d0, d1])]), none, none, none, none] []) [1, 5] = nxAt ((sIf (bV (e2 gNe (eN (fun _ _ => F [(tk4 2 1 [a0, a1] [b0, b1] [c0, c1] [d0, d1]), .str ⟨#[101, 120, 97, 99, 116]⟩] []) (aCons (eN dTup (aCons (eVar 2) (aCons (eVar 13) (aNil)))) (aCons (eVar 5) (aNil)))) (eN (g1 gTupOf) (aCons (eLcT (iEn (eVar 13)) 15 12 (bV (eN (pureF f_law_lets) (aCons (eVar 2) (aCons (eVar 12) (aCons (eVar 5) (aNil)))))) (eVar 15) [15, 12]) (aNil))))) (sRet (eC (.bl false))) (sNil)) [none, some (.obj box), some (.int 2), none, some (.int 1), some (.str ⟨#[101, 120, 97, 99, 116]⟩), none, none, none, none, none, none, none, some (.tup [(Tb 1 [a0, a1]), (Tb 1 [b0, b1]), (Tb 1 [c0, c1]), (Tb 1 [d0, d1])]), none, none, none, none] []) [1, 5] := fun F => by kernel_rfl
  have q2 := q1 (pureF f_let_part)
  rw [hp] at q2
  refine Eq.trans q2 ?_
  have r : lcTL (nxEnT [(Tb 1 [a0, a1]), (Tb 1 [b0, b1]), (Tb 1 [c0, c1]), (Tb 1 [d0, d1])]) 15 12 b3T (eVar 15) [none, some (.obj box), some (.int 2), none, some (.int 1), some (.str ⟨#[101, 120, 97, 99, 116]⟩), none, none, none, none, none, none, none, some (.tup [(Tb 1 [a0, a1]), (Tb 1 [b0, b1]), (Tb 1 [c0, c1]), (Tb 1 [d0, d1])]), none, none, none, none] 0 5 0 [.lst []] = some [.lst (outs (p4 (.int 0) (.int 1) (.int 2) (.int 3)) (p4 v0 v1 v2 v3) 0 4)] :=
    lcTL_run (p4 (.int 0) (.int 1) (.int 2) (.int 3)) (p4 (Tb 1 [a0, a1]) (Tb 1 [b0, b1]) (Tb 1 [c0, c1]) (Tb 1 [d0, d1])) (p4 (.int 0) (.int 1) (.int 2) (.int 3)) (p4 v0 v1 v2 v3)
    (fun i S hi => match i, hi with
        | 0, _ => rfl
        | 1, _ => rfl
        | 2, _ => rfl
        | 3, _ => rfl) (fun S => rfl)
    (fun i S hi => by
        have g : ∀ (i : Int) (t : D) (v : Bool), pureF f_law_lets [.int 2, t, .str ⟨#[101, 120, 97, 99, 116]⟩] S = some (.bl v, S) → b3T [none, some (.obj box), some (.int 2), none, some (.int 1), some (.str ⟨#[101, 120, 97, 99, 116]⟩), none, none, none, none, none, none, some t, some (.tup [(Tb 1 [a0, a1]), (Tb 1 [b0, b1]), (Tb 1 [c0, c1]), (Tb 1 [d0, d1])]), none, some (.int i), none, none] S = some (v, S) := fun i t v h => by
          have e : ∀ F : FF, (bV (eN F (aCons (eVar 2) (aCons (eVar 12) (aCons (eVar 5) (aNil)))))) [none, some (.obj box), some (.int 2), none, some (.int 1), some (.str ⟨#[101, 120, 97, 99, 116]⟩), none, none, none, none, none, none, some t, some (.tup [(Tb 1 [a0, a1]), (Tb 1 [b0, b1]), (Tb 1 [c0, c1]), (Tb 1 [d0, d1])]), none, some (.int i), none, none] S = blR (F [.int 2, t, .str ⟨#[101, 120, 97, 99, 116]⟩] S) := fun F => by kernel_rfl
          exact (e (pureF f_law_lets)).trans (congrArg blR h)
        match i, hi with
        | 0, _ => exact g 0 _ v0 (k0 S)
        | 1, _ => exact g 1 _ v1 (k1 S)
        | 2, _ => exact g 2 _ v2 (k2 S)
        | 3, _ => exact g 3 _ v3 (k3 S))
    (fun i S hi => match i, hi with
        | 0, _ => rfl
        | 1, _ => rfl
        | 2, _ => rfl
        | 3, _ => rfl) 4 0 [.lst []] [] rfl rfl (by decide)
  have e3 : b3C [none, some (.obj box), some (.int 2), none, some (.int 1), some (.str ⟨#[101, 120, 97, 99, 116]⟩), none, none, none, none, none, none, none, some (.tup [(Tb 1 [a0, a1]), (Tb 1 [b0, b1]), (Tb 1 [c0, c1]), (Tb 1 [d0, d1])]), none, none, none, none] [] = tagR (lcTL (nxEnT [(Tb 1 [a0, a1]), (Tb 1 [b0, b1]), (Tb 1 [c0, c1]), (Tb 1 [d0, d1])]) 15 12 b3T (eVar 15) [none, some (.obj box), some (.int 2), none, some (.int 1), some (.str ⟨#[101, 120, 97, 99, 116]⟩), none, none, none, none, none, none, none, some (.tup [(Tb 1 [a0, a1]), (Tb 1 [b0, b1]), (Tb 1 [c0, c1]), (Tb 1 [d0, d1])]), none, none, none, none] 0 5 0 [.lst []]) := by kernel_rfl
  have e3' : b3C [none, some (.obj box), some (.int 2), none, some (.int 1), some (.str ⟨#[101, 120, 97, 99, 116]⟩), none, none, none, none, none, none, none, some (.tup [(Tb 1 [a0, a1]), (Tb 1 [b0, b1]), (Tb 1 [c0, c1]), (Tb 1 [d0, d1])]), none, none, none, none] [] = some (.ref 0, [.lst (outs (p4 (.int 0) (.int 1) (.int 2) (.int 3)) (p4 v0 v1 v2 v3) 0 4)]) := e3.trans (congrArg tagR r)
  have e4 : ∀ C : FE, nxAt ((sIf (bV (e2 gNe (eN (fun _ _ => some (.tup (outs (p4 (.int 0) (.int 1) (.int 2) (.int 3)) (p4 v0 v1 v2 v3) 0 4), [])) (aCons (eN dTup (aCons (eVar 2) (aCons (eVar 13) (aNil)))) (aCons (eVar 5) (aNil)))) (eN (g1 gTupOf) (aCons (C) (aNil))))) (sRet (eC (.bl false))) (sNil)) [none, some (.obj box), some (.int 2), none, some (.int 1), some (.str ⟨#[101, 120, 97, 99, 116]⟩), none, none, none, none, none, none, none, some (.tup [(Tb 1 [a0, a1]), (Tb 1 [b0, b1]), (Tb 1 [c0, c1]), (Tb 1 [d0, d1])]), none, none, none, none] []) [1, 5] = nxAt ((sIf (bV (e2 gNe (eN (fun _ _ => some (.tup (outs (p4 (.int 0) (.int 1) (.int 2) (.int 3)) (p4 v0 v1 v2 v3) 0 4), [])) (aCons (eN dTup (aCons (eVar 2) (aCons (eVar 13) (aNil)))) (aCons (eVar 5) (aNil)))) (eN (g1 gTupOf) (aCons ((fun _ _ => C [none, some (.obj box), some (.int 2), none, some (.int 1), some (.str ⟨#[101, 120, 97, 99, 116]⟩), none, none, none, none, none, none, none, some (.tup [(Tb 1 [a0, a1]), (Tb 1 [b0, b1]), (Tb 1 [c0, c1]), (Tb 1 [d0, d1])]), none, none, none, none] [])) (aNil))))) (sRet (eC (.bl false))) (sNil)) [none, some (.obj box), some (.int 2), none, some (.int 1), some (.str ⟨#[101, 120, 97, 99, 116]⟩), none, none, none, none, none, none, none, some (.tup [(Tb 1 [a0, a1]), (Tb 1 [b0, b1]), (Tb 1 [c0, c1]), (Tb 1 [d0, d1])]), none, none, none, none] []) [1, 5] := fun C => by kernel_rfl
  have q5 := e4 b3C
  rw [e3'] at q5
  refine Eq.trans q5 ?_
  cases v0 <;> cases v1 <;> cases v2 <;> cases v3 <;> kernel_rfl
theorem part21F (o0 : ∀ S, pureF f_is_operation [.int 2, (Tb 1 [a0, a1])] S = some (.bl true, S)) (o1 : ∀ S, pureF f_is_operation [.int 2, (Tb 1 [b0, b1])] S = some (.bl true, S)) (o2 : ∀ S, pureF f_is_operation [.int 2, (Tb 1 [c0, c1])] S = some (.bl true, S)) (o3 : ∀ S, pureF f_is_operation [.int 2, (Tb 1 [d0, d1])] S = some (.bl true, S)) (v0 : Bool) (l0 : ∀ S, pureF f_is_let [(bk4 2 1 [a0, a1] [b0, b1] [c0, c1] [d0, d1]), .int 0, .str ⟨#[102, 105, 110, 100, 115]⟩] S = some (.bl v0, S)) (k0 : ∀ S, pureF f_law_lets [.int 2, (Tb 1 [a0, a1]), .str ⟨#[102, 105, 110, 100, 115]⟩] S = some (.bl v0, S)) (v1 : Bool) (l1 : ∀ S, pureF f_is_let [(bk4 2 1 [a0, a1] [b0, b1] [c0, c1] [d0, d1]), .int 1, .str ⟨#[102, 105, 110, 100, 115]⟩] S = some (.bl v1, S)) (k1 : ∀ S, pureF f_law_lets [.int 2, (Tb 1 [b0, b1]), .str ⟨#[102, 105, 110, 100, 115]⟩] S = some (.bl v1, S)) (v2 : Bool) (l2 : ∀ S, pureF f_is_let [(bk4 2 1 [a0, a1] [b0, b1] [c0, c1] [d0, d1]), .int 2, .str ⟨#[102, 105, 110, 100, 115]⟩] S = some (.bl v2, S)) (k2 : ∀ S, pureF f_law_lets [.int 2, (Tb 1 [c0, c1]), .str ⟨#[102, 105, 110, 100, 115]⟩] S = some (.bl v2, S)) (v3 : Bool) (l3 : ∀ S, pureF f_is_let [(bk4 2 1 [a0, a1] [b0, b1] [c0, c1] [d0, d1]), .int 3, .str ⟨#[102, 105, 110, 100, 115]⟩] S = some (.bl v3, S)) (k3 : ∀ S, pureF f_law_lets [.int 2, (Tb 1 [d0, d1]), .str ⟨#[102, 105, 110, 100, 115]⟩] S = some (.bl v3, S)) (S : Sto) : pureF f_let_part [(tk4 2 1 [a0, a1] [b0, b1] [c0, c1] [d0, d1]), .str ⟨#[102, 105, 110, 100, 115]⟩] S = some (.tup (outs (p4 (.int 0) (.int 1) (.int 2) (.int 3)) (p4 v0 v1 v2 v3) 0 4), S) := by
  have hb := book21 a0 a1 b0 b1 c0 c1 d0 d1 o0 o1 o2 o3
  have fin : f_let_part [(tk4 2 1 [a0, a1] [b0, b1] [c0, c1] [d0, d1]), .str ⟨#[102, 105, 110, 100, 115]⟩] [] = some (.tup (outs (p4 (.int 0) (.int 1) (.int 2) (.int 3)) (p4 v0 v1 v2 v3) 0 4), [.lst (outs (p4 (.int 0) (.int 1) (.int 2) (.int 3)) (p4 v0 v1 v2 v3) 0 4)]) := by
    rw [pt_is]
    have e1 : ptG (pureF f_need_book) ptL [(tk4 2 1 [a0, a1] [b0, b1] [c0, c1] [d0, d1]), .str ⟨#[102, 105, 110, 100, 115]⟩] [] = ptG (fun _ _ => pureF f_need_book [(tk4 2 1 [a0, a1] [b0, b1] [c0, c1] [d0, d1])] []) ptL [(tk4 2 1 [a0, a1] [b0, b1] [c0, c1] [d0, d1]), .str ⟨#[102, 105, 110, 100, 115]⟩] [] := by kernel_rfl
    rw [e1, hb []]
    have e2 : ∀ C : FE, ptG (fun _ _ => some ((bk4 2 1 [a0, a1] [b0, b1] [c0, c1] [d0, d1]), [])) C [(tk4 2 1 [a0, a1] [b0, b1] [c0, c1] [d0, d1]), .str ⟨#[102, 105, 110, 100, 115]⟩] [] = ptG (fun _ _ => some ((bk4 2 1 [a0, a1] [b0, b1] [c0, c1] [d0, d1]), [])) (fun _ _ => C [some (bk4 2 1 [a0, a1] [b0, b1] [c0, c1] [d0, d1]), some (.str ⟨#[102, 105, 110, 100, 115]⟩), none] []) [(tk4 2 1 [a0, a1] [b0, b1] [c0, c1] [d0, d1]), .str ⟨#[102, 105, 110, 100, 115]⟩] [] := fun C => by kernel_rfl
    have e3 : ptL [some (bk4 2 1 [a0, a1] [b0, b1] [c0, c1] [d0, d1]), some (.str ⟨#[102, 105, 110, 100, 115]⟩), none] [] = tagR (lcL (nxRg 0 4) 2 ptT (eVar 2) [some (bk4 2 1 [a0, a1] [b0, b1] [c0, c1] [d0, d1]), some (.str ⟨#[102, 105, 110, 100, 115]⟩), none] 0 5 0 [.lst []]) := by kernel_rfl
    have r : lcL (nxRg 0 4) 2 ptT (eVar 2) [some (bk4 2 1 [a0, a1] [b0, b1] [c0, c1] [d0, d1]), some (.str ⟨#[102, 105, 110, 100, 115]⟩), none] 0 5 0 [.lst []] = some [.lst (outs (p4 (.int 0) (.int 1) (.int 2) (.int 3)) (p4 v0 v1 v2 v3) 0 4)] :=
      lcL_run (p4 (.int 0) (.int 1) (.int 2) (.int 3)) (p4 (.int 0) (.int 1) (.int 2) (.int 3)) (p4 v0 v1 v2 v3)
      (fun i S hi => match i, hi with
        | 0, _ => rfl
        | 1, _ => rfl
        | 2, _ => rfl
        | 3, _ => rfl) (fun S => rfl)
      (fun i S hi => by
        have g : ∀ (i : Int) (v : Bool), pureF f_is_let [(bk4 2 1 [a0, a1] [b0, b1] [c0, c1] [d0, d1]), .int i, .str ⟨#[102, 105, 110, 100, 115]⟩] S = some (.bl v, S) → ptT [some (bk4 2 1 [a0, a1] [b0, b1] [c0, c1] [d0, d1]), some (.str ⟨#[102, 105, 110, 100, 115]⟩), some (.int i)] S = some (v, S) := fun i v h => by
          have e : ∀ F : FF, (bV (eN F (aCons (eVar 0) (aCons (eVar 2) (aCons (eVar 1) (aNil)))))) [some (bk4 2 1 [a0, a1] [b0, b1] [c0, c1] [d0, d1]), some (.str ⟨#[102, 105, 110, 100, 115]⟩), some (.int i)] S = blR (F [(bk4 2 1 [a0, a1] [b0, b1] [c0, c1] [d0, d1]), .int i, .str ⟨#[102, 105, 110, 100, 115]⟩] S) := fun F => by kernel_rfl
          exact (e (pureF f_is_let)).trans (congrArg blR h)
        match i, hi with
        | 0, _ => exact g 0 v0 (l0 S)
        | 1, _ => exact g 1 v1 (l1 S)
        | 2, _ => exact g 2 v2 (l2 S)
        | 3, _ => exact g 3 v3 (l3 S))
      (fun i S hi => match i, hi with
        | 0, _ => rfl
        | 1, _ => rfl
        | 2, _ => rfl
        | 3, _ => rfl) 4 0 [.lst []] [] rfl rfl (by decide)
    have e4 : ptL [some (bk4 2 1 [a0, a1] [b0, b1] [c0, c1] [d0, d1]), some (.str ⟨#[102, 105, 110, 100, 115]⟩), none] [] = some (.ref 0, [.lst (outs (p4 (.int 0) (.int 1) (.int 2) (.int 3)) (p4 v0 v1 v2 v3) 0 4)]) := e3.trans (congrArg tagR r)
    refine (e2 ptL).trans ?_
    rw [e4]
    cases v0 <;> cases v1 <;> cases v2 <;> cases v3 <;> kernel_rfl
  refine pureF_of (by kernel_rfl) fin ?_ S
  cases v0 <;> cases v1 <;> cases v2 <;> cases v3 <;> kernel_rfl
theorem b3_21F (box : Addr) (o0 : ∀ S, pureF f_is_operation [.int 2, (Tb 1 [a0, a1])] S = some (.bl true, S)) (o1 : ∀ S, pureF f_is_operation [.int 2, (Tb 1 [b0, b1])] S = some (.bl true, S)) (o2 : ∀ S, pureF f_is_operation [.int 2, (Tb 1 [c0, c1])] S = some (.bl true, S)) (o3 : ∀ S, pureF f_is_operation [.int 2, (Tb 1 [d0, d1])] S = some (.bl true, S)) (v0 : Bool) (l0 : ∀ S, pureF f_is_let [(bk4 2 1 [a0, a1] [b0, b1] [c0, c1] [d0, d1]), .int 0, .str ⟨#[102, 105, 110, 100, 115]⟩] S = some (.bl v0, S)) (k0 : ∀ S, pureF f_law_lets [.int 2, (Tb 1 [a0, a1]), .str ⟨#[102, 105, 110, 100, 115]⟩] S = some (.bl v0, S)) (v1 : Bool) (l1 : ∀ S, pureF f_is_let [(bk4 2 1 [a0, a1] [b0, b1] [c0, c1] [d0, d1]), .int 1, .str ⟨#[102, 105, 110, 100, 115]⟩] S = some (.bl v1, S)) (k1 : ∀ S, pureF f_law_lets [.int 2, (Tb 1 [b0, b1]), .str ⟨#[102, 105, 110, 100, 115]⟩] S = some (.bl v1, S)) (v2 : Bool) (l2 : ∀ S, pureF f_is_let [(bk4 2 1 [a0, a1] [b0, b1] [c0, c1] [d0, d1]), .int 2, .str ⟨#[102, 105, 110, 100, 115]⟩] S = some (.bl v2, S)) (k2 : ∀ S, pureF f_law_lets [.int 2, (Tb 1 [c0, c1]), .str ⟨#[102, 105, 110, 100, 115]⟩] S = some (.bl v2, S)) (v3 : Bool) (l3 : ∀ S, pureF f_is_let [(bk4 2 1 [a0, a1] [b0, b1] [c0, c1] [d0, d1]), .int 3, .str ⟨#[102, 105, 110, 100, 115]⟩] S = some (.bl v3, S)) (k3 : ∀ S, pureF f_law_lets [.int 2, (Tb 1 [d0, d1]), .str ⟨#[102, 105, 110, 100, 115]⟩] S = some (.bl v3, S)) : nxAt (f_lawB3 [none, some (.obj box), some (.int 2), none, some (.int 1), some (.str ⟨#[102, 105, 110, 100, 115]⟩), none, none, none, none, none, none, none, some (.tup [(Tb 1 [a0, a1]), (Tb 1 [b0, b1]), (Tb 1 [c0, c1]), (Tb 1 [d0, d1])]), none, none, none, none] []) [1, 5] = some [.obj box, .str ⟨#[102, 105, 110, 100, 115]⟩] := by
  have hp := part21F a0 a1 b0 b1 c0 c1 d0 d1 o0 o1 o2 o3 v0 l0 k0 v1 l1 k1 v2 l2 k2 v3 l3 k3 []
  have q1 : ∀ F : FF, nxAt ((sIf (bV (e2 gNe (eN F (aCons (eN dTup (aCons (eVar 2) (aCons (eVar 13) (aNil)))) (aCons (eVar 5) (aNil)))) (eN (g1 gTupOf) (aCons (eLcT (iEn (eVar 13)) 15 12 (bV (eN (pureF f_law_lets) (aCons (eVar 2) (aCons (eVar 12) (aCons (eVar 5) (aNil)))))) (eVar 15) [15, 12]) (aNil))))) (sRet (eC (.bl false))) (sNil)) [none, some (.obj box), some (.int 2), none, some (.int 1), some (.str ⟨#[102, 105, 110, 100, 115]⟩), none, none, none, none, none, none, none, some (.tup [(Tb 1 [a0, a1]), (Tb 1 [b0, b1]), (Tb 1 [c0, c1]), (Tb 1 [d0, d1])]), none, none, none, none] []) [1, 5] = nxAt ((sIf (bV (e2 gNe (eN (fun _ _ => F [(tk4 2 1 [a0, a1] [b0, b1] [c0, c1] [d0, d1]), .str ⟨#[102, 105, 110, 100, 115]⟩] []) (aCons (eN dTup (aCons (eVar 2) (aCons (eVar 13) (aNil)))) (aCons (eVar 5) (aNil)))) (eN (g1 gTupOf) (aCons (eLcT (iEn (eVar 13)) 15 12 (bV (eN (pureF f_law_lets) (aCons (eVar 2) (aCons (eVar 12) (aCons (eVar 5) (aNil)))))) (eVar 15) [15, 12]) (aNil))))) (sRet (eC (.bl false))) (sNil)) [none, some (.obj box), some (.int 2), none, some (.int 1), some (.str ⟨#[102, 105, 110, 100, 115]⟩), none, none, none, none, none, none, none, some (.tup [(Tb 1 [a0, a1]), (Tb 1 [b0, b1]), (Tb 1 [c0, c1]), (Tb 1 [d0, d1])]), none, none, none, none] []) [1, 5] := fun F => by kernel_rfl
  have q2 := q1 (pureF f_let_part)
  rw [hp] at q2
  refine Eq.trans q2 ?_
  have r : lcTL (nxEnT [(Tb 1 [a0, a1]), (Tb 1 [b0, b1]), (Tb 1 [c0, c1]), (Tb 1 [d0, d1])]) 15 12 b3T (eVar 15) [none, some (.obj box), some (.int 2), none, some (.int 1), some (.str ⟨#[102, 105, 110, 100, 115]⟩), none, none, none, none, none, none, none, some (.tup [(Tb 1 [a0, a1]), (Tb 1 [b0, b1]), (Tb 1 [c0, c1]), (Tb 1 [d0, d1])]), none, none, none, none] 0 5 0 [.lst []] = some [.lst (outs (p4 (.int 0) (.int 1) (.int 2) (.int 3)) (p4 v0 v1 v2 v3) 0 4)] :=
    lcTL_run (p4 (.int 0) (.int 1) (.int 2) (.int 3)) (p4 (Tb 1 [a0, a1]) (Tb 1 [b0, b1]) (Tb 1 [c0, c1]) (Tb 1 [d0, d1])) (p4 (.int 0) (.int 1) (.int 2) (.int 3)) (p4 v0 v1 v2 v3)
    (fun i S hi => match i, hi with
        | 0, _ => rfl
        | 1, _ => rfl
        | 2, _ => rfl
        | 3, _ => rfl) (fun S => rfl)
    (fun i S hi => by
        have g : ∀ (i : Int) (t : D) (v : Bool), pureF f_law_lets [.int 2, t, .str ⟨#[102, 105, 110, 100, 115]⟩] S = some (.bl v, S) → b3T [none, some (.obj box), some (.int 2), none, some (.int 1), some (.str ⟨#[102, 105, 110, 100, 115]⟩), none, none, none, none, none, none, some t, some (.tup [(Tb 1 [a0, a1]), (Tb 1 [b0, b1]), (Tb 1 [c0, c1]), (Tb 1 [d0, d1])]), none, some (.int i), none, none] S = some (v, S) := fun i t v h => by
          have e : ∀ F : FF, (bV (eN F (aCons (eVar 2) (aCons (eVar 12) (aCons (eVar 5) (aNil)))))) [none, some (.obj box), some (.int 2), none, some (.int 1), some (.str ⟨#[102, 105, 110, 100, 115]⟩), none, none, none, none, none, none, some t, some (.tup [(Tb 1 [a0, a1]), (Tb 1 [b0, b1]), (Tb 1 [c0, c1]), (Tb 1 [d0, d1])]), none, some (.int i), none, none] S = blR (F [.int 2, t, .str ⟨#[102, 105, 110, 100, 115]⟩] S) := fun F => by kernel_rfl
          exact (e (pureF f_law_lets)).trans (congrArg blR h)
        match i, hi with
        | 0, _ => exact g 0 _ v0 (k0 S)
        | 1, _ => exact g 1 _ v1 (k1 S)
        | 2, _ => exact g 2 _ v2 (k2 S)
        | 3, _ => exact g 3 _ v3 (k3 S))
    (fun i S hi => match i, hi with
        | 0, _ => rfl
        | 1, _ => rfl
        | 2, _ => rfl
        | 3, _ => rfl) 4 0 [.lst []] [] rfl rfl (by decide)
  have e3 : b3C [none, some (.obj box), some (.int 2), none, some (.int 1), some (.str ⟨#[102, 105, 110, 100, 115]⟩), none, none, none, none, none, none, none, some (.tup [(Tb 1 [a0, a1]), (Tb 1 [b0, b1]), (Tb 1 [c0, c1]), (Tb 1 [d0, d1])]), none, none, none, none] [] = tagR (lcTL (nxEnT [(Tb 1 [a0, a1]), (Tb 1 [b0, b1]), (Tb 1 [c0, c1]), (Tb 1 [d0, d1])]) 15 12 b3T (eVar 15) [none, some (.obj box), some (.int 2), none, some (.int 1), some (.str ⟨#[102, 105, 110, 100, 115]⟩), none, none, none, none, none, none, none, some (.tup [(Tb 1 [a0, a1]), (Tb 1 [b0, b1]), (Tb 1 [c0, c1]), (Tb 1 [d0, d1])]), none, none, none, none] 0 5 0 [.lst []]) := by kernel_rfl
  have e3' : b3C [none, some (.obj box), some (.int 2), none, some (.int 1), some (.str ⟨#[102, 105, 110, 100, 115]⟩), none, none, none, none, none, none, none, some (.tup [(Tb 1 [a0, a1]), (Tb 1 [b0, b1]), (Tb 1 [c0, c1]), (Tb 1 [d0, d1])]), none, none, none, none] [] = some (.ref 0, [.lst (outs (p4 (.int 0) (.int 1) (.int 2) (.int 3)) (p4 v0 v1 v2 v3) 0 4)]) := e3.trans (congrArg tagR r)
  have e4 : ∀ C : FE, nxAt ((sIf (bV (e2 gNe (eN (fun _ _ => some (.tup (outs (p4 (.int 0) (.int 1) (.int 2) (.int 3)) (p4 v0 v1 v2 v3) 0 4), [])) (aCons (eN dTup (aCons (eVar 2) (aCons (eVar 13) (aNil)))) (aCons (eVar 5) (aNil)))) (eN (g1 gTupOf) (aCons (C) (aNil))))) (sRet (eC (.bl false))) (sNil)) [none, some (.obj box), some (.int 2), none, some (.int 1), some (.str ⟨#[102, 105, 110, 100, 115]⟩), none, none, none, none, none, none, none, some (.tup [(Tb 1 [a0, a1]), (Tb 1 [b0, b1]), (Tb 1 [c0, c1]), (Tb 1 [d0, d1])]), none, none, none, none] []) [1, 5] = nxAt ((sIf (bV (e2 gNe (eN (fun _ _ => some (.tup (outs (p4 (.int 0) (.int 1) (.int 2) (.int 3)) (p4 v0 v1 v2 v3) 0 4), [])) (aCons (eN dTup (aCons (eVar 2) (aCons (eVar 13) (aNil)))) (aCons (eVar 5) (aNil)))) (eN (g1 gTupOf) (aCons ((fun _ _ => C [none, some (.obj box), some (.int 2), none, some (.int 1), some (.str ⟨#[102, 105, 110, 100, 115]⟩), none, none, none, none, none, none, none, some (.tup [(Tb 1 [a0, a1]), (Tb 1 [b0, b1]), (Tb 1 [c0, c1]), (Tb 1 [d0, d1])]), none, none, none, none] [])) (aNil))))) (sRet (eC (.bl false))) (sNil)) [none, some (.obj box), some (.int 2), none, some (.int 1), some (.str ⟨#[102, 105, 110, 100, 115]⟩), none, none, none, none, none, none, none, some (.tup [(Tb 1 [a0, a1]), (Tb 1 [b0, b1]), (Tb 1 [c0, c1]), (Tb 1 [d0, d1])]), none, none, none, none] []) [1, 5] := fun C => by kernel_rfl
  have q5 := e4 b3C
  rw [e3'] at q5
  refine Eq.trans q5 ?_
  cases v0 <;> cases v1 <;> cases v2 <;> cases v3 <;> kernel_rfl
end
section
variable (a0 a1 a2 b0 b1 b2 c0 c1 c2 d0 d1 d2 : Int)
theorem book31 (o0 : ∀ S, pureF f_is_operation [.int 3, (Tb 1 [a0, a1, a2])] S = some (.bl true, S)) (o1 : ∀ S, pureF f_is_operation [.int 3, (Tb 1 [b0, b1, b2])] S = some (.bl true, S)) (o2 : ∀ S, pureF f_is_operation [.int 3, (Tb 1 [c0, c1, c2])] S = some (.bl true, S)) (o3 : ∀ S, pureF f_is_operation [.int 3, (Tb 1 [d0, d1, d2])] S = some (.bl true, S)) (S : Sto) : pureF f_need_book [(tk4 3 1 [a0, a1, a2] [b0, b1, b2] [c0, c1, c2] [d0, d1, d2])] S = some ((bk4 3 1 [a0, a1, a2] [b0, b1, b2] [c0, c1, c2] [d0, d1, d2]), S) := by
  have hT : ∀ i S, i < 4 → bkB (p4 [some (tk4 3 1 [a0, a1, a2] [b0, b1, b2] [c0, c1, c2] [d0, d1, d2]), some (.int 0), some (Tb 1 [a0, a1, a2])] [some (tk4 3 1 [a0, a1, a2] [b0, b1, b2] [c0, c1, c2] [d0, d1, d2]), some (.int 1), some (Tb 1 [b0, b1, b2])] [some (tk4 3 1 [a0, a1, a2] [b0, b1, b2] [c0, c1, c2] [d0, d1, d2]), some (.int 2), some (Tb 1 [c0, c1, c2])] [some (tk4 3 1 [a0, a1, a2] [b0, b1, b2] [c0, c1, c2] [d0, d1, d2]), some (.int 3), some (Tb 1 [d0, d1, d2])] i) S = some (.nx (p4 [some (tk4 3 1 [a0, a1, a2] [b0, b1, b2] [c0, c1, c2] [d0, d1, d2]), some (.int 0), some (Tb 1 [a0, a1, a2])] [some (tk4 3 1 [a0, a1, a2] [b0, b1, b2] [c0, c1, c2] [d0, d1, d2]), some (.int 1), some (Tb 1 [b0, b1, b2])] [some (tk4 3 1 [a0, a1, a2] [b0, b1, b2] [c0, c1, c2] [d0, d1, d2]), some (.int 2), some (Tb 1 [c0, c1, c2])] [some (tk4 3 1 [a0, a1, a2] [b0, b1, b2] [c0, c1, c2] [d0, d1, d2]), some (.int 3), some (Tb 1 [d0, d1, d2])] i), S) := by
    have g : ∀ (k : Int) (t : D), (wk t = t ∨ True) → (∀ S, pureF f_is_operation [.int 3, t] S = some (.bl true, S)) → ∀ S, bkB [some (tk4 3 1 [a0, a1, a2] [b0, b1, b2] [c0, c1, c2] [d0, d1, d2]), some (.int k), some t] S = some (.nx [some (tk4 3 1 [a0, a1, a2] [b0, b1, b2] [c0, c1, c2] [d0, d1, d2]), some (.int k), some t], S) := fun k t _ o S => by
      have e : bkB [some (tk4 3 1 [a0, a1, a2] [b0, b1, b2] [c0, c1, c2] [d0, d1, d2]), some (.int k), some t] S = match pureF f_is_operation [.int 3, t] S with
        | some (.bl b, S1) => if b then some (.nx [some (tk4 3 1 [a0, a1, a2] [b0, b1, b2] [c0, c1, c2] [d0, d1, d2]), some (.int k), some t], S1) else none
        | _ => none := by
        have : ∀ F : FF, (sIf (bNot (bV (eN F (aCons (e2 gIx (eVar 0) (eC (.int 0))) (aCons (eVar 2) (aNil)))))) (sNever) (sNil)) [some (tk4 3 1 [a0, a1, a2] [b0, b1, b2] [c0, c1, c2] [d0, d1, d2]), some (.int k), some t] S = match F [.int 3, t] S with
          | some (.bl b, S1) => if b then some (.nx [some (tk4 3 1 [a0, a1, a2] [b0, b1, b2] [c0, c1, c2] [d0, d1, d2]), some (.int k), some t], S1) else none
          | _ => none := fun F => by
          have e1 : (sIf (bNot (bV (eN F (aCons (e2 gIx (eVar 0) (eC (.int 0))) (aCons (eVar 2) (aNil)))))) (sNever) (sNil)) [some (tk4 3 1 [a0, a1, a2] [b0, b1, b2] [c0, c1, c2] [d0, d1, d2]), some (.int k), some t] S = (sIf (bNot (bV (eN (fun _ _ => F [.int 3, t] S) (aCons (e2 gIx (eVar 0) (eC (.int 0))) (aCons (eVar 2) (aNil)))))) (sNever) (sNil)) [some (tk4 3 1 [a0, a1, a2] [b0, b1, b2] [c0, c1, c2] [d0, d1, d2]), some (.int k), some t] S := by kernel_rfl
          rw [e1]
          generalize F [.int 3, t] S = r
          rcases r with _ | ⟨x, S1⟩
          · rfl
          · cases x with
            | bl b => cases b <;> rfl
            | _ => rfl
        exact this (pureF f_is_operation)
      rw [e, o S]
      rfl
    intro i S hi
    match i, hi with
    | 0, _ => exact g 0 _ (.inr trivial) o0 S
    | 1, _ => exact g 1 _ (.inr trivial) o1 S
    | 2, _ => exact g 2 _ (.inr trivial) o2 S
    | 3, _ => exact g 3 _ (.inr trivial) o3 S
  have h1 : bkC1 [some (tk4 3 1 [a0, a1, a2] [b0, b1, b2] [c0, c1, c2] [d0, d1, d2]), none, none] [] = some (.nx [some (tk4 3 1 [a0, a1, a2] [b0, b1, b2] [c0, c1, c2] [d0, d1, d2]), none, none], []) := by kernel_rfl
  have h2 : bkC2 [some (tk4 3 1 [a0, a1, a2] [b0, b1, b2] [c0, c1, c2] [d0, d1, d2]), none, none] [] = some (.nx [some (tk4 3 1 [a0, a1, a2] [b0, b1, b2] [c0, c1, c2] [d0, d1, d2]), none, none], []) := by kernel_rfl
  have h3 : bkL [some (tk4 3 1 [a0, a1, a2] [b0, b1, b2] [c0, c1, c2] [d0, d1, d2]), none, none] [] = some (.nx [some (tk4 3 1 [a0, a1, a2] [b0, b1, b2] [c0, c1, c2] [d0, d1, d2]), some (.int 3), some (Tb 1 [d0, d1, d2])], []) := by
    rw [bkL_is]
    have e : (sFor bkI (.inr [1, 2]) bkB) [some (tk4 3 1 [a0, a1, a2] [b0, b1, b2] [c0, c1, c2] [d0, d1, d2]), none, none] [] = forL (nxEnT [(Tb 1 [a0, a1, a2]), (Tb 1 [b0, b1, b2]), (Tb 1 [c0, c1, c2]), (Tb 1 [d0, d1, d2])]) (.inr [1, 2]) bkB 5 0 [some (tk4 3 1 [a0, a1, a2] [b0, b1, b2] [c0, c1, c2] [d0, d1, d2]), none, none] [] := by kernel_rfl
    rw [e]
    have r := forL_run (nx := nxEnT [(Tb 1 [a0, a1, a2]), (Tb 1 [b0, b1, b2]), (Tb 1 [c0, c1, c2]), (Tb 1 [d0, d1, d2])]) (t := .inr [1, 2]) (body := bkB) (m := 4) (p4 (.tup [.int 0, (Tb 1 [a0, a1, a2])]) (.tup [.int 1, (Tb 1 [b0, b1, b2])]) (.tup [.int 2, (Tb 1 [c0, c1, c2])]) (.tup [.int 3, (Tb 1 [d0, d1, d2])]))
      (fun i => match i with
        | 0 => [some (tk4 3 1 [a0, a1, a2] [b0, b1, b2] [c0, c1, c2] [d0, d1, d2]), none, none]
        | i + 1 => p4 [some (tk4 3 1 [a0, a1, a2] [b0, b1, b2] [c0, c1, c2] [d0, d1, d2]), some (.int 0), some (Tb 1 [a0, a1, a2])] [some (tk4 3 1 [a0, a1, a2] [b0, b1, b2] [c0, c1, c2] [d0, d1, d2]), some (.int 1), some (Tb 1 [b0, b1, b2])] [some (tk4 3 1 [a0, a1, a2] [b0, b1, b2] [c0, c1, c2] [d0, d1, d2]), some (.int 2), some (Tb 1 [c0, c1, c2])] [some (tk4 3 1 [a0, a1, a2] [b0, b1, b2] [c0, c1, c2] [d0, d1, d2]), some (.int 3), some (Tb 1 [d0, d1, d2])] i)
      (fun i S hi => match i, hi with
        | 0, _ => rfl
        | 1, _ => rfl
        | 2, _ => rfl
        | 3, _ => rfl) (fun S => rfl) (fun i hi => match i, hi with
        | 0, _ => rfl
        | 1, _ => rfl
        | 2, _ => rfl
        | 3, _ => rfl) (fun i S hi => hT i S hi) 4 0 [] rfl
    exact r
  have h4 : rtOf (bkR [some (tk4 3 1 [a0, a1, a2] [b0, b1, b2] [c0, c1, c2] [d0, d1, d2]), some (.int 3), some (Tb 1 [d0, d1, d2])] []) = some (bk4 3 1 [a0, a1, a2] [b0, b1, b2] [c0, c1, c2] [d0, d1, d2]) := by kernel_rfl
  have fin : ∃ S0, f_need_book [(tk4 3 1 [a0, a1, a2] [b0, b1, b2] [c0, c1, c2] [d0, d1, d2])] [] = some ((bk4 3 1 [a0, a1, a2] [b0, b1, b2] [c0, c1, c2] [d0, d1, d2]), S0) := by
    rw [book_is]
    have e : fnD 1 3 (sSeq bkC1 (sSeq bkC2 (sSeq bkL bkR))) [(tk4 3 1 [a0, a1, a2] [b0, b1, b2] [c0, c1, c2] [d0, d1, d2])] [] = match sSeq bkC1 (sSeq bkC2 (sSeq bkL bkR)) [some (tk4 3 1 [a0, a1, a2] [b0, b1, b2] [c0, c1, c2] [d0, d1, d2]), none, none] [] with
      | some (.rt d, S') => some (d, S')
      | some (.nx _, S') => some (.non, S')
      | _ => none := rfl
    rw [e]
    have e2 : sSeq bkC1 (sSeq bkC2 (sSeq bkL bkR)) [some (tk4 3 1 [a0, a1, a2] [b0, b1, b2] [c0, c1, c2] [d0, d1, d2]), none, none] [] = bkR [some (tk4 3 1 [a0, a1, a2] [b0, b1, b2] [c0, c1, c2] [d0, d1, d2]), some (.int 3), some (Tb 1 [d0, d1, d2])] [] := by
      unfold sSeq
      rw [h1]
      simp only
      rw [h2]
      simp only
      rw [h3]
    rw [e2]
    cases q : bkR [some (tk4 3 1 [a0, a1, a2] [b0, b1, b2] [c0, c1, c2] [d0, d1, d2]), some (.int 3), some (Tb 1 [d0, d1, d2])] [] with
    | none => rw [q] at h4; cases h4
    | some x =>
      obtain ⟨fl, S1⟩ := x
      rw [q] at h4
      cases fl with
      | rt d =>
        have h5 : some d = some (bk4 3 1 [a0, a1, a2] [b0, b1, b2] [c0, c1, c2] [d0, d1, d2]) := h4
        cases h5
        exact ⟨S1, rfl⟩
      | _ => cases h4
  obtain ⟨S0, e⟩ := fin
  exact pureF_of (by kernel_rfl) e (by kernel_rfl) S
theorem part31E (o0 : ∀ S, pureF f_is_operation [.int 3, (Tb 1 [a0, a1, a2])] S = some (.bl true, S)) (o1 : ∀ S, pureF f_is_operation [.int 3, (Tb 1 [b0, b1, b2])] S = some (.bl true, S)) (o2 : ∀ S, pureF f_is_operation [.int 3, (Tb 1 [c0, c1, c2])] S = some (.bl true, S)) (o3 : ∀ S, pureF f_is_operation [.int 3, (Tb 1 [d0, d1, d2])] S = some (.bl true, S)) (v0 : Bool) (l0 : ∀ S, pureF f_is_let [(bk4 3 1 [a0, a1, a2] [b0, b1, b2] [c0, c1, c2] [d0, d1, d2]), .int 0, .str ⟨#[101, 120, 97, 99, 116]⟩] S = some (.bl v0, S)) (k0 : ∀ S, pureF f_law_lets [.int 3, (Tb 1 [a0, a1, a2]), .str ⟨#[101, 120, 97, 99, 116]⟩] S = some (.bl v0, S)) (v1 : Bool) (l1 : ∀ S, pureF f_is_let [(bk4 3 1 [a0, a1, a2] [b0, b1, b2] [c0, c1, c2] [d0, d1, d2]), .int 1, .str ⟨#[101, 120, 97, 99, 116]⟩] S = some (.bl v1, S)) (k1 : ∀ S, pureF f_law_lets [.int 3, (Tb 1 [b0, b1, b2]), .str ⟨#[101, 120, 97, 99, 116]⟩] S = some (.bl v1, S)) (v2 : Bool) (l2 : ∀ S, pureF f_is_let [(bk4 3 1 [a0, a1, a2] [b0, b1, b2] [c0, c1, c2] [d0, d1, d2]), .int 2, .str ⟨#[101, 120, 97, 99, 116]⟩] S = some (.bl v2, S)) (k2 : ∀ S, pureF f_law_lets [.int 3, (Tb 1 [c0, c1, c2]), .str ⟨#[101, 120, 97, 99, 116]⟩] S = some (.bl v2, S)) (v3 : Bool) (l3 : ∀ S, pureF f_is_let [(bk4 3 1 [a0, a1, a2] [b0, b1, b2] [c0, c1, c2] [d0, d1, d2]), .int 3, .str ⟨#[101, 120, 97, 99, 116]⟩] S = some (.bl v3, S)) (k3 : ∀ S, pureF f_law_lets [.int 3, (Tb 1 [d0, d1, d2]), .str ⟨#[101, 120, 97, 99, 116]⟩] S = some (.bl v3, S)) (S : Sto) : pureF f_let_part [(tk4 3 1 [a0, a1, a2] [b0, b1, b2] [c0, c1, c2] [d0, d1, d2]), .str ⟨#[101, 120, 97, 99, 116]⟩] S = some (.tup (outs (p4 (.int 0) (.int 1) (.int 2) (.int 3)) (p4 v0 v1 v2 v3) 0 4), S) := by
  have hb := book31 a0 a1 a2 b0 b1 b2 c0 c1 c2 d0 d1 d2 o0 o1 o2 o3
  have fin : f_let_part [(tk4 3 1 [a0, a1, a2] [b0, b1, b2] [c0, c1, c2] [d0, d1, d2]), .str ⟨#[101, 120, 97, 99, 116]⟩] [] = some (.tup (outs (p4 (.int 0) (.int 1) (.int 2) (.int 3)) (p4 v0 v1 v2 v3) 0 4), [.lst (outs (p4 (.int 0) (.int 1) (.int 2) (.int 3)) (p4 v0 v1 v2 v3) 0 4)]) := by
    rw [pt_is]
    have e1 : ptG (pureF f_need_book) ptL [(tk4 3 1 [a0, a1, a2] [b0, b1, b2] [c0, c1, c2] [d0, d1, d2]), .str ⟨#[101, 120, 97, 99, 116]⟩] [] = ptG (fun _ _ => pureF f_need_book [(tk4 3 1 [a0, a1, a2] [b0, b1, b2] [c0, c1, c2] [d0, d1, d2])] []) ptL [(tk4 3 1 [a0, a1, a2] [b0, b1, b2] [c0, c1, c2] [d0, d1, d2]), .str ⟨#[101, 120, 97, 99, 116]⟩] [] := by kernel_rfl
    rw [e1, hb []]
    have e2 : ∀ C : FE, ptG (fun _ _ => some ((bk4 3 1 [a0, a1, a2] [b0, b1, b2] [c0, c1, c2] [d0, d1, d2]), [])) C [(tk4 3 1 [a0, a1, a2] [b0, b1, b2] [c0, c1, c2] [d0, d1, d2]), .str ⟨#[101, 120, 97, 99, 116]⟩] [] = ptG (fun _ _ => some ((bk4 3 1 [a0, a1, a2] [b0, b1, b2] [c0, c1, c2] [d0, d1, d2]), [])) (fun _ _ => C [some (bk4 3 1 [a0, a1, a2] [b0, b1, b2] [c0, c1, c2] [d0, d1, d2]), some (.str ⟨#[101, 120, 97, 99, 116]⟩), none] []) [(tk4 3 1 [a0, a1, a2] [b0, b1, b2] [c0, c1, c2] [d0, d1, d2]), .str ⟨#[101, 120, 97, 99, 116]⟩] [] := fun C => by kernel_rfl
    have e3 : ptL [some (bk4 3 1 [a0, a1, a2] [b0, b1, b2] [c0, c1, c2] [d0, d1, d2]), some (.str ⟨#[101, 120, 97, 99, 116]⟩), none] [] = tagR (lcL (nxRg 0 4) 2 ptT (eVar 2) [some (bk4 3 1 [a0, a1, a2] [b0, b1, b2] [c0, c1, c2] [d0, d1, d2]), some (.str ⟨#[101, 120, 97, 99, 116]⟩), none] 0 5 0 [.lst []]) := by kernel_rfl
    have r : lcL (nxRg 0 4) 2 ptT (eVar 2) [some (bk4 3 1 [a0, a1, a2] [b0, b1, b2] [c0, c1, c2] [d0, d1, d2]), some (.str ⟨#[101, 120, 97, 99, 116]⟩), none] 0 5 0 [.lst []] = some [.lst (outs (p4 (.int 0) (.int 1) (.int 2) (.int 3)) (p4 v0 v1 v2 v3) 0 4)] :=
      lcL_run (p4 (.int 0) (.int 1) (.int 2) (.int 3)) (p4 (.int 0) (.int 1) (.int 2) (.int 3)) (p4 v0 v1 v2 v3)
      (fun i S hi => match i, hi with
        | 0, _ => rfl
        | 1, _ => rfl
        | 2, _ => rfl
        | 3, _ => rfl) (fun S => rfl)
      (fun i S hi => by
        have g : ∀ (i : Int) (v : Bool), pureF f_is_let [(bk4 3 1 [a0, a1, a2] [b0, b1, b2] [c0, c1, c2] [d0, d1, d2]), .int i, .str ⟨#[101, 120, 97, 99, 116]⟩] S = some (.bl v, S) → ptT [some (bk4 3 1 [a0, a1, a2] [b0, b1, b2] [c0, c1, c2] [d0, d1, d2]), some (.str ⟨#[101, 120, 97, 99, 116]⟩), some (.int i)] S = some (v, S) := fun i v h => by
          have e : ∀ F : FF, (bV (eN F (aCons (eVar 0) (aCons (eVar 2) (aCons (eVar 1) (aNil)))))) [some (bk4 3 1 [a0, a1, a2] [b0, b1, b2] [c0, c1, c2] [d0, d1, d2]), some (.str ⟨#[101, 120, 97, 99, 116]⟩), some (.int i)] S = blR (F [(bk4 3 1 [a0, a1, a2] [b0, b1, b2] [c0, c1, c2] [d0, d1, d2]), .int i, .str ⟨#[101, 120, 97, 99, 116]⟩] S) := fun F => by kernel_rfl
          exact (e (pureF f_is_let)).trans (congrArg blR h)
        match i, hi with
        | 0, _ => exact g 0 v0 (l0 S)
        | 1, _ => exact g 1 v1 (l1 S)
        | 2, _ => exact g 2 v2 (l2 S)
        | 3, _ => exact g 3 v3 (l3 S))
      (fun i S hi => match i, hi with
        | 0, _ => rfl
        | 1, _ => rfl
        | 2, _ => rfl
        | 3, _ => rfl) 4 0 [.lst []] [] rfl rfl (by decide)
    have e4 : ptL [some (bk4 3 1 [a0, a1, a2] [b0, b1, b2] [c0, c1, c2] [d0, d1, d2]), some (.str ⟨#[101, 120, 97, 99, 116]⟩), none] [] = some (.ref 0, [.lst (outs (p4 (.int 0) (.int 1) (.int 2) (.int 3)) (p4 v0 v1 v2 v3) 0 4)]) := e3.trans (congrArg tagR r)
    refine (e2 ptL).trans ?_
    rw [e4]
    cases v0 <;> cases v1 <;> cases v2 <;> cases v3 <;> kernel_rfl
  refine pureF_of (by kernel_rfl) fin ?_ S
  cases v0 <;> cases v1 <;> cases v2 <;> cases v3 <;> kernel_rfl
theorem b3_31E (box : Addr) (o0 : ∀ S, pureF f_is_operation [.int 3, (Tb 1 [a0, a1, a2])] S = some (.bl true, S)) (o1 : ∀ S, pureF f_is_operation [.int 3, (Tb 1 [b0, b1, b2])] S = some (.bl true, S)) (o2 : ∀ S, pureF f_is_operation [.int 3, (Tb 1 [c0, c1, c2])] S = some (.bl true, S)) (o3 : ∀ S, pureF f_is_operation [.int 3, (Tb 1 [d0, d1, d2])] S = some (.bl true, S)) (v0 : Bool) (l0 : ∀ S, pureF f_is_let [(bk4 3 1 [a0, a1, a2] [b0, b1, b2] [c0, c1, c2] [d0, d1, d2]), .int 0, .str ⟨#[101, 120, 97, 99, 116]⟩] S = some (.bl v0, S)) (k0 : ∀ S, pureF f_law_lets [.int 3, (Tb 1 [a0, a1, a2]), .str ⟨#[101, 120, 97, 99, 116]⟩] S = some (.bl v0, S)) (v1 : Bool) (l1 : ∀ S, pureF f_is_let [(bk4 3 1 [a0, a1, a2] [b0, b1, b2] [c0, c1, c2] [d0, d1, d2]), .int 1, .str ⟨#[101, 120, 97, 99, 116]⟩] S = some (.bl v1, S)) (k1 : ∀ S, pureF f_law_lets [.int 3, (Tb 1 [b0, b1, b2]), .str ⟨#[101, 120, 97, 99, 116]⟩] S = some (.bl v1, S)) (v2 : Bool) (l2 : ∀ S, pureF f_is_let [(bk4 3 1 [a0, a1, a2] [b0, b1, b2] [c0, c1, c2] [d0, d1, d2]), .int 2, .str ⟨#[101, 120, 97, 99, 116]⟩] S = some (.bl v2, S)) (k2 : ∀ S, pureF f_law_lets [.int 3, (Tb 1 [c0, c1, c2]), .str ⟨#[101, 120, 97, 99, 116]⟩] S = some (.bl v2, S)) (v3 : Bool) (l3 : ∀ S, pureF f_is_let [(bk4 3 1 [a0, a1, a2] [b0, b1, b2] [c0, c1, c2] [d0, d1, d2]), .int 3, .str ⟨#[101, 120, 97, 99, 116]⟩] S = some (.bl v3, S)) (k3 : ∀ S, pureF f_law_lets [.int 3, (Tb 1 [d0, d1, d2]), .str ⟨#[101, 120, 97, 99, 116]⟩] S = some (.bl v3, S)) : nxAt (f_lawB3 [none, some (.obj box), some (.int 3), none, some (.int 1), some (.str ⟨#[101, 120, 97, 99, 116]⟩), none, none, none, none, none, none, none, some (.tup [(Tb 1 [a0, a1, a2]), (Tb 1 [b0, b1, b2]), (Tb 1 [c0, c1, c2]), (Tb 1 [d0, d1, d2])]), none, none, none, none] []) [1, 5] = some [.obj box, .str ⟨#[101, 120, 97, 99, 116]⟩] := by
  have hp := part31E a0 a1 a2 b0 b1 b2 c0 c1 c2 d0 d1 d2 o0 o1 o2 o3 v0 l0 k0 v1 l1 k1 v2 l2 k2 v3 l3 k3 []
  have q1 : ∀ F : FF, nxAt ((sIf (bV (e2 gNe (eN F (aCons (eN dTup (aCons (eVar 2) (aCons (eVar 13) (aNil)))) (aCons (eVar 5) (aNil)))) (eN (g1 gTupOf) (aCons (eLcT (iEn (eVar 13)) 15 12 (bV (eN (pureF f_law_lets) (aCons (eVar 2) (aCons (eVar 12) (aCons (eVar 5) (aNil)))))) (eVar 15) [15, 12]) (aNil))))) (sRet (eC (.bl false))) (sNil)) [none, some (.obj box), some (.int 3), none, some (.int 1), some (.str ⟨#[101, 120, 97, 99, 116]⟩), none, none, none, none, none, none, none, some (.tup [(Tb 1 [a0, a1, a2]), (Tb 1 [b0, b1, b2]), (Tb 1 [c0, c1, c2]), (Tb 1 [d0, d1, d2])]), none, none, none, none] []) [1, 5] = nxAt ((sIf (bV (e2 gNe (eN (fun _ _ => F [(tk4 3 1 [a0, a1, a2] [b0, b1, b2] [c0, c1, c2] [d0, d1, d2]), .str ⟨#[101, 120, 97, 99, 116]⟩] []) (aCons (eN dTup (aCons (eVar 2) (aCons (eVar 13) (aNil)))) (aCons (eVar 5) (aNil)))) (eN (g1 gTupOf) (aCons (eLcT (iEn (eVar 13)) 15 12 (bV (eN (pureF f_law_lets) (aCons (eVar 2) (aCons (eVar 12) (aCons (eVar 5) (aNil)))))) (eVar 15) [15, 12]) (aNil))))) (sRet (eC (.bl false))) (sNil)) [none, some (.obj box), some (.int 3), none, some (.int 1), some (.str ⟨#[101, 120, 97, 99, 116]⟩), none, none, none, none, none, none, none, some (.tup [(Tb 1 [a0, a1, a2]), (Tb 1 [b0, b1, b2]), (Tb 1 [c0, c1, c2]), (Tb 1 [d0, d1, d2])]), none, none, none, none] []) [1, 5] := fun F => by kernel_rfl
  have q2 := q1 (pureF f_let_part)
  rw [hp] at q2
  refine Eq.trans q2 ?_
  have r : lcTL (nxEnT [(Tb 1 [a0, a1, a2]), (Tb 1 [b0, b1, b2]), (Tb 1 [c0, c1, c2]), (Tb 1 [d0, d1, d2])]) 15 12 b3T (eVar 15) [none, some (.obj box), some (.int 3), none, some (.int 1), some (.str ⟨#[101, 120, 97, 99, 116]⟩), none, none, none, none, none, none, none, some (.tup [(Tb 1 [a0, a1, a2]), (Tb 1 [b0, b1, b2]), (Tb 1 [c0, c1, c2]), (Tb 1 [d0, d1, d2])]), none, none, none, none] 0 5 0 [.lst []] = some [.lst (outs (p4 (.int 0) (.int 1) (.int 2) (.int 3)) (p4 v0 v1 v2 v3) 0 4)] :=
    lcTL_run (p4 (.int 0) (.int 1) (.int 2) (.int 3)) (p4 (Tb 1 [a0, a1, a2]) (Tb 1 [b0, b1, b2]) (Tb 1 [c0, c1, c2]) (Tb 1 [d0, d1, d2])) (p4 (.int 0) (.int 1) (.int 2) (.int 3)) (p4 v0 v1 v2 v3)
    (fun i S hi => match i, hi with
        | 0, _ => rfl
        | 1, _ => rfl
        | 2, _ => rfl
        | 3, _ => rfl) (fun S => rfl)
    (fun i S hi => by
        have g : ∀ (i : Int) (t : D) (v : Bool), pureF f_law_lets [.int 3, t, .str ⟨#[101, 120, 97, 99, 116]⟩] S = some (.bl v, S) → b3T [none, some (.obj box), some (.int 3), none, some (.int 1), some (.str ⟨#[101, 120, 97, 99, 116]⟩), none, none, none, none, none, none, some t, some (.tup [(Tb 1 [a0, a1, a2]), (Tb 1 [b0, b1, b2]), (Tb 1 [c0, c1, c2]), (Tb 1 [d0, d1, d2])]), none, some (.int i), none, none] S = some (v, S) := fun i t v h => by
          have e : ∀ F : FF, (bV (eN F (aCons (eVar 2) (aCons (eVar 12) (aCons (eVar 5) (aNil)))))) [none, some (.obj box), some (.int 3), none, some (.int 1), some (.str ⟨#[101, 120, 97, 99, 116]⟩), none, none, none, none, none, none, some t, some (.tup [(Tb 1 [a0, a1, a2]), (Tb 1 [b0, b1, b2]), (Tb 1 [c0, c1, c2]), (Tb 1 [d0, d1, d2])]), none, some (.int i), none, none] S = blR (F [.int 3, t, .str ⟨#[101, 120, 97, 99, 116]⟩] S) := fun F => by kernel_rfl
          exact (e (pureF f_law_lets)).trans (congrArg blR h)
        match i, hi with
        | 0, _ => exact g 0 _ v0 (k0 S)
        | 1, _ => exact g 1 _ v1 (k1 S)
        | 2, _ => exact g 2 _ v2 (k2 S)
        | 3, _ => exact g 3 _ v3 (k3 S))
    (fun i S hi => match i, hi with
        | 0, _ => rfl
        | 1, _ => rfl
        | 2, _ => rfl
        | 3, _ => rfl) 4 0 [.lst []] [] rfl rfl (by decide)
  have e3 : b3C [none, some (.obj box), some (.int 3), none, some (.int 1), some (.str ⟨#[101, 120, 97, 99, 116]⟩), none, none, none, none, none, none, none, some (.tup [(Tb 1 [a0, a1, a2]), (Tb 1 [b0, b1, b2]), (Tb 1 [c0, c1, c2]), (Tb 1 [d0, d1, d2])]), none, none, none, none] [] = tagR (lcTL (nxEnT [(Tb 1 [a0, a1, a2]), (Tb 1 [b0, b1, b2]), (Tb 1 [c0, c1, c2]), (Tb 1 [d0, d1, d2])]) 15 12 b3T (eVar 15) [none, some (.obj box), some (.int 3), none, some (.int 1), some (.str ⟨#[101, 120, 97, 99, 116]⟩), none, none, none, none, none, none, none, some (.tup [(Tb 1 [a0, a1, a2]), (Tb 1 [b0, b1, b2]), (Tb 1 [c0, c1, c2]), (Tb 1 [d0, d1, d2])]), none, none, none, none] 0 5 0 [.lst []]) := by kernel_rfl
  have e3' : b3C [none, some (.obj box), some (.int 3), none, some (.int 1), some (.str ⟨#[101, 120, 97, 99, 116]⟩), none, none, none, none, none, none, none, some (.tup [(Tb 1 [a0, a1, a2]), (Tb 1 [b0, b1, b2]), (Tb 1 [c0, c1, c2]), (Tb 1 [d0, d1, d2])]), none, none, none, none] [] = some (.ref 0, [.lst (outs (p4 (.int 0) (.int 1) (.int 2) (.int 3)) (p4 v0 v1 v2 v3) 0 4)]) := e3.trans (congrArg tagR r)
  have e4 : ∀ C : FE, nxAt ((sIf (bV (e2 gNe (eN (fun _ _ => some (.tup (outs (p4 (.int 0) (.int 1) (.int 2) (.int 3)) (p4 v0 v1 v2 v3) 0 4), [])) (aCons (eN dTup (aCons (eVar 2) (aCons (eVar 13) (aNil)))) (aCons (eVar 5) (aNil)))) (eN (g1 gTupOf) (aCons (C) (aNil))))) (sRet (eC (.bl false))) (sNil)) [none, some (.obj box), some (.int 3), none, some (.int 1), some (.str ⟨#[101, 120, 97, 99, 116]⟩), none, none, none, none, none, none, none, some (.tup [(Tb 1 [a0, a1, a2]), (Tb 1 [b0, b1, b2]), (Tb 1 [c0, c1, c2]), (Tb 1 [d0, d1, d2])]), none, none, none, none] []) [1, 5] = nxAt ((sIf (bV (e2 gNe (eN (fun _ _ => some (.tup (outs (p4 (.int 0) (.int 1) (.int 2) (.int 3)) (p4 v0 v1 v2 v3) 0 4), [])) (aCons (eN dTup (aCons (eVar 2) (aCons (eVar 13) (aNil)))) (aCons (eVar 5) (aNil)))) (eN (g1 gTupOf) (aCons ((fun _ _ => C [none, some (.obj box), some (.int 3), none, some (.int 1), some (.str ⟨#[101, 120, 97, 99, 116]⟩), none, none, none, none, none, none, none, some (.tup [(Tb 1 [a0, a1, a2]), (Tb 1 [b0, b1, b2]), (Tb 1 [c0, c1, c2]), (Tb 1 [d0, d1, d2])]), none, none, none, none] [])) (aNil))))) (sRet (eC (.bl false))) (sNil)) [none, some (.obj box), some (.int 3), none, some (.int 1), some (.str ⟨#[101, 120, 97, 99, 116]⟩), none, none, none, none, none, none, none, some (.tup [(Tb 1 [a0, a1, a2]), (Tb 1 [b0, b1, b2]), (Tb 1 [c0, c1, c2]), (Tb 1 [d0, d1, d2])]), none, none, none, none] []) [1, 5] := fun C => by kernel_rfl
  have q5 := e4 b3C
  rw [e3'] at q5
  refine Eq.trans q5 ?_
  cases v0 <;> cases v1 <;> cases v2 <;> cases v3 <;> kernel_rfl
theorem part31F (o0 : ∀ S, pureF f_is_operation [.int 3, (Tb 1 [a0, a1, a2])] S = some (.bl true, S)) (o1 : ∀ S, pureF f_is_operation [.int 3, (Tb 1 [b0, b1, b2])] S = some (.bl true, S)) (o2 : ∀ S, pureF f_is_operation [.int 3, (Tb 1 [c0, c1, c2])] S = some (.bl true, S)) (o3 : ∀ S, pureF f_is_operation [.int 3, (Tb 1 [d0, d1, d2])] S = some (.bl true, S)) (v0 : Bool) (l0 : ∀ S, pureF f_is_let [(bk4 3 1 [a0, a1, a2] [b0, b1, b2] [c0, c1, c2] [d0, d1, d2]), .int 0, .str ⟨#[102, 105, 110, 100, 115]⟩] S = some (.bl v0, S)) (k0 : ∀ S, pureF f_law_lets [.int 3, (Tb 1 [a0, a1, a2]), .str ⟨#[102, 105, 110, 100, 115]⟩] S = some (.bl v0, S)) (v1 : Bool) (l1 : ∀ S, pureF f_is_let [(bk4 3 1 [a0, a1, a2] [b0, b1, b2] [c0, c1, c2] [d0, d1, d2]), .int 1, .str ⟨#[102, 105, 110, 100, 115]⟩] S = some (.bl v1, S)) (k1 : ∀ S, pureF f_law_lets [.int 3, (Tb 1 [b0, b1, b2]), .str ⟨#[102, 105, 110, 100, 115]⟩] S = some (.bl v1, S)) (v2 : Bool) (l2 : ∀ S, pureF f_is_let [(bk4 3 1 [a0, a1, a2] [b0, b1, b2] [c0, c1, c2] [d0, d1, d2]), .int 2, .str ⟨#[102, 105, 110, 100, 115]⟩] S = some (.bl v2, S)) (k2 : ∀ S, pureF f_law_lets [.int 3, (Tb 1 [c0, c1, c2]), .str ⟨#[102, 105, 110, 100, 115]⟩] S = some (.bl v2, S)) (v3 : Bool) (l3 : ∀ S, pureF f_is_let [(bk4 3 1 [a0, a1, a2] [b0, b1, b2] [c0, c1, c2] [d0, d1, d2]), .int 3, .str ⟨#[102, 105, 110, 100, 115]⟩] S = some (.bl v3, S)) (k3 : ∀ S, pureF f_law_lets [.int 3, (Tb 1 [d0, d1, d2]), .str ⟨#[102, 105, 110, 100, 115]⟩] S = some (.bl v3, S)) (S : Sto) : pureF f_let_part [(tk4 3 1 [a0, a1, a2] [b0, b1, b2] [c0, c1, c2] [d0, d1, d2]), .str ⟨#[102, 105, 110, 100, 115]⟩] S = some (.tup (outs (p4 (.int 0) (.int 1) (.int 2) (.int 3)) (p4 v0 v1 v2 v3) 0 4), S) := by
  have hb := book31 a0 a1 a2 b0 b1 b2 c0 c1 c2 d0 d1 d2 o0 o1 o2 o3
  have fin : f_let_part [(tk4 3 1 [a0, a1, a2] [b0, b1, b2] [c0, c1, c2] [d0, d1, d2]), .str ⟨#[102, 105, 110, 100, 115]⟩] [] = some (.tup (outs (p4 (.int 0) (.int 1) (.int 2) (.int 3)) (p4 v0 v1 v2 v3) 0 4), [.lst (outs (p4 (.int 0) (.int 1) (.int 2) (.int 3)) (p4 v0 v1 v2 v3) 0 4)]) := by
    rw [pt_is]
    have e1 : ptG (pureF f_need_book) ptL [(tk4 3 1 [a0, a1, a2] [b0, b1, b2] [c0, c1, c2] [d0, d1, d2]), .str ⟨#[102, 105, 110, 100, 115]⟩] [] = ptG (fun _ _ => pureF f_need_book [(tk4 3 1 [a0, a1, a2] [b0, b1, b2] [c0, c1, c2] [d0, d1, d2])] []) ptL [(tk4 3 1 [a0, a1, a2] [b0, b1, b2] [c0, c1, c2] [d0, d1, d2]), .str ⟨#[102, 105, 110, 100, 115]⟩] [] := by kernel_rfl
    rw [e1, hb []]
    have e2 : ∀ C : FE, ptG (fun _ _ => some ((bk4 3 1 [a0, a1, a2] [b0, b1, b2] [c0, c1, c2] [d0, d1, d2]), [])) C [(tk4 3 1 [a0, a1, a2] [b0, b1, b2] [c0, c1, c2] [d0, d1, d2]), .str ⟨#[102, 105, 110, 100, 115]⟩] [] = ptG (fun _ _ => some ((bk4 3 1 [a0, a1, a2] [b0, b1, b2] [c0, c1, c2] [d0, d1, d2]), [])) (fun _ _ => C [some (bk4 3 1 [a0, a1, a2] [b0, b1, b2] [c0, c1, c2] [d0, d1, d2]), some (.str ⟨#[102, 105, 110, 100, 115]⟩), none] []) [(tk4 3 1 [a0, a1, a2] [b0, b1, b2] [c0, c1, c2] [d0, d1, d2]), .str ⟨#[102, 105, 110, 100, 115]⟩] [] := fun C => by kernel_rfl
    have e3 : ptL [some (bk4 3 1 [a0, a1, a2] [b0, b1, b2] [c0, c1, c2] [d0, d1, d2]), some (.str ⟨#[102, 105, 110, 100, 115]⟩), none] [] = tagR (lcL (nxRg 0 4) 2 ptT (eVar 2) [some (bk4 3 1 [a0, a1, a2] [b0, b1, b2] [c0, c1, c2] [d0, d1, d2]), some (.str ⟨#[102, 105, 110, 100, 115]⟩), none] 0 5 0 [.lst []]) := by kernel_rfl
    have r : lcL (nxRg 0 4) 2 ptT (eVar 2) [some (bk4 3 1 [a0, a1, a2] [b0, b1, b2] [c0, c1, c2] [d0, d1, d2]), some (.str ⟨#[102, 105, 110, 100, 115]⟩), none] 0 5 0 [.lst []] = some [.lst (outs (p4 (.int 0) (.int 1) (.int 2) (.int 3)) (p4 v0 v1 v2 v3) 0 4)] :=
      lcL_run (p4 (.int 0) (.int 1) (.int 2) (.int 3)) (p4 (.int 0) (.int 1) (.int 2) (.int 3)) (p4 v0 v1 v2 v3)
      (fun i S hi => match i, hi with
        | 0, _ => rfl
        | 1, _ => rfl
        | 2, _ => rfl
        | 3, _ => rfl) (fun S => rfl)
      (fun i S hi => by
        have g : ∀ (i : Int) (v : Bool), pureF f_is_let [(bk4 3 1 [a0, a1, a2] [b0, b1, b2] [c0, c1, c2] [d0, d1, d2]), .int i, .str ⟨#[102, 105, 110, 100, 115]⟩] S = some (.bl v, S) → ptT [some (bk4 3 1 [a0, a1, a2] [b0, b1, b2] [c0, c1, c2] [d0, d1, d2]), some (.str ⟨#[102, 105, 110, 100, 115]⟩), some (.int i)] S = some (v, S) := fun i v h => by
          have e : ∀ F : FF, (bV (eN F (aCons (eVar 0) (aCons (eVar 2) (aCons (eVar 1) (aNil)))))) [some (bk4 3 1 [a0, a1, a2] [b0, b1, b2] [c0, c1, c2] [d0, d1, d2]), some (.str ⟨#[102, 105, 110, 100, 115]⟩), some (.int i)] S = blR (F [(bk4 3 1 [a0, a1, a2] [b0, b1, b2] [c0, c1, c2] [d0, d1, d2]), .int i, .str ⟨#[102, 105, 110, 100, 115]⟩] S) := fun F => by kernel_rfl
          exact (e (pureF f_is_let)).trans (congrArg blR h)
        match i, hi with
        | 0, _ => exact g 0 v0 (l0 S)
        | 1, _ => exact g 1 v1 (l1 S)
        | 2, _ => exact g 2 v2 (l2 S)
        | 3, _ => exact g 3 v3 (l3 S))
      (fun i S hi => match i, hi with
        | 0, _ => rfl
        | 1, _ => rfl
        | 2, _ => rfl
        | 3, _ => rfl) 4 0 [.lst []] [] rfl rfl (by decide)
    have e4 : ptL [some (bk4 3 1 [a0, a1, a2] [b0, b1, b2] [c0, c1, c2] [d0, d1, d2]), some (.str ⟨#[102, 105, 110, 100, 115]⟩), none] [] = some (.ref 0, [.lst (outs (p4 (.int 0) (.int 1) (.int 2) (.int 3)) (p4 v0 v1 v2 v3) 0 4)]) := e3.trans (congrArg tagR r)
    refine (e2 ptL).trans ?_
    rw [e4]
    cases v0 <;> cases v1 <;> cases v2 <;> cases v3 <;> kernel_rfl
  refine pureF_of (by kernel_rfl) fin ?_ S
  cases v0 <;> cases v1 <;> cases v2 <;> cases v3 <;> kernel_rfl
theorem b3_31F (box : Addr) (o0 : ∀ S, pureF f_is_operation [.int 3, (Tb 1 [a0, a1, a2])] S = some (.bl true, S)) (o1 : ∀ S, pureF f_is_operation [.int 3, (Tb 1 [b0, b1, b2])] S = some (.bl true, S)) (o2 : ∀ S, pureF f_is_operation [.int 3, (Tb 1 [c0, c1, c2])] S = some (.bl true, S)) (o3 : ∀ S, pureF f_is_operation [.int 3, (Tb 1 [d0, d1, d2])] S = some (.bl true, S)) (v0 : Bool) (l0 : ∀ S, pureF f_is_let [(bk4 3 1 [a0, a1, a2] [b0, b1, b2] [c0, c1, c2] [d0, d1, d2]), .int 0, .str ⟨#[102, 105, 110, 100, 115]⟩] S = some (.bl v0, S)) (k0 : ∀ S, pureF f_law_lets [.int 3, (Tb 1 [a0, a1, a2]), .str ⟨#[102, 105, 110, 100, 115]⟩] S = some (.bl v0, S)) (v1 : Bool) (l1 : ∀ S, pureF f_is_let [(bk4 3 1 [a0, a1, a2] [b0, b1, b2] [c0, c1, c2] [d0, d1, d2]), .int 1, .str ⟨#[102, 105, 110, 100, 115]⟩] S = some (.bl v1, S)) (k1 : ∀ S, pureF f_law_lets [.int 3, (Tb 1 [b0, b1, b2]), .str ⟨#[102, 105, 110, 100, 115]⟩] S = some (.bl v1, S)) (v2 : Bool) (l2 : ∀ S, pureF f_is_let [(bk4 3 1 [a0, a1, a2] [b0, b1, b2] [c0, c1, c2] [d0, d1, d2]), .int 2, .str ⟨#[102, 105, 110, 100, 115]⟩] S = some (.bl v2, S)) (k2 : ∀ S, pureF f_law_lets [.int 3, (Tb 1 [c0, c1, c2]), .str ⟨#[102, 105, 110, 100, 115]⟩] S = some (.bl v2, S)) (v3 : Bool) (l3 : ∀ S, pureF f_is_let [(bk4 3 1 [a0, a1, a2] [b0, b1, b2] [c0, c1, c2] [d0, d1, d2]), .int 3, .str ⟨#[102, 105, 110, 100, 115]⟩] S = some (.bl v3, S)) (k3 : ∀ S, pureF f_law_lets [.int 3, (Tb 1 [d0, d1, d2]), .str ⟨#[102, 105, 110, 100, 115]⟩] S = some (.bl v3, S)) : nxAt (f_lawB3 [none, some (.obj box), some (.int 3), none, some (.int 1), some (.str ⟨#[102, 105, 110, 100, 115]⟩), none, none, none, none, none, none, none, some (.tup [(Tb 1 [a0, a1, a2]), (Tb 1 [b0, b1, b2]), (Tb 1 [c0, c1, c2]), (Tb 1 [d0, d1, d2])]), none, none, none, none] []) [1, 5] = some [.obj box, .str ⟨#[102, 105, 110, 100, 115]⟩] := by
  have hp := part31F a0 a1 a2 b0 b1 b2 c0 c1 c2 d0 d1 d2 o0 o1 o2 o3 v0 l0 k0 v1 l1 k1 v2 l2 k2 v3 l3 k3 []
  have q1 : ∀ F : FF, nxAt ((sIf (bV (e2 gNe (eN F (aCons (eN dTup (aCons (eVar 2) (aCons (eVar 13) (aNil)))) (aCons (eVar 5) (aNil)))) (eN (g1 gTupOf) (aCons (eLcT (iEn (eVar 13)) 15 12 (bV (eN (pureF f_law_lets) (aCons (eVar 2) (aCons (eVar 12) (aCons (eVar 5) (aNil)))))) (eVar 15) [15, 12]) (aNil))))) (sRet (eC (.bl false))) (sNil)) [none, some (.obj box), some (.int 3), none, some (.int 1), some (.str ⟨#[102, 105, 110, 100, 115]⟩), none, none, none, none, none, none, none, some (.tup [(Tb 1 [a0, a1, a2]), (Tb 1 [b0, b1, b2]), (Tb 1 [c0, c1, c2]), (Tb 1 [d0, d1, d2])]), none, none, none, none] []) [1, 5] = nxAt ((sIf (bV (e2 gNe (eN (fun _ _ => F [(tk4 3 1 [a0, a1, a2] [b0, b1, b2] [c0, c1, c2] [d0, d1, d2]), .str ⟨#[102, 105, 110, 100, 115]⟩] []) (aCons (eN dTup (aCons (eVar 2) (aCons (eVar 13) (aNil)))) (aCons (eVar 5) (aNil)))) (eN (g1 gTupOf) (aCons (eLcT (iEn (eVar 13)) 15 12 (bV (eN (pureF f_law_lets) (aCons (eVar 2) (aCons (eVar 12) (aCons (eVar 5) (aNil)))))) (eVar 15) [15, 12]) (aNil))))) (sRet (eC (.bl false))) (sNil)) [none, some (.obj box), some (.int 3), none, some (.int 1), some (.str ⟨#[102, 105, 110, 100, 115]⟩), none, none, none, none, none, none, none, some (.tup [(Tb 1 [a0, a1, a2]), (Tb 1 [b0, b1, b2]), (Tb 1 [c0, c1, c2]), (Tb 1 [d0, d1, d2])]), none, none, none, none] []) [1, 5] := fun F => by kernel_rfl
  have q2 := q1 (pureF f_let_part)
  rw [hp] at q2
  refine Eq.trans q2 ?_
  have r : lcTL (nxEnT [(Tb 1 [a0, a1, a2]), (Tb 1 [b0, b1, b2]), (Tb 1 [c0, c1, c2]), (Tb 1 [d0, d1, d2])]) 15 12 b3T (eVar 15) [none, some (.obj box), some (.int 3), none, some (.int 1), some (.str ⟨#[102, 105, 110, 100, 115]⟩), none, none, none, none, none, none, none, some (.tup [(Tb 1 [a0, a1, a2]), (Tb 1 [b0, b1, b2]), (Tb 1 [c0, c1, c2]), (Tb 1 [d0, d1, d2])]), none, none, none, none] 0 5 0 [.lst []] = some [.lst (outs (p4 (.int 0) (.int 1) (.int 2) (.int 3)) (p4 v0 v1 v2 v3) 0 4)] :=
    lcTL_run (p4 (.int 0) (.int 1) (.int 2) (.int 3)) (p4 (Tb 1 [a0, a1, a2]) (Tb 1 [b0, b1, b2]) (Tb 1 [c0, c1, c2]) (Tb 1 [d0, d1, d2])) (p4 (.int 0) (.int 1) (.int 2) (.int 3)) (p4 v0 v1 v2 v3)
    (fun i S hi => match i, hi with
        | 0, _ => rfl
        | 1, _ => rfl
        | 2, _ => rfl
        | 3, _ => rfl) (fun S => rfl)
    (fun i S hi => by
        have g : ∀ (i : Int) (t : D) (v : Bool), pureF f_law_lets [.int 3, t, .str ⟨#[102, 105, 110, 100, 115]⟩] S = some (.bl v, S) → b3T [none, some (.obj box), some (.int 3), none, some (.int 1), some (.str ⟨#[102, 105, 110, 100, 115]⟩), none, none, none, none, none, none, some t, some (.tup [(Tb 1 [a0, a1, a2]), (Tb 1 [b0, b1, b2]), (Tb 1 [c0, c1, c2]), (Tb 1 [d0, d1, d2])]), none, some (.int i), none, none] S = some (v, S) := fun i t v h => by
          have e : ∀ F : FF, (bV (eN F (aCons (eVar 2) (aCons (eVar 12) (aCons (eVar 5) (aNil)))))) [none, some (.obj box), some (.int 3), none, some (.int 1), some (.str ⟨#[102, 105, 110, 100, 115]⟩), none, none, none, none, none, none, some t, some (.tup [(Tb 1 [a0, a1, a2]), (Tb 1 [b0, b1, b2]), (Tb 1 [c0, c1, c2]), (Tb 1 [d0, d1, d2])]), none, some (.int i), none, none] S = blR (F [.int 3, t, .str ⟨#[102, 105, 110, 100, 115]⟩] S) := fun F => by kernel_rfl
          exact (e (pureF f_law_lets)).trans (congrArg blR h)
        match i, hi with
        | 0, _ => exact g 0 _ v0 (k0 S)
        | 1, _ => exact g 1 _ v1 (k1 S)
        | 2, _ => exact g 2 _ v2 (k2 S)
        | 3, _ => exact g 3 _ v3 (k3 S))
    (fun i S hi => match i, hi with
        | 0, _ => rfl
        | 1, _ => rfl
        | 2, _ => rfl
        | 3, _ => rfl) 4 0 [.lst []] [] rfl rfl (by decide)
  have e3 : b3C [none, some (.obj box), some (.int 3), none, some (.int 1), some (.str ⟨#[102, 105, 110, 100, 115]⟩), none, none, none, none, none, none, none, some (.tup [(Tb 1 [a0, a1, a2]), (Tb 1 [b0, b1, b2]), (Tb 1 [c0, c1, c2]), (Tb 1 [d0, d1, d2])]), none, none, none, none] [] = tagR (lcTL (nxEnT [(Tb 1 [a0, a1, a2]), (Tb 1 [b0, b1, b2]), (Tb 1 [c0, c1, c2]), (Tb 1 [d0, d1, d2])]) 15 12 b3T (eVar 15) [none, some (.obj box), some (.int 3), none, some (.int 1), some (.str ⟨#[102, 105, 110, 100, 115]⟩), none, none, none, none, none, none, none, some (.tup [(Tb 1 [a0, a1, a2]), (Tb 1 [b0, b1, b2]), (Tb 1 [c0, c1, c2]), (Tb 1 [d0, d1, d2])]), none, none, none, none] 0 5 0 [.lst []]) := by kernel_rfl
  have e3' : b3C [none, some (.obj box), some (.int 3), none, some (.int 1), some (.str ⟨#[102, 105, 110, 100, 115]⟩), none, none, none, none, none, none, none, some (.tup [(Tb 1 [a0, a1, a2]), (Tb 1 [b0, b1, b2]), (Tb 1 [c0, c1, c2]), (Tb 1 [d0, d1, d2])]), none, none, none, none] [] = some (.ref 0, [.lst (outs (p4 (.int 0) (.int 1) (.int 2) (.int 3)) (p4 v0 v1 v2 v3) 0 4)]) := e3.trans (congrArg tagR r)
  have e4 : ∀ C : FE, nxAt ((sIf (bV (e2 gNe (eN (fun _ _ => some (.tup (outs (p4 (.int 0) (.int 1) (.int 2) (.int 3)) (p4 v0 v1 v2 v3) 0 4), [])) (aCons (eN dTup (aCons (eVar 2) (aCons (eVar 13) (aNil)))) (aCons (eVar 5) (aNil)))) (eN (g1 gTupOf) (aCons (C) (aNil))))) (sRet (eC (.bl false))) (sNil)) [none, some (.obj box), some (.int 3), none, some (.int 1), some (.str ⟨#[102, 105, 110, 100, 115]⟩), none, none, none, none, none, none, none, some (.tup [(Tb 1 [a0, a1, a2]), (Tb 1 [b0, b1, b2]), (Tb 1 [c0, c1, c2]), (Tb 1 [d0, d1, d2])]), none, none, none, none] []) [1, 5] = nxAt ((sIf (bV (e2 gNe (eN (fun _ _ => some (.tup (outs (p4 (.int 0) (.int 1) (.int 2) (.int 3)) (p4 v0 v1 v2 v3) 0 4), [])) (aCons (eN dTup (aCons (eVar 2) (aCons (eVar 13) (aNil)))) (aCons (eVar 5) (aNil)))) (eN (g1 gTupOf) (aCons ((fun _ _ => C [none, some (.obj box), some (.int 3), none, some (.int 1), some (.str ⟨#[102, 105, 110, 100, 115]⟩), none, none, none, none, none, none, none, some (.tup [(Tb 1 [a0, a1, a2]), (Tb 1 [b0, b1, b2]), (Tb 1 [c0, c1, c2]), (Tb 1 [d0, d1, d2])]), none, none, none, none] [])) (aNil))))) (sRet (eC (.bl false))) (sNil)) [none, some (.obj box), some (.int 3), none, some (.int 1), some (.str ⟨#[102, 105, 110, 100, 115]⟩), none, none, none, none, none, none, none, some (.tup [(Tb 1 [a0, a1, a2]), (Tb 1 [b0, b1, b2]), (Tb 1 [c0, c1, c2]), (Tb 1 [d0, d1, d2])]), none, none, none, none] []) [1, 5] := fun C => by kernel_rfl
  have q5 := e4 b3C
  rw [e3'] at q5
  refine Eq.trans q5 ?_
  cases v0 <;> cases v1 <;> cases v2 <;> cases v3 <;> kernel_rfl
end
section
variable (a0 a1 a2 a3 b0 b1 b2 b3 c0 c1 c2 c3 d0 d1 d2 d3 : Int)
theorem book22 (o0 : ∀ S, pureF f_is_operation [.int 2, (Tb 2 [a0, a1, a2, a3])] S = some (.bl true, S)) (o1 : ∀ S, pureF f_is_operation [.int 2, (Tb 2 [b0, b1, b2, b3])] S = some (.bl true, S)) (o2 : ∀ S, pureF f_is_operation [.int 2, (Tb 2 [c0, c1, c2, c3])] S = some (.bl true, S)) (o3 : ∀ S, pureF f_is_operation [.int 2, (Tb 2 [d0, d1, d2, d3])] S = some (.bl true, S)) (S : Sto) : pureF f_need_book [(tk4 2 2 [a0, a1, a2, a3] [b0, b1, b2, b3] [c0, c1, c2, c3] [d0, d1, d2, d3])] S = some ((bk4 2 2 [a0, a1, a2, a3] [b0, b1, b2, b3] [c0, c1, c2, c3] [d0, d1, d2, d3]), S) := by
  have hT : ∀ i S, i < 4 → bkB (p4 [some (tk4 2 2 [a0, a1, a2, a3] [b0, b1, b2, b3] [c0, c1, c2, c3] [d0, d1, d2, d3]), some (.int 0), some (Tb 2 [a0, a1, a2, a3])] [some (tk4 2 2 [a0, a1, a2, a3] [b0, b1, b2, b3] [c0, c1, c2, c3] [d0, d1, d2, d3]), some (.int 1), some (Tb 2 [b0, b1, b2, b3])] [some (tk4 2 2 [a0, a1, a2, a3] [b0, b1, b2, b3] [c0, c1, c2, c3] [d0, d1, d2, d3]), some (.int 2), some (Tb 2 [c0, c1, c2, c3])] [some (tk4 2 2 [a0, a1, a2, a3] [b0, b1, b2, b3] [c0, c1, c2, c3] [d0, d1, d2, d3]), some (.int 3), some (Tb 2 [d0, d1, d2, d3])] i) S = some (.nx (p4 [some (tk4 2 2 [a0, a1, a2, a3] [b0, b1, b2, b3] [c0, c1, c2, c3] [d0, d1, d2, d3]), some (.int 0), some (Tb 2 [a0, a1, a2, a3])] [some (tk4 2 2 [a0, a1, a2, a3] [b0, b1, b2, b3] [c0, c1, c2, c3] [d0, d1, d2, d3]), some (.int 1), some (Tb 2 [b0, b1, b2, b3])] [some (tk4 2 2 [a0, a1, a2, a3] [b0, b1, b2, b3] [c0, c1, c2, c3] [d0, d1, d2, d3]), some (.int 2), some (Tb 2 [c0, c1, c2, c3])] [some (tk4 2 2 [a0, a1, a2, a3] [b0, b1, b2, b3] [c0, c1, c2, c3] [d0, d1, d2, d3]), some (.int 3), some (Tb 2 [d0, d1, d2, d3])] i), S) := by
    have g : ∀ (k : Int) (t : D), (wk t = t ∨ True) → (∀ S, pureF f_is_operation [.int 2, t] S = some (.bl true, S)) → ∀ S, bkB [some (tk4 2 2 [a0, a1, a2, a3] [b0, b1, b2, b3] [c0, c1, c2, c3] [d0, d1, d2, d3]), some (.int k), some t] S = some (.nx [some (tk4 2 2 [a0, a1, a2, a3] [b0, b1, b2, b3] [c0, c1, c2, c3] [d0, d1, d2, d3]), some (.int k), some t], S) := fun k t _ o S => by
      have e : bkB [some (tk4 2 2 [a0, a1, a2, a3] [b0, b1, b2, b3] [c0, c1, c2, c3] [d0, d1, d2, d3]), some (.int k), some t] S = match pureF f_is_operation [.int 2, t] S with
        | some (.bl b, S1) => if b then some (.nx [some (tk4 2 2 [a0, a1, a2, a3] [b0, b1, b2, b3] [c0, c1, c2, c3] [d0, d1, d2, d3]), some (.int k), some t], S1) else none
        | _ => none := by
        have : ∀ F : FF, (sIf (bNot (bV (eN F (aCons (e2 gIx (eVar 0) (eC (.int 0))) (aCons (eVar 2) (aNil)))))) (sNever) (sNil)) [some (tk4 2 2 [a0, a1, a2, a3] [b0, b1, b2, b3] [c0, c1, c2, c3] [d0, d1, d2, d3]), some (.int k), some t] S = match F [.int 2, t] S with
          | some (.bl b, S1) => if b then some (.nx [some (tk4 2 2 [a0, a1, a2, a3] [b0, b1, b2, b3] [c0, c1, c2, c3] [d0, d1, d2, d3]), some (.int k), some t], S1) else none
          | _ => none := fun F => by
          have e1 : (sIf (bNot (bV (eN F (aCons (e2 gIx (eVar 0) (eC (.int 0))) (aCons (eVar 2) (aNil)))))) (sNever) (sNil)) [some (tk4 2 2 [a0, a1, a2, a3] [b0, b1, b2, b3] [c0, c1, c2, c3] [d0, d1, d2, d3]), some (.int k), some t] S = (sIf (bNot (bV (eN (fun _ _ => F [.int 2, t] S) (aCons (e2 gIx (eVar 0) (eC (.int 0))) (aCons (eVar 2) (aNil)))))) (sNever) (sNil)) [some (tk4 2 2 [a0, a1, a2, a3] [b0, b1, b2, b3] [c0, c1, c2, c3] [d0, d1, d2, d3]), some (.int k), some t] S := by kernel_rfl
          rw [e1]
          generalize F [.int 2, t] S = r
          rcases r with _ | ⟨x, S1⟩
          · rfl
          · cases x with
            | bl b => cases b <;> rfl
            | _ => rfl
        exact this (pureF f_is_operation)
      rw [e, o S]
      rfl
    intro i S hi
    match i, hi with
    | 0, _ => exact g 0 _ (.inr trivial) o0 S
    | 1, _ => exact g 1 _ (.inr trivial) o1 S
    | 2, _ => exact g 2 _ (.inr trivial) o2 S
    | 3, _ => exact g 3 _ (.inr trivial) o3 S
  have h1 : bkC1 [some (tk4 2 2 [a0, a1, a2, a3] [b0, b1, b2, b3] [c0, c1, c2, c3] [d0, d1, d2, d3]), none, none] [] = some (.nx [some (tk4 2 2 [a0, a1, a2, a3] [b0, b1, b2, b3] [c0, c1, c2, c3] [d0, d1, d2, d3]), none, none], []) := by kernel_rfl
  have h2 : bkC2 [some (tk4 2 2 [a0, a1, a2, a3] [b0, b1, b2, b3] [c0, c1, c2, c3] [d0, d1, d2, d3]), none, none] [] = some (.nx [some (tk4 2 2 [a0, a1, a2, a3] [b0, b1, b2, b3] [c0, c1, c2, c3] [d0, d1, d2, d3]), none, none], []) := by kernel_rfl
  have h3 : bkL [some (tk4 2 2 [a0, a1, a2, a3] [b0, b1, b2, b3] [c0, c1, c2, c3] [d0, d1, d2, d3]), none, none] [] = some (.nx [some (tk4 2 2 [a0, a1, a2, a3] [b0, b1, b2, b3] [c0, c1, c2, c3] [d0, d1, d2, d3]), some (.int 3), some (Tb 2 [d0, d1, d2, d3])], []) := by
    rw [bkL_is]
    have e : (sFor bkI (.inr [1, 2]) bkB) [some (tk4 2 2 [a0, a1, a2, a3] [b0, b1, b2, b3] [c0, c1, c2, c3] [d0, d1, d2, d3]), none, none] [] = forL (nxEnT [(Tb 2 [a0, a1, a2, a3]), (Tb 2 [b0, b1, b2, b3]), (Tb 2 [c0, c1, c2, c3]), (Tb 2 [d0, d1, d2, d3])]) (.inr [1, 2]) bkB 5 0 [some (tk4 2 2 [a0, a1, a2, a3] [b0, b1, b2, b3] [c0, c1, c2, c3] [d0, d1, d2, d3]), none, none] [] := by kernel_rfl
    rw [e]
    have r := forL_run (nx := nxEnT [(Tb 2 [a0, a1, a2, a3]), (Tb 2 [b0, b1, b2, b3]), (Tb 2 [c0, c1, c2, c3]), (Tb 2 [d0, d1, d2, d3])]) (t := .inr [1, 2]) (body := bkB) (m := 4) (p4 (.tup [.int 0, (Tb 2 [a0, a1, a2, a3])]) (.tup [.int 1, (Tb 2 [b0, b1, b2, b3])]) (.tup [.int 2, (Tb 2 [c0, c1, c2, c3])]) (.tup [.int 3, (Tb 2 [d0, d1, d2, d3])]))
      (fun i => match i with
        | 0 => [some (tk4 2 2 [a0, a1, a2, a3] [b0, b1, b2, b3] [c0, c1, c2, c3] [d0, d1, d2, d3]), none, none]
        | i + 1 => p4 [some (tk4 2 2 [a0, a1, a2, a3] [b0, b1, b2, b3] [c0, c1, c2, c3] [d0, d1, d2, d3]), some (.int 0), some (Tb 2 [a0, a1, a2, a3])] [some (tk4 2 2 [a0, a1, a2, a3] [b0, b1, b2, b3] [c0, c1, c2, c3] [d0, d1, d2, d3]), some (.int 1), some (Tb 2 [b0, b1, b2, b3])] [some (tk4 2 2 [a0, a1, a2, a3] [b0, b1, b2, b3] [c0, c1, c2, c3] [d0, d1, d2, d3]), some (.int 2), some (Tb 2 [c0, c1, c2, c3])] [some (tk4 2 2 [a0, a1, a2, a3] [b0, b1, b2, b3] [c0, c1, c2, c3] [d0, d1, d2, d3]), some (.int 3), some (Tb 2 [d0, d1, d2, d3])] i)
      (fun i S hi => match i, hi with
        | 0, _ => rfl
        | 1, _ => rfl
        | 2, _ => rfl
        | 3, _ => rfl) (fun S => rfl) (fun i hi => match i, hi with
        | 0, _ => rfl
        | 1, _ => rfl
        | 2, _ => rfl
        | 3, _ => rfl) (fun i S hi => hT i S hi) 4 0 [] rfl
    exact r
  have h4 : rtOf (bkR [some (tk4 2 2 [a0, a1, a2, a3] [b0, b1, b2, b3] [c0, c1, c2, c3] [d0, d1, d2, d3]), some (.int 3), some (Tb 2 [d0, d1, d2, d3])] []) = some (bk4 2 2 [a0, a1, a2, a3] [b0, b1, b2, b3] [c0, c1, c2, c3] [d0, d1, d2, d3]) := by kernel_rfl
  have fin : ∃ S0, f_need_book [(tk4 2 2 [a0, a1, a2, a3] [b0, b1, b2, b3] [c0, c1, c2, c3] [d0, d1, d2, d3])] [] = some ((bk4 2 2 [a0, a1, a2, a3] [b0, b1, b2, b3] [c0, c1, c2, c3] [d0, d1, d2, d3]), S0) := by
    rw [book_is]
    have e : fnD 1 3 (sSeq bkC1 (sSeq bkC2 (sSeq bkL bkR))) [(tk4 2 2 [a0, a1, a2, a3] [b0, b1, b2, b3] [c0, c1, c2, c3] [d0, d1, d2, d3])] [] = match sSeq bkC1 (sSeq bkC2 (sSeq bkL bkR)) [some (tk4 2 2 [a0, a1, a2, a3] [b0, b1, b2, b3] [c0, c1, c2, c3] [d0, d1, d2, d3]), none, none] [] with
      | some (.rt d, S') => some (d, S')
      | some (.nx _, S') => some (.non, S')
      | _ => none := rfl
    rw [e]
    have e2 : sSeq bkC1 (sSeq bkC2 (sSeq bkL bkR)) [some (tk4 2 2 [a0, a1, a2, a3] [b0, b1, b2, b3] [c0, c1, c2, c3] [d0, d1, d2, d3]), none, none] [] = bkR [some (tk4 2 2 [a0, a1, a2, a3] [b0, b1, b2, b3] [c0, c1, c2, c3] [d0, d1, d2, d3]), some (.int 3), some (Tb 2 [d0, d1, d2, d3])] [] := by
      unfold sSeq
      rw [h1]
      simp only
      rw [h2]
      simp only
      rw [h3]
    rw [e2]
    cases q : bkR [some (tk4 2 2 [a0, a1, a2, a3] [b0, b1, b2, b3] [c0, c1, c2, c3] [d0, d1, d2, d3]), some (.int 3), some (Tb 2 [d0, d1, d2, d3])] [] with
    | none => rw [q] at h4; cases h4
    | some x =>
      obtain ⟨fl, S1⟩ := x
      rw [q] at h4
      cases fl with
      | rt d =>
        have h5 : some d = some (bk4 2 2 [a0, a1, a2, a3] [b0, b1, b2, b3] [c0, c1, c2, c3] [d0, d1, d2, d3]) := h4
        cases h5
        exact ⟨S1, rfl⟩
      | _ => cases h4
  obtain ⟨S0, e⟩ := fin
  exact pureF_of (by kernel_rfl) e (by kernel_rfl) S
theorem part22E (o0 : ∀ S, pureF f_is_operation [.int 2, (Tb 2 [a0, a1, a2, a3])] S = some (.bl true, S)) (o1 : ∀ S, pureF f_is_operation [.int 2, (Tb 2 [b0, b1, b2, b3])] S = some (.bl true, S)) (o2 : ∀ S, pureF f_is_operation [.int 2, (Tb 2 [c0, c1, c2, c3])] S = some (.bl true, S)) (o3 : ∀ S, pureF f_is_operation [.int 2, (Tb 2 [d0, d1, d2, d3])] S = some (.bl true, S)) (v0 : Bool) (l0 : ∀ S, pureF f_is_let [(bk4 2 2 [a0, a1, a2, a3] [b0, b1, b2, b3] [c0, c1, c2, c3] [d0, d1, d2, d3]), .int 0, .str ⟨#[101, 120, 97, 99, 116]⟩] S = some (.bl v0, S)) (k0 : ∀ S, pureF f_law_lets [.int 2, (Tb 2 [a0, a1, a2, a3]), .str ⟨#[101, 120, 97, 99, 116]⟩] S = some (.bl v0, S)) (v1 : Bool) (l1 : ∀ S, pureF f_is_let [(bk4 2 2 [a0, a1, a2, a3] [b0, b1, b2, b3] [c0, c1, c2, c3] [d0, d1, d2, d3]), .int 1, .str ⟨#[101, 120, 97, 99, 116]⟩] S = some (.bl v1, S)) (k1 : ∀ S, pureF f_law_lets [.int 2, (Tb 2 [b0, b1, b2, b3]), .str ⟨#[101, 120, 97, 99, 116]⟩] S = some (.bl v1, S)) (v2 : Bool) (l2 : ∀ S, pureF f_is_let [(bk4 2 2 [a0, a1, a2, a3] [b0, b1, b2, b3] [c0, c1, c2, c3] [d0, d1, d2, d3]), .int 2, .str ⟨#[101, 120, 97, 99, 116]⟩] S = some (.bl v2, S)) (k2 : ∀ S, pureF f_law_lets [.int 2, (Tb 2 [c0, c1, c2, c3]), .str ⟨#[101, 120, 97, 99, 116]⟩] S = some (.bl v2, S)) (v3 : Bool) (l3 : ∀ S, pureF f_is_let [(bk4 2 2 [a0, a1, a2, a3] [b0, b1, b2, b3] [c0, c1, c2, c3] [d0, d1, d2, d3]), .int 3, .str ⟨#[101, 120, 97, 99, 116]⟩] S = some (.bl v3, S)) (k3 : ∀ S, pureF f_law_lets [.int 2, (Tb 2 [d0, d1, d2, d3]), .str ⟨#[101, 120, 97, 99, 116]⟩] S = some (.bl v3, S)) (S : Sto) : pureF f_let_part [(tk4 2 2 [a0, a1, a2, a3] [b0, b1, b2, b3] [c0, c1, c2, c3] [d0, d1, d2, d3]), .str ⟨#[101, 120, 97, 99, 116]⟩] S = some (.tup (outs (p4 (.int 0) (.int 1) (.int 2) (.int 3)) (p4 v0 v1 v2 v3) 0 4), S) := by
  have hb := book22 a0 a1 a2 a3 b0 b1 b2 b3 c0 c1 c2 c3 d0 d1 d2 d3 o0 o1 o2 o3
  have fin : f_let_part [(tk4 2 2 [a0, a1, a2, a3] [b0, b1, b2, b3] [c0, c1, c2, c3] [d0, d1, d2, d3]), .str ⟨#[101, 120, 97, 99, 116]⟩] [] = some (.tup (outs (p4 (.int 0) (.int 1) (.int 2) (.int 3)) (p4 v0 v1 v2 v3) 0 4), [.lst (outs (p4 (.int 0) (.int 1) (.int 2) (.int 3)) (p4 v0 v1 v2 v3) 0 4)]) := by
    rw [pt_is]
    have e1 : ptG (pureF f_need_book) ptL [(tk4 2 2 [a0, a1, a2, a3] [b0, b1, b2, b3] [c0, c1, c2, c3] [d0, d1, d2, d3]), .str ⟨#[101, 120, 97, 99, 116]⟩] [] = ptG (fun _ _ => pureF f_need_book [(tk4 2 2 [a0, a1, a2, a3] [b0, b1, b2, b3] [c0, c1, c2, c3] [d0, d1, d2, d3])] []) ptL [(tk4 2 2 [a0, a1, a2, a3] [b0, b1, b2, b3] [c0, c1, c2, c3] [d0, d1, d2, d3]), .str ⟨#[101, 120, 97, 99, 116]⟩] [] := by kernel_rfl
    rw [e1, hb []]
    have e2 : ∀ C : FE, ptG (fun _ _ => some ((bk4 2 2 [a0, a1, a2, a3] [b0, b1, b2, b3] [c0, c1, c2, c3] [d0, d1, d2, d3]), [])) C [(tk4 2 2 [a0, a1, a2, a3] [b0, b1, b2, b3] [c0, c1, c2, c3] [d0, d1, d2, d3]), .str ⟨#[101, 120, 97, 99, 116]⟩] [] = ptG (fun _ _ => some ((bk4 2 2 [a0, a1, a2, a3] [b0, b1, b2, b3] [c0, c1, c2, c3] [d0, d1, d2, d3]), [])) (fun _ _ => C [some (bk4 2 2 [a0, a1, a2, a3] [b0, b1, b2, b3] [c0, c1, c2, c3] [d0, d1, d2, d3]), some (.str ⟨#[101, 120, 97, 99, 116]⟩), none] []) [(tk4 2 2 [a0, a1, a2, a3] [b0, b1, b2, b3] [c0, c1, c2, c3] [d0, d1, d2, d3]), .str ⟨#[101, 120, 97, 99, 116]⟩] [] := fun C => by kernel_rfl
    have e3 : ptL [some (bk4 2 2 [a0, a1, a2, a3] [b0, b1, b2, b3] [c0, c1, c2, c3] [d0, d1, d2, d3]), some (.str ⟨#[101, 120, 97, 99, 116]⟩), none] [] = tagR (lcL (nxRg 0 4) 2 ptT (eVar 2) [some (bk4 2 2 [a0, a1, a2, a3] [b0, b1, b2, b3] [c0, c1, c2, c3] [d0, d1, d2, d3]), some (.str ⟨#[101, 120, 97, 99, 116]⟩), none] 0 5 0 [.lst []]) := by kernel_rfl
    have r : lcL (nxRg 0 4) 2 ptT (eVar 2) [some (bk4 2 2 [a0, a1, a2, a3] [b0, b1, b2, b3] [c0, c1, c2, c3] [d0, d1, d2, d3]), some (.str ⟨#[101, 120, 97, 99, 116]⟩), none] 0 5 0 [.lst []] = some [.lst (outs (p4 (.int 0) (.int 1) (.int 2) (.int 3)) (p4 v0 v1 v2 v3) 0 4)] :=
      lcL_run (p4 (.int 0) (.int 1) (.int 2) (.int 3)) (p4 (.int 0) (.int 1) (.int 2) (.int 3)) (p4 v0 v1 v2 v3)
      (fun i S hi => match i, hi with
        | 0, _ => rfl
        | 1, _ => rfl
        | 2, _ => rfl
        | 3, _ => rfl) (fun S => rfl)
      (fun i S hi => by
        have g : ∀ (i : Int) (v : Bool), pureF f_is_let [(bk4 2 2 [a0, a1, a2, a3] [b0, b1, b2, b3] [c0, c1, c2, c3] [d0, d1, d2, d3]), .int i, .str ⟨#[101, 120, 97, 99, 116]⟩] S = some (.bl v, S) → ptT [some (bk4 2 2 [a0, a1, a2, a3] [b0, b1, b2, b3] [c0, c1, c2, c3] [d0, d1, d2, d3]), some (.str ⟨#[101, 120, 97, 99, 116]⟩), some (.int i)] S = some (v, S) := fun i v h => by
          have e : ∀ F : FF, (bV (eN F (aCons (eVar 0) (aCons (eVar 2) (aCons (eVar 1) (aNil)))))) [some (bk4 2 2 [a0, a1, a2, a3] [b0, b1, b2, b3] [c0, c1, c2, c3] [d0, d1, d2, d3]), some (.str ⟨#[101, 120, 97, 99, 116]⟩), some (.int i)] S = blR (F [(bk4 2 2 [a0, a1, a2, a3] [b0, b1, b2, b3] [c0, c1, c2, c3] [d0, d1, d2, d3]), .int i, .str ⟨#[101, 120, 97, 99, 116]⟩] S) := fun F => by kernel_rfl
          exact (e (pureF f_is_let)).trans (congrArg blR h)
        match i, hi with
        | 0, _ => exact g 0 v0 (l0 S)
        | 1, _ => exact g 1 v1 (l1 S)
        | 2, _ => exact g 2 v2 (l2 S)
        | 3, _ => exact g 3 v3 (l3 S))
      (fun i S hi => match i, hi with
        | 0, _ => rfl
        | 1, _ => rfl
        | 2, _ => rfl
        | 3, _ => rfl) 4 0 [.lst []] [] rfl rfl (by decide)
    have e4 : ptL [some (bk4 2 2 [a0, a1, a2, a3] [b0, b1, b2, b3] [c0, c1, c2, c3] [d0, d1, d2, d3]), some (.str ⟨#[101, 120, 97, 99, 116]⟩), none] [] = some (.ref 0, [.lst (outs (p4 (.int 0) (.int 1) (.int 2) (.int 3)) (p4 v0 v1 v2 v3) 0 4)]) := e3.trans (congrArg tagR r)
    refine (e2 ptL).trans ?_
    rw [e4]
    cases v0 <;> cases v1 <;> cases v2 <;> cases v3 <;> kernel_rfl
  refine pureF_of (by kernel_rfl) fin ?_ S
  cases v0 <;> cases v1 <;> cases v2 <;> cases v3 <;> kernel_rfl
theorem b3_22E (box : Addr) (o0 : ∀ S, pureF f_is_operation [.int 2, (Tb 2 [a0, a1, a2, a3])] S = some (.bl true, S)) (o1 : ∀ S, pureF f_is_operation [.int 2, (Tb 2 [b0, b1, b2, b3])] S = some (.bl true, S)) (o2 : ∀ S, pureF f_is_operation [.int 2, (Tb 2 [c0, c1, c2, c3])] S = some (.bl true, S)) (o3 : ∀ S, pureF f_is_operation [.int 2, (Tb 2 [d0, d1, d2, d3])] S = some (.bl true, S)) (v0 : Bool) (l0 : ∀ S, pureF f_is_let [(bk4 2 2 [a0, a1, a2, a3] [b0, b1, b2, b3] [c0, c1, c2, c3] [d0, d1, d2, d3]), .int 0, .str ⟨#[101, 120, 97, 99, 116]⟩] S = some (.bl v0, S)) (k0 : ∀ S, pureF f_law_lets [.int 2, (Tb 2 [a0, a1, a2, a3]), .str ⟨#[101, 120, 97, 99, 116]⟩] S = some (.bl v0, S)) (v1 : Bool) (l1 : ∀ S, pureF f_is_let [(bk4 2 2 [a0, a1, a2, a3] [b0, b1, b2, b3] [c0, c1, c2, c3] [d0, d1, d2, d3]), .int 1, .str ⟨#[101, 120, 97, 99, 116]⟩] S = some (.bl v1, S)) (k1 : ∀ S, pureF f_law_lets [.int 2, (Tb 2 [b0, b1, b2, b3]), .str ⟨#[101, 120, 97, 99, 116]⟩] S = some (.bl v1, S)) (v2 : Bool) (l2 : ∀ S, pureF f_is_let [(bk4 2 2 [a0, a1, a2, a3] [b0, b1, b2, b3] [c0, c1, c2, c3] [d0, d1, d2, d3]), .int 2, .str ⟨#[101, 120, 97, 99, 116]⟩] S = some (.bl v2, S)) (k2 : ∀ S, pureF f_law_lets [.int 2, (Tb 2 [c0, c1, c2, c3]), .str ⟨#[101, 120, 97, 99, 116]⟩] S = some (.bl v2, S)) (v3 : Bool) (l3 : ∀ S, pureF f_is_let [(bk4 2 2 [a0, a1, a2, a3] [b0, b1, b2, b3] [c0, c1, c2, c3] [d0, d1, d2, d3]), .int 3, .str ⟨#[101, 120, 97, 99, 116]⟩] S = some (.bl v3, S)) (k3 : ∀ S, pureF f_law_lets [.int 2, (Tb 2 [d0, d1, d2, d3]), .str ⟨#[101, 120, 97, 99, 116]⟩] S = some (.bl v3, S)) : nxAt (f_lawB3 [none, some (.obj box), some (.int 2), none, some (.int 2), some (.str ⟨#[101, 120, 97, 99, 116]⟩), none, none, none, none, none, none, none, some (.tup [(Tb 2 [a0, a1, a2, a3]), (Tb 2 [b0, b1, b2, b3]), (Tb 2 [c0, c1, c2, c3]), (Tb 2 [d0, d1, d2, d3])]), none, none, none, none] []) [1, 5] = some [.obj box, .str ⟨#[101, 120, 97, 99, 116]⟩] := by
  have hp := part22E a0 a1 a2 a3 b0 b1 b2 b3 c0 c1 c2 c3 d0 d1 d2 d3 o0 o1 o2 o3 v0 l0 k0 v1 l1 k1 v2 l2 k2 v3 l3 k3 []
  have q1 : ∀ F : FF, nxAt ((sIf (bV (e2 gNe (eN F (aCons (eN dTup (aCons (eVar 2) (aCons (eVar 13) (aNil)))) (aCons (eVar 5) (aNil)))) (eN (g1 gTupOf) (aCons (eLcT (iEn (eVar 13)) 15 12 (bV (eN (pureF f_law_lets) (aCons (eVar 2) (aCons (eVar 12) (aCons (eVar 5) (aNil)))))) (eVar 15) [15, 12]) (aNil))))) (sRet (eC (.bl false))) (sNil)) [none, some (.obj box), some (.int 2), none, some (.int 2), some (.str ⟨#[101, 120, 97, 99, 116]⟩), none, none, none, none, none, none, none, some (.tup [(Tb 2 [a0, a1, a2, a3]), (Tb 2 [b0, b1, b2, b3]), (Tb 2 [c0, c1, c2, c3]), (Tb 2 [d0, d1, d2, d3])]), none, none, none, none] []) [1, 5] = nxAt ((sIf (bV (e2 gNe (eN (fun _ _ => F [(tk4 2 2 [a0, a1, a2, a3] [b0, b1, b2, b3] [c0, c1, c2, c3] [d0, d1, d2, d3]), .str ⟨#[101, 120, 97, 99, 116]⟩] []) (aCons (eN dTup (aCons (eVar 2) (aCons (eVar 13) (aNil)))) (aCons (eVar 5) (aNil)))) (eN (g1 gTupOf) (aCons (eLcT (iEn (eVar 13)) 15 12 (bV (eN (pureF f_law_lets) (aCons (eVar 2) (aCons (eVar 12) (aCons (eVar 5) (aNil)))))) (eVar 15) [15, 12]) (aNil))))) (sRet (eC (.bl false))) (sNil)) [none, some (.obj box), some (.int 2), none, some (.int 2), some (.str ⟨#[101, 120, 97, 99, 116]⟩), none, none, none, none, none, none, none, some (.tup [(Tb 2 [a0, a1, a2, a3]), (Tb 2 [b0, b1, b2, b3]), (Tb 2 [c0, c1, c2, c3]), (Tb 2 [d0, d1, d2, d3])]), none, none, none, none] []) [1, 5] := fun F => by kernel_rfl
  have q2 := q1 (pureF f_let_part)
  rw [hp] at q2
  refine Eq.trans q2 ?_
  have r : lcTL (nxEnT [(Tb 2 [a0, a1, a2, a3]), (Tb 2 [b0, b1, b2, b3]), (Tb 2 [c0, c1, c2, c3]), (Tb 2 [d0, d1, d2, d3])]) 15 12 b3T (eVar 15) [none, some (.obj box), some (.int 2), none, some (.int 2), some (.str ⟨#[101, 120, 97, 99, 116]⟩), none, none, none, none, none, none, none, some (.tup [(Tb 2 [a0, a1, a2, a3]), (Tb 2 [b0, b1, b2, b3]), (Tb 2 [c0, c1, c2, c3]), (Tb 2 [d0, d1, d2, d3])]), none, none, none, none] 0 5 0 [.lst []] = some [.lst (outs (p4 (.int 0) (.int 1) (.int 2) (.int 3)) (p4 v0 v1 v2 v3) 0 4)] :=
    lcTL_run (p4 (.int 0) (.int 1) (.int 2) (.int 3)) (p4 (Tb 2 [a0, a1, a2, a3]) (Tb 2 [b0, b1, b2, b3]) (Tb 2 [c0, c1, c2, c3]) (Tb 2 [d0, d1, d2, d3])) (p4 (.int 0) (.int 1) (.int 2) (.int 3)) (p4 v0 v1 v2 v3)
    (fun i S hi => match i, hi with
        | 0, _ => rfl
        | 1, _ => rfl
        | 2, _ => rfl
        | 3, _ => rfl) (fun S => rfl)
    (fun i S hi => by
        have g : ∀ (i : Int) (t : D) (v : Bool), pureF f_law_lets [.int 2, t, .str ⟨#[101, 120, 97, 99, 116]⟩] S = some (.bl v, S) → b3T [none, some (.obj box), some (.int 2), none, some (.int 2), some (.str ⟨#[101, 120, 97, 99, 116]⟩), none, none, none, none, none, none, some t, some (.tup [(Tb 2 [a0, a1, a2, a3]), (Tb 2 [b0, b1, b2, b3]), (Tb 2 [c0, c1, c2, c3]), (Tb 2 [d0, d1, d2, d3])]), none, some (.int i), none, none] S = some (v, S) := fun i t v h => by
          have e : ∀ F : FF, (bV (eN F (aCons (eVar 2) (aCons (eVar 12) (aCons (eVar 5) (aNil)))))) [none, some (.obj box), some (.int 2), none, some (.int 2), some (.str ⟨#[101, 120, 97, 99, 116]⟩), none, none, none, none, none, none, some t, some (.tup [(Tb 2 [a0, a1, a2, a3]), (Tb 2 [b0, b1, b2, b3]), (Tb 2 [c0, c1, c2, c3]), (Tb 2 [d0, d1, d2, d3])]), none, some (.int i), none, none] S = blR (F [.int 2, t, .str ⟨#[101, 120, 97, 99, 116]⟩] S) := fun F => by kernel_rfl
          exact (e (pureF f_law_lets)).trans (congrArg blR h)
        match i, hi with
        | 0, _ => exact g 0 _ v0 (k0 S)
        | 1, _ => exact g 1 _ v1 (k1 S)
        | 2, _ => exact g 2 _ v2 (k2 S)
        | 3, _ => exact g 3 _ v3 (k3 S))
    (fun i S hi => match i, hi with
        | 0, _ => rfl
        | 1, _ => rfl
        | 2, _ => rfl
        | 3, _ => rfl) 4 0 [.lst []] [] rfl rfl (by decide)
  have e3 : b3C [none, some (.obj box), some (.int 2), none, some (.int 2), some (.str ⟨#[101, 120, 97, 99, 116]⟩), none, none, none, none, none, none, none, some (.tup [(Tb 2 [a0, a1, a2, a3]), (Tb 2 [b0, b1, b2, b3]), (Tb 2 [c0, c1, c2, c3]), (Tb 2 [d0, d1, d2, d3])]), none, none, none, none] [] = tagR (lcTL (nxEnT [(Tb 2 [a0, a1, a2, a3]), (Tb 2 [b0, b1, b2, b3]), (Tb 2 [c0, c1, c2, c3]), (Tb 2 [d0, d1, d2, d3])]) 15 12 b3T (eVar 15) [none, some (.obj box), some (.int 2), none, some (.int 2), some (.str ⟨#[101, 120, 97, 99, 116]⟩), none, none, none, none, none, none, none, some (.tup [(Tb 2 [a0, a1, a2, a3]), (Tb 2 [b0, b1, b2, b3]), (Tb 2 [c0, c1, c2, c3]), (Tb 2 [d0, d1, d2, d3])]), none, none, none, none] 0 5 0 [.lst []]) := by kernel_rfl
  have e3' : b3C [none, some (.obj box), some (.int 2), none, some (.int 2), some (.str ⟨#[101, 120, 97, 99, 116]⟩), none, none, none, none, none, none, none, some (.tup [(Tb 2 [a0, a1, a2, a3]), (Tb 2 [b0, b1, b2, b3]), (Tb 2 [c0, c1, c2, c3]), (Tb 2 [d0, d1, d2, d3])]), none, none, none, none] [] = some (.ref 0, [.lst (outs (p4 (.int 0) (.int 1) (.int 2) (.int 3)) (p4 v0 v1 v2 v3) 0 4)]) := e3.trans (congrArg tagR r)
  have e4 : ∀ C : FE, nxAt ((sIf (bV (e2 gNe (eN (fun _ _ => some (.tup (outs (p4 (.int 0) (.int 1) (.int 2) (.int 3)) (p4 v0 v1 v2 v3) 0 4), [])) (aCons (eN dTup (aCons (eVar 2) (aCons (eVar 13) (aNil)))) (aCons (eVar 5) (aNil)))) (eN (g1 gTupOf) (aCons (C) (aNil))))) (sRet (eC (.bl false))) (sNil)) [none, some (.obj box), some (.int 2), none, some (.int 2), some (.str ⟨#[101, 120, 97, 99, 116]⟩), none, none, none, none, none, none, none, some (.tup [(Tb 2 [a0, a1, a2, a3]), (Tb 2 [b0, b1, b2, b3]), (Tb 2 [c0, c1, c2, c3]), (Tb 2 [d0, d1, d2, d3])]), none, none, none, none] []) [1, 5] = nxAt ((sIf (bV (e2 gNe (eN (fun _ _ => some (.tup (outs (p4 (.int 0) (.int 1) (.int 2) (.int 3)) (p4 v0 v1 v2 v3) 0 4), [])) (aCons (eN dTup (aCons (eVar 2) (aCons (eVar 13) (aNil)))) (aCons (eVar 5) (aNil)))) (eN (g1 gTupOf) (aCons ((fun _ _ => C [none, some (.obj box), some (.int 2), none, some (.int 2), some (.str ⟨#[101, 120, 97, 99, 116]⟩), none, none, none, none, none, none, none, some (.tup [(Tb 2 [a0, a1, a2, a3]), (Tb 2 [b0, b1, b2, b3]), (Tb 2 [c0, c1, c2, c3]), (Tb 2 [d0, d1, d2, d3])]), none, none, none, none] [])) (aNil))))) (sRet (eC (.bl false))) (sNil)) [none, some (.obj box), some (.int 2), none, some (.int 2), some (.str ⟨#[101, 120, 97, 99, 116]⟩), none, none, none, none, none, none, none, some (.tup [(Tb 2 [a0, a1, a2, a3]), (Tb 2 [b0, b1, b2, b3]), (Tb 2 [c0, c1, c2, c3]), (Tb 2 [d0, d1, d2, d3])]), none, none, none, none] []) [1, 5] := fun C => by kernel_rfl
  have q5 := e4 b3C
  rw [e3'] at q5
  refine Eq.trans q5 ?_
  cases v0 <;> cases v1 <;> cases v2 <;> cases v3 <;> kernel_rfl
theorem part22F (o0 : ∀ S, pureF f_is_operation [.int 2, (Tb 2 [a0, a1, a2, a3])] S = some (.bl true, S)) (o1 : ∀ S, pureF f_is_operation [.int 2, (Tb 2 [b0, b1, b2, b3])] S = some (.bl true, S)) (o2 : ∀ S, pureF f_is_operation [.int 2, (Tb 2 [c0, c1, c2, c3])] S = some (.bl true, S)) (o3 : ∀ S, pureF f_is_operation [.int 2, (Tb 2 [d0, d1, d2, d3])] S = some (.bl true, S)) (v0 : Bool) (l0 : ∀ S, pureF f_is_let [(bk4 2 2 [a0, a1, a2, a3] [b0, b1, b2, b3] [c0, c1, c2, c3] [d0, d1, d2, d3]), .int 0, .str ⟨#[102, 105, 110, 100, 115]⟩] S = some (.bl v0, S)) (k0 : ∀ S, pureF f_law_lets [.int 2, (Tb 2 [a0, a1, a2, a3]), .str ⟨#[102, 105, 110, 100, 115]⟩] S = some (.bl v0, S)) (v1 : Bool) (l1 : ∀ S, pureF f_is_let [(bk4 2 2 [a0, a1, a2, a3] [b0, b1, b2, b3] [c0, c1, c2, c3] [d0, d1, d2, d3]), .int 1, .str ⟨#[102, 105, 110, 100, 115]⟩] S = some (.bl v1, S)) (k1 : ∀ S, pureF f_law_lets [.int 2, (Tb 2 [b0, b1, b2, b3]), .str ⟨#[102, 105, 110, 100, 115]⟩] S = some (.bl v1, S)) (v2 : Bool) (l2 : ∀ S, pureF f_is_let [(bk4 2 2 [a0, a1, a2, a3] [b0, b1, b2, b3] [c0, c1, c2, c3] [d0, d1, d2, d3]), .int 2, .str ⟨#[102, 105, 110, 100, 115]⟩] S = some (.bl v2, S)) (k2 : ∀ S, pureF f_law_lets [.int 2, (Tb 2 [c0, c1, c2, c3]), .str ⟨#[102, 105, 110, 100, 115]⟩] S = some (.bl v2, S)) (v3 : Bool) (l3 : ∀ S, pureF f_is_let [(bk4 2 2 [a0, a1, a2, a3] [b0, b1, b2, b3] [c0, c1, c2, c3] [d0, d1, d2, d3]), .int 3, .str ⟨#[102, 105, 110, 100, 115]⟩] S = some (.bl v3, S)) (k3 : ∀ S, pureF f_law_lets [.int 2, (Tb 2 [d0, d1, d2, d3]), .str ⟨#[102, 105, 110, 100, 115]⟩] S = some (.bl v3, S)) (S : Sto) : pureF f_let_part [(tk4 2 2 [a0, a1, a2, a3] [b0, b1, b2, b3] [c0, c1, c2, c3] [d0, d1, d2, d3]), .str ⟨#[102, 105, 110, 100, 115]⟩] S = some (.tup (outs (p4 (.int 0) (.int 1) (.int 2) (.int 3)) (p4 v0 v1 v2 v3) 0 4), S) := by
  have hb := book22 a0 a1 a2 a3 b0 b1 b2 b3 c0 c1 c2 c3 d0 d1 d2 d3 o0 o1 o2 o3
  have fin : f_let_part [(tk4 2 2 [a0, a1, a2, a3] [b0, b1, b2, b3] [c0, c1, c2, c3] [d0, d1, d2, d3]), .str ⟨#[102, 105, 110, 100, 115]⟩] [] = some (.tup (outs (p4 (.int 0) (.int 1) (.int 2) (.int 3)) (p4 v0 v1 v2 v3) 0 4), [.lst (outs (p4 (.int 0) (.int 1) (.int 2) (.int 3)) (p4 v0 v1 v2 v3) 0 4)]) := by
    rw [pt_is]
    have e1 : ptG (pureF f_need_book) ptL [(tk4 2 2 [a0, a1, a2, a3] [b0, b1, b2, b3] [c0, c1, c2, c3] [d0, d1, d2, d3]), .str ⟨#[102, 105, 110, 100, 115]⟩] [] = ptG (fun _ _ => pureF f_need_book [(tk4 2 2 [a0, a1, a2, a3] [b0, b1, b2, b3] [c0, c1, c2, c3] [d0, d1, d2, d3])] []) ptL [(tk4 2 2 [a0, a1, a2, a3] [b0, b1, b2, b3] [c0, c1, c2, c3] [d0, d1, d2, d3]), .str ⟨#[102, 105, 110, 100, 115]⟩] [] := by kernel_rfl
    rw [e1, hb []]
    have e2 : ∀ C : FE, ptG (fun _ _ => some ((bk4 2 2 [a0, a1, a2, a3] [b0, b1, b2, b3] [c0, c1, c2, c3] [d0, d1, d2, d3]), [])) C [(tk4 2 2 [a0, a1, a2, a3] [b0, b1, b2, b3] [c0, c1, c2, c3] [d0, d1, d2, d3]), .str ⟨#[102, 105, 110, 100, 115]⟩] [] = ptG (fun _ _ => some ((bk4 2 2 [a0, a1, a2, a3] [b0, b1, b2, b3] [c0, c1, c2, c3] [d0, d1, d2, d3]), [])) (fun _ _ => C [some (bk4 2 2 [a0, a1, a2, a3] [b0, b1, b2, b3] [c0, c1, c2, c3] [d0, d1, d2, d3]), some (.str ⟨#[102, 105, 110, 100, 115]⟩), none] []) [(tk4 2 2 [a0, a1, a2, a3] [b0, b1, b2, b3] [c0, c1, c2, c3] [d0, d1, d2, d3]), .str ⟨#[102, 105, 110, 100, 115]⟩] [] := fun C => by kernel_rfl
    have e3 : ptL [some (bk4 2 2 [a0, a1, a2, a3] [b0, b1, b2, b3] [c0, c1, c2, c3] [d0, d1, d2, d3]), some (.str ⟨#[102, 105, 110, 100, 115]⟩), none] [] = tagR (lcL (nxRg 0 4) 2 ptT (eVar 2) [some (bk4 2 2 [a0, a1, a2, a3] [b0, b1, b2, b3] [c0, c1, c2, c3] [d0, d1, d2, d3]), some (.str ⟨#[102, 105, 110, 100, 115]⟩), none] 0 5 0 [.lst []]) := by kernel_rfl
    have r : lcL (nxRg 0 4) 2 ptT (eVar 2) [some (bk4 2 2 [a0, a1, a2, a3] [b0, b1, b2, b3] [c0, c1, c2, c3] [d0, d1, d2, d3]), some (.str ⟨#[102, 105, 110, 100, 115]⟩), none] 0 5 0 [.lst []] = some [.lst (outs (p4 (.int 0) (.int 1) (.int 2) (.int 3)) (p4 v0 v1 v2 v3) 0 4)] :=
      lcL_run (p4 (.int 0) (.int 1) (.int 2) (.int 3)) (p4 (.int 0) (.int 1) (.int 2) (.int 3)) (p4 v0 v1 v2 v3)
      (fun i S hi => match i, hi with
        | 0, _ => rfl
        | 1, _ => rfl
        | 2, _ => rfl
        | 3, _ => rfl) (fun S => rfl)
      (fun i S hi => by
        have g : ∀ (i : Int) (v : Bool), pureF f_is_let [(bk4 2 2 [a0, a1, a2, a3] [b0, b1, b2, b3] [c0, c1, c2, c3] [d0, d1, d2, d3]), .int i, .str ⟨#[102, 105, 110, 100, 115]⟩] S = some (.bl v, S) → ptT [some (bk4 2 2 [a0, a1, a2, a3] [b0, b1, b2, b3] [c0, c1, c2, c3] [d0, d1, d2, d3]), some (.str ⟨#[102, 105, 110, 100, 115]⟩), some (.int i)] S = some (v, S) := fun i v h => by
          have e : ∀ F : FF, (bV (eN F (aCons (eVar 0) (aCons (eVar 2) (aCons (eVar 1) (aNil)))))) [some (bk4 2 2 [a0, a1, a2, a3] [b0, b1, b2, b3] [c0, c1, c2, c3] [d0, d1, d2, d3]), some (.str ⟨#[102, 105, 110, 100, 115]⟩), some (.int i)] S = blR (F [(bk4 2 2 [a0, a1, a2, a3] [b0, b1, b2, b3] [c0, c1, c2, c3] [d0, d1, d2, d3]), .int i, .str ⟨#[102, 105, 110, 100, 115]⟩] S) := fun F => by kernel_rfl
          exact (e (pureF f_is_let)).trans (congrArg blR h)
        match i, hi with
        | 0, _ => exact g 0 v0 (l0 S)
        | 1, _ => exact g 1 v1 (l1 S)
        | 2, _ => exact g 2 v2 (l2 S)
        | 3, _ => exact g 3 v3 (l3 S))
      (fun i S hi => match i, hi with
        | 0, _ => rfl
        | 1, _ => rfl
        | 2, _ => rfl
        | 3, _ => rfl) 4 0 [.lst []] [] rfl rfl (by decide)
    have e4 : ptL [some (bk4 2 2 [a0, a1, a2, a3] [b0, b1, b2, b3] [c0, c1, c2, c3] [d0, d1, d2, d3]), some (.str ⟨#[102, 105, 110, 100, 115]⟩), none] [] = some (.ref 0, [.lst (outs (p4 (.int 0) (.int 1) (.int 2) (.int 3)) (p4 v0 v1 v2 v3) 0 4)]) := e3.trans (congrArg tagR r)
    refine (e2 ptL).trans ?_
    rw [e4]
    cases v0 <;> cases v1 <;> cases v2 <;> cases v3 <;> kernel_rfl
  refine pureF_of (by kernel_rfl) fin ?_ S
  cases v0 <;> cases v1 <;> cases v2 <;> cases v3 <;> kernel_rfl
theorem b3_22F (box : Addr) (o0 : ∀ S, pureF f_is_operation [.int 2, (Tb 2 [a0, a1, a2, a3])] S = some (.bl true, S)) (o1 : ∀ S, pureF f_is_operation [.int 2, (Tb 2 [b0, b1, b2, b3])] S = some (.bl true, S)) (o2 : ∀ S, pureF f_is_operation [.int 2, (Tb 2 [c0, c1, c2, c3])] S = some (.bl true, S)) (o3 : ∀ S, pureF f_is_operation [.int 2, (Tb 2 [d0, d1, d2, d3])] S = some (.bl true, S)) (v0 : Bool) (l0 : ∀ S, pureF f_is_let [(bk4 2 2 [a0, a1, a2, a3] [b0, b1, b2, b3] [c0, c1, c2, c3] [d0, d1, d2, d3]), .int 0, .str ⟨#[102, 105, 110, 100, 115]⟩] S = some (.bl v0, S)) (k0 : ∀ S, pureF f_law_lets [.int 2, (Tb 2 [a0, a1, a2, a3]), .str ⟨#[102, 105, 110, 100, 115]⟩] S = some (.bl v0, S)) (v1 : Bool) (l1 : ∀ S, pureF f_is_let [(bk4 2 2 [a0, a1, a2, a3] [b0, b1, b2, b3] [c0, c1, c2, c3] [d0, d1, d2, d3]), .int 1, .str ⟨#[102, 105, 110, 100, 115]⟩] S = some (.bl v1, S)) (k1 : ∀ S, pureF f_law_lets [.int 2, (Tb 2 [b0, b1, b2, b3]), .str ⟨#[102, 105, 110, 100, 115]⟩] S = some (.bl v1, S)) (v2 : Bool) (l2 : ∀ S, pureF f_is_let [(bk4 2 2 [a0, a1, a2, a3] [b0, b1, b2, b3] [c0, c1, c2, c3] [d0, d1, d2, d3]), .int 2, .str ⟨#[102, 105, 110, 100, 115]⟩] S = some (.bl v2, S)) (k2 : ∀ S, pureF f_law_lets [.int 2, (Tb 2 [c0, c1, c2, c3]), .str ⟨#[102, 105, 110, 100, 115]⟩] S = some (.bl v2, S)) (v3 : Bool) (l3 : ∀ S, pureF f_is_let [(bk4 2 2 [a0, a1, a2, a3] [b0, b1, b2, b3] [c0, c1, c2, c3] [d0, d1, d2, d3]), .int 3, .str ⟨#[102, 105, 110, 100, 115]⟩] S = some (.bl v3, S)) (k3 : ∀ S, pureF f_law_lets [.int 2, (Tb 2 [d0, d1, d2, d3]), .str ⟨#[102, 105, 110, 100, 115]⟩] S = some (.bl v3, S)) : nxAt (f_lawB3 [none, some (.obj box), some (.int 2), none, some (.int 2), some (.str ⟨#[102, 105, 110, 100, 115]⟩), none, none, none, none, none, none, none, some (.tup [(Tb 2 [a0, a1, a2, a3]), (Tb 2 [b0, b1, b2, b3]), (Tb 2 [c0, c1, c2, c3]), (Tb 2 [d0, d1, d2, d3])]), none, none, none, none] []) [1, 5] = some [.obj box, .str ⟨#[102, 105, 110, 100, 115]⟩] := by
  have hp := part22F a0 a1 a2 a3 b0 b1 b2 b3 c0 c1 c2 c3 d0 d1 d2 d3 o0 o1 o2 o3 v0 l0 k0 v1 l1 k1 v2 l2 k2 v3 l3 k3 []
  have q1 : ∀ F : FF, nxAt ((sIf (bV (e2 gNe (eN F (aCons (eN dTup (aCons (eVar 2) (aCons (eVar 13) (aNil)))) (aCons (eVar 5) (aNil)))) (eN (g1 gTupOf) (aCons (eLcT (iEn (eVar 13)) 15 12 (bV (eN (pureF f_law_lets) (aCons (eVar 2) (aCons (eVar 12) (aCons (eVar 5) (aNil)))))) (eVar 15) [15, 12]) (aNil))))) (sRet (eC (.bl false))) (sNil)) [none, some (.obj box), some (.int 2), none, some (.int 2), some (.str ⟨#[102, 105, 110, 100, 115]⟩), none, none, none, none, none, none, none, some (.tup [(Tb 2 [a0, a1, a2, a3]), (Tb 2 [b0, b1, b2, b3]), (Tb 2 [c0, c1, c2, c3]), (Tb 2 [d0, d1, d2, d3])]), none, none, none, none] []) [1, 5] = nxAt ((sIf (bV (e2 gNe (eN (fun _ _ => F [(tk4 2 2 [a0, a1, a2, a3] [b0, b1, b2, b3] [c0, c1, c2, c3] [d0, d1, d2, d3]), .str ⟨#[102, 105, 110, 100, 115]⟩] []) (aCons (eN dTup (aCons (eVar 2) (aCons (eVar 13) (aNil)))) (aCons (eVar 5) (aNil)))) (eN (g1 gTupOf) (aCons (eLcT (iEn (eVar 13)) 15 12 (bV (eN (pureF f_law_lets) (aCons (eVar 2) (aCons (eVar 12) (aCons (eVar 5) (aNil)))))) (eVar 15) [15, 12]) (aNil))))) (sRet (eC (.bl false))) (sNil)) [none, some (.obj box), some (.int 2), none, some (.int 2), some (.str ⟨#[102, 105, 110, 100, 115]⟩), none, none, none, none, none, none, none, some (.tup [(Tb 2 [a0, a1, a2, a3]), (Tb 2 [b0, b1, b2, b3]), (Tb 2 [c0, c1, c2, c3]), (Tb 2 [d0, d1, d2, d3])]), none, none, none, none] []) [1, 5] := fun F => by kernel_rfl
  have q2 := q1 (pureF f_let_part)
  rw [hp] at q2
  refine Eq.trans q2 ?_
  have r : lcTL (nxEnT [(Tb 2 [a0, a1, a2, a3]), (Tb 2 [b0, b1, b2, b3]), (Tb 2 [c0, c1, c2, c3]), (Tb 2 [d0, d1, d2, d3])]) 15 12 b3T (eVar 15) [none, some (.obj box), some (.int 2), none, some (.int 2), some (.str ⟨#[102, 105, 110, 100, 115]⟩), none, none, none, none, none, none, none, some (.tup [(Tb 2 [a0, a1, a2, a3]), (Tb 2 [b0, b1, b2, b3]), (Tb 2 [c0, c1, c2, c3]), (Tb 2 [d0, d1, d2, d3])]), none, none, none, none] 0 5 0 [.lst []] = some [.lst (outs (p4 (.int 0) (.int 1) (.int 2) (.int 3)) (p4 v0 v1 v2 v3) 0 4)] :=
    lcTL_run (p4 (.int 0) (.int 1) (.int 2) (.int 3)) (p4 (Tb 2 [a0, a1, a2, a3]) (Tb 2 [b0, b1, b2, b3]) (Tb 2 [c0, c1, c2, c3]) (Tb 2 [d0, d1, d2, d3])) (p4 (.int 0) (.int 1) (.int 2) (.int 3)) (p4 v0 v1 v2 v3)
    (fun i S hi => match i, hi with
        | 0, _ => rfl
        | 1, _ => rfl
        | 2, _ => rfl
        | 3, _ => rfl) (fun S => rfl)
    (fun i S hi => by
        have g : ∀ (i : Int) (t : D) (v : Bool), pureF f_law_lets [.int 2, t, .str ⟨#[102, 105, 110, 100, 115]⟩] S = some (.bl v, S) → b3T [none, some (.obj box), some (.int 2), none, some (.int 2), some (.str ⟨#[102, 105, 110, 100, 115]⟩), none, none, none, none, none, none, some t, some (.tup [(Tb 2 [a0, a1, a2, a3]), (Tb 2 [b0, b1, b2, b3]), (Tb 2 [c0, c1, c2, c3]), (Tb 2 [d0, d1, d2, d3])]), none, some (.int i), none, none] S = some (v, S) := fun i t v h => by
          have e : ∀ F : FF, (bV (eN F (aCons (eVar 2) (aCons (eVar 12) (aCons (eVar 5) (aNil)))))) [none, some (.obj box), some (.int 2), none, some (.int 2), some (.str ⟨#[102, 105, 110, 100, 115]⟩), none, none, none, none, none, none, some t, some (.tup [(Tb 2 [a0, a1, a2, a3]), (Tb 2 [b0, b1, b2, b3]), (Tb 2 [c0, c1, c2, c3]), (Tb 2 [d0, d1, d2, d3])]), none, some (.int i), none, none] S = blR (F [.int 2, t, .str ⟨#[102, 105, 110, 100, 115]⟩] S) := fun F => by kernel_rfl
          exact (e (pureF f_law_lets)).trans (congrArg blR h)
        match i, hi with
        | 0, _ => exact g 0 _ v0 (k0 S)
        | 1, _ => exact g 1 _ v1 (k1 S)
        | 2, _ => exact g 2 _ v2 (k2 S)
        | 3, _ => exact g 3 _ v3 (k3 S))
    (fun i S hi => match i, hi with
        | 0, _ => rfl
        | 1, _ => rfl
        | 2, _ => rfl
        | 3, _ => rfl) 4 0 [.lst []] [] rfl rfl (by decide)
  have e3 : b3C [none, some (.obj box), some (.int 2), none, some (.int 2), some (.str ⟨#[102, 105, 110, 100, 115]⟩), none, none, none, none, none, none, none, some (.tup [(Tb 2 [a0, a1, a2, a3]), (Tb 2 [b0, b1, b2, b3]), (Tb 2 [c0, c1, c2, c3]), (Tb 2 [d0, d1, d2, d3])]), none, none, none, none] [] = tagR (lcTL (nxEnT [(Tb 2 [a0, a1, a2, a3]), (Tb 2 [b0, b1, b2, b3]), (Tb 2 [c0, c1, c2, c3]), (Tb 2 [d0, d1, d2, d3])]) 15 12 b3T (eVar 15) [none, some (.obj box), some (.int 2), none, some (.int 2), some (.str ⟨#[102, 105, 110, 100, 115]⟩), none, none, none, none, none, none, none, some (.tup [(Tb 2 [a0, a1, a2, a3]), (Tb 2 [b0, b1, b2, b3]), (Tb 2 [c0, c1, c2, c3]), (Tb 2 [d0, d1, d2, d3])]), none, none, none, none] 0 5 0 [.lst []]) := by kernel_rfl
  have e3' : b3C [none, some (.obj box), some (.int 2), none, some (.int 2), some (.str ⟨#[102, 105, 110, 100, 115]⟩), none, none, none, none, none, none, none, some (.tup [(Tb 2 [a0, a1, a2, a3]), (Tb 2 [b0, b1, b2, b3]), (Tb 2 [c0, c1, c2, c3]), (Tb 2 [d0, d1, d2, d3])]), none, none, none, none] [] = some (.ref 0, [.lst (outs (p4 (.int 0) (.int 1) (.int 2) (.int 3)) (p4 v0 v1 v2 v3) 0 4)]) := e3.trans (congrArg tagR r)
  have e4 : ∀ C : FE, nxAt ((sIf (bV (e2 gNe (eN (fun _ _ => some (.tup (outs (p4 (.int 0) (.int 1) (.int 2) (.int 3)) (p4 v0 v1 v2 v3) 0 4), [])) (aCons (eN dTup (aCons (eVar 2) (aCons (eVar 13) (aNil)))) (aCons (eVar 5) (aNil)))) (eN (g1 gTupOf) (aCons (C) (aNil))))) (sRet (eC (.bl false))) (sNil)) [none, some (.obj box), some (.int 2), none, some (.int 2), some (.str ⟨#[102, 105, 110, 100, 115]⟩), none, none, none, none, none, none, none, some (.tup [(Tb 2 [a0, a1, a2, a3]), (Tb 2 [b0, b1, b2, b3]), (Tb 2 [c0, c1, c2, c3]), (Tb 2 [d0, d1, d2, d3])]), none, none, none, none] []) [1, 5] = nxAt ((sIf (bV (e2 gNe (eN (fun _ _ => some (.tup (outs (p4 (.int 0) (.int 1) (.int 2) (.int 3)) (p4 v0 v1 v2 v3) 0 4), [])) (aCons (eN dTup (aCons (eVar 2) (aCons (eVar 13) (aNil)))) (aCons (eVar 5) (aNil)))) (eN (g1 gTupOf) (aCons ((fun _ _ => C [none, some (.obj box), some (.int 2), none, some (.int 2), some (.str ⟨#[102, 105, 110, 100, 115]⟩), none, none, none, none, none, none, none, some (.tup [(Tb 2 [a0, a1, a2, a3]), (Tb 2 [b0, b1, b2, b3]), (Tb 2 [c0, c1, c2, c3]), (Tb 2 [d0, d1, d2, d3])]), none, none, none, none] [])) (aNil))))) (sRet (eC (.bl false))) (sNil)) [none, some (.obj box), some (.int 2), none, some (.int 2), some (.str ⟨#[102, 105, 110, 100, 115]⟩), none, none, none, none, none, none, none, some (.tup [(Tb 2 [a0, a1, a2, a3]), (Tb 2 [b0, b1, b2, b3]), (Tb 2 [c0, c1, c2, c3]), (Tb 2 [d0, d1, d2, d3])]), none, none, none, none] []) [1, 5] := fun C => by kernel_rfl
  have q5 := e4 b3C
  rw [e3'] at q5
  refine Eq.trans q5 ?_
  cases v0 <;> cases v1 <;> cases v2 <;> cases v3 <;> kernel_rfl
end
end K50
set_option Elab.async false
set_option linter.all false
set_option maxRecDepth 100000
set_option maxHeartbeats 4000000
namespace K50
open PySem PySem.Spec PyProof.Rows L2
def tau5 (a : Addr) (s p : Int) (w : Str) : Sl := [none, some (.obj a), some (.int s), none, some (.int p), some (.str w), none, none, none, none, none, none, none, none, none, none, none, none]
def tau13 (a : Addr) (s p : Int) (w : Str) (ts : List D) : Sl := [none, some (.obj a), some (.int s), none, some (.int p), some (.str w), none, none, none, none, none, none, none, some (.tup ts), none, none, none, none]
def f_segB : FS := sSeq f_law6 (sSeq f_law7 (sSeq f_law8 f_law9))
def f_segC : FS := sSeq f_lawB0 f_lawB1
def lstSl (r : Option (Fl × Sto)) (i : Nat) : Option (List D) := match r with
  | some (.nx τ, S) => (match τ[i]? with
    | some (some (.ref q)) => (match S[q]? with
      | some (.lst ds) => some ds
      | _ => none)
    | _ => none)
  | _ => none
def rowOf : D → List Int
  | .tup [_, .tpl r] => r.filterMap intO
  | _ => []
/-- all tables of that size and that many places -/
def TI (s p : Int) : List (List Int) := match f_law_tables [.int s, .int p] [] with
  | some (.ref q, S) => (match S[q]? with
    | some (.lst ds) => ds.map rowOf
    | _ => [])
  | _ => []
def isE : Str := ⟨#[101, 120, 97, 99, 116]⟩
def isF : Str := ⟨#[102, 105, 110, 100, 115]⟩
def chk (s p : Int) (w : Str) (l : List Int) : Bool := match pureF f_law_lets [.int s, Tb p l, .str w] [], pureF f_is_let [bk1 s p l, .int 0, .str w] [], pureF f_is_operation [.int s, Tb p l] [] with
  | some (.bl x, _), some (.bl y, _), some (.bl true, _) => x == y
  | _, _, _ => false
theorem chk_of {s p : Int} {w : Str} {l : List Int} (h : chk s p w l = true) : ∃ b, (∀ S, pureF f_is_operation [.int s, Tb p l] S = some (.bl true, S)) ∧ (∀ S, pureF f_is_let [bk1 s p l, .int 0, .str w] S = some (.bl b, S)) ∧ ∀ S, pureF f_law_lets [.int s, Tb p l, .str w] S = some (.bl b, S) := by
  unfold chk at h
  split at h
  · rename_i x S1 y S2 S3 h1 h2 h3
    have e : x = y := by simpa using h
    subst e
    exact ⟨x, pureF_any h3, pureF_any h2, pureF_any h1⟩
  · cases h
theorem segB21E (a : Addr) : nxAt (f_segB (tau5 a 2 1 isE) []) [1, 5] = some [.obj a, .str isE] := by kernel_rfl
theorem segB21F (a : Addr) : nxAt (f_segB (tau5 a 2 1 isF) []) [1, 5] = some [.obj a, .str isF] := by kernel_rfl
theorem segB22E (a : Addr) : nxAt (f_segB (tau5 a 2 2 isE) []) [1, 5] = some [.obj a, .str isE] := by kernel_rfl
theorem segB22F (a : Addr) : nxAt (f_segB (tau5 a 2 2 isF) []) [1, 5] = some [.obj a, .str isF] := by kernel_rfl
theorem segB23E (a : Addr) : nxAt (f_segB (tau5 a 2 3 isE) []) [1, 5] = some [.obj a, .str isE] := by kernel_rfl
theorem segB23F (a : Addr) : nxAt (f_segB (tau5 a 2 3 isF) []) [1, 5] = some [.obj a, .str isF] := by kernel_rfl
theorem segB31E (a : Addr) : nxAt (f_segB (tau5 a 3 1 isE) []) [1, 5] = some [.obj a, .str isE] := by kernel_rfl
theorem segB31F (a : Addr) : nxAt (f_segB (tau5 a 3 1 isF) []) [1, 5] = some [.obj a, .str isF] := by kernel_rfl
theorem segB32E (a : Addr) : nxAt (f_segB (tau5 a 3 2 isE) []) [1, 5] = some [.obj a, .str isE] := by kernel_rfl
theorem segB32F (a : Addr) : nxAt (f_segB (tau5 a 3 2 isF) []) [1, 5] = some [.obj a, .str isF] := by kernel_rfl
theorem segB33E (a : Addr) : nxAt (f_segB (tau5 a 3 3 isE) []) [1, 5] = some [.obj a, .str isE] := by kernel_rfl
theorem segB33F (a : Addr) : nxAt (f_segB (tau5 a 3 3 isF) []) [1, 5] = some [.obj a, .str isF] := by kernel_rfl
theorem segB41E (a : Addr) : nxAt (f_segB (tau5 a 4 1 isE) []) [1, 5] = some [.obj a, .str isE] := by kernel_rfl
theorem segB41F (a : Addr) : nxAt (f_segB (tau5 a 4 1 isF) []) [1, 5] = some [.obj a, .str isF] := by kernel_rfl
theorem segB42E (a : Addr) : nxAt (f_segB (tau5 a 4 2 isE) []) [1, 5] = some [.obj a, .str isE] := by kernel_rfl
theorem segB42F (a : Addr) : nxAt (f_segB (tau5 a 4 2 isF) []) [1, 5] = some [.obj a, .str isF] := by kernel_rfl
theorem segB43E (a : Addr) : nxAt (f_segB (tau5 a 4 3 isE) []) [1, 5] = some [.obj a, .str isE] := by kernel_rfl
theorem segB43F (a : Addr) : nxAt (f_segB (tau5 a 4 3 isF) []) [1, 5] = some [.obj a, .str isF] := by kernel_rfl
theorem segB51E (a : Addr) : nxAt (f_segB (tau5 a 5 1 isE) []) [1, 5] = some [.obj a, .str isE] := by kernel_rfl
theorem segB51F (a : Addr) : nxAt (f_segB (tau5 a 5 1 isF) []) [1, 5] = some [.obj a, .str isF] := by kernel_rfl
theorem segB52E (a : Addr) : nxAt (f_segB (tau5 a 5 2 isE) []) [1, 5] = some [.obj a, .str isE] := by kernel_rfl
theorem segB52F (a : Addr) : nxAt (f_segB (tau5 a 5 2 isF) []) [1, 5] = some [.obj a, .str isF] := by kernel_rfl
theorem segB53E (a : Addr) : nxAt (f_segB (tau5 a 5 3 isE) []) [1, 5] = some [.obj a, .str isE] := by kernel_rfl
theorem segB53F (a : Addr) : nxAt (f_segB (tau5 a 5 3 isF) []) [1, 5] = some [.obj a, .str isF] := by kernel_rfl
theorem segB61E (a : Addr) : nxAt (f_segB (tau5 a 6 1 isE) []) [1, 5] = some [.obj a, .str isE] := by kernel_rfl
theorem segB61F (a : Addr) : nxAt (f_segB (tau5 a 6 1 isF) []) [1, 5] = some [.obj a, .str isF] := by kernel_rfl
theorem segB62E (a : Addr) : nxAt (f_segB (tau5 a 6 2 isE) []) [1, 5] = some [.obj a, .str isE] := by kernel_rfl
theorem segB62F (a : Addr) : nxAt (f_segB (tau5 a 6 2 isF) []) [1, 5] = some [.obj a, .str isF] := by kernel_rfl
theorem segB63E (a : Addr) : nxAt (f_segB (tau5 a 6 3 isE) []) [1, 5] = some [.obj a, .str isE] := by kernel_rfl
theorem segB63F (a : Addr) : nxAt (f_segB (tau5 a 6 3 isF) []) [1, 5] = some [.obj a, .str isF] := by kernel_rfl
theorem segB71E (a : Addr) : nxAt (f_segB (tau5 a 7 1 isE) []) [1, 5] = some [.obj a, .str isE] := by kernel_rfl
theorem segB71F (a : Addr) : nxAt (f_segB (tau5 a 7 1 isF) []) [1, 5] = some [.obj a, .str isF] := by kernel_rfl
theorem segB72E (a : Addr) : nxAt (f_segB (tau5 a 7 2 isE) []) [1, 5] = some [.obj a, .str isE] := by kernel_rfl
theorem segB72F (a : Addr) : nxAt (f_segB (tau5 a 7 2 isF) []) [1, 5] = some [.obj a, .str isF] := by kernel_rfl
theorem segB73E (a : Addr) : nxAt (f_segB (tau5 a 7 3 isE) []) [1, 5] = some [.obj a, .str isE] := by kernel_rfl
theorem segB73F (a : Addr) : nxAt (f_segB (tau5 a 7 3 isF) []) [1, 5] = some [.obj a, .str isF] := by kernel_rfl
theorem segB81E (a : Addr) : nxAt (f_segB (tau5 a 8 1 isE) []) [1, 5] = some [.obj a, .str isE] := by kernel_rfl
theorem segB81F (a : Addr) : nxAt (f_segB (tau5 a 8 1 isF) []) [1, 5] = some [.obj a, .str isF] := by kernel_rfl
theorem segB82E (a : Addr) : nxAt (f_segB (tau5 a 8 2 isE) []) [1, 5] = some [.obj a, .str isE] := by kernel_rfl
theorem segB82F (a : Addr) : nxAt (f_segB (tau5 a 8 2 isF) []) [1, 5] = some [.obj a, .str isF] := by kernel_rfl
theorem segB83E (a : Addr) : nxAt (f_segB (tau5 a 8 3 isE) []) [1, 5] = some [.obj a, .str isE] := by kernel_rfl
theorem segB83F (a : Addr) : nxAt (f_segB (tau5 a 8 3 isF) []) [1, 5] = some [.obj a, .str isF] := by kernel_rfl
theorem len21 : (TI 2 1).all (fun l => Nat.beq l.length 2) = true := by decide +kernel
theorem segC21E (a : Addr) : nxAt (f_segC (tau5 a 2 1 isE) []) [1, 2, 4, 5] = some [.obj a, .int 2, .int 1, .str isE] := by kernel_rfl
theorem segL21E (a : Addr) : lstSl (f_segC (tau5 a 2 1 isE) []) 10 = some ((TI 2 1).map (Tb 1)) := by kernel_rfl
theorem chk21E : (TI 2 1).all (chk 2 1 isE) = true := by decide +kernel
theorem b3all21E (a : Addr) {la lb lc ld : List Int} (ha : la ∈ TI 2 1) (hb : lb ∈ TI 2 1) (hc : lc ∈ TI 2 1) (hd : ld ∈ TI 2 1) : nxAt (f_lawB3 (tau13 a 2 1 isE [Tb 1 la, Tb 1 lb, Tb 1 lc, Tb 1 ld]) []) [1, 5] = some [.obj a, .str isE] := by
  obtain ⟨va, oa, ia, ka⟩ := chk_of (List.all_eq_true.mp chk21E la ha)
  have na := Nat.eq_of_beq_eq_true (List.all_eq_true.mp len21 la ha)
  obtain ⟨vb, ob, ib, kb⟩ := chk_of (List.all_eq_true.mp chk21E lb hb)
  have nb := Nat.eq_of_beq_eq_true (List.all_eq_true.mp len21 lb hb)
  obtain ⟨vc, oc, ic, kc⟩ := chk_of (List.all_eq_true.mp chk21E lc hc)
  have nc := Nat.eq_of_beq_eq_true (List.all_eq_true.mp len21 lc hc)
  obtain ⟨vd, od, id, kd⟩ := chk_of (List.all_eq_true.mp chk21E ld hd)
  have nd := Nat.eq_of_beq_eq_true (List.all_eq_true.mp len21 ld hd)
  obtain ⟨a0, a1, rfl⟩ : ∃ a0 a1, la = [a0, a1] := by
    rcases la with _ | ⟨a0, _ | ⟨a1, _ | ⟨_, _⟩⟩⟩
    · cases na
    · cases na
    · exact ⟨_, _, rfl⟩
    · cases na
  obtain ⟨b0, b1, rfl⟩ : ∃ b0 b1, lb = [b0, b1] := by
    rcases lb with _ | ⟨b0, _ | ⟨b1, _ | ⟨_, _⟩⟩⟩
    · cases nb
    · cases nb
    · exact ⟨_, _, rfl⟩
    · cases nb
  obtain ⟨c0, c1, rfl⟩ : ∃ c0 c1, lc = [c0, c1] := by
    rcases lc with _ | ⟨c0, _ | ⟨c1, _ | ⟨_, _⟩⟩⟩
    · cases nc
    · cases nc
    · exact ⟨_, _, rfl⟩
    · cases nc
  obtain ⟨d0, d1, rfl⟩ : ∃ d0 d1, ld = [d0, d1] := by
    rcases ld with _ | ⟨d0, _ | ⟨d1, _ | ⟨_, _⟩⟩⟩
    · cases nd
    · cases nd
    · exact ⟨_, _, rfl⟩
    · cases nd
  exact b3_21E a0 a1 b0 b1 c0 c1 d0 d1 a oa ob oc od va (fun S => (let0E _ _ _ _ _ _ S).trans (ia S)) ka vb (fun S => (let1E _ _ _ _ _ _ S).trans (ib S)) kb vc (fun S => (let2E _ _ _ _ _ _ S).trans (ic S)) kc vd (fun S => (let3E _ _ _ _ _ _ S).trans (id S)) kd
theorem segC21F (a : Addr) : nxAt (f_segC (tau5 a 2 1 isF) []) [1, 2, 4, 5] = some [.obj a, .int 2, .int 1, .str isF] := by kernel_rfl
theorem segL21F (a : Addr) : lstSl (f_segC (tau5 a 2 1 isF) []) 10 = some ((TI 2 1).map (Tb 1)) := by kernel_rfl
theorem chk21F : (TI 2 1).all (chk 2 1 isF) = true := by decide +kernel
theorem b3all21F (a : Addr) {la lb lc ld : List Int} (ha : la ∈ TI 2 1) (hb : lb ∈ TI 2 1) (hc : lc ∈ TI 2 1) (hd : ld ∈ TI 2 1) : nxAt (f_lawB3 (tau13 a 2 1 isF [Tb 1 la, Tb 1 lb, Tb 1 lc, Tb 1 ld]) []) [1, 5] = some [.obj a, .str isF] := by
  obtain ⟨va, oa, ia, ka⟩ := chk_of (List.all_eq_true.mp chk21F la ha)
  have na := Nat.eq_of_beq_eq_true (List.all_eq_true.mp len21 la ha)
  obtain ⟨vb, ob, ib, kb⟩ := chk_of (List.all_eq_true.mp chk21F lb hb)
  have nb := Nat.eq_of_beq_eq_true (List.all_eq_true.mp len21 lb hb)
  obtain ⟨vc, oc, ic, kc⟩ := chk_of (List.all_eq_true.mp chk21F lc hc)
  have nc := Nat.eq_of_beq_eq_true (List.all_eq_true.mp len21 lc hc)
  obtain ⟨vd, od, id, kd⟩ := chk_of (List.all_eq_true.mp chk21F ld hd)
  have nd := Nat.eq_of_beq_eq_true (List.all_eq_true.mp len21 ld hd)
  obtain ⟨a0, a1, rfl⟩ : ∃ a0 a1, la = [a0, a1] := by
    rcases la with _ | ⟨a0, _ | ⟨a1, _ | ⟨_, _⟩⟩⟩
    · cases na
    · cases na
    · exact ⟨_, _, rfl⟩
    · cases na
  obtain ⟨b0, b1, rfl⟩ : ∃ b0 b1, lb = [b0, b1] := by
    rcases lb with _ | ⟨b0, _ | ⟨b1, _ | ⟨_, _⟩⟩⟩
    · cases nb
    · cases nb
    · exact ⟨_, _, rfl⟩
    · cases nb
  obtain ⟨c0, c1, rfl⟩ : ∃ c0 c1, lc = [c0, c1] := by
    rcases lc with _ | ⟨c0, _ | ⟨c1, _ | ⟨_, _⟩⟩⟩
    · cases nc
    · cases nc
    · exact ⟨_, _, rfl⟩
    · cases nc
  obtain ⟨d0, d1, rfl⟩ : ∃ d0 d1, ld = [d0, d1] := by
    rcases ld with _ | ⟨d0, _ | ⟨d1, _ | ⟨_, _⟩⟩⟩
    · cases nd
    · cases nd
    · exact ⟨_, _, rfl⟩
    · cases nd
  exact b3_21F a0 a1 b0 b1 c0 c1 d0 d1 a oa ob oc od va (fun S => (let0F _ _ _ _ _ _ S).trans (ia S)) ka vb (fun S => (let1F _ _ _ _ _ _ S).trans (ib S)) kb vc (fun S => (let2F _ _ _ _ _ _ S).trans (ic S)) kc vd (fun S => (let3F _ _ _ _ _ _ S).trans (id S)) kd
theorem len31 : (TI 3 1).all (fun l => Nat.beq l.length 3) = true := by decide +kernel
theorem segC31E (a : Addr) : nxAt (f_segC (tau5 a 3 1 isE) []) [1, 2, 4, 5] = some [.obj a, .int 3, .int 1, .str isE] := by kernel_rfl
theorem segL31E (a : Addr) : lstSl (f_segC (tau5 a 3 1 isE) []) 10 = some ((TI 3 1).map (Tb 1)) := by kernel_rfl
theorem chk31E : (TI 3 1).all (chk 3 1 isE) = true := by decide +kernel
theorem b3all31E (a : Addr) {la lb lc ld : List Int} (ha : la ∈ TI 3 1) (hb : lb ∈ TI 3 1) (hc : lc ∈ TI 3 1) (hd : ld ∈ TI 3 1) : nxAt (f_lawB3 (tau13 a 3 1 isE [Tb 1 la, Tb 1 lb, Tb 1 lc, Tb 1 ld]) []) [1, 5] = some [.obj a, .str isE] := by
  obtain ⟨va, oa, ia, ka⟩ := chk_of (List.all_eq_true.mp chk31E la ha)
  have na := Nat.eq_of_beq_eq_true (List.all_eq_true.mp len31 la ha)
  obtain ⟨vb, ob, ib, kb⟩ := chk_of (List.all_eq_true.mp chk31E lb hb)
  have nb := Nat.eq_of_beq_eq_true (List.all_eq_true.mp len31 lb hb)
  obtain ⟨vc, oc, ic, kc⟩ := chk_of (List.all_eq_true.mp chk31E lc hc)
  have nc := Nat.eq_of_beq_eq_true (List.all_eq_true.mp len31 lc hc)
  obtain ⟨vd, od, id, kd⟩ := chk_of (List.all_eq_true.mp chk31E ld hd)
  have nd := Nat.eq_of_beq_eq_true (List.all_eq_true.mp len31 ld hd)
  obtain ⟨a0, a1, a2, rfl⟩ : ∃ a0 a1 a2, la = [a0, a1, a2] := by
    rcases la with _ | ⟨a0, _ | ⟨a1, _ | ⟨a2, _ | ⟨_, _⟩⟩⟩⟩
    · cases na
    · cases na
    · cases na
    · exact ⟨_, _, _, rfl⟩
    · cases na
  obtain ⟨b0, b1, b2, rfl⟩ : ∃ b0 b1 b2, lb = [b0, b1, b2] := by
    rcases lb with _ | ⟨b0, _ | ⟨b1, _ | ⟨b2, _ | ⟨_, _⟩⟩⟩⟩
    · cases nb
    · cases nb
    · cases nb
    · exact ⟨_, _, _, rfl⟩
    · cases nb
  obtain ⟨c0, c1, c2, rfl⟩ : ∃ c0 c1 c2, lc = [c0, c1, c2] := by
    rcases lc with _ | ⟨c0, _ | ⟨c1, _ | ⟨c2, _ | ⟨_, _⟩⟩⟩⟩
    · cases nc
    · cases nc
    · cases nc
    · exact ⟨_, _, _, rfl⟩
    · cases nc
  obtain ⟨d0, d1, d2, rfl⟩ : ∃ d0 d1 d2, ld = [d0, d1, d2] := by
    rcases ld with _ | ⟨d0, _ | ⟨d1, _ | ⟨d2, _ | ⟨_, _⟩⟩⟩⟩
    · cases nd
    · cases nd
    · cases nd
    · exact ⟨_, _, _, rfl⟩
    · cases nd
  exact b3_31E a0 a1 a2 b0 b1 b2 c0 c1 c2 d0 d1 d2 a oa ob oc od va (fun S => (let0E _ _ _ _ _ _ S).trans (ia S)) ka vb (fun S => (let1E _ _ _ _ _ _ S).trans (ib S)) kb vc (fun S => (let2E _ _ _ _ _ _ S).trans (ic S)) kc vd (fun S => (let3E _ _ _ _ _ _ S).trans (id S)) kd
theorem segC31F (a : Addr) : nxAt (f_segC (tau5 a 3 1 isF) []) [1, 2, 4, 5] = some [.obj a, .int 3, .int 1, .str isF] := by kernel_rfl
theorem segL31F (a : Addr) : lstSl (f_segC (tau5 a 3 1 isF) []) 10 = some ((TI 3 1).map (Tb 1)) := by kernel_rfl
theorem chk31F : (TI 3 1).all (chk 3 1 isF) = true := by decide +kernel
theorem b3all31F (a : Addr) {la lb lc ld : List Int} (ha : la ∈ TI 3 1) (hb : lb ∈ TI 3 1) (hc : lc ∈ TI 3 1) (hd : ld ∈ TI 3 1) : nxAt (f_lawB3 (tau13 a 3 1 isF [Tb 1 la, Tb 1 lb, Tb 1 lc, Tb 1 ld]) []) [1, 5] = some [.obj a, .str isF] := by
  obtain ⟨va, oa, ia, ka⟩ := chk_of (List.all_eq_true.mp chk31F la ha)
  have na := Nat.eq_of_beq_eq_true (List.all_eq_true.mp len31 la ha)
  obtain ⟨vb, ob, ib, kb⟩ := chk_of (List.all_eq_true.mp chk31F lb hb)
  have nb := Nat.eq_of_beq_eq_true (List.all_eq_true.mp len31 lb hb)
  obtain ⟨vc, oc, ic, kc⟩ := chk_of (List.all_eq_true.mp chk31F lc hc)
  have nc := Nat.eq_of_beq_eq_true (List.all_eq_true.mp len31 lc hc)
  obtain ⟨vd, od, id, kd⟩ := chk_of (List.all_eq_true.mp chk31F ld hd)
  have nd := Nat.eq_of_beq_eq_true (List.all_eq_true.mp len31 ld hd)
  obtain ⟨a0, a1, a2, rfl⟩ : ∃ a0 a1 a2, la = [a0, a1, a2] := by
    rcases la with _ | ⟨a0, _ | ⟨a1, _ | ⟨a2, _ | ⟨_, _⟩⟩⟩⟩
    · cases na
    · cases na
    · cases na
    · exact ⟨_, _, _, rfl⟩
    · cases na
  obtain ⟨b0, b1, b2, rfl⟩ : ∃ b0 b1 b2, lb = [b0, b1, b2] := by
    rcases lb with _ | ⟨b0, _ | ⟨b1, _ | ⟨b2, _ | ⟨_, _⟩⟩⟩⟩
    · cases nb
    · cases nb
    · cases nb
    · exact ⟨_, _, _, rfl⟩
    · cases nb
  obtain ⟨c0, c1, c2, rfl⟩ : ∃ c0 c1 c2, lc = [c0, c1, c2] := by
    rcases lc with _ | ⟨c0, _ | ⟨c1, _ | ⟨c2, _ | ⟨_, _⟩⟩⟩⟩
    · cases nc
    · cases nc
    · cases nc
    · exact ⟨_, _, _, rfl⟩
    · cases nc
  obtain ⟨d0, d1, d2, rfl⟩ : ∃ d0 d1 d2, ld = [d0, d1, d2] := by
    rcases ld with _ | ⟨d0, _ | ⟨d1, _ | ⟨d2, _ | ⟨_, _⟩⟩⟩⟩
    · cases nd
    · cases nd
    · cases nd
    · exact ⟨_, _, _, rfl⟩
    · cases nd
  exact b3_31F a0 a1 a2 b0 b1 b2 c0 c1 c2 d0 d1 d2 a oa ob oc od va (fun S => (let0F _ _ _ _ _ _ S).trans (ia S)) ka vb (fun S => (let1F _ _ _ _ _ _ S).trans (ib S)) kb vc (fun S => (let2F _ _ _ _ _ _ S).trans (ic S)) kc vd (fun S => (let3F _ _ _ _ _ _ S).trans (id S)) kd
theorem len22 : (TI 2 2).all (fun l => Nat.beq l.length 4) = true := by decide +kernel
theorem segC22E (a : Addr) : nxAt (f_segC (tau5 a 2 2 isE) []) [1, 2, 4, 5] = some [.obj a, .int 2, .int 2, .str isE] := by kernel_rfl
theorem segL22E (a : Addr) : lstSl (f_segC (tau5 a 2 2 isE) []) 10 = some ((TI 2 2).map (Tb 2)) := by kernel_rfl
theorem chk22E : (TI 2 2).all (chk 2 2 isE) = true := by decide +kernel
theorem b3all22E (a : Addr) {la lb lc ld : List Int} (ha : la ∈ TI 2 2) (hb : lb ∈ TI 2 2) (hc : lc ∈ TI 2 2) (hd : ld ∈ TI 2 2) : nxAt (f_lawB3 (tau13 a 2 2 isE [Tb 2 la, Tb 2 lb, Tb 2 lc, Tb 2 ld]) []) [1, 5] = some [.obj a, .str isE] := by
  obtain ⟨va, oa, ia, ka⟩ := chk_of (List.all_eq_true.mp chk22E la ha)
  have na := Nat.eq_of_beq_eq_true (List.all_eq_true.mp len22 la ha)
  obtain ⟨vb, ob, ib, kb⟩ := chk_of (List.all_eq_true.mp chk22E lb hb)
  have nb := Nat.eq_of_beq_eq_true (List.all_eq_true.mp len22 lb hb)
  obtain ⟨vc, oc, ic, kc⟩ := chk_of (List.all_eq_true.mp chk22E lc hc)
  have nc := Nat.eq_of_beq_eq_true (List.all_eq_true.mp len22 lc hc)
  obtain ⟨vd, od, id, kd⟩ := chk_of (List.all_eq_true.mp chk22E ld hd)
  have nd := Nat.eq_of_beq_eq_true (List.all_eq_true.mp len22 ld hd)
  obtain ⟨a0, a1, a2, a3, rfl⟩ : ∃ a0 a1 a2 a3, la = [a0, a1, a2, a3] := by
    rcases la with _ | ⟨a0, _ | ⟨a1, _ | ⟨a2, _ | ⟨a3, _ | ⟨_, _⟩⟩⟩⟩⟩
    · cases na
    · cases na
    · cases na
    · cases na
    · exact ⟨_, _, _, _, rfl⟩
    · cases na
  obtain ⟨b0, b1, b2, b3, rfl⟩ : ∃ b0 b1 b2 b3, lb = [b0, b1, b2, b3] := by
    rcases lb with _ | ⟨b0, _ | ⟨b1, _ | ⟨b2, _ | ⟨b3, _ | ⟨_, _⟩⟩⟩⟩⟩
    · cases nb
    · cases nb
    · cases nb
    · cases nb
    · exact ⟨_, _, _, _, rfl⟩
    · cases nb
  obtain ⟨c0, c1, c2, c3, rfl⟩ : ∃ c0 c1 c2 c3, lc = [c0, c1, c2, c3] := by
    rcases lc with _ | ⟨c0, _ | ⟨c1, _ | ⟨c2, _ | ⟨c3, _ | ⟨_, _⟩⟩⟩⟩⟩
    · cases nc
    · cases nc
    · cases nc
    · cases nc
    · exact ⟨_, _, _, _, rfl⟩
    · cases nc
  obtain ⟨d0, d1, d2, d3, rfl⟩ : ∃ d0 d1 d2 d3, ld = [d0, d1, d2, d3] := by
    rcases ld with _ | ⟨d0, _ | ⟨d1, _ | ⟨d2, _ | ⟨d3, _ | ⟨_, _⟩⟩⟩⟩⟩
    · cases nd
    · cases nd
    · cases nd
    · cases nd
    · exact ⟨_, _, _, _, rfl⟩
    · cases nd
  exact b3_22E a0 a1 a2 a3 b0 b1 b2 b3 c0 c1 c2 c3 d0 d1 d2 d3 a oa ob oc od va (fun S => (let0E _ _ _ _ _ _ S).trans (ia S)) ka vb (fun S => (let1E _ _ _ _ _ _ S).trans (ib S)) kb vc (fun S => (let2E _ _ _ _ _ _ S).trans (ic S)) kc vd (fun S => (let3E _ _ _ _ _ _ S).trans (id S)) kd
theorem segC22F (a : Addr) : nxAt (f_segC (tau5 a 2 2 isF) []) [1, 2, 4, 5] = some [.obj a, .int 2, .int 2, .str isF] := by kernel_rfl
theorem segL22F (a : Addr) : lstSl (f_segC (tau5 a 2 2 isF) []) 10 = some ((TI 2 2).map (Tb 2)) := by kernel_rfl
theorem chk22F : (TI 2 2).all (chk 2 2 isF) = true := by decide +kernel
theorem b3all22F (a : Addr) {la lb lc ld : List Int} (ha : la ∈ TI 2 2) (hb : lb ∈ TI 2 2) (hc : lc ∈ TI 2 2) (hd : ld ∈ TI 2 2) : nxAt (f_lawB3 (tau13 a 2 2 isF [Tb 2 la, Tb 2 lb, Tb 2 lc, Tb 2 ld]) []) [1, 5] = some [.obj a, .str isF] := by
  obtain ⟨va, oa, ia, ka⟩ := chk_of (List.all_eq_true.mp chk22F la ha)
  have na := Nat.eq_of_beq_eq_true (List.all_eq_true.mp len22 la ha)
  obtain ⟨vb, ob, ib, kb⟩ := chk_of (List.all_eq_true.mp chk22F lb hb)
  have nb := Nat.eq_of_beq_eq_true (List.all_eq_true.mp len22 lb hb)
  obtain ⟨vc, oc, ic, kc⟩ := chk_of (List.all_eq_true.mp chk22F lc hc)
  have nc := Nat.eq_of_beq_eq_true (List.all_eq_true.mp len22 lc hc)
  obtain ⟨vd, od, id, kd⟩ := chk_of (List.all_eq_true.mp chk22F ld hd)
  have nd := Nat.eq_of_beq_eq_true (List.all_eq_true.mp len22 ld hd)
  obtain ⟨a0, a1, a2, a3, rfl⟩ : ∃ a0 a1 a2 a3, la = [a0, a1, a2, a3] := by
    rcases la with _ | ⟨a0, _ | ⟨a1, _ | ⟨a2, _ | ⟨a3, _ | ⟨_, _⟩⟩⟩⟩⟩
    · cases na
    · cases na
    · cases na
    · cases na
    · exact ⟨_, _, _, _, rfl⟩
    · cases na
  obtain ⟨b0, b1, b2, b3, rfl⟩ : ∃ b0 b1 b2 b3, lb = [b0, b1, b2, b3] := by
    rcases lb with _ | ⟨b0, _ | ⟨b1, _ | ⟨b2, _ | ⟨b3, _ | ⟨_, _⟩⟩⟩⟩⟩
    · cases nb
    · cases nb
    · cases nb
    · cases nb
    · exact ⟨_, _, _, _, rfl⟩
    · cases nb
  obtain ⟨c0, c1, c2, c3, rfl⟩ : ∃ c0 c1 c2 c3, lc = [c0, c1, c2, c3] := by
    rcases lc with _ | ⟨c0, _ | ⟨c1, _ | ⟨c2, _ | ⟨c3, _ | ⟨_, _⟩⟩⟩⟩⟩
    · cases nc
    · cases nc
    · cases nc
    · cases nc
    · exact ⟨_, _, _, _, rfl⟩
    · cases nc
  obtain ⟨d0, d1, d2, d3, rfl⟩ : ∃ d0 d1 d2 d3, ld = [d0, d1, d2, d3] := by
    rcases ld with _ | ⟨d0, _ | ⟨d1, _ | ⟨d2, _ | ⟨d3, _ | ⟨_, _⟩⟩⟩⟩⟩
    · cases nd
    · cases nd
    · cases nd
    · cases nd
    · exact ⟨_, _, _, _, rfl⟩
    · cases nd
  exact b3_22F a0 a1 a2 a3 b0 b1 b2 b3 c0 c1 c2 c3 d0 d1 d2 d3 a oa ob oc od va (fun S => (let0F _ _ _ _ _ _ S).trans (ia S)) ka vb (fun S => (let1F _ _ _ _ _ _ S).trans (ib S)) kb vc (fun S => (let2F _ _ _ _ _ _ S).trans (ic S)) kc vd (fun S => (let3F _ _ _ _ _ _ S).trans (id S)) kd
end K50
set_option Elab.async false
set_option linter.all false
set_option maxRecDepth 100000
set_option maxHeartbeats 4000000
namespace K50
open PySem PySem.Spec PyProof.Rows L2
/-! ### between segments: slots by data without a store, the box aside -/
def own : D → Bool
  | .obj _ => true
  | .int _ => true
  | .str _ => true
  | .bl _ => true
  | .non => true
  | _ => false
section
variable {P : Program} {w : World} {K : PySem.W.Frag} {H H' H1 : Hp} {ρ ρ' : List Addr} {S S' : Sto} {σ σ' : L2.St} {τ τ' : Sl} {v : V} {d : D} {a : Addr}
theorem At.own {ρ' : List Addr} (h : own d = true) (x : At K H ρ v d) : At K H ρ' v d := by
  cases x with
  | non => exact .non
  | bl b => exact .bl b
  | int i => exact .int i
  | str y => exact .str y
  | obj a => exact .obj a
  | _ => cases h
/-- all that was known stays -/
def Same0 (H H' : Hp) : Prop := ∀ b o, H b = some o → H' b = some o
theorem Ext.same0 (x : Ext H [] H' ρ') : Same0 H H' := fun b o h => x.out b o h (by simp)
theorem Same0.refl : Same0 H H := fun _ _ h => h
theorem Same0.trans (x : Same0 H H') (y : Same0 H' H1) : Same0 H H1 := fun b o h => y b o (x b o h)
/-- all but the box stays -/
def SameB (a : Addr) (H H' : Hp) : Prop := ∀ b o, H b = some o → b ≠ a → H' b = some o
theorem Same0.b (x : Same0 H H') : SameB a H H' := fun b o h _ => x b o h
theorem SameB.trans (x : SameB a H H') (y : SameB a H' H1) : SameB a H H1 := fun b o h n => y b o (x b o h n) n
theorem BoxStep.sameB (x : BoxStep H a H') : SameB a H H' := x.keep
theorem BoxAt.same (x : BoxAt H a) (y : Same0 H H') : BoxAt H' a := let ⟨d, s, c, e⟩ := x; ⟨d, s, c, y _ _ e⟩
theorem SameB.kp (x : SameB a H H') (b : BoxAt H a) : Kp H H' [] [] := by
  refine ⟨fun c xs h => ?_, fun i c h => by simp at h, fun c o xs h => x _ _ h (BoxStep.notA b h fun _ z => nomatch z)⟩
  rcases h with h | ⟨o, h⟩
  · exact .inl (x _ _ h (BoxStep.notA b h fun _ z => nomatch z))
  · exact .inr ⟨o, x _ _ h (BoxStep.notA b h fun _ z => nomatch z)⟩
theorem Same0.kp (x : Same0 H H') : Kp H H' [] [] := by
  refine ⟨fun c xs h => ?_, fun i c h => by simp at h, fun c o xs h => x _ _ h⟩
  rcases h with h | ⟨o, h⟩
  · exact .inl (x _ _ h)
  · exact .inr ⟨o, x _ _ h⟩
theorem mapO_at {α β : Type} {f : α → Option β} : ∀ {xs : List α} {ys : List β}, mapO f xs = some ys → ∀ (j : Nat) (x : α), xs[j]? = some x → ∃ y, ys[j]? = some y ∧ f x = some y
  | [], _, h, j, x, e => by simp at e
  | x0 :: xs, ys, h, j, x, e => by
    unfold mapO at h
    split at h
    · rename_i y hy
      split at h
      · rename_i ys' hys
        cases h
        cases j with
        | zero =>
          have e1 : x0 = x := by simpa using e
          subst e1
          exact ⟨y, rfl, hy⟩
        | succ j =>
          obtain ⟨y', h1, h2⟩ := mapO_at hys j x (by simpa using e)
          exact ⟨y', by simpa using h1, h2⟩
      · cases h
    · cases h
/-- what a segment leaves, by the slots that are asked for -/
theorem nx_of {r : Option (Fl × Sto)} {is : List Nat} {ds : List D} (h : nxAt r is = some ds) : ∃ τ S, r = some (.nx τ, S) ∧ ∀ (j i : Nat), is[j]? = some i → ∃ d, ds[j]? = some d ∧ τ[i]? = some (some d) := by
  unfold nxAt at h
  split at h
  · rename_i τ S
    refine ⟨τ, S, rfl, fun j i e => ?_⟩
    obtain ⟨d, h1, h2⟩ := mapO_at h j i e
    refine ⟨d, h1, ?_⟩
    split at h2
    · rename_i d' h3
      cases h2
      exact h3
    · cases h2
  · cases h
/-- the slots keep their number -/
def tLenS (n : Nat) (t : TS) : TS := fun D σ H => t { D with nx := fun σ' H' => σ'.length = n → D.nx σ' H' } σ H
theorem ps_len {X : Cx} {st : Stmt} {t : TS} (h : PS X st t) : PS X st (tLenS X.N.length t) := ⟨fun pins s σ H D I hw => thn (h.run pins s σ H _ I hw) fun f s1 q => by
  cases f with
  | next =>
    obtain ⟨σ', H', I2, q⟩ := q
    exact ⟨σ', H', I2, q I2.len⟩
  | brk => exact q
  | cont => exact q
  | ret v => exact q⟩
/-- a segment run -/
theorem seg_run {n : Nat} {f : FS} {is : List Nat} {ds : List D} {E : Ends} (h : nxAt (f τ []) is = some ds) (sr : SR K H [] σ τ) (hf : ds.all own = true) (hl : τ'.length = n)
    (ht : ∀ (i : Nat) (d : D), τ'[i]? = some (some d) → ∃ j : Nat, is[j]? = some i ∧ ds[j]? = some d) (q : ∀ σ' H', Same0 H H' → SR K H' [] σ' τ' → E.nx σ' H') : tLenS n (tSt P w K f) E σ H := by
  obtain ⟨τf, S, e, g⟩ := nx_of h
  refine ⟨τ, [], [], .nx τf, S, RS.nil, sr, e, fun σ' H' ρ' x rs sr' hn => q σ' H' x.same0 ⟨by rw [hl, hn], fun i d hd => ?_⟩⟩
  obtain ⟨j, h1, h2⟩ := ht i d hd
  obtain ⟨d', h3, h4⟩ := g j i h1
  rw [h2] at h3
  cases h3
  obtain ⟨v, hv, av⟩ := sr'.at_ i d h4
  exact ⟨v, hv, av.own (List.all_eq_true.mp hf d (List.mem_of_getElem? h2))⟩
/-- two segments in a row are one -/
theorem seg2 {n : Nat} {f g : FS} {t : TS} {E : Ends} (h : tLenS n (tSt P w K (sSeq f g)) { E with nx := t E } σ H) : tSeq (tLenS n (tSt P w K f)) (tSeq (tLenS n (tSt P w K g)) t) E σ H := by
  obtain ⟨τ, ρ, S, fl, S', rs, sr, e, q⟩ := h
  unfold sSeq at e
  split at e
  · rename_i τ1 S1 h1
    exact ⟨τ, ρ, S, .nx τ1, S1, rs, sr, h1, fun σ' H' ρ' x rs' sr' hn => ⟨τ1, ρ', S1, fl, S', rs', sr', e, WS.to q x⟩⟩
  · rename_i hn
    refine ⟨τ, ρ, S, fl, S', rs, sr, e, ?_⟩
    cases fl with
    | nx τ1 => exact absurd e (hn _ _)
    | bk τ1 => exact q
    | rt d => exact q
end
end K50
set_option Elab.async false
set_option linter.all false
set_option maxRecDepth 100000
set_option maxHeartbeats 4000000
namespace K50
open PySem PySem.Spec PyProof.Rows L2
/-- a def that raises the error with the word z, at such arguments -/
def spErr (K : PySem.W.Frag) (C : Addr) (z : Str) (ok : List D → Prop) : Sp := fun vs H _ E => ∃ ds, AtL K H [] vs ds ∧ ok ds ∧ ∀ H' d, Same0 H H' → H' d = none → E (.ref C) (some d) (upd H' d (.xd [(("word" : Str), .str z)]))
section
variable {P : Program} {w : World} {K : PySem.W.Frag} {mg : Str → Option Value} {base : Heap} {C fI cc cda : Addr}
theorem raise_at {H : Hp} {σ : L2.St} {τ : Sl} {f : FB} {D : Ends} {W : WX} {z : Str} {u : TS} (sr : SR K H [] σ τ) {S' : Sto} (e : f τ [] = some (true, S')) (q : ∀ H' d, Same0 H H' → H' d = none → W (.ref C) (some d) σ (upd H' d (.xd [(("word" : Str), .str z)]))) :
    tSeq (tIfS (tBb P w K f) (tRaiseSiz C W (tCons (tC (.str z)) tNil)) tNext) u D σ H :=
  ⟨τ, [], [], true, S', RS.nil, sr, e, fun H' ρ' x _ => iteT ⟨_, rfl, fun d hd => q H' d x.same0 hd⟩⟩
def b_need_size : FB := bOr (bNot (bV (eN (pureF f_is_integer) (aCons (eVar 0) (aNil))))) (bNot (bV (eCh gLe gLe (eC (.int 2)) (eVar 0) (eC (.int 8)))))
theorem er_need_size (T : Txt K mg w) (Z : SizTxt P K mg C fI cc cda) : FnOk P w K mg base (L2.CX P w) 2 T.d_need_size.f T.d_need_size.fd ["value"] (spErr K C "size" fun ds => ∃ d S', ds = [d] ∧ b_need_size [some d] [] = some (true, S')) := by
  refine T.d_need_size.F.okX sc_need_size (fun vs H Q E h => ?_) (fun cdv A outer s H vs Q E hr h => ?_)
  · obtain ⟨ds, al, ⟨d, S', rfl, _⟩, _⟩ := h
    exact al.length
  · refine ⟨_, pss_cons (ps_if (ct_w (cw_or (ct_not (ct_val (ce_call (FnOk.pureF (ok_is_integer T)) (FLen.pure fl_is_integer) (hr.mono (by decide)) (by rfl) T.d_is_integer.g T.d_is_integer.F.kp T.d_is_integer.b (ca_cons (ce_var 0) ca_nil)))) (cw_or1 (ct_not (ct_chain or_le or_le ce_int (ce_var 0) (ce_gint (by rfl) T.c_MOST_SIZE))))))
      (pss_one (ps_raiseSiz rfl Z hr (takes_of rfl rfl rfl rfl) (pa_cons pe_str pa_nil))) pss_nil) pss_never, ?_⟩
    obtain ⟨ds, al, ⟨d, S', rfl, e⟩, q⟩ := h
    exact raise_at (start_sr al _ rfl) e fun H' d x hd => q H' d x hd
end
end K50
set_option Elab.async false
set_option linter.all false
set_option maxRecDepth 100000
set_option maxHeartbeats 4000000
namespace K50
open PySem PySem.Spec PyProof.Rows L2
section
variable {P : Program} {w : World} {K : PySem.W.Frag} {mg : Str → Option Value} {base : Heap} {C fI cc cda : Addr}
def b_need_sense : FB := bOr (bNot (bV (eN (pureF f_is_string) (aCons (eVar 0) (aNil))))) (bV (e2 gNotIn (eVar 0) (eN dTup (aCons (eC (.str ⟨#[101, 120, 97, 99, 116]⟩)) (aCons (eC (.str ⟨#[102, 105, 110, 100, 115]⟩)) (aNil))))))
theorem er_need_sense (T : Txt K mg w) (Z : SizTxt P K mg C fI cc cda) : FnOk P w K mg base (L2.CX P w) 2 T.d_need_sense.f T.d_need_sense.fd ["value"] (spErr K C "word" fun ds => ∃ d S', ds = [d] ∧ b_need_sense [some d] [] = some (true, S')) := by
  refine T.d_need_sense.F.okX sc_need_sense (fun vs H Q E h => ?_) (fun cdv A outer s H vs Q E hr h => ?_)
  · obtain ⟨ds, al, ⟨d, S', rfl, _⟩, _⟩ := h
    exact al.length
  · refine ⟨_, pss_cons (ps_if (ct_w (cw_or (ct_not (ct_val (ce_call (FnOk.pureF (ok_is_string T)) (FLen.pure fl_is_string) (hr.mono (by decide)) (by rfl) T.d_is_string.g T.d_is_string.F.kp T.d_is_string.b (ca_cons (ce_var 0) ca_nil)))) (cw_or1 (ct_cmp (or_notIn (u65 hr)) (ce_var 0) (ce_tup (ca_cons (ce_str ⟨#[101, 120, 97, 99, 116]⟩ (by decide +kernel)) (ca_cons (ce_str ⟨#[102, 105, 110, 100, 115]⟩ (by decide +kernel)) ca_nil)))))))
      (pss_one (ps_raiseSiz rfl Z hr (takes_of rfl rfl rfl rfl) (pa_cons pe_str pa_nil))) pss_nil) pss_never, ?_⟩
    obtain ⟨ds, al, ⟨d, S', rfl, e⟩, q⟩ := h
    exact raise_at (start_sr al _ rfl) e fun H' d x hd => q H' d x hd
/-- seen_program(size) raises what need_size raises -/
theorem er_seen_program (T : Txt K mg w) (Z : SizTxt P K mg C fI cc cda) : FnOk P w K mg base (L2.CX P w) 3 T.d_seen_program.f T.d_seen_program.fd ["size"] (spErr K C "size" fun ds => ∃ d S', ds = [d] ∧ b_need_size [some d] [] = some (true, S')) := by
  refine T.d_seen_program.F.okX sc_seen_program (fun vs H Q E h => ?_) (fun cdv A outer s H vs Q E hr h => ?_)
  · obtain ⟨ds, al, ⟨d, S', rfl, _⟩, _⟩ := h
    exact al.length
  · refine ⟨_, pss_cons (ps_expr (pe_callS (er_need_size T Z) (hr.mono (by decide)) (by rfl) T.d_need_size.g T.d_need_size.F.kp T.d_need_size.b (fun σ => passAt (W := fun cls d _ H => E cls d H) (takes_of rfl rfl rfl rfl) σ) (pa_cons (pv 0) pa_nil))) pss_never, ?_⟩
    obtain ⟨ds, al, ⟨d, S', rfl, e⟩, q⟩ := h
    cases al with
    | cons a1 a2 =>
      cases a2
      exact ⟨_, rfl, [d], .cons a1 .nil, ⟨d, S', rfl, e⟩, fun H' d x hd => q H' d x hd⟩
/-- let_many(size, places, word): the first of the three that is bad -/
def b_places : FB := bOr (bNot (bV (eN (pureF f_is_integer) (aCons (eVar 1) (aNil))))) (bNot (bV (eCh gLe gLe (eC (.int 1)) (eVar 1) (eC (.int 3)))))
def s_size : FS := sSet 0 (eN (pureF f_need_size) (aCons (eVar 0) (aNil)))
def s_places : FS := sIf b_places sNever sNil
theorem er_many1 (T : Txt K mg w) (Z : SizTxt P K mg C fI cc cda) : FnOk P w K mg base (L2.CX P w) 3 T.d_let_many.f T.d_let_many.fd ["size", "places", "word"] (spErr K C "size" fun ds => ∃ d e f S', ds = [d, e, f] ∧ b_need_size [some d] [] = some (true, S')) := by
  refine T.d_let_many.F.okX sc_let_many (fun vs H Q E h => ?_) (fun cdv A outer s H vs Q E hr h => ?_)
  · obtain ⟨ds, al, ⟨d, e, f, S', rfl, _⟩, _⟩ := h
    exact al.length
  · refine ⟨_, pss_cons (ps_set (i := 0) sc_let_many.nd rfl (.inl rfl) (pe_callS (er_need_size T Z) (hr.mono (by decide)) (by rfl) T.d_need_size.g T.d_need_size.F.kp T.d_need_size.b (fun σ => passAt (W := fun cls d _ H => E cls d H) (takes_of rfl rfl rfl rfl) σ) (pa_cons (pv 0) pa_nil))) pss_never, ?_⟩
    obtain ⟨ds, al, ⟨d, e, f, S', rfl, h1⟩, q⟩ := h
    cases al with
    | cons a1 a2 =>
      exact ⟨_, rfl, [d], .cons a1 .nil, ⟨d, S', rfl, h1⟩, fun H' d x hd => q H' d x hd⟩
/-- a statement of the evaluator without a store -/
theorem st_run {f : FS} {u : TS} {Z : Ends} {H : Hp} {σ : L2.St} {τ τ1 : Sl} {S1 : Sto} (sr : SR K H [] σ τ) (e : f τ [] = some (.nx τ1, S1)) (ho : ∀ (i : Nat) (d : D), τ1[i]? = some (some d) → own d = true)
    (q : ∀ σ' H', Same0 H H' → SR K H' [] σ' τ1 → u Z σ' H') : tSeq (tSt P w K f) u Z σ H :=
  ⟨τ, [], [], .nx τ1, S1, RS.nil, sr, e, fun σ' H' ρ' x _ sr' => q σ' H' x.same0 ⟨sr'.len, fun i d hd => by
    obtain ⟨v, h1, h2⟩ := sr'.at_ i d hd
    exact ⟨v, h1, h2.own (ho i d hd)⟩⟩⟩
theorem er_many2 (T : Txt K mg w) (Z : SizTxt P K mg C fI cc cda) : FnOk P w K mg base (L2.CX P w) 3 T.d_let_many.f T.d_let_many.fd ["size", "places", "word"]
    (spErr K C "places" fun ds => ∃ d e f τ1 S1 S2, ds = [d, e, f] ∧ s_size [some d, some e, some f, none, none] [] = some (.nx τ1, S1) ∧ (∀ (i : Nat) (d : D), τ1[i]? = some (some d) → own d = true) ∧ b_places τ1 [] = some (true, S2)) := by
  refine T.d_let_many.F.okX sc_let_many (fun vs H Q E h => ?_) (fun cdv A outer s H vs Q E hr h => ?_)
  · obtain ⟨ds, al, ⟨d, e, f, τ1, S1, S2, rfl, _⟩, _⟩ := h
    exact al.length
  · refine ⟨_, pss_cons (cs_set (i := 0) sc_let_many.nd (ce_call (FnOk.pureF (ok_need_size T)) (FLen.pure fl_need_size) (hr.mono (by decide)) (by rfl) T.d_need_size.g T.d_need_size.F.kp T.d_need_size.b (ca_cons (ce_var 0) ca_nil)))
      (pss_cons (ps_if (ct_w (cw_or (ct_not (ct_val (ce_call (FnOk.pureF (ok_is_integer T)) (FLen.pure fl_is_integer) (hr.mono (by decide)) (by rfl) T.d_is_integer.g T.d_is_integer.F.kp T.d_is_integer.b (ca_cons (ce_var 1) ca_nil)))) (cw_or1 (ct_not (ct_chain or_le or_le ce_int (ce_var 1) ce_int)))))
        (pss_one (ps_raiseSiz rfl Z hr (takes_of rfl rfl rfl rfl) (pa_cons pe_str pa_nil))) pss_nil) pss_never), ?_⟩
    obtain ⟨ds, al, ⟨d, e, f, τ1, S1, S2, rfl, h1, h2, h3⟩, q⟩ := h
    exact st_run (start_sr al _ rfl) h1 h2 fun σ' H' x sr' => raise_at sr' h3 fun H2 d x2 hd => q H2 d (x.trans x2) hd
theorem er_many3 (T : Txt K mg w) (Z : SizTxt P K mg C fI cc cda) : FnOk P w K mg base (L2.CX P w) 3 T.d_let_many.f T.d_let_many.fd ["size", "places", "word"]
    (spErr K C "word" fun ds => ∃ d e f τ1 S1 τ2 S2 g S3, ds = [d, e, f] ∧ s_size [some d, some e, some f, none, none] [] = some (.nx τ1, S1) ∧ (∀ (i : Nat) (d : D), τ1[i]? = some (some d) → own d = true) ∧
      s_places τ1 [] = some (.nx τ2, S2) ∧ (∀ (i : Nat) (d : D), τ2[i]? = some (some d) → own d = true) ∧ τ2[2]? = some (some g) ∧ b_need_sense [some g] [] = some (true, S3)) := by
  refine T.d_let_many.F.okX sc_let_many (fun vs H Q E h => ?_) (fun cdv A outer s H vs Q E hr h => ?_)
  · obtain ⟨ds, al, ⟨d, e, f, _, _, _, _, _, _, rfl, _⟩, _⟩ := h
    exact al.length
  · refine ⟨_, pss_cons (cs_set (i := 0) sc_let_many.nd (ce_call (FnOk.pureF (ok_need_size T)) (FLen.pure fl_need_size) (hr.mono (by decide)) (by rfl) T.d_need_size.g T.d_need_size.F.kp T.d_need_size.b (ca_cons (ce_var 0) ca_nil)))
      (pss_cons (cs_if (ct_w (cw_or (ct_not (ct_val (ce_call (FnOk.pureF (ok_is_integer T)) (FLen.pure fl_is_integer) (hr.mono (by decide)) (by rfl) T.d_is_integer.g T.d_is_integer.F.kp T.d_is_integer.b (ca_cons (ce_var 1) ca_nil)))) (cw_or1 (ct_not (ct_chain or_le or_le ce_int (ce_var 1) ce_int)))))
        (css_one cs_never) css_nil)
      (pss_cons (ps_set (i := 2) sc_let_many.nd rfl (.inl rfl) (pe_callS (er_need_sense T Z) (hr.mono (by decide)) (by rfl) T.d_need_sense.g T.d_need_sense.F.kp T.d_need_sense.b (fun σ => passAt (W := fun cls d _ H => E cls d H) (takes_of rfl rfl rfl rfl) σ) (pa_cons (pv 2) pa_nil))) pss_never)), ?_⟩
    obtain ⟨ds, al, ⟨d, e, f, τ1, S1, τ2, S2, g, S3, rfl, h1, h2, h3, h4, h5, h6⟩, q⟩ := h
    refine st_run (start_sr al _ rfl) h1 h2 fun σ' H' x sr' => st_run sr' h3 h4 fun σ2 H2 x2 sr2 => ?_
    obtain ⟨v, hv, av⟩ := sr2.at_ 2 g h5
    exact ⟨v, hv, [g], .cons av .nil, ⟨g, S3, rfl, h6⟩, fun H3 d x3 hd => q H3 d ((x.trans x2).trans x3) hd⟩
end
end K50
set_option Elab.async false
set_option linter.all false
set_option maxRecDepth 100000
set_option maxHeartbeats 4000000
/-! a known lambda's body, entered -/
namespace K50
open PySem PySem.Spec PyProof.Rows L2 LamX
abbrev lmEnv (qual : Str) (scope : Scope) (L f c' : Addr) (cap : List (Str × Addr)) : Env := PySem.W.envX qual scope L f (.ref c') cap
/-- the context of a lambda's body; N: what it reads of its maker -/
def lmCx (P : Program) (w : World) (K : PySem.W.Frag) (mg : Str → Option Value) (base : Heap) (N : List Str) (qual : Str) (scope : Scope) (cap : List (Str × Addr)) (A : Around) (outer : List Env) (z : Shared) (G : Hp) (E : XK) (f c' : Addr) : Cx :=
  { prog := P, w := w, K := K, mg := mg, base := base, A := A.deeper (lmEnv qual scope z.heap.objs.size f c' cap), N := N, s_0 := z, H_0 := G, env := lmEnv qual scope z.heap.objs.size f c' cap, outer := outer, stack := lmEnv qual scope z.heap.objs.size f c' cap :: outer,
    ex := [], fn := fun _ => false, calm := true, pn := [],
    xe := fun u z' => wpAny (model P w) (A.deeper (lmEnv qual scope z.heap.objs.size f c' cap)) (leaving (lmEnv qual scope z.heap.objs.size f c' cap) u) (fun _ z2 => L2.CX P w outer G z E u z2) (fun u' z2 => L2.CX P w outer G z E u' z2) z' }
/-- what must stand for it: the captured cells -/
structure CapOk (N : List Str) (scope : Scope) (cap : List (Str × Addr)) (σ : L2.St) (G : Hp) (h : Heap) : Prop where
  len : σ.length = N.length
  own : ∀ y ∈ scope.names, y.2 ≠ .local ∧ y.2 ≠ .cell
  inj : ∀ x y c, cap.lookup x = some c → cap.lookup y = some c → x = y
  has : ∀ y, scope.names.lookup y = some .free → ∃ c, cap.lookup y = some c
  cell : ∀ y c, cap.lookup y = some c → G c = none ∧ ∃ v, h.IsCell c v
  val : ∀ (i : Nat) (y : Str) (v : V) (c : Addr), N[i]? = some y → σ[i]? = some (some v) → cap.lookup y = some c → ∃ u, RelV v u ∧ h.IsCell c (some u)
section
variable {P : Program} {w : World} {K : PySem.W.Frag} {mg : Str → Option Value} {base : Heap} {N : List Str} {qual : Str} {scope : Scope} {cap : List (Str × Addr)} {A : Around} {outer : List Env} {z : Shared} {G : Hp} {E : XK} {f c' : Addr} {σ : L2.St}
theorem lm_start {h1 : Heap} {t : Nat} (k : scope.kind = .function) (C : CapOk N scope cap σ G z.heap) (e0 : Env0 P w K mg base A outer z G) (hd : A.handled = none) (ns : h1.Ns z.heap.objs.size fun _ => none) (kp : ∀ b o, z.heap.get? b = some o → h1.get? b = some o) :
    Inv (lmCx P w K mg base N qual scope cap A outer z G E f c') [] σ G { z with heap := h1, toks := t } := by
  have up : ∀ {c : Addr} {v : Option Value}, z.heap.IsCell c v → h1.IsCell c v := fun {c v} q => let ⟨o, e1, e2⟩ := q; ⟨o, kp _ _ e1, e2⟩
  constructor
  · constructor
    · exact e0.mod
    · exact k
    · rfl
    · rfl
    · exact Nat.le_refl _
    · exact C.inj
    · intro y hy
      rcases hy with hy | hy
      · exact absurd rfl (C.own _ (PySem.mem_of_lookup hy)).2
      · exact C.has y hy
    · intro y c q _
      cases q
    · exact fun _ => hd
    · exact Around.frames_deeper e0.frames
    · exact .inr ⟨rfl, rfl⟩
    · intro b q
      cases q
    · exact e0.bs
    · exact e0.bsz
    · intro b o _ q
      cases q
    · intro b q
      cases q
    · exact e0.funs
    · exact e0.frf
  · rfl
  · exact e0.bare
  · exact Un.kept kp
  · refine ⟨_, ns, fun i y v e1 e2 e3 => ?_⟩
    have e3 : Vis scope y := e3
    rcases e3 with q | q | q
    · exact absurd rfl (C.own _ (PySem.mem_of_lookup q)).1
    · exact absurd rfl (C.own _ (PySem.mem_of_lookup q)).2
    · obtain ⟨c, hc⟩ := C.has y q
      obtain ⟨u, ru, hu⟩ := C.val i y v c e1 e2 hc
      exact ⟨u, ru, .inr ⟨.inr q, c, hc, up hu⟩⟩
  · intro y c q
    obtain ⟨_, v, hv⟩ := C.cell y c q
    exact ⟨v, up hv⟩
  · exact e0.hok.fresh (Nat.le_refl _)
  · intro y c q
    exact (C.cell y c q).1
  · intro p hp
    cases hp
  · exact e0.hok.kept kp
  · exact C.len
end
end K50
set_option Elab.async false
set_option linter.all false
set_option maxRecDepth 100000
set_option maxHeartbeats 4000000
/-! the four lambdas' bodies -/
namespace K50
open PySem PySem.Spec PyProof.Rows L2 LamX
def headOf : Expr → Expr
  | .Tuple (l :: _) _ _ => l
  | e => e
def lamIn : Stmt → Expr
  | .Assign _ (.List (e :: _) _) _ => headOf e
  | .Expr (.Call _ (e :: _) _ _) _ => headOf e
  | _ => .Constant .none 0 ⟨0, 0, 0, 0⟩
def lmArgs : Expr → Arguments
  | .Lambda a _ _ _ => a
  | _ => default
def lmBody : Expr → Expr
  | .Lambda _ b _ _ => b
  | e => e
def lmScope : Expr → Scope
  | .Lambda _ _ s _ => s
  | _ => default
abbrev lamX (i : Nat) : Expr := lamIn (lawS (11 + i))
abbrev NB : List Str := ["_law_box_here"]
/-- the body raises the error of the class C with the word z -/
def tLm (C a : Addr) (z : Str) (E : XK) : TE := fun σ H _ => σ = [some (.ref a)] ∧ BoxAt H a ∧ ∀ H' d, SameB a H H' → BoxAt H' a → H' d = none → E (.ref C) (some d) (upd H' d (.xd [(("word" : Str), .str z)]))
section
variable {P : Program} {w : World} {K : PySem.W.Frag} {mg : Str → Option Value} {base : Heap} {qual : Str} {cap : List (Str × Addr)} {A : Around} {outer : List Env} {s : Shared} {G : Hp} {E : XK} {f c' : Addr} {C fI cc cda a : Addr}
theorem err_by {H : Hp} {v : List V} {ds : List D} {z : Str} {ok : List D → Prop} {Q : VK} (al : AtL K H [] v ds) (o : ok ds) (q : ∀ H' d, Same0 H H' → H' d = none → E (.ref C) (some d) (upd H' d (.xd [(("word" : Str), .str z)]))) : spErr K C z ok v H Q E := ⟨ds, al, o, q⟩
theorem box_upd {H : Hp} {o : Addr} {u : HO} (b : BoxAt H a) (n : H o = none) : BoxAt (upd H o u) a ∧ SameB a H (upd H o u) ∧ o ≠ a := by
  have x : Same0 H (upd H o u) := fun c y e => by rw [upd_ne (ne_of_none e n)]; exact e
  refine ⟨b.same x, x.b, fun e => ?_⟩
  obtain ⟨_, _, _, h⟩ := b
  rw [e, h] at n
  cases n
/-- pick(box, [..]) behind which the error comes -/
theorem pick_by {H : Hp} {xs : List V} {k : V → Hp → Prop} {Q0 : Prop} (hb : BoxAt H a) (h1 : xs ≠ []) (h2 : xs.length ≤ 4000) (h : ∀ v H', v ∈ xs → SameB a H H' → BoxAt H' a → k v H')
    (f : (∀ o, H o = none → spPick K [.ref a, .ref o] (upd H o (.lst xs)) k fun _ _ _ => False) → Q0) : Q0 := f fun o ho => by
  obtain ⟨b1, b2, b3⟩ := box_upd (u := .lst xs) hb ho
  exact ⟨a, o, xs, rfl, b1, b3, .inl (.inl (.inl upd_same)), h1, h2, fun v H' hv st => h v H' hv (b2.trans st.keep) st.box⟩
theorem lb0 (T : Txt K mg w) (Z : SizTxt P K mg C fI cc cda) (hr : Room 6 (A.deeper (lmEnv qual (lmScope (lamX 0)) s.heap.objs.size f c' cap))) :
    PE (lmCx P w K mg base NB qual (lmScope (lamX 0)) cap A outer s G E f c') (lmBody (lamX 0)) (tLm C a "size" E) := by
  refine PE.le (pe_callS (E := fun _ => E) (er_seen_program T Z) (hr.mono (by decide)) (by rfl) T.d_seen_program.g T.d_seen_program.F.kp T.d_seen_program.b (fun σ => passAt (W := fun cls d _ H => E cls d H) (takes_of rfl rfl rfl rfl) σ)
    (pa_cons (pe_call (ok_pick T) (hr.mono (by decide)) (by rfl) T.d_law_pick.g T.d_law_pick.F.kp T.d_law_pick.b .nil pass0 (pa_cons (pv 0) (pa_cons (pe_lst (pa_cons pe_int (pa_cons pe_int (pa_cons pe_non (pa_cons pe_bl pa_nil))))) pa_nil))) pa_nil)) fun σ H Q h => ?_
  obtain ⟨rfl, hb, q⟩ := h
  refine ⟨_, rfl, by rw [sizeLine_eq]; decide, pick_by hb (by simp) (by decide) (fun v H' hv sb b' => ?_) fun z => z⟩
  have fin : ∀ d S', At K H' [] v d → b_need_size [some d] [] = some (true, S') → spErr K C "size" (fun ds => ∃ d S', ds = [d] ∧ b_need_size [some d] [] = some (true, S')) [v] H' Q E := fun d S' av e =>
    err_by (.cons av .nil) ⟨d, S', rfl, e⟩ fun H2 d x hd => q H2 d (sb.trans x.b) (b'.same x) hd
  rcases List.mem_cons.mp hv with rfl | hv
  · exact fin _ [] (.int 1) (by kernel_rfl)
  rcases List.mem_cons.mp hv with rfl | hv
  · exact fin _ [] (.int 9) (by kernel_rfl)
  rcases List.mem_cons.mp hv with rfl | hv
  · exact fin _ [] .non (by kernel_rfl)
  rcases List.mem_cons.mp hv with rfl | hv
  · exact fin _ [] (.bl true) (by kernel_rfl)
  · cases hv
theorem lb1 (T : Txt K mg w) (Z : SizTxt P K mg C fI cc cda) (hr : Room 6 (A.deeper (lmEnv qual (lmScope (lamX 1)) s.heap.objs.size f c' cap))) :
    PE (lmCx P w K mg base NB qual (lmScope (lamX 1)) cap A outer s G E f c') (lmBody (lamX 1)) (tLm C a "size" E) := by
  refine PE.le (pe_callS (E := fun _ => E) (er_many1 T Z) (hr.mono (by decide)) (by rfl) T.d_let_many.g T.d_let_many.F.kp T.d_let_many.b (fun σ => passAt (W := fun cls d _ H => E cls d H) (takes_of rfl rfl rfl rfl) σ)
    (pa_cons pe_int (pa_cons pe_non (pa_cons pe_non pa_nil)))) fun σ H Q h => ?_
  obtain ⟨rfl, hb, q⟩ := h
  exact ⟨[.int 1, .non, .non], .cons (.int 1) (.cons .non (.cons .non .nil)), ⟨.int 1, .non, .non, [], rfl, by kernel_rfl⟩, fun H' d x hd => q H' d x.b (hb.same x) hd⟩
theorem lb2 (T : Txt K mg w) (Z : SizTxt P K mg C fI cc cda) (hr : Room 6 (A.deeper (lmEnv qual (lmScope (lamX 2)) s.heap.objs.size f c' cap))) :
    PE (lmCx P w K mg base NB qual (lmScope (lamX 2)) cap A outer s G E f c') (lmBody (lamX 2)) (tLm C a "places" E) := by
  refine PE.le (pe_callS (E := fun _ => E) (er_many2 T Z) (hr.mono (by decide)) (by rfl) T.d_let_many.g T.d_let_many.F.kp T.d_let_many.b (fun σ => passAt (W := fun cls d _ H => E cls d H) (takes_of rfl rfl rfl rfl) σ)
    (pa_cons pe_int (pa_cons (pe_call (ok_pick T) (hr.mono (by decide)) (by rfl) T.d_law_pick.g T.d_law_pick.F.kp T.d_law_pick.b .nil pass0 (pa_cons (pv 0) (pa_cons (pe_lst (pa_cons pe_int (pa_cons pe_int (pa_cons pe_non (pa_cons pe_bl pa_nil))))) pa_nil))) (pa_cons pe_non pa_nil)))) fun σ H Q h => ?_
  obtain ⟨rfl, hb, q⟩ := h
  refine ⟨_, rfl, by rw [sizeLine_eq]; decide, pick_by hb (by simp) (by decide) (fun v H' hv sb b' => ?_) fun z => z⟩
  have fin : ∀ d S2, At K H' [] v d → b_places [some (.int 2), some d, some .non, none, none] [] = some (true, S2) → s_size [some (.int 2), some d, some .non, none, none] [] = some (.nx [some (.int 2), some d, some .non, none, none], []) → own d = true →
      spErr K C "places" (fun ds => ∃ d e f τ1 S1 S2, ds = [d, e, f] ∧ s_size [some d, some e, some f, none, none] [] = some (.nx τ1, S1) ∧ (∀ (i : Nat) (d : D), τ1[i]? = some (some d) → own d = true) ∧ b_places τ1 [] = some (true, S2)) [.int 2, v, .non] H' Q E := fun d S2 av e1 e2 ow =>
    err_by (.cons (.int 2) (.cons av (.cons .non .nil))) ⟨_, d, _, _, _, S2, rfl, e2, fun i x hx => by
      match i, hx with
      | 0, hx => cases hx; rfl
      | 1, hx => cases hx; exact ow
      | 2, hx => cases hx; rfl
      | 3, hx => cases hx
      | 4, hx => cases hx
      | i + 5, hx => simp at hx, e1⟩ fun H2 d x hd => q H2 d (sb.trans x.b) (b'.same x) hd
  rcases List.mem_cons.mp hv with rfl | hv
  · exact fin _ [] (.int 0) (by kernel_rfl) (by kernel_rfl) rfl
  rcases List.mem_cons.mp hv with rfl | hv
  · exact fin _ [] (.int 4) (by kernel_rfl) (by kernel_rfl) rfl
  rcases List.mem_cons.mp hv with rfl | hv
  · exact fin _ [] .non (by kernel_rfl) (by kernel_rfl) rfl
  rcases List.mem_cons.mp hv with rfl | hv
  · exact fin _ [] (.bl true) (by kernel_rfl) (by kernel_rfl) rfl
  · cases hv
theorem lb3 (T : Txt K mg w) (Z : SizTxt P K mg C fI cc cda) (hr : Room 6 (A.deeper (lmEnv qual (lmScope (lamX 3)) s.heap.objs.size f c' cap))) :
    PE (lmCx P w K mg base NB qual (lmScope (lamX 3)) cap A outer s G E f c') (lmBody (lamX 3)) (tLm C a "word" E) := by
  refine PE.le (pe_callS (E := fun _ => E) (er_many3 T Z) (hr.mono (by decide)) (by rfl) T.d_let_many.g T.d_let_many.F.kp T.d_let_many.b (fun σ => passAt (W := fun cls d _ H => E cls d H) (takes_of rfl rfl rfl rfl) σ)
    (pa_cons pe_int (pa_cons pe_int (pa_cons (pe_call (ok_pick T) (hr.mono (by decide)) (by rfl) T.d_law_pick.g T.d_law_pick.F.kp T.d_law_pick.b .nil pass0 (pa_cons (pv 0) (pa_cons (pe_lst (pa_cons pe_non (pa_cons pe_str (pa_cons pe_int pa_nil)))) pa_nil))) pa_nil)))) fun σ H Q h => ?_
  obtain ⟨rfl, hb, q⟩ := h
  refine ⟨_, rfl, by rw [sizeLine_eq]; decide, pick_by hb (by simp) (by decide) (fun v H' hv sb b' => ?_) fun z => z⟩
  have fin : ∀ d S3, At K H' [] v d → s_size [some (.int 2), some (.int 1), some d, none, none] [] = some (.nx [some (.int 2), some (.int 1), some d, none, none], []) → s_places [some (.int 2), some (.int 1), some d, none, none] [] = some (.nx [some (.int 2), some (.int 1), some d, none, none], []) →
      b_need_sense [some d] [] = some (true, S3) → own d = true → spErr K C "word" (fun ds => ∃ d e f τ1 S1 τ2 S2 g S3, ds = [d, e, f] ∧ s_size [some d, some e, some f, none, none] [] = some (.nx τ1, S1) ∧ (∀ (i : Nat) (d : D), τ1[i]? = some (some d) → own d = true) ∧
      s_places τ1 [] = some (.nx τ2, S2) ∧ (∀ (i : Nat) (d : D), τ2[i]? = some (some d) → own d = true) ∧ τ2[2]? = some (some g) ∧ b_need_sense [some g] [] = some (true, S3)) [.int 2, .int 1, v] H' Q E := fun d S3 av e1 e2 e3 ow => by
    have all : ∀ (i : Nat) (x : D), ([some (.int 2), some (.int 1), some d, none, none] : Sl)[i]? = some (some x) → own x = true := fun i x hx => by
      match i, hx with
      | 0, hx => cases hx; rfl
      | 1, hx => cases hx; rfl
      | 2, hx => cases hx; exact ow
      | 3, hx => cases hx
      | 4, hx => cases hx
      | i + 5, hx => simp at hx
    exact err_by (.cons (.int 2) (.cons (.int 1) (.cons av .nil))) ⟨_, _, d, _, _, _, _, d, S3, rfl, e1, all, e2, all, rfl, e3⟩ fun H2 d x hd => q H2 d (sb.trans x.b) (b'.same x) hd
  rcases List.mem_cons.mp hv with rfl | hv
  · exact fin _ [] .non (by kernel_rfl) (by kernel_rfl) (by kernel_rfl) rfl
  rcases List.mem_cons.mp hv with rfl | hv
  · exact fin _ [] (.str _) (by kernel_rfl) (by kernel_rfl) (by kernel_rfl) rfl
  rcases List.mem_cons.mp hv with rfl | hv
  · exact fin _ [] (.int 3) (by kernel_rfl) (by kernel_rfl) (by kernel_rfl) rfl
  · cases hv
end
end K50
set_option Elab.async false
set_option linter.all false
set_option maxRecDepth 100000
set_option maxHeartbeats 4000000
/-! work(), where what it is, is known -/
namespace K50
open PySem PySem.Spec PyProof.Rows L2 LamX
/-- a lambda that raises the error with the word z -/
structure LamZ (P : Program) (w : World) (K : PySem.W.Frag) (mg : Str → Option Value) (C : Addr) (l : Expr) (z : Str) : Prop where
  co : (lmScope l).isCoroutine = false
  gen : (lmScope l).isGenerator = false
  kind : (lmScope l).kind = .function
  own : ∀ y ∈ (lmScope l).names, y.2 ≠ .local ∧ y.2 ≠ .cell
  free : ∀ y ∈ (lmScope l).names, y.2 = .free → y.1 = "_law_box_here"
  bind : ∀ (q : Str) (cl : List (Str × Addr)) (pm cv ctv : Value), bindArgs (PySem.W.kla_fn "<lambda>" q (lmArgs l) (lmBody l) (lmScope l) cl pm cv ctv) ⟨[], []⟩ = pure []
  body : ∀ (base : Heap) (qual : Str) (cap : List (Str × Addr)) (A : Around) (outer : List Env) (s : Shared) (G : Hp) (E : XK) (f c' a : Addr), Room 6 (A.deeper (lmEnv qual (lmScope l) s.heap.objs.size f c' cap)) → PE (lmCx P w K mg base NB qual (lmScope l) cap A outer s G E f c') (lmBody l) (tLm C a z E)
/-- the cells that it got: at most the box's -/
structure CapZ (l : Expr) (cap : List (Str × Addr)) (cb : Addr) : Prop where
  at_ : ∀ y c, cap.lookup y = some c → y = "_law_box_here" ∧ c = cb
  has : ∀ y, (lmScope l).names.lookup y = some .free → cap.lookup y = some cb
section
variable {X : Cx} {C cb a : Addr} {k i : Nat} {x qual : Str} {W : WX} {p1 p2 : Pos}
def tWork (C cb a : Addr) (i : Nat) (qual : Str) (LZ : Expr → Str → Prop) (W : WX) : TE := fun σ H _ => ∃ (l : Expr) (z : Str) (f c' : Addr) (pm ctv : Value) (cap : List (Str × Addr)), LZ l z ∧ CapZ l cap cb ∧ σ[i]? = some (some (.ref f)) ∧ H c' = some (CodeO c' qual) ∧
  H f = some (LamO f (lamObj qual (lmArgs l) (lmBody l) (lmScope l) cap pm c' ctv)) ∧ BoxAt H a ∧ ∀ H' d, SameB a H H' → BoxAt H' a → H' d = none → W (.ref C) (some d) σ (upd H' d (.xd [(("word" : Str), .str z)]))
theorem pe_work (ex : X.ex = []) (c0 : X.s_0.heap.IsCell cb (some (.ref a))) (n0 : X.H_0 cb = none) (tk : Takes X W) (hr : Room 7 X.A) (hN : X.N[i]? = some x) (hv : Vis X.env.scope x) (hd : (x == ("__debug__" : Str)) = false := by decide) (hcd : (x == ("__classdict__" : Str)) = false := by decide) :
    PE X (.Call (.Name x p1) [] [] p2) (tWork C cb a i qual (LamZ X.prog X.w X.K X.mg C) W) := by
  refine ⟨fun pins s σ H Q I h => ?_⟩
  obtain ⟨l, z, f, c', pm, ctv, cap, LZ, CZ, hs, hc, hf, hb, q⟩ := h
  refine wpAny_Call_Name_kw (thn ((pe_var (pos := p1) (i := i) hN hv hd hcd).run pins s σ H (fun v G => v = .ref f ∧ G = H) I ⟨.ref f, hs, rfl, rfl⟩) fun u s1 hu => ?_)
  obtain ⟨v, G, J, ru, rfl, rfl⟩ := hu
  obtain rfl : u = Value.ref f := ru
  obtain ⟨of, _, _⟩ : ObjOk X.prog X.w G s1.heap f (LamO f _) := J.hok f _ hf
  obtain ⟨⟨oc, vs, t, hoc, hdc, hvc⟩, _, _⟩ := J.hok c' _ hc
  refine PySem.W.callWith_F0 ⟨_, _, _, _, of⟩ ?_
  have call : codeAny (model X.prog X.w) X.A (.call (.ref f) ⟨[], []⟩) (CR (L2.CX X.prog X.w) X.stack X.prog X.w G s1 Q fun cls d H' => W cls d σ H') s1 := by
    refine PySem.W.kla_callFunE hr.depth of rfl LZ.co LZ.gen rfl ⟨c', oc, vs, t, rfl, hoc, hdc, hvc⟩ ?_
    rw [LZ.bind]
    refine wpAny_pure (wpAny_newFunctionEnv (fun y hy => (LZ.own y hy).2) (fun y hy => absurd hy (by simp)) (fun h1 ns sb => ⟨J.nolimit.fresh _ sb, ?_⟩) LZ.kind)
    have kp : ∀ b o, s1.heap.get? b = some o → h1.get? b = some o := fun b o e => sb.extBut b o (Nat.ne_of_lt (Heap.lt_size e)) (Heap.get?_push_of_some _ e)
    obtain ⟨ob, e1, e2⟩ := c0
    obtain ⟨sl, here⟩ := J.base.any e1 n0 (by rw [ex]; simp)
    have cell : s1.heap.IsCell cb (some (.ref a)) := ⟨_, here, e2⟩
    have nb : G cb = none := J.base.free cb ob e1 n0 (by rw [ex]; simp)
    have CO : CapOk NB (lmScope l) cap [some (.ref a)] G s1.heap :=
      { len := rfl, own := LZ.own, inj := fun x y c e e' => ((CZ.at_ x c e).1).trans (CZ.at_ y c e').1.symm, has := fun y e => ⟨cb, CZ.has y e⟩
        cell := fun y c e => by
          rw [(CZ.at_ y c e).2]
          exact ⟨nb, _, cell⟩
        val := fun i y v c e1 e2 e3 => by
          rw [(CZ.at_ y c e3).2]
          match i, e1, e2 with
          | 0, _, e2 =>
            cases e2
            exact ⟨.ref a, rfl, cell⟩
          | i + 1, e1, _ => simp at e1 }
    have K1 : Inv (lmCx X.prog X.w X.K X.mg X.base NB qual (lmScope l) cap X.A X.stack s1 G (fun cls d H' => W cls d σ H') f c') [] [some (.ref a)] G { s1 with heap := h1, toks := s1.toks + ([] : List (Str × Value)).length } :=
      lm_start LZ.kind CO J.env0 hr.hd ns kp
    refine PySem.W.kla_codeExpr (wpAny_mono ((LZ.body X.base qual cap X.A X.stack s1 G (fun cls d H' => W cls d σ H') f c' a (hr.deeper _)).run [] _ _ G Q K1 ⟨rfl, hb, q⟩) (fun v s2 hq => ?_) fun e s2 hq => hq)
    obtain ⟨y, H2, J2, rv, q2⟩ := hq
    exact ⟨y, H2, J2.os, J2.bare, J2.base, J2.hok, rv, q2⟩
  refine wpAny_call (codeAny_mono call fun r s2 hq => ?_)
  cases r with
  | error e => exact passAt tk σ pins G s1 e s2 J hq
  | ok fl =>
    cases fl with
    | ret u => exact J.after hq
    | next => exact hq.elim
    | brk => exact hq.elim
    | cont => exact hq.elim
end
end K50
set_option Elab.async false
set_option linter.all false
set_option maxRecDepth 100000
set_option maxHeartbeats 4000000
namespace K50
open PySem PySem.Spec PyProof.Rows L2 LamX
section
variable {P : Program} {w : World} {K : PySem.W.Frag} {mg : Str → Option Value} {base : Heap} {C fI cc cda : Addr}
theorem lz0 (T : Txt K mg w) (Z : SizTxt P K mg C fI cc cda) : LamZ P w K mg C (lamX 0) "size" :=
  ⟨rfl, rfl, rfl, by decide +kernel, by decide +kernel, fun _ _ _ _ _ => rfl, fun _ _ _ _ _ _ _ _ _ _ _ hr => lb0 T Z hr⟩
theorem lz1 (T : Txt K mg w) (Z : SizTxt P K mg C fI cc cda) : LamZ P w K mg C (lamX 1) "size" :=
  ⟨rfl, rfl, rfl, by decide +kernel, by decide +kernel, fun _ _ _ _ _ => rfl, fun _ _ _ _ _ _ _ _ _ _ _ hr => lb1 T Z hr⟩
theorem lz2 (T : Txt K mg w) (Z : SizTxt P K mg C fI cc cda) : LamZ P w K mg C (lamX 2) "places" :=
  ⟨rfl, rfl, rfl, by decide +kernel, by decide +kernel, fun _ _ _ _ _ => rfl, fun _ _ _ _ _ _ _ _ _ _ _ hr => lb2 T Z hr⟩
theorem lz3 (T : Txt K mg w) (Z : SizTxt P K mg C fI cc cda) : LamZ P w K mg C (lamX 3) "word" :=
  ⟨rfl, rfl, rfl, by decide +kernel, by decide +kernel, fun _ _ _ _ _ => rfl, fun _ _ _ _ _ _ _ _ _ _ _ hr => lb3 T Z hr⟩
theorem sc_heard : FnScope ["_law_work", "e"] ["_law_work"] (defScope s_law_heard) := ⟨rfl, rfl, rfl, by decide +kernel, rfl, by decide +kernel, by decide +kernel⟩
/-- _law_heard's body, where the cell at cb holds the box -/
theorem heard_body (T : Txt K mg w) (Z : SizTxt P K mg C fI cc cda) {cdv : Value} {A : Around} {outer : List Env} {s : Shared} {H : Hp} {E : XK} {cb a : Addr} {qual : Str} (hr : Room 7 (A.deeper (envOfC "_law_heard" (defScope s_law_heard) s.heap.objs.size T.d_law_heard.f cdv)))
    (c0 : s.heap.IsCell cb (some (.ref a))) (n0 : H cb = none) :
    ∃ t, PSs (cxOf CX0 P w K mg base ["_law_work", "e"] "_law_heard" (defScope s_law_heard) T.d_law_heard.f cdv A outer s H E).nox (defBody s_law_heard) t ∧ ∀ (D : Ends) (σ : L2.St) (H : Hp) (l : Expr) (z : Str) (f c' : Addr) (pm ctv : Value) (cap : List (Str × Addr)),
      σ = [some (.ref f), none] → LamZ P w K mg C l z → CapZ l cap cb → H c' = some (CodeO c' qual) → H f = some (LamO f (lamObj qual (lmArgs l) (lmBody l) (lmScope l) cap pm c' ctv)) → BoxAt H a →
      (∀ H' t, SameB a H H' → BoxAt H' a → H' t = some (.tup [.str "size", .str z]) → D.rt (.ref t) H') → t D σ H := by
  refine ⟨_, pss_one (ps_try_as (i := 1) (tb := fun W => tRet (tTup (tCons (tC (.str "is")) (tCons (tWork C cb a 0 qual (LamZ P w K mg C) W) tNil)))) (Wout := fun _ _ _ _ => False) rfl rfl sc_heard.nd rfl rfl ⟨rfl, by decide, Or.inl Z.gC⟩ L2.takes0
    (fun W pn xe tk _ => pss_one (ps_ret (pe_tup (pa_cons pe_str (pa_cons (pe_work rfl c0 n0 tk hr rfl (.inl rfl)) pa_nil)))))
    (fun x oe cls d pn hz hf => pss_one (ps_ret (pe_tup (pa_cons pe_str (pa_cons (pe_xf (sizXf Z) Z.noN hz hf (pv 1)) pa_nil)))))), ?_⟩
  rintro D σ H l z f c' pm ctv cap rfl LZ CZ hc hf hb q
  refine ⟨l, z, f, c', pm, ctv, cap, LZ, CZ, rfl, hc, hf, hb, fun H' d sb b' nd => ?_⟩
  refine ⟨true, Z.te, fun _ x nx => ?_, fun h => Bool.noConfusion h⟩
  refine ⟨_, rfl, rfl, rfl, d, _, .str z, rfl, upd_same, by simp [List.lookup], by rw [sizeLine_eq]; exact (by decide : 2 ≤ 16777216), fun t nt => ?_⟩
  have x1 : Same0 H' (upd H' d (.xd [(("word" : Str), .str z)])) := fun b o e => by rw [upd_ne (ne_of_none e nd)]; exact e
  obtain ⟨b2, sb2, _⟩ := box_upd (u := .tup [.str "size", .str z]) (b'.same x1) nt
  exact q _ t ((sb.trans x1.b).trans sb2) b2 upd_same
end
end K50
set_option Elab.async false
set_option linter.all false
set_option maxRecDepth 100000
set_option maxHeartbeats 4000000
namespace K50
open PySem PySem.Spec PyProof.Rows L2 LamX
section
variable {X : Cx} {C fI cc cda cb a : Addr} {i : Nat} {x qual : Str} {p1 p2 p3 : Pos}
def tHeard (cb a : Addr) (i : Nat) (qual : Str) (LZ : Expr → Str → Prop) : TE := fun σ H Q => ∃ (l : Expr) (z : Str) (f c' : Addr) (pm ctv : Value) (cap : List (Str × Addr)), LZ l z ∧ CapZ l cap cb ∧ σ[i]? = some (some (.ref f)) ∧ H c' = some (CodeO c' qual) ∧
  H f = some (LamO f (lamObj qual (lmArgs l) (lmBody l) (lmScope l) cap pm c' ctv)) ∧ BoxAt H a ∧ ∀ H' t, SameB a H H' → BoxAt H' a → H' t = some (.tup [.str "size", .str z]) → Q (.ref t) H'
theorem pe_heard (T : Txt X.K X.mg X.w) (Z : SizTxt X.prog X.K X.mg C fI cc cda) (c0 : X.s_0.heap.IsCell cb (some (.ref a))) (n0 : X.H_0 cb = none) (nx : cb ∉ X.ex) (hr : Room 8 X.A) (hg : Gl X "_law_heard") (hN : X.N[i]? = some x) (hv : Vis X.env.scope x)
    (hd : (x == ("__debug__" : Str)) = false := by decide) (hcd : (x == ("__classdict__" : Str)) = false := by decide) :
    PE X (.Call (.Name "_law_heard" p1) [.Name x p2] [] p3) (tHeard cb a i qual (LamZ X.prog X.w X.K X.mg C)) := by
  refine ⟨fun pins s σ H Q I h => ?_⟩
  obtain ⟨l, z, f, c', pm, ctv, cap, LZ, CZ, hs, hc, hf, hb, q⟩ := h
  refine wpAny_Call_Name_kw (ld_glob I hg T.d_law_heard.g ?_)
  refine PySem.W.callWith_K (h₀ := X.base) I.ok.mod.kin T.d_law_heard.F.kp (thn ((pa_cons (pe_var (pos := p2) (i := i) hN hv hd hcd) pa_nil).run p3 pins s σ H (fun vs G => vs = [.ref f] ∧ G = H) I ⟨.ref f, hs, rfl, rfl⟩) fun us s1 hh => ?_) rfl rfl
  obtain ⟨vs, G, J, rv, rfl, rfl⟩ := hh
  refine ⟨J.kIn, ?_⟩
  cases rv with
  | cons ru rn =>
    cases rn
    obtain rfl := ru
    obtain ⟨ob, e1, e2⟩ := c0
    obtain ⟨sl, here⟩ := J.base.any e1 n0 nx
    have cell : s1.heap.IsCell cb (some (.ref a)) := ⟨_, here, e2⟩
    have nb : G cb = none := J.base.free cb ob e1 n0 nx
    obtain ⟨oc, od, kV, doc, pm', an, cdv, ct, osl, efd, lk, hcode⟩ := T.d_law_heard.F.ex
    rw [efd] at lk
    refine wpAny_call (codeAny_mono (run_ofS (CX := CX0) (N := ["_law_work", "e"]) (ps := ["_law_work"]) (us := [.ref f]) (vs := [.ref f]) (Q := Q) (E := fun _ _ _ => False) lk hcode sc_heard hr J.env0 (by
      have b := T.d_law_heard.b s1 [.ref f] J.kIn rfl
      rw [efd] at b
      exact b) (.cons rfl .nil) rfl fun hr' => ?_) fun r s2 hq => ?_)
    · obtain ⟨t, ht, rd⟩ := heard_body (base := X.base) (A := X.A) (outer := X.stack) (E := fun _ _ _ => False) (cdv := cdv) (qual := qual) T Z hr' cell nb
      exact ⟨t, ht.nox, rd _ _ G l z f c' pm ctv cap rfl LZ CZ hc hf hb q⟩
    · cases r with
      | error e => exact (show False from hq).elim
      | ok fl =>
        cases fl with
        | ret u => exact J.after hq
        | next => exact hq.elim
        | brk => exact hq.elim
        | cont => exact hq.elim
end
end K50
set_option Elab.async false
set_option linter.all false
set_option maxRecDepth 100000
set_option maxHeartbeats 4000000
namespace K50
open PySem PySem.Spec PyProof.Rows L2
abbrev NL : List Str := ["_law_script", "_law_box_here", "_law_size", "_law_told", "_law_places_here", "_law_word", "_law_power", "_law_product", "_law_value", "_law_due", "_law_tables_here", "_law_sense", "_law_one", "_law_some", "_law_turn", "_law_at", "_law_works", "_law_work"]
abbrev lawRest : List Stmt := (defBody s_law).drop 11
def tau1 (a : Addr) : Sl := [none, some (.obj a), none, none, none, none, none, none, none, none, none, none, none, none, none, none, none, none]
end K50
set_option Elab.async false
set_option linter.all false
set_option maxRecDepth 100000
set_option maxHeartbeats 4000000
namespace K50
open PySem PySem.Spec PyProof.Rows L2
def tau6 (a : Addr) (w : Str) : Sl := [none, some (.obj a), none, none, none, some (.str w), none, none, none, none, none, none, none, none, none, none, none, none]
theorem tau1_mem (a : Addr) : ∀ (i : Nat) (d : D), (tau1 a)[i]? = some (some d) → (i = 1 ∧ d = .obj a)
  | 0, d, h => nomatch (Option.some.inj h)
  | 1, d, h => ⟨rfl, (Option.some.inj (Option.some.inj h)).symm⟩
  | 2, d, h => nomatch (Option.some.inj h)
  | 3, d, h => nomatch (Option.some.inj h)
  | 4, d, h => nomatch (Option.some.inj h)
  | 5, d, h => nomatch (Option.some.inj h)
  | 6, d, h => nomatch (Option.some.inj h)
  | 7, d, h => nomatch (Option.some.inj h)
  | 8, d, h => nomatch (Option.some.inj h)
  | 9, d, h => nomatch (Option.some.inj h)
  | 10, d, h => nomatch (Option.some.inj h)
  | 11, d, h => nomatch (Option.some.inj h)
  | 12, d, h => nomatch (Option.some.inj h)
  | 13, d, h => nomatch (Option.some.inj h)
  | 14, d, h => nomatch (Option.some.inj h)
  | 15, d, h => nomatch (Option.some.inj h)
  | 16, d, h => nomatch (Option.some.inj h)
  | 17, d, h => nomatch (Option.some.inj h)
  | n + 18, d, h => nomatch h
theorem tau1_len (a : Addr) : (tau1 a).length = 18 := rfl
theorem tau2_mem (a : Addr) (s : Int) : ∀ (i : Nat) (d : D), (tau2 a s)[i]? = some (some d) → (i = 1 ∧ d = .obj a) ∨ (i = 2 ∧ d = .int s)
  | 0, d, h => nomatch (Option.some.inj h)
  | 1, d, h => .inl ⟨rfl, (Option.some.inj (Option.some.inj h)).symm⟩
  | 2, d, h => .inr (⟨rfl, (Option.some.inj (Option.some.inj h)).symm⟩)
  | 3, d, h => nomatch (Option.some.inj h)
  | 4, d, h => nomatch (Option.some.inj h)
  | 5, d, h => nomatch (Option.some.inj h)
  | 6, d, h => nomatch (Option.some.inj h)
  | 7, d, h => nomatch (Option.some.inj h)
  | 8, d, h => nomatch (Option.some.inj h)
  | 9, d, h => nomatch (Option.some.inj h)
  | 10, d, h => nomatch (Option.some.inj h)
  | 11, d, h => nomatch (Option.some.inj h)
  | 12, d, h => nomatch (Option.some.inj h)
  | 13, d, h => nomatch (Option.some.inj h)
  | 14, d, h => nomatch (Option.some.inj h)
  | 15, d, h => nomatch (Option.some.inj h)
  | 16, d, h => nomatch (Option.some.inj h)
  | 17, d, h => nomatch (Option.some.inj h)
  | n + 18, d, h => nomatch h
theorem tau2_len (a : Addr) (s : Int) : (tau2 a s).length = 18 := rfl
theorem tau5_mem (a : Addr) (s p : Int) (w : Str) : ∀ (i : Nat) (d : D), (tau5 a s p w)[i]? = some (some d) → (i = 1 ∧ d = .obj a) ∨ (i = 2 ∧ d = .int s) ∨ (i = 4 ∧ d = .int p) ∨ (i = 5 ∧ d = .str w)
  | 0, d, h => nomatch (Option.some.inj h)
  | 1, d, h => .inl ⟨rfl, (Option.some.inj (Option.some.inj h)).symm⟩
  | 2, d, h => .inr (.inl ⟨rfl, (Option.some.inj (Option.some.inj h)).symm⟩)
  | 3, d, h => nomatch (Option.some.inj h)
  | 4, d, h => .inr (.inr (.inl ⟨rfl, (Option.some.inj (Option.some.inj h)).symm⟩))
  | 5, d, h => .inr (.inr (.inr (⟨rfl, (Option.some.inj (Option.some.inj h)).symm⟩)))
  | 6, d, h => nomatch (Option.some.inj h)
  | 7, d, h => nomatch (Option.some.inj h)
  | 8, d, h => nomatch (Option.some.inj h)
  | 9, d, h => nomatch (Option.some.inj h)
  | 10, d, h => nomatch (Option.some.inj h)
  | 11, d, h => nomatch (Option.some.inj h)
  | 12, d, h => nomatch (Option.some.inj h)
  | 13, d, h => nomatch (Option.some.inj h)
  | 14, d, h => nomatch (Option.some.inj h)
  | 15, d, h => nomatch (Option.some.inj h)
  | 16, d, h => nomatch (Option.some.inj h)
  | 17, d, h => nomatch (Option.some.inj h)
  | n + 18, d, h => nomatch h
theorem tau5_len (a : Addr) (s p : Int) (w : Str) : (tau5 a s p w).length = 18 := rfl
theorem tau13_mem (a : Addr) (s p : Int) (w : Str) (ts : List D) : ∀ (i : Nat) (d : D), (tau13 a s p w ts)[i]? = some (some d) → (i = 1 ∧ d = .obj a) ∨ (i = 2 ∧ d = .int s) ∨ (i = 4 ∧ d = .int p) ∨ (i = 5 ∧ d = .str w) ∨ (i = 13 ∧ d = .tup ts)
  | 0, d, h => nomatch (Option.some.inj h)
  | 1, d, h => .inl ⟨rfl, (Option.some.inj (Option.some.inj h)).symm⟩
  | 2, d, h => .inr (.inl ⟨rfl, (Option.some.inj (Option.some.inj h)).symm⟩)
  | 3, d, h => nomatch (Option.some.inj h)
  | 4, d, h => .inr (.inr (.inl ⟨rfl, (Option.some.inj (Option.some.inj h)).symm⟩))
  | 5, d, h => .inr (.inr (.inr (.inl ⟨rfl, (Option.some.inj (Option.some.inj h)).symm⟩)))
  | 6, d, h => nomatch (Option.some.inj h)
  | 7, d, h => nomatch (Option.some.inj h)
  | 8, d, h => nomatch (Option.some.inj h)
  | 9, d, h => nomatch (Option.some.inj h)
  | 10, d, h => nomatch (Option.some.inj h)
  | 11, d, h => nomatch (Option.some.inj h)
  | 12, d, h => nomatch (Option.some.inj h)
  | 13, d, h => .inr (.inr (.inr (.inr (⟨rfl, (Option.some.inj (Option.some.inj h)).symm⟩))))
  | 14, d, h => nomatch (Option.some.inj h)
  | 15, d, h => nomatch (Option.some.inj h)
  | 16, d, h => nomatch (Option.some.inj h)
  | 17, d, h => nomatch (Option.some.inj h)
  | n + 18, d, h => nomatch h
theorem tau13_len (a : Addr) (s p : Int) (w : Str) (ts : List D) : (tau13 a s p w ts).length = 18 := rfl
theorem tau6_mem (a : Addr) (w : Str) : ∀ (i : Nat) (d : D), (tau6 a w)[i]? = some (some d) → (i = 1 ∧ d = .obj a) ∨ (i = 5 ∧ d = .str w)
  | 0, d, h => nomatch (Option.some.inj h)
  | 1, d, h => .inl ⟨rfl, (Option.some.inj (Option.some.inj h)).symm⟩
  | 2, d, h => nomatch (Option.some.inj h)
  | 3, d, h => nomatch (Option.some.inj h)
  | 4, d, h => nomatch (Option.some.inj h)
  | 5, d, h => .inr (⟨rfl, (Option.some.inj (Option.some.inj h)).symm⟩)
  | 6, d, h => nomatch (Option.some.inj h)
  | 7, d, h => nomatch (Option.some.inj h)
  | 8, d, h => nomatch (Option.some.inj h)
  | 9, d, h => nomatch (Option.some.inj h)
  | 10, d, h => nomatch (Option.some.inj h)
  | 11, d, h => nomatch (Option.some.inj h)
  | 12, d, h => nomatch (Option.some.inj h)
  | 13, d, h => nomatch (Option.some.inj h)
  | 14, d, h => nomatch (Option.some.inj h)
  | 15, d, h => nomatch (Option.some.inj h)
  | 16, d, h => nomatch (Option.some.inj h)
  | 17, d, h => nomatch (Option.some.inj h)
  | n + 18, d, h => nomatch h
theorem tau6_len (a : Addr) (w : Str) : (tau6 a w).length = 18 := rfl
section
variable {P : Program} {w : World} {K : PySem.W.Frag} {H H' H1 : Hp} {σ σ' : L2.St} {a l : Addr} {t : TS} {D : Ends}
theorem sr1 (hl : σ.length = 18) (h1 : σ[1]? = some (some (.ref a))) : SR K H [] σ (tau1 a) := ⟨hl, fun i d h => by
  obtain ⟨rfl, rfl⟩ := tau1_mem _ _ _ h
  exact ⟨_, h1, .obj a⟩⟩
theorem sr2 {s : Int} (hl : σ.length = 18) (h1 : σ[1]? = some (some (.ref a))) (h2 : σ[2]? = some (some (.int s))) : SR K H [] σ (tau2 a s) := ⟨hl, fun i d h => by
  rcases tau2_mem _ _ _ _ h with ⟨rfl, rfl⟩ | ⟨rfl, rfl⟩
  · exact ⟨_, h1, .obj a⟩
  · exact ⟨_, h2, .int s⟩⟩
theorem sr5 {s p : Int} {x : Str} (hl : σ.length = 18) (h1 : σ[1]? = some (some (.ref a))) (h2 : σ[2]? = some (some (.int s))) (h4 : σ[4]? = some (some (.int p))) (h5 : σ[5]? = some (some (.str x))) : SR K H [] σ (tau5 a s p x) := ⟨hl, fun i d h => by
  rcases tau5_mem _ _ _ _ _ _ h with ⟨rfl, rfl⟩ | ⟨rfl, rfl⟩ | ⟨rfl, rfl⟩ | ⟨rfl, rfl⟩
  · exact ⟨_, h1, .obj a⟩
  · exact ⟨_, h2, .int s⟩
  · exact ⟨_, h4, .int p⟩
  · exact ⟨_, h5, .str x⟩⟩
/-- what a slot holds -/
theorem sr_obj {τ : Sl} {i : Nat} (sr : SR K H [] σ τ) (h : τ[i]? = some (some (.obj a))) : σ[i]? = some (some (.ref a)) := by
  obtain ⟨v, e, x⟩ := sr.at_ _ _ h
  cases x
  exact e
theorem sr_int {τ : Sl} {i : Nat} {s : Int} (sr : SR K H [] σ τ) (h : τ[i]? = some (some (.int s))) : σ[i]? = some (some (.int s)) := by
  obtain ⟨v, e, x⟩ := sr.at_ _ _ h
  cases x
  exact e
theorem sr_str {τ : Sl} {i : Nat} {s : Str} (sr : SR K H [] σ τ) (h : τ[i]? = some (some (.str s))) : σ[i]? = some (some (.str s)) := by
  obtain ⟨v, e, x⟩ := sr.at_ _ _ h
  cases x
  exact e
theorem read0 {ns : List Int} (hs : SqL K H l (ns.map V.int)) (q : ∀ σ' H' a, SR K H' [] σ' (tau1 a) → BoxAt H' a → Same0 H H' → H a = none → t D σ' H') :
    tSeq (tLenS 18 (tAsg (tCall (spBox K) [] E0 (tCons (tVar 0) (tCons (tC (.int 0)) tNil))) (gName 1))) t D (L2.start NL [.ref l]) H := by
  refine ⟨.ref l, rfl, l, ns, rfl, hs, fun p H' sm hp hb hn => ?_⟩
  exact q _ H' p (sr1 hn rfl) hb sm hp
theorem read1 (hl : σ.length = 18) (h1 : σ[1]? = some (some (.ref a))) (hb : BoxAt H a) (q : ∀ σ' (s : Int) H', 2 ≤ s → s ≤ 8 → SR K H' [] σ' (tau2 a s) → BoxStep H a H' → t D σ' H') :
    tSeq (tLenS 18 (tAsg (tOp (rI0 fun i j => .int (i + j)) (tC (.int 2)) (tCall spTake [] E0 (tCons (tVar 1) (tCons (tC (.int 7)) tNil)))) (gName 2))) t D σ H := by
  refine ⟨.ref a, h1, a, 7, rfl, hb, by decide, by decide, fun k H' k0 k1 st => ⟨2, k, rfl, rfl, fun hn => ?_⟩⟩
  refine q _ (2 + k) H' (by omega) (by omega) (sr2 hn ?_ ?_) st
  · rw [List.getElem?_set_ne (by decide)]
    exact h1
  · exact List.getElem?_set_self (by omega)
end
end K50
set_option Elab.async false
set_option linter.all false
set_option maxRecDepth 100000
set_option maxHeartbeats 4000000
namespace K50
open PySem PySem.Spec PyProof.Rows L2
def rTupOf (K : PySem.W.Frag) : List V → Hp → VK → Prop := fun xs H Q => ∃ p ys, xs = [V.ref p] ∧ ((SqL K H p ys ∧ ∀ (l : Addr), H l = none → Q (V.ref l) (upd H l (HO.tup ys))) ∨ SqT K H p ys ∧ Q (V.ref p) H)
theorem sSeq_assoc (f g h : FS) : sSeq (sSeq f g) h = sSeq f (sSeq g h) := by
  funext τ S
  unfold sSeq
  cases f τ S with
  | none => rfl
  | some r =>
    obtain ⟨fl, S1⟩ := r
    cases fl <;> rfl
section
variable {P : Program} {w : World} {K : PySem.W.Frag} {H H' H1 : Hp} {σ σ' : L2.St} {a l : Addr} {t : TS} {E : Ends}
theorem AtL.mem {ρ : List Addr} : ∀ {vs : List V} {ds : List D} {v : V}, AtL K H ρ vs ds → v ∈ vs → ∃ d ∈ ds, At K H ρ v d
  | _, _, _, .nil, h => by cases h
  | _, _, _, .cons h1 h2, h => by
    rcases List.mem_cons.mp h with e | h
    · subst e
      exact ⟨_, List.mem_cons_self, h1⟩
    · obtain ⟨d, hd, x⟩ := AtL.mem h2 h
      exact ⟨d, List.mem_cons_of_mem _ hd, x⟩
theorem sr13 {s p : Int} {x : Str} {ts : List D} {v : V} (hl : σ.length = 18) (h1 : σ[1]? = some (some (.ref a))) (h2 : σ[2]? = some (some (.int s))) (h4 : σ[4]? = some (some (.int p))) (h5 : σ[5]? = some (some (.str x))) (h13 : σ[13]? = some (some v)) (av : At K H [] v (.tup ts)) : SR K H [] σ (tau13 a s p x ts) := ⟨hl, fun i d h => by
  rcases tau13_mem _ _ _ _ _ _ _ h with ⟨rfl, rfl⟩ | ⟨rfl, rfl⟩ | ⟨rfl, rfl⟩ | ⟨rfl, rfl⟩ | ⟨rfl, rfl⟩
  · exact ⟨_, h1, .obj a⟩
  · exact ⟨_, h2, .int s⟩
  · exact ⟨_, h4, .int p⟩
  · exact ⟨_, h5, .str x⟩
  · exact ⟨_, h13, av⟩⟩
theorem sr6 {x : Str} (hl : σ.length = 18) (h1 : σ[1]? = some (some (.ref a))) (h5 : σ[5]? = some (some (.str x))) : SR K H [] σ (tau6 a x) := ⟨hl, fun i d h => by
  rcases tau6_mem _ _ _ _ h with ⟨rfl, rfl⟩ | ⟨rfl, rfl⟩
  · exact ⟨_, h1, .obj a⟩
  · exact ⟨_, h5, .str x⟩⟩
theorem readA {s : Int} (h2 : 2 ≤ s) (h8 : s ≤ 8) (sr : SR K H [] σ (tau2 a s)) (q : ∀ σ' H', SR K H' [] σ' (tau2 a s) → Same0 H H' → t E σ' H') :
    tSeq (tLenS 18 (tSt P w K f_law2)) (tSeq (tLenS 18 (tSt P w K f_law3)) (tSeq (tLenS 18 (tSt P w K f_law4)) t)) E σ H := by
  refine seg2 (seg2 (t := t) ?_)
  rw [sSeq_assoc]
  have run : nxAt (f_segA (tau2 a s) []) [1, 2] = some [.obj a, .int s] := by
    have e : s = 2 ∨ s = 3 ∨ s = 4 ∨ s = 5 ∨ s = 6 ∨ s = 7 ∨ s = 8 := by omega
    rcases e with rfl | rfl | rfl | rfl | rfl | rfl | rfl
    · exact segA2 a
    · exact segA3 a
    · exact segA4 a
    · exact segA5 a
    · exact segA6 a
    · exact segA7 a
    · exact segA8 a
  refine seg_run (τ' := tau2 a s) run sr rfl rfl (fun i d h => ?_) fun σ' H' sm sr' => q σ' H' sr' sm
  rcases tau2_mem _ _ _ _ h with ⟨rfl, rfl⟩ | ⟨rfl, rfl⟩
  · exact ⟨0, rfl, rfl⟩
  · exact ⟨1, rfl, rfl⟩
theorem readB {s p : Int} {x : Str} (h2 : 2 ≤ s) (h8 : s ≤ 8) (p1 : 1 ≤ p) (p3 : p ≤ 3) (hx : x = isE ∨ x = isF) (sr : SR K H [] σ (tau5 a s p x)) (q : ∀ σ' H', SR K H' [] σ' (tau6 a x) → Same0 H H' → t E σ' H') :
    tSeq (tLenS 18 (tSt P w K f_law6)) (tSeq (tLenS 18 (tSt P w K f_law7)) (tSeq (tLenS 18 (tSt P w K f_law8)) (tSeq (tLenS 18 (tSt P w K f_law9)) t))) E σ H := by
  refine seg2 (seg2 (seg2 (t := t) ?_))
  rw [sSeq_assoc, sSeq_assoc]
  have run : nxAt (f_segB (tau5 a s p x) []) [1, 5] = some [.obj a, .str x] := by
    have e : s = 2 ∨ s = 3 ∨ s = 4 ∨ s = 5 ∨ s = 6 ∨ s = 7 ∨ s = 8 := by omega
    have e2 : p = 1 ∨ p = 2 ∨ p = 3 := by omega
    rcases hx with rfl | rfl
    · rcases e with rfl | rfl | rfl | rfl | rfl | rfl | rfl
      · rcases e2 with rfl | rfl | rfl
        · exact segB21E a
        · exact segB22E a
        · exact segB23E a
      · rcases e2 with rfl | rfl | rfl
        · exact segB31E a
        · exact segB32E a
        · exact segB33E a
      · rcases e2 with rfl | rfl | rfl
        · exact segB41E a
        · exact segB42E a
        · exact segB43E a
      · rcases e2 with rfl | rfl | rfl
        · exact segB51E a
        · exact segB52E a
        · exact segB53E a
      · rcases e2 with rfl | rfl | rfl
        · exact segB61E a
        · exact segB62E a
        · exact segB63E a
      · rcases e2 with rfl | rfl | rfl
        · exact segB71E a
        · exact segB72E a
        · exact segB73E a
      · rcases e2 with rfl | rfl | rfl
        · exact segB81E a
        · exact segB82E a
        · exact segB83E a
    · rcases e with rfl | rfl | rfl | rfl | rfl | rfl | rfl
      · rcases e2 with rfl | rfl | rfl
        · exact segB21F a
        · exact segB22F a
        · exact segB23F a
      · rcases e2 with rfl | rfl | rfl
        · exact segB31F a
        · exact segB32F a
        · exact segB33F a
      · rcases e2 with rfl | rfl | rfl
        · exact segB41F a
        · exact segB42F a
        · exact segB43F a
      · rcases e2 with rfl | rfl | rfl
        · exact segB51F a
        · exact segB52F a
        · exact segB53F a
      · rcases e2 with rfl | rfl | rfl
        · exact segB61F a
        · exact segB62F a
        · exact segB63F a
      · rcases e2 with rfl | rfl | rfl
        · exact segB71F a
        · exact segB72F a
        · exact segB73F a
      · rcases e2 with rfl | rfl | rfl
        · exact segB81F a
        · exact segB82F a
        · exact segB83F a
  refine seg_run (τ' := tau6 a x) run sr rfl rfl (fun i d h => ?_) fun σ' H' sm sr' => q σ' H' sr' sm
  rcases tau6_mem _ _ _ _ h with ⟨rfl, rfl⟩ | ⟨rfl, rfl⟩
  · exact ⟨0, rfl, rfl⟩
  · exact ⟨1, rfl, rfl⟩
theorem wd_exact : (Str.ofString "exact") = isE := by decide +kernel
theorem wd_finds : (Str.ofString "finds") = isF := by decide +kernel
theorem read5 {s : Int} (sr : SR K H [] σ (tau2 a s)) (hb : BoxAt H a) (q : ∀ σ' (p : Int) x H', 1 ≤ p → p ≤ 3 → (x = isE ∨ x = isF) → SR K H' [] σ' (tau5 a s p x) → BoxAt H' a → SameB a H H' → t E σ' H') :
    tSeq (tLenS 18 (tAsg (tTup (tCons (tOp (rI0 fun i j => V.int (i + j)) (tC (V.int 1)) (tCall spTake [] E0 (tCons (tVar 1) (tCons (tC (V.int 3)) tNil))))
      (tCons (tCall (spPick K) [] E0 (tCons (tVar 1) (tCons (tLst (tCons (tC (V.str (Str.ofString "exact"))) (tCons (tC (V.str (Str.ofString "finds"))) tNil))) tNil))) tNil)))
      (gTup K 2 (gCons (gName 4) (gCons (gName 5) gNil))))) t E σ H := by
  have h1 := sr_obj sr (i := 1) rfl
  have h2 := sr_int sr (i := 2) rfl
  have hl : σ.length = 18 := sr.len
  refine ⟨.ref a, h1, a, 3, rfl, hb, by decide, by decide, fun k H1 k0 k1 st => ⟨1, k, rfl, rfl, ?_⟩⟩
  refine ⟨.ref a, h1, by rw [sizeLine_eq]; decide, fun l hl1 => ?_⟩
  have b1 : BoxAt (upd H1 l (.lst [.str (Str.ofString "exact"), .str (Str.ofString "finds")])) a := by
    obtain ⟨d, s', c, e⟩ := st.box
    exact ⟨d, s', c, by rw [upd_ne (ne_of_none e hl1)]; exact e⟩
  have la : l ≠ a := fun e => by
    obtain ⟨d, s', c, z⟩ := st.box
    rw [← e, hl1] at z
    cases z
  refine ⟨a, l, [.str (Str.ofString "exact"), .str (Str.ofString "finds")], rfl, b1, la, .inl (.inl (.inl upd_same)), (by simp), (by decide), fun v H2 hv st2 => ?_⟩
  refine ⟨by rw [sizeLine_eq]; show 2 ≤ 16777216; decide, fun tp htp => ?_⟩
  have sB : SameB a H (upd H2 tp (.tup [.int (1 + k), v])) := fun b o h n => by
    have e1 := st.keep b o h n
    have e2 : (upd H1 l (.lst [.str (Str.ofString "exact"), .str (Str.ofString "finds")])) b = some o := by rw [upd_ne (ne_of_none e1 hl1)]; exact e1
    have e3 := st2.keep b o e2 n
    rw [upd_ne (ne_of_none e3 htp)]
    exact e3
  have bx : BoxAt (upd H2 tp (.tup [.int (1 + k), v])) a := by
    obtain ⟨d, s', c, e⟩ := st2.box
    exact ⟨d, s', c, by rw [upd_ne (ne_of_none e htp)]; exact e⟩
  have hw : ∃ x, v = .str x ∧ (x = isE ∨ x = isF) := by
    simp only [List.mem_cons, List.not_mem_nil, or_false] at hv
    rcases hv with e | e
    · exact ⟨_, e, .inl wd_exact⟩
    · exact ⟨_, e, .inr wd_finds⟩
  obtain ⟨x, rfl, hx⟩ := hw
  refine ⟨tp, _, rfl, .inl (.inl upd_same), rfl, _, _, rfl, _, _, rfl, rfl, fun hn => ?_⟩
  refine q _ (1 + k) x _ (by omega) (by omega) hx (sr5 hn ?_ ?_ ?_ ?_) bx sB
  · rw [List.getElem?_set_ne (by decide), List.getElem?_set_ne (by decide)]; exact h1
  · rw [List.getElem?_set_ne (by decide), List.getElem?_set_ne (by decide)]; exact h2
  · rw [List.getElem?_set_ne (by decide), List.getElem?_set_self (by omega)]
  · rw [List.getElem?_set_self (by rw [List.length_set]; omega)]
end
end K50
set_option Elab.async false
set_option linter.all false
set_option maxRecDepth 100000
set_option maxHeartbeats 4000000
namespace K50
open PySem PySem.Spec PyProof.Rows L2
section
variable {P : Program} {w : World} {K : PySem.W.Frag} {H H' H1 : Hp} {σ σ' : L2.St} {a l : Addr} {t : TS} {E : Ends}
theorem nrTbs (n : Nat) (p : Int) : ∀ ls : List (List Int), (ls.map (Tb p)).all (noRef (n + 3)) = true
  | [] => rfl
  | l :: ls => by rw [List.map_cons, List.all_cons, nr_Tb n, nrTbs n p ls]; rfl
/-- the tables, and both words' counts -/
theorem readC {s p : Int} {x : Str} {ls : List (List Int)} (run : nxAt (f_segC (tau5 a s p x) []) [1, 2, 4, 5] = some [.obj a, .int s, .int p, .str x]) (run2 : lstSl (f_segC (tau5 a s p x) []) 10 = some (ls.map (Tb p))) (sr : SR K H [] σ (tau5 a s p x)) (hb : BoxAt H a)
    (q : ∀ σ' H' L us, SR K H' [] σ' (tau5 a s p x) → Same0 H H' → σ'[10]? = some (some (.ref L)) → H' L = some (.lst us) → L ≠ a → AtL K H' [] us (ls.map (Tb p)) → t E σ' H') :
    tSeq (tLenS 18 (tSt P w K f_lawB0)) (tSeq (tLenS 18 (tSt P w K f_lawB1)) t) E σ H := by
  refine seg2 (t := t) ?_
  obtain ⟨τf, S, e, g⟩ := nx_of run
  have e' : sSeq f_lawB0 f_lawB1 (tau5 a s p x) [] = some (.nx τf, S) := e
  have g10 : ∃ k, τf[10]? = some (some (.ref k)) ∧ S[k]? = some (.lst (ls.map (Tb p))) := by
    rw [e] at run2
    unfold lstSl at run2
    simp only at run2
    split at run2
    · rename_i k hk
      split at run2
      · rename_i ds hds
        cases run2
        exact ⟨k, hk, hds⟩
      · cases run2
    · cases run2
  obtain ⟨k, hk, hS⟩ := g10
  refine ⟨_, [], [], .nx τf, S, RS.nil, sr, e', fun σ' H' ρ' xx rs sr' hn => ?_⟩
  obtain ⟨v, hv, av⟩ := sr'.at_ _ _ hk
  cases av with
  | ref hi =>
    rename_i L
    obtain ⟨us, e0, al⟩ := rs.lst hi hS
    have hL : L ≠ a := fun z => by
      obtain ⟨ρ1, e1, f1⟩ := xx.more
      have hm : L ∈ ρ' := List.mem_of_getElem? hi
      rw [e1, List.nil_append] at hm
      have hN := f1 L hm
      obtain ⟨d, s', c, z2⟩ := hb
      rw [z, z2] at hN
      cases hN
    have sl : ∀ (j : Nat) (i : Nat) (d : D), ([1, 2, 4, 5] : List Nat)[j]? = some i → ([.obj a, .int s, .int p, .str x] : List D)[j]? = some d → own d = true → ∃ v, σ'[i]? = some (some v) ∧ At K H' [] v d := fun j i d h1 h2 ho => by
      obtain ⟨d', h3, h4⟩ := g j i h1
      rw [h2] at h3
      cases h3
      obtain ⟨v, hv, av⟩ := sr'.at_ i d h4
      exact ⟨v, hv, av.own ho⟩
    have q1 : σ'[1]? = some (some (.ref a)) := by
      obtain ⟨v, h1, h2⟩ := sl 0 1 _ rfl rfl rfl
      cases h2
      exact h1
    have q2 : σ'[2]? = some (some (.int s)) := by
      obtain ⟨v, h1, h2⟩ := sl 1 2 _ rfl rfl rfl
      cases h2
      exact h1
    have q4 : σ'[4]? = some (some (.int p)) := by
      obtain ⟨v, h1, h2⟩ := sl 2 4 _ rfl rfl rfl
      cases h2
      exact h1
    have q5 : σ'[5]? = some (some (.str x)) := by
      obtain ⟨v, h1, h2⟩ := sl 3 5 _ rfl rfl rfl
      cases h2
      exact h1
    exact q σ' H' L us (sr5 hn q1 q2 q4 q5) xx.same0 hv e0 hL (AtL.noref 5 _ _ (nrTbs 2 p ls) al)
/-- four picks -/
theorem readP {s p : Int} {x : Str} {ls : List (List Int)} {L : Addr} {us : List V} (sr : SR K H [] σ (tau5 a s p x)) (hb : BoxAt H a) (h10 : σ[10]? = some (some (.ref L))) (hL : H L = some (.lst us)) (hLa : L ≠ a) (al : AtL K H [] us (ls.map (Tb p))) (hne : ls ≠ []) (hz : ls.length ≤ 4000)
    (q : ∀ σ' H' la lb lc ld, la ∈ ls → lb ∈ ls → lc ∈ ls → ld ∈ ls → SR K H' [] σ' (tau13 a s p x [Tb p la, Tb p lb, Tb p lc, Tb p ld]) → BoxAt H' a → SameB a H H' → t E σ' H') :
    tSeq (tLenS 18 (tAsg (tCB (rTupOf K) (tCons (tLc (iRng1 (tCons (tC (.int 4)) tNil)) (gName 14) tYes (tCall (spPick K) [] E0 (tCons (tVar 1) (tCons (tVar 10) tNil))) [14]) tNil)) (gName 13))) t E σ H := by
  have h1 := sr_obj sr (i := 1) rfl
  have h2 := sr_int sr (i := 2) rfl
  have h4 := sr_int sr (i := 4) rfl
  have h5 := sr_str sr (i := 5) rfl
  have hl : σ.length = 18 := sr.len
  have hul : us.length = ls.length := by rw [al.length, List.length_map]
  have wg : ∀ (v : Option V) (j : Nat), j ≠ 14 → ((wipe σ [14]).set 14 v)[j]? = σ[j]? := fun v j hj => by
    rw [List.getElem?_set_ne (Ne.symm hj), wipe_get, if_neg (by simpa using hj)]
  refine ⟨4, rfl, by decide, by decide, fun D0 hD0 => ?_⟩
  have nDa : a ≠ D0 := fun e => by
    obtain ⟨d, s', c, z⟩ := hb
    rw [e, hD0] at z
    cases z
  have sD : SameB a H (upd H D0 (.lst [])) := fun b o h _ => by rw [upd_ne (ne_of_none h hD0)]; exact h
  refine ⟨fun i m H2 => i + m = 4 ∧ BoxAt H2 a ∧ SameB a H H2 ∧ ∃ vs, H2 D0 = some (.lst vs) ∧ vs.length = i ∧ ∀ v ∈ vs, ∃ l ∈ ls, At K H2 [] v (Tb p l), ⟨4, rfl, ?_, sD, [], upd_same, rfl, fun v hv => by cases hv⟩, fun i m H2 hW => ?_⟩
  · obtain ⟨d, s', c, z⟩ := hb
    exact ⟨d, s', c, by rw [upd_ne nDa]; exact z⟩
  obtain ⟨em, b2, sm, vs, e0, hvl, hvs⟩ := hW
  by_cases hi : i < 4
  · refine .inr ⟨hi, fun H' => (i + 1) + (m - 1) = 4 ∧ BoxAt H' a ∧ SameB a H H' ∧ ∃ vs, H' D0 = some (.lst vs) ∧ vs.length = i + 1 ∧ ∀ v ∈ vs, ∃ l ∈ ls, At K H' [] v (Tb p l), fun H' h => ⟨m - 1, by omega, h⟩, fun y H' hy => ?_⟩
    obtain ⟨rfl, rfl⟩ := hy
    refine ⟨wipe_set (by simp), ?_⟩
    unfold tYes
    dsimp only
    rw [if_pos rfl]
    have hL2 : H' L = some (.lst us) := sm _ _ hL hLa
    refine ⟨.ref a, (wg _ 1 (by decide)).trans h1, .ref L, (wg _ 10 (by decide)).trans h10, a, L, us, rfl, b2, hLa, .inl (.inl (.inl hL2)), ?_, by omega, fun v H3 hv st => ?_⟩
    · intro z
      rw [z] at hul
      exact hne (List.length_eq_zero_iff.mp hul.symm)
    have sm3 : SameB a H H3 := sm.trans st.keep
    have e3 : H3 D0 = some (.lst vs) := st.keep _ _ e0 (Ne.symm nDa)
    refine ⟨vs, e3, by rw [hvl, sizeLine_eq]; omega, by omega, ?_, fun b o h n => ?_, _, upd_same, by rw [List.length_append, hvl]; rfl, fun u hu => ?_⟩
    · obtain ⟨d, s', c, z⟩ := st.box
      exact ⟨d, s', c, by rw [upd_ne nDa]; exact z⟩
    · have nb : b ≠ D0 := ne_of_none h hD0
      rw [upd_ne nb]
      exact sm3 b o h n
    · have kpu : Kp H3 (upd H3 D0 (.lst (vs ++ [v]))) [] [] := by
        have nl : ∀ c o, H3 c = some o → (∀ ys, o ≠ .lst ys) → c ≠ D0 := fun c o h ho z => by
          rw [z, e3] at h
          exact ho _ (Option.some.inj h).symm
        refine ⟨fun c xs h => ?_, fun i c h => by simp at h, fun c o xs h => by rw [upd_ne (nl _ _ h fun _ z => nomatch z)]; exact h⟩
        rcases h with h | ⟨o, h⟩
        · exact .inl (by rw [upd_ne (nl _ _ h fun _ z => nomatch z)]; exact h)
        · exact .inr ⟨o, by rw [upd_ne (nl _ _ h fun _ z => nomatch z)]; exact h⟩
      rcases List.mem_append.mp hu with hu | hu
      · obtain ⟨l, hl, au⟩ := hvs u hu
        exact ⟨l, hl, At.kp kpu _ _ (At.kp (SameB.kp (a := a) st.keep b2) _ _ au)⟩
      · have eu : u = v := by simpa using hu
        subst eu
        obtain ⟨d, hd, au⟩ := AtL.mem al hv
        obtain ⟨l, hl, rfl⟩ := List.mem_map.mp hd
        exact ⟨l, hl, At.kp kpu _ _ (At.kp (SameB.kp sm3 hb) _ _ au)⟩
  · have ei : i = 4 := by omega
    subst ei
    refine .inl ⟨Nat.le_refl _, D0, vs, rfl, .inl ⟨.inl (.inl e0), fun tl htl => fun hn => ?_⟩⟩
    have s2 : Same0 H2 (upd H2 tl (.tup vs)) := fun b o h => by rw [upd_ne (ne_of_none h htl)]; exact h
    match vs, hvl, hvs with
    | [v0, v1, v2, v3], _, hvs =>
      obtain ⟨la, ha, x0⟩ := hvs v0 (by simp)
      obtain ⟨lb, hb', x1⟩ := hvs v1 (by simp)
      obtain ⟨lc, hc, x2⟩ := hvs v2 (by simp)
      obtain ⟨ld, hd, x3⟩ := hvs v3 (by simp)
      have kp := s2.kp
      refine q _ _ la lb lc ld ha hb' hc hd (sr13 (v := .ref tl) hn ?_ ?_ ?_ ?_ ?_ (.tup (.of upd_same) (.cons (At.kp kp _ _ x0) (.cons (At.kp kp _ _ x1) (.cons (At.kp kp _ _ x2) (.cons (At.kp kp _ _ x3) .nil)))))) (b2.same s2) (sm.trans s2.b)
      · rw [List.getElem?_set_ne (by decide)]; exact h1
      · rw [List.getElem?_set_ne (by decide)]; exact h2
      · rw [List.getElem?_set_ne (by decide)]; exact h4
      · rw [List.getElem?_set_ne (by decide)]; exact h5
      · rw [List.getElem?_set_self (by omega)]
end
end K50
set_option Elab.async false
set_option linter.all false
set_option maxRecDepth 100000
set_option maxHeartbeats 4000000
namespace K50
open PySem PySem.Spec PyProof.Rows L2
/-- what is asked of a size and a number of places -/
structure CaseOk (s p : Int) (x : Str) : Prop where
  c : ∀ a, nxAt (f_segC (tau5 a s p x) []) [1, 2, 4, 5] = some [.obj a, .int s, .int p, .str x]
  l : ∀ a, lstSl (f_segC (tau5 a s p x) []) 10 = some ((TI s p).map (Tb p))
  b : ∀ a la lb lc ld, la ∈ TI s p → lb ∈ TI s p → lc ∈ TI s p → ld ∈ TI s p → nxAt (f_lawB3 (tau13 a s p x [Tb p la, Tb p lb, Tb p lc, Tb p ld]) []) [1, 5] = some [.obj a, .str x]
  n : (TI s p).isEmpty = false
  z : Nat.ble (TI s p).length 4000 = true
theorem case21E : CaseOk 2 1 isE := ⟨segC21E, segL21E, fun a la lb lc ld ha hb hc hd => b3all21E a ha hb hc hd, by decide +kernel, by decide +kernel⟩
theorem case21F : CaseOk 2 1 isF := ⟨segC21F, segL21F, fun a la lb lc ld ha hb hc hd => b3all21F a ha hb hc hd, by decide +kernel, by decide +kernel⟩
theorem case31E : CaseOk 3 1 isE := ⟨segC31E, segL31E, fun a la lb lc ld ha hb hc hd => b3all31E a ha hb hc hd, by decide +kernel, by decide +kernel⟩
theorem case31F : CaseOk 3 1 isF := ⟨segC31F, segL31F, fun a la lb lc ld ha hb hc hd => b3all31F a ha hb hc hd, by decide +kernel, by decide +kernel⟩
theorem case22E : CaseOk 2 2 isE := ⟨segC22E, segL22E, fun a la lb lc ld ha hb hc hd => b3all22E a ha hb hc hd, by decide +kernel, by decide +kernel⟩
theorem case22F : CaseOk 2 2 isF := ⟨segC22F, segL22F, fun a la lb lc ld ha hb hc hd => b3all22F a ha hb hc hd, by decide +kernel, by decide +kernel⟩
theorem caseOk {x : Str} (hx : x = isE ∨ x = isF) : ∀ i : Nat, i < 3 → CaseOk (p4 2 3 2 2 i) (p4 1 1 2 2 i) x := by
  rcases hx with rfl | rfl
  · intro i hi
    match i, hi with
    | 0, _ => exact case21E
    | 1, _ => exact case31E
    | 2, _ => exact case22E
  · intro i hi
    match i, hi with
    | 0, _ => exact case21F
    | 1, _ => exact case31F
    | 2, _ => exact case22F
section
variable {P : Program} {w : World} {K : PySem.W.Frag} {H H' H1 : Hp} {σ σ' : L2.St} {a l : Addr} {t : TS} {E : Ends}
abbrev tBody (P : Program) (w : World) (K : PySem.W.Frag) : TS := tSeq (tLenS 18 (tSt P w K f_lawB0)) (tSeq (tLenS 18 (tSt P w K f_lawB1)) (tSeq (tLenS 18 (tAsg (tCB (rTupOf K) (tCons (tLc (iRng1 (tCons (tC (.int 4)) tNil)) (gName 14) tYes (tCall (spPick K) [] E0 (tCons (tVar 1) (tCons (tVar 10) tNil))) [14]) tNil)) (gName 13))) (tLenS 18 (tSt P w K f_lawB3))))
theorem readBody {s p : Int} {x : Str} (c : CaseOk s p x) (sr : SR K H [] σ (tau5 a s p x)) (hb : BoxAt H a) (q : ∀ σ' H', SR K H' [] σ' (tau6 a x) → BoxAt H' a → SameB a H H' → E.nx σ' H') : tBody P w K E σ H := by
  refine readC (c.c a) (c.l a) sr hb fun σ1 H1 L us sr1 sm1 h10 hL hLa al => ?_
  refine readP sr1 (hb.same sm1) h10 hL hLa al (fun z => by have := c.n; rw [z] at this; cases this) (Nat.le_of_ble_eq_true c.z) fun σ2 H2 la lb lc ld ha hb' hc hd sr2 b2 sm2 => ?_
  refine seg_run (τ' := tau6 a x) (c.b a la lb lc ld ha hb' hc hd) sr2 rfl rfl (fun i d h => ?_) fun σ3 H3 sm3 sr3 => q σ3 H3 sr3 (b2.same sm3) ((sm1.b.trans sm2).trans sm3.b)
  rcases tau6_mem _ _ _ _ h with ⟨rfl, rfl⟩ | ⟨rfl, rfl⟩
  · exact ⟨0, rfl, rfl⟩
  · exact ⟨1, rfl, rfl⟩
theorem two_le {x y : V} : ([x, y] : List V).length ≤ sizeLine := by rw [sizeLine_eq]; show 2 ≤ 16777216; decide
theorem three_le {x y z : V} : ([x, y, z] : List V).length ≤ sizeLine := by rw [sizeLine_eq]; show 3 ≤ 16777216; decide
theorem same_new {p : Addr} {o : HO} (h : H p = none) : Same0 H (upd H p o) := fun b u e => by rw [upd_ne (ne_of_none e h)]; exact e
theorem readLoop {x : Str} (hx : x = isE ∨ x = isF) (sr : SR K H [] σ (tau6 a x)) (hb : BoxAt H a) (q : ∀ σ' H', SR K H' [] σ' (tau1 a) → BoxAt H' a → SameB a H H' → t E σ' H') :
    tSeq (tLenS 18 (tFor (iList K (tLst (tCons (tTup (tCons (tC (V.int 2)) (tCons (tC (V.int 1)) tNil))) (tCons (tTup (tCons (tC (V.int 3)) (tCons (tC (V.int 1)) tNil))) (tCons (tTup (tCons (tC (V.int 2)) (tCons (tC (V.int 2)) tNil))) tNil)))))
      (gTup K 2 (gCons (gName 2) (gCons (gName 4) gNil))) (tBody P w K))) t E σ H := by
  refine ⟨two_le, fun t0 n0 => ⟨two_le, fun t1 n1 => ⟨two_le, fun t2 n2 => ⟨three_le, fun l0 nl => ?_⟩⟩⟩⟩
  have s0 := same_new (o := .tup [V.int 2, V.int 1]) n0
  have s1 := same_new (o := .tup [V.int 3, V.int 1]) n1
  have s2 := same_new (o := .tup [V.int 2, V.int 2]) n2
  have sl := same_new (o := .lst [V.ref t0, .ref t1, .ref t2]) nl
  generalize hH0 : upd H t0 (.tup [V.int 2, V.int 1]) = H0 at *
  generalize hH1 : upd H0 t1 (.tup [V.int 3, V.int 1]) = H1 at *
  generalize hH2 : upd H1 t2 (.tup [V.int 2, V.int 2]) = H2 at *
  generalize hH3 : upd H2 l0 (.lst [V.ref t0, .ref t1, .ref t2]) = H3 at *
  have e0 : H3 t0 = some (.tup [V.int 2, V.int 1]) := sl _ _ (s2 _ _ (s1 _ _ (by rw [← hH0]; exact upd_same)))
  have e1 : H3 t1 = some (.tup [V.int 3, V.int 1]) := sl _ _ (s2 _ _ (by rw [← hH1]; exact upd_same))
  have e2 : H3 t2 = some (.tup [V.int 2, V.int 2]) := sl _ _ (by rw [← hH2]; exact upd_same)
  have el : H3 l0 = some (.lst [V.ref t0, .ref t1, .ref t2]) := by rw [← hH3]; exact upd_same
  have sm : Same0 H H3 := ((s0.trans s1).trans s2).trans sl
  have hla : l0 ≠ a := fun z => by
    obtain ⟨d, s', c, zz⟩ := hb
    have := s2 _ _ (s1 _ _ (s0 _ _ zz))
    rw [← z, nl] at this
    cases this
  have h1 := sr_obj sr (i := 1) rfl
  have h5 := sr_str sr (i := 5) rfl
  have hl : σ.length = 18 := sr.len
  refine ⟨l0, rfl, ⟨_, .inl (.inl el)⟩, fun i m σ2 H' => i + m = 3 ∧ SR K H' [] σ2 (tau6 a x) ∧ BoxAt H' a ∧ SameB a H3 H', ⟨3, rfl, sr6 hl h1 h5, hb.same sm, fun b o h _ => h⟩, fun i m σ2 H' hW => ?_⟩
  obtain ⟨em, sr2, b2, sm2⟩ := hW
  have el' : H' l0 = some (.lst [V.ref t0, .ref t1, .ref t2]) := sm2 _ _ el hla
  have k1 := sr_obj sr2 (i := 1) rfl
  have k5 := sr_str sr2 (i := 5) rfl
  have kl : σ2.length = 18 := sr2.len
  by_cases hi : i < 3
  · have tt : ∀ j : Nat, j < 3 → ∃ tj, ([V.ref t0, .ref t1, .ref t2] : List V)[j]? = some (.ref tj) ∧ H' tj = some (.tup [.int (p4 2 3 2 2 j), .int (p4 1 1 2 2 j)]) := by
      have nt : ∀ {c : Addr} {xs : List V}, H3 c = some (.tup xs) → H' c = some (.tup xs) := fun {c xs} h => sm2 _ _ h fun z => by
        obtain ⟨d, s', c', zz⟩ := hb.same sm
        rw [z, zz] at h
        cases h
      intro j hj
      match j, hj with
      | 0, _ => exact ⟨t0, rfl, nt e0⟩
      | 1, _ => exact ⟨t1, rfl, nt e1⟩
      | 2, _ => exact ⟨t2, rfl, nt e2⟩
    obtain ⟨tj, hj, ej⟩ := tt i hi
    refine .inr ⟨⟨_, _, .inl (.inl el'), hj⟩, fun σ3 H4 => (i + 1) + (m - 1) = 3 ∧ SR K H4 [] σ3 (tau6 a x) ∧ BoxAt H4 a ∧ SameB a H3 H4, fun σ3 H4 h => ⟨m - 1, by omega, h⟩, fun y H4 hy => ?_⟩
    obtain ⟨rfl, hy⟩ := hy
    have ey := hy _ (.inl (.inl el'))
    rw [hj] at ey
    cases ey
    refine ⟨tj, _, rfl, .inl (.inl ej), rfl, _, _, rfl, _, _, rfl, rfl, ?_⟩
    refine readBody (caseOk hx i hi) (sr5 (by simp [kl]) ?_ ?_ ?_ ?_) b2 fun σ3 H5 sr3 b3 sm3 => ⟨by omega, sr3, b3, sm2.trans sm3⟩
    · rw [List.getElem?_set_ne (by decide), List.getElem?_set_ne (by decide)]; exact k1
    · rw [List.getElem?_set_ne (by decide), List.getElem?_set_self (by omega)]
    · rw [List.getElem?_set_self (by rw [List.length_set]; omega)]
    · rw [List.getElem?_set_ne (by decide), List.getElem?_set_ne (by decide)]; exact k5
  · exact .inl ⟨⟨_, .inl (.inl el'), by show 3 ≤ i; omega⟩, fun hn => q σ2 H' (sr1 hn k1) b2 (sm.b.trans sm2)⟩
end
end K50
set_option Elab.async false
set_option linter.all false
set_option maxRecDepth 100000
set_option maxHeartbeats 4000000
namespace K50
open PySem PySem.Spec PyProof.Rows L2
section
variable {P : Program} {w : World} {K : PySem.W.Frag} {mg : Str → Option Value} {base : Heap}
theorem law_head (T : Txt K mg w) {cdv : Value} {A : Around} {outer : List Env} {s : Shared} {H0 : Hp} {E : XK} (hr : Room 40 (A.deeper (envOfC "law" (defScope s_law) s.heap.objs.size T.d_law.f cdv))) {trest : TS}
    (hrest : PSs (cxOf CX0 P w K mg base NL "law" (defScope s_law) T.d_law.f cdv A outer s H0 E).nox lawRest trest) :
    ∃ t, PSs (cxOf CX0 P w K mg base NL "law" (defScope s_law) T.d_law.f cdv A outer s H0 E).nox (defBody s_law) t ∧ ∀ (D : Ends) (H : Hp) (l : Addr) (ns : List Int), SqL K H l (ns.map V.int) →
      (∀ σ' H' a, SR K H' [] σ' (tau1 a) → BoxAt H' a → Same0 H H' → trest D σ' H') → t D (L2.start NL [.ref l]) H := by
  refine ⟨_, pss_cons (ps_len (ps_set (i := 1) sc_law.nd rfl (.inr rfl) (pe_call (ok_box T) (hr.mono (by decide)) (by rfl) T.d_law_box.g T.d_law_box.F.kp T.d_law_box.b .nil pass0 (pa_cons (pv 0) (pa_cons pe_int pa_nil)))))
    (pss_cons (ps_len (ps_set (i := 2) sc_law.nd rfl (.inr rfl) (pe_op op_add pe_int (pe_call (ok_take T) (hr.mono (by decide)) (by rfl) T.d_law_take.g T.d_law_take.F.kp T.d_law_take.b .nil pass0 (pa_cons (pv 1) (pa_cons pe_int pa_nil))))))
    (pss_cons (ps_len (cs_law2 T hr)) (pss_cons (ps_len (cs_law3 T hr)) (pss_cons (ps_len (cs_law4 T hr))
    (pss_cons (ps_len (ps_asg (pe_tup (pa_cons (pe_op op_add pe_int (pe_call (ok_take T) (hr.mono (by decide)) (by rfl) T.d_law_take.g T.d_law_take.F.kp T.d_law_take.b .nil pass0 (pa_cons (pv 1) (pa_cons pe_int pa_nil))))
        (pa_cons (pe_call (ok_pick T) (hr.mono (by decide)) (by rfl) T.d_law_pick.g T.d_law_pick.F.kp T.d_law_pick.b .nil pass0 (pa_cons (pv 1) (pa_cons (pe_lst (pa_cons pe_str (pa_cons pe_str pa_nil))) pa_nil))) pa_nil)))
        (pg_tup rfl (pgs_cons (pg_name (i := 4) sc_law.nd rfl (by first | exact .inl rfl | exact .inr rfl)) (pgs_cons (pg_name (i := 5) sc_law.nd rfl (by first | exact .inl rfl | exact .inr rfl)) pgs_nil)))))
    (pss_cons (ps_len (cs_law6 T hr)) (pss_cons (ps_len (cs_law7 T hr)) (pss_cons (ps_len (cs_law8 T hr)) (pss_cons (ps_len (cs_law9 T hr))
    (pss_cons (ps_len (ps_for PassesOwn.never rfl (pi_list (pe_lst (pa_cons (pe_tup (pa_cons pe_int (pa_cons pe_int pa_nil))) (pa_cons (pe_tup (pa_cons pe_int (pa_cons pe_int pa_nil))) (pa_cons (pe_tup (pa_cons pe_int (pa_cons pe_int pa_nil))) pa_nil)))))
        (pg_tup rfl (pgs_cons (pg_name (i := 2) sc_law.nd rfl (by first | exact .inl rfl | exact .inr rfl)) (pgs_cons (pg_name (i := 4) sc_law.nd rfl (by first | exact .inl rfl | exact .inr rfl)) pgs_nil)))
        (pss_cons (ps_len (cs_lawB0 T hr)) (pss_cons (ps_len (cs_lawB1 T hr))
          (pss_cons (ps_len (ps_set (i := 13) sc_law.nd rfl (.inl rfl) (pe_callTy call_tuple_of (by rfl) T.n_tuple (by decide +kernel) (pa_cons
            (pe_lc (own := [("_law_turn", 14)]) rfl sc_law.nd (pi_range1 (by rfl) T.n_range (pa_cons pe_int pa_nil)) (blkOk_by (own := [("_law_turn", 14)]) (by kernel_rfl)) (fun _ _ _ _ _ => pg_name (i := 14) sc_law.nd rfl (by first | exact Or.inl rfl | exact Or.inr rfl)) (fun _ _ _ _ _ => pts_nil)
              (fun _ _ _ _ _ => pe_call (ok_pick T) (hr.mono (by decide)) (by rfl) T.d_law_pick.g T.d_law_pick.F.kp T.d_law_pick.b .nil pass0 (pa_cons (pv 1) (pa_cons (pv 10) pa_nil)))) pa_nil))))
          (pss_one (ps_len (cs_lawB3 T hr))))))))
      hrest)))))))))), ?_⟩
  intro D H l ns hs q
  refine read0 hs ?_
  intro σ0 Ha a q0 b0 sm0 hna
  refine read1 (K := K) (a := a) q0.len (sr_obj q0 (i := 1) rfl) b0 ?_
  intro σ1 s1 H1 s2 s8 q1 st1
  refine readA s2 s8 q1 ?_
  intro σ2 H2 q2 sm2
  refine read5 q2 (st1.box.same sm2) ?_
  intro σ3 p x H3 p1 p3 hx q3 b3 sm3
  refine readB s2 s8 p1 p3 hx q3 ?_
  intro σ4 H4 q4 sm4
  refine readLoop hx q4 (b3.same sm4) ?_
  intro σ5 H5 q5 b5 sm5
  refine q σ5 H5 a q5 b5 fun b o h => ?_
  have nb : b ≠ a := fun z => by
    rw [z, hna] at h
    cases h
  have e1 := st1.keep _ _ (sm0 _ _ h) nb
  have e3 := sm3 _ _ (sm2 _ _ e1) nb
  exact sm5 _ _ (sm4 _ _ e3) nb
end
end K50
set_option Elab.async false
set_option linter.all false
set_option maxRecDepth 100000
set_option maxHeartbeats 4000000
namespace K50
open PySem PySem.Spec PyProof.Rows L2 LamX
def cmpL : Stmt → Expr
  | .Return (some (.Compare l _ _ _)) _ => l
  | _ => .Constant .none 0 ⟨0, 0, 0, 0⟩
abbrev lawC : Expr := cmpL (lawS 15)
section
variable {P : Program} {w : World} {K : PySem.W.Frag} {mg : Str → Option Value} {base : Heap} {C fI cc cda : Addr}
theorem pe_lawC (T : Txt K mg w) (Z : SizTxt P K mg C fI cc cda) {cdv : Value} {A : Around} {outer : List Env} {s : Shared} {H0 : Hp} {E : XK} {cb : Addr} {qual : Str} (hr : Room 40 (A.deeper (envOfC "law" (defScope s_law) s.heap.objs.size T.d_law.f cdv)))
    (hcb : (envOfC "law" (defScope s_law) s.heap.objs.size T.d_law.f cdv).cells.lookup ("_law_box_here" : Str) = some cb) :
    PE (cxOf CX0 P w K mg base NL "law" (defScope s_law) T.d_law.f cdv A outer s H0 E).nox lawC (fun σ H Q => ∃ a, σ[1]? = some (some (.ref a)) ∧
      tLc (iList K (tVar 16)) (gTup K 2 (gCons (gName 17) (gCons (gName 3) gNil))) (tTest (tOp (rD P w K gNe) (tHeard cb a 17 qual (LamZ P w K mg C)) (tVar 3))) (tVar 17) [17, 3] σ H Q) := by
  refine ⟨fun pins z σ H Q I h => ?_⟩
  obtain ⟨a, ha, h⟩ := h
  refine lc_told (q2 := ⟨0, 0, 0, 0⟩) (mine := [("_law_work", 17), ("_law_told", 3)]) rfl sc_law.nd I (pi_list (pv 16)) (blkOk_by (own := [("_law_work", 17), ("_law_told", 3)]) (by kernel_rfl)) (fun z3 B c l ex J fp => ?_) (by intro _; rfl) h
  obtain ⟨m, _, hl⟩ := J.loc
  obtain ⟨u, ru, lk⟩ := hl 1 "_law_box_here" (.ref a) rfl ha (.inr (.inl rfl))
  obtain rfl := ru
  have c0 : z3.heap.IsCell cb (some (.ref a)) := by
    rcases lk with ⟨k, _⟩ | ⟨_, c2, e, q⟩
    · cases k
    · have e' : (envOfC "law" (defScope s_law) s.heap.objs.size T.d_law.f cdv).cells.lookup ("_law_box_here" : Str) = some c2 := e
      rw [hcb] at e'
      cases e'
      exact q
  have n0 : B cb = none := J.freeC _ cb hcb
  have nx : cb ∉ ex := fun hm => (fp cb hm).2.2.2.2.1 _ cb hcb rfl
  refine ⟨pg_tup rfl (pgs_cons (pg_name (i := 17) sc_law.nd rfl (by first | exact .inl rfl | exact .inr rfl)) (pgs_cons (pg_name (i := 3) sc_law.nd rfl (by first | exact .inl rfl | exact .inr rfl)) pgs_nil)),
    pts_one (pt_cmpR (or_ne hr.units) (pe_heard T Z c0 n0 nx (hr.mono (by decide)) (by rfl) rfl (.inl rfl)) (pv 3) (nomark _)), pv 17⟩
end
end K50
set_option Elab.async false
set_option linter.all false
set_option maxRecDepth 100000
set_option maxHeartbeats 4000000
namespace K50
open PySem PySem.Spec PyProof.Rows L2 LamX
/-- what a work of the list is -/
structure WorkAt (P : Program) (w : World) (K : PySem.W.Frag) (mg : Str → Option Value) (C cb : Addr) (qual : Str) (H : Hp) (v : V) : Prop where
  ex : ∃ (t f t2 : Addr) (l : Expr) (z : Str) (c' : Addr) (pm ctv : Value) (cap : List (Str × Addr)), v = .ref t ∧ H t = some (.tup [.ref f, .ref t2]) ∧ H t2 = some (.tup [.str "size", .str z]) ∧ gNe (.tup [.str "size", .str z]) (.tup [.str "size", .str z]) [] = some (.bl false, []) ∧ LamZ P w K mg C l z ∧ CapZ l cap cb ∧ H c' = some (CodeO c' qual) ∧
    H f = some (LamO f (lamObj qual (lmArgs l) (lmBody l) (lmScope l) cap pm c' ctv))
section
variable {P : Program} {w : World} {K : PySem.W.Frag} {mg : Str → Option Value} {base : Heap} {C fI cc cda cb a : Addr} {qual : Str}
theorem sb_not {H H' : Hp} {b : Addr} {o : HO} (hb : BoxAt H a) (x : SameB a H H') (h : H b = some o) (n : ∀ ys, o ≠ .lst ys) : H' b = some o := x _ _ h (BoxStep.notA hb h n)
theorem WorkAt.same {H H' : Hp} {v : V} (k : WorkAt P w K mg C cb qual H v) (hb : BoxAt H a) (x : SameB a H H') : WorkAt P w K mg C cb qual H' v := by
  obtain ⟨t, f, t2, l, z, c', pm, ctv, cap, e, h1, h2, gz, lz, cz, h3, h4⟩ := k.ex
  exact ⟨t, f, t2, l, z, c', pm, ctv, cap, e, sb_not hb x h1 (fun _ q => nomatch q), sb_not hb x h2 (fun _ q => nomatch q), gz, lz, cz, sb_not hb x h3 (fun _ q => nomatch q), sb_not hb x h4 (fun _ q => nomatch q)⟩
theorem wipe2 (σ : L2.St) (u v : Option V) : wipe (((wipe σ [17, 3]).set 17 u).set 3 v) [17, 3] = wipe σ [17, 3] := by
  show (((((((σ.set 3 none).set 17 none).set 17 u).set 3 v).set 3 none).set 17 none) : L2.St) = (σ.set 3 none).set 17 none
  rw [List.set_set, List.set_set, List.set_comm _ _ (by decide : (17 : Nat) ≠ 3), List.set_set, List.set_set]
theorem read_lawC {H : Hp} {σ : L2.St} {wl : Addr} {vs : List V} {Q : VK} (h1 : σ[1]? = some (some (.ref a))) (h16 : σ[16]? = some (some (.ref wl))) (hl : σ.length = 18) (hb : BoxAt H a) (hw : H wl = some (.lst vs)) (nw : wl ≠ a) (hk : ∀ v ∈ vs, WorkAt P w K mg C cb qual H v)
    (q : ∀ D H', SameB a H H' → H D = none → H' D = some (.lst []) → Q (.ref D) H') :
    tLc (iList K (tVar 16)) (gTup K 2 (gCons (gName 17) (gCons (gName 3) gNil))) (tTest (tOp (rD P w K gNe) (tHeard cb a 17 qual (LamZ P w K mg C)) (tVar 3))) (tVar 17) [17, 3] σ H Q := by
  refine ⟨.ref wl, h16, wl, rfl, ⟨vs, .inl (.inl hw)⟩, fun D nD => ?_⟩
  have b0 := box_upd (u := .lst []) hb nD
  refine ⟨fun i m H' => i + m = vs.length ∧ H' D = some (.lst []) ∧ SameB a H H' ∧ BoxAt H' a, ⟨vs.length, by omega, upd_same, b0.2.1, b0.1⟩, fun i m H' hW => ?_⟩
  obtain ⟨em, hD, sb, b'⟩ := hW
  have hw' : SqL K H' wl vs := .inl (.inl (sb _ _ hw nw))
  by_cases hi : i < vs.length
  · obtain ⟨v, hv⟩ : ∃ v, vs[i]? = some v := ⟨_, List.getElem?_eq_getElem hi⟩
    refine .inr ⟨⟨_, _, hw', hv⟩, fun H2 => H2 D = some (.lst []) ∧ SameB a H H2 ∧ BoxAt H2 a, fun H2 hn => ⟨m - 1, by omega, by omega, hn.1, hn.2.1, hn.2.2⟩, fun x H2 hy => ?_⟩
    obtain ⟨rfl, fv⟩ := hy
    have ex : x = v := Option.some.inj ((fv _ hw').symm.trans hv)
    subst ex
    obtain ⟨t, f, t2, l, z, c', pm, ctv, cap, rfl, k1, k2, gz, lz, cz, k3, k4⟩ := ((hk _ (List.mem_of_getElem? hv)).same hb sb).ex
    refine ⟨t, _, rfl, .inl (.inl k1), rfl, _, _, rfl, _, _, rfl, rfl, wipe2 _ _ _, ?_⟩
    have l17 : 17 < ((wipe σ [17, 3]).set 17 (some (V.ref f))).length := by rw [List.length_set, wipe_length, hl]; decide
    have g17 : (((wipe σ [17, 3]).set 17 (some (V.ref f))).set 3 (some (V.ref t2)))[17]? = some (some (V.ref f)) := by
      rw [List.getElem?_set_ne (by decide), List.getElem?_set_self (by rw [List.length_set] at l17; exact l17)]
    have g3 : (((wipe σ [17, 3]).set 17 (some (V.ref f))).set 3 (some (V.ref t2)))[3]? = some (some (V.ref t2)) := by
      rw [List.getElem?_set_self (Nat.lt_trans (by decide) l17)]
    refine ⟨l, z, f, c', pm, ctv, cap, lz, cz, g17, k3, k4, b', fun H4 t4 sb4 b4 e4 => ⟨_, g3, .tup [.str "size", .str z], .tup [.str "size", .str z], [], [], .bl false, [], RS.nil, .tup (.inl (.inl e4)) (.cons (.str _) (.cons (.str _) .nil)),
      .tup (.inl (.inl (sb_not b' sb4 k2 fun _ q => nomatch q))) (.cons (.str _) (.cons (.str _) .nil)), gz, fun v H5 ρ5 x5 _ a5 => ?_⟩⟩
    cases a5
    refine ⟨false, rfl, iteF ⟨?_, (sb.trans sb4).trans x5.same0.b, b4.same x5.same0⟩⟩
    refine x5.same0 _ _ (sb4 _ _ hD fun e => ?_)
    exact b0.2.2 e
  · exact .inl ⟨⟨vs, hw', by omega⟩, q D H' sb nD hD⟩
end
end K50
set_option Elab.async false
set_option linter.all false
set_option maxRecDepth 100000
set_option maxHeartbeats 4000000
namespace K50
open PySem PySem.Spec PyProof.Rows L2 LamX
section
variable {P : Program} {w : World} {K : PySem.W.Frag} {mg : Str → Option Value} {base : Heap} {C fI cc cda : Addr}
theorem tab1 (PT : Addr) (q : Str) : ∀ p ∈ [(PT, q)], p.1 = PT → p.2 = q := fun p hp _ => by
  have e := List.mem_singleton.mp hp
  rw [e]
abbrev QL : Str := (envOfC "law" (defScope s_law) 0 0 .none).qual ++ "<lambda>"
end
end K50
set_option Elab.async false
set_option linter.all false
set_option maxRecDepth 100000
set_option maxHeartbeats 4000000
namespace K50
open PySem PySem.Spec PyProof.Rows L2 LamX
section
variable {P : Program} {w : World} {K : PySem.W.Frag} {mg : Str → Option Value} {base : Heap} {C fI cc cda cb a wl : Addr} {qual : Str} {Tb : List (Addr × Str)}
theorem WorkAt.of {H H' : Hp} {v : V} (k : WorkAt P w K mg C cb qual H v) (x : ∀ b o, H b = some o → (∀ ps, o ≠ .tbl ps) → (∀ ys, o ≠ .lst ys) → H' b = some o) : WorkAt P w K mg C cb qual H' v := by
  obtain ⟨t, f, t2, l, z, c', pm, ctv, cap, e, h1, h2, gz, lz, cz, h3, h4⟩ := k.ex
  exact ⟨t, f, t2, l, z, c', pm, ctv, cap, e, x _ _ h1 (fun _ q => nomatch q) (fun _ q => nomatch q), x _ _ h2 (fun _ q => nomatch q) (fun _ q => nomatch q), gz, lz, cz, x _ _ h3 (fun _ q => nomatch q) (fun _ q => nomatch q), x _ _ h4 (fun _ q => nomatch q) (fun _ q => nomatch q)⟩
theorem BoxAt.extN {H H' : Hp} (b : BoxAt H a) (x : ExtN H H') : BoxAt H' a := by
  obtain ⟨d, s, c, h⟩ := b
  exact ⟨d, s, c, x _ _ h fun _ q => nomatch q⟩
theorem ExtN.new {H : Hp} {p : Addr} {o : HO} (n : H p = none) : ExtN H (upd H p o) := fun b u e _ => by rw [upd_ne (ne_of_none e n)]; exact e
/-- (lambda, ('size', z)) made -/
theorem mk_work {X : Cx} {l : Expr} {z : Str} {σ : L2.St} {H : Hp} {Q : VK} (tabs : Tabs Tb H) (gz : gNe (.tup [.str "size", .str z]) (.tup [.str "size", .str z]) [] = some (.bl false, [])) (lz : LamZ P w K mg C l z)
    (cz : CapZ l (cloFrom X.env.cells (lmScope l).names []) cb) (q : ∀ H' t, ExtN H H' → Tabs Tb H' → WorkAt P w K mg C cb (X.env.qual ++ "<lambda>") H' (.ref t) → Q (.ref t) H') :
    tTup (tCons (tMkLam X Tb (lmArgs l) (lmBody l) (lmScope l)) (tCons (tTup (tCons (tC (.str "size")) (tCons (tC (.str z)) tNil))) tNil)) σ H Q := by
  refine ⟨tabs, fun f c' pm ctv H1 x1 tabs1 hf hc => ⟨by rw [sizeLine_eq]; exact (by decide : 2 ≤ 16777216), fun t2 n2 => ⟨by rw [sizeLine_eq]; exact (by decide : 2 ≤ 16777216), fun t nt => ?_⟩⟩⟩
  have x2 := ExtN.new (o := .tup [.str "size", .str z]) n2
  have x3 := ExtN.new (o := .tup [.ref f, .ref t2]) nt
  refine q _ t ((x1.trans x2).trans x3) (tabs_new (tabs_new tabs1 n2) nt) ⟨t, f, t2, l, z, c', pm, ctv, _, rfl, upd_same, x3 _ _ upd_same (fun _ q => nomatch q), gz, lz, cz, (x2.trans x3) _ _ hc codeO_ne, (x2.trans x3) _ _ hf (fun _ q => nomatch q)⟩
end
end K50
set_option Elab.async false
set_option linter.all false
set_option maxRecDepth 100000
set_option maxHeartbeats 4000000
namespace K50
open PySem PySem.Spec PyProof.Rows L2 LamX
theorem capZ {l : Expr} {cells : List (Str × Addr)} {cb : Addr} (free : ∀ y ∈ (lmScope l).names, y.2 = .free → y.1 = ("_law_box_here" : Str)) (hcb : cells.lookup ("_law_box_here" : Str) = some cb) : CapZ l (cloFrom cells (lmScope l).names []) cb := by
  have one : ∀ y c, (cloFrom cells (lmScope l).names []).lookup y = some c → y = "_law_box_here" ∧ c = cb := fun y c e => by
    rcases cloFrom_mem (PySem.mem_of_lookup e) with h | ⟨h1, h2⟩
    · cases h
    · have ey : y = ("_law_box_here" : Str) := free _ h1 rfl
      refine ⟨ey, ?_⟩
      rw [h2, ey, hcb]
      rfl
  refine ⟨one, fun y e => ?_⟩
  obtain ⟨c, hc⟩ := mem_lookup (cloFrom_has (cells := cells) (acc := []) (PySem.mem_of_lookup e))
  rw [hc, (one y c hc).2]
theorem tabs_lset {H : Hp} {Tb : List (Addr × Str)} {wl : Addr} {vs zs : List V} (t : Tabs Tb H) (e1 : H wl = some (.lst vs)) : Tabs Tb (upd H wl (.lst zs)) := fun p hp => by
  obtain ⟨ps, h1, h2, h3⟩ := t p hp
  have nw : p.1 ≠ wl := fun z => by rw [z, e1] at h1; cases h1
  refine ⟨ps, by rw [upd_ne nw]; exact h1, h2, fun pos cv hc => ?_⟩
  obtain ⟨c, e, hc'⟩ := h3 pos cv hc
  exact ⟨c, e, by rw [upd_ne (fun z => by rw [z, e1] at hc'; cases hc')]; exact hc'⟩
/-- the list of works at wl, the box at a -/
structure Wks (P : Program) (w : World) (K : PySem.W.Frag) (mg : Str → Option Value) (C cb : Addr) (qual : Str) (Tb : List (Addr × Str)) (a wl : Addr) (H : Hp) (vs : List V) : Prop where
  box : BoxAt H a
  tab : Tabs Tb H
  lst : H wl = some (.lst vs)
  ne : wl ≠ a
  all : ∀ v ∈ vs, WorkAt P w K mg C cb qual H v
section
variable {P : Program} {w : World} {K : PySem.W.Frag} {mg : Str → Option Value} {C cb a wl : Addr} {Tb : List (Addr × Str)} {X : Cx} {l : Expr} {z : Str} {σ : L2.St} {H : Hp} {u : TS} {Z : Ends} {i : Nat} {vs : List V}
theorem set_work (hb : BoxAt H a) (tabs : Tabs Tb H) (gz : gNe (.tup [.str "size", .str z]) (.tup [.str "size", .str z]) [] = some (.bl false, [])) (lz : LamZ P w K mg C l z)
    (cz : CapZ l (cloFrom X.env.cells (lmScope l).names []) cb) (q : ∀ H' wl v, Wks P w K mg C cb (X.env.qual ++ "<lambda>") Tb a wl H' [v] → u Z (σ.set i (some (.ref wl))) H') :
    tSeq (tAsg (tLst (tCons (tTup (tCons (tMkLam X Tb (lmArgs l) (lmBody l) (lmScope l)) (tCons (tTup (tCons (tC (.str "size")) (tCons (tC (.str z)) tNil))) tNil))) tNil)) (gName i)) u Z σ H := by
  refine mk_work (X := X) (Q := fun x H1 => ([x] : List V).length ≤ sizeLine ∧ ∀ p, H1 p = none → u Z (σ.set i (some (.ref p))) (upd H1 p (.lst [x]))) tabs gz lz cz fun H1 t x1 tabs1 k1 => ⟨by rw [sizeLine_eq]; exact (by decide : 1 ≤ 16777216), fun p np => ?_⟩
  have xn := ExtN.new (o := HO.lst [.ref t]) np
  have b1 := hb.extN x1
  refine q _ p (.ref t) ⟨b1.extN xn, tabs_new tabs1 np, upd_same, fun e => ?_, fun v hv => ?_⟩
  · obtain ⟨d, s, c, h⟩ := b1
    rw [e, h] at np
    cases np
  · rw [List.mem_singleton.mp hv]
    exact k1.of fun b o e h1 _ => xn b o e h1
theorem app_work (hi : σ[i]? = some (some (.ref wl))) (k : Wks P w K mg C cb (X.env.qual ++ "<lambda>") Tb a wl H vs) (short : vs.length < 100) (gz : gNe (.tup [.str "size", .str z]) (.tup [.str "size", .str z]) [] = some (.bl false, [])) (lz : LamZ P w K mg C l z)
    (cz : CapZ l (cloFrom X.env.cells (lmScope l).names []) cb) (q : ∀ H' v, Wks P w K mg C cb (X.env.qual ++ "<lambda>") Tb a wl H' (vs ++ [v]) → u Z σ H') :
    tSeq (tDrop (tBM K "list" rAppend (tVar i) (tCons (tTup (tCons (tMkLam X Tb (lmArgs l) (lmBody l) (lmScope l)) (tCons (tTup (tCons (tC (.str "size")) (tCons (tC (.str z)) tNil))) tNil))) tNil))) u Z σ H := by
  refine ⟨.ref wl, hi, .inl ⟨rfl, _, SqL.of k.lst⟩, ?_⟩
  refine mk_work (X := X) (Q := fun x H1 => rAppend (.ref wl) [x] H1 fun _ H2 => u Z σ H2) k.tab gz lz cz fun H1 t x1 tabs1 k1 => ?_
  have e1 : H1 wl = some (.lst vs) := x1 _ _ k.lst fun _ n => nomatch n
  have other : ∀ b o, H1 b = some o → (∀ ps, o ≠ .lst ps) → upd H1 wl (.lst (vs ++ [.ref t])) b = some o := fun b o e n => by
    rw [upd_ne (fun z => by rw [z, e1] at e; cases e; exact n _ rfl)]
    exact e
  refine ⟨wl, vs, .ref t, rfl, rfl, e1, by rw [sizeLine_eq]; omega, q _ (.ref t) ⟨?_, tabs_lset tabs1 e1, upd_same, k.ne, fun v hv => ?_⟩⟩
  · obtain ⟨d, s, c, h⟩ := k.box.extN x1
    exact ⟨d, s, c, by rw [upd_ne k.ne.symm]; exact h⟩
  · rcases List.mem_append.mp hv with h | h
    · exact (k.all v h).of fun b o e h1 h2 => other _ _ (x1 _ _ e h1) h2
    · rw [List.mem_singleton.mp h]
      exact k1.of fun b o e _ h2 => other _ _ e h2
theorem eq_empty {x y : Addr} {Q : VK} (hx : H x = some (.lst [])) (hy : H y = some (.lst [])) (n : x ≠ y) (q : ∀ H', Q (.bl true) H') : rD P w K gEq (.ref x) (.ref y) H Q := by
  refine ⟨.ref 0, .ref 1, [x, y], [.lst [], .lst []], .bl true, [.lst [], .lst []], ⟨rfl, ?_, ?_⟩, .ref rfl, .ref rfl, by kernel_rfl, fun v H' ρ' _ _ a => ?_⟩
  · simp [n]
  · intro i a o h1 h2
    match i, h1, h2 with
    | 0, h1, h2 => cases h1; cases h2; exact ⟨[], hx, .nil⟩
    | 1, h1, h2 => cases h1; cases h2; exact ⟨[], hy, .nil⟩
    | i + 2, h1, h2 => simp at h1
  · cases a
    exact q H'
end
section
variable {P : Program} {w : World} {K : PySem.W.Frag} {mg : Str → Option Value} {base : Heap} {C fI cc cda : Addr}
theorem law_rest (T : Txt K mg w) (Z : SizTxt P K mg C fI cc cda) {c PT : Addr} {A : Around} {outer : List Env} {s : Shared} {H0 : Hp} {E : XK} {cb : Addr} (TB : TabB base mg c PT) (hr : Room 40 (A.deeper (envOfC "law" (defScope s_law) s.heap.objs.size T.d_law.f (.ref c))))
    (hcb : (envOfC "law" (defScope s_law) s.heap.objs.size T.d_law.f (.ref c)).cells.lookup ("_law_box_here" : Str) = some cb) :
    ∃ t, PSs (cxOf CX0 P w K mg base NL "law" (defScope s_law) T.d_law.f (.ref c) A outer s H0 E).nox lawRest t ∧ ∀ (D : Ends) (σ : L2.St) (H : Hp) (a : Addr), σ.length = 18 → σ[1]? = some (some (.ref a)) → BoxAt H a → Tabs [(PT, QL)] H → (∀ H', D.rt (.bl true) H') → t D σ H := by
  refine ⟨_, pss_cons (ps_set (i := 16) sc_law.nd rfl (.inl rfl) (pe_lst (pa_cons (pe_tup (pa_cons (pe_mklam (T := [(PT, QL)]) TB rfl (List.mem_cons_self) (tab1 _ _) rfl (lamS_by (by kernel_rfl))) (pa_cons (pe_tup (pa_cons pe_str (pa_cons pe_str pa_nil))) pa_nil))) pa_nil)))
    (pss_cons (ps_expr (pe_bm PySem.F.plainAttrs_list PySem.F.slot_list_append PySem.F.type_list_append mt_append (pv 16) (pa_cons (pe_tup (pa_cons (pe_mklam (T := [(PT, QL)]) TB rfl (List.mem_cons_self) (tab1 _ _) rfl (lamS_by (by kernel_rfl))) (pa_cons (pe_tup (pa_cons pe_str (pa_cons pe_str pa_nil))) pa_nil))) pa_nil)))
    (pss_cons (ps_expr (pe_bm PySem.F.plainAttrs_list PySem.F.slot_list_append PySem.F.type_list_append mt_append (pv 16) (pa_cons (pe_tup (pa_cons (pe_mklam (T := [(PT, QL)]) TB rfl (List.mem_cons_self) (tab1 _ _) rfl (lamS_by (by kernel_rfl))) (pa_cons (pe_tup (pa_cons pe_str (pa_cons pe_str pa_nil))) pa_nil))) pa_nil)))
    (pss_cons (ps_expr (pe_bm PySem.F.plainAttrs_list PySem.F.slot_list_append PySem.F.type_list_append mt_append (pv 16) (pa_cons (pe_tup (pa_cons (pe_mklam (T := [(PT, QL)]) TB rfl (List.mem_cons_self) (tab1 _ _) rfl (lamS_by (by kernel_rfl))) (pa_cons (pe_tup (pa_cons pe_str (pa_cons pe_str pa_nil))) pa_nil))) pa_nil)))
    (pss_one (ps_ret (pe_cmpR (or_eq hr.units) (pe_lawC (qual := QL) T Z hr hcb) (pe_lst pa_nil) (nomark _))))))), ?_⟩
  intro D σ H a hl h1 hb tabs q
  have g16 : ∀ wl : Addr, (σ.set 16 (some (V.ref wl)))[16]? = some (some (.ref wl)) := fun wl => List.getElem?_set_self (by rw [hl]; decide)
  refine set_work (X := (cxOf CX0 P w K mg base NL "law" (defScope s_law) T.d_law.f (.ref c) A outer s H0 E).nox) (cb := cb) hb tabs (z := "size") (by kernel_rfl) (lz0 T Z) (capZ (lz0 T Z).free hcb) fun H1 wl v1 k1 => ?_
  refine app_work (X := (cxOf CX0 P w K mg base NL "law" (defScope s_law) T.d_law.f (.ref c) A outer s H0 E).nox) (cb := cb) (g16 wl) k1 (by simp) (z := "size") (by kernel_rfl) (lz1 T Z) (capZ (lz1 T Z).free hcb) fun H2 v2 k2 => ?_
  refine app_work (X := (cxOf CX0 P w K mg base NL "law" (defScope s_law) T.d_law.f (.ref c) A outer s H0 E).nox) (cb := cb) (g16 wl) k2 (by simp) (z := "places") (by kernel_rfl) (lz2 T Z) (capZ (lz2 T Z).free hcb) fun H3 v3 k3 => ?_
  refine app_work (X := (cxOf CX0 P w K mg base NL "law" (defScope s_law) T.d_law.f (.ref c) A outer s H0 E).nox) (cb := cb) (g16 wl) k3 (by simp) (z := "word") (by kernel_rfl) (lz3 T Z) (capZ (lz3 T Z).free hcb) fun H4 v4 k4 => ?_
  have g1 : (σ.set 16 (some (V.ref wl)))[1]? = some (some (.ref a)) := by rw [List.getElem?_set_ne (by decide)]; exact h1
  refine ⟨a, g1, read_lawC g1 (g16 wl) (by rw [List.length_set]; exact hl) k4.box k4.lst k4.ne k4.all fun D' H' sb nD eD => ?_⟩
  refine ⟨by rw [sizeLine_eq]; exact (by decide : 0 ≤ 16777216), fun p np => ?_⟩
  have ne : D' ≠ p := ne_of_none eD np
  exact eq_empty (by rw [upd_ne ne]; exact eD) upd_same ne q
end
end K50
set_option Elab.async false
set_option linter.all false
set_option maxRecDepth 100000
set_option maxHeartbeats 4000000
namespace K50
open PySem PySem.Spec PyProof.Rows L2 LamX
/-- the law: the table of its code objects stands at PT, empty -/
def spLaw (K : PySem.W.Frag) (PT : Addr) : Sp := fun vs H Q _ => ∃ (l : Addr) (ns : List Int), vs = [.ref l] ∧ SqL K H l (ns.map V.int) ∧ H PT = some (.tbl #[]) ∧ ∀ H', Q (.bl true) H'
section
variable {P : Program} {w : World} {K : PySem.W.Frag} {mg : Str → Option Value} {base : Heap} {C fI cc cda : Addr}
theorem ok_law (T : Txt K mg w) (Z : SizTxt P K mg C fI cc cda) {c PT : Addr} (TB : TabB base mg c PT) (hc : ∀ oc od fd osl, K.lookup T.d_law.f = some ⟨oc, od, .func fd, osl⟩ → fd.code = .ref c) : FnOk P w K mg base CX0 41 T.d_law.f T.d_law.fd ["_law_script"] (spLaw K PT) := by
  obtain ⟨oc, od, kV, doc, pm, an, cdv, ct, osl, efd, lk, hcd⟩ := T.d_law.F.ex
  have ec : T.d_law.fd.code = .ref c := hc _ _ _ _ lk
  rw [efd] at ec lk ⊢
  have ec : cdv = .ref c := ec
  subst ec
  refine fn_of (N := NL) (k := 40) lk hcd sc_law (fun vs H Q E h => ?_) fun A outer s H vs Q E hr h => ?_
  · obtain ⟨l, ns, rfl, _⟩ := h
    rfl
  · obtain ⟨l, ns, rfl, hs, ht, q⟩ := h
    obtain ⟨cb, hcb⟩ : ∃ cb, (envOfC "law" (defScope s_law) s.heap.objs.size T.d_law.f (.ref c)).cells.lookup ("_law_box_here" : Str) = some cb := Option.isSome_iff_exists.mp (PySem.W.cellsFrom_some _ _ _ (.inl (by decide +kernel)))
    obtain ⟨t1, h1, rd1⟩ := law_rest (P := P) (w := w) (A := A) (outer := outer) (s := s) (H0 := H) (E := E) T Z TB hr hcb
    obtain ⟨t, h2, rd⟩ := law_head T hr h1
    refine ⟨t, h2.nox, rd _ H l ns hs fun σ' H' a sr b sm => rd1 _ σ' H' a sr.len (sr_obj sr (i := 1) rfl) b (fun p hp => ?_) fun H' => q H'⟩
    rw [List.mem_singleton.mp hp]
    exact TabS.nil (sm _ _ ht)
end
end K50
set_option Elab.async false
set_option linter.all false
set_option maxRecDepth 100000
set_option maxHeartbeats 4000000
namespace K50
open PySem PySem.Spec PyProof.Rows L2
/-! ### what the top has written, said of the written part alone -/
def DefK (K : PySem.W.Frag) (x : Str) (st : Stmt) : Prop := ∃ (f : Addr) (od an : Option Addr) (sl : Array (Option Value)) (oc kV dc pm cd ct : Value), PySem.W.nsIn K mainGlobals x = some (some (.ref f)) ∧
  K.lookup f = some ⟨oc, od, .func (PySem.W.fnOf x x (defArgs st) (defBody st) (defScope st) .none kV dc pm an cd ct), sl⟩ ∧ PySem.W.codeIn K cd x = true ∧ PySem.W.keepIn K (.ref f) = true
theorem defK_mk {K : PySem.W.Frag} {x : Str} {st : Stmt} {f : Addr} {od an : Option Addr} {sl : Array (Option Value)} {oc kV dc pm cd ct : Value} (a : PySem.W.nsIn K mainGlobals x = some (some (.ref f)))
    (l : K.lookup f = some ⟨oc, od, .func (PySem.W.fnOf x x (defArgs st) (defBody st) (defScope st) .none kV dc pm an cd ct), sl⟩) (c : PySem.W.codeIn K cd x = true) (k : PySem.W.keepIn K (.ref f) = true) : DefK K x st :=
  ⟨f, od, an, sl, oc, kV, dc, pm, cd, ct, a, l, c, k⟩
def RowK (K : PySem.W.Frag) (w : World) : Prop := ∃ (a : Addr) (es : Array DictEntry) (n : Nat) (t1 t2 : Tok), PySem.W.nsIn K mainGlobals "ROW_SIZES" = some (some (.ref a)) ∧ K.lookup a = some ⟨.type "dict", none, .dict es n, #[]⟩ ∧
  PySem.W.KeysLit w.params es.toList ∧ (a == sysModules) = false ∧ PySem.W.nsIn K a "told" = some (some (.int 2 t1)) ∧ PySem.W.nsIn K a "fork" = some (some (.int 5 t2))
theorem rowK_mk {K : PySem.W.Frag} {w : World} {a : Addr} {es : Array DictEntry} {n : Nat} {t1 t2 : Tok} (g : PySem.W.nsIn K mainGlobals "ROW_SIZES" = some (some (.ref a))) (l : K.lookup a = some ⟨.type "dict", none, .dict es n, #[]⟩)
    (k : PySem.W.KeysLit w.params es.toList) (b : (a == sysModules) = false) (t : PySem.W.nsIn K a "told" = some (some (.int 2 t1))) (u : PySem.W.nsIn K a "fork" = some (some (.int 5 t2))) : RowK K w := ⟨a, es, n, t1, t2, g, l, k, b, t, u⟩
def IntK (K : PySem.W.Frag) (x : Str) (n : Int) : Prop := ∃ t : Tok, PySem.W.nsIn K mainGlobals x = some (some (.int n t))
theorem intK_mk {K : PySem.W.Frag} {x : Str} {n : Int} {t : Tok} (g : PySem.W.nsIn K mainGlobals x = some (some (.int n t))) : IntK K x n := ⟨t, g⟩
structure TxtK (K : PySem.W.Frag) (w : World) : Prop where
  d_is_integer : DefK K "is_integer" s_is_integer
  d_is_number : DefK K "is_number" s_is_number
  d_is_below : DefK K "is_below" s_is_below
  d_is_string : DefK K "is_string" s_is_string
  d_is_sequence : DefK K "is_sequence" s_is_sequence
  d_is_pair : DefK K "is_pair" s_is_pair
  d_power_of : DefK K "power_of" s_power_of
  d_need_size : DefK K "need_size" s_need_size
  d_is_table : DefK K "is_table" s_is_table
  d_is_operation : DefK K "is_operation" s_is_operation
  d_in_tuples : DefK K "in_tuples" s_in_tuples
  d_need_operation : DefK K "need_operation" s_need_operation
  d_need_book : DefK K "need_book" s_need_book
  d_row_number : DefK K "row_number" s_row_number
  d_all_rows : DefK K "all_rows" s_all_rows
  d_filled_row : DefK K "filled_row" s_filled_row
  d_answer_at : DefK K "answer_at" s_answer_at
  d_held_part : DefK K "held_part" s_held_part
  d_counts_at : DefK K "counts_at" s_counts_at
  d_hung_found : DefK K "hung_found" s_hung_found
  d_least_table : DefK K "least_table" s_least_table
  d_last_counting : DefK K "last_counting" s_last_counting
  d_two_places : DefK K "two_places" s_two_places
  d_is_list : DefK K "is_list" s_is_list
  d_are_seen : DefK K "are_seen" s_are_seen
  d_test_holds : DefK K "test_holds" s_test_holds
  d_are_pairs : DefK K "are_pairs" s_are_pairs
  d_fork_behind : DefK K "fork_behind" s_fork_behind
  d_row_behind : DefK K "row_behind" s_row_behind
  d_rows_behind : DefK K "rows_behind" s_rows_behind
  d_need_program : DefK K "need_program" s_need_program
  d_look_of : DefK K "look_of" s_look_of
  d_is_let : DefK K "is_let" s_is_let
  d_need_sense : DefK K "need_sense" s_need_sense
  d_let_part : DefK K "let_part" s_let_part
  d_seen_program : DefK K "seen_program" s_seen_program
  d_let_many : DefK K "let_many" s_let_many
  d_law_box : DefK K "_law_box" s_law_box
  d_law_take : DefK K "_law_take" s_law_take
  d_law_pick : DefK K "_law_pick" s_law_pick
  d_law_width : DefK K "_law_width" s_law_width
  d_law_values : DefK K "_law_values" s_law_values
  d_law_set : DefK K "_law_set" s_law_set
  d_law_forget : DefK K "_law_forget" s_law_forget
  d_law_give : DefK K "_law_give" s_law_give
  d_law_flow : DefK K "_law_flow" s_law_flow
  d_law_fork : DefK K "_law_fork" s_law_fork
  d_law_shown : DefK K "_law_shown" s_law_shown
  d_law_sources : DefK K "_law_sources" s_law_sources
  d_law_given : DefK K "_law_given" s_law_given
  d_law_kept : DefK K "_law_kept" s_law_kept
  d_law_hangs : DefK K "_law_hangs" s_law_hangs
  d_law_places : DefK K "_law_places" s_law_places
  d_law_lets : DefK K "_law_lets" s_law_lets
  d_law_tables : DefK K "_law_tables" s_law_tables
  d_law_seen : DefK K "_law_seen" s_law_seen
  d_law_heard : DefK K "_law_heard" s_law_heard
  d_law : DefK K "law" s_law
  n_isinstance : PySem.W.nsIn K mainGlobals "isinstance" = some none
  n_int : PySem.W.nsIn K mainGlobals "int" = some none
  n_bool : PySem.W.nsIn K mainGlobals "bool" = some none
  n_str : PySem.W.nsIn K mainGlobals "str" = some none
  n_tuple : PySem.W.nsIn K mainGlobals "tuple" = some none
  n_list : PySem.W.nsIn K mainGlobals "list" = some none
  n_len : PySem.W.nsIn K mainGlobals "len" = some none
  n_any : PySem.W.nsIn K mainGlobals "any" = some none
  n_all : PySem.W.nsIn K mainGlobals "all" = some none
  n_min : PySem.W.nsIn K mainGlobals "min" = some none
  n_max : PySem.W.nsIn K mainGlobals "max" = some none
  n_sum : PySem.W.nsIn K mainGlobals "sum" = some none
  n_range : PySem.W.nsIn K mainGlobals "range" = some none
  n_enumerate : PySem.W.nsIn K mainGlobals "enumerate" = some none
  n_sorted : PySem.W.nsIn K mainGlobals "sorted" = some none
  n_set : PySem.W.nsIn K mainGlobals "set" = some none
  n_abs : PySem.W.nsIn K mainGlobals "abs" = some none
  row : RowK K w
  c_MOST_SIZE : IntK K "MOST_SIZE" 8
  c_MOST_PLACES : IntK K "MOST_PLACES" 3
  c_MOST_OPERATIONS : IntK K "MOST_OPERATIONS" 8
section
variable {K : PySem.W.Frag} {w : World} {mg : Str → Option Value} {h : Heap}
theorem defAt_of {x : Str} {st : Stmt} {ps : List Str} (X : K.In h) (G : h.Ns mainGlobals mg) (d : DefK K x st)
    (hb : ∀ (kV doc pm : Value) (an : Option Addr) (cdv ct : Value) (us : List Value), us.length = ps.length → bindArgs (PySem.W.fnOf x x (defArgs st) (defBody st) (defScope st) .none kV doc pm an cdv ct) ⟨us, []⟩ = pure (ps.zip us)) : Nonempty (DefAt K mg x st ps) := by
  obtain ⟨f, od, an, sl, oc, kV, dc, pm, cd, ct, a, l, c, k⟩ := d
  have F := fun_mk (st := st) l c k
  exact ⟨⟨f, _, F, PySem.W.mg_of X G a, F.binds hb⟩⟩
theorem kbn_of {x : Str} {st : Stmt} {ps : List Str} {f : Addr} {fd : FuncData} (F : Fun K x x st f fd)
    (hb : ∀ (kV doc pm : Value) (an : Option Addr) (cdv ct : Value) (ws : List Value), ws.length = ps.length → bindArgs (PySem.W.fnOf x x (defArgs st) (defBody st) (defScope st) .none kV doc pm an cdv ct) ⟨[], ps.zip ws⟩ = pure (ps.zip ws)) :
    KBn K fd ps 0 ps (fun _ ws => ws) (fun _ zs => zs) := by
  obtain ⟨oc, od, kV, doc, pm, an, cdv, ct, osl, rfl, lk, hcd⟩ := F.ex
  refine ⟨fun s us ws KI hu hw => .of_eq ?_, fun _ r => r⟩
  have e : us = [] := List.length_eq_zero_iff.mp hu
  subst e
  exact hb kV doc pm an cdv ct ws hw

theorem rowAt_of (X : K.In h) (G : h.Ns mainGlobals mg) (r : RowK K w) : Nonempty (RowAt K mg w) := by
  obtain ⟨a, es, n, t1, t2, g, l, k, b, t, u⟩ := r
  exact ⟨⟨a, es, n, ⟨l, k, b⟩, PySem.W.mg_of X G g, ⟨t1, t⟩, ⟨t2, u⟩⟩⟩
theorem int_of {x : Str} {n : Int} (X : K.In h) (G : h.Ns mainGlobals mg) (r : IntK K x n) : ∃ t : Tok, mg x = some (.int n t) := by
  obtain ⟨t, g⟩ := r
  exact ⟨t, PySem.W.mg_of X G g⟩
theorem txt_of (X : K.In h) (G : h.Ns mainGlobals mg) (T : TxtK K w) : Nonempty (Txt K mg w) := by
  obtain ⟨d_is_integer⟩ := defAt_of (ps := ["value"]) X G T.d_is_integer fun _ _ _ _ _ _ us hl => match us, hl with | [_], _ => rfl
  obtain ⟨d_is_number⟩ := defAt_of (ps := ["value"]) X G T.d_is_number fun _ _ _ _ _ _ us hl => match us, hl with | [_], _ => rfl
  obtain ⟨d_is_below⟩ := defAt_of (ps := ["value", "many"]) X G T.d_is_below fun _ _ _ _ _ _ us hl => match us, hl with | [_, _], _ => rfl
  obtain ⟨d_is_string⟩ := defAt_of (ps := ["value"]) X G T.d_is_string fun _ _ _ _ _ _ us hl => match us, hl with | [_], _ => rfl
  obtain ⟨d_is_sequence⟩ := defAt_of (ps := ["value"]) X G T.d_is_sequence fun _ _ _ _ _ _ us hl => match us, hl with | [_], _ => rfl
  obtain ⟨d_is_pair⟩ := defAt_of (ps := ["value"]) X G T.d_is_pair fun _ _ _ _ _ _ us hl => match us, hl with | [_], _ => rfl
  obtain ⟨d_power_of⟩ := defAt_of (ps := ["base", "many"]) X G T.d_power_of fun _ _ _ _ _ _ us hl => match us, hl with | [_, _], _ => rfl
  obtain ⟨d_need_size⟩ := defAt_of (ps := ["value"]) X G T.d_need_size fun _ _ _ _ _ _ us hl => match us, hl with | [_], _ => rfl
  obtain ⟨d_is_table⟩ := defAt_of (ps := ["size", "value", "most"]) X G T.d_is_table fun _ _ _ _ _ _ us hl => match us, hl with | [_, _, _], _ => rfl
  obtain ⟨d_is_operation⟩ := defAt_of (ps := ["size", "value"]) X G T.d_is_operation fun _ _ _ _ _ _ us hl => match us, hl with | [_, _], _ => rfl
  obtain ⟨d_in_tuples⟩ := defAt_of (ps := ["table"]) X G T.d_in_tuples fun _ _ _ _ _ _ us hl => match us, hl with | [_], _ => rfl
  obtain ⟨d_need_operation⟩ := defAt_of (ps := ["size", "value"]) X G T.d_need_operation fun _ _ _ _ _ _ us hl => match us, hl with | [_, _], _ => rfl
  obtain ⟨d_need_book⟩ := defAt_of (ps := ["value"]) X G T.d_need_book fun _ _ _ _ _ _ us hl => match us, hl with | [_], _ => rfl
  obtain ⟨d_row_number⟩ := defAt_of (ps := ["size", "row"]) X G T.d_row_number fun _ _ _ _ _ _ us hl => match us, hl with | [_, _], _ => rfl
  obtain ⟨d_all_rows⟩ := defAt_of (ps := ["size", "many"]) X G T.d_all_rows fun _ _ _ _ _ _ us hl => match us, hl with | [_, _], _ => rfl
  obtain ⟨d_filled_row⟩ := defAt_of (ps := ["held", "values"]) X G T.d_filled_row fun _ _ _ _ _ _ us hl => match us, hl with | [_, _], _ => rfl
  obtain ⟨d_answer_at⟩ := defAt_of (ps := ["size", "operation", "row"]) X G T.d_answer_at fun _ _ _ _ _ _ us hl => match us, hl with | [_, _, _], _ => rfl
  obtain ⟨d_held_part⟩ := defAt_of (ps := ["size", "operation", "held"]) X G T.d_held_part fun _ _ _ _ _ _ us hl => match us, hl with | [_, _, _], _ => rfl
  obtain ⟨d_counts_at⟩ := defAt_of (ps := ["size", "operation", "place", "row"]) X G T.d_counts_at fun _ _ _ _ _ _ us hl => match us, hl with | [_, _, _, _], _ => rfl
  obtain ⟨d_hung_found⟩ := defAt_of (ps := ["size", "operation"]) X G T.d_hung_found fun _ _ _ _ _ _ us hl => match us, hl with | [_, _], _ => rfl
  obtain ⟨d_least_table⟩ := defAt_of (ps := ["size", "operation"]) X G T.d_least_table fun _ _ _ _ _ _ us hl => match us, hl with | [_, _], _ => rfl
  obtain ⟨d_last_counting⟩ := defAt_of (ps := ["size", "operation", "place", "one", "other"]) X G T.d_last_counting fun _ _ _ _ _ _ us hl => match us, hl with | [_, _, _, _, _], _ => rfl
  obtain ⟨d_two_places⟩ := defAt_of (ps := ["size", "operation"]) X G T.d_two_places fun _ _ _ _ _ _ us hl => match us, hl with | [_, _], _ => rfl
  obtain ⟨d_is_list⟩ := defAt_of (ps := ["size", "value"]) X G T.d_is_list fun _ _ _ _ _ _ us hl => match us, hl with | [_, _], _ => rfl
  obtain ⟨d_are_seen⟩ := defAt_of (ps := ["value", "seen"]) X G T.d_are_seen fun _ _ _ _ _ _ us hl => match us, hl with | [_, _], _ => rfl
  obtain ⟨d_test_holds⟩ := defAt_of (ps := ["book", "test", "seen"]) X G T.d_test_holds fun _ _ _ _ _ _ us hl => match us, hl with | [_, _, _], _ => rfl
  obtain ⟨d_are_pairs⟩ := defAt_of (ps := ["value", "ones", "others"]) X G T.d_are_pairs fun _ _ _ _ _ _ us hl => match us, hl with | [_, _, _], _ => rfl
  obtain ⟨d_fork_behind⟩ := defAt_of (ps := ["book", "row", "seen", "number"]) X G T.d_fork_behind fun _ _ _ _ _ _ us hl => match us, hl with | [_, _, _, _], _ => rfl
  obtain ⟨d_row_behind⟩ := defAt_of (ps := ["book", "row", "seen", "number"]) X G T.d_row_behind fun _ _ _ _ _ _ us hl => match us, hl with | [_, _, _, _], _ => rfl
  obtain ⟨d_rows_behind⟩ := defAt_of (ps := ["book", "rows", "seen", "number"]) X G T.d_rows_behind fun _ _ _ _ _ _ us hl => match us, hl with | [_, _, _, _], _ => rfl
  obtain ⟨d_need_program⟩ := defAt_of (ps := ["book", "value"]) X G T.d_need_program fun _ _ _ _ _ _ us hl => match us, hl with | [_, _], _ => rfl
  obtain ⟨d_look_of⟩ := defAt_of (ps := ["book", "number"]) X G T.d_look_of fun _ _ _ _ _ _ us hl => match us, hl with | [_, _], _ => rfl
  obtain ⟨d_is_let⟩ := defAt_of (ps := ["book", "number", "word"]) X G T.d_is_let fun _ _ _ _ _ _ us hl => match us, hl with | [_, _, _], _ => rfl
  obtain ⟨d_need_sense⟩ := defAt_of (ps := ["value"]) X G T.d_need_sense fun _ _ _ _ _ _ us hl => match us, hl with | [_], _ => rfl
  obtain ⟨d_let_part⟩ := defAt_of (ps := ["book", "word"]) X G T.d_let_part fun _ _ _ _ _ _ us hl => match us, hl with | [_, _], _ => rfl
  obtain ⟨d_seen_program⟩ := defAt_of (ps := ["size"]) X G T.d_seen_program fun _ _ _ _ _ _ us hl => match us, hl with | [_], _ => rfl
  obtain ⟨d_let_many⟩ := defAt_of (ps := ["size", "places", "word"]) X G T.d_let_many fun _ _ _ _ _ _ us hl => match us, hl with | [_, _, _], _ => rfl
  obtain ⟨d_law_box⟩ := defAt_of (ps := ["_law_script", "_law_k"]) X G T.d_law_box fun _ _ _ _ _ _ us hl => match us, hl with | [_, _], _ => rfl
  obtain ⟨d_law_take⟩ := defAt_of (ps := ["_law_box_here", "_law_many"]) X G T.d_law_take fun _ _ _ _ _ _ us hl => match us, hl with | [_, _], _ => rfl
  obtain ⟨d_law_pick⟩ := defAt_of (ps := ["_law_box_here", "_law_some"]) X G T.d_law_pick fun _ _ _ _ _ _ us hl => match us, hl with | [_, _], _ => rfl
  obtain ⟨d_law_width⟩ := defAt_of (ps := ["_law_rows"]) X G T.d_law_width fun _ _ _ _ _ _ us hl => match us, hl with | [_], _ => rfl
  obtain ⟨d_law_values⟩ := defAt_of (ps := ["_law_lists"]) X G T.d_law_values fun _ _ _ _ _ _ us hl => match us, hl with | [_], _ => rfl
  obtain ⟨d_law_set⟩ := defAt_of (ps := ["_law_state", "_law_cell", "_law_value"]) X G T.d_law_set fun _ _ _ _ _ _ us hl => match us, hl with | [_, _, _], _ => rfl
  obtain ⟨d_law_forget⟩ := defAt_of (ps := ["_law_lot", "_law_first", "_law_many"]) X G T.d_law_forget fun _ _ _ _ _ _ us hl => match us, hl with | [_, _, _], _ => rfl
  obtain ⟨d_law_give⟩ := defAt_of (ps := ["_law_lot", "_law_number", "_law_registers", "_law_shown_here"]) X G T.d_law_give fun _ _ _ _ _ _ us hl => match us, hl with | [_, _, _, _], _ => rfl
  obtain ⟨d_law_flow⟩ := defAt_of (ps := ["_law_book", "_law_rows", "_law_number", "_law_lot", "_law_shown_here"]) X G T.d_law_flow fun _ _ _ _ _ _ us hl => match us, hl with | [_, _, _, _, _], _ => rfl
  obtain ⟨d_law_fork⟩ := defAt_of (ps := ["_law_book", "_law_row", "_law_number", "_law_lot", "_law_shown_here"]) X G T.d_law_fork fun _ _ _ _ _ _ us hl => match us, hl with | [_, _, _, _, _], _ => rfl
  obtain ⟨d_law_shown⟩ := defAt_of (ps := ["_law_book", "_law_program"]) X G T.d_law_shown fun _ _ _ _ _ _ us hl => match us, hl with | [_, _], _ => rfl
  obtain ⟨d_law_sources⟩ := defAt_of (ps := ["_law_rows", "_law_number"]) X G T.d_law_sources fun _ _ _ _ _ _ us hl => match us, hl with | [_, _], _ => rfl
  obtain ⟨d_law_given⟩ := defAt_of (ps := ["_law_book", "_law_source", "_law_kept_here", "_law_k"]) X G T.d_law_given fun _ _ _ _ _ _ us hl => match us, hl with | [_, _, _, _], _ => rfl
  obtain ⟨d_law_kept⟩ := defAt_of (ps := ["_law_book", "_law_program", "_law_k"]) X G T.d_law_kept fun _ _ _ _ _ _ us hl => match us, hl with | [_, _, _], _ => rfl
  obtain ⟨d_law_hangs⟩ := defAt_of (ps := ["_law_size", "_law_operation", "_law_held", "_law_place"]) X G T.d_law_hangs fun _ _ _ _ _ _ us hl => match us, hl with | [_, _, _, _], _ => rfl
  obtain ⟨d_law_places⟩ := defAt_of (ps := ["_law_size", "_law_operation"]) X G T.d_law_places fun _ _ _ _ _ _ us hl => match us, hl with | [_, _], _ => rfl
  obtain ⟨d_law_lets⟩ := defAt_of (ps := ["_law_size", "_law_operation", "_law_word"]) X G T.d_law_lets fun _ _ _ _ _ _ us hl => match us, hl with | [_, _, _], _ => rfl
  obtain ⟨d_law_tables⟩ := defAt_of (ps := ["_law_size", "_law_places_here"]) X G T.d_law_tables fun _ _ _ _ _ _ us hl => match us, hl with | [_, _], _ => rfl
  obtain ⟨d_law_seen⟩ := defAt_of (ps := ["_law_rows"]) X G T.d_law_seen fun _ _ _ _ _ _ us hl => match us, hl with | [_], _ => rfl
  obtain ⟨d_law_heard⟩ := defAt_of (ps := ["_law_work"]) X G T.d_law_heard fun _ _ _ _ _ _ us hl => match us, hl with | [_], _ => rfl
  obtain ⟨d_law⟩ := defAt_of (ps := ["_law_script"]) X G T.d_law fun _ _ _ _ _ _ us hl => match us, hl with | [_], _ => rfl
  obtain ⟨row⟩ := rowAt_of X G T.row
  obtain ⟨t_MOST_SIZE, c_MOST_SIZE⟩ := int_of X G T.c_MOST_SIZE
  obtain ⟨t_MOST_PLACES, c_MOST_PLACES⟩ := int_of X G T.c_MOST_PLACES
  obtain ⟨t_MOST_OPERATIONS, c_MOST_OPERATIONS⟩ := int_of X G T.c_MOST_OPERATIONS
  exact ⟨⟨d_is_integer, d_is_number, d_is_below, d_is_string, d_is_sequence, d_is_pair, d_power_of, d_need_size, d_is_table, d_is_operation, d_in_tuples, d_need_operation, d_need_book, d_row_number, d_all_rows, d_filled_row, d_answer_at, d_held_part, d_counts_at, d_hung_found, d_least_table, d_last_counting, d_two_places, d_is_list, d_are_seen, d_test_holds, d_are_pairs, d_fork_behind, d_row_behind, d_rows_behind, d_need_program, d_look_of, d_is_let, d_need_sense, d_let_part, d_seen_program, d_let_many, d_law_box, d_law_take, d_law_pick, d_law_width, d_law_values, d_law_set, d_law_forget, d_law_give, d_law_flow, d_law_fork, d_law_shown, d_law_sources, d_law_given, d_law_kept, d_law_hangs, d_law_places, d_law_lets, d_law_tables, d_law_seen, d_law_heard, d_law, PySem.W.mg_none_of X G T.n_isinstance, PySem.W.mg_none_of X G T.n_int, PySem.W.mg_none_of X G T.n_bool, PySem.W.mg_none_of X G T.n_str, PySem.W.mg_none_of X G T.n_tuple, PySem.W.mg_none_of X G T.n_list, PySem.W.mg_none_of X G T.n_len, PySem.W.mg_none_of X G T.n_any, PySem.W.mg_none_of X G T.n_all, PySem.W.mg_none_of X G T.n_min, PySem.W.mg_none_of X G T.n_max, PySem.W.mg_none_of X G T.n_sum, PySem.W.mg_none_of X G T.n_range, PySem.W.mg_none_of X G T.n_enumerate, PySem.W.mg_none_of X G T.n_sorted, PySem.W.mg_none_of X G T.n_set, PySem.W.mg_none_of X G T.n_abs, row, kbn_of d_seen_program.F fun _ _ _ _ _ _ ws hl => match ws, hl with | [_], _ => rfl, kbn_of d_let_many.F fun _ _ _ _ _ _ ws hl => match ws, hl with | [_, _, _], _ => rfl, t_MOST_SIZE, c_MOST_SIZE, t_MOST_PLACES, c_MOST_PLACES, t_MOST_OPERATIONS, c_MOST_OPERATIONS⟩⟩
end
end K50
set_option Elab.async false
set_option linter.all false
set_option maxRecDepth 100000
set_option maxHeartbeats 4000000
namespace K50
open PySem PySem.Spec PyProof.Rows L2 LamX
theorem law_at {l : PySem.W.OpenLaw} {P : Program} {w : World} {K : PySem.W.Frag} {mg : Str → Option Value} {h : Heap} {fa f c PT C fI cc cda : Addr} {od an cod : Option Addr} {sl csl : Array (Option Value)} {oc kV dc pm ct : Value} {vs : Array Value} (hl : l.prog = P)
    (KX : K.In h) (G : h.Ns mainGlobals mg) (hmg : mg "law" = some (.ref fa)) (TK : TxtK K w) (Z : SizTxt P K mg C fI cc cda) (a : PySem.W.nsIn K mainGlobals "law" = some (some (.ref f)))
    (lk : K.lookup f = some ⟨oc, od, .func (PySem.W.fnOf "law" "law" (defArgs s_law) (defBody s_law) (defScope s_law) .none kV dc pm an (.ref c) ct), sl⟩) (kc : K.lookup c = some ⟨.type "code", cod, .fields vs, csl⟩) (k11 : vs[11]? = some (.ref PT))
    (hd : PySem.W.codeHdIn K c PT = true) (nt : K.lookup PT = none) (tab : h.get? PT = some { cls := .none, data := .fields #[] }) : LawAtS l w K CX0 41 63 "_law_script" mg fa h := by
  subst hl
  obtain ⟨T⟩ := txt_of KX G TK
  have e1 : f = fa := by
    have e := (PySem.W.mg_of KX G a).symm.trans hmg
    cases e
    rfl
  have e2 : T.d_law.f = fa := by
    have e := T.d_law.g.symm.trans hmg
    cases e
    rfl
  have hc : ∀ oc od fd osl, K.lookup T.d_law.f = some ⟨oc, od, .func fd, osl⟩ → fd.code = .ref c := fun oc' od' fd' osl' e => by
    rw [e2, ← e1, lk] at e
    cases e
    rfl
  refine ⟨T.d_law.fd, [(c, PT)], spLaw K PT, fun p hp => ?_, fun p hp => ?_, fun p hp => ?_, fun s u => ?_, fun H a ns _ _ ht hs => ?_, fun base KB GB TB => ?_⟩
  · rw [List.mem_singleton.mp hp]
    exact tab
  · rw [List.mem_singleton.mp hp]
    exact nt
  · rw [List.mem_singleton.mp hp]
    exact PySem.W.codeHd_of_K KX hd
  · obtain ⟨oc, od, kV, doc, pm, an, cdv, ct, osl, efd, lk, hcd⟩ := T.d_law.F.ex
    rw [efd]
    exact .of_eq rfl
  · exact ⟨a, ns, rfl, hs, ht _ (List.mem_singleton.mpr rfl), fun _ => rfl⟩
  · rw [← e2]
    exact ok_law T Z (TB _ (List.mem_singleton.mpr rfl)) hc
end K50
set_option Elab.async false
set_option linter.all false
set_option maxRecDepth 100000
set_option maxHeartbeats 4000000
namespace K50
open PySem PySem.Spec PyProof.Rows L2
theorem txX {K : PySem.W.Frag} {h : Heap} {w : World} {p : Prop} (X : K.In h) (T : TxtK K w) (f : TxtK K w → p) : p := f T
/-- an error of the class at S is what «except S» names -/
theorem exm_self {K : PySem.W.Frag} {S : Addr} (h1 : PySem.W.subIn K (.ref S) (.type "BaseException") = some true) (h2 : PySem.W.isClsIn K S = true) (h3 : PySem.W.typeIn K (.ref S) = some (.type "type")) (h4 : PySem.W.subIn K (.ref S) (.ref S) = some true) :
    PySem.W.exmOne K (.ref S) (.ref S) = some true := by
  have e1 : (PySem.W.subIn K (.ref S) (.type "BaseException") == some true) = true := by rw [h1] <;> rfl
  have e2 : ((PySem.W.clsIn K S).isSome && PySem.W.typeIn K (.ref S) == some (.type "type")) = true := by
    have h2' : (PySem.W.clsIn K S).isSome = true := h2
    rw [h2', h3] <;> rfl
  show (if (PySem.W.subIn K (.ref S) (.type "BaseException") == some true) = true then (if ((PySem.W.clsIn K S).isSome && PySem.W.typeIn K (.ref S) == some (.type "type")) = true then PySem.W.subIn K (.ref S) (.ref S) else none) else none) = some true
  rw [if_pos e1, if_pos e2]
  exact h4
theorem siz_mk {P : Program} {K : PySem.W.Frag} {mg : Str → Option Value} {h : Heap} (X : K.In h) (G : h.Ns mainGlobals mg) {p : Prop} {C fI cc cda : Addr} {oc kV dc pm ct ccl cl : Value} {od an cdd cld : Option Addr} {sl ccs csl : Array (Option Value)} {vs : Array Value} {file : Str} {tf : Tok}
    (aC : PySem.W.nsIn K mainGlobals "InvalidSize" = some (some (.ref C))) (iC : PySem.W.findIn K (.ref C) "__init__" = some (some (.ref fI)))
    (fn : K.lookup fI = some ⟨oc, od, .func (PySem.W.ksFn "__init__" "InvalidSize.__init__" (defArgs s_isz) (defBody s_isz) (defScope s_isz) .none kV dc pm an (.ref cda) ct cc), sl⟩)
    (ci : PySem.W.codeIn K (.ref cda) "InvalidSize.__init__" = true) (cd : K.lookup cda = some ⟨ccl, cdd, .fields vs, ccs⟩) (cv : vs[2]? = some (.str file tf)) (cf : ((P.main.file : Str) == file) = true)
    (ce : K.lookup cc = some ⟨cl, cld, .cell (some (.ref C)), csl⟩) (kC : PySem.W.keepIn K (.ref C) = true) (xI : PySem.W.excInitIn K C eTl "Exception.__new__" = true) (xO : PySem.W.excOver K C eTl = true) (tw : PySem.W.takerIn K C "word" = some none)
    (noN : PySem.W.findIn K (.ref C) "word" = some none) (sa : PySem.W.findIn K (.ref C) "__setattr__" = some (some (.builtin "object.__setattr__"))) (ga : PySem.W.findIn K (.ref C) "__getattribute__" = some (some (.builtin "BaseException.__getattribute__")))
    (gg : PySem.W.findIn K (.ref C) "__getattr__" = some none) (tI : PySem.W.typeIn K (.ref fI) = some (.type "function")) (hdC : PySem.W.hasDictIn K C = true) (exC : PySem.W.subIn K (.ref C) (.type "BaseException") = some true) (exE : PySem.W.subIn K (.ref C) (.type "Exception") = some true)
    (tyC : PySem.W.typeIn K (.ref C) = some (.type "type")) (clC : PySem.W.isClsIn K C = true) (sC : PySem.W.subIn K (.ref C) (.ref C) = some true) (sup : PySem.W.ks_superIn K C C "__init__" = some (some (.builtin "Exception.__init__"))) (opq : PySem.W.nsIn K cStatics "thirdparty.any" = some none)
    (sub : PySem.W.mroIn K C (.ref C) = some true) (gs : PySem.W.nsIn K mainGlobals "super" = some none) (top : (P.main.scope.names.lookup ("super" : Str)).isSome = false) (f : ∀ C fI cc cda, SizTxt P K mg C fI cc cda → p) : p :=
  f C fI cc cda { gC := PySem.W.mg_of X G aC, kC := kC, xI := xI, xO := xO, tw := tw, noN := noN, sa := sa, ga := ga, gg := gg, iC := iC, tI := tI, hdC := hdC, exC := exC, exE := exE, tyC := tyC, te := exm_self exC clC tyC sC, sup := sup, opq := opq, sub := sub, gs := PySem.W.mg_none_of X G gs, fn := ⟨_, _, _, _, _, _, _, _, fn⟩, ci := ci, cd := ⟨_, _, _, _, _, _, cd, cv, cf⟩, ce := ⟨_, _, _, ce⟩, top := top }
end K50
open PySem PySem.W PyProof.Rows
set_option Elab.async false
set_option maxRecDepth 100000
set_option maxHeartbeats 0 in
theorem PySem.Challenge.cw_foldsall_k50_whole_seen_forks_and_how_ma_holds : PySem.Challenge.rw_foldsall_k50_whole_seen_forks_and_how_ma.Holds := by
  w_on; o_law; k_head; (case hw => w_witness2)
  k_fill
  refine LamX.walk_ofTs (l := PySem.Challenge.rw_foldsall_k50_whole_seen_forks_and_how_ma) (n := 63) (k := 41) (x := "_law_script") (CX := fun _ => L2.CX0) rfl (by decide) rfl ⟨rfl, by decide, by decide⟩ (fun w h Y => PySem.W.km_in_of Y) ?F (fun _ _ _ _ _ h => h)
  case F =>
    intro w mg fa h Y KX G hmg0
    have hmg : mg "law" = some (.ref fa) := hmg0
    clear hmg0
    refine' K50.txX KX (K50.TxtK.mk ?d_is_integer ?d_is_number ?d_is_below ?d_is_string ?d_is_sequence ?d_is_pair ?d_power_of ?d_need_size ?d_is_table ?d_is_operation ?d_in_tuples ?d_need_operation ?d_need_book ?d_row_number ?d_all_rows ?d_filled_row ?d_answer_at ?d_held_part ?d_counts_at ?d_hung_found ?d_least_table ?d_last_counting ?d_two_places ?d_is_list ?d_are_seen ?d_test_holds ?d_are_pairs ?d_fork_behind ?d_row_behind ?d_rows_behind ?d_need_program ?d_look_of ?d_is_let ?d_need_sense ?d_let_part ?d_seen_program ?d_let_many ?d_law_box ?d_law_take ?d_law_pick ?d_law_width ?d_law_values ?d_law_set ?d_law_forget ?d_law_give ?d_law_flow ?d_law_fork ?d_law_shown ?d_law_sources ?d_law_given ?d_law_kept ?d_law_hangs ?d_law_places ?d_law_lets ?d_law_tables ?d_law_seen ?d_law_heard ?d_law ?n_isinstance ?n_int ?n_bool ?n_str ?n_tuple ?n_list ?n_len ?n_any ?n_all ?n_min ?n_max ?n_sum ?n_range ?n_enumerate ?n_sorted ?n_set ?n_abs ?row ?c_MOST_SIZE ?c_MOST_PLACES ?c_MOST_OPERATIONS) ?tk
    (case d_is_integer => (refine' K50.defK_mk ?a ?l ?c ?k; (case a => k_is); (case l => k_is); (case c => k_is); (case k => k_is)))
    (case d_is_number => (refine' K50.defK_mk ?a ?l ?c ?k; (case a => k_is); (case l => k_is); (case c => k_is); (case k => k_is)))
    (case d_is_below => (refine' K50.defK_mk ?a ?l ?c ?k; (case a => k_is); (case l => k_is); (case c => k_is); (case k => k_is)))
    (case d_is_string => (refine' K50.defK_mk ?a ?l ?c ?k; (case a => k_is); (case l => k_is); (case c => k_is); (case k => k_is)))
    (case d_is_sequence => (refine' K50.defK_mk ?a ?l ?c ?k; (case a => k_is); (case l => k_is); (case c => k_is); (case k => k_is)))
    (case d_is_pair => (refine' K50.defK_mk ?a ?l ?c ?k; (case a => k_is); (case l => k_is); (case c => k_is); (case k => k_is)))
    (case d_power_of => (refine' K50.defK_mk ?a ?l ?c ?k; (case a => k_is); (case l => k_is); (case c => k_is); (case k => k_is)))
    (case d_need_size => (refine' K50.defK_mk ?a ?l ?c ?k; (case a => k_is); (case l => k_is); (case c => k_is); (case k => k_is)))
    (case d_is_table => (refine' K50.defK_mk ?a ?l ?c ?k; (case a => k_is); (case l => k_is); (case c => k_is); (case k => k_is)))
    (case d_is_operation => (refine' K50.defK_mk ?a ?l ?c ?k; (case a => k_is); (case l => k_is); (case c => k_is); (case k => k_is)))
    (case d_in_tuples => (refine' K50.defK_mk ?a ?l ?c ?k; (case a => k_is); (case l => k_is); (case c => k_is); (case k => k_is)))
    (case d_need_operation => (refine' K50.defK_mk ?a ?l ?c ?k; (case a => k_is); (case l => k_is); (case c => k_is); (case k => k_is)))
    (case d_need_book => (refine' K50.defK_mk ?a ?l ?c ?k; (case a => k_is); (case l => k_is); (case c => k_is); (case k => k_is)))
    (case d_row_number => (refine' K50.defK_mk ?a ?l ?c ?k; (case a => k_is); (case l => k_is); (case c => k_is); (case k => k_is)))
    (case d_all_rows => (refine' K50.defK_mk ?a ?l ?c ?k; (case a => k_is); (case l => k_is); (case c => k_is); (case k => k_is)))
    (case d_filled_row => (refine' K50.defK_mk ?a ?l ?c ?k; (case a => k_is); (case l => k_is); (case c => k_is); (case k => k_is)))
    (case d_answer_at => (refine' K50.defK_mk ?a ?l ?c ?k; (case a => k_is); (case l => k_is); (case c => k_is); (case k => k_is)))
    (case d_held_part => (refine' K50.defK_mk ?a ?l ?c ?k; (case a => k_is); (case l => k_is); (case c => k_is); (case k => k_is)))
    (case d_counts_at => (refine' K50.defK_mk ?a ?l ?c ?k; (case a => k_is); (case l => k_is); (case c => k_is); (case k => k_is)))
    (case d_hung_found => (refine' K50.defK_mk ?a ?l ?c ?k; (case a => k_is); (case l => k_is); (case c => k_is); (case k => k_is)))
    (case d_least_table => (refine' K50.defK_mk ?a ?l ?c ?k; (case a => k_is); (case l => k_is); (case c => k_is); (case k => k_is)))
    (case d_last_counting => (refine' K50.defK_mk ?a ?l ?c ?k; (case a => k_is); (case l => k_is); (case c => k_is); (case k => k_is)))
    (case d_two_places => (refine' K50.defK_mk ?a ?l ?c ?k; (case a => k_is); (case l => k_is); (case c => k_is); (case k => k_is)))
    (case d_is_list => (refine' K50.defK_mk ?a ?l ?c ?k; (case a => k_is); (case l => k_is); (case c => k_is); (case k => k_is)))
    (case d_are_seen => (refine' K50.defK_mk ?a ?l ?c ?k; (case a => k_is); (case l => k_is); (case c => k_is); (case k => k_is)))
    (case d_test_holds => (refine' K50.defK_mk ?a ?l ?c ?k; (case a => k_is); (case l => k_is); (case c => k_is); (case k => k_is)))
    (case d_are_pairs => (refine' K50.defK_mk ?a ?l ?c ?k; (case a => k_is); (case l => k_is); (case c => k_is); (case k => k_is)))
    (case d_fork_behind => (refine' K50.defK_mk ?a ?l ?c ?k; (case a => k_is); (case l => k_is); (case c => k_is); (case k => k_is)))
    (case d_row_behind => (refine' K50.defK_mk ?a ?l ?c ?k; (case a => k_is); (case l => k_is); (case c => k_is); (case k => k_is)))
    (case d_rows_behind => (refine' K50.defK_mk ?a ?l ?c ?k; (case a => k_is); (case l => k_is); (case c => k_is); (case k => k_is)))
    (case d_need_program => (refine' K50.defK_mk ?a ?l ?c ?k; (case a => k_is); (case l => k_is); (case c => k_is); (case k => k_is)))
    (case d_look_of => (refine' K50.defK_mk ?a ?l ?c ?k; (case a => k_is); (case l => k_is); (case c => k_is); (case k => k_is)))
    (case d_is_let => (refine' K50.defK_mk ?a ?l ?c ?k; (case a => k_is); (case l => k_is); (case c => k_is); (case k => k_is)))
    (case d_need_sense => (refine' K50.defK_mk ?a ?l ?c ?k; (case a => k_is); (case l => k_is); (case c => k_is); (case k => k_is)))
    (case d_let_part => (refine' K50.defK_mk ?a ?l ?c ?k; (case a => k_is); (case l => k_is); (case c => k_is); (case k => k_is)))
    (case d_seen_program => (refine' K50.defK_mk ?a ?l ?c ?k; (case a => k_is); (case l => k_is); (case c => k_is); (case k => k_is)))
    (case d_let_many => (refine' K50.defK_mk ?a ?l ?c ?k; (case a => k_is); (case l => k_is); (case c => k_is); (case k => k_is)))
    (case d_law_box => (refine' K50.defK_mk ?a ?l ?c ?k; (case a => k_is); (case l => k_is); (case c => k_is); (case k => k_is)))
    (case d_law_take => (refine' K50.defK_mk ?a ?l ?c ?k; (case a => k_is); (case l => k_is); (case c => k_is); (case k => k_is)))
    (case d_law_pick => (refine' K50.defK_mk ?a ?l ?c ?k; (case a => k_is); (case l => k_is); (case c => k_is); (case k => k_is)))
    (case d_law_width => (refine' K50.defK_mk ?a ?l ?c ?k; (case a => k_is); (case l => k_is); (case c => k_is); (case k => k_is)))
    (case d_law_values => (refine' K50.defK_mk ?a ?l ?c ?k; (case a => k_is); (case l => k_is); (case c => k_is); (case k => k_is)))
    (case d_law_set => (refine' K50.defK_mk ?a ?l ?c ?k; (case a => k_is); (case l => k_is); (case c => k_is); (case k => k_is)))
    (case d_law_forget => (refine' K50.defK_mk ?a ?l ?c ?k; (case a => k_is); (case l => k_is); (case c => k_is); (case k => k_is)))
    (case d_law_give => (refine' K50.defK_mk ?a ?l ?c ?k; (case a => k_is); (case l => k_is); (case c => k_is); (case k => k_is)))
    (case d_law_flow => (refine' K50.defK_mk ?a ?l ?c ?k; (case a => k_is); (case l => k_is); (case c => k_is); (case k => k_is)))
    (case d_law_fork => (refine' K50.defK_mk ?a ?l ?c ?k; (case a => k_is); (case l => k_is); (case c => k_is); (case k => k_is)))
    (case d_law_shown => (refine' K50.defK_mk ?a ?l ?c ?k; (case a => k_is); (case l => k_is); (case c => k_is); (case k => k_is)))
    (case d_law_sources => (refine' K50.defK_mk ?a ?l ?c ?k; (case a => k_is); (case l => k_is); (case c => k_is); (case k => k_is)))
    (case d_law_given => (refine' K50.defK_mk ?a ?l ?c ?k; (case a => k_is); (case l => k_is); (case c => k_is); (case k => k_is)))
    (case d_law_kept => (refine' K50.defK_mk ?a ?l ?c ?k; (case a => k_is); (case l => k_is); (case c => k_is); (case k => k_is)))
    (case d_law_hangs => (refine' K50.defK_mk ?a ?l ?c ?k; (case a => k_is); (case l => k_is); (case c => k_is); (case k => k_is)))
    (case d_law_places => (refine' K50.defK_mk ?a ?l ?c ?k; (case a => k_is); (case l => k_is); (case c => k_is); (case k => k_is)))
    (case d_law_lets => (refine' K50.defK_mk ?a ?l ?c ?k; (case a => k_is); (case l => k_is); (case c => k_is); (case k => k_is)))
    (case d_law_tables => (refine' K50.defK_mk ?a ?l ?c ?k; (case a => k_is); (case l => k_is); (case c => k_is); (case k => k_is)))
    (case d_law_seen => (refine' K50.defK_mk ?a ?l ?c ?k; (case a => k_is); (case l => k_is); (case c => k_is); (case k => k_is)))
    (case d_law_heard => (refine' K50.defK_mk ?a ?l ?c ?k; (case a => k_is); (case l => k_is); (case c => k_is); (case k => k_is)))
    (case d_law => (refine' K50.defK_mk ?a ?l ?c ?k; (case a => k_is); (case l => k_is); (case c => k_is); (case k => k_is)))
    (case n_isinstance => k_is)
    (case n_int => k_is)
    (case n_bool => k_is)
    (case n_str => k_is)
    (case n_tuple => k_is)
    (case n_list => k_is)
    (case n_len => k_is)
    (case n_any => k_is)
    (case n_all => k_is)
    (case n_min => k_is)
    (case n_max => k_is)
    (case n_sum => k_is)
    (case n_range => k_is)
    (case n_enumerate => k_is)
    (case n_sorted => k_is)
    (case n_set => k_is)
    (case n_abs => k_is)
    (case row => (refine' K50.rowK_mk ?g ?l ?k ?b ?t ?u; (case g => k_is); (case l => k_is); (case k => k_keys); (case b => first | rfl | decide); (case t => k_is); (case u => k_is)))
    (case c_MOST_SIZE => (refine' K50.intK_mk ?g; (case g => k_is)))
    (case c_MOST_PLACES => (refine' K50.intK_mk ?g; (case g => k_is)))
    (case c_MOST_OPERATIONS => (refine' K50.intK_mk ?g; (case g => k_is)))
    case tk =>
      intro TK
      refine' K50.siz_mk (P := PySem.Challenge.rw_foldsall_k50_whole_seen_forks_and_how_ma.prog) KX G ?zaC ?ziC ?zfn ?zci ?zcd ?zcv ?zcf ?zce ?zkC ?zxI ?zxO ?ztw ?znoN ?zsa ?zga ?zgg ?ztI ?zhdC ?zexC ?zexE ?ztyC ?zclC ?zsC ?zsup ?zopq ?zsub ?zgs ?ztop ?zff
      (case zaC => (k_is))
      (case ziC => (k_is))
      (case zfn => (k_is))
      (case zci => (k_is))
      (case zcd => (k_is))
      (case zcv => (first | rfl | k_is))
      (case zcf => (first | rfl | decide +kernel))
      (case zce => (k_is))
      (case zkC => (k_is))
      (case zxI => (kernel_rfl))
      (case zxO => (kernel_rfl))
      (case ztw => (first | k_is | kernel_rfl))
      (case znoN => (k_is))
      (case zsa => (k_is))
      (case zga => (k_is))
      (case zgg => (k_is))
      (case ztI => (k_is))
      (case zhdC => (k_is))
      (case zexC => (k_is))
      (case zexE => (k_is))
      (case ztyC => (k_is))
      (case zclC => (k_is))
      (case zsC => (first | rfl | k_is))
      (case zsup => (ks_is))
      (case zopq => (k_is))
      (case zsub => (first | k_is | kernel_rfl))
      (case zgs => (k_is))
      (case ztop => (first | rfl | decide +kernel))
      (case zff =>
        intro C fI cc cda Z
        refine' K50.law_at rfl KX G hmg TK Z ?ya ?yl ?yc ?yk ?yh ?yn ?yt
        (case ya => k_is)
        (case yl => k_is)
        (case yc => k_is)
        (case yk => first | rfl | k_is)
        (case yh => first | k_is | kernel_rfl)
        (case yn => first | kernel_rfl | rfl)
        (case yt => exact PySem.W.km_tabs_of Y _ (by simp)))
