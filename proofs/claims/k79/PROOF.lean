import PyProof.Rows.All
import Wide.All
import OpenK.AllK
import Wide.FinOn
import HandS.ForMost
import HandS.Exc
import HandS.ExcOwn
import HandS.TryOnly
import HandS.WordsExc
import HandS.Flow
import HandS.Deep
import HandS.Wide
import HandS.More
import HandS.TupAny
import HandS.TupLe
import HandS.CallSlots
import HandS.Style
import HandS.Small
import HandS.Comp
import HandS.Text
import HandS.WordsDict
import HandS.RaiseMore
import HandS.IsInst
import HandS.FStr
import HandS.Dict
import HandS.Zip
import KE.GoesMore
import KE.GoesEnumKw
import HandS.SortKw
import HandS.Ends
import PyProof.CollectIter
import HandS.Words
import PySem.Challenge.RW_stampedwait_k79_deeds_written_and_read
import HandS.ForList
set_option Elab.async false
set_option linter.all false
set_option maxRecDepth 100000
set_option maxHeartbeats 4000000
/-! Mn1: values and stores of our own, and how they stand in the layer's heap. -/
namespace Mn
open PySem PySem.Spec PyProof.Rows L2

/-- our values: an object by its number in the store, a def or class by its name -/
inductive U where
  | non | bl (b : Bool) | int (i : Int) | str (x : Str) | ref (k : Nat) | fn (x : Str) | ty (n : String)
  deriving DecidableEq, Inhabited

/-- our objects; scr: a list that is read alone -/
inductive O where
  | lst (xs : List U) | tup (xs : List U) | scr (xs : List U) | dct (kvs : List (Key × U))
  | ins (c : Str) (fs : List (Str × U)) | xd (fs : List (Str × U))

abbrev Sto := List O
abbrev Ev := List (Option U)

inductive RU (mg : Str → Option Value) (ρ : List Addr) : U → V → Prop
  | non : RU mg ρ .non .non
  | bl (b : Bool) : RU mg ρ (.bl b) (.bl b)
  | int (i : Int) : RU mg ρ (.int i) (.int i)
  | str (x : Str) : RU mg ρ (.str x) (.str x)
  | ref {k : Nat} {a : Addr} (h : ρ[k]? = some a) : RU mg ρ (.ref k) (.ref a)
  | fn {x : Str} {a : Addr} (h : mg x = some (.ref a)) : RU mg ρ (.fn x) (.ref a)
  | ty (n : String) : RU mg ρ (.ty n) (.ty n)

abbrev RUs (mg : Str → Option Value) (ρ : List Addr) : List U → List V → Prop := Paired (RU mg ρ)
/-- pairs by like keys -/
abbrev RP {κ : Type} (mg : Str → Option Value) (ρ : List Addr) : List (κ × U) → List (κ × V) → Prop := Paired fun p q => p.1 = q.1 ∧ RU mg ρ p.2 q.2

/-- places are only added -/
def Gr (ρ ρ' : List Addr) : Prop := ∃ τ, ρ' = ρ ++ τ
theorem Gr.refl (ρ : List Addr) : Gr ρ ρ := ⟨[], by simp⟩
theorem Gr.trans {a b c : List Addr} (h : Gr a b) (h' : Gr b c) : Gr a c := by
  obtain ⟨t, rfl⟩ := h
  obtain ⟨u, rfl⟩ := h'
  exact ⟨t ++ u, by simp⟩
theorem Gr.snoc (ρ : List Addr) (p : Addr) : Gr ρ (ρ ++ [p]) := ⟨[p], rfl⟩
theorem Gr.get {ρ ρ' : List Addr} (h : Gr ρ ρ') {k : Nat} {a : Addr} (e : ρ[k]? = some a) : ρ'[k]? = some a := by
  obtain ⟨t, rfl⟩ := h
  have hk := (List.getElem?_eq_some_iff.mp e).1
  rw [List.getElem?_append_left hk]
  exact e
theorem RU.up {mg : Str → Option Value} {ρ ρ' : List Addr} (g : Gr ρ ρ') {u : U} {v : V} (h : RU mg ρ u v) : RU mg ρ' u v := by
  cases h with
  | non => exact .non
  | bl b => exact .bl b
  | int i => exact .int i
  | str x => exact .str x
  | ref e => exact .ref (g.get e)
  | fn e => exact .fn e
  | ty n => exact .ty n
theorem RU.det {mg : Str → Option Value} {ρ : List Addr} {u : U} {v v' : V} (h : RU mg ρ u v) (h' : RU mg ρ u v') : v = v' := by
  cases h <;> cases h' <;> first | rfl | skip
  · rename_i a e b e'
    rw [e] at e'
    cases e'
    rfl
  · rename_i x a e b e'
    rw [e] at e'
    cases e'
    rfl
theorem paired_mono {α β : Type} {F G : α → β → Prop} (h : ∀ a b, F a b → G a b) : ∀ {xs : List α} {ys : List β}, Paired F xs ys → Paired G xs ys
  | _, _, .nil => .nil
  | _, _, .cons r t => .cons (h _ _ r) (paired_mono h t)
theorem RUs.up {mg : Str → Option Value} {ρ ρ' : List Addr} (g : Gr ρ ρ') {us : List U} {vs : List V} (h : RUs mg ρ us vs) : RUs mg ρ' us vs := paired_mono (fun _ _ r => r.up g) h
theorem RP.up {κ : Type} {mg : Str → Option Value} {ρ ρ' : List Addr} (g : Gr ρ ρ') {us : List (κ × U)} {vs : List (κ × V)} (h : RP mg ρ us vs) : RP mg ρ' us vs := paired_mono (fun _ _ r => ⟨r.1, r.2.up g⟩) h
theorem paired_len {α β : Type} {F : α → β → Prop} : ∀ {xs : List α} {ys : List β}, Paired F xs ys → xs.length = ys.length
  | _, _, .nil => rfl
  | _, _, .cons _ t => congrArg (· + 1) (paired_len t)
theorem paired_get {α β : Type} {F : α → β → Prop} : ∀ {xs : List α} {ys : List β} {i : Nat} {x : α}, Paired F xs ys → xs[i]? = some x → ∃ y, ys[i]? = some y ∧ F x y
  | _, _, _, _, .nil, e => by simp at e
  | _, _, 0, _, .cons r _, e => by simp at e; subst e; exact ⟨_, rfl, r⟩
  | _, _, i + 1, x, .cons _ t, e => by
    obtain ⟨u, h1, h2⟩ := paired_get (i := i) (x := x) t (by simpa using e)
    exact ⟨u, by simpa using h1, h2⟩
theorem paired_app {α β : Type} {F : α → β → Prop} : ∀ {xs xs' : List α} {ys ys' : List β}, Paired F xs ys → Paired F xs' ys' → Paired F (xs ++ xs') (ys ++ ys')
  | _, _, _, _, .nil, s => s
  | _, _, _, _, .cons r t, s => .cons r (paired_app t s)
theorem paired_take {α β : Type} {F : α → β → Prop} : ∀ {xs : List α} {ys : List β} (n : Nat), Paired F xs ys → Paired F (xs.take n) (ys.take n)
  | _, _, 0, _ => .nil
  | _, _, _ + 1, .nil => .nil
  | _, _, n + 1, .cons r t => .cons r (paired_take n t)
theorem paired_drop {α β : Type} {F : α → β → Prop} : ∀ {xs : List α} {ys : List β} (n : Nat), Paired F xs ys → Paired F (xs.drop n) (ys.drop n)
  | _, _, 0, r => r
  | _, _, _ + 1, .nil => .nil
  | _, _, n + 1, .cons _ t => paired_drop n t
theorem paired_set {α β : Type} {F : α → β → Prop} {x : α} {y : β} (r : F x y) : ∀ {xs : List α} {ys : List β} (i : Nat), Paired F xs ys → Paired F (xs.set i x) (ys.set i y)
  | _, _, _, .nil => .nil
  | _, _, 0, .cons _ t => .cons r t
  | _, _, i + 1, .cons q t => .cons q (paired_set r i t)
theorem paired_rev {α β : Type} {F : α → β → Prop} : ∀ {xs : List α} {ys : List β}, Paired F xs ys → Paired F xs.reverse ys.reverse
  | _, _, .nil => .nil
  | _, _, .cons r t => by
    rw [List.reverse_cons, List.reverse_cons]
    exact paired_app (paired_rev t) (.cons r .nil)
theorem paired_emp {α β : Type} {F : α → β → Prop} {xs : List α} {ys : List β} (h : Paired F xs ys) : xs.isEmpty = ys.isEmpty := by
  cases h <;> rfl
/-- values that need no store -/
theorem RUs.ints {mg : Str → Option Value} {ρ : List Addr} : ∀ ns : List Int, RUs mg ρ (ns.map U.int) (ns.map V.int)
  | [] => .nil
  | n :: ns => .cons (.int n) (RUs.ints ns)
theorem RUs.strs {mg : Str → Option Value} {ρ : List Addr} : ∀ ns : List Str, RUs mg ρ (ns.map U.str) (ns.map V.str)
  | [] => .nil
  | n :: ns => .cons (.str n) (RUs.strs ns)
theorem RUs.toInts {mg : Str → Option Value} {ρ : List Addr} : ∀ {ns : List Int} {vs : List V}, RUs mg ρ (ns.map U.int) vs → vs = ns.map V.int
  | [], _, h => by cases h; rfl
  | n :: ns, _, h => by
    cases h with
    | cons r t =>
      cases r
      rw [RUs.toInts t]
      rfl
theorem RUs.toStrs {mg : Str → Option Value} {ρ : List Addr} : ∀ {ns : List Str} {vs : List V}, RUs mg ρ (ns.map U.str) vs → vs = ns.map V.str
  | [], _, h => by cases h; rfl
  | n :: ns, _, h => by
    cases h with
    | cons r t =>
      cases r
      rw [RUs.toStrs t]
      rfl

/-- may it change -/
def O.own : O → Bool
  | .lst _ => true
  | .dct _ => true
  | .ins _ _ => true
  | _ => false

/-- one object, as it stands at a -/
def RO (K : PySem.W.Frag) (mg : Str → Option Value) (ρ : List Addr) (H : Hp) (a : Addr) : O → Prop
  | .lst xs => ∃ vs, RUs mg ρ xs vs ∧ H a = some (.lst vs)
  | .tup xs => ∃ vs, RUs mg ρ xs vs ∧ SqT K H a vs
  | .scr xs => ∃ vs, RUs mg ρ xs vs ∧ ((∃ ob, H a = some (.frz ob (.lst vs))) ∨ SqL K (fun _ => none) a vs)
  | .dct kvs => ∃ ks, RP mg ρ kvs ks ∧ H a = some (.dK ks)
  | .ins c fs => ∃ C dx gs, mg c = some (.ref C) ∧ RP mg ρ fs gs ∧ H a = some (.ins C dx gs)
  | .xd fs => ∃ gs, RP mg ρ fs gs ∧ H a = some (.xd gs)

structure Rep (K : PySem.W.Frag) (mg : Str → Option Value) (b : List Addr) (ρ : List Addr) (S : Sto) (H : Hp) : Prop where
  base : Gr b ρ
  len : ρ.length = S.length
  ob : ∀ (k : Nat) (o : O) (a : Addr), S[k]? = some o → ρ[k]? = some a → RO K mg ρ H a o
  inj : ∀ (j k : Nat) (oj ok : O) (a : Addr), S[j]? = some oj → S[k]? = some ok → oj.own = true → ok.own = true → ρ[j]? = some a → ρ[k]? = some a → j = k

section
variable {K : PySem.W.Frag} {mg : Str → Option Value} {b ρ ρ' : List Addr} {S : Sto} {H : Hp}

theorem Rep.at (r : Rep K mg b ρ S H) {k : Nat} {o : O} (e : S[k]? = some o) : ∃ a, ρ[k]? = some a ∧ RO K mg ρ H a o := by
  have hk : k < ρ.length := by rw [r.len]; exact (List.getElem?_eq_some_iff.mp e).1
  have ha : ρ[k]? = some ρ[k] := List.getElem?_eq_getElem hk
  exact ⟨_, ha, r.ob k o _ e ha⟩
/-- what stands behind a reference -/
theorem Rep.of (r : Rep K mg b ρ S H) {k : Nat} {o : O} {v : V} (e : S[k]? = some o) (h : RU mg ρ (.ref k) v) : ∃ a, v = .ref a ∧ ρ[k]? = some a ∧ RO K mg ρ H a o := by
  cases h with
  | ref q => exact ⟨_, rfl, q, r.ob k o _ e q⟩

theorem RO.up {o : O} {a : Addr} (g : Gr ρ ρ') (h : RO K mg ρ H a o) : RO K mg ρ' H a o := by
  cases o with
  | lst xs => obtain ⟨vs, q, e⟩ := h; exact ⟨vs, RUs.up g q, e⟩
  | tup xs => obtain ⟨vs, q, e⟩ := h; exact ⟨vs, RUs.up g q, e⟩
  | scr xs => obtain ⟨vs, q, e⟩ := h; exact ⟨vs, RUs.up g q, e⟩
  | dct kvs => obtain ⟨vs, q, e⟩ := h; exact ⟨vs, RP.up g q, e⟩
  | ins c fs => obtain ⟨C, dx, vs, m, q, e⟩ := h; exact ⟨C, dx, vs, m, RP.up g q, e⟩
  | xd fs => obtain ⟨vs, q, e⟩ := h; exact ⟨vs, RP.up g q, e⟩
/-- the heap grew -/
theorem RO.grow {o : O} {a : Addr} {H' : Hp} (g : ∀ b u, H b = some u → H' b = some u) (h : RO K mg ρ H a o) : RO K mg ρ H' a o := by
  have rd : ∀ {u : HO}, Rd H a u → Rd H' a u := fun {u} q => by
    rcases q with q | ⟨ob, q⟩
    · exact .inl (g _ _ q)
    · exact .inr ⟨ob, g _ _ q⟩
  cases o with
  | lst xs => obtain ⟨vs, q, e⟩ := h; exact ⟨vs, q, g _ _ e⟩
  | tup xs =>
    obtain ⟨vs, q, e⟩ := h
    exact ⟨vs, q, e.imp rd id⟩
  | scr xs =>
    obtain ⟨vs, q, e⟩ := h
    exact ⟨vs, q, e.imp (fun ⟨ob, z⟩ => ⟨ob, g _ _ z⟩) id⟩
  | dct kvs => obtain ⟨vs, q, e⟩ := h; exact ⟨vs, q, g _ _ e⟩
  | ins c fs => obtain ⟨C, dx, vs, m, q, e⟩ := h; exact ⟨C, dx, vs, m, q, g _ _ e⟩
  | xd fs => obtain ⟨vs, q, e⟩ := h; exact ⟨vs, q, g _ _ e⟩
theorem Rep.grow {H' : Hp} (r : Rep K mg b ρ S H) (g : ∀ b u, H b = some u → H' b = some u) : Rep K mg b ρ S H' := ⟨r.base, r.len, fun k o a h1 h2 => (r.ob k o a h1 h2).grow g, r.inj⟩
/-- what is tracked there is there -/
theorem RO.there {o : O} {a : Addr} (hw : o.own = true) (h : RO K mg ρ H a o) : ∃ u, H a = some u := by
  cases o with
  | lst xs => obtain ⟨vs, q, e⟩ := h; exact ⟨_, e⟩
  | dct kvs => obtain ⟨vs, q, e⟩ := h; exact ⟨_, e⟩
  | ins c fs => obtain ⟨C, dx, vs, m, q, e⟩ := h; exact ⟨_, e⟩
  | tup xs => cases hw
  | scr xs => cases hw
  | xd fs => cases hw
theorem Rep.add (r : Rep K mg b ρ S H) {p : Addr} {o : O} {u : HO} (hp : H p = none) (h : RO K mg (ρ ++ [p]) (upd H p u) p o) : Rep K mg b (ρ ++ [p]) (S ++ [o]) (upd H p u) := by
  have kp : ∀ b w, H b = some w → upd H p u b = some w := fun b w e => by rw [upd_ne (ne_of_none e hp)]; exact e
  have split : ∀ {k : Nat} {x : O}, (S ++ [o])[k]? = some x → S[k]? = some x ∨ (k = S.length ∧ x = o) := fun {k x} e => by
    by_cases hk : k < S.length
    · rw [List.getElem?_append_left hk] at e
      exact .inl e
    · rw [List.getElem?_append_right (by omega)] at e
      have h0 : k - S.length = 0 := by
        have := (List.getElem?_eq_some_iff.mp e).1
        simp at this
        omega
      rw [h0] at e
      simp at e
      exact .inr ⟨by omega, e.symm⟩
  have splitA : ∀ {k : Nat} {a : Addr}, (ρ ++ [p])[k]? = some a → k < S.length → ρ[k]? = some a := fun {k a} e hk => by
    rw [List.getElem?_append_left (by rw [r.len]; exact hk)] at e
    exact e
  have lastA : ∀ {a : Addr}, (ρ ++ [p])[S.length]? = some a → a = p := fun {a} e => by
    rw [List.getElem?_append_right (by rw [r.len]; exact Nat.le_refl _), r.len] at e
    simp at e
    exact e.symm
  refine ⟨r.base.trans (Gr.snoc ρ p), by simp [r.len], fun k x a h1 h2 => ?_, fun j k oj ok a h1 h2 w1 w2 h3 h4 => ?_⟩
  · rcases split h1 with q | ⟨rfl, rfl⟩
    · exact ((r.ob k x a q (splitA h2 (List.getElem?_eq_some_iff.mp q).1)).up (Gr.snoc ρ p)).grow kp
    · rw [lastA h2]
      exact h
  · rcases split h1 with q1 | ⟨rfl, rfl⟩
    · have a1 := splitA h3 (List.getElem?_eq_some_iff.mp q1).1
      rcases split h2 with q2 | ⟨rfl, rfl⟩
      · exact r.inj j k oj ok a q1 q2 w1 w2 a1 (splitA h4 (List.getElem?_eq_some_iff.mp q2).1)
      · obtain ⟨w, e⟩ := (r.ob j oj a q1 a1).there w1
        rw [lastA h4, hp] at e
        cases e
    · rcases split h2 with q2 | ⟨rfl, rfl⟩
      · have a2 := splitA h4 (List.getElem?_eq_some_iff.mp q2).1
        obtain ⟨w, e⟩ := (r.ob k ok a q2 a2).there w2
        rw [lastA h3, hp] at e
        cases e
      · rfl
theorem last_get (ρ : List Addr) (p : Addr) : (ρ ++ [p])[ρ.length]? = some p := by simp
theorem Rep.last (r : Rep K mg b ρ S H) (p : Addr) : RU mg (ρ ++ [p]) (.ref S.length) (.ref p) := .ref (by rw [← r.len]; exact last_get ρ p)
theorem Rep.lst (r : Rep K mg b ρ S H) {p : Addr} {xs : List U} {vs : List V} (hp : H p = none) (h : RUs mg ρ xs vs) : Rep K mg b (ρ ++ [p]) (S ++ [.lst xs]) (upd H p (.lst vs)) :=
  r.add hp ⟨vs, RUs.up (Gr.snoc ρ p) h, upd_same⟩
theorem Rep.tup (r : Rep K mg b ρ S H) {p : Addr} {xs : List U} {vs : List V} (hp : H p = none) (h : RUs mg ρ xs vs) : Rep K mg b (ρ ++ [p]) (S ++ [.tup xs]) (upd H p (.tup vs)) :=
  r.add hp ⟨vs, RUs.up (Gr.snoc ρ p) h, .inl (.inl upd_same)⟩
theorem Rep.dct (r : Rep K mg b ρ S H) {p : Addr} {xs : List (Key × U)} {vs : List (Key × V)} (hp : H p = none) (h : RP mg ρ xs vs) : Rep K mg b (ρ ++ [p]) (S ++ [.dct xs]) (upd H p (.dK vs)) :=
  r.add hp ⟨vs, RP.up (Gr.snoc ρ p) h, upd_same⟩
/-- an object of ours changes -/
theorem Rep.put (r : Rep K mg b ρ S H) {k : Nat} {o o' : O} {a : Addr} {u : HO} (e : S[k]? = some o) (ha : ρ[k]? = some a) (w : o.own = true) (w' : o'.own = true) (h : RO K mg ρ (upd H a u) a o') : Rep K mg b ρ (S.set k o') (upd H a u) := by
  have hk := (List.getElem?_eq_some_iff.mp e).1
  obtain ⟨hu, eu⟩ := (r.ob k o a e ha).there w
  have kinds : ∀ q, H a = some q → (∀ xs, q ≠ .tup xs) ∧ (∀ ob y, q ≠ .frz ob y) := fun q hq => by
    have ro := r.ob k o a e ha
    cases o with
    | lst xs => obtain ⟨vs, _, z⟩ := ro; rw [hq] at z; cases z; exact ⟨fun _ z => (nomatch z), fun _ _ z => (nomatch z)⟩
    | dct kvs => obtain ⟨vs, _, z⟩ := ro; rw [hq] at z; cases z; exact ⟨fun _ z => (nomatch z), fun _ _ z => (nomatch z)⟩
    | ins c fs => obtain ⟨C, dx, vs, _, _, z⟩ := ro; rw [hq] at z; cases z; exact ⟨fun _ z => (nomatch z), fun _ _ z => (nomatch z)⟩
    | tup xs => cases w
    | scr xs => cases w
    | xd fs => cases w
  refine ⟨r.base, by simp [r.len], fun j x b h1 h2 => ?_, fun i j oi oj b h1 h2 w1 w2 h3 h4 => ?_⟩
  · by_cases hj : j = k
    · subst hj
      rw [List.getElem?_set_self hk] at h1
      cases h1
      rw [ha] at h2
      cases h2
      exact h
    · rw [List.getElem?_set_ne (fun z => hj z.symm)] at h1
      have ro := r.ob j x b h1 h2
      have hab : x.own = true → b ≠ a := fun wx z => by
        subst z
        exact hj (r.inj j k x o b h1 e wx w h2 ha)
      cases x with
      | lst xs => obtain ⟨vs, q, z⟩ := ro; exact ⟨vs, q, by rw [upd_ne (hab rfl)]; exact z⟩
      | dct kvs => obtain ⟨vs, q, z⟩ := ro; exact ⟨vs, q, by rw [upd_ne (hab rfl)]; exact z⟩
      | ins c fs => obtain ⟨C, dx, vs, m, q, z⟩ := ro; exact ⟨C, dx, vs, m, q, by rw [upd_ne (hab rfl)]; exact z⟩
      | tup xs =>
        obtain ⟨vs, q, z⟩ := ro
        refine ⟨vs, q, z.imp (fun z => ?_) id⟩
        rcases z with z | ⟨ob, z⟩
        · exact .inl (by rw [upd_ne (fun y => (kinds _ (by rw [← y]; exact z)).1 _ rfl)]; exact z)
        · exact .inr ⟨ob, by rw [upd_ne (fun y => (kinds _ (by rw [← y]; exact z)).2 _ _ rfl)]; exact z⟩
      | scr xs =>
        obtain ⟨vs, q, z⟩ := ro
        exact ⟨vs, q, z.imp (fun ⟨ob, z⟩ => ⟨ob, by rw [upd_ne (fun y => (kinds _ (by rw [← y]; exact z)).2 _ _ rfl)]; exact z⟩) id⟩
      | xd fs =>
        obtain ⟨vs, q, z⟩ := ro
        refine ⟨vs, q, ?_⟩
        rw [upd_ne]
        · exact z
        · rintro rfl
          cases o with
          | lst xs => obtain ⟨vs, _, z'⟩ := r.ob k _ b e ha; rw [z] at z'; cases z'
          | dct kvs => obtain ⟨vs, _, z'⟩ := r.ob k _ b e ha; rw [z] at z'; cases z'
          | ins c fs => obtain ⟨C, dx, vs, _, _, z'⟩ := r.ob k _ b e ha; rw [z] at z'; cases z'
          | tup xs => cases w
          | scr xs => cases w
          | xd fs => cases w
  · have back : ∀ {m : Nat} {y : O}, (S.set k o')[m]? = some y → y.own = true → ∃ y', S[m]? = some y' ∧ y'.own = true := fun {m y} q wy => by
      by_cases hm : m = k
      · subst hm
        exact ⟨o, e, w⟩
      · rw [List.getElem?_set_ne (fun z => hm z.symm)] at q
        exact ⟨y, q, wy⟩
    obtain ⟨oi', e1, w1'⟩ := back h1 w1
    obtain ⟨oj', e2, w2'⟩ := back h2 w2
    exact r.inj i j oi' oj' b e1 e2 w1' w2' h3 h4
end
end Mn
set_option Elab.async false
set_option linter.all false
set_option maxRecDepth 100000
set_option maxHeartbeats 4000000
/-! Mn2: results, what they are worth in the layer, the judgements SE, ST, SA; operators by values. -/
namespace Mn
open PySem PySem.Spec PyProof.Rows L2
abbrev St := L2.St

/-- an exception: its class, the number of its own dict in the store -/
structure Xc where
  cls : U
  d : Option Nat
inductive Res (α : Type) where
  | ok (a : α) (S : Sto) | exc (x : Xc) (S : Sto) | bad
def bnd {α β : Type} (r : Res α) (f : α → Sto → Res β) : Res β :=
  match r with
  | .ok a S => f a S
  | .exc x S => .exc x S
  | .bad => .bad
def RX (mg : Str → Option Value) (ρ : List Addr) (x : Xc) (c : Value) (d : Option Addr) : Prop :=
  (match x.cls with
   | .fn n => mg n = some c ∧ ∃ a, c = .ref a
   | .ty n => c = .type n
   | _ => False) ∧
  (match x.d with
   | none => d = none
   | some k => ∃ a, d = some a ∧ ρ[k]? = some a)
theorem RX.up {mg : Str → Option Value} {ρ ρ' : List Addr} (g : Gr ρ ρ') {x : Xc} {c : Value} {d : Option Addr} (h : RX mg ρ x c d) : RX mg ρ' x c d := by
  obtain ⟨h1, h2⟩ := h
  refine ⟨h1, ?_⟩
  cases e : x.d with
  | none => rw [e] at h2; exact h2
  | some k =>
    rw [e] at h2
    obtain ⟨a, h2, h3⟩ := h2
    exact ⟨a, h2, g.get h3⟩

section
variable {α β γ δ : Type}
def wpG (K : PySem.W.Frag) (mg : Str → Option Value) (b : List Addr) (R : List Addr → α → β → Prop) (r : Res α) (ρ : List Addr) (σ : St) (W : WX) (Q : β → Hp → Prop) : Prop :=
  match r with
  | .ok u S => ∀ ρ' H' v, Gr ρ ρ' → Rep K mg b ρ' S H' → R ρ' u v → Q v H'
  | .exc x S => ∀ ρ' H' c d, Gr ρ ρ' → Rep K mg b ρ' S H' → RX mg ρ' x c d → W c d σ H'
  | .bad => False
variable {K : PySem.W.Frag} {mg : Str → Option Value} {b ρ ρ' : List Addr} {σ : St} {W : WX}
theorem wpG.up {R : List Addr → α → β → Prop} {r : Res α} {Q : β → Hp → Prop} (g : Gr ρ ρ') (h : wpG K mg b R r ρ σ W Q) : wpG K mg b R r ρ' σ W Q := by
  cases r with
  | ok u S => exact fun ρ2 H' v g2 => h ρ2 H' v (g.trans g2)
  | exc x S => exact fun ρ2 H' c d g2 => h ρ2 H' c d (g.trans g2)
  | bad => exact h
theorem wpG.bnd {R : List Addr → α → β → Prop} {R' : List Addr → γ → δ → Prop} {r : Res α} {f : α → Sto → Res γ} {Q : δ → Hp → Prop} {Q1 : β → Hp → Prop} (h : wpG K mg b R' (Mn.bnd r f) ρ σ W Q)
    (k : ∀ u S1, r = .ok u S1 → ∀ ρ1 H1 v, Gr ρ ρ1 → Rep K mg b ρ1 S1 H1 → R ρ1 u v → wpG K mg b R' (f u S1) ρ1 σ W Q → Q1 v H1) : wpG K mg b R r ρ σ W Q1 := by
  cases r with
  | ok u S => exact fun ρ1 H1 v g rp rv => k u S rfl ρ1 H1 v g rp rv (wpG.up g h)
  | exc x S => exact h
  | bad => exact h
theorem wpG.mono {R : List Addr → α → β → Prop} {r : Res α} {Q Q' : β → Hp → Prop} (h : wpG K mg b R r ρ σ W Q) (k : ∀ v H, Q v H → Q' v H) : wpG K mg b R r ρ σ W Q' := by
  cases r with
  | ok u S => exact fun ρ1 H1 v g rp rv => k v H1 (h ρ1 H1 v g rp rv)
  | exc x S => exact h
  | bad => exact h
end
abbrev wpE (K : PySem.W.Frag) (mg : Str → Option Value) (b : List Addr) : Res U → List Addr → St → WX → VK → Prop := wpG K mg b (RU mg)
abbrev wpA (K : PySem.W.Frag) (mg : Str → Option Value) (b : List Addr) : Res (List U) → List Addr → St → WX → (List V → Hp → Prop) → Prop := wpG K mg b (RUs mg)
abbrev wpT (K : PySem.W.Frag) (mg : Str → Option Value) (b : List Addr) : Res Bool → List Addr → St → WX → (Bool → Hp → Prop) → Prop := wpG K mg b (fun _ x y => x = y)

/-! ### the world that a piece of code stands in -/
/-- the names by slot, the scope, the names whose cells were made at the entry -/
structure Gm where
  N : List Str
  sc : Scope
  fl : Str → Bool
structure OkX (k : Nat) (Γ : Gm) (X : Cx) : Prop where
  n : X.N = Γ.N
  nd : Γ.N.Nodup
  sc : X.env.scope = Γ.sc
  fl : ∀ x, Γ.fl x = true → X.fn x = true
  calm : X.calm = true
  room : Room k X.A
  gd : X.A.guards = some []
/-- a def's promise, where no repr runs around it -/
structure FnG (P : Program) (w : World) (K : PySem.W.Frag) (mg : Str → Option Value) (base : Heap) (k : Nat) (f : Addr) (fd : FuncData) (ps : List Str) (sp : Sp) : Prop where
  len : ∀ vs H Q E, sp vs H Q E → vs.length = ps.length
  run : ∀ (A : Around) (outer : List Env) (s : Shared) (H : Hp) (args : Args) (us : List Value) (vs : List V) (Q : VK) (E : XK), Room k A → A.guards = some [] → Env0 P w K mg base A outer s H →
    BindsTo s fd args (ps.zip us) → Vals vs us → sp vs H Q E → codeAny (model P w) A (.call (.ref f) args) (CR (L2.CX P w) outer P w H s Q E) s
def spOf (K : PySem.W.Frag) (mg : Str → Option Value) (b : List Addr) (n : Nat) (g : List U → Sto → Res U) : Sp := fun vs H Q E =>
  vs.length = n ∧ ∃ ρ S us, Rep K mg b ρ S H ∧ RUs mg ρ us vs ∧ wpE K mg b (g us S) ρ [] (fun c d _ H' => E c d H') Q
/-- what is known by name: defs, constants of the module, built-ins that are still themselves -/
structure Cal where
  fn : Str → Option (Nat × (List U → Sto → Res U))
  gl : Str → Option U
  bi : List Str
  kd : Str → Option (List (Str × U))
structure CalOk (k : Nat) (X : Cx) (b : List Addr) (C : Cal) : Prop where
  fn : ∀ x n g, C.fn x = some (n, g) → ∃ (f : Addr) (fd : FuncData) (ps : List Str), X.mg x = some (.ref f) ∧ PySem.W.keepIn X.K (.ref f) = true ∧ Binds X.K fd ps [] ∧ ps.length = n ∧
    FnG X.prog X.w X.K X.mg X.base k f fd ps (spOf X.K X.mg b n g)
  gl : ∀ x u, C.gl x = some u → ∃ v val, X.mg x = some val ∧ RelV v val ∧ RU X.mg b u v
  bi : ∀ x, x ∈ C.bi → X.mg x = none
  kd : ∀ x kvs, C.kd x = some kvs → ∃ d es n, X.mg x = some (.ref d) ∧ KDict X.K X.w d es n ∧ ∀ z, (match kvs.lookup z with
    | some u => ∃ val v, PySem.W.nsIn X.K d z = some (some val) ∧ RelV v val ∧ RU X.mg b u v
    | none => PySem.W.nsIn X.K d z = some none)

def EnvR (mg : Str → Option Value) (ρ : List Addr) (env : Ev) (σ : St) : Prop := env.length = σ.length ∧ ∀ (i : Nat) (u : U), env[i]? = some (some u) → ∃ v, σ[i]? = some (some v) ∧ RU mg ρ u v
theorem EnvR.up {mg : Str → Option Value} {ρ ρ' : List Addr} {env : Ev} {σ : St} (g : Gr ρ ρ') (h : EnvR mg ρ env σ) : EnvR mg ρ' env σ :=
  ⟨h.1, fun i u e => let ⟨v, h1, h2⟩ := h.2 i u e; ⟨v, h1, h2.up g⟩⟩
theorem EnvR.set {mg : Str → Option Value} {ρ : List Addr} {env : Ev} {σ : St} (h : EnvR mg ρ env σ) {i : Nat} {u : U} {v : V} (r : RU mg ρ u v) : EnvR mg ρ (env.set i (some u)) (σ.set i (some v)) := by
  refine ⟨by simp [h.1], fun j u' e => ?_⟩
  by_cases hj : i = j
  · subst hj
    by_cases hi : i < env.length
    · rw [List.getElem?_set_self hi] at e
      cases e
      exact ⟨v, List.getElem?_set_self (by rw [← h.1]; exact hi), r⟩
    · rw [List.getElem?_eq_none (by simp; omega)] at e
      cases e
  · rw [List.getElem?_set_ne hj] at e
    obtain ⟨w, h1, h2⟩ := h.2 j u' e
    exact ⟨w, by rw [List.getElem?_set_ne hj]; exact h1, h2⟩

/-! ### the greatest readings -/
def tE (X : Cx) (e : Expr) : TE := fun σ H Q => ∀ pins s, Inv X pins σ H s → wpAny (model X.prog X.w) X.A (eval e X.env) (EP X pins σ Q) X.xe s
theorem pe_tE (X : Cx) (e : Expr) : PE X e (tE X e) := ⟨fun pins s _ _ _ I h => h pins s I⟩
theorem PE.max {X : Cx} {e : Expr} {t : TE} (h : PE X e t) {σ : St} {H : Hp} {Q : VK} (q : t σ H Q) : tE X e σ H Q := fun pins s I => h.run pins s σ H Q I q
def tT (X : Cx) (e : Expr) : TT := fun σ H Q => ∀ pins s, Inv X pins σ H s → wpAny (model X.prog X.w) X.A (isTrue e X.env (eval e X.env)) (TP X pins σ Q) X.xe s
theorem pt_tT (X : Cx) (e : Expr) : PT X e (tT X e) := ⟨fun pins s _ _ _ I h => h pins s I⟩
theorem PT.max {X : Cx} {e : Expr} {t : TT} (h : PT X e t) {σ : St} {H : Hp} {Q : Bool → Hp → Prop} (q : t σ H Q) : tT X e σ H Q := fun pins s I => h.run pins s σ H Q I q
def tA (X : Cx) (es : List Expr) : TA := fun σ H Q => ∀ pos pins s, Inv X pins σ H s → wpAny (model X.prog X.w) X.A (spliced (backTo pos (starEach es X.env))) (AP X pins σ Q) X.xe s
theorem pa_tA (X : Cx) (es : List Expr) : PA X es (tA X es) := ⟨fun pos pins s _ _ _ I h => h pos pins s I⟩
theorem PA.max {X : Cx} {es : List Expr} {t : TA} (h : PA X es t) {σ : St} {H : Hp} {Q : List V → Hp → Prop} (q : t σ H Q) : tA X es σ H Q := fun pos pins s I => h.run pos pins s σ H Q I q

section
variable (k : Nat) (Γ : Gm) (C : Cal)
structure SE (e : Expr) (m : Ev → Sto → Res U) : Prop where
  run : ∀ X b, OkX k Γ X → CalOk k X b C → ∀ W, Takes X W → ∀ σ H ρ env S Q, EnvR X.mg ρ env σ → Rep X.K X.mg b ρ S H →
  wpE X.K X.mg b (m env S) ρ σ W Q → tE X e σ H Q
structure ST (e : Expr) (m : Ev → Sto → Res Bool) : Prop where
  run : ∀ X b, OkX k Γ X → CalOk k X b C → ∀ W, Takes X W → ∀ σ H ρ env S Q, EnvR X.mg ρ env σ → Rep X.K X.mg b ρ S H →
  wpT X.K X.mg b (m env S) ρ σ W Q → tT X e σ H Q
structure SA (es : List Expr) (m : Ev → Sto → Res (List U)) : Prop where
  run : ∀ X b, OkX k Γ X → CalOk k X b C → ∀ W, Takes X W → ∀ σ H ρ env S Q, EnvR X.mg ρ env σ → Rep X.K X.mg b ρ S H →
  wpA X.K X.mg b (m env S) ρ σ W Q → tA X es σ H Q
end

/-! ### how large things may be -/
abbrev LIM : Nat := 1000000
theorem lim_line {n : Nat} (h : n ≤ LIM) : n ≤ sizeLine := Nat.le_trans h (by decide)

/-! ### truth -/
def truth (u : U) (S : Sto) : Option Bool :=
  match u with
  | .non => some false
  | .bl b => some b
  | .int i => some (i != 0)
  | .str x => if x.length ≤ LIM then some ((x.length : Int) != 0) else none
  | .ref k => match S[k]? with
    | some (.lst xs) => some (!xs.isEmpty)
    | some (.tup xs) => some (!xs.isEmpty)
    | some (.dct kvs) => some (!kvs.isEmpty)
    | _ => none
  | _ => none
section
variable {K : PySem.W.Frag} {mg : Str → Option Value} {b ρ ρ' : List Addr} {S : Sto} {H : Hp} {σ : St} {W : WX} {Q : VK}
theorem truth_ok {u : U} {v : V} {t : Bool} (r : Rep K mg b ρ S H) (h : RU mg ρ u v) (e : truth u S = some t) : TruV K v H t := by
  cases h with
  | non => cases e; exact rfl
  | bl b => cases e; exact rfl
  | int i => cases e; exact rfl
  | str x =>
    unfold truth at e
    dsimp only at e
    split at e
    · rename_i hl
      cases e
      exact ⟨lim_line hl, rfl⟩
    · cases e
  | fn e' => cases e
  | ty n => cases e
  | ref e' =>
    rename_i k a
    unfold truth at e
    dsimp only at e
    split at e
    · rename_i xs q
      cases e
      obtain ⟨vs, h1, h2⟩ := r.ob k _ a q e'
      exact .inl ⟨vs, .inl (.inl h2), by rw [paired_emp h1]⟩
    · rename_i xs q
      cases e
      obtain ⟨vs, h1, h2⟩ := r.ob k _ a q e'
      exact .inr (.inl ⟨vs, h2, by rw [paired_emp h1]⟩)
    · rename_i xs q
      cases e
      obtain ⟨vs, h1, h2⟩ := r.ob k _ a q e'
      exact .inr (.inr ⟨vs, h2, by rw [paired_emp h1]⟩)
    · cases e
end

/-! ### operators by values -/
def opB (o : Operator) (u v : U) (S : Sto) : Res U :=
  match o, u, v with
  | .Add, .int i, .int j => .ok (.int (i + j)) S
  | .Add, .str x, .str y => if x.length + y.length ≤ LIM then .ok (.str (x ++ y)) S else .bad
  | .Add, .ref j, .ref k => match S[j]?, S[k]? with
    | some (.lst xs), some (.lst ys) => if xs.length + ys.length ≤ LIM then .ok (.ref S.length) (S ++ [.lst (xs ++ ys)]) else .bad
    | some (.tup xs), some (.tup ys) => if xs.length + ys.length ≤ LIM then
        (if xs.isEmpty then .ok (.ref k) S else if ys.isEmpty then .ok (.ref j) S else .ok (.ref S.length) (S ++ [.tup (xs ++ ys)])) else .bad
    | _, _ => .bad
  | .Sub, .int i, .int j => .ok (.int (i - j)) S
  | .Mult, .int i, .int j => if i.natAbs < 2 ^ 64 ∨ j.natAbs < 2 ^ 64 then .ok (.int (i * j)) S else .bad
  | .FloorDiv, .int i, .int j => if j ≠ 0 ∧ j.natAbs < 1073741824 then .ok (.int (i.fdiv j)) S else .bad
  | .Mod, .int i, .int j => if j ≠ 0 then .ok (.int (i.fmod j)) S else .bad
  | .Pow, .int i, .int j => if 0 ≤ j ∧ j ≤ 1000000 ∧ i.natAbs < 2 ^ 64 then .ok (.int (i ^ j.toNat)) S else .bad
  | _, _, _ => .bad

section
variable {X : Cx} {b ρ : List Addr} {S : Sto} {H : Hp} {σ : St} {W : WX} {Q : VK} {pins : List (Addr × Obj)} {s : Shared} {x y : V} {v u : Value} {p q : U}
theorem opB_ok (o : Operator) (I : Inv X pins σ H s) (rx : RelV x v) (ry : RelV y u) (r : Rep X.K X.mg b ρ S H) (h1 : RU X.mg ρ p x) (h2 : RU X.mg ρ q y) (h : wpE X.K X.mg b (opB o p q S) ρ σ W Q) :
    wpAny (model X.prog X.w) X.A (binaryOp o v u) (EP X pins σ Q) X.xe s := by
  unfold opB at h
  split at h
  · cases h1; cases h2
    exact op_add pins s σ H _ _ _ _ Q I rx ry ⟨_, _, rfl, rfl, h ρ H _ (Gr.refl ρ) r (.int _)⟩
  · cases h1; cases h2
    split at h
    · rename_i hl
      exact op_add_str pins s σ H _ _ _ _ Q I rx ry ⟨_, _, rfl, rfl, lim_line hl, h ρ H _ (Gr.refl ρ) r (.str _)⟩
    · exact h.elim
  · split at h
    · rename_i j k xs ys ej ek
      split at h
      · rename_i hl
        obtain ⟨a1, rfl, _, vs1, p1, H1⟩ := r.of ej h1
        obtain ⟨a2, rfl, _, vs2, p2, H2⟩ := r.of ek h2
        refine op_cat pins s σ H _ _ _ _ Q I rx ry ⟨a1, a2, vs1, vs2, rfl, rfl, H1, H2, lim_line (by rw [← paired_len p1, ← paired_len p2]; exact hl), fun p hp => ?_⟩
        exact h _ _ _ (Gr.snoc ρ p) (r.lst hp (paired_app p1 p2)) (r.last p)
      · exact h.elim
    · rename_i j k xs ys ej ek
      split at h
      · rename_i hl
        obtain ⟨a1, rfl, _, vs1, p1, H1⟩ := r.of ej h1
        obtain ⟨a2, rfl, _, vs2, p2, H2⟩ := r.of ek h2
        refine op_catA pins s σ H _ _ _ _ Q I rx ry ⟨a1, a2, vs1, vs2, rfl, rfl, H1, H2, lim_line (by rw [← paired_len p1, ← paired_len p2]; exact hl), fun e => ?_, fun e e' => ?_, fun e e' p hp => ?_⟩
        · have e2 : xs.isEmpty = true := by rw [paired_emp p1, e]; rfl
          rw [if_pos e2] at h
          exact h ρ H _ (Gr.refl ρ) r h2
        · have e2 : ¬ xs.isEmpty = true := by rw [paired_emp p1]; simp [e]
          have e3 : ys.isEmpty = true := by rw [paired_emp p2, e']; rfl
          rw [if_neg e2, if_pos e3] at h
          exact h ρ H _ (Gr.refl ρ) r h1
        · have e2 : ¬ xs.isEmpty = true := by rw [paired_emp p1]; simp [e]
          have e3 : ¬ ys.isEmpty = true := by rw [paired_emp p2]; simp [e']
          rw [if_neg e2, if_neg e3] at h
          exact h _ _ _ (Gr.snoc ρ p) (r.tup hp (paired_app p1 p2)) (r.last p)
      · exact h.elim
    · exact h.elim
  · cases h1; cases h2
    exact op_sub pins s σ H _ _ _ _ Q I rx ry ⟨_, _, rfl, rfl, h ρ H _ (Gr.refl ρ) r (.int _)⟩
  · cases h1; cases h2
    split at h
    · rename_i hl
      refine op_mul pins s σ H _ _ _ _ Q I rx ry ⟨_, _, rfl, rfl, ?_, h ρ H _ (Gr.refl ρ) r (.int _)⟩
      rcases hl with hl | hl
      · exact .inl (by omega)
      · exact .inr (by omega)
    · exact h.elim
  · cases h1; cases h2
    split at h
    · rename_i hl
      exact op_fdivN pins s σ H _ _ _ _ Q I rx ry ⟨_, _, rfl, rfl, hl, h ρ H _ (Gr.refl ρ) r (.int _)⟩
    · exact h.elim
  · cases h1; cases h2
    split at h
    · rename_i hl
      exact op_modN pins s σ H _ _ _ _ Q I rx ry ⟨_, _, rfl, rfl, hl, h ρ H _ (Gr.refl ρ) r (.int _)⟩
    · exact h.elim
  · cases h1; cases h2
    split at h
    · rename_i hl
      exact op_pow pins s σ H _ _ _ _ Q I rx ry ⟨_, _, rfl, rfl, hl, h ρ H _ (Gr.refl ρ) r (.int _)⟩
    · exact h.elim
  · exact h.elim
end

/-! ### data as a whole -/
mutual
def dat : Nat → U → Sto → Option PyData
  | _, .non, _ => some .none
  | _, .bl b, _ => some (.bool b)
  | _, .int i, _ => some (.int i)
  | _, .str x, _ => some (.str x)
  | n + 1, .ref k, S => match S[k]? with
    | some (.lst xs) => (dats n xs S).map PyData.list
    | some (.scr xs) => (dats n xs S).map PyData.list
    | some (.tup xs) => (dats n xs S).map PyData.tuple
    | _ => none
  | _, _, _ => none
def dats : Nat → List U → Sto → Option (List PyData)
  | _, [], _ => some []
  | n, u :: us, S => match dat n u S, dats n us S with
    | some d, some ds => some (d :: ds)
    | _, _ => none
end
theorem scr_sql {K : PySem.W.Frag} {H : Hp} {a : Addr} {vs : List V} (h : (∃ ob, H a = some (.frz ob (.lst vs))) ∨ SqL K (fun _ => none) a vs) : SqL K H a vs := by
  rcases h with ⟨ob, h⟩ | h
  · exact .inl (.inr ⟨ob, h⟩)
  · rcases h with (h | ⟨ob, h⟩) | h
    · cases h
    · cases h
    · exact .inr h
section
variable {K : PySem.W.Frag} {mg : Str → Option Value} {b ρ : List Addr} {S : Sto} {H : Hp}
mutual
theorem dat_ok (r : Rep K mg b ρ S H) : ∀ (n : Nat) (u : U) (v : V) (d : PyData), RU mg ρ u v → dat n u S = some d → Dp K H v d
  | _, .non, _, _, h, e => by cases h; unfold dat at e; cases e; exact .non
  | _, .bl b, _, _, h, e => by cases h; unfold dat at e; cases e; exact .bl b
  | _, .int i, _, _, h, e => by cases h; unfold dat at e; cases e; exact .int i
  | _, .str x, _, _, h, e => by cases h; unfold dat at e; cases e; exact .str x
  | 0, .ref k, _, _, h, e => by unfold dat at e; cases e
  | n + 1, .ref k, v, d, h, e => by
    unfold dat at e
    cases h with
    | ref ha =>
      split at e
      · rename_i xs q
        obtain ⟨vs, p1, h1⟩ := r.ob k _ _ q ha
        cases e' : dats n xs S with
        | none => rw [e'] at e; cases e
        | some ds => rw [e'] at e; cases e; exact .lst (.inl (.inl h1)) (dats_ok r n xs vs ds p1 e')
      · rename_i xs q
        obtain ⟨vs, p1, h1⟩ := r.ob k _ _ q ha
        cases e' : dats n xs S with
        | none => rw [e'] at e; cases e
        | some ds => rw [e'] at e; cases e; exact .lst (scr_sql h1) (dats_ok r n xs vs ds p1 e')
      · rename_i xs q
        obtain ⟨vs, p1, h1⟩ := r.ob k _ _ q ha
        cases e' : dats n xs S with
        | none => rw [e'] at e; cases e
        | some ds => rw [e'] at e; cases e; exact .tup h1 (dats_ok r n xs vs ds p1 e')
      · cases e
  | _, .fn x, _, _, h, e => by unfold dat at e; cases e
  | _, .ty x, _, _, h, e => by unfold dat at e; cases e
theorem dats_ok (r : Rep K mg b ρ S H) : ∀ (n : Nat) (us : List U) (vs : List V) (ds : List PyData), RUs mg ρ us vs → dats n us S = some ds → DpAll K H vs ds
  | _, [], _, _, h, e => by cases h; unfold dats at e; cases e; exact .nil
  | n, u :: us, _, _, h, e => by
    cases h with
    | cons h1 h2 =>
      unfold dats at e
      split at e
      · rename_i d ds e1 e2
        cases e
        exact .cons (dat_ok r n u _ d h1 e1) (dats_ok r n us _ ds h2 e2)
      · cases e
end
end
end Mn
set_option Elab.async false
set_option linter.all false
set_option maxRecDepth 100000
set_option maxHeartbeats 4000000
/-! Mn3: expressions, one rule a form. -/
namespace Mn
open PySem PySem.Spec PyProof.Rows L2

/-! ### what the forms ask of the syntax -/
def plainE : Expr → Bool
  | .Starred _ _ => false
  | _ => true
theorem star_cons {e : Expr} {es : List Expr} {env : Env} (h : plainE e = true) : starEach (e :: es) env = (false, eval e env) :: starEach es env := by
  cases e <;> first | rfl | cases h
theorem star_any {pos : Pos} {env : Env} : ∀ {es : List Expr}, es.all plainE = true → (backTo pos (starEach es env)).any (·.1) = false
  | [], _ => rfl
  | e :: es, h => by
    rw [List.all_cons, Bool.and_eq_true] at h
    rw [star_cons h.1]
    have ih := star_any (pos := pos) (env := env) h.2
    unfold backTo at ih ⊢
    rw [List.map_cons, List.any_cons, ih]
    rfl
def notSl : Expr → Bool
  | .Slice _ _ _ _ => false
  | _ => true
theorem plain_ix {e : Expr} (h : notSl e = true) : PlainIx e := fun o i => by
  cases e <;> first | rfl | cases h
def notSet : Expr → Bool
  | .Set _ _ _ => false
  | _ => true
theorem not_behind {e : Expr} {op : CmpOp} (h : notSet e = true) : behindInMarks op e = false := by
  cases e <;> first | rfl | cases h
/-- its truth is that of its value -/
def valT : Expr → Bool
  | .UnaryOp _ _ _ => false
  | .BoolOp _ _ _ => false
  | .IfExp _ _ _ _ => false
  | .Compare _ _ _ _ => false
  | _ => true
theorem isTrue_val {e : Expr} {env : Env} (h : valT e = true) : ∀ whole, isTrue e env whole = (do let v ← whole; standAt e.pos; holding [v] (truthy v)) := fun whole => by
  cases e <;> first | rfl | cases h

section
variable {k : Nat} {Γ : Gm} {C : Cal}

/-! ### names and constants -/
def mVar (i : Nat) : Ev → Sto → Res U := fun env S => match env[i]? with
  | some (some u) => .ok u S
  | _ => .bad
def visB (sc : Scope) (x : Str) : Bool := match sc.names.lookup x with
  | some .local => true
  | some .cell => true
  | some .free => true
  | _ => false
theorem vis_of {sc : Scope} {x : Str} (h : visB sc x = true) : Vis sc x := by
  unfold visB at h
  unfold Vis
  split at h
  · exact .inl ‹_›
  · exact .inr (.inl ‹_›)
  · exact .inr (.inr ‹_›)
  · cases h
theorem se_var {i : Nat} {x : Str} {pos : Pos} (hN : Γ.N[i]? = some x) (hv : visB Γ.sc x = true) (hd : (x == ("__debug__" : Str)) = false) (hc : (x == ("__classdict__" : Str)) = false) : SE k Γ C (.Name x pos) (mVar i) := by
  refine ⟨?_⟩
  intro X b ok cal W tk σ H ρ env S Q er r h
  unfold mVar at h
  split at h
  · rename_i u e
    obtain ⟨v, h1, h2⟩ := er.2 i u e
    exact PE.max (pe_var (i := i) (by rw [ok.n]; exact hN) (by rw [ok.sc]; exact vis_of hv) hd hc) ⟨v, h1, h ρ H v (Gr.refl ρ) r h2⟩
  · exact h.elim
theorem se_int {i : Int} {j : Nat} {pos : Pos} : SE k Γ C (.Constant (.int i) j pos) fun _ S => .ok (.int i) S := ⟨fun X b ok cal W tk σ H ρ env S Q er r h =>
  PE.max pe_int (h ρ H _ (Gr.refl ρ) r (.int i))⟩
theorem se_bool {i : Bool} {j : Nat} {pos : Pos} : SE k Γ C (.Constant (.bool i) j pos) fun _ S => .ok (.bl i) S := ⟨fun X b ok cal W tk σ H ρ env S Q er r h =>
  PE.max pe_bl (h ρ H _ (Gr.refl ρ) r (.bl i))⟩
theorem se_none {j : Nat} {pos : Pos} : SE k Γ C (.Constant .none j pos) fun _ S => .ok .non S := ⟨fun X b ok cal W tk σ H ρ env S Q er r h =>
  PE.max pe_non (h ρ H _ (Gr.refl ρ) r .non)⟩
theorem se_str {x : Str} {j : Nat} {pos : Pos} : SE k Γ C (.Constant (.str x) j pos) fun _ S => .ok (.str x) S := ⟨fun X b ok cal W tk σ H ρ env S Q er r h =>
  PE.max pe_str (h ρ H _ (Gr.refl ρ) r (.str x))⟩
def glbB (sc : Scope) (x : Str) : Bool := match sc.names.lookup x with
  | some .globalImplicit => true
  | _ => false
theorem gl_of {X : Cx} {x : Str} (ok : OkX k Γ X) (h : glbB Γ.sc x = true) : Gl X x := by
  unfold glbB at h
  split at h
  · rename_i e
    show X.env.scope.names.lookup x = _
    rw [ok.sc]
    exact e
  · cases h
def mGl (C : Cal) (x : Str) : Ev → Sto → Res U := fun _ S => match C.gl x with
  | some u => .ok u S
  | none => .bad
theorem se_gl {x : Str} {pos : Pos} (hg : glbB Γ.sc x = true) (hd : (x == ("__debug__" : Str)) = false) : SE k Γ C (.Name x pos) (mGl C x) := by
  refine ⟨?_⟩
  intro X b ok cal W tk σ H ρ env S Q er r h
  unfold mGl at h
  split at h
  · rename_i u e
    obtain ⟨v, val, h1, h2, h3⟩ := cal.gl x u e
    exact PE.max (pe_glob (gl_of ok hg) h1 h2 hd) (h ρ H v (Gr.refl ρ) r (h3.up r.base))
  · exact h.elim

/-! ### operators -/
def mBin (o : Operator) (ma mb : Ev → Sto → Res U) : Ev → Sto → Res U := fun env S => bnd (ma env S) fun u S1 => bnd (mb env S1) fun v S2 => opB o u v S2
theorem se_bin {o : Operator} {a b : Expr} {pos : Pos} {ma mb : Ev → Sto → Res U} (ha : SE k Γ C a ma) (hb : SE k Γ C b mb) : SE k Γ C (.BinOp a o b pos) (mBin o ma mb) := by
  refine ⟨?_⟩
  intro X bs ok cal W tk σ H ρ env S Q er r h
  intro pins s I
  refine wpAny_BinOp (binT (R := fun x y H2 => ∀ pins s v u, L2.Inv X pins σ H2 s → RelV x v → RelV y u → wpAny (model X.prog X.w) X.A (binaryOp o v u) (EP X pins σ Q) X.xe s) (pe_tE X a) (pe_tE X b) I ?_
    fun v u s2 x y H2 I2 rx ry q => q pins s2 v u I2 rx ry)
  refine ha.run X bs ok cal W tk σ H ρ env S _ er r (wpG.bnd h fun p S1 _ ρ1 H1 x g1 r1 rp h1 => ?_)
  refine hb.run X bs ok cal W tk σ H1 ρ1 env S1 _ (er.up g1) r1 (wpG.bnd h1 fun q S2 _ ρ2 H2 y g2 r2 rq h2 => ?_)
  exact fun pins s v u I rx ry => opB_ok o I rx ry r2 (rp.up g2) rq h2
def mNeg (ma : Ev → Sto → Res U) : Ev → Sto → Res U := fun env S => bnd (ma env S) fun u S1 => match u with
  | .int i => .ok (.int (-i)) S1
  | _ => .bad
theorem se_neg {a : Expr} {pos : Pos} {ma : Ev → Sto → Res U} (ha : SE k Γ C a ma) : SE k Γ C (.UnaryOp .USub a pos) (mNeg ma) := by
  refine ⟨?_⟩
  intro X bs ok cal W tk σ H ρ env S Q er r h
  refine PE.max (pe_un un_neg (pe_tE X a)) ?_
  refine ha.run X bs ok cal W tk σ H ρ env S _ er r (wpG.bnd h fun p S1 _ ρ1 H1 x g1 r1 rp h1 => ?_)
  split at h1
  · cases rp
    exact ⟨_, rfl, h1 ρ1 H1 _ (Gr.refl _) r1 (.int _)⟩
  · exact h1.elim

/-! ### comparisons -/
end
def flatU : U → Bool
  | .non => true
  | .bl _ => true
  | .int _ => true
  | .str _ => true
  | _ => false
def v0 : U → V
  | .non => .non
  | .bl b => .bl b
  | .int i => .int i
  | .str x => .str x
  | _ => .non
theorem flat_v {mg : Str → Option Value} {ρ : List Addr} {u : U} {v : V} (h : RU mg ρ u v) (f : flatU u = true) : v = v0 u ∧ flatV v = true := by
  cases h <;> first | exact ⟨rfl, rfl⟩ | cases f
theorem flat_vs {mg : Str → Option Value} {ρ : List Addr} : ∀ {us : List U} {vs : List V}, RUs mg ρ us vs → us.all flatU = true → vs = us.map v0 ∧ vs.all flatV = true
  | _, _, .nil, _ => ⟨rfl, rfl⟩
  | u :: us, v :: vs, .cons h t, f => by
    rw [List.all_cons, Bool.and_eq_true] at f
    obtain ⟨e1, e2⟩ := flat_v h f.1
    obtain ⟨e3, e4⟩ := flat_vs t f.2
    refine ⟨by rw [List.map_cons, ← e1, ← e3], ?_⟩
    rw [List.all_cons, e2, e4]
    rfl
def keyU : U → Option Key
  | .int i => some (.inl i)
  | .str x => some (.inr x)
  | _ => none
theorem key_v {mg : Str → Option Value} {ρ : List Addr} {u : U} {v : V} {k : Key} (h : RU mg ρ u v) (e : keyU u = some k) : v = kV k := by
  cases h <;> first | (cases e; rfl) | cases e
/-- what stands by a key -/
def getK (kvs : List (Key × U)) (k : Key) : Option U := (kvs.find? fun kv => decide (kv.1 = k)).map (·.2)
theorem getK_ok {mg : Str → Option Value} {ρ : List Addr} {k : Key} : ∀ {kvs : List (Key × U)} {ks : List (Key × V)}, RP mg ρ kvs ks → (∀ u, getK kvs k = some u → ∃ v, valV ks k = some v ∧ RU mg ρ u v) ∧ (getK kvs k = none → valV ks k = none)
  | _, _, .nil => ⟨fun u e => (nomatch e), fun _ => rfl⟩
  | (a, u) :: kvs, (c, v) :: ks, .cons h t => by
    obtain ⟨e1, e2⟩ := h
    have e1 : a = c := e1
    subst e1
    obtain ⟨i1, i2⟩ := getK_ok (k := k) t
    unfold getK valV at i1 i2 ⊢
    rw [List.find?_cons, List.find?_cons]
    by_cases hk : a = k
    · simp only [hk, decide_true, Option.map_some]
      exact ⟨fun u' e => by cases e; exact ⟨v, rfl, e2⟩, fun e => by cases e⟩
    · simp only [hk, decide_false]
      exact ⟨i1, i2⟩
/-- what == tells apart as it stands -/
def scalU : U → U → Bool
  | .non, .non => true | .non, .int _ => true | .int _, .non => true | .non, .bl _ => true | .bl _, .non => true | .non, .str _ => true | .str _, .non => true
  | .int _, .int _ => true | .bl _, .bl _ => true | .str _, .str _ => true | .int _, .str _ => true | .str _, .int _ => true | .bl _, .str _ => true | .str _, .bl _ => true
  | _, _ => false
theorem scal_ok {mg : Str → Option Value} {ρ : List Addr} {u w : U} {x y : V} (h1 : RU mg ρ u x) (h2 : RU mg ρ w y) (e : scalU u w = true) : scal x y = true ∧ decide (x = y) = decide (u = w) := by
  cases h1 <;> cases h2 <;> first | (exact ⟨rfl, by simp⟩) | cases e
def opEq (u v : U) (S : Sto) : Option Bool := if scalU u v = true then some (decide (u = v)) else match dat 40 u S, dat 40 v S with
  | some d, some e => if SeqAt.shaped d = true ∧ SeqAt.shaped e = true then some (PyData.eqv d e) else none
  | _, _ => none
def opIn (u v : U) (S : Sto) : Option Bool := match u, v with
  | .str x, .str z => match x.cps.toList with
    | [c] => some (decide (c ∈ z.cps.toList))
    | _ => none
  | u, .ref k => match S[k]? with
    | some (.tup xs) => if flatU u = true ∧ xs.all flatU = true then some (inV (v0 u) (xs.map v0)) else none
    | some (.dct kvs) => (keyU u).map fun key => (getK kvs key).isSome
    | some (.lst xs) => if flatU u = true ∧ xs.all flatU = true then some (inV (v0 u) (xs.map v0)) else match dat 40 u S, dat 40 (.ref k) S with
      | some d, some (.list ds) => if SeqAt.shaped d = true ∧ SeqAt.shaped (.list ds) = true then some (ds.any fun z => PyData.eqv z d) else none
      | _, _ => none
    | _ => match dat 40 u S, dat 40 (.ref k) S with
      | some d, some (.list ds) => if SeqAt.shaped d = true ∧ SeqAt.shaped (.list ds) = true then some (ds.any fun z => PyData.eqv z d) else none
      | _, _ => none
  | _, _ => none
def opC (o : CmpOp) (u v : U) (S : Sto) : Option Bool :=
  match o with
  | .Eq => opEq u v S
  | .NotEq => (opEq u v S).map (!·)
  | .In => opIn u v S
  | .NotIn => (opIn u v S).map (!·)
  | .Lt => match u, v with
    | .int i, .int j => some (decide (i < j))
    | _, _ => none
  | .LtE => match u, v with
    | .int i, .int j => some (decide (i ≤ j))
    | .str x, .str y => some (!decide (y.cps.toList < x.cps.toList))
    | _, _ => none
  | .Gt => match u, v with
    | .int i, .int j => some (decide (j < i))
    | _, _ => none
  | .GtE => match u, v with
    | .int i, .int j => some (decide (j ≤ i))
    | _, _ => none
  | .Is => match u, v with
    | .bl x, .bl y => some (decide (x = y))
    | u, .non => some (decide (u = .non))
    | _, _ => none
  | .IsNot => match u, v with
    | .bl x, .bl y => some (!decide (x = y))
    | u, .non => some (!decide (u = .non))
    | _, _ => none
/-- the comparison of these two gives t -/
def CmpIs (X : Cx) (o : CmpOp) (x y : V) (H : Hp) (t : Bool) : Prop := ∀ pins s σ v u Q, L2.Inv X pins σ H s → RelV x v → RelV y u → Q (.bl t) H → wpAny (model X.prog X.w) X.A (compareOp o v u) (EP X pins σ Q) X.xe s
section
variable {X : Cx} {b ρ : List Addr} {S : Sto} {H : Hp} {x y : V} {p q : U} {t : Bool}
theorem opEq_ok (hu : X.A.units + 65 < cLine) (r : Rep X.K X.mg b ρ S H) (h1 : RU X.mg ρ p x) (h2 : RU X.mg ρ q y) (e : opEq p q S = some t) : CmpIs X .Eq x y H t ∧ CmpIs X .NotEq x y H (!t) := by
  unfold opEq at e
  split at e
  · rename_i hs
    cases e
    obtain ⟨s1, s2⟩ := scal_ok h1 h2 hs
    exact ⟨fun pins s σ v u Q I rx ry q => op_eq pins s σ H x y v u Q I rx ry ⟨s1, by rw [s2]; exact q⟩, fun pins s σ v u Q I rx ry q => op_ne pins s σ H x y v u Q I rx ry ⟨s1, by rw [s2]; exact q⟩⟩
  split at e
  · rename_i d d' e1 e2
    split at e
    · rename_i hs
      cases e
      exact ⟨fun pins s σ v u Q I rx ry q => op_eqD (by omega) pins s σ H x y v u Q I rx ry ⟨d, d', dat_ok r _ _ _ _ h1 e1, dat_ok r _ _ _ _ h2 e2, hs.1, hs.2, q⟩,
        fun pins s σ v u Q I rx ry q => op_neD (by omega) pins s σ H x y v u Q I rx ry ⟨d, d', dat_ok r _ _ _ _ h1 e1, dat_ok r _ _ _ _ h2 e2, hs.1, hs.2, q⟩⟩
    · cases e
  · cases e
theorem opIn_ok (hu : X.A.units + 65 < cLine) (r : Rep X.K X.mg b ρ S H) (h1 : RU X.mg ρ p x) (h2 : RU X.mg ρ q y) (e : opIn p q S = some t) : CmpIs X .In x y H t ∧ CmpIs X .NotIn x y H (!t) := by
  unfold opIn at e
  split at e
  · cases h1; cases h2
    rename_i x' z
    split at e
    rotate_left
    · cases e
    rename_i c ec
    have ex : x' = ⟨#[c]⟩ := by
      obtain ⟨cps⟩ := x'
      have ec : cps.toList = [c] := ec
      congr 1
      exact Array.toList_inj.mp ec
    subst ex
    cases e
    exact ⟨fun pins s σ v u Q I rx ry q => op_in_sign pins s σ H _ _ v u Q I rx ry ⟨_, _, rfl, rfl, q⟩, fun pins s σ v u Q I rx ry q => op_notIn_sign pins s σ H _ _ v u Q I rx ry ⟨_, _, rfl, rfl, q⟩⟩
  · rename_i k _
    split at e
    · rename_i xs ek
      split at e
      · rename_i hf
        cases e
        obtain ⟨a, rfl, _, vs, pv, hv⟩ := r.of ek h2
        obtain ⟨f1, f2⟩ := flat_v h1 hf.1
        obtain ⟨f3, f4⟩ := flat_vs pv hf.2
        subst f1
        subst f3
        refine ⟨fun pins s σ v u Q I rx ry q => op_in_seq pins s σ H _ _ v u Q I rx ry ⟨a, _, rfl, .inr hv, f2, f4, ?_⟩, fun pins s σ v u Q I rx ry q => op_notIn_seq pins s σ H _ _ v u Q I rx ry ⟨a, _, rfl, .inr hv, f2, f4, ?_⟩⟩
        · exact q
        · exact q
      · cases e
    · rename_i kvs ek
      obtain ⟨a, rfl, _, ks, pv, hv⟩ := r.of ek h2
      cases ekey : keyU p with
      | none => rw [ekey] at e; cases e
      | some key =>
        rw [ekey] at e
        cases e
        have hx := key_v h1 ekey
        subst hx
        have hs : (valV ks key).isSome = (getK kvs key).isSome := by
          cases eg : getK kvs key with
          | none => rw [(getK_ok pv).2 eg]; rfl
          | some w =>
            obtain ⟨v, e1, _⟩ := (getK_ok pv).1 w eg
            rw [e1]
            rfl
        have g : DGet H a (kV key) (valV ks key) := DGet.k hv
        refine ⟨fun pins s σ v u Q I rx ry q => ?_, fun pins s σ v u Q I rx ry q => ?_⟩
        · obtain rfl : u = Value.ref a := ry
          exact d_in (by omega) I g rx fun s3 I3 => ⟨.bl _, H, I3, rfl, by rw [hs]; exact q⟩
        · obtain rfl : u = Value.ref a := ry
          exact d_notIn (by omega) I g rx fun s3 I3 => ⟨.bl _, H, I3, rfl, by rw [hs]; exact q⟩
    · rename_i xs ek
      split at e
      · rename_i hf
        cases e
        obtain ⟨a, rfl, _, vs, pv, hv⟩ := r.of ek h2
        obtain ⟨f1, f2⟩ := flat_v h1 hf.1
        obtain ⟨f3, f4⟩ := flat_vs pv hf.2
        subst f1
        subst f3
        refine ⟨fun pins s σ v u Q I rx ry q => op_in_seq pins s σ H _ _ v u Q I rx ry ⟨a, _, rfl, .inl (.inl (.inl hv)), f2, f4, ?_⟩, fun pins s σ v u Q I rx ry q => op_notIn_seq pins s σ H _ _ v u Q I rx ry ⟨a, _, rfl, .inl (.inl (.inl hv)), f2, f4, ?_⟩⟩
        · exact q
        · exact q
      · split at e
        · rename_i d ds e1 e2
          split at e
          · rename_i hs
            cases e
            exact ⟨fun pins s σ v u Q I rx ry q => op_inD hu pins s σ H x y v u Q I rx ry ⟨d, ds, dat_ok r _ _ _ _ h1 e1, dat_ok r _ _ _ _ h2 e2, hs.1, hs.2, q⟩,
              fun pins s σ v u Q I rx ry q => op_notInD hu pins s σ H x y v u Q I rx ry ⟨d, ds, dat_ok r _ _ _ _ h1 e1, dat_ok r _ _ _ _ h2 e2, hs.1, hs.2, q⟩⟩
          · cases e
        · cases e
    · split at e
      · rename_i d ds e1 e2
        split at e
        · rename_i hs
          cases e
          exact ⟨fun pins s σ v u Q I rx ry q => op_inD hu pins s σ H x y v u Q I rx ry ⟨d, ds, dat_ok r _ _ _ _ h1 e1, dat_ok r _ _ _ _ h2 e2, hs.1, hs.2, q⟩,
            fun pins s σ v u Q I rx ry q => op_notInD hu pins s σ H x y v u Q I rx ry ⟨d, ds, dat_ok r _ _ _ _ h1 e1, dat_ok r _ _ _ _ h2 e2, hs.1, hs.2, q⟩⟩
        · cases e
      · cases e
  · cases e
theorem ru_non {mg : Str → Option Value} {ρ : List Addr} {u : U} {v : V} (h : RU mg ρ u v) : (v = .non) = (u = .non) := by
  cases h <;> simp
theorem opC_ok (o : CmpOp) (hu : X.A.units + 65 < cLine) (r : Rep X.K X.mg b ρ S H) (h1 : RU X.mg ρ p x) (h2 : RU X.mg ρ q y) (e : opC o p q S = some t) : CmpIs X o x y H t := by
  cases o with
  | Eq => exact (opEq_ok hu r h1 h2 e).1
  | NotEq =>
    cases e' : opEq p q S with
    | none => unfold opC at e; rw [e'] at e; cases e
    | some t' => unfold opC at e; rw [e'] at e; cases e; exact (opEq_ok hu r h1 h2 e').2
  | In => exact (opIn_ok hu r h1 h2 e).1
  | NotIn =>
    cases e' : opIn p q S with
    | none => unfold opC at e; rw [e'] at e; cases e
    | some t' => unfold opC at e; rw [e'] at e; cases e; exact (opIn_ok hu r h1 h2 e').2
  | Lt =>
    unfold opC at e
    dsimp only at e
    split at e
    · cases h1; cases h2; cases e
      exact fun pins s σ v u Q I rx ry q => op_lt pins s σ H _ _ v u Q I rx ry ⟨_, _, rfl, rfl, q⟩
    · cases e
  | LtE =>
    unfold opC at e
    dsimp only at e
    split at e
    · cases h1; cases h2; cases e
      exact fun pins s σ v u Q I rx ry q => op_le pins s σ H _ _ v u Q I rx ry ⟨_, _, rfl, rfl, q⟩
    · cases h1; cases h2; cases e
      exact fun pins s σ v u Q I rx ry q => op_le_str pins s σ H _ _ v u Q I rx ry ⟨_, _, rfl, rfl, q⟩
    · cases e
  | Gt =>
    unfold opC at e
    dsimp only at e
    split at e
    · cases h1; cases h2; cases e
      exact fun pins s σ v u Q I rx ry q => op_gt pins s σ H _ _ v u Q I rx ry ⟨_, _, rfl, rfl, q⟩
    · cases e
  | GtE =>
    unfold opC at e
    dsimp only at e
    split at e
    · cases h1; cases h2; cases e
      exact fun pins s σ v u Q I rx ry q => op_ge pins s σ H _ _ v u Q I rx ry ⟨_, _, rfl, rfl, q⟩
    · cases e
  | Is =>
    unfold opC at e
    dsimp only at e
    split at e
    · cases h1; cases h2; cases e
      exact fun pins s σ v u Q I rx ry q => op_isBl pins s σ H _ _ v u Q I rx ry ⟨_, _, rfl, rfl, q⟩
    · cases h2; cases e
      refine fun pins s σ v u Q I rx ry q => op_isN pins s σ H _ _ v u Q I rx ry ⟨rfl, ?_⟩
      rw [show decide (x = V.non) = decide (p = U.non) from by rw [decide_eq_decide, ru_non h1]]
      exact q
    · cases e
  | IsNot =>
    unfold opC at e
    dsimp only at e
    split at e
    · cases h1; cases h2; cases e
      exact fun pins s σ v u Q I rx ry q => op_notBl pins s σ H _ _ v u Q I rx ry ⟨_, _, rfl, rfl, q⟩
    · cases h2; cases e
      refine fun pins s σ v u Q I rx ry q => op_notN pins s σ H _ _ v u Q I rx ry ⟨rfl, ?_⟩
      rw [show decide (x = V.non) = decide (p = U.non) from by rw [decide_eq_decide, ru_non h1]]
      exact q
    · cases e
end
end Mn
set_option Elab.async false
set_option linter.all false
set_option maxRecDepth 100000
set_option maxHeartbeats 4000000
/-! Mn4: comparisons, truth, displays, subscripts, calls, one rule a form. -/
namespace Mn
open PySem PySem.Spec PyProof.Rows L2

theorem lk_units {k : Nat} {A : Around} (r : Room k A) : A.units + 65 < cLine := by have := r.un; omega

/-- a comparison, as a relation of values -/
def rC (X : Cx) (o : CmpOp) : R2 := fun x y H Q => ∃ t, CmpIs X o x y H t ∧ Q (.bl t) H
theorem rC_op (X : Cx) (o : CmpOp) : OpR X (compareOp o) (rC X o) := fun pins s σ H x y v u Q I rx ry ⟨t, c, q⟩ => c pins s σ v u Q I rx ry q

section
variable {k : Nat} {Γ : Gm} {C : Cal}
def opR {α : Type} (o : Option α) (S : Sto) : Res α := match o with
  | some t => .ok t S
  | none => .bad
def mCmpT (o : CmpOp) (ma mb : Ev → Sto → Res U) : Ev → Sto → Res Bool := fun env S => bnd (ma env S) fun u S1 => bnd (mb env S1) fun v S2 => opR (opC o u v S2) S2
def toB (m : Ev → Sto → Res Bool) : Ev → Sto → Res U := fun env S => bnd (m env S) fun t S1 => .ok (.bl t) S1
/-- from a test's worth to the value's -/
theorem wp_toB {K : PySem.W.Frag} {mg : Str → Option Value} {b ρ : List Addr} {σ : St} {W : WX} {Q : VK} {r : Res Bool} (h : wpE K mg b (bnd r fun t S1 => .ok (.bl t) S1) ρ σ W Q) : wpT K mg b r ρ σ W (fun t H => Q (.bl t) H) := by
  cases r with
  | ok t S => exact fun ρ' H' v g r e => by subst e; exact h ρ' H' _ g r (.bl t)
  | exc x S => exact h
  | bad => exact h
theorem cmp_core {o : CmpOp} {a c : Expr} {ma mb : Ev → Sto → Res U} (ha : SE k Γ C a ma) (hb : SE k Γ C c mb) {X : Cx} {b : List Addr} (ok : OkX k Γ X) (cal : CalOk k X b C) {W : WX} (tk : Takes X W)
    {σ : St} {H : Hp} {ρ : List Addr} {env : Ev} {S : Sto} {Q : Bool → Hp → Prop} (er : EnvR X.mg ρ env σ) (r : Rep X.K X.mg b ρ S H) (h : wpT X.K X.mg b (mCmpT o ma mb env S) ρ σ W Q) :
    tOp (rC X o) (tE X a) (tE X c) σ H (fun z H' => ∃ t, z = .bl t ∧ Q t H') := by
  refine ha.run X b ok cal W tk σ H ρ env S _ er r (wpG.bnd h fun p S1 _ ρ1 H1 x g1 r1 rp h1 => ?_)
  refine hb.run X b ok cal W tk σ H1 ρ1 env S1 _ (er.up g1) r1 (wpG.bnd h1 fun q S2 _ ρ2 H2 y g2 r2 rq h2 => ?_)
  cases e : opC o p q S2 with
  | none => rw [e] at h2; exact h2.elim
  | some t =>
    rw [e] at h2
    exact ⟨t, opC_ok o (lk_units ok.room) r2 (rp.up g2) rq e, t, rfl, h2 ρ2 H2 t (Gr.refl _) r2 rfl⟩
theorem st_cmp {o : CmpOp} {a c : Expr} {pos : Pos} {ma mb : Ev → Sto → Res U} (ha : SE k Γ C a ma) (hb : SE k Γ C c mb) (hs : notSet c = true) : ST k Γ C (.Compare a [o] [c] pos) (mCmpT o ma mb) := by
  refine ⟨?_⟩
  intro X b ok cal W tk σ H ρ env S Q er r h
  exact PT.max (pt_cmpR (rC_op X o) (pe_tE X a) (pe_tE X c) (not_behind hs)) (cmp_core ha hb ok cal tk er r h)
theorem tOp_mono {r : R2} {ta tb : TE} (hr : ∀ x y H Q Q', r x y H Q → (∀ v H, Q v H → Q' v H) → r x y H Q') : True := trivial
theorem se_cmp {o : CmpOp} {a c : Expr} {pos : Pos} {ma mb : Ev → Sto → Res U} (ha : SE k Γ C a ma) (hb : SE k Γ C c mb) (hs : notSet c = true) : SE k Γ C (.Compare a [o] [c] pos) (toB (mCmpT o ma mb)) := by
  refine ⟨?_⟩
  intro X b ok cal W tk σ H ρ env S Q er r h
  have h := wp_toB h
  refine PE.max (pe_cmpR (rC_op X o) (pe_tE X a) (pe_tE X c) (not_behind hs)) ?_
  refine ha.run X b ok cal W tk σ H ρ env S _ er r (wpG.bnd h fun p S1 _ ρ1 H1 x g1 r1 rp h1 => ?_)
  refine hb.run X b ok cal W tk σ H1 ρ1 env S1 _ (er.up g1) r1 (wpG.bnd h1 fun q S2 _ ρ2 H2 y g2 r2 rq h2 => ?_)
  cases e : opC o p q S2 with
  | none => rw [e] at h2; exact h2.elim
  | some t =>
    rw [e] at h2
    exact ⟨t, opC_ok o (lk_units ok.room) r2 (rp.up g2) rq e, h2 ρ2 H2 t (Gr.refl _) r2 rfl⟩
def mChnT (o o' : CmpOp) (ma mb mc : Ev → Sto → Res U) : Ev → Sto → Res Bool := fun env S => bnd (ma env S) fun u S1 => bnd (mb env S1) fun v S2 => match opC o u v S2 with
  | some true => bnd (mc env S2) fun w S3 => opR (opC o' v w S3) S3
  | some false => .ok false S2
  | none => .bad
theorem chn_core {o o' : CmpOp} {a c d : Expr} {ma mb mc : Ev → Sto → Res U} (ha : SE k Γ C a ma) (hb : SE k Γ C c mb) (hc : SE k Γ C d mc) {X : Cx} {b : List Addr} (ok : OkX k Γ X) (cal : CalOk k X b C) {W : WX} (tk : Takes X W)
    {σ : St} {H : Hp} {ρ : List Addr} {env : Ev} {S : Sto} {Q : VK} (er : EnvR X.mg ρ env σ) (r : Rep X.K X.mg b ρ S H) (h : wpT X.K X.mg b (mChnT o o' ma mb mc env S) ρ σ W fun t H' => Q (.bl t) H') :
    tChain (rC X o) (rC X o') (tE X a) (tE X c) (tE X d) σ H Q := by
  refine ha.run X b ok cal W tk σ H ρ env S _ er r (wpG.bnd h fun p S1 _ ρ1 H1 x g1 r1 rp h1 => ?_)
  refine hb.run X b ok cal W tk σ H1 ρ1 env S1 _ (er.up g1) r1 (wpG.bnd h1 fun q S2 _ ρ2 H2 y g2 r2 rq h2 => ?_)
  cases e : opC o p q S2 with
  | none => rw [e] at h2; exact h2.elim
  | some t =>
    rw [e] at h2
    refine ⟨t, opC_ok o (lk_units ok.room) r2 (rp.up g2) rq e, t, rfl, ?_⟩
    cases t with
    | false => exact iteF (h2 ρ2 H2 false (Gr.refl _) r2 rfl)
    | true =>
      refine iteT ?_
      refine hc.run X b ok cal W tk σ H2 ρ2 env S2 _ ((er.up g1).up g2) r2 (wpG.bnd h2 fun z S3 _ ρ3 H3 y3 g3 r3 rz h3 => ?_)
      cases e3 : opC o' q z S3 with
      | none => rw [e3] at h3; exact h3.elim
      | some t3 =>
        rw [e3] at h3
        exact ⟨t3, opC_ok o' (lk_units ok.room) r3 (rq.up g3) rz e3, h3 ρ3 H3 t3 (Gr.refl _) r3 rfl⟩
theorem last2 {o o' : CmpOp} {c d : Expr} (h : notSet d = true) : lastMarks [o, o'] [c, d] = false := by
  show lastMarks [o'] [d] = false
  show behindInMarks o' d = false
  exact not_behind h
theorem se_chn {o o' : CmpOp} {a c d : Expr} {pos : Pos} {ma mb mc : Ev → Sto → Res U} (ha : SE k Γ C a ma) (hb : SE k Γ C c mb) (hc : SE k Γ C d mc) (hs : notSet d = true) : SE k Γ C (.Compare a [o, o'] [c, d] pos) (toB (mChnT o o' ma mb mc)) := by
  refine ⟨?_⟩
  intro X b ok cal W tk σ H ρ env S Q er r h
  exact PE.max (pe_chain (rC_op X o) (rC_op X o') (pe_tE X a) (pe_tE X c) (pe_tE X d) (last2 hs)) (chn_core ha hb hc ok cal tk er r (wp_toB h))
theorem st_chn {o o' : CmpOp} {a c d : Expr} {pos : Pos} {ma mb mc : Ev → Sto → Res U} (ha : SE k Γ C a ma) (hb : SE k Γ C c mb) (hc : SE k Γ C d mc) (hs : notSet d = true) : ST k Γ C (.Compare a [o, o'] [c, d] pos) (mChnT o o' ma mb mc) := by
  refine ⟨?_⟩
  intro X b ok cal W tk σ H ρ env S Q er r h
  refine PT.max (pt_chain (rC_op X o) (rC_op X o') (pe_tE X a) (pe_tE X c) (pe_tE X d) (last2 hs)) (chn_core (Q := fun x H' => ∃ t, x = .bl t ∧ Q t H') ha hb hc ok cal tk er r ?_)
  exact wpG.mono h fun t H' q => ⟨t, rfl, q⟩

/-! ### truth -/
def tru (m : Ev → Sto → Res U) : Ev → Sto → Res Bool := fun env S => bnd (m env S) fun u S1 => opR (truth u S1) S1
theorem st_val {e : Expr} {m : Ev → Sto → Res U} (h : SE k Γ C e m) (hv : valT e = true) : ST k Γ C e (tru m) := by
  refine ⟨?_⟩
  intro X b ok cal W tk σ H ρ env S Q er r hw
  refine PT.max (pt_truth (pe_tE X e) (isTrue_val hv)) ?_
  refine h.run X b ok cal W tk σ H ρ env S _ er r (wpG.bnd hw fun p S1 _ ρ1 H1 x g1 r1 rp h1 => ?_)
  cases e' : truth p S1 with
  | none => rw [e'] at h1; exact h1.elim
  | some t =>
    rw [e'] at h1
    exact ⟨t, truth_ok r1 rp e', h1 ρ1 H1 t (Gr.refl _) r1 rfl⟩
def mNotT (m : Ev → Sto → Res Bool) : Ev → Sto → Res Bool := fun env S => bnd (m env S) fun t S1 => .ok (!t) S1
theorem st_not {e : Expr} {pos : Pos} {m : Ev → Sto → Res Bool} (h : ST k Γ C e m) : ST k Γ C (.UnaryOp .Not e pos) (mNotT m) := by
  refine ⟨?_⟩
  intro X b ok cal W tk σ H ρ env S Q er r hw
  refine PT.max (pt_not (pt_tT X e)) ?_
  refine h.run X b ok cal W tk σ H ρ env S _ er r (wpG.bnd hw fun p S1 _ ρ1 H1 x g1 r1 rp h1 => ?_)
  subst rp
  exact h1 ρ1 H1 _ (Gr.refl _) r1 rfl
/-- not, as a value -/
theorem se_not {e : Expr} {pos : Pos} {m : Ev → Sto → Res U} (h : SE k Γ C e m) : SE k Γ C (.UnaryOp .Not e pos) (toB (mNotT (tru m))) := by
  refine ⟨?_⟩
  intro X b ok cal W tk σ H ρ env S Q er r hw
  have hw := wp_toB hw
  refine PE.max (pe_notT (pe_tE X e)) ?_
  refine h.run X b ok cal W tk σ H ρ env S _ er r ?_
  unfold mNotT tru at hw
  cases hm : m env S with
  | exc x S1 => rw [hm] at hw; exact hw
  | bad => rw [hm] at hw; exact hw
  | ok p S1 =>
    rw [hm] at hw
    intro ρ1 H1 v g1 r1 rp
    cases e' : truth p S1 with
    | none =>
      have hw : wpT X.K X.mg b (bnd (opR (truth p S1) S1) fun t S1 => Res.ok (!t) S1) ρ σ W _ := hw
      rw [e'] at hw
      exact hw.elim
    | some t =>
      have hw : wpT X.K X.mg b (bnd (opR (truth p S1) S1) fun t S1 => Res.ok (!t) S1) ρ σ W _ := hw
      rw [e'] at hw
      exact ⟨t, truth_ok r1 rp e', hw ρ1 H1 _ g1 r1 rfl⟩
def mAndT (ma mb : Ev → Sto → Res Bool) : Ev → Sto → Res Bool := fun env S => bnd (ma env S) fun t S1 => if t = true then mb env S1 else .ok false S1
def mOrT (ma mb : Ev → Sto → Res Bool) : Ev → Sto → Res Bool := fun env S => bnd (ma env S) fun t S1 => if t = true then .ok true S1 else mb env S1
/-- a test whatever its whole is -/
structure SW (k : Nat) (Γ : Gm) (C : Cal) (e : Expr) (m : Ev → Sto → Res Bool) : Prop where
  run : ∀ X b, OkX k Γ X → CalOk k X b C → ∀ W, Takes X W → ∀ σ H ρ env S Q, EnvR X.mg ρ env σ → Rep X.K X.mg b ρ S H →
  wpT X.K X.mg b (m env S) ρ σ W Q → ∀ wh pins s, L2.Inv X pins σ H s → wpAny (model X.prog X.w) X.A (isTrue e X.env wh) (TP X pins σ Q) X.xe s
theorem SW.st {e : Expr} {m : Ev → Sto → Res Bool} (h : SW k Γ C e m) : ST k Γ C e m := ⟨fun X b ok cal W tk σ H ρ env S Q er r hw pins s I => h.run X b ok cal W tk σ H ρ env S Q er r hw _ pins s I⟩
theorem sw_and1 {e : Expr} {pos : Pos} {m : Ev → Sto → Res Bool} (h : ST k Γ C e m) : SW k Γ C (.BoolOp .And [e] pos) m := by
  refine ⟨?_⟩
  intro X b ok cal W tk σ H ρ env S Q er r hw wh pins s I
  exact (pw_and1 (pos := pos) (pt_tT X e)).run wh pins s σ H Q I (h.run X b ok cal W tk σ H ρ env S Q er r hw)
theorem sw_or1 {e : Expr} {pos : Pos} {m : Ev → Sto → Res Bool} (h : ST k Γ C e m) : SW k Γ C (.BoolOp .Or [e] pos) m := by
  refine ⟨?_⟩
  intro X b ok cal W tk σ H ρ env S Q er r hw wh pins s I
  exact (pw_or1 (pos := pos) (pt_tT X e)).run wh pins s σ H Q I (h.run X b ok cal W tk σ H ρ env S Q er r hw)
theorem sw_and {e f : Expr} {rest : List Expr} {pos : Pos} {m m' : Ev → Sto → Res Bool} (h : ST k Γ C e m) (h' : SW k Γ C (.BoolOp .And (f :: rest) pos) m') : SW k Γ C (.BoolOp .And (e :: f :: rest) pos) (mAndT m m') := by
  refine ⟨?_⟩
  intro X b ok cal W tk σ H ρ env S Q er r hw wh pins s I
  refine isTrue_and (thn (h.run X b ok cal W tk σ H ρ env S (fun c H1 => ∀ pins s, L2.Inv X pins σ H1 s → if c = true then wpAny (model X.prog X.w) X.A (isTrue (.BoolOp .And (f :: rest) pos) X.env wh) (TP X pins σ Q) X.xe s else Q false H1) er r
    (wpG.bnd hw fun t S1 _ ρ1 H1 v g1 r1 e1 h1 => ?_) pins s I) fun c s1 ⟨H1, I1, q1⟩ => ?_)
  · subst e1
    intro pins s I
    cases t with
    | true => exact h'.run X b ok cal W tk σ H1 ρ1 env S1 Q (er.up g1) r1 h1 wh pins s I
    | false => exact h1 ρ1 H1 _ (Gr.refl _) r1 rfl
  · have := q1 pins s1 I1
    cases c with
    | true => exact this
    | false => exact ⟨H1, I1, this⟩
theorem sw_or {e f : Expr} {rest : List Expr} {pos : Pos} {m m' : Ev → Sto → Res Bool} (h : ST k Γ C e m) (h' : SW k Γ C (.BoolOp .Or (f :: rest) pos) m') : SW k Γ C (.BoolOp .Or (e :: f :: rest) pos) (mOrT m m') := by
  refine ⟨?_⟩
  intro X b ok cal W tk σ H ρ env S Q er r hw wh pins s I
  refine isTrue_or (thn (h.run X b ok cal W tk σ H ρ env S (fun c H1 => ∀ pins s, L2.Inv X pins σ H1 s → if c = true then Q true H1 else wpAny (model X.prog X.w) X.A (isTrue (.BoolOp .Or (f :: rest) pos) X.env wh) (TP X pins σ Q) X.xe s) er r
    (wpG.bnd hw fun t S1 _ ρ1 H1 v g1 r1 e1 h1 => ?_) pins s I) fun c s1 ⟨H1, I1, q1⟩ => ?_)
  · subst e1
    intro pins s I
    cases t with
    | true => exact h1 ρ1 H1 _ (Gr.refl _) r1 rfl
    | false => exact h'.run X b ok cal W tk σ H1 ρ1 env S1 Q (er.up g1) r1 h1 wh pins s I
  · have := q1 pins s1 I1
    cases c with
    | true => exact ⟨H1, I1, this⟩
    | false => exact this
/-- and, or as values -/
def mAnd (ma mb : Ev → Sto → Res U) : Ev → Sto → Res U := fun env S => bnd (ma env S) fun u S1 => match truth u S1 with
  | some true => mb env S1
  | some false => .ok u S1
  | none => .bad
def mOr (ma mb : Ev → Sto → Res U) : Ev → Sto → Res U := fun env S => bnd (ma env S) fun u S1 => match truth u S1 with
  | some true => .ok u S1
  | some false => mb env S1
  | none => .bad
theorem se_one {op : BoolOp} {e : Expr} {pos : Pos} {m : Ev → Sto → Res U} (h : SE k Γ C e m) : SE k Γ C (.BoolOp op [e] pos) m := by
  refine ⟨?_⟩
  intro X b ok cal W tk σ H ρ env S Q er r hw
  exact PE.max (pe_one (pe_tE X e)) (h.run X b ok cal W tk σ H ρ env S Q er r hw)
theorem se_and {e f : Expr} {rest : List Expr} {pos : Pos} {m m' : Ev → Sto → Res U} (h : SE k Γ C e m) (h' : SE k Γ C (.BoolOp .And (f :: rest) pos) m') : SE k Γ C (.BoolOp .And (e :: f :: rest) pos) (mAnd m m') := by
  refine ⟨?_⟩
  intro X b ok cal W tk σ H ρ env S Q er r hw
  refine PE.max (pe_andT (pe_tE X e) (pe_tE X _)) ?_
  refine h.run X b ok cal W tk σ H ρ env S _ er r (wpG.bnd hw fun p S1 _ ρ1 H1 v g1 r1 rp h1 => ?_)
  cases e1 : truth p S1 with
  | none => rw [e1] at h1; exact h1.elim
  | some t =>
    rw [e1] at h1
    refine ⟨t, truth_ok r1 rp e1, ?_⟩
    cases t with
    | true => exact iteT (h'.run X b ok cal W tk σ H1 ρ1 env S1 Q (er.up g1) r1 h1)
    | false => exact iteF (h1 ρ1 H1 v (Gr.refl _) r1 rp)
theorem se_or {e f : Expr} {rest : List Expr} {pos : Pos} {m m' : Ev → Sto → Res U} (h : SE k Γ C e m) (h' : SE k Γ C (.BoolOp .Or (f :: rest) pos) m') : SE k Γ C (.BoolOp .Or (e :: f :: rest) pos) (mOr m m') := by
  refine ⟨?_⟩
  intro X b ok cal W tk σ H ρ env S Q er r hw
  refine PE.max (pe_orT (pe_tE X e) (pe_tE X _)) ?_
  refine h.run X b ok cal W tk σ H ρ env S _ er r (wpG.bnd hw fun p S1 _ ρ1 H1 v g1 r1 rp h1 => ?_)
  cases e1 : truth p S1 with
  | none => rw [e1] at h1; exact h1.elim
  | some t =>
    rw [e1] at h1
    refine ⟨t, truth_ok r1 rp e1, ?_⟩
    cases t with
    | true => exact iteT (h1 ρ1 H1 v (Gr.refl _) r1 rp)
    | false => exact iteF (h'.run X b ok cal W tk σ H1 ρ1 env S1 Q (er.up g1) r1 h1)
def mIfe (mc : Ev → Sto → Res Bool) (ma mb : Ev → Sto → Res U) : Ev → Sto → Res U := fun env S => bnd (mc env S) fun t S1 => if t = true then ma env S1 else mb env S1
theorem se_ife {c e f : Expr} {pos : Pos} {mc : Ev → Sto → Res Bool} {m m' : Ev → Sto → Res U} (hc : ST k Γ C c mc) (h : SE k Γ C e m) (h' : SE k Γ C f m') : SE k Γ C (.IfExp c e f pos) (mIfe mc m m') := by
  refine ⟨?_⟩
  intro X b ok cal W tk σ H ρ env S Q er r hw
  refine PE.max (pe_ifExp (pt_tT X c) (pe_tE X e) (pe_tE X f)) ?_
  refine hc.run X b ok cal W tk σ H ρ env S _ er r (wpG.bnd hw fun t S1 _ ρ1 H1 v g1 r1 e1 h1 => ?_)
  subst e1
  cases t with
  | true => exact iteT (h.run X b ok cal W tk σ H1 ρ1 env S1 Q (er.up g1) r1 h1)
  | false => exact iteF (h'.run X b ok cal W tk σ H1 ρ1 env S1 Q (er.up g1) r1 h1)

/-! ### rows of arguments, displays -/
def mNil : Ev → Sto → Res (List U) := fun _ S => .ok [] S
def mCons (m : Ev → Sto → Res U) (ms : Ev → Sto → Res (List U)) : Ev → Sto → Res (List U) := fun env S => bnd (m env S) fun u S1 => bnd (ms env S1) fun us S2 => .ok (u :: us) S2
theorem sa_nil : SA k Γ C [] mNil := ⟨fun X b ok cal W tk σ H ρ env S Q er r hw => PA.max pa_nil (hw ρ H [] (Gr.refl ρ) r .nil)⟩
theorem sa_cons {e : Expr} {es : List Expr} {m : Ev → Sto → Res U} {ms : Ev → Sto → Res (List U)} (h : SE k Γ C e m) (h' : SA k Γ C es ms) (hp : plainE e = true) : SA k Γ C (e :: es) (mCons m ms) := by
  refine ⟨?_⟩
  intro X b ok cal W tk σ H ρ env S Q er r hw
  refine PA.max (pa_cons (pe_tE X e) (pa_tA X es) (star_cons hp)) ?_
  refine h.run X b ok cal W tk σ H ρ env S _ er r (wpG.bnd hw fun p S1 _ ρ1 H1 v g1 r1 rp h1 => ?_)
  refine h'.run X b ok cal W tk σ H1 ρ1 env S1 _ (er.up g1) r1 (wpG.bnd h1 fun q S2 _ ρ2 H2 vs g2 r2 rq h2 => ?_)
  exact h2 ρ2 H2 _ (Gr.refl _) r2 (.cons (rp.up g2) rq)
def mTup (ms : Ev → Sto → Res (List U)) : Ev → Sto → Res U := fun env S => bnd (ms env S) fun us S1 => if us.length ≤ LIM then .ok (.ref S1.length) (S1 ++ [.tup us]) else .bad
def mLst (ms : Ev → Sto → Res (List U)) : Ev → Sto → Res U := fun env S => bnd (ms env S) fun us S1 => if us.length ≤ LIM then .ok (.ref S1.length) (S1 ++ [.lst us]) else .bad
theorem se_tup {es : List Expr} {j : Nat} {pos : Pos} {ms : Ev → Sto → Res (List U)} (h : SA k Γ C es ms) : SE k Γ C (.Tuple es j pos) (mTup ms) := by
  refine ⟨?_⟩
  intro X b ok cal W tk σ H ρ env S Q er r hw
  refine PE.max (pe_tup (pa_tA X es)) ?_
  refine h.run X b ok cal W tk σ H ρ env S _ er r (wpG.bnd hw fun us S1 _ ρ1 H1 vs g1 r1 rp h1 => ?_)
  split at h1
  · rename_i hl
    exact ⟨lim_line (by rw [← paired_len rp]; exact hl), fun p hp => h1 _ _ _ (Gr.snoc ρ1 p) (r1.tup hp rp) (r1.last p)⟩
  · exact h1.elim
theorem se_lst {es : List Expr} {pos : Pos} {ms : Ev → Sto → Res (List U)} (h : SA k Γ C es ms) : SE k Γ C (.List es pos) (mLst ms) := by
  refine ⟨?_⟩
  intro X b ok cal W tk σ H ρ env S Q er r hw
  refine PE.max (pe_lst (pa_tA X es)) ?_
  refine h.run X b ok cal W tk σ H ρ env S _ er r (wpG.bnd hw fun us S1 _ ρ1 H1 vs g1 r1 rp h1 => ?_)
  split at h1
  · rename_i hl
    exact ⟨lim_line (by rw [← paired_len rp]; exact hl), fun p hp => h1 _ _ _ (Gr.snoc ρ1 p) (r1.lst hp rp) (r1.last p)⟩
  · exact h1.elim

/-! ### subscripts -/
def opI (u v : U) (S : Sto) : Option U := match u, v with
  | .str z, .int i => if z.length ≤ LIM then (atI z.cps.toList i).map fun c => .str ⟨#[c]⟩ else none
  | .ref j, w => match S[j]? with
    | some (.lst xs) => match w with
      | .int i => atI xs i
      | _ => none
    | some (.scr xs) => match w with
      | .int i => atI xs i
      | _ => none
    | some (.tup xs) => match w with
      | .int i => atI xs i
      | _ => none
    | some (.dct kvs) => (keyU w).bind fun key => getK kvs key
    | _ => none
  | _, _ => none
theorem atI_pair {mg : Str → Option Value} {ρ : List Addr} {xs : List U} {vs : List V} {i : Int} {u : U} (h : RUs mg ρ xs vs) (e : atI xs i = some u) : ∃ v, atI vs i = some v ∧ RU mg ρ u v := by
  unfold atI at e ⊢
  rw [← paired_len h]
  cases e1 : ixN xs.length i with
  | none => rw [e1] at e; cases e
  | some j =>
    rw [e1] at e
    exact paired_get h e
def mSub (ma mb : Ev → Sto → Res U) : Ev → Sto → Res U := fun env S => bnd (ma env S) fun u S1 => bnd (mb env S1) fun v S2 => opR (opI u v S2) S2
def rrI (X : Cx) : R2 := fun x y H Q => rIx X.K x y H Q ∨ ∃ a kvs key v, x = .ref a ∧ H a = some (.dK kvs) ∧ y = kV key ∧ valV kvs key = some v ∧ Q v H
theorem opI_ok {X : Cx} {b ρ : List Addr} {S : Sto} {H : Hp} {p q z : U} {x y : V} {Q : VK} (r : Rep X.K X.mg b ρ S H) (rp : RU X.mg ρ p x) (rq : RU X.mg ρ q y) (e : opI p q S = some z) (h : ∀ v, RU X.mg ρ z v → Q v H) : rrI X x y H Q := by
  unfold opI at e
  split at e
  · rename_i t i
    cases rp; cases rq
    split at e
    · rename_i hl
      cases e' : atI t.cps.toList i with
      | none => rw [e'] at e; cases e
      | some c' =>
        rw [e'] at e
        cases e
        exact .inl (.inr (.inr ⟨t, i, c', rfl, rfl, lim_line hl, e', h _ (.str _)⟩))
    · cases e
  · rename_i j w
    split at e
    · rename_i xs ej
      split at e
      · rename_i i
        obtain ⟨a1, rfl, _, vs, pv, hv⟩ := r.of ej rp
        cases rq
        obtain ⟨v, e1, e2⟩ := atI_pair pv e
        exact .inl (.inl ⟨a1, vs, i, v, rfl, rfl, .inl (.inl hv), e1, h _ e2⟩)
      · cases e
    · rename_i xs ej
      split at e
      · rename_i i
        obtain ⟨a1, rfl, _, vs, pv, hv⟩ := r.of ej rp
        cases rq
        obtain ⟨v, e1, e2⟩ := atI_pair pv e
        exact .inl (.inl ⟨a1, vs, i, v, rfl, rfl, scr_sql hv, e1, h _ e2⟩)
      · cases e
    · rename_i xs ej
      split at e
      · rename_i i
        obtain ⟨a1, rfl, _, vs, pv, hv⟩ := r.of ej rp
        cases rq
        obtain ⟨v, e1, e2⟩ := atI_pair pv e
        exact .inl (.inr (.inl ⟨a1, vs, i, v, rfl, rfl, hv, e1, h _ e2⟩))
      · cases e
    · rename_i kvs ej
      obtain ⟨a1, rfl, _, ks, pv, hv⟩ := r.of ej rp
      cases ek : keyU q with
      | none => rw [ek] at e; cases e
      | some key =>
        rw [ek] at e
        have hy := key_v rq ek
        subst hy
        obtain ⟨v, e1, e2⟩ := (getK_ok pv).1 z e
        exact .inr ⟨a1, ks, key, v, rfl, hv, rfl, e1, h _ e2⟩
    · cases e
  · cases e
theorem se_sub {a c : Expr} {pos : Pos} {ma mb : Ev → Sto → Res U} (ha : SE k Γ C a ma) (hb : SE k Γ C c mb) (hs : notSl c = true) : SE k Γ C (.Subscript a c pos) (mSub ma mb) := by
  refine ⟨?_⟩
  intro X b ok cal W tk σ H ρ env S Q er r h
  have hr : IxR X (rrI X) := by
    intro value slice pins s σ H x y v u Q I rx ry hq e
    rcases hq with hq | ⟨a, kvs, key, w, rfl, h1, rfl, h3, q⟩
    · exact ix_seq value slice pins s σ H x y v u Q I rx ry hq e
    · obtain rfl : v = Value.ref a := rx
      have g : DGet H a (kV key) (some w) := by rw [← h3]; exact DGet.k h1
      exact tail_any (dict_typeIs I g) PySem.F.slot_dict_getitem.lookup (d_getItem (by have := lk_units ok.room; omega) I g ry fun w' s3 I3 rw' => ⟨w, H, I3, rw', q⟩) e
  refine PE.max (pe_ix hr (pe_tE X a) (pe_tE X c) (plain_ix hs)) ?_
  refine ha.run X b ok cal W tk σ H ρ env S _ er r (wpG.bnd h fun p S1 _ ρ1 H1 x g1 r1 rp h1 => ?_)
  refine hb.run X b ok cal W tk σ H1 ρ1 env S1 _ (er.up g1) r1 (wpG.bnd h1 fun q S2 _ ρ2 H2 y g2 r2 rq h2 => ?_)
  cases e : opI p q S2 with
  | none => rw [e] at h2; exact h2.elim
  | some z =>
    rw [e] at h2
    exact opI_ok r2 (rp.up g2) rq e fun v rv => h2 ρ2 H2 v (Gr.refl _) r2 rv
/-- a slice: its ends -/
def cutU {α : Type} (xs : List α) (lo hi : Option Int) : List α := (xs.drop (HT.sIx xs.length 0 lo)).take (HT.sIx xs.length xs.length hi - HT.sIx xs.length 0 lo)
def opS (u : U) (lo hi : Option Int) (S : Sto) : Res U := match u with
  | .str z => if z.length ≤ LIM then .ok (.str (cutS z lo hi)) S else .bad
  | .ref j => match S[j]? with
    | some (.lst xs) => .ok (.ref S.length) (S ++ [.lst (cutU xs lo hi)])
    | some (.scr xs) => .ok (.ref S.length) (S ++ [.lst (cutU xs lo hi)])
    | some (.tup xs) => if HT.sIx xs.length 0 lo = 0 ∧ HT.sIx xs.length xs.length hi = xs.length then .ok (.ref j) S else .ok (.ref S.length) (S ++ [.tup (cutU xs lo hi)])
    | _ => .bad
  | _ => .bad
theorem cut_pair {mg : Str → Option Value} {ρ : List Addr} {xs : List U} {vs : List V} (lo hi : Option Int) (h : RUs mg ρ xs vs) : RUs mg ρ (cutU xs lo hi) (cutV vs lo hi) := by
  unfold cutU cutV
  rw [← paired_len h]
  exact paired_take _ (paired_drop _ h)
def rrS (X : Cx) : V → Option Int → Option Int → Hp → VK → Prop := fun x lo hi H Q => (rSlS x lo hi H Q ∨ rSlL X.K x lo hi H Q) ∨ rSlA X.K x lo hi H Q
theorem opS_ok {X : Cx} {b ρ : List Addr} {S : Sto} {H : Hp} {p : U} {x : V} {Q : VK} {lo hi : Option Int} {σ : St} {W : WX} (r : Rep X.K X.mg b ρ S H) (rp : RU X.mg ρ p x) (h : wpE X.K X.mg b (opS p lo hi S) ρ σ W Q) : rrS X x lo hi H Q := by
  unfold opS at h
  split at h
  · cases rp
    split at h
    · rename_i hl
      exact .inl (.inl ⟨_, rfl, lim_line hl, h ρ H _ (Gr.refl _) r (.str _)⟩)
    · exact h.elim
  · split at h
    · rename_i xs ej
      obtain ⟨a1, rfl, _, vs, pv, hv⟩ := r.of ej rp
      exact .inl (.inr ⟨a1, vs, rfl, .inl (.inl hv), fun p hp => h _ _ _ (Gr.snoc ρ p) (r.lst hp (cut_pair lo hi pv)) (r.last p)⟩)
    · rename_i xs ej
      obtain ⟨a1, rfl, _, vs, pv, hv⟩ := r.of ej rp
      exact .inl (.inr ⟨a1, vs, rfl, scr_sql hv, fun p hp => h _ _ _ (Gr.snoc ρ p) (r.lst hp (cut_pair lo hi pv)) (r.last p)⟩)
    · rename_i xs ej
      have rp0 := rp
      obtain ⟨a1, rfl, _, vs, pv, hv⟩ := r.of ej rp
      refine .inr ⟨a1, vs, rfl, hv, fun e => ?_, fun e p hp => ?_⟩
      · rw [← paired_len pv] at e
        rw [if_pos e] at h
        exact h ρ H _ (Gr.refl _) r rp0
      · rw [← paired_len pv] at e
        rw [if_neg e] at h
        exact h _ _ _ (Gr.snoc ρ p) (r.tup hp (cut_pair lo hi pv)) (r.last p)
    · exact h.elim
  · exact h.elim
/-- a slice's part -/
def wpO (K : PySem.W.Frag) (mg : Str → Option Value) (b : List Addr) : Res (Option Int) → List Addr → St → WX → (Option Int → Hp → Prop) → Prop := wpG K mg b (fun _ x y => x = y)
def tO (X : Cx) (e : Option Expr) : TO := fun σ H Q => ∀ pins s, L2.Inv X pins σ H s → wpAny (model X.prog X.w) X.A (evalPart e X.env) (fun u s' => ∃ o H', L2.Inv X pins σ H' s' ∧ IsPart u o ∧ Q o H') X.xe s
theorem po_tO (X : Cx) (e : Option Expr) : PO X e (tO X e) := ⟨fun pins s _ _ _ I h => h pins s I⟩
theorem PO.max {X : Cx} {e : Option Expr} {t : TO} (h : PO X e t) {σ : St} {H : Hp} {Q : Option Int → Hp → Prop} (q : t σ H Q) : tO X e σ H Q := fun pins s I => h.run pins s σ H Q I q
structure SO (k : Nat) (Γ : Gm) (C : Cal) (e : Option Expr) (m : Ev → Sto → Res (Option Int)) : Prop where
  run : ∀ X b, OkX k Γ X → CalOk k X b C → ∀ W, Takes X W → ∀ σ H ρ env S Q, EnvR X.mg ρ env σ → Rep X.K X.mg b ρ S H →
  wpO X.K X.mg b (m env S) ρ σ W Q → tO X e σ H Q
theorem so_none : SO k Γ C none fun _ S => .ok none S := ⟨fun X b ok cal W tk σ H ρ env S Q er r hw => PO.max po_none (hw ρ H _ (Gr.refl ρ) r rfl)⟩
def mPart (m : Ev → Sto → Res U) : Ev → Sto → Res (Option Int) := fun env S => bnd (m env S) fun u S1 => match u with
  | .int i => .ok (some i) S1
  | _ => .bad
theorem so_some {e : Expr} {m : Ev → Sto → Res U} (h : SE k Γ C e m) : SO k Γ C (some e) (mPart m) := by
  refine ⟨?_⟩
  intro X b ok cal W tk σ H ρ env S Q er r hw
  refine PO.max (po_some (pe_tE X e)) ?_
  refine h.run X b ok cal W tk σ H ρ env S _ er r (wpG.bnd hw fun p S1 _ ρ1 H1 x g1 r1 rp h1 => ?_)
  split at h1
  · cases rp
    exact ⟨_, rfl, h1 ρ1 H1 _ (Gr.refl _) r1 rfl⟩
  · exact h1.elim
def mSlc (m : Ev → Sto → Res U) (ml mh : Ev → Sto → Res (Option Int)) : Ev → Sto → Res U := fun env S => bnd (m env S) fun u S1 => bnd (ml env S1) fun lo S2 => bnd (mh env S2) fun hi S3 => opS u lo hi S3
theorem se_slc {e : Expr} {lo hi : Option Expr} {p2 pos : Pos} {m : Ev → Sto → Res U} {ml mh : Ev → Sto → Res (Option Int)} (h : SE k Γ C e m) (hl : SO k Γ C lo ml) (hh : SO k Γ C hi mh) : SE k Γ C (.Subscript e (.Slice lo hi none p2) pos) (mSlc m ml mh) := by
  refine ⟨?_⟩
  intro X b ok cal W tk σ H ρ env S Q er r hw
  refine PE.max (pe_slice (SlR.or (SlR.or sl_str sl_list) sl_tupA) (pe_tE X e) (po_tO X lo) (po_tO X hi)) ?_
  refine h.run X b ok cal W tk σ H ρ env S _ er r (wpG.bnd hw fun p S1 _ ρ1 H1 x g1 r1 rp h1 => ?_)
  refine hl.run X b ok cal W tk σ H1 ρ1 env S1 _ (er.up g1) r1 (wpG.bnd h1 fun l S2 _ ρ2 H2 y g2 r2 e2 h2 => ?_)
  refine hh.run X b ok cal W tk σ H2 ρ2 env S2 _ ((er.up g1).up g2) r2 (wpG.bnd h2 fun u S3 _ ρ3 H3 y3 g3 r3 e3 h3 => ?_)
  subst e2 e3
  exact opS_ok r3 ((rp.up g2).up g3) h3

/-! ### a def is called -/
def mCall (g : List U → Sto → Res U) (n : Nat) (ms : Ev → Sto → Res (List U)) : Ev → Sto → Res U := fun env S => bnd (ms env S) fun us S1 => if us.length = n then g us S1 else .bad
theorem run_fnG {X : Cx} {b ρ : List Addr} {S : Sto} {H : Hp} {σ : St} {W : WX} {Q : VK} {pins : List (Addr × Obj)} {s : Shared} {f : Addr} {fd : FuncData} {ps : List Str} {n : Nat} {g : List U → Sto → Res U} {us : List U} {vs : List V} {ws : List Value} (ok : OkX k Γ X)
    (tk : Takes X W) (hb : Binds X.K fd ps []) (hn : ps.length = n) (F : FnG X.prog X.w X.K X.mg X.base k f fd ps (spOf X.K X.mg b n g)) (I : L2.Inv X pins σ H s) (rv : Vals vs ws) (r : Rep X.K X.mg b ρ S H) (ru : RUs X.mg ρ us vs) (hl : us.length = n)
    (h : wpE X.K X.mg b (g us S) ρ σ W Q) : wpAny (model X.prog X.w) X.A (call (.ref f) ws) (EP X pins σ Q) X.xe s := by
  have hsp : spOf X.K X.mg b n g vs H Q (WE W σ) := by
    refine ⟨by rw [← paired_len ru]; exact hl, ρ, S, us, r, ru, ?_⟩
    cases e : g us S with
    | ok u S1 => rw [e] at h; exact h
    | exc x S1 => rw [e] at h; exact h
    | bad => rw [e] at h; exact h
  have hlen : ws.length = ps.length := by rw [← rv.length, ← paired_len ru, hl, hn]
  have bt := hb s ws I.kIn (by rw [List.append_nil]; exact hlen)
  rw [List.append_nil] at bt
  refine wpAny_call (codeAny_mono (F.run X.A X.stack s H ⟨ws, []⟩ ws vs Q (WE W σ) ok.room ok.gd I.env0 bt rv hsp) fun z s' hq => ?_)
  cases z with
  | error e => exact passAt tk σ pins H s e s' I hq
  | ok fl =>
    cases fl with
    | ret u => exact I.after hq
    | next => exact False.elim hq
    | brk => exact False.elim hq
    | cont => exact False.elim hq
theorem se_call {x : Str} {p pos : Pos} {e : Expr} {es : List Expr} {n : Nat} {g : List U → Sto → Res U} {ms : Ev → Sto → Res (List U)} (hf : C.fn x = some (n, g)) (hg : glbB Γ.sc x = true) (hd : (x == ("__debug__" : Str)) = false) (h : SA k Γ C (e :: es) ms) (hp : (e :: es).all plainE = true) :
    SE k Γ C (.Call (.Name x p) (e :: es) [] pos) (mCall g n ms) := by
  refine ⟨?_⟩
  intro X b ok cal W tk σ H ρ env S Q er r hw pins s I
  obtain ⟨f, fd, ps, hm, hk, hb, hn, F⟩ := cal.fn x n g hf
  rw [List.all_cons, Bool.and_eq_true] at hp
  refine wpAny_Call_Name_kw (ld_glob I (gl_of ok hg) hm ?_ hd)
  refine PySem.W.callWith_K (h₀ := X.base) I.ok.mod.kin hk (thn (h.run X b ok cal W tk σ H ρ env S (fun vs H1 => ∀ pins s ws, L2.Inv X pins σ H1 s → Vals vs ws → wpAny (model X.prog X.w) X.A (call (.ref f) ws) (EP X pins σ Q) X.xe s) er r
    (wpG.bnd hw fun us S1 _ ρ1 H1 vs g1 r1 ru h1 => ?_) pos pins s I) fun ws s1 ⟨vs, H1, I1, rv, q1⟩ => ⟨I1.kIn, ?_⟩) (star_cons hp.1) (star_any hp.2)
  · split at h1
    · rename_i hl
      exact fun pins s ws I rv => run_fnG ok tk hb hn F I rv r1 ru hl h1
    · exact h1.elim
  · exact q1 pins s1 ws I1 rv
theorem se_call0 {x : Str} {p pos : Pos} {g : List U → Sto → Res U} (hf : C.fn x = some (0, g)) (hg : glbB Γ.sc x = true) (hd : (x == ("__debug__" : Str)) = false) : SE k Γ C (.Call (.Name x p) [] [] pos) fun _ S => g [] S := by
  refine ⟨?_⟩
  intro X b ok cal W tk σ H ρ env S Q er r hw pins s I
  obtain ⟨f, fd, ps, hm, hk, hb, hn, F⟩ := cal.fn x 0 g hf
  refine wpAny_Call_Name_kw (ld_glob I (gl_of ok hg) hm ?_ hd)
  exact PySem.W.callWith_K0 I.kIn hk (run_fnG (us := []) (vs := []) (ws := []) ok tk hb hn F I .nil r .nil rfl hw)
end
end Mn
set_option Elab.async false
set_option linter.all false
set_option maxRecDepth 100000
set_option maxHeartbeats 4000000
/-! Mn5: targets and statements, one rule a form. -/
namespace Mn
open PySem PySem.Spec PyProof.Rows L2

inductive SRes where
  | nx (env : Ev) (S : Sto) | rt (u : U) (S : Sto) | bk (env : Ev) (S : Sto) | ct (env : Ev) (S : Sto) | exc (x : Xc) (env : Ev) (S : Sto) | bad
def bndE {α : Type} (r : Res α) (env : Ev) (f : α → Sto → SRes) : SRes := match r with
  | .ok a S => f a S
  | .exc x S => .exc x env S
  | .bad => .bad
def bndS (r : SRes) (f : Ev → Sto → SRes) : SRes := match r with
  | .nx env S => f env S
  | r => r
def wpS (K : PySem.W.Frag) (mg : Str → Option Value) (b : List Addr) (r : SRes) (ρ : List Addr) (W : WX) (D : Ends) : Prop :=
  match r with
  | .nx env S => ∀ ρ' σ' H', Gr ρ ρ' → EnvR mg ρ' env σ' → Rep K mg b ρ' S H' → D.nx σ' H'
  | .rt u S => ∀ ρ' H' v, Gr ρ ρ' → Rep K mg b ρ' S H' → RU mg ρ' u v → D.rt v H'
  | .bk env S => ∀ ρ' σ' H', Gr ρ ρ' → EnvR mg ρ' env σ' → Rep K mg b ρ' S H' → D.bk σ' H'
  | .ct env S => ∀ ρ' σ' H', Gr ρ ρ' → EnvR mg ρ' env σ' → Rep K mg b ρ' S H' → D.ct σ' H'
  | .exc x env S => ∀ ρ' σ' H' c d, Gr ρ ρ' → EnvR mg ρ' env σ' → Rep K mg b ρ' S H' → RX mg ρ' x c d → W c d σ' H'
  | .bad => False
section
variable {K : PySem.W.Frag} {mg : Str → Option Value} {b ρ ρ' : List Addr} {σ : St} {W : WX} {D D' : Ends}
theorem wpS.up {r : SRes} (g : Gr ρ ρ') (h : wpS K mg b r ρ W D) : wpS K mg b r ρ' W D := by
  cases r with
  | nx env S => exact fun ρ2 σ' H' g2 => h ρ2 σ' H' (g.trans g2)
  | rt u S => exact fun ρ2 H' v g2 => h ρ2 H' v (g.trans g2)
  | bk env S => exact fun ρ2 σ' H' g2 => h ρ2 σ' H' (g.trans g2)
  | ct env S => exact fun ρ2 σ' H' g2 => h ρ2 σ' H' (g.trans g2)
  | exc x env S => exact fun ρ2 σ' H' c d g2 => h ρ2 σ' H' c d (g.trans g2)
  | bad => exact h
/-- an expression ahead -/
theorem wpS.bndE {α β : Type} {R : List Addr → α → β → Prop} {r : Res α} {env : Ev} {f : α → Sto → SRes} {Q1 : β → Hp → Prop} (er : EnvR mg ρ env σ) (h : wpS K mg b (Mn.bndE r env f) ρ W D)
    (k : ∀ u S1, r = .ok u S1 → ∀ ρ1 H1 v, Gr ρ ρ1 → Rep K mg b ρ1 S1 H1 → R ρ1 u v → wpS K mg b (f u S1) ρ1 W D → Q1 v H1) : wpG K mg b R r ρ σ W Q1 := by
  cases r with
  | ok u S => exact fun ρ1 H1 v g rp rv => k u S rfl ρ1 H1 v g rp rv (wpS.up g h)
  | exc x S => exact fun ρ1 H1 c d g rp rx => h ρ1 σ H1 c d g (er.up g) rp rx
  | bad => exact h
end

def tS (X : Cx) (st : Stmt) : TS := fun D σ H => ∀ pins s, L2.Inv X pins σ H s → wpAny (model X.prog X.w) X.A (exec st X.env) (SP X pins D) X.xe s
theorem ps_tS (X : Cx) (st : Stmt) : PS X st (tS X st) := ⟨fun pins s _ _ _ I h => h pins s I⟩
theorem PS.max {X : Cx} {st : Stmt} {t : TS} (h : PS X st t) {σ : St} {H : Hp} {D : Ends} (q : t D σ H) : tS X st D σ H := fun pins s I => h.run pins s σ H D I q
def tSs (X : Cx) (st : List Stmt) : TS := fun D σ H => ∀ pins s, L2.Inv X pins σ H s → wpAny (model X.prog X.w) X.A (execs st X.env) (SP X pins D) X.xe s
theorem pss_tSs (X : Cx) (st : List Stmt) : PSs X st (tSs X st) := ⟨fun pins s _ _ _ I h => h pins s I⟩
theorem PSs.max {X : Cx} {st : List Stmt} {t : TS} (h : PSs X st t) {σ : St} {H : Hp} {D : Ends} (q : t D σ H) : tSs X st D σ H := fun pins s I => h.run pins s σ H D I q

/-- lp: a loop may stand here -/
def Lp (lp : Bool) (X : Cx) : Prop := lp = true → PassesOwn (model X.prog X.w) X.A X.env X.xe
structure SS (k : Nat) (Γ : Gm) (C : Cal) (lp : Bool) (st : Stmt) (m : Ev → Sto → SRes) : Prop where
  run : ∀ X b, OkX k Γ X → CalOk k X b C → Lp lp X → ∀ W, Takes X W → ∀ σ H ρ env S D, EnvR X.mg ρ env σ → Rep X.K X.mg b ρ S H →
  wpS X.K X.mg b (m env S) ρ W D → tS X st D σ H
structure SB (k : Nat) (Γ : Gm) (C : Cal) (lp : Bool) (sts : List Stmt) (m : Ev → Sto → SRes) : Prop where
  run : ∀ X b, OkX k Γ X → CalOk k X b C → Lp lp X → ∀ W, Takes X W → ∀ σ H ρ env S D, EnvR X.mg ρ env σ → Rep X.K X.mg b ρ S H →
  wpS X.K X.mg b (m env S) ρ W D → tSs X sts D σ H

/-! ### targets -/
abbrev GRes := Option (Ev × Sto)
/-- slot by slot -/
theorem wipe_at (σ : St) (i : Nat) : ∀ vs : List Nat, (wipe σ vs)[i]? = if i ∈ vs then (σ[i]?).map (fun _ => none) else σ[i]?
  | [] => by simp [wipe]
  | v :: vs => by
    unfold wipe
    have ih := wipe_at σ i vs
    by_cases hv : v = i
    · subst hv
      rw [if_pos (List.mem_cons_self)]
      by_cases hi : v < σ.length
      · rw [List.getElem?_set_self (by rw [wipe_length]; exact hi), List.getElem?_eq_getElem hi]
        rfl
      · rw [List.getElem?_eq_none (by rw [List.length_set, wipe_length]; omega), List.getElem?_eq_none (by omega)]
        rfl
    · rw [List.getElem?_set_ne hv, ih]
      by_cases hm : i ∈ vs
      · rw [if_pos hm, if_pos (List.mem_cons_of_mem _ hm)]
      · rw [if_neg hm, if_neg (by simp only [List.mem_cons, not_or]; exact ⟨fun e => hv e.symm, hm⟩)]
theorem wipe_sub {σ σ' : St} {ws vs : List Nat} (h : wipe σ' ws = wipe σ ws) (hs : ∀ i ∈ ws, i ∈ vs) : wipe σ' vs = wipe σ vs := by
  have hl : σ'.length = σ.length := by rw [← wipe_length σ' ws, h, wipe_length]
  refine List.ext_getElem? fun i => ?_
  have e : (wipe σ' ws)[i]? = (wipe σ ws)[i]? := by rw [h]
  rw [wipe_at, wipe_at] at e ⊢
  by_cases hv : i ∈ vs
  · rw [if_pos hv, if_pos hv]
    by_cases hi : i < σ.length
    · rw [List.getElem?_eq_getElem hi, List.getElem?_eq_getElem (by omega)]
      rfl
    · rw [List.getElem?_eq_none (by omega), List.getElem?_eq_none (by omega)]
  · have hw : i ∉ ws := fun z => hv (hs i z)
    rw [if_neg hw, if_neg hw] at e
    rw [if_neg hv, if_neg hv]
    exact e
theorem wipe_twice {σ : St} {vs : List Nat} : wipe (wipe σ vs) vs = wipe σ vs := by
  refine List.ext_getElem? fun i => ?_
  rw [wipe_at, wipe_at]
  by_cases hv : i ∈ vs
  · rw [if_pos hv, if_pos hv]
    cases σ[i]? <;> rfl
  · rw [if_neg hv, if_neg hv]
def wpGt (K : PySem.W.Frag) (mg : Str → Option Value) (b : List Addr) (r : GRes) (ρ : List Addr) (σ : St) (ws : List Nat) (Q : St → Hp → Prop) : Prop := match r with
  | some (env, S) => ∀ ρ' σ' H', Gr ρ ρ' → EnvR mg ρ' env σ' → Rep K mg b ρ' S H' → wipe σ' ws = wipe σ ws → Q σ' H'
  | none => False
theorem wpGt.up {K : PySem.W.Frag} {mg : Str → Option Value} {b ρ ρ' : List Addr} {r : GRes} {σ : St} {ws : List Nat} {Q : St → Hp → Prop} (g : Gr ρ ρ') (h : wpGt K mg b r ρ σ ws Q) : wpGt K mg b r ρ' σ ws Q := by
  cases r with
  | none => exact h
  | some p => exact fun ρ2 σ' H' g2 => h ρ2 σ' H' (g.trans g2)
def tG (X : Cx) (tg : Expr) : TG := fun v σ H Q => ∀ pins s u, L2.Inv X pins σ H s → RelV v u → wpAny (model X.prog X.w) X.A (assign tg X.env u) (fun _ s' => ∃ σ' H', L2.Inv X pins σ' H' s' ∧ Q σ' H') X.xe s
theorem pg_tG (X : Cx) (tg : Expr) : PG X tg (tG X tg) := ⟨fun pins s _ _ _ u _ I r h => h pins s u I r⟩
theorem PG.max {X : Cx} {tg : Expr} {t : TG} (h : PG X tg t) {v : V} {σ : St} {H : Hp} {Q : St → Hp → Prop} (q : t v σ H Q) : tG X tg v σ H Q := fun pins s u I r => h.run pins s σ H v u Q I r q
def tGs (X : Cx) (tg : List Expr) : TGs := fun vs σ H Q => ∀ pins s us, L2.Inv X pins σ H s → Vals vs us → wpAny (model X.prog X.w) X.A (assignInOrder ((assignEach tg X.env).map (·.2)) us) (fun _ s' => ∃ σ' H', L2.Inv X pins σ' H' s' ∧ Q σ' H') X.xe s
theorem pgs_tGs (X : Cx) (tg : List Expr) : PGs X tg (tGs X tg) := ⟨fun pins s _ _ _ us _ I r h => h pins s us I r⟩
theorem PGs.max {X : Cx} {tg : List Expr} {t : TGs} (h : PGs X tg t) {vs : List V} {σ : St} {H : Hp} {Q : St → Hp → Prop} (q : t vs σ H Q) : tGs X tg vs σ H Q := fun pins s us I r => h.run pins s σ H vs us Q I r q
structure SG (k : Nat) (Γ : Gm) (C : Cal) (ws : List Nat) (tg : Expr) (m : U → Ev → Sto → GRes) : Prop where
  run : ∀ X b, OkX k Γ X → CalOk k X b C → ∀ W, Takes X W → ∀ σ H ρ env S u v Q, EnvR X.mg ρ env σ → Rep X.K X.mg b ρ S H → RU X.mg ρ u v →
  wpGt X.K X.mg b (m u env S) ρ σ ws Q → tG X tg v σ H Q
structure SGs (k : Nat) (Γ : Gm) (C : Cal) (ws : List Nat) (tg : List Expr) (m : List U → Ev → Sto → GRes) : Prop where
  run : ∀ X b, OkX k Γ X → CalOk k X b C → ∀ W, Takes X W → ∀ σ H ρ env S us vs Q, EnvR X.mg ρ env σ → Rep X.K X.mg b ρ S H → RUs X.mg ρ us vs →
  wpGt X.K X.mg b (m us env S) ρ σ ws Q → tGs X tg vs σ H Q
section
variable {k : Nat} {Γ : Gm} {C : Cal}
def stB (Γ : Gm) (x : Str) : Bool := match Γ.sc.names.lookup x with
  | some .local => true
  | some .cell => Γ.fl x
  | _ => false
theorem st_of {X : Cx} {x : Str} (ok : OkX k Γ X) (h : stB Γ x = true) : Loc X.env.scope x ∧ (X.fn x = true ∨ X.env.scope.names.lookup x = some .local) := by
  unfold stB at h
  rw [ok.sc]
  split at h
  · rename_i e
    exact ⟨.inl e, .inr e⟩
  · rename_i e
    exact ⟨.inr e, .inl (ok.fl x h)⟩
  · cases h
def gNm (i : Nat) : U → Ev → Sto → GRes := fun u env S => some (env.set i (some u), S)
theorem sg_name {i : Nat} {x : Str} {pos : Pos} (hN : Γ.N[i]? = some x) (hs : stB Γ x = true) : SG k Γ C [i] (.Name x pos) (gNm i) := by
  refine ⟨?_⟩
  intro X b ok cal W tk σ H ρ env S u v Q er r ru h
  obtain ⟨h1, h2⟩ := st_of ok hs
  exact PG.max (pg_name (i := i) (by rw [ok.n]; exact ok.nd) (by rw [ok.n]; exact hN) h1 h2) (h ρ _ _ (Gr.refl _) (er.set ru) r (by show (σ.set i (some v)).set i none = σ.set i none; rw [List.set_set]))
def gsNil : List U → Ev → Sto → GRes := fun us env S => match us with
  | [] => some (env, S)
  | _ => none
def gsCons (m : U → Ev → Sto → GRes) (ms : List U → Ev → Sto → GRes) : List U → Ev → Sto → GRes := fun us env S => match us with
  | u :: us => match m u env S with
    | some (env1, S1) => ms us env1 S1
    | none => none
  | [] => none
theorem sgs_nil : SGs k Γ C [] [] gsNil := by
  refine ⟨?_⟩
  intro X b ok cal W tk σ H ρ env S us vs Q er r ru h
  cases ru with
  | nil => exact PGs.max pgs_nil ⟨rfl, h ρ σ H (Gr.refl _) er r rfl⟩
  | cons _ _ => exact h.elim
theorem each_cons {e : Expr} {es : List Expr} {env : Env} (h : plainE e = true) : (assignEach (e :: es) env).map (·.2) = assign e env :: (assignEach es env).map (·.2) := by
  cases e <;> first | rfl | cases h
theorem each_len {env : Env} : ∀ {es : List Expr}, es.all plainE = true → (assignEach es env).length = es.length ∧ (assignEach es env).findIdx? (·.1) = none
  | [], _ => ⟨rfl, rfl⟩
  | e :: es, h => by
    rw [List.all_cons, Bool.and_eq_true] at h
    obtain ⟨h1, h2⟩ := each_len (env := env) h.2
    have e1 : assignEach (e :: es) env = (false, assign e env) :: assignEach es env := by
      have := h.1
      cases e <;> first | rfl | cases this
    rw [e1]
    refine ⟨by simp [h1], ?_⟩
    rw [List.findIdx?_cons, h2]
    rfl
theorem sgs_cons {e : Expr} {es : List Expr} {m : U → Ev → Sto → GRes} {ms : List U → Ev → Sto → GRes} {ws ws' : List Nat} (h1 : SG k Γ C ws e m) (h2 : SGs k Γ C ws' es ms) (hp : plainE e = true) : SGs k Γ C (ws ++ ws') (e :: es) (gsCons m ms) := by
  refine ⟨?_⟩
  intro X b ok cal W tk σ H ρ env S us vs Q er r ru h
  cases ru with
  | nil => exact h.elim
  | cons r1 rr =>
    refine PGs.max (pgs_cons (pg_tG X e) (pgs_tGs X es) (each_cons hp)) ⟨_, _, rfl, ?_⟩
    unfold gsCons at h
    dsimp only at h
    refine h1.run X b ok cal W tk σ H ρ env S _ _ _ er r r1 ?_
    split at h
    · rename_i env1 S1 e1
      rw [e1]
      intro ρ1 σ1 H1 g1 er1 rp1 hw1
      refine h2.run X b ok cal W tk σ1 H1 ρ1 env1 S1 _ _ Q er1 rp1 (RUs.up g1 rr) ?_
      have h' := h.up g1
      cases e2 : ms _ env1 S1 with
      | none => rw [e2] at h'; exact h'
      | some p =>
        rw [e2] at h'
        exact fun ρ2 σ2 H2 g2 er2 rp2 hw2 => h' ρ2 σ2 H2 g2 er2 rp2 ((wipe_sub hw2 fun i hi => List.mem_append_right _ hi).trans (wipe_sub hw1 fun i hi => List.mem_append_left _ hi))
    · exact h.elim
/-- the items that are unpacked -/
def itemsU (u : U) (S : Sto) : Option (List U) := match u with
  | .ref j => match S[j]? with
    | some (.lst xs) => some xs
    | some (.scr xs) => some xs
    | some (.tup xs) => some xs
    | _ => none
  | _ => none
def gTp (n : Nat) (ms : List U → Ev → Sto → GRes) : U → Ev → Sto → GRes := fun u env S => match itemsU u S with
  | some xs => if xs.length = n then ms xs env S else none
  | none => none
theorem sg_tup {es : List Expr} {j : Nat} {pos : Pos} {ms : List U → Ev → Sto → GRes} {ws : List Nat} (h : SGs k Γ C ws es ms) (hp : es.all plainE = true) : SG k Γ C ws (.Tuple es j pos) (gTp es.length ms) := by
  refine ⟨?_⟩
  intro X b ok cal W tk σ H ρ env S u v Q er r ru hw
  unfold gTp at hw
  split at hw
  · rename_i xs e
    split at hw
    · rename_i hl
      unfold itemsU at e
      split at e
      · split at e
        · rename_i xs' ej
          cases e
          obtain ⟨a, rfl, _, vs, pv, hv⟩ := r.of ej ru
          exact PG.max (pg_lst ok.calm (pgs_tGs X es) (each_len hp).1 (each_len hp).2) ⟨a, vs, rfl, .inl (.inl hv), by rw [← paired_len pv]; exact hl, h.run X b ok cal W tk σ H ρ env S _ _ Q er r pv hw⟩
        · rename_i xs' ej
          cases e
          obtain ⟨a, rfl, _, vs, pv, hv⟩ := r.of ej ru
          exact PG.max (pg_lst ok.calm (pgs_tGs X es) (each_len hp).1 (each_len hp).2) ⟨a, vs, rfl, scr_sql hv, by rw [← paired_len pv]; exact hl, h.run X b ok cal W tk σ H ρ env S _ _ Q er r pv hw⟩
        · rename_i xs' ej
          cases e
          obtain ⟨a, rfl, _, vs, pv, hv⟩ := r.of ej ru
          exact PG.max (pg_tup ok.calm (pgs_tGs X es) (each_len hp).1 (each_len hp).2) ⟨a, vs, rfl, hv, by rw [← paired_len pv]; exact hl, h.run X b ok cal W tk σ H ρ env S _ _ Q er r pv hw⟩
        · cases e
      · cases e
    · exact hw.elim
  · exact hw.elim
def putKU (kvs : List (Key × U)) (key : Key) (v : U) : List (Key × U) := if (kvs.any fun kv => decide (kv.1 = key)) = true then kvs.map (fun kv => if kv.1 = key then (kv.1, v) else kv) else kvs ++ [(key, v)]
theorem putK_pair {mg : Str → Option Value} {ρ : List Addr} {key : Key} {u : U} {v : V} (r : RU mg ρ u v) {kvs : List (Key × U)} {ks : List (Key × V)} (h : RP mg ρ kvs ks) : RP mg ρ (putKU kvs key u) (putK ks key v) := by
  have any : ∀ {kvs : List (Key × U)} {ks : List (Key × V)}, RP mg ρ kvs ks → (kvs.any fun kv => decide (kv.1 = key)) = (ks.any fun kv => decide (kv.1 = key)) := by
    intro kvs ks h
    induction h with
    | nil => rfl
    | cons r t ih => rw [List.any_cons, List.any_cons, ih, r.1]
  have mp : ∀ {kvs : List (Key × U)} {ks : List (Key × V)}, RP mg ρ kvs ks → RP mg ρ (kvs.map fun kv => if kv.1 = key then (kv.1, u) else kv) (ks.map fun kv => if kv.1 = key then (kv.1, v) else kv) := by
    intro kvs ks h
    induction h with
    | nil => exact .nil
    | cons r' t ih =>
      rename_i p q _ _
      refine .cons ?_ ih
      dsimp only
      rw [← r'.1]
      by_cases hk : p.1 = key
      · rw [if_pos hk, if_pos hk]
        exact ⟨rfl, r⟩
      · rw [if_neg hk, if_neg hk]
        exact r'
  unfold putKU putK
  rw [any h]
  split
  · exact mp h
  · exact paired_app h (.cons ⟨rfl, r⟩ .nil)
def opP (u w v : U) (S : Sto) : Option Sto := match u with
  | .ref j => match S[j]? with
    | some (.lst xs) => match w with
      | .int i => (ixN xs.length i).map fun n => S.set j (.lst (xs.set n v))
      | _ => none
    | some (.dct kvs) => if kvs.length < LIM then (keyU w).map fun key => S.set j (.dct (putKU kvs key v)) else none
    | _ => none
  | _ => none
def rrP : TSet := fun o i v H Q => rSetL o i v H Q ∨ rSetD o i v H Q
theorem opP_ok {X : Cx} {b ρ : List Addr} {S S' : Sto} {H : Hp} {u w p : U} {x y z : V} {Q : Hp → Prop} (r : Rep X.K X.mg b ρ S H) (h1 : RU X.mg ρ u x) (h2 : RU X.mg ρ w y) (h3 : RU X.mg ρ p z) (e : opP u w p S = some S') (q : ∀ H', Rep X.K X.mg b ρ S' H' → Q H') : rrP x y z H Q := by
  unfold opP at e
  split at e
  · split at e
    · rename_i xs ej
      split at e
      · rename_i i
        cases h2
        obtain ⟨a, rfl, ea, vs, pv, hv⟩ := r.of ej h1
        cases en : ixN xs.length i with
        | none => rw [en] at e; cases e
        | some n =>
          rw [en] at e
          cases e
          refine .inl ⟨a, vs, i, n, rfl, rfl, hv, by rw [← paired_len pv]; exact en, q _ ?_⟩
          exact r.put ej ea rfl rfl ⟨_, paired_set h3 n pv, upd_same⟩
      · cases e
    · rename_i kvs ej
      split at e
      · rename_i hl
        obtain ⟨a, rfl, ea, ks, pv, hv⟩ := r.of ej h1
        cases ek : keyU w with
        | none => rw [ek] at e; cases e
        | some key =>
          rw [ek] at e
          cases e
          have hy := key_v h2 ek
          subst hy
          refine .inr ⟨a, _, rfl, .inl ⟨ks, key, hv, rfl, by rw [← paired_len pv]; exact Nat.lt_of_lt_of_le hl (lim_line (Nat.le_refl _)), rfl⟩, q _ ?_⟩
          exact r.put ej ea rfl rfl ⟨_, putK_pair h3 pv, upd_same⟩
      · cases e
    · cases e
  · cases e
/-- o[i] = v -/
def gSb (mo mi : Ev → Sto → Res U) : U → Ev → Sto → GRes := fun v env S => match mo env S with
  | .ok u S1 => match mi env S1 with
    | .ok w S2 => (opP u w v S2).map fun S3 => (env, S3)
    | _ => none
  | _ => none
theorem sg_sub {o i : Expr} {pos : Pos} {mo mi : Ev → Sto → Res U} (ho : SE k Γ C o mo) (hi : SE k Γ C i mi) (hs : notSl i = true) : SG k Γ C [] (.Subscript o i pos) (gSb mo mi) := by
  refine ⟨?_⟩
  intro X b ok cal W tk σ H ρ env S u v Q er r ru h
  have hp : PSet X rrP := by
    intro pins s σ H o i v ov iv u Q I ro ri rv h
    rcases h with h | h
    · exact set_list pins s σ H o i v ov iv u Q I ro ri rv h
    · exact set_dict (by have := lk_units ok.room; omega) pins s σ H o i v ov iv u Q I ro ri rv h
  refine PG.max (pg_sub (pe_tE X o) (pe_tE X i) hp (fun v => by cases i <;> first | rfl | cases hs)) ?_
  unfold gSb at h
  refine ho.run X b ok cal W tk σ H ρ env S _ er r ?_
  split at h
  · rename_i p S1 e1
    rw [e1]
    intro ρ1 H1 x g1 r1 rp
    refine hi.run X b ok cal W tk σ H1 ρ1 env S1 _ (er.up g1) r1 ?_
    split at h
    · rename_i w S2 e2
      rw [e2]
      intro ρ2 H2 y g2 r2 rw'
      cases e3 : opP p w u S2 with
      | none => rw [e3] at h; exact h.elim
      | some S3 =>
        rw [e3] at h
        exact opP_ok r2 (rp.up g2) rw' (ru.up (g1.trans g2)) e3 fun H' r' => h ρ2 σ H' (g1.trans g2) (er.up (g1.trans g2)) r' rfl
    · exact h.elim
  · exact h.elim

/-! ### statements -/
def notCo : Expr → Bool
  | .ListComp _ _ _ _ => false
  | .SetComp _ _ _ _ => false
  | .DictComp _ _ _ _ _ => false
  | _ => true
theorem noSwap {e : Expr} (h : notCo e = true) (t : Option Expr) (l : Nat) (env : Env) : swapsWith e t l env = pure false := by
  cases e <;> first | rfl | cases h
variable {lp : Bool}
def mExpr (m : Ev → Sto → Res U) : Ev → Sto → SRes := fun env S => bndE (m env S) env fun _ S1 => .nx env S1
theorem ss_expr {e : Expr} {pos : Pos} {m : Ev → Sto → Res U} (h : SE k Γ C e m) (hn : notCo e = true) : SS k Γ C lp (.Expr e pos) (mExpr m) := by
  refine ⟨?_⟩
  intro X b ok cal _ W tk σ H ρ env S D er r hw
  refine PS.max (ps_expr (pe_tE X e) (noSwap hn _ _ _)) ?_
  exact h.run X b ok cal W tk σ H ρ env S _ er r (wpS.bndE er hw fun u S1 _ ρ1 H1 v g1 r1 ru h1 => h1 ρ1 σ H1 (Gr.refl _) (er.up g1) r1)
def mRet (m : Ev → Sto → Res U) : Ev → Sto → SRes := fun env S => bndE (m env S) env fun u S1 => .rt u S1
theorem ss_ret {e : Expr} {pos : Pos} {m : Ev → Sto → Res U} (h : SE k Γ C e m) : SS k Γ C lp (.Return (some e) pos) (mRet m) := by
  refine ⟨?_⟩
  intro X b ok cal _ W tk σ H ρ env S D er r hw
  refine PS.max (ps_ret (pe_tE X e)) ?_
  exact h.run X b ok cal W tk σ H ρ env S _ er r (wpS.bndE er hw fun u S1 _ ρ1 H1 v g1 r1 ru h1 => h1 ρ1 H1 v (Gr.refl _) r1 ru)
theorem ss_retN {pos : Pos} : SS k Γ C lp (.Return none pos) fun _ S => .rt .non S := ⟨fun X b ok cal _ W tk σ H ρ env S D er r hw => PS.max ps_retN (hw ρ H _ (Gr.refl _) r .non)⟩
theorem ss_pass {pos : Pos} : SS k Γ C lp (.Pass pos) fun env S => .nx env S := ⟨fun X b ok cal _ W tk σ H ρ env S D er r hw => PS.max ps_pass (hw ρ σ H (Gr.refl _) er r)⟩
theorem ss_brk {pos : Pos} : SS k Γ C lp (.Break pos) fun env S => .bk env S := ⟨fun X b ok cal _ W tk σ H ρ env S D er r hw => PS.max ps_break (hw ρ σ H (Gr.refl _) er r)⟩
theorem ss_cnt {pos : Pos} : SS k Γ C lp (.Continue pos) fun env S => .ct env S := ⟨fun X b ok cal _ W tk σ H ρ env S D er r hw => PS.max ps_continue (hw ρ σ H (Gr.refl _) er r)⟩
theorem sb_nil : SB k Γ C lp [] fun env S => .nx env S := ⟨fun X b ok cal _ W tk σ H ρ env S D er r hw => PSs.max pss_nil (hw ρ σ H (Gr.refl _) er r)⟩
def mSeq (m m' : Ev → Sto → SRes) : Ev → Sto → SRes := fun env S => bndS (m env S) m'
theorem sb_cons {st : Stmt} {sts : List Stmt} {m m' : Ev → Sto → SRes} (h : SS k Γ C lp st m) (h' : SB k Γ C lp sts m') : SB k Γ C lp (st :: sts) (mSeq m m') := by
  refine ⟨?_⟩
  intro X b ok cal l W tk σ H ρ env S D er r hw
  refine PSs.max (pss_cons (ps_tS X st) (pss_tSs X sts)) ?_
  refine h.run X b ok cal l W tk σ H ρ env S _ er r ?_
  unfold mSeq at hw
  cases e : m env S with
  | nx env1 S1 =>
    rw [e] at hw
    exact fun ρ1 σ1 H1 g1 er1 r1 => h'.run X b ok cal l W tk σ1 H1 ρ1 env1 S1 D er1 r1 (wpS.up g1 hw)
  | rt u S1 => rw [e] at hw; exact hw
  | bk env1 S1 => rw [e] at hw; exact hw
  | ct env1 S1 => rw [e] at hw; exact hw
  | exc x env1 S1 => rw [e] at hw; exact hw
  | bad => rw [e] at hw; exact hw
def mIf (mc : Ev → Sto → Res Bool) (m m' : Ev → Sto → SRes) : Ev → Sto → SRes := fun env S => bndE (mc env S) env fun t S1 => if t = true then m env S1 else m' env S1
theorem ss_if {c : Expr} {p q : List Stmt} {pos : Pos} {mc : Ev → Sto → Res Bool} {m m' : Ev → Sto → SRes} (hc : ST k Γ C c mc) (h : SB k Γ C lp p m) (h' : SB k Γ C lp q m') : SS k Γ C lp (.If c p q pos) (mIf mc m m') := by
  refine ⟨?_⟩
  intro X b ok cal l W tk σ H ρ env S D er r hw
  refine PS.max (ps_if (pt_tT X c) (pss_tSs X p) (pss_tSs X q)) ?_
  refine hc.run X b ok cal W tk σ H ρ env S _ er r (wpS.bndE er hw fun t S1 _ ρ1 H1 v g1 r1 e1 h1 => ?_)
  subst e1
  cases t with
  | true => exact iteT (h.run X b ok cal l W tk σ H1 ρ1 env S1 D (er.up g1) r1 h1)
  | false => exact iteF (h'.run X b ok cal l W tk σ H1 ρ1 env S1 D (er.up g1) r1 h1)
/-- target = value -/
def mAsg (m : Ev → Sto → Res U) (g : U → Ev → Sto → GRes) : Ev → Sto → SRes := fun env S => bndE (m env S) env fun u S1 => match g u env S1 with
  | some (env1, S2) => .nx env1 S2
  | none => .bad
def notPar : Expr → Expr → Bool
  | .Tuple _ _ _, .Tuple _ _ _ => false
  | .List _ _, .Tuple _ _ _ => false
  | _, _ => true
theorem no_par {tg e : Expr} {env : Env} (h : notPar tg e = true) : swappedStores [tg] e env = pure none := by
  cases tg <;> first | rfl | (cases e <;> first | rfl | cases h)
theorem ss_asg {tg e : Expr} {pos : Pos} {m : Ev → Sto → Res U} {g : U → Ev → Sto → GRes} {ws : List Nat} (h : SE k Γ C e m) (hg : SG k Γ C ws tg g) (hn : notCo e = true) (hp : notPar tg e = true) (hq : plainE tg = true) : SS k Γ C lp (.Assign [tg] e pos) (mAsg m g) := by
  refine ⟨?_⟩
  intro X b ok cal l W tk σ H ρ env S D er r hw
  refine PS.max (ps_asg (pe_tE X e) (pg_tG X tg) (noSwap hn _ _ _) (no_par hp) (each_cons hq)) ?_
  refine h.run X b ok cal W tk σ H ρ env S _ er r (wpS.bndE er hw fun u S1 _ ρ1 H1 v g1 r1 ru h1 => ?_)
  refine hg.run X b ok cal W tk σ H1 ρ1 env S1 u v _ (er.up g1) r1 ru ?_
  split at h1
  · rename_i env1 S2 e1
    rw [e1]
    exact fun ρ2 σ2 H2 g2 er2 rp2 _ => h1 ρ2 σ2 H2 g2 er2 rp2
  · exact h1.elim
end
end Mn
set_option Elab.async false
set_option linter.all false
set_option maxRecDepth 100000
set_option maxHeartbeats 4000000
/-! Mn6: what is walked; for, while, list comprehensions. -/
namespace Mn
open PySem PySem.Spec PyProof.Rows L2

/-- one thing of a zip -/
inductive Leg where
  | ls (k : Nat) | tp (k : Nat) | tx (x : Str)
/-- what a for or a comprehension walks -/
inductive Src where
  | lst (k : Nat) | tup (k : Nat) | rng (lo : Int) (n : Nat) | txt (x : Str) | enm (k : Nat) | zip (l m : Leg) (st : Bool)
inductive Nx where
  | stop | give (u : U) (S : Sto) | bad
def listAt (k : Nat) (S : Sto) : Option (List U) := match S[k]? with
  | some (.lst xs) => some xs
  | some (.scr xs) => some xs
  | _ => none
def tupAt (k : Nat) (S : Sto) : Option (List U) := match S[k]? with
  | some (.tup xs) => some xs
  | _ => none
def legU (l : Leg) (S : Sto) : Option (List U) := match l with
  | .ls k => listAt k S
  | .tp k => tupAt k S
  | .tx x => some (x.cps.toList.map fun c => .str ⟨#[c]⟩)
def nxt (s : Src) (i : Nat) (S : Sto) : Nx := match s with
  | .lst k => match listAt k S with
    | some xs => match xs[i]? with
      | some u => .give u S
      | none => .stop
    | none => .bad
  | .tup k => match tupAt k S with
    | some xs => match xs[i]? with
      | some u => .give u S
      | none => .stop
    | none => .bad
  | .rng lo n => if i < n then .give (.int (lo + (i : Int))) S else .stop
  | .txt x => match x.cps[i]? with
    | some c => .give (.str ⟨#[c]⟩) S
    | none => .stop
  | .enm k => match listAt k S with
    | some xs => match xs[i]? with
      | some u => .give (.ref S.length) (S ++ [.tup [.int (i : Int), u]])
      | none => .stop
    | none => .bad
  | .zip l m st => match legU l S, legU m S with
    | some xs, some ys => match xs[i]?, ys[i]? with
      | some u, some v => .give (.ref S.length) (S ++ [.tup [u, v]])
      | _, _ => if i ≤ xs.length ∧ i ≤ ys.length ∧ (st = true → xs.length = i ∧ ys.length = i) then .stop else .bad
    | _, _ => .bad
/-- how many turns at most -/
def turns (s : Src) (S : Sto) : Nat := match s with
  | .lst k => match listAt k S with
    | some xs => xs.length
    | none => 0
  | .tup k => match tupAt k S with
    | some xs => xs.length
    | none => 0
  | .rng _ n => n
  | .txt x => x.length
  | .enm k => match listAt k S with
    | some xs => xs.length
    | none => 0
  | .zip l _ _ => match legU l S with
    | some xs => xs.length
    | none => 0
section
variable {K : PySem.W.Frag} {mg : Str → Option Value} {b ρ : List Addr} {S : Sto} {H : Hp}
theorem listAt_ok {k : Nat} {xs : List U} {a : Addr} (r : Rep K mg b ρ S H) (e : listAt k S = some xs) (ha : ρ[k]? = some a) : ∃ vs, RUs mg ρ xs vs ∧ SqL K H a vs := by
  unfold listAt at e
  split at e
  · rename_i ys q
    cases e
    obtain ⟨vs, h1, h2⟩ := r.ob k _ a q ha
    exact ⟨vs, h1, .inl (.inl h2)⟩
  · rename_i ys q
    cases e
    obtain ⟨vs, h1, h2⟩ := r.ob k _ a q ha
    exact ⟨vs, h1, scr_sql h2⟩
  · cases e
theorem tupAt_ok {k : Nat} {xs : List U} {a : Addr} (r : Rep K mg b ρ S H) (e : tupAt k S = some xs) (ha : ρ[k]? = some a) : ∃ vs, RUs mg ρ xs vs ∧ SqT K H a vs := by
  unfold tupAt at e
  split at e
  · rename_i ys q
    cases e
    obtain ⟨vs, h1, h2⟩ := r.ob k _ a q ha
    exact ⟨vs, h1, h2⟩
  · cases e
end
/-- J goes as the source does -/
def SrcJ (K : PySem.W.Frag) (mg : Str → Option Value) (b : List Addr) (ρ : List Addr) (s : Src) (J : It) : Prop := ∀ ρ' i S H, Gr ρ ρ' → Rep K mg b ρ' S H → match nxt s i S with
  | .stop => J.stop i H
  | .give u S' => J.go i H ∧ ∀ x H', J.yld i H x H' → ∃ ρ'', Gr ρ' ρ'' ∧ Rep K mg b ρ'' S' H' ∧ RU mg ρ'' u x
  | .bad => True
section
variable {K : PySem.W.Frag} {mg : Str → Option Value} {b ρ : List Addr}
theorem src_lst {k : Nat} {a : Addr} (ha : ρ[k]? = some a) : SrcJ K mg b ρ (.lst k) (Itl K a) := by
  intro ρ' i S H g r
  unfold nxt
  dsimp only
  cases e : listAt k S with
  | none => trivial
  | some xs =>
    obtain ⟨vs, h1, h2⟩ := listAt_ok r e (g.get ha)
    dsimp only
    cases e1 : xs[i]? with
    | none => exact ⟨vs, h2, by rw [← paired_len h1]; exact List.getElem?_eq_none_iff.mp e1⟩
    | some u =>
      obtain ⟨v, e2, hv⟩ := paired_get h1 e1
      refine ⟨⟨vs, v, h2, e2⟩, fun x H' y => ?_⟩
      obtain ⟨rfl, y⟩ := y
      have e3 := y vs h2
      rw [e2] at e3
      cases e3
      exact ⟨ρ', Gr.refl _, r, hv⟩
theorem src_tup {k : Nat} {a : Addr} (ha : ρ[k]? = some a) : SrcJ K mg b ρ (.tup k) (Itt K a) := by
  intro ρ' i S H g r
  unfold nxt
  dsimp only
  cases e : tupAt k S with
  | none => trivial
  | some xs =>
    obtain ⟨vs, h1, h2⟩ := tupAt_ok r e (g.get ha)
    dsimp only
    cases e1 : xs[i]? with
    | none => exact ⟨vs, h2, by rw [← paired_len h1]; exact List.getElem?_eq_none_iff.mp e1⟩
    | some u =>
      obtain ⟨v, e2, hv⟩ := paired_get h1 e1
      refine ⟨⟨vs, v, h2, e2⟩, fun x H' y => ?_⟩
      obtain ⟨rfl, y⟩ := y
      have e3 := y vs h2
      rw [e2] at e3
      cases e3
      exact ⟨ρ', Gr.refl _, r, hv⟩
theorem src_rng {lo : Int} {n : Nat} : SrcJ K mg b ρ (.rng lo n) (Itr lo n) := by
  intro ρ' i S H g r
  unfold nxt
  dsimp only
  by_cases hi : i < n
  · rw [if_pos hi]
    refine ⟨hi, fun x H' y => ?_⟩
    obtain ⟨rfl, rfl⟩ := y
    exact ⟨ρ', Gr.refl _, r, .int _⟩
  · rw [if_neg hi]
    exact Nat.le_of_not_lt hi
theorem src_txt {t : Str} : SrcJ K mg b ρ (.txt t) (Its t) := by
  intro ρ' i S H g r
  unfold nxt
  dsimp only
  cases e : t.cps[i]? with
  | none => exact Array.getElem?_eq_none_iff.mp e
  | some c =>
    refine ⟨(Array.getElem?_eq_some_iff.mp e).1, fun x H' y => ?_⟩
    obtain ⟨rfl, c', e', rfl⟩ := y
    rw [e] at e'
    cases e'
    exact ⟨ρ', Gr.refl _, r, .str _⟩
theorem src_enm {k : Nat} {a : Addr} (ha : ρ[k]? = some a) : SrcJ K mg b ρ (.enm k) (Ite K a) := by
  intro ρ' i S H g r
  unfold nxt
  dsimp only
  cases e : listAt k S with
  | none => trivial
  | some xs =>
    obtain ⟨vs, h1, h2⟩ := listAt_ok r e (g.get ha)
    dsimp only
    cases e1 : xs[i]? with
    | none => exact ⟨vs, h2, by rw [← paired_len h1]; exact List.getElem?_eq_none_iff.mp e1⟩
    | some u =>
      obtain ⟨v, e2, hv⟩ := paired_get h1 e1
      refine ⟨⟨vs, v, h2, e2⟩, fun x H' y => ?_⟩
      obtain ⟨T, w, rfl, hT, rfl, y⟩ := y
      have e3 := y vs h2
      rw [e2] at e3
      cases e3
      exact ⟨ρ' ++ [T], Gr.snoc _ _, r.tup hT (.cons (.int _) (.cons hv .nil)), r.last T⟩
end

/-! ### what stands behind in -/
def tI (X : Cx) (tg iter : Expr) : TI := fun σ H R => ∀ pins s, L2.Inv X pins σ H s → wpAny (model X.prog X.w) X.A (eval iter X.env) (fun v s1 => wpAny (model X.prog X.w) X.A (pyIter v) (PIE X pins σ tg R) X.xe s1) X.xe s
theorem pi_tI (X : Cx) (tg iter : Expr) : PI X tg iter (tI X tg iter) := ⟨fun pins s _ _ _ I h => h pins s I⟩
theorem PI.max {X : Cx} {tg iter : Expr} {t : TI} (h : PI X tg iter t) {σ : St} {H : Hp} {R : It → Hp → Prop} (q : t σ H R) : tI X tg iter σ H R := fun pins s I => h.run pins s σ H R I q
structure SI (k : Nat) (Γ : Gm) (C : Cal) (tg iter : Expr) (m : Ev → Sto → Res Src) : Prop where
  run : ∀ X b, OkX k Γ X → CalOk k X b C → ∀ W, Takes X W → ∀ σ H ρ env S R, EnvR X.mg ρ env σ → Rep X.K X.mg b ρ S H →
  wpG X.K X.mg b (SrcJ X.K X.mg b) (m env S) ρ σ W R → tI X tg iter σ H R
section
variable {k : Nat} {Γ : Gm} {C : Cal}
def srcOf (u : U) (S : Sto) : Option Src := match u with
  | .str x => some (.txt x)
  | .ref j => match S[j]? with
    | some (.lst _) => some (.lst j)
    | some (.scr _) => some (.lst j)
    | some (.tup _) => some (.tup j)
    | _ => none
  | _ => none
def iVal (m : Ev → Sto → Res U) : Ev → Sto → Res Src := fun env S => bnd (m env S) fun u S1 => opR (srcOf u S1) S1
theorem si_val {tg e : Expr} {m : Ev → Sto → Res U} (h : SE k Γ C e m) : SI k Γ C tg e (iVal m) := by
  refine ⟨?_⟩
  intro X b ok cal W tk σ H ρ env S R er r hw
  have hh := h.run X b ok cal W tk σ H ρ env S
  unfold iVal at hw
  cases em : m env S with
  | bad => rw [em] at hw; exact hw.elim
  | exc x S1 =>
    rw [em] at hw hh
    exact PI.max (pi_str (pe_tE X e)) (hh _ er r hw)
  | ok u S1 =>
    rw [em] at hw hh
    have hw : wpG X.K X.mg b (SrcJ X.K X.mg b) (opR (srcOf u S1) S1) ρ σ W R := hw
    cases es : srcOf u S1 with
    | none => rw [es] at hw; exact hw.elim
    | some s =>
      rw [es] at hw
      unfold srcOf at es
      split at es
      · cases es
        refine PI.max (pi_str (pe_tE X e)) (hh _ er r fun ρ1 H1 v g r1 ru => ?_)
        cases ru
        exact ⟨_, rfl, hw ρ1 H1 _ g r1 src_txt⟩
      · split at es
        · rename_i xs ej
          cases es
          refine PI.max (pi_list (pe_tE X e)) (hh _ er r fun ρ1 H1 v g r1 ru => ?_)
          obtain ⟨a, rfl, ea, vs, pv, hv⟩ := r1.of ej ru
          exact ⟨a, rfl, ⟨vs, .inl (.inl hv)⟩, hw ρ1 H1 _ g r1 (src_lst ea)⟩
        · rename_i xs ej
          cases es
          refine PI.max (pi_list (pe_tE X e)) (hh _ er r fun ρ1 H1 v g r1 ru => ?_)
          obtain ⟨a, rfl, ea, vs, pv, hv⟩ := r1.of ej ru
          exact ⟨a, rfl, ⟨vs, scr_sql hv⟩, hw ρ1 H1 _ g r1 (src_lst ea)⟩
        · rename_i xs ej
          cases es
          refine PI.max (pi_tup (pe_tE X e)) (hh _ er r fun ρ1 H1 v g r1 ru => ?_)
          obtain ⟨a, rfl, ea, vs, pv, hv⟩ := r1.of ej ru
          exact ⟨a, rfl, ⟨vs, hv⟩, hw ρ1 H1 _ g r1 (src_tup ea)⟩
        · cases es
      · cases es
theorem lim62 {i : Int} (h : i.natAbs < 2 ^ 60) : -(2 ^ 62) ≤ i ∧ i < 2 ^ 62 := by omega
def iRng1 (ms : Ev → Sto → Res (List U)) : Ev → Sto → Res Src := fun env S => bnd (ms env S) fun us S1 => match us with
  | [.int n] => if n.natAbs < 2 ^ 60 then .ok (.rng 0 n.toNat) S1 else .bad
  | _ => .bad
theorem si_rng1 {tg e : Expr} {p pos : Pos} {ms : Ev → Sto → Res (List U)} (hg : glbB Γ.sc "range" = true) (hb : ("range" : Str) ∈ C.bi) (h : SA k Γ C [e] ms) (hp : plainE e = true) : SI k Γ C tg (.Call (.Name "range" p) [e] [] pos) (iRng1 ms) := by
  refine ⟨?_⟩
  intro X b ok cal W tk σ H ρ env S R er r hw
  refine PI.max (pi_range1 (gl_of ok hg) (cal.bi _ hb) (pa_tA X [e]) (by rw [star_cons hp]; rfl)) ?_
  refine h.run X b ok cal W tk σ H ρ env S _ er r (wpG.bnd hw fun us S1 _ ρ1 H1 vs g1 r1 ru h1 => ?_)
  split at h1
  · rename_i n
    split at h1
    · rename_i hn
      cases ru with
      | cons q t =>
        cases q; cases t
        exact ⟨_, rfl, (lim62 hn).1, (lim62 hn).2, h1 ρ1 H1 _ (Gr.refl _) r1 src_rng⟩
    · exact h1.elim
  · exact h1.elim
def iRng2 (ms : Ev → Sto → Res (List U)) : Ev → Sto → Res Src := fun env S => bnd (ms env S) fun us S1 => match us with
  | [.int lo, .int n] => if lo.natAbs < 2 ^ 60 ∧ n.natAbs < 2 ^ 60 then .ok (.rng lo (n - lo).toNat) S1 else .bad
  | _ => .bad
theorem si_rng2 {tg e f : Expr} {p pos : Pos} {ms : Ev → Sto → Res (List U)} (hg : glbB Γ.sc "range" = true) (hb : ("range" : Str) ∈ C.bi) (h : SA k Γ C [e, f] ms) (hp : plainE e = true) (hq : plainE f = true) : SI k Γ C tg (.Call (.Name "range" p) [e, f] [] pos) (iRng2 ms) := by
  refine ⟨?_⟩
  intro X b ok cal W tk σ H ρ env S R er r hw
  refine PI.max (pi_range2 (gl_of ok hg) (cal.bi _ hb) (pa_tA X [e, f]) (by rw [star_cons hp, star_cons hq]; rfl) (by rw [star_cons hq]; rfl)) ?_
  refine h.run X b ok cal W tk σ H ρ env S _ er r (wpG.bnd hw fun us S1 _ ρ1 H1 vs g1 r1 ru h1 => ?_)
  split at h1
  · rename_i lo n
    split at h1
    · rename_i hn
      cases ru with
      | cons q t =>
        cases q
        cases t with
        | cons q t =>
          cases q; cases t
          exact ⟨_, _, rfl, ⟨(lim62 hn.1).1, (lim62 hn.1).2, (lim62 hn.2).1, (lim62 hn.2).2⟩, h1 ρ1 H1 _ (Gr.refl _) r1 src_rng⟩
    · exact h1.elim
  · exact h1.elim
def iEnm (ms : Ev → Sto → Res (List U)) : Ev → Sto → Res Src := fun env S => bnd (ms env S) fun us S1 => match us with
  | [.ref j] => match listAt j S1 with
    | some _ => .ok (.enm j) S1
    | none => .bad
  | _ => .bad
theorem si_enm {e : Expr} {elts : List Expr} {kk : Nat} {tpos p pos : Pos} {ms : Ev → Sto → Res (List U)} (hg : glbB Γ.sc "enumerate" = true) (hb : ("enumerate" : Str) ∈ C.bi) (h : SA k Γ C [e] ms) (hp : plainE e = true) :
    SI k Γ C (.Tuple elts kk tpos) (.Call (.Name "enumerate" p) [e] [] pos) (iEnm ms) := by
  refine ⟨?_⟩
  intro X b ok cal W tk σ H ρ env S R er r hw
  refine PI.max (pi_enum (gl_of ok hg) (cal.bi _ hb) (pa_tA X [e]) (by rw [star_cons hp]; rfl)) ?_
  refine h.run X b ok cal W tk σ H ρ env S _ er r (wpG.bnd hw fun us S1 _ ρ1 H1 vs g1 r1 ru h1 => ?_)
  split at h1
  · rename_i j
    split at h1
    · rename_i xs el
      cases ru with
      | cons q t =>
        cases t
        cases q with
        | ref ea =>
          obtain ⟨ws, p1, p2⟩ := listAt_ok r1 el ea
          exact ⟨_, ws, rfl, p2, h1 ρ1 H1 _ (Gr.refl _) r1 (src_enm ea)⟩
    · exact h1.elim
  · exact h1.elim

/-! ### for -/
def forL (s : Src) (g : U → Ev → Sto → GRes) (m : Ev → Sto → SRes) : Nat → Nat → Ev → Sto → SRes
  | 0, _, _, _ => .bad
  | f + 1, i, env, S => match nxt s i S with
    | .stop => .nx env S
    | .bad => .bad
    | .give u S1 => match g u env S1 with
      | none => .bad
      | some (env1, S2) => match m env1 S2 with
        | .nx env2 S3 => forL s g m f (i + 1) env2 S3
        | .ct env2 S3 => forL s g m f (i + 1) env2 S3
        | .bk env2 S3 => .nx env2 S3
        | r => r
def mFor (mi : Ev → Sto → Res Src) (g : U → Ev → Sto → GRes) (m : Ev → Sto → SRes) : Ev → Sto → SRes := fun env S => bndE (mi env S) env fun s S1 => forL s g m (turns s S1 + 1) 0 env S1
def notSetE : Expr → Bool
  | .Set _ _ _ => false
  | _ => true
theorem fold_plain {iter : Expr} {env : Env} (h : notSetE iter = true) (x : Value) : foldedSetIterable iter env x = pure x := by
  cases iter <;> first | rfl | cases h
theorem ss_for {tg iter : Expr} {body : List Stmt} {pos : Pos} {ws : List Nat} {mi : Ev → Sto → Res Src} {g : U → Ev → Sto → GRes} {m : Ev → Sto → SRes} (hi : SI k Γ C tg iter mi) (hg : SG k Γ C ws tg g) (hb : SB k Γ C true body m) (hn : notSetE iter = true) :
    SS k Γ C true (.For tg iter body [] pos) (mFor mi g m) := by
  refine ⟨?_⟩
  intro X b ok cal l W tk σ H ρ env S D er r hw
  refine PS.max (ps_for (l rfl) ok.calm (pi_tI X tg iter) (pg_tG X tg) (pss_tSs X body) (fun x => fold_plain hn x)) ?_
  refine hi.run X b ok cal W tk σ H ρ env S _ er r (wpS.bndE er hw fun s S1 _ ρ1 H1 J g1 r1 sj h1 => ?_)
  refine ⟨fun i f σ' H' => ∃ ρ' env' S', Gr ρ1 ρ' ∧ EnvR X.mg ρ' env' σ' ∧ Rep X.K X.mg b ρ' S' H' ∧ wpS X.K X.mg b (forL s g m f i env' S') ρ' W D, ⟨_, ρ1, env, S1, Gr.refl _, er.up g1, r1, h1⟩, ?_⟩
  rintro i f σ' H' ⟨ρ', env', S', g', er', r', h'⟩
  cases f with
  | zero => exact h'.elim
  | succ f =>
    have sj' := sj ρ' i S' H' g' r'
    unfold forL at h'
    cases en : nxt s i S' with
    | bad => rw [en] at h'; exact h'.elim
    | stop =>
      rw [en] at h' sj'
      exact .inl ⟨sj', h' ρ' σ' H' (Gr.refl _) er' r'⟩
    | give u S2 =>
      rw [en] at h' sj'
      dsimp only at h' sj'
      refine .inr ⟨sj'.1, fun σ2 H2 => ∃ ρ2 env2 S2, Gr ρ1 ρ2 ∧ EnvR X.mg ρ2 env2 σ2 ∧ Rep X.K X.mg b ρ2 S2 H2 ∧ wpS X.K X.mg b (forL s g m f (i + 1) env2 S2) ρ2 W D, fun σ2 H2 hN => ⟨f, Nat.lt_succ_self f, hN⟩, fun x H3 hy => ?_⟩
      obtain ⟨ρ3, g3, r3, ru⟩ := sj'.2 x H3 hy
      refine hg.run X b ok cal W tk σ' H3 ρ3 env' S2 u x _ (er'.up g3) r3 ru ?_
      cases eg : g u env' S2 with
      | none => rw [eg] at h'; exact h'.elim
      | some p =>
        obtain ⟨env4, S4⟩ := p
        rw [eg] at h'
        dsimp only at h'
        intro ρ4 σ4 H4 g4 er4 r4 _
        refine hb.run X b ok cal l W tk σ4 H4 ρ4 env4 S4 _ er4 r4 ?_
        have gg := (g'.trans g3).trans g4
        cases em : m env4 S4 with
        | nx env5 S5 =>
          rw [em] at h'
          exact fun ρ5 σ5 H5 g5 er5 r5 => ⟨ρ5, env5, S5, gg.trans g5, er5, r5, h'.up ((g3.trans g4).trans g5)⟩
        | ct env5 S5 =>
          rw [em] at h'
          exact fun ρ5 σ5 H5 g5 er5 r5 => ⟨ρ5, env5, S5, gg.trans g5, er5, r5, h'.up ((g3.trans g4).trans g5)⟩
        | bk env5 S5 =>
          rw [em] at h'
          exact wpS.up (g3.trans g4) (r := .nx env5 S5) h'
        | rt v S5 =>
          rw [em] at h'
          exact wpS.up (g3.trans g4) (r := .rt v S5) h'
        | exc y env5 S5 =>
          rw [em] at h'
          exact wpS.up (g3.trans g4) (r := .exc y env5 S5) h'
        | bad =>
          rw [em] at h'
          exact h'.elim

/-! ### while -/
def whL (c : Ev → Sto → Res Bool) (m : Ev → Sto → SRes) : Nat → Ev → Sto → SRes
  | 0, _, _ => .bad
  | f + 1, env, S => match c env S with
    | .bad => .bad
    | .exc x S1 => .exc x env S1
    | .ok false S1 => .nx env S1
    | .ok true S1 => match m env S1 with
      | .nx env2 S3 => whL c m f env2 S3
      | .ct env2 S3 => whL c m f env2 S3
      | .bk env2 S3 => .nx env2 S3
      | r => r
theorem ss_while {c : Expr} {body : List Stmt} {pos : Pos} {mc : Ev → Sto → Res Bool} {m : Ev → Sto → SRes} (fuel : Nat) (hc : ST k Γ C c mc) (hb : SB k Γ C true body m) : SS k Γ C true (.While c body [] pos) (whL mc m fuel) := by
  refine ⟨?_⟩
  intro X b ok cal l W tk σ H ρ env S D er r hw
  refine PS.max (ps_while (l rfl) (pt_tT X c) (pss_tSs X body)) ?_
  refine ⟨fun f σ' H' => ∃ ρ' env' S', EnvR X.mg ρ' env' σ' ∧ Rep X.K X.mg b ρ' S' H' ∧ wpS X.K X.mg b (whL mc m f env' S') ρ' W D, ⟨_, ρ, env, S, er, r, hw⟩, ?_⟩
  rintro f σ' H' ⟨ρ', env', S', er', r', h'⟩
  cases f with
  | zero => exact h'.elim
  | succ f =>
    unfold whL at h'
    refine hc.run X b ok cal W tk σ' H' ρ' env' S' _ er' r' ?_
    cases ec : mc env' S' with
    | bad => rw [ec] at h'; exact h'.elim
    | exc x S1 =>
      rw [ec] at h'
      exact fun ρ1 H1 c d g1 r1 rx => h' ρ1 σ' H1 c d g1 (er'.up g1) r1 rx
    | ok t S1 =>
      rw [ec] at h'
      intro ρ1 H1 v g1 r1 e1
      subst e1
      cases t with
      | false => exact iteF (h' ρ1 σ' H1 g1 (er'.up g1) r1)
      | true =>
        dsimp only at h'
        refine iteT ⟨fun σ2 H2 => ∃ ρ2 env2 S2, EnvR X.mg ρ2 env2 σ2 ∧ Rep X.K X.mg b ρ2 S2 H2 ∧ wpS X.K X.mg b (whL mc m f env2 S2) ρ2 W D, fun σ2 H2 hN => ⟨f, Nat.lt_succ_self f, hN⟩, ?_⟩
        refine hb.run X b ok cal l W tk σ' H1 ρ1 env' S1 _ (er'.up g1) r1 ?_
        cases em : m env' S1 with
        | nx env5 S5 =>
          rw [em] at h'
          exact fun ρ5 σ5 H5 g5 er5 r5 => ⟨ρ5, env5, S5, er5, r5, h'.up (g1.trans g5)⟩
        | ct env5 S5 =>
          rw [em] at h'
          exact fun ρ5 σ5 H5 g5 er5 r5 => ⟨ρ5, env5, S5, er5, r5, h'.up (g1.trans g5)⟩
        | bk env5 S5 =>
          rw [em] at h'
          exact wpS.up g1 (r := .nx env5 S5) h'
        | rt v S5 =>
          rw [em] at h'
          exact wpS.up g1 (r := .rt v S5) h'
        | exc y env5 S5 =>
          rw [em] at h'
          exact wpS.up g1 (r := .exc y env5 S5) h'
        | bad =>
          rw [em] at h'
          exact h'.elim
end
end Mn
set_option Elab.async false
set_option linter.all false
set_option maxRecDepth 100000
set_option maxHeartbeats 4000000
/-! Mn7: list comprehensions. -/
namespace Mn
open PySem PySem.Spec PyProof.Rows L2

/-- the block's world -/
def Gm.blk (Γ : Gm) (scope : Scope) : Gm := { N := Γ.N, sc := relS scope Γ.sc, fl := fun x => scope.names.lookup x == some .cell }
def wipeE (env : Ev) : List Nat → Ev
  | [] => env
  | v :: vs => (wipeE env vs).set v none
theorem wipeE_length (env : Ev) : ∀ vs : List Nat, (wipeE env vs).length = env.length
  | [] => rfl
  | v :: vs => by unfold wipeE; rw [List.length_set, wipeE_length env vs]
theorem wipeE_some {env : Ev} {i : Nat} {x : U} : ∀ {vs : List Nat}, (wipeE env vs)[i]? = some (some x) → env[i]? = some (some x) ∧ i ∉ vs
  | [], h => ⟨h, by simp⟩
  | v :: vs, h => by
    unfold wipeE at h
    by_cases hi : v = i
    · subst hi
      by_cases hv : v < (wipeE env vs).length
      · rw [List.getElem?_set_self hv] at h; cases h
      · rw [List.getElem?_eq_none (by simpa using hv)] at h; cases h
    · rw [List.getElem?_set_ne hi] at h
      obtain ⟨h1, h2⟩ := wipeE_some h
      exact ⟨h1, by simp only [List.mem_cons, not_or]; exact ⟨fun e => hi e.symm, h2⟩⟩
theorem EnvR.wipe {mg : Str → Option Value} {ρ : List Addr} {env : Ev} {σ : St} (h : EnvR mg ρ env σ) (vs : List Nat) : EnvR mg ρ (wipeE env vs) (L2.wipe σ vs) := by
  refine ⟨by rw [wipeE_length, wipe_length, h.1], fun i u e => ?_⟩
  obtain ⟨e1, e2⟩ := wipeE_some e
  obtain ⟨v, h1, h2⟩ := h.2 i u e1
  exact ⟨v, by rw [wipe_at, if_neg e2]; exact h1, h2⟩

/-! ### tests -/
def stepT (env : Env) : Expr → Bool → Sem (ForInStep Bool) := fun c r => if r = true then do let ok ← isTrue c env (eval c env); pure (ForInStep.yield ok) else pure (ForInStep.yield r)
theorem no_more (env : Env) : ∀ ifs : List Expr, forIn ifs false (stepT env) = pure false
  | [] => List.forIn_nil
  | c :: cs => by
    rw [List.forIn_cons]
    show (pure (ForInStep.yield false) >>= _) = _
    exact no_more env cs
theorem pts_cons {X : Cx} {c : Expr} {cs : List Expr} {t ts : TT} (h : PT X c t) (h' : PTs X cs ts) : PTs X (c :: cs) (fun σ H Q => t σ H fun b H1 => if b = true then ts σ H1 Q else Q false H1) := by
  refine ⟨fun pins s σ H Q I hw => ?_⟩
  show wpAny _ _ (forIn (c :: cs) true (stepT X.env)) _ _ _
  rw [List.forIn_cons]
  refine wpAny_bind ?_
  show wpAny _ _ (do let ok ← isTrue c X.env (eval c X.env); pure (ForInStep.yield ok)) _ _ _
  refine wpAny_bind (thn (h.run pins s σ H _ I hw) fun b s1 ⟨H1, I1, q⟩ => wpAny_pure ?_)
  cases b with
  | true => exact h'.run pins s1 σ H1 Q I1 q
  | false =>
    show wpAny _ _ (forIn cs false (stepT X.env)) _ _ _
    rw [no_more]
    exact wpAny_pure ⟨H1, I1, q⟩
def tTs (X : Cx) (es : List Expr) : TT := fun σ H Q => ∀ pins s, L2.Inv X pins σ H s → wpAny (model X.prog X.w) X.A (forIn es true (stepT X.env)) (TP X pins σ Q) X.xe s
theorem pts_tTs (X : Cx) (es : List Expr) : PTs X es (tTs X es) := ⟨fun pins s _ _ _ I h => h pins s I⟩
theorem PTs.max {X : Cx} {es : List Expr} {t : TT} (h : PTs X es t) {σ : St} {H : Hp} {Q : Bool → Hp → Prop} (q : t σ H Q) : tTs X es σ H Q := fun pins s I => h.run pins s σ H Q I q
structure STs (k : Nat) (Γ : Gm) (C : Cal) (es : List Expr) (m : Ev → Sto → Res Bool) : Prop where
  run : ∀ X b, OkX k Γ X → CalOk k X b C → ∀ W, Takes X W → ∀ σ H ρ env S Q, EnvR X.mg ρ env σ → Rep X.K X.mg b ρ S H →
  wpT X.K X.mg b (m env S) ρ σ W Q → tTs X es σ H Q
section
variable {k : Nat} {Γ : Gm} {C : Cal}
theorem sts_nil : STs k Γ C [] fun _ S => .ok true S := ⟨fun X b ok cal W tk σ H ρ env S Q er r hw => PTs.max pts_nil (hw ρ H true (Gr.refl _) r rfl)⟩
def mAll (m ms : Ev → Sto → Res Bool) : Ev → Sto → Res Bool := fun env S => bnd (m env S) fun t S1 => if t = true then ms env S1 else .ok false S1
theorem sts_cons {e : Expr} {es : List Expr} {m ms : Ev → Sto → Res Bool} (h : ST k Γ C e m) (h' : STs k Γ C es ms) : STs k Γ C (e :: es) (mAll m ms) := by
  refine ⟨?_⟩
  intro X b ok cal W tk σ H ρ env S Q er r hw
  refine PTs.max (pts_cons (pt_tT X e) (pts_tTs X es)) ?_
  refine h.run X b ok cal W tk σ H ρ env S _ er r (wpG.bnd hw fun t S1 _ ρ1 H1 v g1 r1 e1 h1 => ?_)
  subst e1
  cases t with
  | true => exact iteT (h'.run X b ok cal W tk σ H1 ρ1 env S1 Q (er.up g1) r1 h1)
  | false => exact iteF (h1 ρ1 H1 false (Gr.refl _) r1 rfl)

/-! ### the loop -/
def pushAt (D : Nat) (u : U) (S : Sto) : Option Sto := match S[D]? with
  | some (.lst us) => if us.length < LIM then some (S.set D (.lst (us ++ [u]))) else none
  | _ => none
def lcL (s : Src) (g : U → Ev → Sto → GRes) (t : Ev → Sto → Res Bool) (m : Ev → Sto → Res U) (e0 : Ev) (D : Nat) : Nat → Nat → Sto → Option Sto
  | 0, _, _ => none
  | f + 1, i, S => match nxt s i S with
    | .stop => some S
    | .bad => none
    | .give u S1 => match g u e0 S1 with
      | none => none
      | some (env1, S2) => match t env1 S2 with
        | .ok true S3 => match m env1 S3 with
          | .ok v S4 => match pushAt D v S4 with
            | some S5 => lcL s g t m e0 D f (i + 1) S5
            | none => none
          | _ => none
        | .ok false S3 => lcL s g t m e0 D f (i + 1) S3
        | _ => none
def mLc (mi : Ev → Sto → Res Src) (g : U → Ev → Sto → GRes) (t : Ev → Sto → Res Bool) (m : Ev → Sto → Res U) (vs : List Nat) : Ev → Sto → Res U := fun env S => bnd (mi env S) fun s S1 =>
  match lcL s g t m (wipeE env vs) S1.length (turns s S1 + 1) 0 (S1 ++ [.lst []]) with
  | some S2 => .ok (.ref S1.length) S2
  | none => .bad
theorem push_ok {K : PySem.W.Frag} {mg : Str → Option Value} {b ρ : List Addr} {S S' : Sto} {H : Hp} {D : Nat} {a : Addr} {u : U} {v : V} (r : Rep K mg b ρ S H) (ea : ρ[D]? = some a) (ru : RU mg ρ u v) (e : pushAt D u S = some S') :
    ∃ acc, H a = some (.lst acc) ∧ acc.length < sizeLine ∧ Rep K mg b ρ S' (upd H a (.lst (acc ++ [v]))) := by
  unfold pushAt at e
  split at e
  · rename_i us ej
    split at e
    · rename_i hl
      cases e
      obtain ⟨vs, pv, hv⟩ := r.ob D _ a ej ea
      exact ⟨vs, hv, by rw [← paired_len pv]; exact Nat.lt_of_lt_of_le hl (lim_line (Nat.le_refl _)), r.put ej ea rfl rfl ⟨_, paired_app pv (.cons ru .nil), upd_same⟩⟩
    · cases e
  · cases e
theorem lc_law {X : Cx} {b : List Addr} {elt tg iter : Expr} {ifs : List Expr} {scope : Scope} {own : List (Str × Nat)} {ws : List Nat} {mi : Ev → Sto → Res Src} {g : U → Ev → Sto → GRes} {t : Ev → Sto → Res Bool} {m : Ev → Sto → Res U}
    (ok : OkX k Γ X) (cal : CalOk k X b C) {W : WX} (tk : Takes X W) {σ : St} {H : Hp} {ρ : List Addr} {env : Ev} {S : Sto} {Q : VK} (er : EnvR X.mg ρ env σ) (r : Rep X.K X.mg b ρ S H) (hi : SI k Γ C tg iter mi)
    (hws : ∀ i ∈ ws, i ∈ own.map (·.2))
    {gg : TG} {tt : TT} {te : TE}
    (hg : ∀ σ H ρ env S u v Q, EnvR X.mg ρ env σ → Rep X.K X.mg b ρ S H → RU X.mg ρ u v → wpGt X.K X.mg b (g u env S) ρ σ ws Q → gg v σ H Q)
    (ht : ∀ σ H ρ env S Q, EnvR X.mg ρ env σ → Rep X.K X.mg b ρ S H → wpT X.K X.mg b (t env S) ρ σ (fun _ _ _ _ => False) Q → tt σ H Q)
    (he : ∀ σ H ρ env S Q, EnvR X.mg ρ env σ → Rep X.K X.mg b ρ S H → wpE X.K X.mg b (m env S) ρ σ (fun _ _ _ _ => False) Q → te σ H Q)
    (hw : wpE X.K X.mg b (mLc mi g t m (own.map (·.2)) env S) ρ σ W Q) : tLc (tI X tg iter) gg tt te (own.map (·.2)) σ H Q := by
  refine hi.run X b ok cal W tk σ H ρ env S _ er r (wpG.bnd hw fun s S1 _ ρ1 H1 J g1 r1 sj h1 => ?_)
  intro D hD
  have r2 := r1.lst hD (RUs.ints (mg := X.mg) (ρ := ρ1) [])
  have hl : ρ1[S1.length]? = none := List.getElem?_eq_none (by rw [r1.len]; exact Nat.le_refl _)
  have hDr : (ρ1 ++ [D])[S1.length]? = some D := by rw [← r1.len]; exact last_get ρ1 D
  refine ⟨fun i f H' => ∃ ρ' S', Gr (ρ1 ++ [D]) ρ' ∧ Rep X.K X.mg b ρ' S' H' ∧ ∃ S2, lcL s g t m (wipeE env (own.map (·.2))) S1.length f i S' = some S2 ∧ ∀ ρ2 H2, Gr (ρ1 ++ [D]) ρ2 → Rep X.K X.mg b ρ2 S2 H2 → Q (.ref D) H2, ⟨turns s S1 + 1, ρ1 ++ [D], S1 ++ [.lst []], Gr.refl _, r2, ?_⟩, ?_⟩
  · cases el : lcL s g t m (wipeE env (own.map (·.2))) S1.length (turns s S1 + 1) 0 (S1 ++ [.lst []]) with
    | none => rw [el] at h1; exact h1.elim
    | some S2 =>
      rw [el] at h1
      exact ⟨S2, rfl, fun ρ2 H2 g2 rp => h1 ρ2 H2 (.ref D) ((Gr.snoc ρ1 D).trans g2) rp (.ref (g2.get hDr))⟩
  rintro i f H' ⟨ρ', S', g', r', S2, el, fin⟩
  have gr' : Gr ρ1 ρ' := (Gr.snoc ρ1 D).trans g'
  cases f with
  | zero => unfold lcL at el; cases el
  | succ f =>
    have sj' := sj ρ' i S' H' gr' r'
    unfold lcL at el
    cases en : nxt s i S' with
    | bad => rw [en] at el; cases el
    | stop =>
      rw [en] at el sj'
      cases el
      exact .inl ⟨sj', fin ρ' H' g' r'⟩
    | give u S3 =>
      rw [en] at el sj'
      dsimp only at el sj'
      refine .inr ⟨sj'.1, fun H' => ∃ ρ' S', Gr (ρ1 ++ [D]) ρ' ∧ Rep X.K X.mg b ρ' S' H' ∧ lcL s g t m (wipeE env (own.map (·.2))) S1.length f (i + 1) S' = some S2, fun H' ⟨ρ', S', a1, a2, a3⟩ => ⟨f, Nat.lt_succ_self f, ρ', S', a1, a2, S2, a3, fin⟩, fun x H3 hy => ?_⟩
      obtain ⟨ρ3, g3, r3, ru⟩ := sj'.2 x H3 hy
      have er3 : EnvR X.mg ρ3 (wipeE env (own.map (·.2))) (wipe σ (own.map (·.2))) := (er.wipe _).up ((g1.trans gr').trans g3)
      refine hg _ H3 ρ3 _ S3 u x _ er3 r3 ru ?_
      cases eg : g u (wipeE env (own.map (·.2))) S3 with
      | none => rw [eg] at el; cases el
      | some p =>
        obtain ⟨env4, S4⟩ := p
        rw [eg] at el
        dsimp only at el
        intro ρ4 σ4 H4 g4 er4 r4 hw4
        refine ⟨(wipe_sub hw4 hws).trans wipe_twice, ?_⟩
        refine ht σ4 H4 ρ4 env4 S4 _ er4 r4 ?_
        cases et : t env4 S4 with
        | bad => rw [et] at el; cases el
        | exc x S5 => rw [et] at el; cases el
        | ok tv S5 =>
          rw [et] at el
          intro ρ5 H5 v5 g5 r5 e5
          subst e5
          cases tv with
          | false => exact iteF ⟨ρ5, S5, ((g'.trans g3).trans g4).trans g5, r5, el⟩
          | true =>
            dsimp only at el
            refine iteT (he σ4 H5 ρ5 env4 S5 _ (er4.up g5) r5 ?_)
            cases em : m env4 S5 with
            | bad => rw [em] at el; cases el
            | exc x S6 => rw [em] at el; cases el
            | ok v S6 =>
              rw [em] at el
              dsimp only at el
              intro ρ6 H6 y g6 r6 ry
              cases ep : pushAt S1.length v S6 with
              | none => rw [ep] at el; cases el
              | some S7 =>
                rw [ep] at el
                have gg := (((g'.trans g3).trans g4).trans g5).trans g6
                obtain ⟨acc, a1, a2, a3⟩ := push_ok r6 (gg.get hDr) ry ep
                exact ⟨acc, a1, a2, ρ6, S7, gg, a3, el⟩
theorem ok_blk {X : Cx} (ok : OkX k Γ X) (s : Shared) (H : Hp) (scope : Scope) (Cc : Addr) (cl : List (Str × Addr)) (fp : List Addr) : OkX k (Γ.blk scope) (X.blk s H scope (compEnvC scope cl Cc X.env) fp) :=
  ⟨ok.n, ok.nd, by show relS scope X.env.scope = relS scope Γ.sc; rw [ok.sc], fun x h => h, ok.calm, ok.room, ok.gd⟩
theorem cal_blk {X : Cx} {b : List Addr} (cal : CalOk k X b C) (s : Shared) (H : Hp) (scope : Scope) (Cc : Addr) (cl : List (Str × Addr)) (fp : List Addr) : CalOk k (X.blk s H scope (compEnvC scope cl Cc X.env) fp) b C := ⟨cal.fn, cal.gl, cal.bi, cal.kd⟩
/-- anyone's reading, in every block -/
def blkG (X : Cx) (scope : Scope) (tg : Expr) : TG := fun v σ H Q => ∀ s H0 Cc cl fp, tG (X.blk s H0 scope (compEnvC scope cl Cc X.env) fp) tg v σ H Q
def blkT (X : Cx) (scope : Scope) (es : List Expr) : TT := fun σ H Q => ∀ s H0 Cc cl fp, tTs (X.blk s H0 scope (compEnvC scope cl Cc X.env) fp) es σ H Q
def blkE (X : Cx) (scope : Scope) (e : Expr) : TE := fun σ H Q => ∀ s H0 Cc cl fp, tE (X.blk s H0 scope (compEnvC scope cl Cc X.env) fp) e σ H Q
theorem lc_read {X : Cx} {b : List Addr} {elt tg iter : Expr} {ifs : List Expr} {scope : Scope} {own : List (Str × Nat)} {ws : List Nat} {mi : Ev → Sto → Res Src} {g : U → Ev → Sto → GRes} {t : Ev → Sto → Res Bool} {m : Ev → Sto → Res U}
    (ok : OkX k Γ X) (cal : CalOk k X b C) {W : WX} (tk : Takes X W) {σ : St} {H : Hp} {ρ : List Addr} {env : Ev} {S : Sto} {Q : VK} (er : EnvR X.mg ρ env σ) (r : Rep X.K X.mg b ρ S H) (hi : SI k Γ C tg iter mi)
    (hws : ∀ i ∈ ws, i ∈ own.map (·.2)) (hg : SG k (Γ.blk scope) C ws tg g) (ht : STs k (Γ.blk scope) C ifs t) (he : SE k (Γ.blk scope) C elt m)
    (hw : wpE X.K X.mg b (mLc mi g t m (own.map (·.2)) env S) ρ σ W Q) : tLc (tI X tg iter) (blkG X scope tg) (blkT X scope ifs) (blkE X scope elt) (own.map (·.2)) σ H Q :=
  lc_law (elt := elt) (scope := scope) (ifs := ifs) ok cal tk er r hi hws
    (fun σ H ρ env S u v Q er r ru hw s H0 Cc cl fp => hg.run _ b (ok_blk ok s H0 scope Cc cl fp) (cal_blk cal s H0 scope Cc cl fp) _ takes0 σ H ρ env S u v Q er r ru hw)
    (fun σ H ρ env S Q er r hw s H0 Cc cl fp => ht.run _ b (ok_blk ok s H0 scope Cc cl fp) (cal_blk cal s H0 scope Cc cl fp) _ takes0 σ H ρ env S Q er r hw)
    (fun σ H ρ env S Q er r hw s H0 Cc cl fp => he.run _ b (ok_blk ok s H0 scope Cc cl fp) (cal_blk cal s H0 scope Cc cl fp) _ takes0 σ H ρ env S Q er r hw) hw
def subN (ws : List Nat) (own : List (Str × Nat)) : Bool := ws.all fun i => (own.map (·.2)).contains i
theorem subN_ok {ws : List Nat} {own : List (Str × Nat)} (h : subN ws own = true) : ∀ i ∈ ws, i ∈ own.map (·.2) := fun i hi => by
  have := List.all_eq_true.mp h i hi
  simpa using this
theorem se_lc {elt tg iter : Expr} {ifs : List Expr} {scope : Scope} (own : List (Str × Nat)) {pos : Pos} {ws : List Nat} {mi : Ev → Sto → Res Src} {g : U → Ev → Sto → GRes} {t : Ev → Sto → Res Bool} {m : Ev → Sto → Res U}
    (hb : blkC Γ.N Γ.sc scope own = true) (hs : subN ws own = true) (hn : notSetE iter = true) (hi : SI k Γ C tg iter mi) (hg : SG k (Γ.blk scope) C ws tg g) (ht : STs k (Γ.blk scope) C ifs t) (he : SE k (Γ.blk scope) C elt m) :
    SE k Γ C (.ListComp elt [⟨tg, iter, ifs, 0⟩] scope pos) (mLc mi g t m (own.map (·.2))) := by
  refine ⟨?_⟩
  intro X b ok cal W tk σ H ρ env S Q er r hw
  refine PE.max (pe_lc (own := own) ok.calm (by rw [ok.n]; exact ok.nd) (pi_tI X tg iter) (by rw [ok.n, ok.sc]; exact blkOk_by hb)
    (fun s H0 Cc cl fp => (⟨fun pins s1 _ _ _ u _ I rv h => h s H0 Cc cl fp pins s1 u I rv⟩ : PG _ tg (blkG X scope tg)))
    (fun s H0 Cc cl fp => (⟨fun pins s1 _ _ _ I h => h s H0 Cc cl fp pins s1 I⟩ : PTs _ ifs (blkT X scope ifs)))
    (fun s H0 Cc cl fp => (⟨fun pins s1 _ _ _ I h => h s H0 Cc cl fp pins s1 I⟩ : PE _ elt (blkE X scope elt))) (fun x => fold_plain hn x)) ?_
  exact lc_read ok cal tk er r hi (subN_ok hs) hg ht he hw
variable {lp : Bool}
def swC (Γ : Gm) (y : Str) (scope : Scope) (py pos : Pos) : Bool := (match Γ.sc.kind with | .function => true | _ => false) && (match Γ.sc.names.lookup y with | some .local => true | _ => false) && (py.line == pos.line) && !(scope.names.any fun (n, k) => n == y && (k == .local || k == .cell))
theorem swC_ok {y : Str} {scope : Scope} {py pos : Pos} (h : swC Γ y scope py pos = true) : Γ.sc.kind = .function ∧ Γ.sc.names.lookup y = some .local ∧ (py.line == pos.line) = true ∧ (scope.names.any fun (n, k) => n == y && (k == .local || k == .cell)) = false := by
  unfold swC at h
  simp only [Bool.and_eq_true, Bool.not_eq_true'] at h
  obtain ⟨⟨⟨h1, h2⟩, h3⟩, h4⟩ := h
  refine ⟨?_, ?_, h3, h4⟩
  · split at h1
    · assumption
    · cases h1
  · split at h2
    · assumption
    · cases h2
/-- name = [..] on one line -/
theorem ss_setLc {i : Nat} {y : Str} {py spos : Pos} {elt tg iter : Expr} {ifs : List Expr} {scope : Scope} (own : List (Str × Nat)) {pos : Pos} {ws : List Nat} {mi : Ev → Sto → Res Src} {g : U → Ev → Sto → GRes} {t : Ev → Sto → Res Bool} {m : Ev → Sto → Res U}
    (hy : Γ.N[i]? = some y) (hsw : swC Γ y scope py pos = true) (hb : blkC Γ.N Γ.sc scope own = true) (hs : subN ws own = true) (hn : notSetE iter = true) (hi : SI k Γ C tg iter mi) (hg : SG k (Γ.blk scope) C ws tg g) (ht : STs k (Γ.blk scope) C ifs t) (he : SE k (Γ.blk scope) C elt m) :
    SS k Γ C lp (.Assign [.Name y py] (.ListComp elt [⟨tg, iter, ifs, 0⟩] scope pos) spos) (mAsg (mLc mi g t m (own.map (·.2))) (gNm i)) := by
  refine ⟨?_⟩
  intro X b ok cal _ W tk σ H ρ env S D er r hw
  obtain ⟨w1, w2, w3, w4⟩ := swC_ok hsw
  refine PS.max (ps_setLc (own := own) ok.calm (by rw [ok.n]; exact ok.nd) (by rw [ok.n]; exact hy) (by rw [ok.sc]; exact w2) (sw_true (by rw [ok.sc]; exact w1) (by rw [ok.sc]; exact w2) w3 w4) (pi_tI X tg iter) (by rw [ok.n, ok.sc]; exact blkOk_by hb)
    (fun s H0 Cc cl fp => (⟨fun pins s1 _ _ _ u _ I rv h => h s H0 Cc cl fp pins s1 u I rv⟩ : PG _ tg (blkG X scope tg)))
    (fun s H0 Cc cl fp => (⟨fun pins s1 _ _ _ I h => h s H0 Cc cl fp pins s1 I⟩ : PTs _ ifs (blkT X scope ifs)))
    (fun s H0 Cc cl fp => (⟨fun pins s1 _ _ _ I h => h s H0 Cc cl fp pins s1 I⟩ : PE _ elt (blkE X scope elt))) (fun x => fold_plain hn x)) ?_
  refine lc_read ok cal tk er r hi (subN_ok hs) hg ht he (wpS.bndE er hw fun u S1 _ ρ1 H1 v g1 r1 ru h1 => ?_)
  exact h1 ρ1 _ H1 (Gr.refl _) ((er.up g1).set ru) r1
end
end Mn
set_option Elab.async false
set_option linter.all false
set_option maxRecDepth 100000
set_option maxHeartbeats 4000000
/-! Mn8: built-in functions, types and methods by values; f-strings; dict displays. -/
namespace Mn
open PySem PySem.Spec PyProof.Rows L2

abbrev Nt := List U → Sto → Option (U × Sto)
def wpN (K : PySem.W.Frag) (mg : Str → Option Value) (b : List Addr) (r : Option (U × Sto)) (ρ : List Addr) (Q : VK) : Prop := match r with
  | some (u, S) => ∀ ρ' H v, Gr ρ ρ' → Rep K mg b ρ' S H → RU mg ρ' u v → Q v H
  | none => False
/-- what a call of f with values does -/
def NtOk (k : Nat) (f : Value) (nt : Nt) : Prop := ∀ (X : Cx) (b : List Addr) (Γ : Gm), OkX k Γ X → ∀ pins s σ H ρ S us vs ws Q, L2.Inv X pins σ H s → Vals vs ws → Rep X.K X.mg b ρ S H → RUs X.mg ρ us vs →
  wpN X.K X.mg b (nt us S) ρ Q → wpAny (model X.prog X.w) X.A (call f ws) (EP X pins σ Q) X.xe s
theorem nt_callR {k : Nat} {f : Value} {nt : Nt} (r : Cx → List V → Hp → VK → Prop) (hc : ∀ X Γ, OkX k Γ X → CallR X f (r X))
    (h : ∀ X b ρ S H us vs Q, X.A.units + 100 < cLine → Rep X.K X.mg b ρ S H → RUs X.mg ρ us vs → wpN X.K X.mg b (nt us S) ρ Q → r X vs H Q) : NtOk k f nt :=
  fun X b Γ ok pins s σ H ρ S us vs ws Q I rv rp ru hw => hc X Γ ok pins s σ H vs ws Q I rv (h X b ρ S H us vs Q (by have := ok.room.un; omega) rp ru hw)
def orN (n1 n2 : Nt) : Nt := fun us S => match n1 us S with
  | some p => some p
  | none => n2 us S
theorem nt_or {k : Nat} {f : Value} {n1 n2 : Nt} (h1 : NtOk k f n1) (h2 : NtOk k f n2) : NtOk k f (orN n1 n2) := by
  intro X b Γ ok pins s σ H ρ S us vs ws Q I rv rp ru hw
  unfold orN at hw
  cases e : n1 us S with
  | some p =>
    rw [e] at hw
    exact h1 X b Γ ok pins s σ H ρ S us vs ws Q I rv rp ru (by rw [e]; exact hw)
  | none =>
    rw [e] at hw
    exact h2 X b Γ ok pins s σ H ρ S us vs ws Q I rv rp ru hw
theorem ru1 {mg : Str → Option Value} {ρ : List Addr} {u : U} {vs : List V} (h : RUs mg ρ [u] vs) : ∃ v, vs = [v] ∧ RU mg ρ u v := by
  cases h with
  | cons r t => cases t; exact ⟨_, rfl, r⟩
theorem ru2 {mg : Str → Option Value} {ρ : List Addr} {u w : U} {vs : List V} (h : RUs mg ρ [u, w] vs) : ∃ v y, vs = [v, y] ∧ RU mg ρ u v ∧ RU mg ρ w y := by
  cases h with
  | cons r t =>
    cases t with
    | cons r' t => cases t; exact ⟨_, _, rfl, r, r'⟩
theorem ru3 {mg : Str → Option Value} {ρ : List Addr} {u w z : U} {vs : List V} (h : RUs mg ρ [u, w, z] vs) : ∃ v y q, vs = [v, y, q] ∧ RU mg ρ u v ∧ RU mg ρ w y ∧ RU mg ρ z q := by
  cases h with
  | cons r t =>
    obtain ⟨a, b, rfl, h1, h2⟩ := ru2 t
    exact ⟨_, _, _, rfl, r, h1, h2⟩

/-! ### len, min, max, int, str, tuple, list, all, any -/
def lenU (u : U) (S : Sto) : Option Nat := match u with
  | .str x => if x.length ≤ LIM then some x.length else none
  | .ref j => match S[j]? with
    | some (.lst xs) => some xs.length
    | some (.scr xs) => some xs.length
    | some (.tup xs) => some xs.length
    | some (.dct kvs) => some kvs.length
    | _ => none
  | _ => none
def ntLen : Nt := fun us S => match us with
  | [u] => (lenU u S).map fun n => (.int n, S)
  | _ => none
theorem CallR.or {X : Cx} {f : Value} {r r' : List V → Hp → VK → Prop} (h : CallR X f r) (h' : CallR X f r') : CallR X f (fun xs H Q => r xs H Q ∨ r' xs H Q) := fun pins s σ H xs us Q I r hq =>
  hq.elim (h pins s σ H xs us Q I r) (h' pins s σ H xs us Q I r)
theorem nt_len {k : Nat} : NtOk k (.builtin "len") ntLen := by
  refine nt_callR (fun X xs H Q => (∃ x n, xs = [x] ∧ LenV X.K x H n ∧ Q (.int n) H) ∨ (∃ a kvs, xs = [V.ref a] ∧ H a = some (.dK kvs) ∧ Q (.int kvs.length) H)) (fun X Γ ok => CallR.or call_len call_lenD) ?_
  intro X b ρ S H us vs Q _ rp ru hw
  unfold ntLen at hw
  split at hw
  · rename_i u
    obtain ⟨v, rfl, rv⟩ := ru1 ru
    cases e : lenU u S with
    | none => rw [e] at hw; exact hw.elim
    | some n =>
      rw [e] at hw
      have hw : ∀ ρ' H' v, Gr ρ ρ' → Rep X.K X.mg b ρ' S H' → RU X.mg ρ' (.int n) v → Q v H' := hw
      have q := hw ρ H _ (Gr.refl _) rp (.int _)
      unfold lenU at e
      split at e
      · split at e
        · rename_i hl
          cases e
          cases rv
          exact .inl ⟨_, _, rfl, ⟨lim_line hl, rfl⟩, q⟩
        · cases e
      · split at e
        · rename_i xs ej
          cases e
          obtain ⟨a, rfl, _, ys, pv, hv⟩ := rp.of ej rv
          exact .inl ⟨_, _, rfl, .inl ⟨ys, .inl (.inl hv), paired_len pv⟩, q⟩
        · rename_i xs ej
          cases e
          obtain ⟨a, rfl, _, ys, pv, hv⟩ := rp.of ej rv
          exact .inl ⟨_, _, rfl, .inl ⟨ys, scr_sql hv, paired_len pv⟩, q⟩
        · rename_i xs ej
          cases e
          obtain ⟨a, rfl, _, ys, pv, hv⟩ := rp.of ej rv
          exact .inl ⟨_, _, rfl, .inr ⟨ys, hv, paired_len pv⟩, q⟩
        · rename_i xs ej
          cases e
          obtain ⟨a, rfl, _, ys, pv, hv⟩ := rp.of ej rv
          exact .inr ⟨_, ys, rfl, hv, by rw [← paired_len pv]; exact q⟩
        · cases e
      · cases e
  · exact hw.elim
def ntMax : Nt := fun us S => match us with
  | [.int i, .int j] => some (.int (if j > i then j else i), S)
  | _ => none
def ntMin : Nt := fun us S => match us with
  | [.int i, .int j] => some (.int (if j < i then j else i), S)
  | _ => none
theorem nt_max {k : Nat} : NtOk k (.builtin "max") ntMax := by
  refine nt_callR _ (fun X Γ ok => call_max2 ok.calm) ?_
  intro X b ρ S H us vs Q _ rp ru hw
  unfold ntMax at hw
  split at hw
  · obtain ⟨v, y, rfl, r1, r2⟩ := ru2 ru
    cases r1; cases r2
    exact ⟨_, _, rfl, hw ρ H _ (Gr.refl _) rp (.int _)⟩
  · exact hw.elim
theorem nt_min {k : Nat} : NtOk k (.builtin "min") ntMin := by
  refine nt_callR _ (fun X Γ ok => call_min2 ok.calm) ?_
  intro X b ρ S H us vs Q _ rp ru hw
  unfold ntMin at hw
  split at hw
  · obtain ⟨v, y, rfl, r1, r2⟩ := ru2 ru
    cases r1; cases r2
    exact ⟨_, _, rfl, hw ρ H _ (Gr.refl _) rp (.int _)⟩
  · exact hw.elim
def ntInt : Nt := fun us S => match us with
  | [.int i] => some (.int i, S)
  | [.bl b] => some (.int (if b then 1 else 0), S)
  | [.str x] => if x.length ≤ 640 then (PySem.intText? x).map fun n => (.int n, S) else none
  | _ => none
theorem nt_int {k : Nat} : NtOk k (.type "int") ntInt := by
  refine nt_callR _ (fun X Γ ok => CallR.or call_int1 call_int_str) ?_
  intro X b ρ S H us vs Q _ rp ru hw
  unfold ntInt at hw
  split at hw
  · obtain ⟨v, rfl, r1⟩ := ru1 ru
    cases r1
    exact .inl (.inl ⟨_, rfl, hw ρ H _ (Gr.refl _) rp (.int _)⟩)
  · obtain ⟨v, rfl, r1⟩ := ru1 ru
    cases r1
    exact .inl (.inr ⟨_, rfl, hw ρ H _ (Gr.refl _) rp (.int _)⟩)
  · rename_i x
    obtain ⟨v, rfl, r1⟩ := ru1 ru
    cases r1
    split at hw
    · rename_i hl
      cases e : PySem.intText? x with
      | none => rw [e] at hw; exact hw.elim
      | some n =>
        rw [e] at hw
        exact .inr ⟨_, n, rfl, e, hl, hw ρ H _ (Gr.refl _) rp (.int _)⟩
    · exact hw.elim
  · exact hw.elim
def ntStr : Nt := fun us S => match us with
  | [.int i] => if i.natAbs.log2 < 1920 then some (.str (toString i), S) else none
  | [.str x] => some (.str x, S)
  | _ => none
theorem nt_str {k : Nat} : NtOk k (.type "str") ntStr := by
  refine nt_callR _ (fun X Γ ok => CallR.or call_str_int SkE.call_str_str) ?_
  intro X b ρ S H us vs Q _ rp ru hw
  unfold ntStr at hw
  split at hw
  · obtain ⟨v, rfl, r1⟩ := ru1 ru
    cases r1
    split at hw
    · rename_i hl
      exact .inl ⟨_, rfl, hl, hw ρ H _ (Gr.refl _) rp (.str _)⟩
    · exact hw.elim
  · obtain ⟨v, rfl, r1⟩ := ru1 ru
    cases r1
    exact .inr ⟨_, rfl, hw ρ H _ (Gr.refl _) rp (.str _)⟩
  · exact hw.elim
def ntTup : Nt := fun us S => match us with
  | [.ref j] => match S[j]? with
    | some (.lst xs) => some (.ref S.length, S ++ [.tup xs])
    | some (.scr xs) => some (.ref S.length, S ++ [.tup xs])
    | some (.tup _) => some (.ref j, S)
    | _ => none
  | _ => none
theorem nt_tup {k : Nat} : NtOk k (.type "tuple") ntTup := by
  refine nt_callR _ (fun X Γ ok => call_tuple_of) ?_
  intro X b ρ S H us vs Q _ rp ru hw
  unfold ntTup at hw
  split at hw
  · obtain ⟨v, rfl, r1⟩ := ru1 ru
    have r0 := r1
    split at hw
    · rename_i xs ej
      obtain ⟨a, rfl, _, ys, pv, hv⟩ := rp.of ej r1
      exact ⟨a, ys, rfl, .inl ⟨.inl (.inl hv), fun l hl => hw _ _ _ (Gr.snoc ρ l) (rp.tup hl pv) (rp.last l)⟩⟩
    · rename_i xs ej
      obtain ⟨a, rfl, _, ys, pv, hv⟩ := rp.of ej r1
      exact ⟨a, ys, rfl, .inl ⟨scr_sql hv, fun l hl => hw _ _ _ (Gr.snoc ρ l) (rp.tup hl pv) (rp.last l)⟩⟩
    · rename_i xs ej
      obtain ⟨a, rfl, _, ys, pv, hv⟩ := rp.of ej r1
      exact ⟨a, ys, rfl, .inr ⟨hv, hw ρ H _ (Gr.refl _) rp r0⟩⟩
    · exact hw.elim
  · exact hw.elim
def ntList : Nt := fun us S => match us with
  | [.ref j] => match S[j]? with
    | some (.lst xs) => some (.ref S.length, S ++ [.lst xs])
    | some (.scr xs) => some (.ref S.length, S ++ [.lst xs])
    | some (.tup xs) => some (.ref S.length, S ++ [.lst xs])
    | _ => none
  | _ => none
theorem nt_list {k : Nat} : NtOk k (.type "list") ntList := by
  refine nt_callR _ (fun X Γ ok => call_list_of) ?_
  intro X b ρ S H us vs Q _ rp ru hw
  unfold ntList at hw
  split at hw
  · obtain ⟨v, rfl, r1⟩ := ru1 ru
    split at hw
    · rename_i xs ej
      obtain ⟨a, rfl, _, ys, pv, hv⟩ := rp.of ej r1
      exact ⟨a, ys, rfl, .inl (.inl (.inl hv)), fun l hl => hw _ _ _ (Gr.snoc ρ l) (rp.lst hl pv) (rp.last l)⟩
    · rename_i xs ej
      obtain ⟨a, rfl, _, ys, pv, hv⟩ := rp.of ej r1
      exact ⟨a, ys, rfl, .inl (scr_sql hv), fun l hl => hw _ _ _ (Gr.snoc ρ l) (rp.lst hl pv) (rp.last l)⟩
    · rename_i xs ej
      obtain ⟨a, rfl, _, ys, pv, hv⟩ := rp.of ej r1
      exact ⟨a, ys, rfl, .inr hv, fun l hl => hw _ _ _ (Gr.snoc ρ l) (rp.lst hl pv) (rp.last l)⟩
    · exact hw.elim
  · exact hw.elim
def blsOf : List U → Option (List Bool)
  | [] => some []
  | .bl b :: r => (blsOf r).map (b :: ·)
  | _ => none
theorem blsOf_ok {mg : Str → Option Value} {ρ : List Addr} : ∀ {us : List U} {vs : List V} {bs : List Bool}, RUs mg ρ us vs → blsOf us = some bs → vs = bs.map V.bl
  | [], _, _, h, e => by cases h; cases e; rfl
  | .bl b :: us, _, bs, h, e => by
    cases h with
    | cons r t =>
      cases r
      have e : (blsOf us).map (b :: ·) = some bs := e
      cases e' : blsOf us with
      | none => rw [e'] at e; cases e
      | some cs =>
        rw [e'] at e
        cases e
        rw [blsOf_ok t e']
        rfl
  | .non :: us, _, bs, h, e => by cases e
  | .int _ :: us, _, bs, h, e => by cases e
  | .str _ :: us, _, bs, h, e => by cases e
  | .ref _ :: us, _, bs, h, e => by cases e
  | .fn _ :: us, _, bs, h, e => by cases e
  | .ty _ :: us, _, bs, h, e => by cases e
def ntAll : Nt := fun us S => match us with
  | [.ref j] => match listAt j S with
    | some xs => (blsOf xs).map fun bs => (.bl (bs.all id), S)
    | none => none
  | _ => none
def ntAny : Nt := fun us S => match us with
  | [.ref j] => match listAt j S with
    | some xs => (blsOf xs).map fun bs => (.bl (bs.any id), S)
    | none => none
  | _ => none
theorem nt_all {k : Nat} : NtOk k (.builtin "all") ntAll := by
  refine nt_callR _ (fun X Γ ok => cr_all ok.calm) ?_
  intro X b ρ S H us vs Q _ rp ru hw
  unfold ntAll at hw
  split at hw
  · split at hw
    · rename_i xs el
      obtain ⟨v, rfl, r1⟩ := ru1 ru
      cases r1 with
      | ref ha =>
        obtain ⟨ys, pv, hv⟩ := listAt_ok rp el ha
        cases e : blsOf xs with
        | none => rw [e] at hw; exact hw.elim
        | some bs =>
          rw [e] at hw
          have := blsOf_ok pv e
          subst this
          exact ⟨_, bs, rfl, hv, hw ρ H _ (Gr.refl _) rp (.bl _)⟩
    · exact hw.elim
  · exact hw.elim
theorem nt_any {k : Nat} : NtOk k (.builtin "any") ntAny := by
  refine nt_callR _ (fun X Γ ok => cr_any ok.calm) ?_
  intro X b ρ S H us vs Q _ rp ru hw
  unfold ntAny at hw
  split at hw
  · split at hw
    · rename_i xs el
      obtain ⟨v, rfl, r1⟩ := ru1 ru
      cases r1 with
      | ref ha =>
        obtain ⟨ys, pv, hv⟩ := listAt_ok rp el ha
        cases e : blsOf xs with
        | none => rw [e] at hw; exact hw.elim
        | some bs =>
          rw [e] at hw
          have := blsOf_ok pv e
          subst this
          exact ⟨_, bs, rfl, hv, hw ρ H _ (Gr.refl _) rp (.bl _)⟩
    · exact hw.elim
  · exact hw.elim
end Mn
set_option Elab.async false
set_option linter.all false
set_option maxRecDepth 100000
set_option maxHeartbeats 4000000
/-! Mn9: sorted, repr, isinstance; the calls as expressions. -/
namespace Mn
open PySem PySem.Spec PyProof.Rows L2

/-! ### repr -/
mutual
theorem dat_nd (S : Sto) : ∀ (n : Nat) (u : U) (d : PyData), dat n u S = some d → d.hasDict = false ∧ d.depth ≤ n
  | _, .non, _, e => by unfold dat at e; cases e; exact ⟨rfl, Nat.zero_le _⟩
  | _, .bl b, _, e => by unfold dat at e; cases e; exact ⟨rfl, Nat.zero_le _⟩
  | _, .int i, _, e => by unfold dat at e; cases e; exact ⟨rfl, Nat.zero_le _⟩
  | _, .str x, _, e => by unfold dat at e; cases e; exact ⟨rfl, Nat.zero_le _⟩
  | 0, .ref k, _, e => by unfold dat at e; cases e
  | n + 1, .ref k, d, e => by
    unfold dat at e
    have go : ∀ xs (f : List PyData → PyData), (∀ ds, (f ds).hasDict = PyData.hasDictAll ds ∧ (f ds).depth = PyData.depthAll ds + 1) → (dats n xs S).map f = some d → d.hasDict = false ∧ d.depth ≤ n + 1 := fun xs f hf q => by
      cases e' : dats n xs S with
      | none => rw [e'] at q; cases q
      | some ds =>
        rw [e'] at q
        cases q
        obtain ⟨h1, h2⟩ := dats_nd S n xs ds e'
        rw [(hf ds).1, (hf ds).2]
        exact ⟨h1, by omega⟩
    split at e
    · exact go _ PyData.list (fun ds => ⟨by simp only [PyData.hasDict], by simp only [PyData.depth]⟩) e
    · exact go _ PyData.list (fun ds => ⟨by simp only [PyData.hasDict], by simp only [PyData.depth]⟩) e
    · exact go _ PyData.tuple (fun ds => ⟨by simp only [PyData.hasDict], by simp only [PyData.depth]⟩) e
    · cases e
  | _, .fn x, _, e => by unfold dat at e; cases e
  | _, .ty x, _, e => by unfold dat at e; cases e
theorem dats_nd (S : Sto) : ∀ (n : Nat) (us : List U) (ds : List PyData), dats n us S = some ds → PyData.hasDictAll ds = false ∧ PyData.depthAll ds ≤ n
  | _, [], _, e => by unfold dats at e; cases e; exact ⟨rfl, Nat.zero_le _⟩
  | n, u :: us, _, e => by
    unfold dats at e
    split at e
    · rename_i d ds e1 e2
      cases e
      obtain ⟨a1, a2⟩ := dat_nd S n u d e1
      obtain ⟨b1, b2⟩ := dats_nd S n us ds e2
      simp only [PyData.hasDictAll, PyData.depthAll, a1, b1, Bool.or_false]
      exact ⟨trivial, by omega⟩
    · cases e
end
def ntRepr : Nt := fun us S => match us with
  | [u] => match dat 40 u S with
    | some d => if d.showable = true ∧ d.shown.length ≤ LIM then some (.str d.shown, S) else none
    | none => none
  | _ => none
theorem nt_repr {k : Nat} : NtOk k (.builtin "repr") ntRepr := by
  intro X b Γ ok pins s σ H ρ S us vs ws Q I rv rp ru hw
  unfold ntRepr at hw
  split at hw
  rotate_left
  · exact hw.elim
  rename_i u
  obtain ⟨v, rfl, r1⟩ := ru1 ru
  obtain ⟨w, rfl, rw1⟩ := vals1 rv
  split at hw
  rotate_left
  · exact hw.elim
  rename_i d e
  split at hw
  rotate_left
  · exact hw.elim
  rename_i hs
  have q := hw ρ H _ (Gr.refl _) rp (.str _)
  have hdp := dat_ok rp 40 u v d r1 e
  obtain ⟨n1, n2⟩ := dat_nd S 40 u d e
  cases r1 with
  | non =>
    unfold dat at e
    cases e
    cases rw1
    exact PySem.P.repr_of_none ⟨.str _, H, I.tok _, ⟨_, rfl⟩, q⟩
  | bl b =>
    unfold dat at e
    cases e
    cases rw1
    exact PySem.P.repr_of_bool ⟨.str _, H, I.tok _, ⟨_, rfl⟩, q⟩
  | int i =>
    unfold dat at e
    cases e
    obtain ⟨t, rfl⟩ := rw1
    exact PySem.P.repr_of_int (by simpa [PyData.showable] using hs.1) ⟨.str _, H, I.tok _, ⟨_, rfl⟩, q⟩
  | str x =>
    unfold dat at e
    cases e
    obtain ⟨t, rfl⟩ := rw1
    exact PySem.P.repr_of_str ⟨.str _, H, I.tok _, ⟨_, rfl⟩, q⟩ (lim_line hs.2)
  | ref e' =>
    cases rw1
    obtain ⟨as, r⟩ := Dp.reads I d _ _ hdp rfl
    refine repr_of_reads' r hs.1 (PyData.noDict_hsm n1) ok.gd (by have := ok.room.un; omega) (fun _ _ e => e) (fun h' u tk hk => ?_) (lim_line hs.2)
    exact ⟨.str _, H, I.kept hk, ⟨_, rfl⟩, q⟩
  | fn _ => unfold dat at e; cases e
  | ty _ => unfold dat at e; cases e

/-! ### sorted, of texts -/
def leS (x y : Str) : Bool := !ltCps y.cps.toList x.cps.toList
def insS (x : Str) : List Str → List Str
  | [] => [x]
  | y :: r => if leS x y then x :: y :: r else y :: insS x r
def sortS : List Str → List Str
  | [] => []
  | x :: r => insS x (sortS r)
theorem lt_asymm_cps (a b : List Nat) (h : ltCps a b = true) : ltCps b a = false := by
  rw [ltCps_eq] at h ⊢
  have h := of_decide_eq_true h
  exact decide_eq_false (fun z => absurd (List.lt_trans h z) (List.lt_irrefl _))
theorem leS_total (x y : Str) : leS x y = true ∨ leS y x = true := by
  unfold leS
  cases h : ltCps y.cps.toList x.cps.toList with
  | false => exact .inl rfl
  | true => exact .inr (by rw [lt_asymm_cps _ _ h]; rfl)
theorem leS_trans {x y z : Str} (h1 : leS x y = true) (h2 : leS y z = true) : leS x z = true := by
  unfold leS at *
  simp only [Bool.not_eq_true', ltCps_eq, decide_eq_false_iff_not] at *
  have a : x.cps.toList ≤ y.cps.toList := List.not_lt.mp h1
  have b : y.cps.toList ≤ z.cps.toList := List.not_lt.mp h2
  exact List.not_lt.mpr (List.le_trans a b)
theorem leS_anti {x y : Str} (h1 : leS x y = true) (h2 : leS y x = true) : x = y := by
  unfold leS at *
  simp only [Bool.not_eq_true', ltCps_eq, decide_eq_false_iff_not] at *
  have a : x.cps.toList ≤ y.cps.toList := List.not_lt.mp h1
  have b : y.cps.toList ≤ x.cps.toList := List.not_lt.mp h2
  have e := List.le_antisymm a b
  obtain ⟨xs⟩ := x
  obtain ⟨ys⟩ := y
  exact congrArg Str.mk (Array.toList_inj.mp e)
theorem insS_perm (x : Str) : ∀ l, (insS x l).Perm (x :: l)
  | [] => .refl _
  | y :: r => by
    unfold insS
    split
    · exact .refl _
    · exact ((insS_perm x r).cons y).trans (.swap x y r)
theorem sortS_perm : ∀ l, (sortS l).Perm l
  | [] => .refl _
  | x :: r => (insS_perm x _).trans ((sortS_perm r).cons x)
theorem insS_pw (x : Str) : ∀ l, l.Pairwise (leS · · = true) → (insS x l).Pairwise (leS · · = true)
  | [], _ => by simp [insS]
  | y :: r, h => by
    obtain ⟨h1, h2⟩ := List.pairwise_cons.mp h
    unfold insS
    split
    · rename_i hxy
      refine List.pairwise_cons.mpr ⟨fun z hz => ?_, h⟩
      rcases List.mem_cons.mp hz with rfl | hz
      · exact hxy
      · exact leS_trans hxy (h1 z hz)
    · rename_i hxy
      refine List.pairwise_cons.mpr ⟨fun z hz => ?_, insS_pw x r h2⟩
      rcases List.mem_cons.mp ((insS_perm x r).mem_iff.mp hz) with rfl | hz
      · exact (leS_total _ _).resolve_left hxy
      · exact h1 z hz
theorem sortS_pw : ∀ l, (sortS l).Pairwise (leS · · = true)
  | [] => .nil
  | x :: r => insS_pw x _ (sortS_pw r)
theorem rising_pw : ∀ (p : Str) (l : List Str), risingS p l = true → (p :: l).Pairwise (leS · · = true)
  | p, [], _ => by simp
  | p, x :: r, h => by
    have h : (!ltCps x.cps.toList p.cps.toList && risingS x r) = true := h
    rw [Bool.and_eq_true] at h
    have ih := rising_pw x r h.2
    refine List.pairwise_cons.mpr ⟨fun z hz => ?_, ih⟩
    rcases List.mem_cons.mp hz with rfl | hz
    · exact h.1
    · exact leS_trans h.1 ((List.pairwise_cons.mp ih).1 z hz)
theorem sorted_is {ys ks : List Str} (hp : ys.Perm ks) (hs : sortedS ys = true) : ys = sortS ks := by
  have h1 : ys.Pairwise (leS · · = true) := by
    cases ys with
    | nil => exact .nil
    | cons x r => exact rising_pw x r hs
  exact List.Perm.eq_of_pairwise (le := fun a b => leS a b = true) (fun a b _ _ => leS_anti) h1 (sortS_pw ks) (hp.trans (sortS_perm ks).symm)
def keyStrs : List (Key × U) → Option (List Str)
  | [] => some []
  | (.inr x, _) :: r => (keyStrs r).map (x :: ·)
  | _ => none
theorem keyStrs_ok {mg : Str → Option Value} {ρ : List Addr} : ∀ {kvs : List (Key × U)} {ks : List (Key × V)} {xs : List Str}, RP mg ρ kvs ks → keyStrs kvs = some xs → ks.map (·.1) = xs.map Sum.inr
  | [], _, _, h, e => by cases h; cases e; rfl
  | (.inr x, u) :: kvs, _, xs, h, e => by
    cases h with
    | cons r t =>
      have e : (keyStrs kvs).map (x :: ·) = some xs := e
      cases e' : keyStrs kvs with
      | none => rw [e'] at e; cases e
      | some ys =>
        rw [e'] at e
        cases e
        rw [List.map_cons, keyStrs_ok t e', List.map_cons, ← r.1]
  | (.inl _, _) :: _, _, _, _, e => by cases e
def strsOf : List U → Option (List Str)
  | [] => some []
  | .str x :: r => (strsOf r).map (x :: ·)
  | _ => none
theorem strsOf_ok : ∀ {us : List U} {xs : List Str}, strsOf us = some xs → us = xs.map U.str
  | [], _, e => by cases e; rfl
  | .str x :: us, xs, e => by
    have e : (strsOf us).map (x :: ·) = some xs := e
    cases e' : strsOf us with
    | none => rw [e'] at e; cases e
    | some ys => rw [e'] at e; cases e; rw [strsOf_ok e']; rfl
  | .non :: _, _, e => by cases e
  | .bl _ :: _, _, e => by cases e
  | .int _ :: _, _, e => by cases e
  | .ref _ :: _, _, e => by cases e
  | .fn _ :: _, _, e => by cases e
  | .ty _ :: _, _, e => by cases e
def ntSortD : Nt := fun us S => match us with
  | [.ref j] => match S[j]? with
    | some (.dct kvs) => match keyStrs kvs with
      | some xs => if xs.length < 64 then some (.ref S.length, S ++ [.lst ((sortS xs).map U.str)]) else none
      | none => none
    | _ => none
  | _ => none
theorem nt_sortD {k : Nat} : NtOk k (.builtin "sorted") ntSortD := by
  refine nt_callR _ (fun X Γ ok => call_sortedD ok.calm) ?_
  intro X b ρ S H us vs Q _ rp ru hw
  unfold ntSortD at hw
  split at hw
  · obtain ⟨v, rfl, r1⟩ := ru1 ru
    split at hw
    · rename_i kvs ej
      obtain ⟨a, rfl, _, ks, pv, hv⟩ := rp.of ej r1
      split at hw
      · rename_i xs ek
        split at hw
        · rename_i hl
          refine ⟨a, ks, xs, rfl, .inl hv, keyStrs_ok pv ek, hl, fun ys p h1 h2 hp => ?_⟩
          rw [sorted_is h1 h2]
          exact hw _ _ _ (Gr.snoc ρ p) (rp.lst hp (RUs.strs _)) (rp.last p)
        · exact hw.elim
      · exact hw.elim
    · exact hw.elim
  · exact hw.elim
def ntSortS : Nt := fun us S => match us with
  | [.ref j] => match listAt j S with
    | some ws => match strsOf ws with
      | some xs => if xs.length < 64 then some (.ref S.length, S ++ [.lst ((sortS xs).map U.str)]) else none
      | none => none
    | none => none
  | _ => none
theorem nt_sortS {k : Nat} : NtOk k (.builtin "sorted") ntSortS := by
  refine nt_callR _ (fun X Γ ok => cr_sortedS) ?_
  intro X b ρ S H us vs Q _ rp ru hw
  unfold ntSortS at hw
  split at hw
  · obtain ⟨v, rfl, r1⟩ := ru1 ru
    split at hw
    · rename_i ws el
      cases r1 with
      | ref ha =>
      obtain ⟨ys, pv, hv⟩ := listAt_ok rp el ha
      split at hw
      · rename_i xs ek
        split at hw
        · rename_i hl
          have := strsOf_ok ek
          subst this
          have := RUs.toStrs pv
          subst this
          refine ⟨_, xs, rfl, hv, hl, fun ys p h1 h2 hp => ?_⟩
          rw [sorted_is h1 h2]
          exact hw _ _ _ (Gr.snoc ρ p) (rp.lst hp (RUs.strs _)) (rp.last p)
        · exact hw.elim
      · exact hw.elim
    · exact hw.elim
  · exact hw.elim

/-! ### isinstance, built-in types -/
def tyU (u : U) (S : Sto) : Option String := match u with
  | .non => some "NoneType"
  | .bl _ => some "bool"
  | .int _ => some "int"
  | .str _ => some "str"
  | .ref j => match S[j]? with
    | some (.lst _) => some "list"
    | some (.scr _) => some "list"
    | some (.tup _) => some "tuple"
    | some (.dct _) => some "dict"
    | _ => none
  | _ => none
def smT (a : String) : Bool := ["NoneType", "bool", "int", "str", "list", "tuple", "dict"].contains a
def isiB (a b : String) : Option Bool := if smT a && smT b then some (a == b || (a == "bool" && b == "int")) else none
theorem isiB_ok {a b : String} {r : Bool} (h : isiB a b = some r) : kitB a b = some r := by
  unfold isiB at h
  split at h
  · rename_i hs
    rw [Bool.and_eq_true] at hs
    obtain ⟨h1, h2⟩ := hs
    simp only [smT, List.contains_cons, List.contains_nil, Bool.or_false, Bool.or_eq_true, beq_iff_eq] at h1 h2
    cases h
    rcases h1 with rfl | rfl | rfl | rfl | rfl | rfl | rfl <;> rcases h2 with rfl | rfl | rfl | rfl | rfl | rfl | rfl <;> decide +kernel
  · cases h
theorem tyU_ok {K : PySem.W.Frag} {mg : Str → Option Value} {b ρ : List Addr} {S : Sto} {H : Hp} {u : U} {v : V} {t : String} (r : Rep K mg b ρ S H) (h : RU mg ρ u v) (e : tyU u S = some t) : TyX K H v (.type t) := by
  cases h with
  | non => cases e; exact .base .non
  | bl x => cases e; exact .base (.bl x)
  | int i => cases e; exact .base (.int i)
  | str x => cases e; exact .base (.str x)
  | fn _ => cases e
  | ty n => cases e
  | ref ha =>
    unfold tyU at e
    dsimp only at e
    split at e
    · rename_i xs ej
      cases e
      obtain ⟨vs, _, h1⟩ := r.ob _ _ _ ej ha
      exact .base (.lst h1)
    · rename_i xs ej
      cases e
      obtain ⟨vs, _, h1⟩ := r.ob _ _ _ ej ha
      rcases h1 with ⟨ob, h1⟩ | h1
      · exact .base (.frz h1)
      · rcases h1 with (h1 | ⟨ob, h1⟩) | ⟨o, its, n, h1, h2, _⟩
        · cases h1
        · cases h1
        · exact .kList h1 h2
    · rename_i xs ej
      cases e
      obtain ⟨vs, _, h1⟩ := r.ob _ _ _ ej ha
      rcases h1 with (h1 | ⟨ob, h1⟩) | ⟨o, its, n, h1, h2, _⟩
      · exact .base (.tup h1)
      · exact .fTuple h1
      · exact .kTuple h1 h2
    · rename_i xs ej
      cases e
      obtain ⟨vs, _, h1⟩ := r.ob _ _ _ ej ha
      exact .base (.dK h1)
    · cases e
def ntIsi : Nt := fun us S => match us with
  | [u, .ty n] => match tyU u S with
    | some t => (isiB t n).map fun r => (.bl r, S)
    | none => none
  | _ => none
theorem nt_isi {k : Nat} : NtOk k (.builtin "isinstance") ntIsi := by
  refine nt_callR _ (fun X Γ ok => call_isi) ?_
  intro X b ρ S H us vs Q _ rp ru hw
  unfold ntIsi at hw
  split at hw
  · rename_i u n
    obtain ⟨v, y, rfl, r1, r2⟩ := ru2 ru
    cases r2
    split at hw
    · rename_i t et
      cases e : isiB t n with
      | none => rw [e] at hw; exact hw.elim
      | some r =>
        rw [e] at hw
        exact ⟨v, .ty n, .type t, .type n, r, rfl, .ty n, tyU_ok rp r1 et, isiB_ok e, hw ρ H _ (Gr.refl _) rp (.bl _)⟩
    · exact hw.elim
  · exact hw.elim

/-! ### as expressions -/
section
variable {k : Nat} {Γ : Gm} {C : Cal}
def mNt (nt : Nt) (ms : Ev → Sto → Res (List U)) : Ev → Sto → Res U := fun env S => bnd (ms env S) fun us S1 => match nt us S1 with
  | some (u, S2) => .ok u S2
  | none => .bad
theorem wpN_of {K : PySem.W.Frag} {mg : Str → Option Value} {b ρ : List Addr} {σ : St} {W : WX} {Q : VK} {o : Option (U × Sto)} (h : wpE K mg b (match o with
  | some (u, S2) => .ok u S2
  | none => .bad) ρ σ W Q) : wpN K mg b o ρ Q := by
  cases o with
  | none => exact h
  | some p => exact fun ρ' H v g r ru => h ρ' H v g r ru
theorem se_callB {x : Str} {p pos : Pos} {e : Expr} {es : List Expr} {id : String} {nt : Nt} {ms : Ev → Sto → Res (List U)} (hn : NtOk k (.builtin id) nt) (hv : bootBuiltins x = some (.builtin id)) (hb : x ∈ C.bi) (hg : glbB Γ.sc x = true) (h : SA k Γ C (e :: es) ms) (hp : (e :: es).all plainE = true)
    (hx : x ≠ "__name__" := by decide) (hd : (x == ("__debug__" : Str)) = false := by decide) :
    SE k Γ C (.Call (.Name x p) (e :: es) [] pos) (mNt nt ms) := by
  refine ⟨?_⟩
  intro X b ok cal W tk σ H ρ env S Q er r hw pins s I
  rw [List.all_cons, Bool.and_eq_true] at hp
  refine wpAny_Call_Name_kw (ld_blt I (gl_of ok hg) (cal.bi _ hb) hv ?_ hx hd)
  refine PyProof.Rows.callWith_builtin1 (thn (h.run X b ok cal W tk σ H ρ env S (fun vs H1 => ∀ pins s ws, L2.Inv X pins σ H1 s → Vals vs ws → wpAny (model X.prog X.w) X.A (call (.builtin id) ws) (EP X pins σ Q) X.xe s) er r
    (wpG.bnd hw fun us S1 _ ρ1 H1 vs g1 r1 ru h1 => ?_) pos pins s I) fun us s1 ⟨vs, H1, I1, rv, q1⟩ => q1 pins s1 us I1 rv) (star_cons hp.1) (star_any hp.2)
  exact fun pins s ws I rv => hn X b Γ ok pins s σ H1 ρ1 S1 us vs ws Q I rv r1 ru (wpN_of h1)
theorem se_callT {x : Str} {p pos : Pos} {e : Expr} {es : List Expr} {T : String} {nt : Nt} {ms : Ev → Sto → Res (List U)} (hn : NtOk k (.type T) nt) (hv : bootBuiltins x = some (.type T)) (hb : x ∈ C.bi) (hg : glbB Γ.sc x = true) (h : SA k Γ C (e :: es) ms) (hp : (e :: es).all plainE = true)
    (hx : x ≠ "__name__" := by decide) (hd : (x == ("__debug__" : Str)) = false := by decide) :
    SE k Γ C (.Call (.Name x p) (e :: es) [] pos) (mNt nt ms) := by
  refine ⟨?_⟩
  intro X b ok cal W tk σ H ρ env S Q er r hw pins s I
  rw [List.all_cons, Bool.and_eq_true] at hp
  refine wpAny_Call_Name_kw (ld_blt I (gl_of ok hg) (cal.bi _ hb) hv ?_ hx hd)
  refine PyProof.Rows.callWith_type1 (thn (h.run X b ok cal W tk σ H ρ env S (fun vs H1 => ∀ pins s ws, L2.Inv X pins σ H1 s → Vals vs ws → wpAny (model X.prog X.w) X.A (call (.type T) ws) (EP X pins σ Q) X.xe s) er r
    (wpG.bnd hw fun us S1 _ ρ1 H1 vs g1 r1 ru h1 => ?_) pos pins s I) fun us s1 ⟨vs, H1, I1, rv, q1⟩ => q1 pins s1 us I1 rv) (star_cons hp.1) (star_any hp.2)
  exact fun pins s ws I rv => hn X b Γ ok pins s σ H1 ρ1 S1 us vs ws Q I rv r1 ru (wpN_of h1)
/-- a built-in type's name -/
theorem se_ty {x : Str} {T : String} {pos : Pos} (hv : bootBuiltins x = some (.type T)) (hb : x ∈ C.bi) (hg : glbB Γ.sc x = true) (hx : x ≠ "__name__" := by decide) (hd : (x == ("__debug__" : Str)) = false := by decide) :
    SE k Γ C (.Name x pos) fun _ S => .ok (.ty T) S := ⟨fun X b ok cal W tk σ H ρ env S Q er r hw =>
  PE.max (pe_bltn (v := .ty T) (gl_of ok hg) (cal.bi _ hb) hv rfl hx hd) (hw ρ H (.ty T) (Gr.refl _) r (.ty T))⟩
end
end Mn
set_option Elab.async false
set_option linter.all false
set_option maxRecDepth 100000
set_option maxHeartbeats 4000000
/-! Mn10: methods of built-in values; f-strings; dict displays; dicts of the top. -/
namespace Mn
open PySem PySem.Spec PyProof.Rows L2

/-! ### o.m(..) -/
def notSup : Expr → Bool
  | .Call (.Name id _) [] [] _ => id != "super"
  | _ => true
theorem base_ok {o : Expr} {m : Str} {env : Env} {whole : Sem Value} (h : notSup o = true) : attributeBase o m env whole = whole := by
  unfold attributeBase
  split
  · rename_i id p pos
    have h : (id != "super") = true := h
    rw [h]
    simp only [Bool.true_or, if_true]
    first | done | exact bind_pure whole
  · rfl
theorem few_all {pos : Pos} {env : Env} : ∀ {es : List Expr}, es.all plainE = true → (backTo pos (starEach es env)).all (fun x => !x.1) = true
  | [], _ => rfl
  | e :: es, h => by
    rw [List.all_cons, Bool.and_eq_true] at h
    rw [star_cons h.1]
    have ih := few_all (pos := pos) (env := env) h.2
    unfold backTo at ih ⊢
    rw [List.map_cons, List.all_cons, ih]
    rfl
theorem few_ok {pos : Pos} {env : Env} {es : List Expr} (h : es.all plainE = true) (hl : es.length < 29) : ((backTo pos (starEach es env)).all (fun x => !x.1) && (backToKw pos (keywordEach [] env)).all (fun x => x.1.isSome)
      && decide (es.length + ([] : List Keyword).length + (if ([] : List Keyword).isEmpty then 0 else 1) < 30)) = true := by
  rw [few_all h]
  simp only [Bool.true_and]
  rw [Bool.and_eq_true]
  exact ⟨rfl, by simp; omega⟩
def tyM (T : String) (u : U) (S : Sto) : Bool := match u with
  | .str _ => T == "str"
  | .int _ => T == "int"
  | .ref j => match S[j]? with
    | some (.lst _) => T == "list"
    | some (.scr _) => T == "list"
    | some (.dct _) => T == "dict"
    | _ => false
  | _ => false
theorem tyM_ok {K : PySem.W.Frag} {mg : Str → Option Value} {b ρ : List Addr} {S : Sto} {H : Hp} {u : U} {v : V} {T : String} (r : Rep K mg b ρ S H) (h : RU mg ρ u v) (e : tyM T u S = true) : tyV K T v H := by
  cases h with
  | str x => exact beq_iff_eq.mp e
  | int i => exact beq_iff_eq.mp e
  | ref ha =>
    unfold tyM at e
    dsimp only at e
    split at e
    · rename_i xs ej
      obtain ⟨vs, _, h1⟩ := r.ob _ _ _ ej ha
      exact .inl ⟨beq_iff_eq.mp e, vs, .inl (.inl h1)⟩
    · rename_i xs ej
      obtain ⟨vs, _, h1⟩ := r.ob _ _ _ ej ha
      exact .inl ⟨beq_iff_eq.mp e, vs, scr_sql h1⟩
    · rename_i xs ej
      obtain ⟨vs, _, h1⟩ := r.ob _ _ _ ej ha
      exact .inr (.inr (.inl ⟨beq_iff_eq.mp e, .inl ⟨vs, h1⟩⟩))
    · cases e
  | _ => cases e
section
variable {k : Nat} {Γ : Gm} {C : Cal}
def mMet (T : String) (nt : Nt) (mo : Ev → Sto → Res U) (ms : Ev → Sto → Res (List U)) : Ev → Sto → Res U := fun env S => bnd (mo env S) fun u S1 => if tyM T u S1 = true then bnd (ms env S1) fun us S2 => match nt (u :: us) S2 with
  | some (w, S3) => .ok w S3
  | none => .bad
  else .bad
theorem nt_mtR {id : String} {nt : Nt} (hn : NtOk k (.builtin id) nt) {X : Cx} {b : List Addr} (ok : OkX k Γ X) : MtR X id (fun x xs H Q => ∃ ρ S u us, Rep X.K X.mg b ρ S H ∧ RU X.mg ρ u x ∧ RUs X.mg ρ us xs ∧ wpN X.K X.mg b (nt (u :: us) S) ρ Q) := by
  intro pins s σ H x xs v us Q I rx rs h
  obtain ⟨ρ, S, u, us', r, r1, r2, hw⟩ := h
  exact hn X b Γ ok pins s σ H ρ S (u :: us') (x :: xs) (v :: us) Q I (.cons rx rs) r (.cons r1 r2) hw
theorem se_met {o e : Expr} {es : List Expr} {m : Str} {apos cpos : Pos} {T id : String} {nt : Nt} {mo : Ev → Sto → Res U} {ms : Ev → Sto → Res (List U)} (hn : NtOk k (.builtin id) nt) (pa : PlainAttrs T) (slot : Slot T m id) (hty : typeOf (.builtin id) = pure (.type "method_descriptor"))
    (ho : SE k Γ C o mo) (h : SA k Γ C (e :: es) ms) (hs : notSup o = true) (hp : (e :: es).all plainE = true) (hl : (e :: es).length < 29) (hline : (apos.endLine == cpos.line) = true) :
    SE k Γ C (.Call (.Attribute o m apos) (e :: es) [] cpos) (mMet T nt mo ms) := by
  refine ⟨?_⟩
  intro X b ok cal W tk σ H ρ env S Q er r hw
  have hp' := hp
  rw [List.all_cons, Bool.and_eq_true] at hp'
  refine PE.max (pe_bm pa slot hty (nt_mtR (b := b) hn ok) (pe_tE X o) (pa_tA X (e :: es)) (base_ok hs) (few_ok hp hl) hline (star_cons hp'.1) (star_any hp'.2)) ?_
  refine ho.run X b ok cal W tk σ H ρ env S _ er r (wpG.bnd hw fun u S1 _ ρ1 H1 x g1 r1 ru h1 => ?_)
  split at h1
  rotate_left
  · exact h1.elim
  rename_i ht
  refine ⟨tyM_ok r1 ru ht, ?_⟩
  refine h.run X b ok cal W tk σ H1 ρ1 env S1 _ (er.up g1) r1 (wpG.bnd h1 fun us S2 _ ρ2 H2 vs g2 r2 rus h2 => ?_)
  exact ⟨ρ2, S2, u, us, r2, ru.up g2, rus, wpN_of h2⟩
theorem se_met0 {o : Expr} {m : Str} {apos cpos : Pos} {T id : String} {nt : Nt} {mo : Ev → Sto → Res U} (hn : NtOk k (.builtin id) nt) (pa : PlainAttrs T) (slot : Slot T m id) (hty : typeOf (.builtin id) = pure (.type "method_descriptor"))
    (ho : SE k Γ C o mo) (hs : notSup o = true) (hline : (apos.endLine == cpos.line) = true) :
    SE k Γ C (.Call (.Attribute o m apos) [] [] cpos) (mMet T nt mo mNil) := by
  refine ⟨?_⟩
  intro X b ok cal W tk σ H ρ env S Q er r hw
  refine PE.max (pe_bm0 pa slot hty (nt_mtR (b := b) hn ok) (pe_tE X o) (base_ok hs) hline) ?_
  refine ho.run X b ok cal W tk σ H ρ env S _ er r (wpG.bnd hw fun u S1 _ ρ1 H1 x g1 r1 ru h1 => ?_)
  split at h1
  rotate_left
  · exact h1.elim
  rename_i ht
  refine ⟨tyM_ok r1 ru ht, ?_⟩
  have h1 : wpE X.K X.mg b (bnd (mNil env S1) fun us S2 => match nt (u :: us) S2 with
    | some (w, S3) => .ok w S3
    | none => .bad) ρ1 σ W Q := h1
  exact ⟨ρ1, S1, u, [], r1, ru, .nil, wpN_of h1⟩
end
/-- a method's rule, by values -/
theorem nt_of_mt {k : Nat} {id : String} {nt : Nt} (r : Cx → V → List V → Hp → VK → Prop) (hc : ∀ X Γ, OkX k Γ X → MtR X id (r X)) (h0 : ∀ S, nt [] S = none)
    (h : ∀ X b ρ S H u us v vs Q, X.A.units + 100 < cLine → Rep X.K X.mg b ρ S H → RU X.mg ρ u v → RUs X.mg ρ us vs → wpN X.K X.mg b (nt (u :: us) S) ρ Q → r X v vs H Q) : NtOk k (.builtin id) nt := by
  intro X b Γ ok pins s σ H ρ S us vs ws Q I rv rp ru hw
  cases ru with
  | nil => rw [h0] at hw; exact hw.elim
  | cons r1 rr =>
    cases rv with
    | cons q1 qq => exact hc X Γ ok pins s σ H _ _ _ _ Q I q1 qq (h X b ρ S H _ _ _ _ Q (by have := ok.room.un; omega) rp r1 rr hw)
theorem nt_of_mtM {k : Nat} {id : String} {nt : Nt} (r : Cx → V → List V → Hp → VK → Prop) (hc : ∀ X Γ, OkX k Γ X → MtM X id (r X)) (h0 : ∀ S, nt [] S = none)
    (h : ∀ X b ρ S H u us v vs Q, X.A.units + 100 < cLine → Rep X.K X.mg b ρ S H → RU X.mg ρ u v → RUs X.mg ρ us vs → wpN X.K X.mg b (nt (u :: us) S) ρ Q → r X v vs H Q) : NtOk k (.builtin id) nt :=
  nt_of_mt r hc h0 h
/-- xs.append(x) -/
def ntAppend : Nt := fun us S => match us with
  | [.ref j, u] => (pushAt j u S).map fun S' => (.non, S')
  | _ => none
theorem nt_append {k : Nat} : NtOk k (.builtin "list.append") ntAppend := by
  refine nt_of_mtM _ (fun X Γ ok => mt_append) (fun _ => rfl) ?_
  intro X b ρ S H u us v vs Q _ rp r1 rr hw
  unfold ntAppend at hw
  split at hw
  · rename_i j u' eq
    cases eq
    obtain ⟨y, rfl, r2⟩ := ru1 rr
    cases r1 with
    | ref ha =>
      cases e : pushAt j u' S with
      | none => rw [e] at hw; exact hw.elim
      | some S' =>
        rw [e] at hw
        obtain ⟨acc, a1, a2, a3⟩ := push_ok rp ha r2 e
        exact ⟨_, acc, y, rfl, rfl, a1, a2, hw ρ _ _ (Gr.refl _) a3 .non⟩
  · exact hw.elim
/-- xs.extend(ys) -/
def ntExtend : Nt := fun us S => match us with
  | [.ref j, .ref i] => match S[j]?, S[i]? with
    | some (.lst xs), some (.lst ys) => if xs.length + ys.length ≤ LIM then some (.non, S.set j (.lst (xs ++ ys))) else none
    | _, _ => none
  | _ => none
theorem nt_extend {k : Nat} : NtOk k (.builtin "list.extend") ntExtend := by
  refine nt_of_mtM _ (fun X Γ ok => mt_extend) (fun _ => rfl) ?_
  intro X b ρ S H u us v vs Q _ rp r1 rr hw
  unfold ntExtend at hw
  split at hw
  · rename_i j i eq
    cases eq
    obtain ⟨y, rfl, r2⟩ := ru1 rr
    split at hw
    · rename_i xs ys ej ei
      split at hw
      · rename_i hl
        obtain ⟨a1, rfl, e1, p1, q1, h1⟩ := rp.of ej r1
        obtain ⟨a2, rfl, e2, p2, q2, h2⟩ := rp.of ei r2
        exact ⟨a1, a2, p1, p2, rfl, rfl, h1, h2, by rw [← paired_len q1, ← paired_len q2]; exact lim_line hl, hw ρ _ _ (Gr.refl _) (rp.put ej e1 rfl rfl ⟨_, paired_app q1 q2, upd_same⟩) .non⟩
      · exact hw.elim
    · exact hw.elim
  · exact hw.elim
theorem paired_dropLast {α β : Type} {F : α → β → Prop} {xs : List α} {ys : List β} (h : Paired F xs ys) : Paired F xs.dropLast ys.dropLast := by
  induction h with
  | nil => exact .nil
  | cons r t ih =>
    cases t with
    | nil => exact .nil
    | cons q t' => exact .cons r ih
theorem paired_erase {α β : Type} {F : α → β → Prop} : ∀ {xs : List α} {ys : List β} (i : Nat), Paired F xs ys → Paired F (xs.eraseIdx i) (ys.eraseIdx i)
  | _, _, _, .nil => .nil
  | _, _, 0, .cons _ t => t
  | _, _, i + 1, .cons r t => .cons r (paired_erase i t)
/-- xs.pop(), xs.pop(i) -/
def ntPop : Nt := fun us S => match us with
  | [.ref j] => match S[j]? with
    | some (.lst xs) => (xs[xs.length - 1]?).map fun u => (u, S.set j (.lst xs.dropLast))
    | _ => none
  | _ => none
theorem nt_pop {k : Nat} : NtOk k (.builtin "list.pop") ntPop := by
  refine nt_of_mtM _ (fun X Γ ok => mt_pop) (fun _ => rfl) ?_
  intro X b ρ S H u us v vs Q _ rp r1 rr hw
  unfold ntPop at hw
  split at hw
  · rename_i j eq
    cases eq
    cases rr
    split at hw
    · rename_i xs ej
      obtain ⟨a1, rfl, e1, p1, q1, h1⟩ := rp.of ej r1
      cases e : xs[xs.length - 1]? with
      | none => rw [e] at hw; exact hw.elim
      | some w =>
        rw [e] at hw
        obtain ⟨y, ey, ry⟩ := paired_get q1 e
        exact ⟨a1, p1, y, rfl, rfl, h1, by rw [← paired_len q1]; exact ey, hw ρ _ _ (Gr.refl _) (rp.put ej e1 rfl rfl ⟨_, paired_dropLast q1, upd_same⟩) ry⟩
    · exact hw.elim
  · exact hw.elim
def ntPopAt : Nt := fun us S => match us with
  | [.ref j, .int i] => match S[j]? with
    | some (.lst xs) => if i.natAbs < 2 ^ 60 then match seqIndex? i xs.length with
      | some n => (xs[n]?).map fun u => (u, S.set j (.lst (xs.eraseIdx n)))
      | none => none
      else none
    | _ => none
  | _ => none
theorem nt_popAt {k : Nat} : NtOk k (.builtin "list.pop") ntPopAt := by
  refine nt_of_mtM _ (fun X Γ ok => mt_popAt) (fun _ => rfl) ?_
  intro X b ρ S H u us v vs Q _ rp r1 rr hw
  unfold ntPopAt at hw
  split at hw
  · rename_i j i eq
    cases eq
    obtain ⟨y, rfl, r2⟩ := ru1 rr
    cases r2
    split at hw
    · rename_i xs ej
      obtain ⟨a1, rfl, e1, p1, q1, h1⟩ := rp.of ej r1
      split at hw
      · rename_i hi
        split at hw
        · rename_i n en
          cases e : xs[n]? with
          | none => rw [e] at hw; exact hw.elim
          | some w =>
            rw [e] at hw
            obtain ⟨y, ey, ry⟩ := paired_get q1 e
            exact ⟨a1, p1, i, n, y, rfl, rfl, h1, by omega, by omega, by rw [← paired_len q1]; exact en, ey, hw ρ _ _ (Gr.refl _) (rp.put ej e1 rfl rfl ⟨_, paired_erase n q1, upd_same⟩) ry⟩
        · exact hw.elim
      · exact hw.elim
    · exact hw.elim
  · exact hw.elim
/-- x.split(sep) -/
def ntSplit : Nt := fun us S => match us with
  | [.str a, .str b] => if (b.length == 0) = false ∧ a.length + 2 ≤ LIM then some (.ref S.length, S ++ [.lst ((Txt.split a b).map U.str)]) else none
  | _ => none
theorem nt_split {k : Nat} : NtOk k (.builtin "str.split") ntSplit := by
  refine nt_of_mt _ (fun X Γ ok => mt_split) (fun _ => rfl) ?_
  intro X b ρ S H u us v vs Q _ rp r1 rr hw
  unfold ntSplit at hw
  split at hw
  · rename_i x y eq
    cases eq
    obtain ⟨z, rfl, r2⟩ := ru1 rr
    cases r1; cases r2
    split at hw
    · rename_i hl
      exact ⟨_, _, rfl, rfl, hl.1, lim_line hl.2, fun p hp => hw _ _ _ (Gr.snoc ρ p) (rp.lst hp (RUs.strs _)) (rp.last p)⟩
    · exact hw.elim
  · exact hw.elim
/-- sep.join(texts) -/
def seqOf (j : Nat) (S : Sto) : Option (List U) := match S[j]? with
  | some (.lst xs) => some xs
  | some (.scr xs) => some xs
  | some (.tup xs) => some xs
  | _ => none
theorem seqOf_ok {K : PySem.W.Frag} {mg : Str → Option Value} {b ρ : List Addr} {S : Sto} {H : Hp} {j : Nat} {xs : List U} {a : Addr} (r : Rep K mg b ρ S H) (e : seqOf j S = some xs) (ha : ρ[j]? = some a) : ∃ vs, RUs mg ρ xs vs ∧ (SqL K H a vs ∨ SqT K H a vs) := by
  unfold seqOf at e
  split at e
  · rename_i ys q
    cases e
    obtain ⟨vs, h1, h2⟩ := r.ob j _ a q ha
    exact ⟨vs, h1, .inl (.inl (.inl h2))⟩
  · rename_i ys q
    cases e
    obtain ⟨vs, h1, h2⟩ := r.ob j _ a q ha
    exact ⟨vs, h1, .inl (scr_sql h2)⟩
  · rename_i ys q
    cases e
    obtain ⟨vs, h1, h2⟩ := r.ob j _ a q ha
    exact ⟨vs, h1, .inr h2⟩
  · cases e
def ntJoin : Nt := fun us S => match us with
  | [.str a, .ref j] => match seqOf j S with
    | some ws => match strsOf ws with
      | some ys => if (ys.map (·.length)).sum + ys.length * a.length ≤ LIM then some (.str (Txt.join a ys), S) else none
      | none => none
    | none => none
  | _ => none
theorem nt_join {k : Nat} : NtOk k (.builtin "str.join") ntJoin := by
  refine nt_of_mt _ (fun X Γ ok => mt_join) (fun _ => rfl) ?_
  intro X b ρ S H u us v vs Q _ rp r1 rr hw
  unfold ntJoin at hw
  split at hw
  · rename_i x j eq
    cases eq
    obtain ⟨z, rfl, r2⟩ := ru1 rr
    cases r1
    cases r2 with
    | ref ha =>
      split at hw
      · rename_i ws ew
        obtain ⟨ps, q1, q2⟩ := seqOf_ok rp ew ha
        split at hw
        · rename_i ys ey
          have := strsOf_ok ey
          subst this
          have := RUs.toStrs q1
          subst this
          split at hw
          · rename_i hl
            exact ⟨_, _, ys, rfl, rfl, q2, Nat.le_trans hl (by decide), hw ρ H _ (Gr.refl _) rp (.str _)⟩
          · exact hw.elim
        · exact hw.elim
      · exact hw.elim
  · exact hw.elim
/-- d.get(k), d.get(k, x) -/
def ntGet : Nt := fun us S => match us with
  | [.ref j, w] => match S[j]?, keyU w with
    | some (.dct kvs), some key => some ((getK kvs key).getD .non, S)
    | _, _ => none
  | [.ref j, w, z] => match S[j]?, keyU w with
    | some (.dct kvs), some key => some ((getK kvs key).getD z, S)
    | _, _ => none
  | _ => none
theorem getK_getD {mg : Str → Option Value} {ρ : List Addr} {key : Key} {kvs : List (Key × U)} {ks : List (Key × V)} {u : U} {v : V} (h : RP mg ρ kvs ks) (ru : RU mg ρ u v) : RU mg ρ ((getK kvs key).getD u) ((valV ks key).getD v) := by
  cases e : getK kvs key with
  | none => rw [(getK_ok h).2 e]; exact ru
  | some w =>
    obtain ⟨y, e1, e2⟩ := (getK_ok h).1 w e
    rw [e1]
    exact e2
theorem nt_get {k : Nat} : NtOk k (.builtin "dict.get") ntGet := by
  intro X b Γ ok pins s σ H ρ S us vs ws Q I rv rp ru hw
  have hu : X.A.units + 1 < cLine := by have := ok.room.un; omega
  unfold ntGet at hw
  split at hw
  · rename_i j w
    obtain ⟨v, y, rfl, r1, r2⟩ := ru2 ru
    obtain ⟨q1, q2, rfl, t1, t2⟩ := vals2 rv
    split at hw
    · rename_i kvs key ej ek
      obtain ⟨a, rfl, ea, ks, pv, hv⟩ := rp.of ej r1
      have hy := key_v r2 ek
      subst hy
      cases t1
      exact d_get1 hu I (DGet.k hv) t2 fun w' s' I' rw' => ⟨_, H, I', rw', hw ρ H _ (Gr.refl _) rp (getK_getD pv .non)⟩
    · exact hw.elim
  · rename_i j w z
    obtain ⟨v, y, q, rfl, r1, r2, r3⟩ := ru3 ru
    cases rv with
    | cons t1 rv =>
    obtain ⟨q2, q3, rfl, t2, t3⟩ := vals2 rv
    split at hw
    · rename_i kvs key ej ek
      obtain ⟨a, rfl, ea, ks, pv, hv⟩ := rp.of ej r1
      have hy := key_v r2 ek
      subst hy
      cases t1
      exact d_get2 hu I (DGet.k hv) t2 t3 fun w' s' I' rw' => ⟨_, H, I', rw', hw ρ H _ (Gr.refl _) rp (getK_getD pv r3)⟩
    · exact hw.elim
  · exact hw.elim
/-- d.update(e) -/
def mergeU (kvs more : List (Key × U)) : List (Key × U) := more.foldl (fun acc kv => putKU acc kv.1 kv.2) kvs
theorem mergeU_pair {mg : Str → Option Value} {ρ : List Addr} : ∀ {more : List (Key × U)} {ms : List (Key × V)} {kvs : List (Key × U)} {ks : List (Key × V)}, RP mg ρ more ms → RP mg ρ kvs ks → RP mg ρ (mergeU kvs more) (mergeK ks ms)
  | [], _, _, _, h, h' => by cases h; exact h'
  | p :: more, _, kvs, ks, h, h' => by
    cases h with
    | cons r t =>
      rename_i q qs
      have : RP mg ρ (putKU kvs p.1 p.2) (putK ks q.1 q.2) := by rw [← r.1]; exact putK_pair r.2 h'
      show RP mg ρ (mergeU (putKU kvs p.1 p.2) more) (mergeK (putK ks q.1 q.2) qs)
      exact mergeU_pair t this
def ntUpdate : Nt := fun us S => match us with
  | [.ref j, .ref i] => match S[j]?, S[i]? with
    | some (.dct kvs), some (.dct more) => if j ≠ i ∧ kvs.length + more.length ≤ LIM then some (.non, S.set j (.dct (mergeU kvs more))) else none
    | _, _ => none
  | _ => none
theorem nt_update {k : Nat} : NtOk k (.builtin "dict.update") ntUpdate := by
  intro X b Γ ok pins s σ H ρ S us vs ws Q I rv rp ru hw
  unfold ntUpdate at hw
  split at hw
  rotate_left
  · exact hw.elim
  rename_i j i
  obtain ⟨v, y, rfl, r1, r2⟩ := ru2 ru
  obtain ⟨q1, q2, rfl, t1, t2⟩ := vals2 rv
  split at hw
  rotate_left
  · exact hw.elim
  rename_i kvs more ej ei
  split at hw
  rotate_left
  · exact hw.elim
  rename_i hl
  obtain ⟨a1, rfl, e1, p1, s1, h1⟩ := rp.of ej r1
  obtain ⟨a2, rfl, e2, p2, s2, h2⟩ := rp.of ei r2
  have hne : a1 ≠ a2 := fun z => hl.1 (rp.inj j i _ _ a1 ej ei rfl rfl e1 (by rw [z]; exact e2))
  obtain rfl : q1 = Value.ref a1 := t1
  obtain rfl : q2 = Value.ref a2 := t2
  obtain ⟨z1, y1, w1, rel1, d1⟩ := dk_of I.hok h1
  obtain ⟨z2, y2, w2, rel2, d2⟩ := dk_of I.hok h2
  have l1 := rel1.length
  have l2 := rel2.length
  have m1 := paired_len s1
  have m2 := paired_len s2
  refine call_meetsIn PySem.F.slot_dict_update d1.typeIs PySem.F.entry_dict_update (PySem.F.args_dict_update_2 _ _) (meets_dict_update (mixKind X.prog X.w) a1 a2 hne y2) ⟨w1, w2, d1, d2, lim_line (by omega), fun h' dd dd2 hs => ?_⟩
  have he : ∃ q, h'.get? a1 = some q := let ⟨q, _, _, hq, _⟩ := dd; ⟨q, hq⟩
  have hz : (mergeK p1 p2).length ≤ sizeLine := by
    have h1 := length_mergeK p2 p1
    exact Nat.le_trans h1 (lim_line (by omega))
  refine ⟨.non, _, d_write I (by rw [h1]; exact True.intro) hs he (dk_new hz y1 (rel2.merge rel1) dd), rfl, ?_⟩
  exact hw ρ _ _ (Gr.refl _) (rp.put ej e1 rfl rfl ⟨_, mergeU_pair s2 s1, upd_same⟩) .non
end Mn
set_option Elab.async false
set_option linter.all false
set_option maxRecDepth 100000
set_option maxHeartbeats 4000000
/-! Mn11: zip of two things, of any kind, strict or not. -/
namespace Mn
open PySem PySem.Spec PyProof.Rows L2

/-- a zip object; st: was it told to be strict -/
abbrev Zp (h : Heap) (z TI TO : Addr) (f0 : Value) (st : Bool) : Prop :=
  h.get? z = some { cls := .type "zip", data := .fields #[f0, .bool false, .bool st, .ref TI, .ref TO] }
section
variable {prog : Program} {w : World} {A : Around} {E : Value → Shared → Prop} {s : Shared} {z TI TO i1 i2 : Addr} {f1 f2 : List Addr} {n1 n2 i : Nat} {P1 P2 : Nat → Value → Prop} {T1 T2 : Nat → Heap → Prop} {a1 a2 : Value} {st : Bool}
/-- one draw of a zip -/
def zdraw (st : Bool) (it : Value) : Sem (Option Value) := if st = true then Builtin.SmallTypes.nextOrEnd it else do return some (← Builtin.SmallTypes.nextOf it)
theorem zdraw_item {it : Addr} {fp : List Addr} {n : Nat} {P : Nat → Value → Prop} {St : Nat → Heap → Prop} (D : Draws prog w A it fp n P St) {Q : Option Value → Shared → Prop} (hl : i < n) (hs : St i s.heap)
    (hQ : ∀ x h' tk, P i x → St (i + 1) h' → Heap.SameBut it s.heap h' → Q (some x) { s with heap := h', toks := tk }) : wpAny (model prog w) A (zdraw st (.ref it)) Q E s := by
  unfold zdraw
  cases st with
  | true => exact wpAny_bind (wpAny_attempt (D.item i s _ _ hl hs fun x h' tk p t sb => wpAny_pure (hQ x h' tk p t sb)))
  | false => exact wpAny_bind (D.item i s _ _ hl hs fun x h' tk p t sb => wpAny_pure (hQ x h' tk p t sb))
theorem zdraw_end {it : Addr} {fp : List Addr} {n : Nat} {P : Nat → Value → Prop} {St : Nat → Heap → Prop} (D : Draws prog w A it fp n P St) {Q : Option Value → Shared → Prop} (hs : St n s.heap)
    (hQ : st = true → ∀ h', Heap.ExtBut it s.heap h' → Q none { s with heap := h' }) (hE : st = false → ∀ h' e, Heap.ExtBut it s.heap h' → (∃ o, h'.get? e = some o ∧ o.cls = .type "StopIteration") → E (.ref e) { s with heap := h' }) :
    wpAny (model prog w) A (zdraw st (.ref it)) Q E s := by
  unfold zdraw
  cases st with
  | true =>
    refine wpAny_bind (wpAny_attempt (D.done s _ _ hs fun h' e sb he => ?_))
    obtain ⟨o, ho, hc⟩ := he
    exact wpAny_bind (wpAny_isInstance (T := "StopIteration") (b := true) ⟨o, ho, hc⟩ isSubtype_stop (wpAny_pure (hQ rfl h' sb)))
  | false => exact wpAny_bind (D.done s _ _ hs fun h' e sb he => hE rfl h' e sb he)
theorem zp_item {Q : Value → Shared → Prop} (S : ZipSep2 z TI TO i1 i2 f1 f2) (D1 : Draws prog w A i1 f1 n1 P1 T1) (D2 : Draws prog w A i2 f2 n2 P2 T2)
    (hz : Zp s.heap z TI TO .none st) (hI : IsTupOf2 s.heap TI (.ref i1) (.ref i2)) (hO : IsTupOf2 s.heap TO a1 a2) (t1 : T1 i s.heap) (t2 : T2 i s.heap) (l1 : i < n1) (l2 : i < n2)
    (hQ : ∀ x1 x2 h' tk, P1 i x1 → P2 i x2 → Zp h' z TI TO (rawInt s.heap.objs.size) st → IsTupOf2 h' TO x1 x2 → T1 (i + 1) h' → T2 (i + 1) h' → IsTupOf2 h' s.heap.objs.size x1 x2 →
      (∀ c o, c ≠ z → c ≠ TO → c ≠ i1 → c ≠ i2 → s.heap.get? c = some o → h'.get? c = some o) → Q (.ref s.heap.objs.size) { s with heap := h', toks := tk }) :
    wpAny (model prog w) A (Builtin.«zip.__next__» ⟨[.ref z], []⟩) (fun fin s' => ∃ v, fin = .done (.ret v) ∧ Q v s') E s := by
  obtain ⟨hp, g, d, tk0, os⟩ := s
  show wpAny _ _ (field (.ref z) 2 >>= _) _ _ _
  have eb : ((Value.bool st) == Value.bool true) = st := by cases st <;> rfl
  refine wpAny_bind (wpAny_field hz rfl (x := .bool st) rfl ?_)
  rw [eb]
  show wpAny _ _ (field (.ref z) 3 >>= _) _ _ _
  refine wpAny_bind (wpAny_field hz rfl (x := .ref TI) rfl (wpAny_bind (wpAny_seqItems hI rfl ?_)))
  show wpAny _ _ (Builtin.SmallTypes.ownedTupleIsFree (.ref z) >>= _) _ _ _
  refine wpAny_bind (m := Builtin.SmallTypes.ownedTupleIsFree (.ref z)) (wpAny_bind (wpAny_field hz rfl (x := .none) rfl (wpAny_pure ?_)))
  simp only [if_true]
  refine wpAny_bind (wpAny_rule (wpAny_bind (wpAny_field hz rfl (x := .ref TO) rfl ?_)))
  refine wpAny_bind (wpAny_setField_rec hz (by simp) fun g0 hz0 hs0 => wpAny_bind ?_)
  replace hz0 : Zp g0 z TI TO .ellipsis st := hz0
  replace hs0 : Heap.SameBut z hp g0 := hs0
  simp only [List.zipIdx_cons, List.zipIdx_nil, List.forIn_cons, List.forIn_nil]
  refine wpAny_bind (wpAny_bind (wpAny_onRaise ?_))
  show wpAny _ _ (zdraw st (.ref i1)) _ _ ⟨g0, g, d, tk0, os⟩
  refine zdraw_item D1 l1 (D1.over t1 hs0 S.zf1) fun x1 p1 tk1 hx1 sn1 hp1 => ?_
  replace hp1 : Heap.SameBut i1 g0 p1 := hp1
  have hU1 : IsTupOf2 p1 TO a1 a2 := hp1.extBut _ _ S.Ti1 (hs0.extBut _ _ S.TOz hO)
  refine wpAny_bind (wpAny_seqItems (s := ⟨p1, g, d, tk1, os⟩) hU1 rfl (wpAny_bind (updateSeq_IsTupOf2 (s := ⟨p1, g, d, tk1, os⟩) hU1 fun g1 hT1 hs1 => ?_)))
  replace hT1 : IsTupOf2 g1 TO x1 a2 := hT1
  replace hs1 : Heap.SameBut TO p1 g1 := hs1
  refine wpAny_bind (wpAny_letGo (wpAny_pure (wpAny_bind (wpAny_bind (wpAny_onRaise ?_)))))
  show wpAny _ _ (zdraw st (.ref i2)) _ _ ⟨g1, g, d, tk1, os⟩
  refine zdraw_item D2 l2 (D2.over (D2.over (D2.over t2 hs0 S.zf2) hp1 S.sep1_2) hs1 S.Tf2) fun x2 p2 tk2 hx2 sn2 hp2 => ?_
  replace hp2 : Heap.SameBut i2 g1 p2 := hp2
  have hU2 : IsTupOf2 p2 TO x1 a2 := hp2.extBut _ _ S.Ti2 hT1
  refine wpAny_bind (wpAny_seqItems (s := ⟨p2, g, d, tk2, os⟩) hU2 rfl (wpAny_bind (updateSeq_IsTupOf2 (s := ⟨p2, g, d, tk2, os⟩) hU2 fun g2 hT2 hs2 => ?_)))
  replace hT2 : IsTupOf2 g2 TO x1 x2 := hT2
  replace hs2 : Heap.SameBut TO p2 g2 := hs2
  refine wpAny_bind (wpAny_letGo (wpAny_pure (wpAny_pure (wpAny_bind (wpAny_seqItems (s := ⟨g2, g, d, tk2, os⟩) hT2 rfl (wpAny_bind (wpAny_newTuple ?_)))))))
  have hsz : g2.objs.size = hp.objs.size := by rw [hs2.1, hp2.1, hs1.1, hp1.1, hs0.1]
  have hzz : Zp g2 z TI TO .ellipsis st := hs2.extBut _ _ S.TOz.symm (hp2.extBut _ _ S.zi2 (hs1.extBut _ _ S.TOz.symm (hp1.extBut _ _ S.zi1 hz0)))
  have hkk : ∀ c o, c ≠ z → c ≠ TO → c ≠ i1 → c ≠ i2 → hp.get? c = some o → g2.get? c = some o := fun c o cz cT c1 c2 e =>
    hs2.extBut _ _ cT (hp2.extBut _ _ c2 (hs1.extBut _ _ cT (hp1.extBut _ _ c1 (hs0.extBut _ _ cz e))))
  have hj1 : T1 (i + 1) g2 := D1.over (D1.over (D1.over sn1 hs1 S.Tf1) hp2 S.sep2_1) hs2 S.Tf1
  have hj2 : T2 (i + 1) g2 := D2.over sn2 hs2 S.Tf2
  have hzlt : z < g2.objs.size := Heap.lt_size hzz
  show wpAny _ _ (Builtin.SmallTypes.ownedTupleHandOut (.ref z) (.ref g2.objs.size) >>= _) _ _ ⟨g2.push { cls := .type "tuple", data := .seq #[x1, x2] }, g, d, tk2, os⟩
  refine wpAny_bind ?_
  unfold Builtin.SmallTypes.ownedTupleHandOut
  have hz6 : Zp (g2.push { cls := .type "tuple", data := .seq #[x1, x2] }) z TI TO .ellipsis st := Heap.get?_push_of_some _ hzz
  refine wpAny_bind (wpAny_setField_rec hz6 (by simp) fun h7 hz7 hs7 => ?_)
  replace hz7 : Zp h7 z TI TO (rawInt g2.objs.size) st := hz7
  refine wpAny_setField_rec hz7 (by simp) fun h8 hz8 hs8 => ?_
  replace hz8 : Zp h8 z TI TO (rawInt g2.objs.size) st := hz8
  replace hs7 : Heap.SameBut z (g2.push { cls := .type "tuple", data := .seq #[x1, x2] }) h7 := hs7
  replace hs8 : Heap.SameBut z h7 h8 := hs8
  have up : ∀ c o, c ≠ z → g2.get? c = some o → h8.get? c = some o := fun c o c1 e => hs8.extBut _ _ c1 (hs7.extBut _ _ c1 (Heap.get?_push_of_some _ e))
  have hT8 : IsTupOf2 h8 g2.objs.size x1 x2 := hs8.extBut _ _ (Nat.ne_of_gt hzlt) (hs7.extBut _ _ (Nat.ne_of_gt hzlt) (Heap.get?_push_size _ rfl))
  rw [hsz] at hz8 hT8
  refine wpAny_pure ⟨_, rfl, ?_⟩
  show Q (.ref g2.objs.size) ⟨h8, g, d, tk2, os⟩
  rw [hsz]
  exact hQ x1 x2 h8 tk2 hx1 hx2 hz8 (up _ _ S.TOz hT2) (D1.frame _ _ _ hj1 fun b hb o e => up b o (fun q => S.zf1 (q ▸ hb)) e) (D2.frame _ _ _ hj2 fun b hb o e => up b o (fun q => S.zf2 (q ▸ hb)) e) hT8 fun c o cz cT c1 c2 e => up c o cz (hkk c o cz cT c1 c2 e)
/-- a fresh StopIteration flies -/
theorem stop_flies {α : Type} {Q : α → Shared → Prop} (hh : A.handled = none) (hE : ∀ h' e, (∀ c o, s.heap.get? c = some o → h'.get? c = some o) → (∃ o, h'.get? e = some o ∧ o.cls = .type "StopIteration") → E (.ref e) { s with heap := h' }) :
    wpAny (model prog w) A (Builtin.SmallTypes.stopIteration : Sem α) Q E s := by
  show wpAny _ _ (newExc (.type "StopIteration") [] >>= _) _ _ _
  refine wpAny_bind ?_
  simp only [newExc, newTuple]
  refine wpAny_bind (wpAny_newObj_type ?_ (by size_fits))
  refine wpAny_bind (m := firstArgMember _ _) (wpAny_of_eq (a := Value.none) (by first | rfl | (simp only [firstArgMember]; rfl)) (wpAny_newObj_type ?_ (by size_fits)))
  simp only [raiseNew]
  refine wpAny_bind (wpAny_handled ?_)
  rw [hh]
  refine wpAny_bind (wpAny_pure (wpAny_throw (hE _ _ (fun c o e => ?_) ⟨_, Heap.get?_push_size _ rfl, rfl⟩)))
  exact Heap.get?_push_of_some _ (Heap.get?_push_of_some _ e)
theorem zp_endS {Q : Fin → Shared → Prop} (hh : A.handled = none) (S : ZipSep2 z TI TO i1 i2 f1 f2) (D1 : Draws prog w A i1 f1 i P1 T1) (D2 : Draws prog w A i2 f2 i P2 T2)
    (hz : Zp s.heap z TI TO .none true) (hI : IsTupOf2 s.heap TI (.ref i1) (.ref i2)) (hO : IsTupOf2 s.heap TO a1 a2) (t1 : T1 i s.heap) (t2 : T2 i s.heap)
    (hE : ∀ h' e, (∀ c o, c ≠ z → c ≠ TO → c ≠ i1 → c ≠ i2 → s.heap.get? c = some o → h'.get? c = some o) → (∃ o, h'.get? e = some o ∧ o.cls = .type "StopIteration") → E (.ref e) { s with heap := h' }) :
    wpAny (model prog w) A (Builtin.«zip.__next__» ⟨[.ref z], []⟩) Q E s := by
  obtain ⟨hp, g, d, tk0, os⟩ := s
  show wpAny _ _ (field (.ref z) 2 >>= _) _ _ _
  have eb : ((Value.bool true) == Value.bool true) = true := rfl
  refine wpAny_bind (wpAny_field hz rfl (x := .bool true) rfl ?_)
  rw [eb]
  show wpAny _ _ (field (.ref z) 3 >>= _) _ _ _
  refine wpAny_bind (wpAny_field hz rfl (x := .ref TI) rfl (wpAny_bind (wpAny_seqItems hI rfl ?_)))
  show wpAny _ _ (Builtin.SmallTypes.ownedTupleIsFree (.ref z) >>= _) _ _ _
  refine wpAny_bind (m := Builtin.SmallTypes.ownedTupleIsFree (.ref z)) (wpAny_bind (wpAny_field hz rfl (x := .none) rfl (wpAny_pure ?_)))
  simp only [if_true]
  refine wpAny_bind (wpAny_rule (wpAny_bind (wpAny_field hz rfl (x := .ref TO) rfl ?_)))
  refine wpAny_bind (wpAny_setField_rec hz (by simp) fun g0 hz0 hs0 => wpAny_bind ?_)
  replace hz0 : Zp g0 z TI TO .ellipsis true := hz0
  replace hs0 : Heap.SameBut z hp g0 := hs0
  simp only [List.zipIdx_cons, List.zipIdx_nil, List.forIn_cons, List.forIn_nil]
  refine wpAny_bind (wpAny_bind (wpAny_onRaise ?_))
  show wpAny _ _ (zdraw true (.ref i1)) _ _ ⟨g0, g, d, tk0, os⟩
  refine zdraw_end D1 (D1.over t1 hs0 S.zf1) (fun _ p1 hp1 => ?_) fun q => nomatch q
  replace hp1 : Heap.ExtBut i1 g0 p1 := hp1
  have hz1 : Zp p1 z TI TO .ellipsis true := hp1 _ _ S.zi1 hz0
  refine wpAny_bind (wpAny_setField_rec (s := ⟨p1, g, d, tk0, os⟩) hz1 (by simp) fun p2 hz2 hs2 => ?_)
  replace hs2 : Heap.SameBut z p1 p2 := hs2
  refine wpAny_bind ?_
  wp_delta
  rw [if_neg (by decide)]
  have t2' : T2 i p2 := D2.over (D2.frame _ _ _ (D2.over t2 hs0 S.zf2) fun b hb o e => hp1 b o (fun q => S.sep1_2 (q ▸ hb)) e) hs2 S.zf2
  simp only [List.drop_succ_cons, List.drop_zero, List.zipIdx_cons, List.zipIdx_nil, List.forIn_cons, List.forIn_nil]
  refine wpAny_bind (wpAny_bind (wpAny_bind ?_))
  show wpAny _ _ (zdraw true (.ref i2)) _ _ ⟨p2, g, d, tk0, os⟩
  refine zdraw_end D2 t2' (fun _ p3 hp3 => ?_) fun q => nomatch q
  replace hp3 : Heap.ExtBut i2 p2 p3 := hp3
  refine wpAny_pure (wpAny_pure (wpAny_bind (wpAny_rule (stop_flies hh fun h' e k he => ?_))))
  refine hE h' e (fun c o cz cT c1 c2 x => ?_) he
  exact k c o (hp3 c o c2 (hs2.extBut _ _ cz (hp1 c o c1 (hs0.extBut _ _ cz x))))
end
end Mn
set_option Elab.async false
set_option linter.all false
set_option maxRecDepth 100000
set_option maxHeartbeats 4000000
/-! Mn12: zip as what a loop walks. -/
namespace Mn
open PySem PySem.Spec PyProof.Rows L2

section
variable {prog : Program} {w : World} {A : Around} {E : Value → Shared → Prop} {s : Shared} {z TI TO i1 i2 : Addr} {f1 f2 : List Addr} {n1 n2 i : Nat} {P1 P2 : Nat → Value → Prop} {T1 T2 : Nat → Heap → Prop} {a1 a2 : Value} {st : Bool}
theorem zp_next {Q : Option Value → Shared → Prop} (S : ZipSep2 z TI TO i1 i2 f1 f2) (D1 : Draws prog w A.in1 i1 f1 n1 P1 T1) (D2 : Draws prog w A.in1 i2 f2 n2 P2 T2)
    (hz : Zp s.heap z TI TO .none st) (hI : IsTupOf2 s.heap TI (.ref i1) (.ref i2)) (hO : IsTupOf2 s.heap TO a1 a2) (t1 : T1 i s.heap) (t2 : T2 i s.heap) (l1 : i < n1) (l2 : i < n2)
    (hQ : ∀ x1 x2 h' tk, P1 i x1 → P2 i x2 → Zp h' z TI TO (rawInt s.heap.objs.size) st → IsTupOf2 h' TO x1 x2 → T1 (i + 1) h' → T2 (i + 1) h' → IsTupOf2 h' s.heap.objs.size x1 x2 →
      (∀ c o, c ≠ z → c ≠ TO → c ≠ i1 → c ≠ i2 → s.heap.get? c = some o → h'.get? c = some o) → Q (some (.ref s.heap.objs.size)) { s with heap := h', toks := tk }) :
    wpAny (model prog w) A (pyNext (.ref z)) Q E s := by
  have hT : s.TypeIs (.ref z) "zip" := ⟨_, hz, rfl⟩
  unfold pyNext
  exact wpAny_bind (wpAny_attempt (wpAny_callSpecial?_slot (name := Str.ofString "__next__") hT F.slot_zip_next (wpAny_call_entry F.slot_zip_next hT F.entry_zip_next
    (zp_item S D1 D2 hz hI hO t1 t2 l1 l2 fun x1 x2 h' tk y1 y2 b1 b2 d1 d2 b5 b7 => wpAny_pure (hQ x1 x2 h' tk y1 y2 b1 b2 d1 d2 b5 b7)) (F.args_zip_next_1 _))))
theorem zp_stop {Q : Option Value → Shared → Prop} (hh : A.handled = none) (S : ZipSep2 z TI TO i1 i2 f1 f2) (D1 : Draws prog w A.in1 i1 f1 n1 P1 T1) (D2 : Draws prog w A.in1 i2 f2 n2 P2 T2)
    (hz : Zp s.heap z TI TO .none st) (hI : IsTupOf2 s.heap TI (.ref i1) (.ref i2)) (hO : IsTupOf2 s.heap TO a1 a2) (t1 : T1 i s.heap) (t2 : T2 i s.heap) (l1 : i ≤ n1) (l2 : i ≤ n2) (he : i = n1 ∨ i = n2) (hs : st = true → n1 = i ∧ n2 = i)
    (hQ : ∀ h' tk, (∀ c o, c ≠ z → c ≠ TO → c ≠ i1 → c ≠ i2 → s.heap.get? c = some o → h'.get? c = some o) → Q none { s with heap := h', toks := tk }) : wpAny (model prog w) A (pyNext (.ref z)) Q E s := by
  cases st with
  | false => exact wpAny_pyNext_zipD2_end S D1 D2 hz hI hO t1 t2 l1 l2 he hQ
  | true =>
    obtain ⟨e1, e2⟩ := hs rfl
    subst e1
    subst e2
    have hT : s.TypeIs (.ref z) "zip" := ⟨_, hz, rfl⟩
    unfold pyNext
    refine wpAny_bind (wpAny_attempt (wpAny_callSpecial?_slot (name := Str.ofString "__next__") hT F.slot_zip_next (wpAny_call_entry F.slot_zip_next hT F.entry_zip_next
      (zp_endS hh S D1 D2 hz hI hO t1 t2 fun h' e hk he => ?_) (F.args_zip_next_1 _))))
    obtain ⟨o, ho, hc⟩ := he
    exact wpAny_bind (wpAny_isInstance (T := "StopIteration") (b := true) ⟨o, ho, hc⟩ isSubtype_stop (wpAny_pure (hQ _ _ hk)))
theorem zp_go {elts : List Expr} {k : Nat} {pos : Pos} {T : Addr} {Q : Unit → Shared → Prop} (hz : Zp s.heap z TI TO (rawInt T) st) (hQ : ∀ h', Zp h' z TI TO .none st → Heap.SameBut z s.heap h' → Q () { s with heap := h' }) :
    wpAny (model prog w) A (letOwnedTupleGo (.Tuple elts k pos) (.ref z) (.ref T)) Q E s := by
  unfold letOwnedTupleGo
  refine wpAny_bind (wpAny_load hz ?_)
  show wpAny _ _ (if (["enumerate", "zip", "dict_itemiterator", "dict_reverseitemiterator", "odict_iterator", "itertools.zip_longest", "itertools.pairwise"].contains "zip" && (#[rawInt T, .bool false, .bool st, .ref TI, .ref TO] : Array Value)[0]? == some (rawInt T)) = true then _ else _) Q E s
  rw [if_pos (by simp)]
  refine wpAny_bind (wpAny_rule ?_)
  show wpAny _ _ (setField (.ref z) 0 .none) Q E s
  exact wpAny_setField_rec hz (by simp) hQ
theorem zp_self {f0 : Value} {Q : Value → Shared → Prop} (hz : Zp s.heap z TI TO f0 st) (h : Q (.ref z) s) : wpAny (model prog w) A (pyIter (.ref z)) Q E s := by
  have hT : s.TypeIs (.ref z) "zip" := ⟨_, hz, rfl⟩
  refine wpAny_pyIter_slot hT F.slot_zip_iter (wpAny_call_entry F.slot_zip_iter hT F.entry_zip_iter ?_ (F.args_zip_iter_1 _))
  show wpAny _ _ (ret (.ref z)) _ _ s
  exact wpAny_pure ⟨_, rfl, "zip", _, hT, F.slot_zip_next.lookup, h⟩

end

/-! ### zip(a, b, strict=True) begins -/
theorem zs_type (a b : Value) : checkTypeCall "zip" ⟨[a, b], [(Str.ofString "strict", .bool true)]⟩ = pure () := by kernel_rfl
theorem zs_new (a b : Value) : checkBuiltinCall "zip.__new__" ⟨[.type "zip", a, b], [(Str.ofString "strict", .bool true)]⟩ = pure () := by kernel_rfl
theorem zs_init (o a b : Value) : argsOk "object.__init__" ⟨[o, a, b], [(Str.ofString "strict", .bool true)]⟩ := by unfold argsOk; kernel_rfl
abbrev zpH (h : Heap) (o1 o2 : Obj) : Heap := (gzO2 h o1 o2).push { cls := .type "zip", data := .fields #[.none, .bool false, .bool true, .ref ((h.push o1).push o2).objs.size, .ref (gzT2 h o1 o2).objs.size] }
theorem zs_meets {v1 v2 : Value} {o1 o2 : Obj} {H1 H2 : Heap → Prop} (B1 : Begins v1 o1 H1) (B2 : Begins v2 o2 H2) :
    Meets (Builtin.«zip.__new__» ⟨[.type "zip", v1, v2], [(Str.ofString "strict", .bool true)]⟩) (fun _ R s => (H1 s.heap ∧ H2 s.heap) ∧ R (.ok (.ret (.ref (gzO2 s.heap o1 o2).objs.size))) { s with heap := zpH s.heap o1 o2 }) :=
  .of_wp fun prog w A R s h => by
    obtain ⟨hp, g, d, tk, os⟩ := s
    obtain ⟨⟨h1, h2⟩, h⟩ := h
    have hsub := sub_zip
    have e2 : (Str.ofString "strict" != ("strict" : Str)) = false := by decide +kernel
    have q1 : ∀ {A' : Around} {E : Value → Shared → Prop} {Q : Value → Shared → Prop}, Q (.ref hp.objs.size) ⟨hp.push o1, g, d, tk, os⟩ → wpAny (model prog w) A' (pyIter v1) Q E ⟨hp, g, d, tk, os⟩ := fun q => B1.iter prog w _ _ ⟨hp, g, d, tk, os⟩ _ (B1.keeps _ _ h1 fun b o' e => e) q
    have q2 : ∀ {A' : Around} {E : Value → Shared → Prop} {Q : Value → Shared → Prop}, Q (.ref (hp.push o1).objs.size) ⟨(hp.push o1).push o2, g, d, tk, os⟩ → wpAny (model prog w) A' (pyIter v2) Q E ⟨hp.push o1, g, d, tk, os⟩ := fun q => B2.iter prog w _ _ ⟨hp.push o1, g, d, tk, os⟩ _ (B2.keeps _ _ h2 fun b o' e => Heap.get?_push_of_some _ e) q
    wp_walk using q1, q2
    exact ⟨_, rfl, h⟩
section
variable {prog : Program} {w : World} {A : Around} {E : Value → Shared → Prop} {s : Shared}
/-- what kw the zip was told -/
def zkw (st : Bool) : List (Str × Value) := if st = true then [(Str.ofString "strict", .bool true)] else []
theorem zp_begins {st : Bool} {v1 v2 : Value} {o1 o2 : Obj} {H1 H2 : Heap → Prop} {Q : Value → Shared → Prop} (B1 : Begins v1 o1 H1) (B2 : Begins v2 o2 H2) (h1 : H1 s.heap) (h2 : H2 s.heap)
    (h : ∀ h', Zp h' (s.heap.objs.size + 4) (s.heap.objs.size + 2) (s.heap.objs.size + 3) .none st → IsTupOf2 h' (s.heap.objs.size + 2) (.ref s.heap.objs.size) (.ref (s.heap.objs.size + 1)) →
      IsTupOf2 h' (s.heap.objs.size + 3) .none .none → h'.get? s.heap.objs.size = some o1 → h'.get? (s.heap.objs.size + 1) = some o2 → (∀ c o, s.heap.get? c = some o → h'.get? c = some o) → Q (.ref (s.heap.objs.size + 4)) { s with heap := h' }) :
    wpAny (model prog w) A (call (.type "zip") [v1, v2] (zkw st)) Q E s := by
  cases st with
  | false => exact zip_begins2 B1 B2 h1 h2 fun h' b1 b2 b3 b4 b5 _ b7 => h h' b1 b2 b3 b4 b5 b7
  | true =>
    refine callType_newKw F.called_zip (by decide) (zs_type _ _) (zs_new _ _) (fun obj => zs_init obj _ _) F.entry_zip_new (zs_meets B1 B2) ⟨⟨h1, h2⟩, ?_⟩
    have z1 : (s.heap.push o1).objs.size = s.heap.objs.size + 1 := Heap.size_push ..
    have z2 : ((s.heap.push o1).push o2).objs.size = s.heap.objs.size + 2 := by rw [Heap.size_push, z1]
    have zT : (gzT2 s.heap o1 o2).objs.size = s.heap.objs.size + 3 := by rw [Heap.size_push, z2]
    have zO : (gzO2 s.heap o1 o2).objs.size = s.heap.objs.size + 4 := by rw [Heap.size_push, zT]
    have up : ∀ {c o}, (gzO2 s.heap o1 o2).get? c = some o → (zpH s.heap o1 o2).get? c = some o := fun e => Heap.get?_push_of_some _ e
    have gZ : (zpH s.heap o1 o2).get? (gzO2 s.heap o1 o2).objs.size = some { cls := .type "zip", data := .fields #[.none, .bool false, .bool true, .ref ((s.heap.push o1).push o2).objs.size, .ref (gzT2 s.heap o1 o2).objs.size] } := Heap.get?_push_size _ rfl
    have gO := up (Heap.get?_push_size (gzT2 s.heap o1 o2) (o := { cls := .type "tuple", data := .seq #[.none, .none] }) rfl)
    have gT := up (Heap.get?_push_of_some _ (Heap.get?_push_size ((s.heap.push o1).push o2) (o := { cls := .type "tuple", data := .seq #[.ref s.heap.objs.size, .ref (s.heap.push o1).objs.size] }) rfl))
    have g2 := up (Heap.get?_push_of_some _ (Heap.get?_push_of_some _ (Heap.get?_push_size (s.heap.push o1) B2.free)))
    have g1 := up (Heap.get?_push_of_some _ (Heap.get?_push_of_some _ (Heap.get?_push_of_some _ (Heap.get?_push_size s.heap B1.free))))
    rw [zO, zT, z2] at gZ
    rw [zT] at gO
    rw [z2, z1] at gT
    rw [z1] at g2
    show _ ∧ _
    rw [zO]
    exact ⟨⟨_, gZ, rfl⟩, h _ gZ gT gO g1 g2 fun c o e => up (Heap.get?_push_of_some _ (Heap.get?_push_of_some _ (Heap.get?_push_of_some _ (Heap.get?_push_of_some _ e))))⟩
end

/-! ### the legs, as the heap has them -/
inductive VL where
  | ls (a : Addr) | tp (a : Addr) | tx (x : Str)
def VLI (K : PySem.W.Frag) (H : Hp) : VL → List V → Prop
  | .ls a, xs => SqL K H a xs
  | .tp a, xs => SqT K H a xs
  | .tx x, xs => xs = x.cps.toList.map fun c => .str ⟨#[c]⟩
def LegAt : VL → Nat → Heap → Addr → Prop
  | .ls a, i, h, it => h.IsListIter it a i
  | .tp a, i, h, it => h.IsTupleIter it a i
  | .tx x, i, h, it => ∃ t, h.IsStrIter it (strIterType x) x t i
theorem LegAt.obj {l : VL} {i : Nat} {h : Heap} {it : Addr} (x : LegAt l i h it) : ∃ o vs, h.get? it = some o ∧ o.data = .fields vs := by
  cases l with
  | ls a => obtain ⟨o, e, _, d⟩ := x; exact ⟨o, _, e, d⟩
  | tp a => obtain ⟨o, e, _, d⟩ := x; exact ⟨o, _, e, d⟩
  | tx z => obtain ⟨t, o, e, _, d⟩ := x; exact ⟨o, _, e, d⟩
theorem LegAt.keep {l : VL} {i : Nat} {h h' : Heap} {it : Addr} (x : LegAt l i h it) (k : ∀ o, h.get? it = some o → h'.get? it = some o) : LegAt l i h' it := by
  cases l with
  | ls a => obtain ⟨o, e, d⟩ := x; exact ⟨o, k _ e, d⟩
  | tp a => obtain ⟨o, e, d⟩ := x; exact ⟨o, k _ e, d⟩
  | tx z => obtain ⟨t, o, e, d⟩ := x; exact ⟨t, o, k _ e, d⟩
section
variable {X : Cx} {pins : List (Addr × Obj)} {σ : St} {H : Hp} {s : Shared}
/-- an iterator's own object is none of the things that are told of -/
theorem fp_notK {a c : Addr} {o : Obj} (I : L2.Inv X pins σ H s) (h : X.K.lookup a = some o) (f : FpOk X pins H c) : a ≠ c := by
  rintro rfl
  have e : X.base.get? a = some o := I.ok.mod.kin a o h
  rcases f.2.2.2.1 with z | z
  · exact I.ok.noex a o e z
  · exact absurd (Nat.lt_of_lt_of_le (Heap.lt_size e) (Nat.le_trans I.ok.bsz z)) (Nat.lt_irrefl _)
theorem fp_notL {a c : Addr} {xs : List V} (I : L2.Inv X pins σ H s) (h : SqL X.K H a xs) (f : FpOk X pins H c) : a ≠ c := by
  rcases h with (h | ⟨ob, h⟩) | ⟨o, its, n, h, _⟩
  · rintro rfl; rw [f.1] at h; cases h
  · rintro rfl; rw [f.1] at h; cases h
  · exact fp_notK I h f
theorem fp_notT {a c : Addr} {xs : List V} (I : L2.Inv X pins σ H s) (h : SqT X.K H a xs) (f : FpOk X pins H c) : a ≠ c := by
  rcases h with (h | ⟨ob, h⟩) | ⟨o, its, n, h, _⟩
  · rintro rfl; rw [f.1] at h; cases h
  · rintro rfl; rw [f.1] at h; cases h
  · exact fp_notK I h f
theorem VLI.inj {l : VL} {xs ys : List V} (I : L2.Inv X pins σ H s) (h : VLI X.K H l xs) (h' : VLI X.K H l ys) : xs = ys := by
  cases l with
  | ls a => exact I.list_inj h h'
  | tp a => exact I.tuple_inj h h'
  | tx x => exact h.trans h'.symm
/-- what a leg's iterator draws, now -/
structure LegD (X : Cx) (pins : List (Addr × Obj)) (H : Hp) (s : Shared) (l : VL) (i : Nat) (it : Addr) (xs : List V) (fp : List Addr) (P : Nat → Value → Prop) (St : Nat → Heap → Prop) : Prop where
  dr : Draws X.prog X.w X.A.in1 it fp xs.length P St
  now : St i s.heap
  val : ∀ j v, P j v → ∃ x, xs[j]? = some x ∧ RelV x v
  at_ : ∀ j h, St j h → LegAt l j h it
  mem : it ∈ fp
  far : ∀ c, FpOk X pins H c → c ≠ it → c ∉ fp
theorem leg_of {l : VL} {i : Nat} {it : Addr} {xs : List V} (I : L2.Inv X pins σ H s) (hc : X.calm = true) (hf : FpOk X pins H it) (x : LegAt l i s.heap it) (hv : VLI X.K H l xs) : ∃ fp P St, LegD X pins H s l i it xs fp P St := by
  have hh : X.A.in1.handled = none := I.ok.hd hc
  cases l with
  | ls a =>
    obtain ⟨its, rv, p, _⟩ := I.list hv
    have hl := rv.length
    have D := Draws.list (prog := X.prog) (w := X.w) hh it a (fp_notL I hv hf) its.toArray
    have e : its.toArray.size = xs.length := by simp [hl]
    rw [e] at D
    refine ⟨_, _, _, D, ⟨x, p.isList⟩, fun j v q => ?_, fun j h q => q.1, by simp, fun c fc hn hm => ?_⟩
    · have q : its[j]? = some v := by simpa using q
      have hj := (List.getElem?_eq_some_iff.mp q).1
      have hx : xs[j]? = some xs[j] := List.getElem?_eq_getElem (by omega)
      obtain ⟨u, hu, ru⟩ := rv.get hx
      rw [q] at hu
      cases hu
      exact ⟨_, hx, ru⟩
    · have hm : c = it ∨ c = a := by simpa using hm
      rcases hm with z | z
      · exact hn z
      · exact fp_notL I hv fc z.symm
  | tp a =>
    obtain ⟨its, rv, p, _⟩ := I.tuple hv
    have hl := rv.length
    have D := Draws.tuple (prog := X.prog) (w := X.w) hh it a (fp_notT I hv hf) its.toArray
    have e : its.toArray.size = xs.length := by simp [hl]
    rw [e] at D
    refine ⟨_, _, _, D, ⟨x, p⟩, fun j v q => ?_, fun j h q => q.1, by simp, fun c fc hn hm => ?_⟩
    · have q : its[j]? = some v := by simpa using q
      have hj := (List.getElem?_eq_some_iff.mp q).1
      have hx : xs[j]? = some xs[j] := List.getElem?_eq_getElem (by omega)
      obtain ⟨u, hu, ru⟩ := rv.get hx
      rw [q] at hu
      cases hu
      exact ⟨_, hx, ru⟩
    · have hm : c = it ∨ c = a := by simpa using hm
      rcases hm with z | z
      · exact hn z
      · exact fp_notT I hv fc z.symm
  | tx z =>
    obtain ⟨t, x⟩ := x
    have D := Draws.text (prog := X.prog) (w := X.w) hh it z t
    have hv : xs = z.cps.toList.map fun c => .str ⟨#[c]⟩ := hv
    have e : z.cps.size = xs.length := by rw [hv]; simp
    rw [e] at D
    refine ⟨_, _, _, D, x, fun j v q => ?_, fun j h q => ⟨t, q⟩, by simp, fun c fc hn hm => ?_⟩
    · obtain ⟨c, u, e1, e2⟩ := q
      refine ⟨.str ⟨#[c]⟩, ?_, u, e2⟩
      rw [hv, List.getElem?_map]
      simp [e1]
    · exact hn (by simpa using hm)
end
end Mn
set_option Elab.async false
set_option linter.all false
set_option maxRecDepth 100000
set_option maxHeartbeats 4000000
/-! Mn13: for .. in zip(a, b), zip(a, b, strict=True). -/
namespace Mn
open PySem PySem.Spec PyProof.Rows L2

def ItZ (K : PySem.W.Frag) (l m : VL) (st : Bool) : It :=
  ⟨fun i H => ∃ (xs ys : List V) (x y : V), VLI K H l xs ∧ VLI K H m ys ∧ xs[i]? = some x ∧ ys[i]? = some y,
    fun i H v H' => ∃ T x y, v = .ref T ∧ H T = none ∧ H' = upd H T (.tup [x, y]) ∧ (∀ xs, VLI K H l xs → xs[i]? = some x) ∧ ∀ ys, VLI K H m ys → ys[i]? = some y,
    fun i H => ∃ xs ys : List V, VLI K H l xs ∧ VLI K H m ys ∧ i ≤ xs.length ∧ i ≤ ys.length ∧ (i = xs.length ∨ i = ys.length) ∧ (st = true → xs.length = i ∧ ys.length = i)⟩
structure Five (z TI TO i1 i2 : Addr) : Prop where
  a : TI ≠ z
  b : TO ≠ z
  c : TI ≠ TO
  d : TI ≠ i1
  e : TI ≠ i2
  f : z ≠ i1
  g : z ≠ i2
  h : TO ≠ i1
  i : TO ≠ i2
  j : i1 ≠ i2
theorem five_of (n : Nat) : Five (n + 4) (n + 2) (n + 3) n (n + 1) := by
  have lt : ∀ i j : Nat, i < j → (n + i : Nat) < n + j := fun i j h => by omega
  exact ⟨Nat.ne_of_lt (lt 2 4 (by decide)), Nat.ne_of_lt (lt 3 4 (by decide)), Nat.ne_of_lt (lt 2 3 (by decide)), Nat.ne_of_gt (lt 0 2 (by decide)), Nat.ne_of_gt (lt 1 2 (by decide)), Nat.ne_of_gt (lt 0 4 (by decide)), Nat.ne_of_gt (lt 1 4 (by decide)), Nat.ne_of_gt (lt 0 3 (by decide)), Nat.ne_of_gt (lt 1 3 (by decide)), Nat.ne_of_lt (lt 0 1 (by decide))⟩
theorem zipZ {P : Program} {w : World} {K : PySem.W.Frag} {elts : List Expr} {kk : Nat} {tpos : Pos} {l m : VL} {st : Bool} {z TI TO i1 i2 : Addr} (D : Five z TI TO i1 i2) :
    Turn P w K (.Tuple elts kk tpos) (ItZ K l m st) [z, TI, TO, i1, i2] z (fun i h => Zp h z TI TO .none st ∧ IsTupOf2 h TI (.ref i1) (.ref i2) ∧ (∃ x y, IsTupOf2 h TO x y) ∧ LegAt l i h i1 ∧ LegAt m i h i2) where
  mem := by simp
  obj := fun i h t c hc => by
    obtain ⟨hz, hI, ⟨x, y, hO⟩, h1, h2⟩ := t
    have q : c = z ∨ c = TI ∨ c = TO ∨ c = i1 ∨ c = i2 := by simpa using hc
    rcases q with rfl | rfl | rfl | rfl | rfl
    · exact ⟨_, hz, fun v q => nomatch q⟩
    · exact ⟨_, hI, fun v q => nomatch q⟩
    · exact ⟨_, hO, fun v q => nomatch q⟩
    · obtain ⟨o, vs, e, d⟩ := h1.obj
      exact ⟨o, e, fun v q => by rw [d] at q; cases q⟩
    · obtain ⟨o, vs, e, d⟩ := h2.obj
      exact ⟨o, e, fun v q => by rw [d] at q; cases q⟩
  keep := fun i h h' t k => by
    obtain ⟨hz, hI, ⟨x, y, hO⟩, h1, h2⟩ := t
    exact ⟨k z (by simp) _ hz, k TI (by simp) _ hI, ⟨x, y, k TO (by simp) _ hO⟩, h1.keep fun o q => k i1 (by simp) o q, h2.keep fun o q => k i2 (by simp) o q⟩
  item := by
    intro X hP hw hK hc i pins s σ H E I hf t hg
    subst hP hw hK
    obtain ⟨hz, hI, ⟨x0, y0, hO⟩, h1, h2⟩ := t
    obtain ⟨xs, ys, x, y, hx, hy, ex, ey⟩ := hg
    have fz := hf z (by simp)
    have fT := hf TO (by simp)
    have g1 := hf i1 (by simp)
    have g2 := hf i2 (by simp)
    obtain ⟨f1, P1, S1, L1⟩ := leg_of I hc g1 h1 hx
    obtain ⟨f2, P2, S2, L2'⟩ := leg_of I hc g2 h2 hy
    have S : ZipSep2 z TI TO i1 i2 f1 f2 := ⟨D.a, D.b, D.c, D.d, L1.mem, L1.far z fz D.f, L1.far TO fT D.h, D.e, L2'.mem, L2'.far z fz D.g, L2'.far TO fT D.i, L2'.far i1 g1 D.j, L1.far i2 g2 D.j.symm⟩
    have hzl : z < s.heap.objs.size := Heap.lt_size hz
    refine zp_next S L1.dr L2'.dr hz hI hO L1.now L2'.now (List.getElem?_eq_some_iff.mp ex).1 (List.getElem?_eq_some_iff.mp ey).1 fun u1 u2 h' tk p1 p2 z' O' s1 s2 hT hk => ?_
    refine ⟨_, rfl, zp_go (s := { s with heap := h', toks := tk }) z' fun h'' z'' sb => ?_⟩
    obtain ⟨x', ex', rx⟩ := L1.val i u1 p1
    obtain ⟨y', ey', ry⟩ := L2'.val i u2 p2
    rw [ex] at ex'
    rw [ey] at ey'
    cases ex'
    cases ey'
    have hT2 : h''.get? s.heap.objs.size = some { cls := .type "tuple", data := .seq #[u1, u2] } := (sb.2 _ (Nat.ne_of_gt hzl)).trans hT
    have new : ObjOk X.prog X.w (upd H s.heap.objs.size (.tup [x, y])) h'' s.heap.objs.size (.tup [x, y]) := ⟨by show 2 ≤ sizeLine; decide, [u1, u2], .cons rx (.cons ry .nil), ⟨_, hT2, rfl, _, rfl⟩⟩
    have I1 : L2.Inv X pins σ (upd H s.heap.objs.size (.tup [x, y])) { s with heap := h'', toks := tk } :=
      I.turnedNew (t' := tk) (ch := [z, TI, TO, i1, i2]) (fun c o hb q => (sb.2 c (fun q' => hb (by simp [q']))).trans (hk c o (fun q' => hb (by simp [q'])) (fun q' => hb (by simp [q'])) (fun q' => hb (by simp [q'])) (fun q' => hb (by simp [q'])) q)) hf (Nat.le_refl _) new
    refine ⟨.ref s.heap.objs.size, _, I1, rfl, ⟨_, x, y, rfl, I.hok.fresh (Nat.le_refl _), rfl, fun l' hl => by rw [VLI.inj I hl hx]; exact ex, fun l' hl => by rw [VLI.inj I hl hy]; exact ey⟩, ⟨z'', ?_, ⟨u1, u2, ?_⟩, ?_, ?_⟩, fun c hcm => ?_⟩
    · exact (sb.2 _ D.a).trans (hk _ _ D.a D.c D.d D.e hI)
    · exact (sb.2 _ D.b).trans O'
    · exact (L1.at_ _ _ s1).keep fun o q => (sb.2 _ D.f.symm).trans q
    · exact (L2'.at_ _ _ s2).keep fun o q => (sb.2 _ D.g.symm).trans q
    · have hlt : c < s.heap.objs.size := by
        have q : c = z ∨ c = TI ∨ c = TO ∨ c = i1 ∨ c = i2 := by simpa using hcm
        rcases q with rfl | rfl | rfl | rfl | rfl
        · exact hzl
        · exact Heap.lt_size hI
        · exact Heap.lt_size hO
        · obtain ⟨o, vs, e, d⟩ := h1.obj; exact Heap.lt_size e
        · obtain ⟨o, vs, e, d⟩ := h2.obj; exact Heap.lt_size e
      rw [upd_ne (Nat.ne_of_lt hlt)]
      exact (hf c hcm).1
  done := by
    intro X hP hw hK hc i pins s σ H E I hf t hg
    subst hP hw hK
    obtain ⟨hz, hI, ⟨x0, y0, hO⟩, h1, h2⟩ := t
    obtain ⟨xs, ys, hx, hy, b1, b2, b3, b4⟩ := hg
    have fz := hf z (by simp)
    have fT := hf TO (by simp)
    have g1 := hf i1 (by simp)
    have g2 := hf i2 (by simp)
    obtain ⟨f1, P1, S1, L1⟩ := leg_of I hc g1 h1 hx
    obtain ⟨f2, P2, S2, L2'⟩ := leg_of I hc g2 h2 hy
    have S : ZipSep2 z TI TO i1 i2 f1 f2 := ⟨D.a, D.b, D.c, D.d, L1.mem, L1.far z fz D.f, L1.far TO fT D.h, D.e, L2'.mem, L2'.far z fz D.g, L2'.far TO fT D.i, L2'.far i1 g1 D.j, L1.far i2 g2 D.j.symm⟩
    exact zp_stop (I.ok.hd hc) S L1.dr L2'.dr hz hI hO L1.now L2'.now b1 b2 b3 b4 fun h' tk hk => ⟨rfl, I.turnedL (t' := tk) (ch := [z, TI, TO, i1, i2]) (fun c o hb q =>
      hk c o (fun q' => hb (by simp [q'])) (fun q' => hb (by simp [q'])) (fun q' => hb (by simp [q'])) (fun q' => hb (by simp [q'])) q) hf⟩
  self := fun A i s Q E t h => zp_self t.1 h

/-! ### the clause -/
def iZp (K : PySem.W.Frag) (st : Bool) (ta : TA) : TI := fun σ H R => ta σ H fun vs H1 => ∃ v u l m xs ys, vs = [v, u] ∧ (match l with | .ls a => v = .ref a | .tp a => v = .ref a | .tx x => v = .str x) ∧ (match m with | .ls a => u = .ref a | .tp a => u = .ref a | .tx x => u = .str x) ∧
  VLI K H1 l xs ∧ VLI K H1 m ys ∧ R (ItZ K l m st) H1
theorem leg_begin {X : Cx} {pins : List (Addr × Obj)} {σ : St} {H : Hp} {s : Shared} {l : VL} {v : V} {u : Value} {xs : List V} (I : L2.Inv X pins σ H s) (rv : RelV v u) (hv : match l with | .ls a => v = .ref a | .tp a => v = .ref a | .tx x => v = .str x) (h : VLI X.K H l xs) :
    ∃ o G, Begins u o G ∧ G s.heap ∧ ∀ h' it, h'.get? it = some o → LegAt l 0 h' it := by
  cases l with
  | ls a =>
    have hv : v = .ref a := hv
    subst hv
    cases rv
    obtain ⟨its, r, p, _⟩ := I.list h
    exact ⟨_, _, begins_list a its.toArray, p.isList, fun h' it e => ⟨_, e, rfl, rfl⟩⟩
  | tp a =>
    have hv : v = .ref a := hv
    subst hv
    cases rv
    obtain ⟨its, r, p, _⟩ := I.tuple h
    exact ⟨_, _, begins_tuple a its.toArray, p, fun h' it e => ⟨_, e, rfl, rfl⟩⟩
  | tx x =>
    have hv : v = .str x := hv
    subst hv
    obtain ⟨t, rfl⟩ := rv
    exact ⟨_, _, begins_text x t, trivial, fun h' it e => ⟨t, _, e, rfl, rfl⟩⟩
theorem zip_walks {X : Cx} {pins : List (Addr × Obj)} {σ : St} {H : Hp} {s : Shared} {elts : List Expr} {kk : Nat} {tpos : Pos} {st : Bool} {v u : V} {v' u' : Value} {l m : VL} {xs ys : List V} {R : It → Hp → Prop} {E : Value → Shared → Prop} (I : L2.Inv X pins σ H s) (rv : RelV v v') (ru : RelV u u')
    (hl : match l with | .ls a => v = .ref a | .tp a => v = .ref a | .tx x => v = .str x) (hm : match m with | .ls a => u = .ref a | .tp a => u = .ref a | .tx x => u = .str x) (hx : VLI X.K H l xs) (hy : VLI X.K H m ys) (q : R (ItZ X.K l m st) H) :
    wpAny (model X.prog X.w) X.A (call (.type "zip") [v', u'] (zkw st)) (fun w s1 => wpAny (model X.prog X.w) X.A (pyIter w) (PIE X pins σ (.Tuple elts kk tpos) R) E s1) E s := by
  obtain ⟨o1, G1, B1, b1, k1⟩ := leg_begin I rv hl hx
  obtain ⟨o2, G2, B2, b2, k2⟩ := leg_begin I ru hm hy
  refine zp_begins B1 B2 b1 b2 fun h' hz hI hO h1 h2 hk => zp_self hz ?_
  have I2 : L2.Inv X pins σ H { s with heap := h' } := I.kept (t' := s.toks) hk
  have F := five_of s.heap.objs.size
  refine ⟨s.heap.objs.size + 4, [s.heap.objs.size + 4, s.heap.objs.size + 2, s.heap.objs.size + 3, s.heap.objs.size, s.heap.objs.size + 1], _, _, H, rfl, I2, zipZ F, ⟨hz, hI, ⟨_, _, hO⟩, k1 h' _ h1, k2 h' _ h2⟩, fun c hcm => ?_, q⟩
  have hle : s.heap.objs.size ≤ c := by
    have e' : c = s.heap.objs.size + 4 ∨ c = s.heap.objs.size + 2 ∨ c = s.heap.objs.size + 3 ∨ c = s.heap.objs.size ∨ c = s.heap.objs.size + 1 := by simpa using hcm
    rcases e' with z | z | z | z | z <;> rw [z] <;> first | exact Nat.le_refl _ | exact Nat.le_add_right _ _
  exact I.fpOk hle (I.hok.fresh hle)
end Mn
set_option Elab.async false
set_option linter.all false
set_option maxRecDepth 100000
set_option maxHeartbeats 4000000
/-! Mn14: zip in our own words. -/
namespace Mn
open PySem PySem.Spec PyProof.Rows L2

def legOf (u : U) (S : Sto) : Option Leg := match u with
  | .str x => some (.tx x)
  | .ref j => match S[j]? with
    | some (.lst _) => some (.ls j)
    | some (.scr _) => some (.ls j)
    | some (.tup _) => some (.tp j)
    | _ => none
  | _ => none
def LegV (ρ : List Addr) : Leg → VL → Prop
  | .ls k, .ls a => ρ[k]? = some a
  | .tp k, .tp a => ρ[k]? = some a
  | .tx x, .tx y => x = y
  | _, _ => False
section
variable {K : PySem.W.Frag} {mg : Str → Option Value} {b ρ : List Addr} {S : Sto} {H : Hp}
theorem leg_vals {l : Leg} {vl : VL} {xs : List U} (r : Rep K mg b ρ S H) (h : LegV ρ l vl) (e : legU l S = some xs) : ∃ vs, RUs mg ρ xs vs ∧ VLI K H vl vs := by
  cases l with
  | ls k =>
    cases vl with
    | ls a => exact listAt_ok r e h
    | tp a => exact h.elim
    | tx x => exact h.elim
  | tp k =>
    cases vl with
    | ls a => exact h.elim
    | tp a => exact tupAt_ok r e h
    | tx x => exact h.elim
  | tx x =>
    cases vl with
    | ls a => exact h.elim
    | tp a => exact h.elim
    | tx y =>
      have h : x = y := h
      subst h
      cases e
      refine ⟨_, ?_, rfl⟩
      generalize x.cps.toList = cs
      induction cs with
      | nil => exact .nil
      | cons c cs ih => exact .cons (.str _) ih
theorem src_zip {l m : Leg} {vl vm : VL} {st : Bool} (hl : LegV ρ l vl) (hm : LegV ρ m vm) : SrcJ K mg b ρ (.zip l m st) (ItZ K vl vm st) := by
  intro ρ' i S H g r
  have up : ∀ {l : Leg} {vl : VL}, LegV ρ l vl → LegV ρ' l vl := fun {l vl} h => by
    cases l <;> cases vl <;> first | exact g.get h | exact h
  unfold nxt
  dsimp only
  cases e1 : legU l S with
  | none => trivial
  | some xs =>
    cases e2 : legU m S with
    | none => trivial
    | some ys =>
      obtain ⟨vs, p1, q1⟩ := leg_vals r (up hl) e1
      obtain ⟨ws, p2, q2⟩ := leg_vals r (up hm) e2
      dsimp only
      have stopped : (xs[i]? = none ∨ ys[i]? = none) → match (if i ≤ xs.length ∧ i ≤ ys.length ∧ (st = true → xs.length = i ∧ ys.length = i) then Nx.stop else Nx.bad) with
          | .stop => (ItZ K vl vm st).stop i H
          | .give u S' => (ItZ K vl vm st).go i H ∧ ∀ x H', (ItZ K vl vm st).yld i H x H' → ∃ ρ'', Gr ρ' ρ'' ∧ Rep K mg b ρ'' S' H' ∧ RU mg ρ'' u x
          | .bad => True := fun hn => by
        split
        · rename_i q
          split at q
          · rename_i hs
            refine ⟨vs, ws, q1, q2, by rw [← paired_len p1]; exact hs.1, by rw [← paired_len p2]; exact hs.2.1, ?_, fun e => ?_⟩
            · rw [← paired_len p1, ← paired_len p2]
              rcases hn with hn | hn
              · exact .inl (by have := List.getElem?_eq_none_iff.mp hn; omega)
              · exact .inr (by have := List.getElem?_eq_none_iff.mp hn; omega)
            · rw [← paired_len p1, ← paired_len p2]
              exact hs.2.2 e
          · cases q
        · rename_i q
          split at q <;> cases q
        · trivial
      cases ex : xs[i]? with
      | none => exact stopped (.inl ex)
      | some u =>
        cases ey : ys[i]? with
        | none => exact stopped (.inr ey)
        | some v =>
          obtain ⟨x, hx, rx⟩ := paired_get p1 ex
          obtain ⟨y, hy, ry⟩ := paired_get p2 ey
          refine ⟨⟨vs, ws, x, y, q1, q2, hx, hy⟩, fun z H' yy => ?_⟩
          obtain ⟨T, x', y', rfl, hT, rfl, k1, k2⟩ := yy
          have e3 := k1 vs q1
          have e4 := k2 ws q2
          rw [hx] at e3
          rw [hy] at e4
          cases e3
          cases e4
          exact ⟨ρ' ++ [T], Gr.snoc _ _, r.tup hT (.cons rx (.cons ry .nil)), r.last T⟩
end
theorem legV_of {K : PySem.W.Frag} {mg : Str → Option Value} {b ρ : List Addr} {S : Sto} {H : Hp} {u : U} {v : V} {l : Leg} (r : Rep K mg b ρ S H) (h : RU mg ρ u v) (e : legOf u S = some l) :
    ∃ vl xs vs, LegV ρ l vl ∧ legU l S = some xs ∧ VLI K H vl vs ∧ (match vl with | .ls a => v = .ref a | .tp a => v = .ref a | .tx x => v = .str x) := by
  unfold legOf at e
  split at e
  · cases e
    cases h
    exact ⟨.tx _, _, _, rfl, rfl, rfl, rfl⟩
  · rename_i j
    split at e
    · rename_i xs ej
      cases e
      cases h with
      | ref ha =>
        have e1 : listAt j S = some xs := by unfold listAt; rw [ej]
        obtain ⟨vs, _, q⟩ := listAt_ok r e1 ha
        exact ⟨.ls _, xs, vs, ha, e1, q, rfl⟩
    · rename_i xs ej
      cases e
      cases h with
      | ref ha =>
        have e1 : listAt j S = some xs := by unfold listAt; rw [ej]
        obtain ⟨vs, _, q⟩ := listAt_ok r e1 ha
        exact ⟨.ls _, xs, vs, ha, e1, q, rfl⟩
    · rename_i xs ej
      cases e
      cases h with
      | ref ha =>
        have e1 : tupAt j S = some xs := by unfold tupAt; rw [ej]
        obtain ⟨vs, _, q⟩ := tupAt_ok r e1 ha
        exact ⟨.tp _, xs, vs, ha, e1, q, rfl⟩
    · cases e
  · cases e
section
variable {k : Nat} {Γ : Gm} {C : Cal}
def zipU (st : Bool) (us : List U) (S : Sto) : Res Src := match us with
  | [u, v] => match legOf u S, legOf v S with
    | some l, some m => .ok (.zip l m st) S
    | _, _ => .bad
  | _ => .bad
def iZip2 (st : Bool) (ms : Ev → Sto → Res (List U)) : Ev → Sto → Res Src := fun env S => bnd (ms env S) fun us S1 => zipU st us S1
theorem boot_zip' : bootBuiltins "zip" = some (.type "zip") := PyProof.Rows.boot_zip
theorem zip_end {X : Cx} {b : List Addr} {σ : St} {W : WX} {R : It → Hp → Prop} {elts : List Expr} {kk : Nat} {tpos : Pos} {st : Bool} {us : List U} {vs : List V} {ρ : List Addr} {S : Sto} {H : Hp} (r : Rep X.K X.mg b ρ S H) (ru : RUs X.mg ρ us vs)
    (hw : wpG X.K X.mg b (SrcJ X.K X.mg b) (zipU st us S) ρ σ W R) : ∀ pins s ws, L2.Inv X pins σ H s → Vals vs ws → wpAny (model X.prog X.w) X.A (call (.type "zip") ws (zkw st)) (fun w s1 => wpAny (model X.prog X.w) X.A (pyIter w) (PIE X pins σ (.Tuple elts kk tpos) R) X.xe s1) X.xe s := by
  intro pins s ws I rv
  unfold zipU at hw
  split at hw
  rotate_left
  · exact hw.elim
  rename_i u v ru
  obtain ⟨x, y, rfl, r1, r2⟩ := ru2 ru
  obtain ⟨q1, q2, rfl, t1, t2⟩ := vals2 rv
  split at hw
  rotate_left
  · exact hw.elim
  rename_i l m el em
  obtain ⟨vl, xs, as, h1, _, h3, h4⟩ := legV_of r r1 el
  obtain ⟨vm, ys, bs, g1, _, g3, g4⟩ := legV_of r r2 em
  exact zip_walks I t1 t2 h4 g4 h3 g3 (hw ρ H _ (Gr.refl _) r (src_zip h1 g1))
theorem si_zip {elts : List Expr} {kk : Nat} {tpos : Pos} {e f : Expr} {p pos : Pos} {ms : Ev → Sto → Res (List U)} (hg : glbB Γ.sc "zip" = true) (hb : ("zip" : Str) ∈ C.bi) (h : SA k Γ C [e, f] ms) (hp : [e, f].all plainE = true) :
    SI k Γ C (.Tuple elts kk tpos) (.Call (.Name "zip" p) [e, f] [] pos) (iZip2 false ms) := by
  refine ⟨?_⟩
  intro X b ok cal W tk σ H ρ env S R er r hw pins s I
  rw [List.all_cons, Bool.and_eq_true] at hp
  refine wpAny_Call_Name_kw (ld_blt I (gl_of ok hg) (cal.bi _ hb) boot_zip' ?_ (by decide) (by decide))
  refine PyProof.Rows.callWith_type1 (thn (h.run X b ok cal W tk σ H ρ env S (fun vs H1 => ∀ pins s ws, L2.Inv X pins σ H1 s → Vals vs ws → wpAny (model X.prog X.w) X.A (call (.type "zip") ws (zkw false)) (fun w s1 => wpAny (model X.prog X.w) X.A (pyIter w) (PIE X pins σ (.Tuple elts kk tpos) R) X.xe s1) X.xe s) er r
    (wpG.bnd hw fun us S1 _ ρ1 H1 vs g1 r1 ru h1 => zip_end r1 ru h1) pos pins s I) fun us s1 ⟨vs, H1, I1, rv, q1⟩ => q1 pins s1 us I1 rv) (star_cons hp.1) (star_any hp.2)
theorem callT_kw {M : Model} {A : Around} {E : Value → Shared → Prop} {s : Shared} {pos : Pos} {T : String} {args : List (Bool × Sem Value)} {keywords : List (Option Str × Sem Value)} {Q : Value → Shared → Prop} (hp : args.any (·.1) = false) (hk : keywords.any (·.1.isNone) = false)
    (h : wpAny M A (evalArgs (.type T) true args keywords) (fun a s₁ => wpAny M A (call (.type T) ([] ++ a.pos) a.kw) Q E s₁) E s) : wpAny M A (callWith pos (.type T) [] args keywords) Q E s := by
  unfold callWith
  refine wpAny_bind (wpAny_holding (wpAny_mono h (fun a s1 h1 => wpAny_bind (wpAny_standAt ?_)) fun _ _ x => x))
  simp only [hp, hk, Bool.or_false]
  exact wpAny_bind (wpAny_pure (wpAny_bind (wpAny_mono h1 (fun r s2 hr => wpAny_bind (wpAny_holding (wpAny_point (wpAny_pure hr)))) fun _ _ x => x)))
theorem si_zipS {elts : List Expr} {kk : Nat} {tpos : Pos} {e f : Expr} {p pos cp kp : Pos} {j : Nat} {ms : Ev → Sto → Res (List U)} (hg : glbB Γ.sc "zip" = true) (hb : ("zip" : Str) ∈ C.bi) (h : SA k Γ C [e, f] ms) (hp : [e, f].all plainE = true) :
    SI k Γ C (.Tuple elts kk tpos) (.Call (.Name "zip" p) [e, f] [⟨some "strict", .Constant (.bool true) j cp, kp⟩] pos) (iZip2 true ms) := by
  refine ⟨?_⟩
  intro X b ok cal W tk σ H ρ env S R er r hw pins s I
  have hp' := hp
  rw [List.all_cons, Bool.and_eq_true] at hp'
  refine wpAny_Call_Name_kw (ld_blt I (gl_of ok hg) (cal.bi _ hb) boot_zip' ?_ (by decide) (by decide))
  refine callT_kw (star_any hp) rfl ?_
  have e0 : backTo pos (starEach [e, f] X.env) = (false, eval e X.env) :: backTo pos (starEach [f] X.env) := by rw [star_cons hp'.1]; rfl
  have hA := h.run X b ok cal W tk σ H ρ env S (fun vs H1 => ∀ pins s ws, L2.Inv X pins σ H1 s → Vals vs ws → wpAny (model X.prog X.w) X.A (call (.type "zip") ws (zkw true)) (fun w s1 => wpAny (model X.prog X.w) X.A (pyIter w) (PIE X pins σ (.Tuple elts kk tpos) R) X.xe s1) X.xe s) er r
    (wpG.bnd hw fun us S1 _ ρ1 H1 vs g1 r1 ru h1 => zip_end r1 ru h1) pos pins s I
  rw [e0] at hA ⊢
  refine PyProof.Rows.evalArgs_kwB rfl (thn hA fun us s1 ⟨vs, H1, I1, rv, q1⟩ => PyProof.Rows.kws_cons (wpAny_Constant_bool (PyProof.Rows.kws_nil ?_)))
  exact q1 pins s1 us I1 rv
end
end Mn
set_option Elab.async false
set_option linter.all false
set_option maxRecDepth 100000
set_option maxHeartbeats 4000000
/-! Mn15: f-strings, dict displays, dicts of the top, functions that a name holds, what is out of reach. -/
namespace Mn
open PySem PySem.Spec PyProof.Rows L2

section
variable {k : Nat} {Γ : Gm} {C : Cal} {lp : Bool}
/-! ### out of reach -/
theorem se_bad {e : Expr} : SE k Γ C e fun _ _ => .bad := ⟨fun X b ok cal W tk σ H ρ env S Q er r hw => False.elim hw⟩
theorem ss_bad {st : Stmt} : SS k Γ C lp st fun _ _ => .bad := ⟨fun X b ok cal l W tk σ H ρ env S Q er r hw => False.elim hw⟩

/-! ### f'..' -/
def fmtU (u : U) (S : Sto) : Res U := match u with
  | .str x => if x.length ≤ LIM then .ok (.str x) S else .bad
  | .int i => if i.natAbs.log2 < 1920 then .ok (.str (toString i)) S else .bad
  | _ => .bad
def mFmt (m : Ev → Sto → Res U) : Ev → Sto → Res U := fun env S => bnd (m env S) fmtU
theorem se_fmt {e : Expr} {pos : Pos} {m : Ev → Sto → Res U} (h : SE k Γ C e m) : SE k Γ C (.FormattedValue e (-1) none pos) (mFmt m) := by
  refine ⟨?_⟩
  intro X b ok cal W tk σ H ρ env S Q er r hw
  refine PE.max (pe_fmt (pe_tE X e)) ?_
  refine h.run X b ok cal W tk σ H ρ env S _ er r (wpG.bnd hw fun u S1 _ ρ1 H1 x g1 r1 ru h1 => ?_)
  unfold fmtU at h1
  split at h1
  · cases ru
    split at h1
    · rename_i hl
      exact .inl ⟨_, rfl, lim_line hl, h1 ρ1 H1 _ (Gr.refl _) r1 (.str _)⟩
    · exact h1.elim
  · cases ru
    split at h1
    · rename_i hl
      exact .inr ⟨_, rfl, hl, h1 ρ1 H1 _ (Gr.refl _) r1 (.str _)⟩
    · exact h1.elim
  · exact h1.elim
/-- the texts one behind the other -/
structure SJ (k : Nat) (Γ : Gm) (C : Cal) (es : List Expr) (m : Str → Ev → Sto → Res Str) : Prop where
  run : ∀ X b, OkX k Γ X → CalOk k X b C → ∀ W, Takes X W → ∀ acc σ H ρ env S Q, EnvR X.mg ρ env σ → Rep X.K X.mg b ρ S H →
  wpG X.K X.mg b (fun _ x y => x = y) (m acc env S) ρ σ W Q → tJs (es.map (tE X)) acc σ H Q
def jNil : Str → Ev → Sto → Res Str := fun acc _ S => .ok acc S
def jCons (m : Ev → Sto → Res U) (ms : Str → Ev → Sto → Res Str) : Str → Ev → Sto → Res Str := fun acc env S => bnd (m env S) fun u S1 => match u with
  | .str y => if (acc ++ y).length ≤ LIM then ms (acc ++ y) env S1 else .bad
  | _ => .bad
theorem sj_nil : SJ k Γ C [] jNil := ⟨fun X b ok cal W tk acc σ H ρ env S Q er r hw => hw ρ H acc (Gr.refl _) r rfl⟩
theorem sj_cons {e : Expr} {es : List Expr} {m : Ev → Sto → Res U} {ms : Str → Ev → Sto → Res Str} (h : SE k Γ C e m) (h' : SJ k Γ C es ms) : SJ k Γ C (e :: es) (jCons m ms) := by
  refine ⟨?_⟩
  intro X b ok cal W tk acc σ H ρ env S Q er r hw
  show tE X e σ H _
  refine h.run X b ok cal W tk σ H ρ env S _ er r (wpG.bnd hw fun u S1 _ ρ1 H1 x g1 r1 ru h1 => ?_)
  split at h1
  · cases ru
    split at h1
    · rename_i hl
      exact ⟨_, rfl, lim_line hl, h'.run X b ok cal W tk _ σ H1 ρ1 env S1 Q (er.up g1) r1 h1⟩
    · exact h1.elim
  · exact h1.elim
theorem pj_all (X : Cx) : ∀ es : List Expr, PJ X es (es.map (tE X))
  | [] => .nil
  | e :: es => .cons (pe_tE X e) (pj_all X es)
def mJo (ms : Str → Ev → Sto → Res Str) : Ev → Sto → Res U := fun env S => bnd (ms Str.empty env S) fun x S1 => .ok (.str x) S1
theorem se_joined {v1 v2 : Expr} {rest : List Expr} {pos : Pos} {ms : Str → Ev → Sto → Res Str} (h : SJ k Γ C (v1 :: v2 :: rest) ms) : SE k Γ C (.JoinedStr (v1 :: v2 :: rest) pos) (mJo ms) := by
  refine ⟨?_⟩
  intro X b ok cal W tk σ H ρ env S Q er r hw
  refine PE.max (pe_joined (pj_all X _)) ?_
  refine h.run X b ok cal W tk Str.empty σ H ρ env S _ er r (wpG.bnd hw fun x S1 _ ρ1 H1 y g1 r1 e1 h1 => ?_)
  subst e1
  exact h1 ρ1 H1 _ (Gr.refl _) r1 (.str _)
theorem se_joined1 {e : Expr} {pos : Pos} {m : Ev → Sto → Res U} (h : SE k Γ C e m) : SE k Γ C (.JoinedStr [e] pos) m := ⟨fun X b ok cal W tk σ H ρ env S Q er r hw =>
  PE.max (pe_joined1 (pe_tE X e)) (h.run X b ok cal W tk σ H ρ env S Q er r hw)⟩

/-! ### {k: v, ..} -/
abbrev RPP (mg : Str → Option Value) (ρ : List Addr) : List (U × U) → List (V × V) → Prop := Paired fun p q => RU mg ρ p.1 q.1 ∧ RU mg ρ p.2 q.2
structure SD (k : Nat) (Γ : Gm) (C : Cal) (keys : List (Option Expr)) (values : List Expr) (m : Ev → Sto → Res (List (U × U))) : Prop where
  run : ∀ X b, OkX k Γ X → CalOk k X b C → ∀ W, Takes X W → ∃ trs, (∀ pos, PPs X pos keys values trs) ∧
  ∀ σ H ρ env S Q, EnvR X.mg ρ env σ → Rep X.K X.mg b ρ S H → wpG X.K X.mg b (RPP X.mg) (m env S) ρ σ W Q → tPairs trs σ H Q
def dNil : Ev → Sto → Res (List (U × U)) := fun _ S => .ok [] S
def dCons (mk mv : Ev → Sto → Res U) (ms : Ev → Sto → Res (List (U × U))) : Ev → Sto → Res (List (U × U)) := fun env S => bnd (mk env S) fun u S1 => bnd (mv env S1) fun v S2 => bnd (ms env S2) fun ps S3 => .ok ((u, v) :: ps) S3
theorem sd_nil : SD k Γ C [] [] dNil := ⟨fun X b ok cal W tk => ⟨[], fun _ => pps_nil, fun σ H ρ env S Q er r hw => hw ρ H [] (Gr.refl _) r .nil⟩⟩
theorem sd_cons {e f : Expr} {ks : List (Option Expr)} {vs : List Expr} {mk mv : Ev → Sto → Res U} {ms : Ev → Sto → Res (List (U × U))} (h1 : SE k Γ C e mk) (h2 : SE k Γ C f mv) (h3 : SD k Γ C ks vs ms) : SD k Γ C (some e :: ks) (f :: vs) (dCons mk mv ms) := by
  refine ⟨?_⟩
  intro X b ok cal W tk
  obtain ⟨trs, p, q⟩ := h3.run X b ok cal W tk
  refine ⟨(tE X e, tE X f) :: trs, fun pos => pps_cons (pe_tE X e) (pe_tE X f) (p pos), fun σ H ρ env S Q er r hw => ?_⟩
  refine h1.run X b ok cal W tk σ H ρ env S _ er r (wpG.bnd hw fun u S1 _ ρ1 H1 x g1 r1 ru w1 => ?_)
  refine h2.run X b ok cal W tk σ H1 ρ1 env S1 _ (er.up g1) r1 (wpG.bnd w1 fun v S2 _ ρ2 H2 y g2 r2 rv w2 => ?_)
  refine q σ H2 ρ2 env S2 _ ((er.up g1).up g2) r2 (wpG.bnd w2 fun ps S3 _ ρ3 H3 zs g3 r3 rz w3 => ?_)
  exact w3 ρ3 H3 _ (Gr.refl _) r3 (.cons ⟨(ru.up g2).up g3, rv.up g3⟩ rz)
def keysOf : List (U × U) → Option (List (Key × U))
  | [] => some []
  | (u, v) :: r => match keyU u, keysOf r with
    | some key, some l => some ((key, v) :: l)
    | _, _ => none
theorem keysOf_ok {mg : Str → Option Value} {ρ : List Addr} : ∀ {ps : List (U × U)} {qs : List (V × V)} {kvs : List (Key × U)}, RPP mg ρ ps qs → keysOf ps = some kvs → ∃ ks : List (Key × V), qs = ks.map (fun kv => (kV kv.1, kv.2)) ∧ RP mg ρ kvs ks
  | [], _, _, h, e => by cases h; cases e; exact ⟨[], rfl, .nil⟩
  | (u, v) :: ps, _, kvs, h, e => by
    cases h with
    | cons r t =>
      rename_i q qs
      unfold keysOf at e
      split at e
      · rename_i key l e1 e2
        cases e
        obtain ⟨ks, rfl, rk⟩ := keysOf_ok t e2
        have e3 := key_v r.1 e1
        refine ⟨(key, q.2) :: ks, ?_, .cons ⟨rfl, r.2⟩ rk⟩
        obtain ⟨q1, q2⟩ := q
        have e3 : q1 = kV key := e3
        rw [e3]
        rfl
      · cases e
def mDict (m : Ev → Sto → Res (List (U × U))) : Ev → Sto → Res U := fun env S => bnd (m env (S ++ [.dct []])) fun ps S2 => match S2[S.length]?, keysOf ps with
  | some (.dct []), some kvs => if kvs.length ≤ 15 then .ok (.ref S.length) (S2.set S.length (.dct (mergeU [] kvs))) else .bad
  | _, _ => .bad
theorem se_dict {keys : List (Option Expr)} {values : List Expr} {pos : Pos} {m : Ev → Sto → Res (List (U × U))} (h : SD k Γ C keys values m) (h1 : keys.all (·.isSome) = true) (h2 : keys.length = values.length) (h3 : keys.isEmpty = false) (h4 : keys.length ≤ 15) :
    SE k Γ C (.Dict keys values pos) (mDict m) := by
  refine ⟨?_⟩
  intro X b ok cal W tk σ H ρ env S Q er r hw
  obtain ⟨trs, p, q⟩ := h.run X b ok cal W tk
  refine PE.max (pe_disp (p pos) h1 h2 (by rintro rfl; cases h3) h4) ?_
  intro D hD
  have r1 := r.dct hD (xs := []) (vs := []) .nil
  have hDr : (ρ ++ [D])[S.length]? = some D := by rw [← r.len]; exact last_get ρ D
  refine q σ _ (ρ ++ [D]) env _ _ (er.up (Gr.snoc ρ D)) r1 ?_
  refine wpG.bnd (wpG.up (Gr.snoc ρ D) hw) fun ps S2 _ ρ2 H2 qs g2 r2 rq w2 => ?_
  split at w2
  · rename_i kvs ej ek
    split at w2
    · rename_i hl
      obtain ⟨ks, rfl, rk⟩ := keysOf_ok rq ek
      obtain ⟨zs, z1, z2⟩ := r2.ob _ _ D ej (g2.get hDr)
      cases z1
      refine ⟨z2, ks, rfl, by rw [← paired_len rk]; exact hl, ?_⟩
      exact w2 ρ2 _ _ (Gr.refl _) (r2.put ej (g2.get hDr) rfl rfl ⟨_, mergeU_pair rk .nil, upd_same⟩) (.ref (g2.get hDr))
    · exact w2.elim
  · exact w2.elim
theorem se_dict0 {pos : Pos} : SE k Γ C (.Dict [] [] pos) fun _ S => .ok (.ref S.length) (S ++ [.dct []]) := by
  refine ⟨?_⟩
  intro X b ok cal W tk σ H ρ env S Q er r hw
  refine PE.max pe_dnewK ?_
  exact fun p hp => hw _ _ _ (Gr.snoc ρ p) (r.dct hp .nil) (r.last p)

/-! ### a dict of the top -/
def mKGet (kvs : List (Str × U)) (m : Ev → Sto → Res U) : Ev → Sto → Res U := fun env S => bnd (m env S) fun u S1 => match u with
  | .str z => opR (kvs.lookup z) S1
  | _ => .bad
/-- the name of such a dict -/
theorem kd_name {X : Cx} {b : List Addr} {x : Str} {p : Pos} {kvs : List (Str × U)} (ok : OkX k Γ X) (cal : CalOk k X b C) (hk : C.kd x = some kvs) (hg : glbB Γ.sc x = true) (hd : (x == ("__debug__" : Str)) = false) :
    ∃ d es n, KDict X.K X.w d es n ∧ (∀ z, (match kvs.lookup z with
      | some u => ∃ val v, PySem.W.nsIn X.K d z = some (some val) ∧ RelV v val ∧ RU X.mg b u v
      | none => PySem.W.nsIn X.K d z = some none)) ∧ ∀ σ H Q, Q (V.ref d) H → tE X (.Name x p) σ H Q := by
  obtain ⟨d, es, n, h1, h2, h3⟩ := cal.kd x kvs hk
  exact ⟨d, es, n, h2, h3, fun σ H Q q => PE.max (pe_glob (v := .ref d) (gl_of ok hg) h1 rfl hd) q⟩
theorem se_kget {x : Str} {e : Expr} {p pos : Pos} {kvs : List (Str × U)} {m : Ev → Sto → Res U} (hk : C.kd x = some kvs) (h : SE k Γ C e m) (hg : glbB Γ.sc x = true) (hs : notSl e = true) (hd : (x == ("__debug__" : Str)) = false := by decide) : SE k Γ C (.Subscript (.Name x p) e pos) (mKGet kvs m) := by
  refine ⟨?_⟩
  intro X b ok cal W tk σ H ρ env S Q er r hw
  obtain ⟨d, es, n, D, look, nm⟩ := kd_name (p := p) ok cal hk hg hd
  refine PE.max (pe_ix ix_kdict (pe_tE X (.Name x p)) (pe_tE X e) (plain_ix hs)) ?_
  refine nm σ H _ ?_
  refine h.run X b ok cal W tk σ H ρ env S _ er r (wpG.bnd hw fun u S1 _ ρ1 H1 y g1 r1 ru h1 => ?_)
  split at h1
  · rename_i z _
    cases ru
    have l := look z
    cases e' : kvs.lookup z with
    | none => rw [e'] at h1; exact h1.elim
    | some u =>
      rw [e'] at h1 l
      obtain ⟨val, v, l1, l2, l3⟩ := l
      exact ⟨d, z, v, rfl, rfl, ⟨es, n, val, D.at_, D.lit, l1, l2⟩, h1 ρ1 H1 v (Gr.refl _) r1 (l3.up r1.base)⟩
  · exact h1.elim
def mKIn (kvs : List (Str × U)) (ng : Bool) (m : Ev → Sto → Res U) : Ev → Sto → Res Bool := fun env S => bnd (m env S) fun u S1 => match u with
  | .str z => .ok ((kvs.lookup z).isSome != ng) S1
  | _ => .bad
def opK (ng : Bool) : CmpOp := if ng = true then .NotIn else .In
theorem kin_cmp {X : Cx} {d : Addr} {es : Array DictEntry} {n : Nat} {H : Hp} {z : Str} {r : Option Value} (D : KDict X.K X.w d es n) (ng : Bool) (e : PySem.W.nsIn X.K d z = some r) : CmpIs X (opK ng) (.str z) (.ref d) H (r.isSome != ng) := by
  intro pins s σ v u Q I rx ry q
  cases ng with
  | false =>
    refine op_in_kd D pins s σ H _ _ v u Q I rx ry ⟨z, r, rfl, rfl, e, ?_⟩
    rw [Bool.bne_false] at q
    exact q
  | true =>
    refine op_notIn_kd D pins s σ H _ _ v u Q I rx ry ⟨z, r, rfl, rfl, e, ?_⟩
    rw [Bool.bne_true] at q
    exact q
theorem kin_core {x : Str} {e : Expr} {p : Pos} {kvs : List (Str × U)} {ng : Bool} {m : Ev → Sto → Res U} (hk : C.kd x = some kvs) (h : SE k Γ C e m) (hg : glbB Γ.sc x = true) (hd : (x == ("__debug__" : Str)) = false) {X : Cx} {b : List Addr} (ok : OkX k Γ X) (cal : CalOk k X b C) {W : WX} (tk : Takes X W)
    {σ : St} {H : Hp} {ρ : List Addr} {env : Ev} {S : Sto} {Q : VK} (er : EnvR X.mg ρ env σ) (r : Rep X.K X.mg b ρ S H) (hw : wpT X.K X.mg b (mKIn kvs ng m env S) ρ σ W fun t H => Q (.bl t) H) : tOp (rC X (opK ng)) (tE X e) (tE X (.Name x p)) σ H Q := by
  obtain ⟨d, es, n, D, look, nm⟩ := kd_name (p := p) ok cal hk hg hd
  refine h.run X b ok cal W tk σ H ρ env S _ er r (wpG.bnd hw fun u S1 _ ρ1 H1 y g1 r1 ru h1 => ?_)
  split at h1
  · rename_i z _
    cases ru
    refine nm σ H1 _ ?_
    have l := look z
    cases e' : kvs.lookup z with
    | none =>
      rw [e'] at h1 l
      exact ⟨_, kin_cmp D ng l, h1 ρ1 H1 _ (Gr.refl _) r1 rfl⟩
    | some u =>
      rw [e'] at h1 l
      obtain ⟨val, v, l1, l2, l3⟩ := l
      exact ⟨_, kin_cmp D ng l1, h1 ρ1 H1 _ (Gr.refl _) r1 rfl⟩
  · exact h1.elim
theorem se_kin {x : Str} {e : Expr} {p pos : Pos} {kvs : List (Str × U)} {m : Ev → Sto → Res U} (ng : Bool) (hk : C.kd x = some kvs) (h : SE k Γ C e m) (hg : glbB Γ.sc x = true) (hd : (x == ("__debug__" : Str)) = false := by decide) : SE k Γ C (.Compare e [opK ng] [.Name x p] pos) (toB (mKIn kvs ng m)) := by
  refine ⟨?_⟩
  intro X b ok cal W tk σ H ρ env S Q er r hw
  exact PE.max (pe_cmpR (rC_op X (opK ng)) (pe_tE X e) (pe_tE X (.Name x p)) (not_behind rfl)) (kin_core hk h hg hd ok cal tk er r (wp_toB hw))
theorem st_kin {x : Str} {e : Expr} {p pos : Pos} {kvs : List (Str × U)} {m : Ev → Sto → Res U} (ng : Bool) (hk : C.kd x = some kvs) (h : SE k Γ C e m) (hg : glbB Γ.sc x = true) (hd : (x == ("__debug__" : Str)) = false := by decide) : ST k Γ C (.Compare e [opK ng] [.Name x p] pos) (mKIn kvs ng m) := by
  refine ⟨?_⟩
  intro X b ok cal W tk σ H ρ env S Q er r hw
  refine PT.max (pt_cmpR (rC_op X (opK ng)) (pe_tE X e) (pe_tE X (.Name x p)) (not_behind rfl)) (kin_core (Q := fun x H' => ∃ t, x = .bl t ∧ Q t H') hk h hg hd ok cal tk er r ?_)
  exact wpG.mono hw fun t H' q => ⟨t, rfl, q⟩

/-! ### a function that a name holds -/
def mCallV (C : Cal) (i : Nat) (ms : Ev → Sto → Res (List U)) : Ev → Sto → Res U := fun env S => match env[i]? with
  | some (some (.fn y)) => match C.fn y with
    | some (n, g) => mCall g n ms env S
    | none => .bad
  | _ => .bad
theorem se_callV {i : Nat} {x : Str} {p pos : Pos} {e : Expr} {es : List Expr} {ms : Ev → Sto → Res (List U)} (hN : Γ.N[i]? = some x) (hv : visB Γ.sc x = true) (hd : (x == ("__debug__" : Str)) = false) (hc : (x == ("__classdict__" : Str)) = false) (h : SA k Γ C (e :: es) ms) (hp : (e :: es).all plainE = true) :
    SE k Γ C (.Call (.Name x p) (e :: es) [] pos) (mCallV C i ms) := by
  refine ⟨?_⟩
  intro X b ok cal W tk σ H ρ env S Q er r hw pins s I
  unfold mCallV at hw
  split at hw
  rotate_left
  · exact hw.elim
  rename_i y ey
  split at hw
  rotate_left
  · exact hw.elim
  rename_i n g eg
  obtain ⟨v, h1, h2⟩ := er.2 i _ ey
  obtain ⟨f, fd, ps, hm, hk, hb, hn, F⟩ := cal.fn y n g eg
  cases h2 with
  | fn hm' =>
  rw [hm] at hm'
  cases hm'
  rw [List.all_cons, Bool.and_eq_true] at hp
  refine wpAny_Call_Name_kw ?_
  refine thn ((pe_var (i := i) (by rw [ok.n]; exact hN) (by rw [ok.sc]; exact vis_of hv) hd hc).run pins s σ H (fun w H' => w = .ref f ∧ H' = H) I ⟨_, h1, rfl, rfl⟩) fun w s0 ⟨wv, H0, I0, rw0, e1, e2⟩ => ?_
  subst e1 e2
  cases rw0
  refine PySem.W.callWith_K (h₀ := X.base) I0.ok.mod.kin hk (thn (h.run X b ok cal W tk σ _ ρ env S (fun vs H1 => ∀ pins s ws, L2.Inv X pins σ H1 s → Vals vs ws → wpAny (model X.prog X.w) X.A (call (.ref f) ws) (EP X pins σ Q) X.xe s) er r
    (wpG.bnd hw fun us S1 _ ρ1 H1 vs g1 r1 ru h1 => ?_) pos pins s0 I0) fun ws s1 ⟨vs, H1, I1, rv, q1⟩ => ⟨I1.kIn, q1 pins s1 ws I1 rv⟩) (star_cons hp.1) (star_any hp.2)
  split at h1
  · rename_i hl
    exact fun pins s ws I rv => run_fnG ok tk hb hn F I rv r1 ru hl h1
  · exact h1.elim
end
end Mn
set_option Elab.async false
set_option linter.all false
set_option maxRecDepth 100000
set_option maxHeartbeats 4000000
/-! Mn16: what a def of ours promises; the end of a law. -/
namespace Mn
open PySem PySem.Spec PyProof.Rows L2

/-- what is known by name, told of the module alone -/
structure CalB (P : Program) (w : World) (K : PySem.W.Frag) (mg : Str → Option Value) (base : Heap) (k : Nat) (b : List Addr) (C : Cal) : Prop where
  fn : ∀ x n g, C.fn x = some (n, g) → ∃ (f : Addr) (fd : FuncData) (ps : List Str), mg x = some (.ref f) ∧ PySem.W.keepIn K (.ref f) = true ∧ Binds K fd ps [] ∧ ps.length = n ∧ FnG P w K mg base k f fd ps (spOf K mg b n g)
  gl : ∀ x u, C.gl x = some u → ∃ v val, mg x = some val ∧ RelV v val ∧ RU mg b u v
  bi : ∀ x, x ∈ C.bi → mg x = none
  kd : ∀ x kvs, C.kd x = some kvs → ∃ d es n, mg x = some (.ref d) ∧ KDict K w d es n ∧ ∀ z, (match kvs.lookup z with
    | some u => ∃ val v, PySem.W.nsIn K d z = some (some val) ∧ RelV v val ∧ RU mg b u v
    | none => PySem.W.nsIn K d z = some none)
def startE (N : List Str) (us : List U) : Ev := us.map some ++ List.replicate (N.length - us.length) none
theorem startE_ok {mg : Str → Option Value} {ρ : List Addr} {N : List Str} {us : List U} {vs : List V} (h : RUs mg ρ us vs) : EnvR mg ρ (startE N us) (L2.start N vs) := by
  have hl := paired_len h
  refine ⟨by simp [startE, L2.start, hl], fun i u e => ?_⟩
  unfold startE at e
  unfold L2.start
  by_cases hi : i < us.length
  · rw [List.getElem?_append_left (by simpa using hi), List.getElem?_map] at e
    cases e1 : us[i]? with
    | none => rw [e1] at e; cases e
    | some u' =>
      rw [e1] at e
      cases e
      obtain ⟨v, e2, r⟩ := paired_get h e1
      exact ⟨v, by rw [List.getElem?_append_left (by rw [List.length_map]; omega), List.getElem?_map, e2]; rfl, r⟩
  · rw [List.getElem?_append_right (by simpa using hi)] at e
    rw [List.getElem?_replicate] at e
    split at e <;> cases e
/-- a body as a function -/
def runB (N : List Str) (m : Ev → Sto → SRes) : List U → Sto → Res U := fun us S => match m (startE N us) S with
  | .nx _ S1 => .ok .non S1
  | .rt u S1 => .ok u S1
  | .exc x _ S1 => .exc x S1
  | _ => .bad
def gmOf (N : List Str) (scope : Scope) : Gm := ⟨N, scope, fun _ => true⟩
theorem fnG_of {P : Program} {w : World} {K : PySem.W.Frag} {mg : Str → Option Value} {base : Heap} {k : Nat} {b : List Addr} {C : Cal} {f : Addr} {name qual : Str} {params : Arguments} {body : List Stmt} {scope : Scope} {dV kV doc pm cdv ct oc : Value} {an od : Option Addr}
    {osl : Array (Option Value)} {N ps : List Str} {m : Ev → Sto → SRes} (lk : K.lookup f = some ⟨oc, od, .func (PySem.W.fnOf name qual params body scope dV kV doc pm an cdv ct), osl⟩) (hcd : PySem.W.codeIn K cdv qual = true) (F : FnScope N ps scope)
    (cal : CalB P w K mg base k b C) (hb : SB k (gmOf N scope) C true body m) : FnG P w K mg base (k + 1) f (PySem.W.fnOf name qual params body scope dV kV doc pm an cdv ct) ps (spOf K mg b ps.length (runB N m)) := by
  refine ⟨fun vs H Q E h => h.1, fun A outer s H args us vs Q E hr gd e0 bt rv hsp => ?_⟩
  obtain ⟨hl, ρ, S, ws, rp, rw', hw⟩ := hsp
  have KX : K.In s.heap := e0.mod.kin.keeps fun b o e => (e0.bs b o e).1
  have lim : s.heap.NoLimit := e0.mod.nolimit.keeps fun b o e => (e0.bs b o e).1
  have hkind : ∀ y ∈ ps.zip us, scope.names.lookup y.1 = some .local ∨ (scope.names.lookup y.1 = some .cell ∧ ((cellsFrom (s.heap.objs.size + 1) scope.names []).lookup y.1).isSome = true) := fun ⟨n, v⟩ hy => by
    rcases F.par n (List.of_mem_zip hy).1 with q | q
    · exact .inl q
    · exact .inr ⟨q, PySem.W.cellsFrom_some _ _ _ (.inl q)⟩
  refine codeAny_call_function hr.depth (KX _ _ lk) rfl F.co F.gen rfl (PySem.W.codeRec_of KX hcd) (bt _ _ _ _ (wpAny_newFunctionEnv_cells F.kind hkind fun env he s1 x => ?_))
  subst he
  refine ⟨lim.keeps x.toInCall.keep, codeAny_func ?_⟩
  have I : L2.Inv (cxOf (L2.CX P w) P w K mg base N qual scope f cdv A outer s H E) [] (L2.start N vs) H s1 := inv_start F hr.hd e0 hl rv x
  generalize hX : cxOf (L2.CX P w) P w K mg base N qual scope f cdv A outer s H E = X at I
  have hP : X.prog = P := by rw [← hX]; rfl
  have ok : OkX k (gmOf N scope) X := by
    rw [← hX]
    exact ⟨rfl, F.nd, rfl, fun _ _ => rfl, rfl, hr.deeper _, gd⟩
  have cok : CalOk k X b C := by
    rw [← hX]
    exact ⟨cal.fn, cal.gl, cal.bi, cal.kd⟩
  have tk : Takes X (fun cls d _ H => E cls d H) := by
    rw [← hX]
    exact takes_of rfl rfl rfl rfl
  have lp : Lp true X := fun _ => by
    rw [← hX]
    exact passes_of rfl
  have rp' : Rep X.K X.mg b ρ S H := by rw [← hX]; exact rp
  have er : EnvR X.mg ρ (startE N ws) (L2.start N vs) := by rw [← hX]; exact startE_ok rw'
  have hS : wpS X.K X.mg b (m (startE N ws) S) ρ (fun cls d _ H => E cls d H) { nx := fun _ H' => Q .non H', rt := Q } := by
    rw [← hX]
    unfold runB at hw
    cases e : m (startE N ws) S with
    | nx env1 S1 => rw [e] at hw; exact fun ρ1 σ1 H1 g1 _ r1 => hw ρ1 H1 .non g1 r1 .non
    | rt u S1 => rw [e] at hw; exact fun ρ1 H1 v g1 r1 ru => hw ρ1 H1 v g1 r1 ru
    | bk env1 S1 => rw [e] at hw; exact hw.elim
    | ct env1 S1 => rw [e] at hw; exact hw.elim
    | exc y env1 S1 => rw [e] at hw; exact fun ρ1 σ1 H1 c d g1 _ r1 rx => hw ρ1 H1 c d g1 r1 rx
    | bad => rw [e] at hw; exact hw.elim
  have run := hb.run X b ok cok lp _ tk (L2.start N vs) H ρ (startE N ws) S _ er rp' hS [] s1 I
  subst hX
  refine wpAny_mono run (fun fl s' hs => ?_) fun e s' hs => hs
  have fin : ∀ {σ' : L2.St} {H' : Hp} {v : V} {u : Value}, L2.Inv (cxOf (L2.CX P w) P w K mg base N qual scope f cdv A outer s H E) [] σ' H' s' → RelV v u → Q v H' → CE outer P w H s Q u s' := fun {σ' H' v u} J rv q => ⟨v, H', J.os, J.bare, J.base, J.hok, rv, q⟩
  cases fl with
  | ret u =>
    obtain ⟨v, σ', H', J, rv, q⟩ := hs
    exact fin J rv q
  | next =>
    obtain ⟨σ', H', J, q⟩ := hs
    exact fin (v := V.non) (u := Value.none) J rfl q
  | brk =>
    obtain ⟨_, _, _, q⟩ := hs
    exact False.elim q
  | cont =>
    obtain ⟨_, _, _, q⟩ := hs
    exact False.elim q

/-! ### the end -/
/-- the objects of the top that we name: they are read alone -/
structure BaseOk (K : PySem.W.Frag) (mg : Str → Option Value) (b : List Addr) (S : Sto) : Prop where
  len : b.length = S.length
  ob : ∀ (k : Nat) (o : O) (a : Addr), S[k]? = some o → b[k]? = some a → o.own = false ∧ RO K mg b (fun _ => none) a o
theorem BaseOk.rep {K : PySem.W.Frag} {mg : Str → Option Value} {b : List Addr} {S : Sto} (h : BaseOk K mg b S) (H : Hp) : Rep K mg b b S H :=
  ⟨Gr.refl _, h.len, fun k o a e1 e2 => (h.ob k o a e1 e2).2.grow (fun c u q => by cases q), fun j i oj oi a e1 e2 w1 w2 e3 e4 => by rw [(h.ob j oj a e1 e3).1] at w1; cases w1⟩
theorem Rep.more {K : PySem.W.Frag} {mg : Str → Option Value} {b ρ : List Addr} {S : Sto} {H : Hp} (r : Rep K mg b ρ S H) {p : Addr} {o : O} (ho : o.own = false) (h : RO K mg (ρ ++ [p]) H p o) : Rep K mg b (ρ ++ [p]) (S ++ [o]) H := by
  have back : ∀ {k : Nat} {x : O} {a : Addr}, (S ++ [o])[k]? = some x → (ρ ++ [p])[k]? = some a → (S[k]? = some x ∧ ρ[k]? = some a) ∨ (x = o ∧ a = p) := fun {k x a} e1 e2 => by
    by_cases hk : k < S.length
    · rw [List.getElem?_append_left hk] at e1
      rw [List.getElem?_append_left (by rw [r.len]; exact hk)] at e2
      exact .inl ⟨e1, e2⟩
    · rw [List.getElem?_append_right (by omega)] at e1
      rw [List.getElem?_append_right (by rw [r.len]; omega), r.len] at e2
      cases q : k - S.length with
      | zero =>
        rw [q] at e1 e2
        simp at e1 e2
        exact .inr ⟨e1.symm, e2.symm⟩
      | succ j => rw [q] at e1; simp at e1
  refine ⟨r.base.trans (Gr.snoc ρ p), by simp [r.len], fun k x a e1 e2 => ?_, fun j k oj ok a e1 e2 w1 w2 e3 e4 => ?_⟩
  · rcases back e1 e2 with ⟨q1, q2⟩ | ⟨rfl, rfl⟩
    · exact (r.ob k x a q1 q2).up (Gr.snoc ρ p)
    · exact h
  · rcases back e1 e3 with ⟨q1, q3⟩ | ⟨rfl, rfl⟩
    · rcases back e2 e4 with ⟨q2, q4⟩ | ⟨rfl, rfl⟩
      · exact r.inj j k oj ok a q1 q2 w1 w2 q3 q4
      · rw [ho] at w2; cases w2
    · rw [ho] at w1; cases w1
/-- the law's own call, of a def of ours -/
theorem law_run {P : Program} {w : World} {K : PySem.W.Frag} {mg mb : Str → Option Value} {k : Nat} {fa a : Addr} {fd : FuncData} {x : Str} {b : List Addr} {Sb : Sto} {g : List U → Sto → Res U} {s1 : Shared} {vs : List Value} {ns : List Int}
    (KX : K.In s1.heap) (hns : s1.heap.Ns mainGlobals mg) (hb : s1.heap.Ns builtinsNs mb) (hbb : ∀ x : Str, x ≠ "__name__" → mb x = bootBuiltins x) (hlim : s1.heap.NoLimit) (hg : s1.gens = #[])
    (ha : s1.heap.get? a = some { cls := .type "list", data := .seq vs.toArray }) (hi : IntsAre vs ns) (hl : ns.length ≤ sizeLine) (hr : Room k callerA) (B : BaseOk K mg b Sb)
    (F : ∀ base : Heap, K.In base → base.Ns mainGlobals mg → FnG P w K mg base k fa fd [x] (spOf K mg b 1 g)) (hbind : ∀ (s : Shared) (u : Value), BindsTo s fd ⟨[u], []⟩ [(x, u)])
    (hs : ∃ S', g [.ref Sb.length] (Sb ++ [.scr (ns.map U.int)]) = .ok (.bl true) S') :
    codeAny (model P w) callerA (.call (.ref fa) ⟨[.ref a], []⟩) (fun r s' => r = .ok (.ret (.bool true)) ∧ OldK s1.heap s'.heap ∧ s'.os = s1.os ∧ AllBare s'.gens) s1 := by
  have rv := vals_ints hi
  have lenV := hi.length
  -- the script's place, told or not
  have go : ∀ (H : Hp) (u : Option HO), (∀ c, H c = if c = a then u else none) → (∀ q, u = some q → ∃ o, q = .frz o (.lst (ns.map V.int))) → ((∃ ob, H a = some (.frz ob (.lst (ns.map V.int)))) ∨ SqL K (fun _ => none) a (ns.map V.int)) → HOk P w H s1.heap →
      (u ≠ none → K.lookup a = none) → codeAny (model P w) callerA (.call (.ref fa) ⟨[.ref a], []⟩) (fun r s' => r = .ok (.ret (.bool true)) ∧ OldK s1.heap s'.heap ∧ s'.os = s1.os ∧ AllBare s'.gens) s1 := by
    intro H u hH hu hS hok hK
    have only : ∀ {c : Addr} {q : HO}, H c = some q → c = a ∧ u = some q := fun {c q} e => by
      rw [hH] at e
      by_cases hc : c = a
      · rw [if_pos hc] at e; exact ⟨hc, e⟩
      · rw [if_neg hc] at e; cases e
    have noD : ∀ {c : Addr} {o : Obj} {es : Array DictEntry} {ep : Nat}, s1.heap.get? c = some o → o.data = .dict es ep → H c = none := fun {c o es ep} e d => by
      cases q : H c with
      | none => rfl
      | some z =>
        obtain ⟨rfl, _⟩ := only q
        rw [ha] at e
        cases e
        cases (show Data.seq vs.toArray _ = Data.dict es ep from d)
    have low : ∀ {c : Addr} {m : Str → Option Value}, s1.heap.Ns c m → (hidT s1.heap H).Ns c m := fun {c m} ⟨o, es, ep, e, d, r⟩ => ⟨o, es, ep, hidT_get e (noD e d), d, r⟩
    have kin : K.In (hidT s1.heap H) := fun c o e => hidT_get (KX c o e) (by
      cases q : H c with
      | none => rfl
      | some z =>
        obtain ⟨rfl, q2⟩ := only q
        rw [hK (by rw [q2]; simp)] at e
        cases e)
    have M : Mod K mg (hidT s1.heap H) := ⟨kin, low hns, ⟨mb, low hb, hbb⟩, let ⟨mc, h1, h2⟩ := hlim; ⟨mc, low h1, h2⟩⟩
    have e0 : Env0 P w K mg (hidT s1.heap H) callerA [] s1 H := ⟨rfl, M, fun c o e => of_hidT e, Nat.le_of_eq (hidT_size _ _), trivial, fun c hc => (List.not_mem_nil hc).elim, hok, .of_eq hg⟩
    obtain ⟨S', hs⟩ := hs
    have rp : Rep K mg b (b ++ [a]) (Sb ++ [.scr (ns.map U.int)]) H := (B.rep H).more rfl ⟨_, RUs.ints ns, hS⟩
    have ra : RU mg (b ++ [a]) (.ref Sb.length) (.ref a) := .ref (by rw [← B.len]; exact last_get b a)
    have sp : spOf K mg b 1 g [.ref a] H (fun v _ => v = .bl true) (fun _ _ _ => False) := ⟨rfl, b ++ [a], _, [.ref Sb.length], rp, .cons ra .nil, by rw [hs]; exact fun ρ' H' v _ _ rv => by cases rv; rfl⟩
    refine codeAny_mono ((F _ kin (low hns)).run callerA [] s1 H ⟨[.ref a], []⟩ [.ref a] [.ref a] _ _ hr rfl e0 (hbind s1 (.ref a)) (.cons rfl .nil) sp) fun r s' h => ?_
    cases r with
    | error e =>
      obtain ⟨_, _, _, _, _, _, _, _, _, _, _, _, z⟩ := (show L2.CX P w [] H s1 (fun _ _ _ => False) e s' from h)
      exact z.elim
    | ok fl =>
      cases fl with
      | next => exact False.elim h
      | brk => exact False.elim h
      | cont => exact False.elim h
      | ret z =>
        obtain ⟨v, H', os, bare, un, hok', r', q⟩ := h
        obtain rfl : v = .bl true := q
        obtain rfl : z = Value.bool true := r'
        refine ⟨rfl, OldK.of_keep fun c o e => ?_, os, bare⟩
        cases q : H c with
        | none => exact un.keep c o e q (List.not_mem_nil) (List.not_mem_nil)
        | some y =>
          obtain ⟨rfl, q2⟩ := only q
          obtain ⟨ob, rfl⟩ := hu y q2
          obtain ⟨e1, _⟩ := hok c _ q
          obtain ⟨e2, _⟩ := hok' c _ (un.frzs c ob _ q)
          rw [e] at e1
          cases e1
          exact e2
  cases hk : K.lookup a with
  | some o =>
    have e := KX a o hk
    rw [ha] at e
    cases e
    exact go (fun _ => none) none (fun c => by split <;> rfl) (fun q z => nomatch z) (.inr (.inr ⟨_, vs.toArray, _, hk, rfl, rfl, rfl, by rw [List.size_toArray, lenV]; exact hl, by simpa using rv⟩)) (fun c z q => nomatch q) fun z => absurd rfl z
  | none =>
    refine go (fun c => if c = a then some (.frz { cls := .type "list", data := .seq vs.toArray } (.lst (ns.map V.int))) else none) _ (fun c => rfl) (fun q z => ⟨_, (Option.some.inj z).symm⟩) (.inl ⟨_, if_pos rfl⟩) (fun c z q => ?_) fun _ => hk
    dsimp only at q
    split at q
    · rename_i hc
      subst hc
      cases q
      exact ⟨ha, by rw [List.length_map]; exact hl, vs, _, rv, ha⟩
    · cases q
/-- the law's row, from what its def of ours comes to -/
theorem walk_G {l : PySem.W.OpenLaw} {n k : Nat} {q : Program} {loose : List Str} {XP : (Str → Option Value) → Heap → Prop} {YP : World → Heap → Prop} {d : DefRec} {K : Params → PySem.W.Frag} {x : Str} {g : List U → Sto → Res U}
    (hn : l.most = some n) (hn2 : n ≤ sizeLine) (hdf : d.params.defaults = []) (hr : Room k callerA) (hY : ∀ (w : World) (h : Heap), YP w h → (K w.params).In h)
    (F : ∀ (w : World) (mg : Str → Option Value) (fa : Addr) (h : Heap), (K w.params).In h → h.Ns mainGlobals mg → mg d.name = some (.ref fa) → ∃ (fd : FuncData) (b : List Addr) (Sb : Sto), BaseOk (K w.params) mg b Sb ∧ (∀ (s : Shared) (u : Value), BindsTo s fd ⟨[u], []⟩ [(x, u)]) ∧
      (∀ ns : List Int, ns.length ≤ n → ∃ S', g [.ref Sb.length] (Sb ++ [.scr (ns.map U.int)]) = .ok (.bl true) S') ∧ ∀ base : Heap, (K w.params).In base → base.Ns mainGlobals mg → FnG l.prog w (K w.params) mg base k fa fd [x] (spOf (K w.params) mg b 1 g)) :
    PySem.W.WalkO q loose XP YP l.row.toRowW d [] (fun f vs => PySem.call f vs) := by
  refine Att.attach_call hn hdf fun w s₀ s₁ mg mb fa o pm cd doc a vs ns G Y ho hd hcd hmg hobj hints hlen hg => ?_
  have KX := hY w _ Y
  obtain ⟨fd, b, Sb, B, hb, hs, hF⟩ := F w mg fa _ KX G.T.g hmg
  exact law_run KX G.T.g G.T.b G.T.builtins G.T.nolimit hg hobj hints (Nat.le_trans hlen hn2) hr B hF hb (hs ns hlen)
end Mn
set_option Elab.async false
set_option linter.all false
set_option maxRecDepth 100000
set_option maxHeartbeats 4000000
/-! Mn17: word, *things = .. -/
namespace Mn
open PySem PySem.Spec PyProof.Rows L2

/-- the rest of a walk is a walk -/
theorem walks_on {prog : Program} {w : World} {A : Around} {I : Addr} {fp wr : List Addr} {G : Array GenState → Array GenState → Prop} {n : Nat} {P : Nat → Value → Prop} {St : Nat → Shared → Prop} (W : WalksS prog w A I fp wr G (n + 1) P St) :
    WalksS prog w A I fp wr G n (fun i => P (i + 1)) (fun i => St (i + 1)) where
  sub := W.sub
  grefl := W.grefl
  gtrans := W.gtrans
  frame := fun i => W.frame (i + 1)
  item := fun i s Q E hi t hQ => W.item (i + 1) s Q E (by omega) t hQ
  done := fun s Q E t hQ => W.done s Q E t hQ
  self := fun i => W.self (i + 1)
section
variable {prog : Program} {w : World} {A : Around} {E : Value → Shared → Prop} {s : Shared}
theorem items_rest {x : Value} {l : List Value} {acc : Array Value} (h : ItemsOf (fun i v => (x :: l)[i + 1]? = some v) acc l.length) : acc.toList = l := by
  obtain ⟨h1, h2⟩ := h
  refine List.ext_getElem? fun i => ?_
  by_cases hi : i < acc.size
  · have e : acc[i]? = some acc[i] := by simp [hi]
    have := h2 i _ e
    simp at this
    rw [this]
    simp [hi]
  · rw [List.getElem?_eq_none (by simpa using hi), List.getElem?_eq_none (by omega)]
/-- draw one, collect the rest -/
theorem star_core {v x : Value} {xs : List Value} {o : Obj} {ax : Addr} {T : String} {St : Nat → Heap → Prop} {Q : List Value → Shared → Prop} (hTm : T = "str_ascii_iterator" ∨ T = "str_iterator" ∨ T = "list_iterator" ∨ T = "tuple_iterator")
    (h1 : ∀ (Q : Bool → Shared → Prop), Q false s → wpAny (model prog w) A (notIterableAtAll v) Q E s)
    (h2 : ∀ (Q : Value → Shared → Prop), Q (.ref s.heap.objs.size) { s with heap := s.heap.push o } → wpAny (model prog w) A (pyIter v) Q E s)
    (W : Walks prog w A.in1 s.heap.objs.size [s.heap.objs.size, ax] [s.heap.objs.size] (x :: xs).toArray.size (fun i v => (x :: xs).toArray[i]? = some v) St) (hT : ∀ (i : Nat) (s' : Shared), St i s'.heap → s'.TypeIs (.ref s.heap.objs.size) T)
    (t0 : St 0 (s.heap.push o)) (hax : ax < s.heap.objs.size) (hz : xs.length ≤ sizeLine)
    (hQ : ∀ (s' : Shared), s'.os = s.os → s'.gens = s.gens → s'.drawn = s.drawn → (∀ b o, s.heap.get? b = some o → s'.heap.get? b = some o) → Q [x, .ref s'.heap.objs.size] { s' with heap := s'.heap.push { cls := .type "list", data := .seq xs.toArray } }) : wpAny (model prog w) A (unpackItems v 2 (some 1)) Q E s := by
  unfold unpackItems
  refine wpAny_bind (h1 _ ?_)
  simp only [Bool.false_eq_true, if_false]
  refine wpAny_bind (wpAny_holding (h2 _ (wpAny_bind (wpAny_holding ?_))))
  show wpAny _ _ (pyNext (.ref s.heap.objs.size) >>= _) _ _ _
  refine wpAny_bind ((Walks.of_in1 W).item 0 { s with heap := s.heap.push o } _ _ (by simp) t0 fun y g tk hy t1 hk => wpAny_bind (wpAny_holding (wpAny_pure (wpAny_pure ?_))))
  have ey : y = x := by simpa using hy.symm
  subst ey
  have kp : ∀ b o', s.heap.get? b = some o' → g.get? b = some o' := fun b o' e => hk b o' (by have := Heap.lt_size e; simp; exact Nat.ne_of_lt this) (Heap.get?_push_of_some _ e)
  rw [if_neg (by simp)]
  have WS := walks_on (n := xs.length) (by simpa using W.toS)
  refine wpAny_bind (wpAny_holding (wpAny_collect_iter (s := { s with heap := g, toks := tk }) hTm WS (fun i s' t => hT (i + 1) s' t) t1 (fun b hb => ?_) (by simp) (fun s' acc mv it => ?_) hz))
  · have hI := hk s.heap.objs.size
    have big : s.heap.objs.size < g.objs.size := by
      obtain ⟨o', e, _⟩ := hT 1 { s with heap := g, toks := tk } t1
      exact Heap.lt_size e
    have hb : b = s.heap.objs.size ∨ b = ax := by simpa using hb
    rcases hb with rfl | rfl
    · exact big
    · exact Nat.lt_trans hax big
  · have ea := items_rest it
    rw [ea]
    rw [if_neg (by simp)]
    refine wpAny_bind (wpAny_newList ?_ (by simpa using hz))
    refine wpAny_pure ?_
    have eq1 : List.take (xs.length - (2 - 1 - 1)) xs = xs := by simp
    have eq2 : List.drop (xs.length - (2 - 1 - 1)) xs = [] := by simp
    rw [eq1, eq2]
    have gk : ∀ b o', s.heap.get? b = some o' → s'.heap.get? b = some o' := fun b o' e => mv.heap b o' (by have := Heap.lt_size e; simp; exact Nat.ne_of_lt this) (kp b o' e)
    exact hQ s' mv.os mv.gens mv.drawn gk
end
section
variable {X : Cx} {pins : List (Addr × Obj)} {σ : L2.St} {H : Hp} {s : Shared}
/-- behind such a step: the new list stands -/
theorem star_laid {xs : List V} {us : List Value} {s' : Shared} (I : L2.Inv X pins σ H s) (e1 : s'.os = s.os) (e2 : s'.gens = s.gens) (e3 : s'.drawn = s.drawn) (k : ∀ b o, s.heap.get? b = some o → s'.heap.get? b = some o) (r : Vals xs us) (hz : xs.length ≤ sizeLine) :
    H s'.heap.objs.size = none ∧ L2.Inv X pins σ (upd H s'.heap.objs.size (.lst xs)) { s' with heap := s'.heap.push { cls := .type "list", data := .seq us.toArray } } := by
  obtain ⟨h', g', d', t', o'⟩ := s'
  obtain rfl : o' = s.os := e1
  obtain rfl : g' = s.gens := e2
  obtain rfl : d' = s.drawn := e3
  have I1 : L2.Inv X pins σ H { s with heap := h', toks := t' } := I.kept k
  exact ⟨I1.fresh, I1.lnew (t' := t') r hz⟩
theorem unpack_star {A : Around} {E : Value → Shared → Prop} {a : Addr} {y : V} {ys : List V} {Q : List Value → Shared → Prop} (I : L2.Inv X pins σ H s) (hh : A.handled = none) (h : SqL X.K H a (y :: ys) ∨ SqT X.K H a (y :: ys))
    (hQ : ∀ u p s', RelV y u → H p = none → L2.Inv X pins σ (upd H p (.lst ys)) s' → Q [u, .ref p] s') (hz : ys.length ≤ sizeLine) : wpAny (model X.prog X.w) A (unpackItems (.ref a) 2 (some 1)) Q E s := by
  rcases h with h | h
  · obtain ⟨its, r, p, _⟩ := I.list h
    cases r with
    | cons r0 r1 =>
      rename_i u us
      have hl := p.isList
      have lt : a < s.heap.objs.size := p.lt
      refine star_core (T := "list_iterator") (.inr (.inr (.inl rfl))) (fun Q q => ?_) (fun Q q => wpAny_pyIter_list hl q) (Walks.list (A := A.in1) hh s.heap.objs.size a (Nat.ne_of_lt lt) (u :: us).toArray) (fun i s' t => ?_) ⟨⟨_, Heap.get?_push_size _ rfl, rfl, rfl⟩, hl.at fun o e => Heap.get?_push_of_some _ e⟩ lt (by rw [← r1.length]; exact hz) fun s' e1 e2 e3 k => ?_
      · unfold notIterableAtAll
        exact wpAny_bind (wpAny_specialOf hl.typeIs slot_list_iter.lookup (wpAny_pure q))
      · obtain ⟨⟨o, e, c, _⟩, _⟩ := t
        exact ⟨o, e, c⟩
      · obtain ⟨n, J⟩ := star_laid I e1 e2 e3 k r1 hz
        exact hQ u _ _ r0 n J
  · obtain ⟨its, r, p, _⟩ := I.tuple h
    cases r with
    | cons r0 r1 =>
      rename_i u us
      have lt : a < s.heap.objs.size := by obtain ⟨o, e, _⟩ := p; exact Heap.lt_size e
      refine star_core (T := "tuple_iterator") (.inr (.inr (.inr rfl))) (fun Q q => ?_) (fun Q q => wpAny_pyIter_tuple p q) (Walks.tuple (A := A.in1) hh s.heap.objs.size a (Nat.ne_of_lt lt) (u :: us).toArray) (fun i s' t => ?_) ⟨⟨_, Heap.get?_push_size _ rfl, rfl, rfl⟩, p.push _⟩ lt (by rw [← r1.length]; exact hz) fun s' e1 e2 e3 k => ?_
      · unfold notIterableAtAll
        exact wpAny_bind (wpAny_specialOf p.typeIs F.slot_tuple_iter.lookup (wpAny_pure q))
      · obtain ⟨⟨o, e, c, _⟩, _⟩ := t
        exact ⟨o, e, c⟩
      · obtain ⟨n, J⟩ := star_laid I e1 e2 e3 k r1 hz
        exact hQ u _ _ r0 n J
end
section
variable {k : Nat} {Γ : Gm} {C : Cal}
def gStar (ms : List U → Ev → Sto → GRes) : U → Ev → Sto → GRes := fun u env S => match itemsU u S with
  | some (x :: xs) => ms [x, .ref S.length] env (S ++ [.lst xs])
  | _ => none
theorem sg_star {t0 t1 : Expr} {p pos : Pos} {j : Nat} {ms : List U → Ev → Sto → GRes} {ws : List Nat} (h : SGs k Γ C ws [t0, t1] ms) (h0 : plainE t0 = true) (h1 : plainE t1 = true) : SG k Γ C ws (.Tuple [t0, .Starred t1 p] j pos) (gStar ms) := by
  refine ⟨?_⟩
  intro X b ok cal W tk σ H ρ env S u v Q er r ru hw pins s val I rv
  unfold gStar at hw
  split at hw
  rotate_left
  · exact hw.elim
  rename_i x xs e
  have e1 : assignEach [t0, .Starred t1 p] X.env = [(false, assign t0 X.env), (true, assign t1 X.env)] := by cases t0 <;> first | rfl | cases h0
  have e2 : (assignEach [t0, t1] X.env).map (·.2) = [assign t0 X.env, assign t1 X.env] := by rw [each_cons h0, each_cons h1]; rfl
  -- the items, as the heap has them
  have seen : ∃ a vs, v = .ref a ∧ RUs X.mg ρ (x :: xs) vs ∧ (SqL X.K H a vs ∨ SqT X.K H a vs) := by
    unfold itemsU at e
    split at e
    · split at e
      · rename_i ys ej
        cases e
        obtain ⟨a, rfl, _, vs, pv, hv⟩ := r.of ej ru
        exact ⟨a, vs, rfl, pv, .inl (.inl (.inl hv))⟩
      · rename_i ys ej
        cases e
        obtain ⟨a, rfl, _, vs, pv, hv⟩ := r.of ej ru
        exact ⟨a, vs, rfl, pv, .inl (scr_sql hv)⟩
      · rename_i ys ej
        cases e
        obtain ⟨a, rfl, _, vs, pv, hv⟩ := r.of ej ru
        exact ⟨a, vs, rfl, pv, .inr hv⟩
      · cases e
    · cases e
  obtain ⟨a, vs, rfl, pv, sq⟩ := seen
  cases rv
  cases pv with
  | cons p0 p1 =>
    rename_i y ys
    have hz : ys.length ≤ sizeLine := by
      rcases sq with q | q
      · obtain ⟨its, r', _, z⟩ := I.list q
        simp at z
        omega
      · obtain ⟨its, r', _, z⟩ := I.tuple q
        simp at z
        omega
    rw [arm_assign_Tuple]
    refine wpAny_bind (wpAny_standAt ?_)
    unfold unpack
    rw [e1]
    refine wpAny_bind (wpAny_holding (unpack_star I (I.ok.hd ok.calm) sq (fun w q s' rw' hq J => ?_) hz))
    have := h.run X b ok cal W tk σ (upd H q (.lst ys)) (ρ ++ [q]) env (S ++ [.lst xs]) [x, .ref S.length] [y, .ref q] Q (er.up (Gr.snoc ρ q)) (r.lst hq p1) (.cons (p0.up (Gr.snoc ρ q)) (.cons (r.last q) .nil)) (hw.up (Gr.snoc ρ q)) pins s' [w, .ref q] J (.cons rw' (.cons rfl .nil))
    rw [e2] at this
    exact this
end
end Mn
set_option Elab.async false
set_option linter.all false
set_option maxRecDepth 100000
set_option maxHeartbeats 4000000
/-! Mn18: defs by their text, what is known by name as lists. -/
namespace Mn
open PySem PySem.Spec PyProof.Rows L2

section
variable {k : Nat} {Γ : Gm} {C : Cal}
def mC (u : U) : Ev → Sto → Res U := fun _ S => .ok u S
theorem se_glc {x : Str} {u : U} {pos : Pos} (hu : C.gl x = some u) (hg : glbB Γ.sc x = true) (hd : (x == ("__debug__" : Str)) = false) : SE k Γ C (.Name x pos) (mC u) := by
  have h := se_gl (k := k) (C := C) (pos := pos) hg hd
  have e : mGl C x = mC u := by unfold mGl mC; rw [hu]
  rw [e] at h
  exact h
theorem se_mC {e : Expr} {u : U} (h : SE k Γ C e fun _ S => .ok u S) : SE k Γ C e (mC u) := h
end
/-- what is known by name, as lists -/
def calOf (fs : List (Str × Nat × (List U → Sto → Res U))) (gs : List (Str × U)) (bs : List Str) (ks : List (Str × List (Str × U))) : Cal := ⟨fun x => fs.lookup x, fun x => gs.lookup x, bs, fun x => ks.lookup x⟩
def FnP (P : Program) (w : World) (K : PySem.W.Frag) (mg : Str → Option Value) (base : Heap) (k : Nat) (b : List Addr) (x : Str) (n : Nat) (g : List U → Sto → Res U) : Prop :=
  ∃ (f : Addr) (fd : FuncData) (ps : List Str), mg x = some (.ref f) ∧ PySem.W.keepIn K (.ref f) = true ∧ Binds K fd ps [] ∧ ps.length = n ∧ FnG P w K mg base k f fd ps (spOf K mg b n g)
def GlP (mg : Str → Option Value) (b : List Addr) (x : Str) (u : U) : Prop := ∃ v val, mg x = some val ∧ RelV v val ∧ RU mg b u v
def KdP (w : World) (K : PySem.W.Frag) (mg : Str → Option Value) (b : List Addr) (x : Str) (kvs : List (Str × U)) : Prop := ∃ d es n, mg x = some (.ref d) ∧ KDict K w d es n ∧ ∀ z, (match kvs.lookup z with
    | some u => ∃ val v, PySem.W.nsIn K d z = some (some val) ∧ RelV v val ∧ RU mg b u v
    | none => PySem.W.nsIn K d z = some none)
section
variable {P : Program} {w : World} {K : PySem.W.Frag} {mg : Str → Option Value} {base : Heap} {k j : Nat} {b : List Addr}
theorem FnP.mono {x : Str} {n : Nat} {g : List U → Sto → Res U} (h : FnP P w K mg base j b x n g) (hj : j ≤ k) : FnP P w K mg base k b x n g := by
  obtain ⟨f, fd, ps, h1, h2, h3, h4, F⟩ := h
  exact ⟨f, fd, ps, h1, h2, h3, h4, F.len, fun A outer s H args us vs Q E hr => F.run A outer s H args us vs Q E (hr.mono hj)⟩
theorem calB_of {fs : List (Str × Nat × (List U → Sto → Res U))} {gs : List (Str × U)} {bs : List Str} {ks : List (Str × List (Str × U))} (h1 : ∀ p ∈ fs, FnP P w K mg base k b p.1 p.2.1 p.2.2) (h2 : ∀ p ∈ gs, GlP mg b p.1 p.2) (h3 : ∀ x ∈ bs, mg x = none)
    (h4 : ∀ p ∈ ks, KdP w K mg b p.1 p.2) : CalB P w K mg base k b (calOf fs gs bs ks) :=
  ⟨fun x n g e => h1 (x, n, g) (PySem.mem_of_lookup e), fun x u e => h2 (x, u) (PySem.mem_of_lookup e), h3, fun x kvs e => h4 (x, kvs) (PySem.mem_of_lookup e)⟩
/-- a def of the top, by its text -/
def DefF (K : PySem.W.Frag) (mg : Str → Option Value) (x : Str) (st : Stmt) : Prop := ∃ (f : Addr) (fd : FuncData), mg x = some (.ref f) ∧ L2.Fun K x x st f fd
theorem fnP_of {x : Str} {st : Stmt} {N ps : List Str} {m : Ev → Sto → SRes} {C : Cal} (D : DefF K mg x st) (F : FnScope N ps (defScope st))
    (hb : ∀ (kV doc pm : Value) (an : Option Addr) (cdv ct : Value) (us : List Value), us.length = ps.length → bindArgs (PySem.W.fnOf x x (defArgs st) (defBody st) (defScope st) .none kV doc pm an cdv ct) ⟨us, []⟩ = pure (ps.zip us))
    (cal : CalB P w K mg base k b C) (h : SB k (gmOf N (defScope st)) C true (defBody st) m) : FnP P w K mg base (k + 1) b x ps.length (runB N m) := by
  obtain ⟨f, fd, hm, G⟩ := D
  have hbind := G.binds (ps := ps) hb
  obtain ⟨oc, od, kV, doc, pm, an, cdv, ct, osl, rfl, lk, hcd⟩ := G.ex
  exact ⟨f, _, ps, hm, G.kp, hbind, rfl, fnG_of lk hcd F cal h⟩
theorem defF_of {h : Heap} {x : Str} {st : Stmt} {f : Addr} {oc : Value} {od an : Option Addr} {osl : Array (Option Value)} {kV doc pm cdv ct : Value} (X : K.In h) (G : h.Ns mainGlobals mg) (a : PySem.W.nsIn K mainGlobals x = some (some (.ref f)))
    (l : K.lookup f = some ⟨oc, od, .func (PySem.W.fnOf x x (defArgs st) (defBody st) (defScope st) .none kV doc pm an cdv ct), osl⟩) (c : PySem.W.codeIn K cdv x = true) (k : PySem.W.keepIn K (.ref f) = true) : DefF K mg x st := ⟨f, _, PySem.W.mg_of X G a, fun_mk l c k⟩
/-- a dict of the top, entry by entry -/
def kdEs (p : Params) (ps : List (Str × Tok × Value)) : List DictEntry := ps.map fun q => ⟨PyData.keyHash p q.1, .str q.1 q.2.1, q.2.2⟩
theorem kd_lit (p : Params) : ∀ ps : List (Str × Tok × Value), PySem.W.KeysLit p (kdEs p ps)
  | [] => trivial
  | q :: ps => ⟨⟨q.1, q.2.1, rfl, rfl⟩, kd_lit p ps⟩
theorem kd_find (p : Params) (z : Str) : ∀ ps : List (Str × Tok × Value), ((kdEs p ps).find? (·.key.isStr z)).map (·.val) = (ps.lookup z).map (·.2) ∧ (kdEs p ps).any (·.refKey) = false
  | [] => ⟨rfl, rfl⟩
  | q :: ps => by
    obtain ⟨h1, h2⟩ := kd_find p z ps
    refine ⟨?_, ?_⟩
    · show (List.find? (·.key.isStr z) (⟨PyData.keyHash p q.1, .str q.1 q.2.1, q.2.2⟩ :: kdEs p ps)).map (·.val) = _
      rw [List.find?_cons, List.lookup_cons]
      have e3 : (Value.str q.1 q.2.1).isStr z = (z == q.1) := by
        show (q.1 == z) = (z == q.1)
        rw [Bool.eq_iff_iff, beq_iff_eq, beq_iff_eq]
        exact eq_comm
      dsimp only
      rw [e3]
      cases hz : z == q.1 with
      | true => rfl
      | false => exact h1
    · show (DictEntry.refKey ⟨PyData.keyHash p q.1, .str q.1 q.2.1, q.2.2⟩ || (kdEs p ps).any (·.refKey)) = false
      rw [h2]
      rfl
/-- its pairs are ours -/
theorem kdP_of {d : Addr} {n : Nat} {x : Str} {ps : List (Str × Tok × Value)} {kvs : List (Str × U)} (hm : mg x = some (.ref d)) (l : K.lookup d = some ⟨.type "dict", none, .dict (kdEs w.params ps).toArray n, #[]⟩) (hs : (d == sysModules) = false)
    (r : Paired (fun (p : Str × U) (q : Str × Tok × Value) => p.1 = q.1 ∧ ∃ v, RelV v q.2.2 ∧ RU mg b p.2 v) kvs ps) : KdP w K mg b x kvs := by
  refine ⟨d, _, n, hm, ⟨l, by simpa using kd_lit w.params ps, hs⟩, fun z => ?_⟩
  have e : PySem.W.nsIn K d z = some ((ps.lookup z).map (·.2)) := by
    unfold PySem.W.nsIn
    rw [l]
    obtain ⟨f1, f2⟩ := kd_find w.params z ps
    dsimp only
    rw [← f1]
    cases (kdEs w.params ps).find? (·.key.isStr z) with
    | some e => rfl
    | none =>
      show (if (kdEs w.params ps).any (·.refKey) = true then none else some none) = _
      rw [if_neg (by rw [f2]; decide)]
      rfl
  rw [e]
  clear l e
  induction r with
  | nil => rfl
  | cons r t ih =>
    rename_i p q _ _
    obtain ⟨e1, v, r1, r2⟩ := r
    rw [List.lookup_cons, List.lookup_cons, e1]
    cases hz : z == q.1 with
    | true => exact ⟨q.2.2, v, rfl, r1, r2⟩
    | false => exact ih
/-! ### the pieces of a law's own head -/
theorem alln {α : Type} {Q : α → Prop} : ∀ p ∈ ([] : List α), Q p := fun _ h => absurd h List.not_mem_nil
theorem allc {α : Type} {Q : α → Prop} {a : α} {l : List α} (h : Q a) (t : ∀ p ∈ l, Q p) : ∀ p ∈ a :: l, Q p := fun p hp => by
  rcases List.mem_cons.mp hp with rfl | hp
  · exact h
  · exact t p hp
theorem baseOk_of {S : Sto} (h : Paired (fun (o : O) (a : Addr) => o.own = false ∧ RO K mg b (fun _ => none) a o) S b) : BaseOk K mg b S := by
  refine ⟨(paired_len h).symm, fun k o a e1 e2 => ?_⟩
  obtain ⟨a', e3, r⟩ := paired_get h e1
  rw [e2] at e3
  cases e3
  exact r
/-- a tuple of texts in the written part -/
def strVs (ps : List (Str × Tok)) : List Value := ps.map fun q => .str q.1 q.2
theorem tupS_ok {a : Addr} {dd : Option Addr} {n : Nat} {sl : Array (Option Value)} {ps : List (Str × Tok)} (l : K.lookup a = some ⟨.type "tuple", dd, .seq (strVs ps).toArray n, sl⟩) (hz : ps.length ≤ LIM) : RO K mg b (fun _ => none) a (.tup (ps.map fun q => .str q.1)) := by
  have h1 : ∀ l : List (Str × Tok), RUs mg b (l.map fun q => .str q.1) (l.map fun q => .str q.1) ∧ Vals (l.map fun q => .str q.1) (strVs l) := fun l => by
    induction l with
    | nil => exact ⟨.nil, .nil⟩
    | cons q l ih => exact ⟨.cons (.str _) ih.1, .cons ⟨q.2, rfl⟩ ih.2⟩
  exact ⟨_, (h1 ps).1, .inr ⟨_, (strVs ps).toArray, n, l, rfl, rfl, by simpa [strVs] using lim_line hz, by simpa using (h1 ps).2⟩⟩
theorem glP_str {x z : Str} {t : Tok} (h : mg x = some (.str z t)) : GlP mg b x (.str z) := ⟨.str z, _, h, ⟨t, rfl⟩, .str z⟩
theorem glP_int {x : Str} {z : Int} {t : Tok} (h : mg x = some (.int z t)) : GlP mg b x (.int z) := ⟨.int z, _, h, ⟨t, rfl⟩, .int z⟩
theorem glP_ref {x : Str} {i : Nat} {a : Addr} (h : mg x = some (.ref a)) (hb : b[i]? = some a) : GlP mg b x (.ref i) := ⟨.ref a, _, h, rfl, .ref hb⟩
end
end Mn
set_option Elab.async false
set_option linter.all false
set_option maxRecDepth 100000
set_option maxHeartbeats 4000000
/-! Me1: how a reading is reckoned: what it comes to, step by step. -/
namespace Mn
open PySem

def Ok {α : Type} (r : Res α) (Q : α → Sto → Prop) : Prop := ∃ a S, r = .ok a S ∧ Q a S
def Do (r : SRes) (Nx : Ev → Sto → Prop) (Rt : U → Sto → Prop) (Bk Ct : Ev → Sto → Prop) : Prop := match r with
  | .nx e S => Nx e S
  | .rt u S => Rt u S
  | .bk e S => Bk e S
  | .ct e S => Ct e S
  | _ => False
def Oi (u v : U) (S : Sto) (Q : U → Sto → Prop) : Prop := ∃ z, opI u v S = some z ∧ Q z S
def Oc (o : PySem.CmpOp) (u v : U) (S : Sto) (Q : Bool → Sto → Prop) : Prop := ∃ t, opC o u v S = some t ∧ Q t S
def Ot (u : U) (S : Sto) (Q : Bool → Sto → Prop) : Prop := ∃ t, truth u S = some t ∧ Q t S
def Op (u w v : U) (S : Sto) (Q : Sto → Prop) : Prop := ∃ S', opP u w v S = some S' ∧ Q S'
def On (nt : Nt) (us : List U) (S : Sto) (Q : U → Sto → Prop) : Prop := ∃ w S', nt us S = some (w, S') ∧ Q w S'
def Br (t : Bool) (A B : Prop) : Prop := (t = true → A) ∧ (t = false → B)
theorem br_t {A B : Prop} (h : A) : Br true A B := ⟨fun _ => h, fun e => nomatch e⟩
theorem br_f {A B : Prop} (h : B) : Br false A B := ⟨fun e => (nomatch e), fun _ => h⟩
theorem br {t : Bool} {A B : Prop} (h1 : t = true → A) (h2 : t = false → B) : Br t A B := ⟨h1, h2⟩
theorem Ok.mono {α : Type} {r : Res α} {Q Q' : α → Sto → Prop} (h : Ok r Q) (k : ∀ a S, Q a S → Q' a S) : Ok r Q' := let ⟨a, S, e, q⟩ := h; ⟨a, S, e, k a S q⟩
theorem Ok.of {α : Type} {r : Res α} {a : α} {S : Sto} {Q : α → Sto → Prop} (e : r = .ok a S) (q : Q a S) : Ok r Q := ⟨a, S, e, q⟩
theorem Ok.bnd {α β : Type} {r : Res α} {f : α → Sto → Res β} {Q : β → Sto → Prop} (h : Ok r fun a S => Ok (f a S) Q) : Ok (Mn.bnd r f) Q := by
  obtain ⟨a, S, e, q⟩ := h
  rw [e]
  exact q
theorem Do.mono {r : SRes} {Nx Nx' : Ev → Sto → Prop} {Rt Rt' : U → Sto → Prop} {Bk Ct Bk' Ct' : Ev → Sto → Prop} (h : Do r Nx Rt Bk Ct) (h1 : ∀ e S, Nx e S → Nx' e S) (h2 : ∀ e S, Rt e S → Rt' e S) (h3 : ∀ e S, Bk e S → Bk' e S) (h4 : ∀ e S, Ct e S → Ct' e S) : Do r Nx' Rt' Bk' Ct' := by
  cases r with
  | nx e S => exact h1 e S h
  | rt u S => exact h2 u S h
  | bk e S => exact h3 e S h
  | ct e S => exact h4 e S h
  | exc x e S => exact h
  | bad => exact h
section
variable {env : Ev} {S : Sto} {Q : U → Sto → Prop} {ma mb mc : Ev → Sto → Res U}
/-! ### expressions -/
theorem w_c {u : U} (h : Q u S) : Ok (mC u env S) Q := ⟨u, S, rfl, h⟩
theorem w_var {i : Nat} {u : U} (e : env[i]? = some (some u)) (h : Q u S) : Ok (mVar i env S) Q := ⟨u, S, by unfold mVar; rw [e], h⟩
theorem w_bin {o : PySem.Operator} (h : Ok (ma env S) fun u S1 => Ok (mb env S1) fun v S2 => Ok (opB o u v S2) Q) : Ok (mBin o ma mb env S) Q := Ok.bnd (h.mono fun _ _ q => Ok.bnd q)
theorem w_add {i j : Int} (h : Q (.int (i + j)) S) : Ok (opB .Add (.int i) (.int j) S) Q := ⟨_, _, rfl, h⟩
theorem w_subt {i j : Int} (h : Q (.int (i - j)) S) : Ok (opB .Sub (.int i) (.int j) S) Q := ⟨_, _, rfl, h⟩
theorem w_mul {i j : Int} (c : i.natAbs < 2 ^ 64 ∨ j.natAbs < 2 ^ 64) (h : Q (.int (i * j)) S) : Ok (opB .Mult (.int i) (.int j) S) Q := ⟨_, _, if_pos c, h⟩
theorem w_fdiv {i j : Int} (c : j ≠ 0 ∧ j.natAbs < 1073741824) (h : Q (.int (i.fdiv j)) S) : Ok (opB .FloorDiv (.int i) (.int j) S) Q := ⟨_, _, if_pos c, h⟩
theorem w_mod {i j : Int} (c : j ≠ 0) (h : Q (.int (i.fmod j)) S) : Ok (opB .Mod (.int i) (.int j) S) Q := ⟨_, _, if_pos c, h⟩
theorem w_pow {i j : Int} (c : 0 ≤ j ∧ j ≤ 1000000 ∧ i.natAbs < 2 ^ 64) (h : Q (.int (i ^ j.toNat)) S) : Ok (opB .Pow (.int i) (.int j) S) Q := ⟨_, _, if_pos c, h⟩
theorem w_cat {x y : Str} (c : x.length + y.length ≤ LIM) (h : Q (.str (x ++ y)) S) : Ok (opB .Add (.str x) (.str y) S) Q := ⟨_, _, if_pos c, h⟩
theorem w_catL {i j : Nat} {xs ys : List U} (e1 : S[i]? = some (.lst xs)) (e2 : S[j]? = some (.lst ys)) (c : xs.length + ys.length ≤ LIM) (h : Q (.ref S.length) (S ++ [.lst (xs ++ ys)])) : Ok (opB .Add (.ref i) (.ref j) S) Q :=
  ⟨_, _, by simp only [opB, e1, e2]; exact if_pos c, h⟩
theorem w_catT {i j : Nat} {xs ys : List U} (e1 : S[i]? = some (.tup xs)) (e2 : S[j]? = some (.tup ys)) (c : xs.length + ys.length ≤ LIM) (hx : xs ≠ []) (h0 : ys = [] → Q (.ref i) S) (h : Q (.ref S.length) (S ++ [.tup (xs ++ ys)])) : Ok (opB .Add (.ref i) (.ref j) S) Q := by
  have e : opB .Add (.ref i) (.ref j) S = if ys.isEmpty then .ok (.ref i) S else .ok (.ref S.length) (S ++ [.tup (xs ++ ys)]) := by
    simp only [opB, e1, e2]
    rw [if_pos c, if_neg (by cases xs with | nil => exact absurd rfl hx | cons _ _ => simp)]
  rw [e]
  cases ys with
  | nil => exact ⟨_, _, rfl, h0 rfl⟩
  | cons y ys => exact ⟨_, _, rfl, h⟩
theorem w_neg (h : Ok (ma env S) fun u S1 => ∃ i, u = .int i ∧ Q (.int (-i)) S1) : Ok (mNeg ma env S) Q := Ok.bnd (h.mono fun u S1 q => by obtain ⟨i, rfl, q⟩ := q; exact ⟨_, _, rfl, q⟩)
theorem w_cmpT {o : PySem.CmpOp} {Q : Bool → Sto → Prop} (h : Ok (ma env S) fun u S1 => Ok (mb env S1) fun v S2 => Oc o u v S2 Q) : Ok (mCmpT o ma mb env S) Q :=
  Ok.bnd (h.mono fun _ _ q => Ok.bnd (q.mono fun _ _ ⟨t, e, q⟩ => ⟨t, _, by rw [e]; rfl, q⟩))
theorem w_toB {m : Ev → Sto → Res Bool} (h : Ok (m env S) fun t S1 => Q (.bl t) S1) : Ok (toB m env S) Q := Ok.bnd (h.mono fun _ _ q => ⟨_, _, rfl, q⟩)
theorem w_chn {o o' : PySem.CmpOp} {Q : Bool → Sto → Prop} (h : Ok (ma env S) fun u S1 => Ok (mb env S1) fun v S2 => Oc o u v S2 fun t S2 => Br t (Ok (mc env S2) fun w S3 => Oc o' v w S3 Q) (Q false S2)) : Ok (mChnT o o' ma mb mc env S) Q :=
  Ok.bnd (h.mono fun u S1 q => Ok.bnd (q.mono fun v S2 ⟨t, e, q0, q1⟩ => by
    try dsimp only
    rw [e]
    cases t with
    | false => exact ⟨_, _, rfl, q1 rfl⟩
    | true => exact Ok.bnd ((q0 rfl).mono fun w S3 ⟨t, e, q⟩ => ⟨t, S3, by rw [e]; rfl, q⟩)))
theorem w_tru {Q : Bool → Sto → Prop} (h : Ok (ma env S) fun u S1 => Ot u S1 Q) : Ok (tru ma env S) Q := Ok.bnd (h.mono fun _ _ ⟨t, e, q⟩ => ⟨t, _, by rw [e]; rfl, q⟩)
theorem w_notT {m : Ev → Sto → Res Bool} {Q : Bool → Sto → Prop} (h : Ok (m env S) fun t S1 => Q (!t) S1) : Ok (mNotT m env S) Q := Ok.bnd (h.mono fun _ _ q => ⟨_, _, rfl, q⟩)
theorem w_andT {m m' : Ev → Sto → Res Bool} {Q : Bool → Sto → Prop} (h : Ok (m env S) fun t S1 => Br t (Ok (m' env S1) Q) (Q false S1)) : Ok (mAndT m m' env S) Q :=
  Ok.bnd (h.mono fun t S1 q => by
    cases t with
    | false => exact ⟨_, _, rfl, q.2 rfl⟩
    | true => exact q.1 rfl)
theorem w_orT {m m' : Ev → Sto → Res Bool} {Q : Bool → Sto → Prop} (h : Ok (m env S) fun t S1 => Br t (Q true S1) (Ok (m' env S1) Q)) : Ok (mOrT m m' env S) Q :=
  Ok.bnd (h.mono fun t S1 q => by
    cases t with
    | true => exact ⟨_, _, rfl, q.1 rfl⟩
    | false => exact q.2 rfl)
theorem w_and (h : Ok (ma env S) fun u S1 => Ot u S1 fun t S1 => Br t (Ok (mb env S1) Q) (Q u S1)) : Ok (mAnd ma mb env S) Q :=
  Ok.bnd (h.mono fun u S1 ⟨t, e, q0, q1⟩ => by
    try dsimp only
    rw [e]
    cases t with
    | false => exact ⟨_, _, rfl, q1 rfl⟩
    | true => exact q0 rfl)
theorem w_or (h : Ok (ma env S) fun u S1 => Ot u S1 fun t S1 => Br t (Q u S1) (Ok (mb env S1) Q)) : Ok (mOr ma mb env S) Q :=
  Ok.bnd (h.mono fun u S1 ⟨t, e, q0, q1⟩ => by
    try dsimp only
    rw [e]
    cases t with
    | true => exact ⟨_, _, rfl, q0 rfl⟩
    | false => exact q1 rfl)
theorem w_ife {m : Ev → Sto → Res Bool} (h : Ok (m env S) fun t S1 => Br t (Ok (ma env S1) Q) (Ok (mb env S1) Q)) : Ok (mIfe m ma mb env S) Q :=
  Ok.bnd (h.mono fun t S1 q => by
    cases t with
    | true => exact q.1 rfl
    | false => exact q.2 rfl)
theorem w_sub (h : Ok (ma env S) fun u S1 => Ok (mb env S1) fun v S2 => Oi u v S2 Q) : Ok (mSub ma mb env S) Q :=
  Ok.bnd (h.mono fun _ _ q => Ok.bnd (q.mono fun _ _ ⟨t, e, q⟩ => ⟨t, _, by rw [e]; rfl, q⟩))
theorem w_slc {ml mh : Ev → Sto → Res (Option Int)} (h : Ok (ma env S) fun u S1 => Ok (ml env S1) fun lo S2 => Ok (mh env S2) fun hi S3 => Ok (opS u lo hi S3) Q) : Ok (mSlc ma ml mh env S) Q :=
  Ok.bnd (h.mono fun _ _ q => Ok.bnd (q.mono fun _ _ q => Ok.bnd q))
theorem w_onone {Q : Option Int → Sto → Prop} (h : Q none S) : Ok ((fun _ S => .ok none S : Ev → Sto → Res (Option Int)) env S) Q := ⟨_, _, rfl, h⟩
theorem w_part {Q : Option Int → Sto → Prop} (h : Ok (ma env S) fun u S1 => ∃ i, u = .int i ∧ Q (some i) S1) : Ok (mPart ma env S) Q := Ok.bnd (h.mono fun u S1 ⟨i, e, q⟩ => by subst e; exact ⟨_, _, rfl, q⟩)
theorem w_cutS {x : Str} {lo hi : Option Int} (c : x.length ≤ LIM) (h : Q (.str (L2.cutS x lo hi)) S) : Ok (opS (.str x) lo hi S) Q := ⟨_, _, if_pos c, h⟩
theorem w_nil {Q : List U → Sto → Prop} (h : Q [] S) : Ok (mNil env S) Q := ⟨_, _, rfl, h⟩
theorem w_cons {ms : Ev → Sto → Res (List U)} {Q : List U → Sto → Prop} (h : Ok (ma env S) fun u S1 => Ok (ms env S1) fun us S2 => Q (u :: us) S2) : Ok (mCons ma ms env S) Q := Ok.bnd (h.mono fun _ _ q => Ok.bnd (q.mono fun _ _ q => ⟨_, _, rfl, q⟩))
theorem w_tup {ms : Ev → Sto → Res (List U)} (h : Ok (ms env S) fun us S1 => us.length ≤ LIM ∧ Q (.ref S1.length) (S1 ++ [.tup us])) : Ok (mTup ms env S) Q := Ok.bnd (h.mono fun _ _ q => ⟨_, _, if_pos q.1, q.2⟩)
theorem w_lst {ms : Ev → Sto → Res (List U)} (h : Ok (ms env S) fun us S1 => us.length ≤ LIM ∧ Q (.ref S1.length) (S1 ++ [.lst us])) : Ok (mLst ms env S) Q := Ok.bnd (h.mono fun _ _ q => ⟨_, _, if_pos q.1, q.2⟩)
theorem w_nt {nt : Nt} {ms : Ev → Sto → Res (List U)} (h : Ok (ms env S) fun us S1 => On nt us S1 Q) : Ok (mNt nt ms env S) Q := Ok.bnd (h.mono fun _ _ ⟨u, S2, e, q⟩ => ⟨u, S2, by (try dsimp only); rw [e], q⟩)
theorem w_met {T : String} {nt : Nt} {ms : Ev → Sto → Res (List U)} (h : Ok (ma env S) fun u S1 => tyM T u S1 = true ∧ Ok (ms env S1) fun us S2 => On nt (u :: us) S2 Q) : Ok (mMet T nt ma ms env S) Q :=
  Ok.bnd (h.mono fun u S1 ⟨t, q⟩ => by
    try dsimp only
    rw [if_pos t]
    exact Ok.bnd (q.mono fun _ _ ⟨u, S2, e, q⟩ => ⟨u, S2, by (try dsimp only); rw [e], q⟩))
theorem w_call {g : List U → Sto → Res U} {n : Nat} {ms : Ev → Sto → Res (List U)} (h : Ok (ms env S) fun us S1 => us.length = n ∧ Ok (g us S1) Q) : Ok (mCall g n ms env S) Q := Ok.bnd (h.mono fun us S1 ⟨e, q⟩ => by (try dsimp only); rw [if_pos e]; exact q)
theorem w_callV {C : Cal} {i n : Nat} {y : Str} {g : List U → Sto → Res U} {ms : Ev → Sto → Res (List U)} (e : env[i]? = some (some (.fn y))) (eg : C.fn y = some (n, g)) (h : Ok (mCall g n ms env S) Q) : Ok (mCallV C i ms env S) Q := by
  unfold mCallV
  rw [e]
  try dsimp only
  rw [eg]
  exact h
theorem w_kget {kvs : List (Str × U)} (h : Ok (ma env S) fun u S1 => ∃ z v, u = .str z ∧ kvs.lookup z = some v ∧ Q v S1) : Ok (mKGet kvs ma env S) Q := Ok.bnd (h.mono fun u S1 ⟨z, v, e, e2, q⟩ => by subst e; exact ⟨v, S1, by (try dsimp only); rw [e2]; rfl, q⟩)
theorem w_kin {kvs : List (Str × U)} {ng : Bool} {Q : Bool → Sto → Prop} (h : Ok (ma env S) fun u S1 => ∃ z, u = .str z ∧ Q ((kvs.lookup z).isSome != ng) S1) : Ok (mKIn kvs ng ma env S) Q := Ok.bnd (h.mono fun u S1 ⟨z, e, q⟩ => by subst e; exact ⟨_, S1, rfl, q⟩)
theorem w_fmt (h : Ok (ma env S) fun u S1 => Ok (fmtU u S1) Q) : Ok (mFmt ma env S) Q := Ok.bnd h
theorem w_fmtI {i : Int} (c : i.natAbs.log2 < 1920) (h : Q (.str (toString i)) S) : Ok (fmtU (.int i) S) Q := ⟨_, _, if_pos c, h⟩
theorem w_fmtS {x : Str} (c : x.length ≤ LIM) (h : Q (.str x) S) : Ok (fmtU (.str x) S) Q := ⟨_, _, if_pos c, h⟩
theorem w_jo {ms : Str → Ev → Sto → Res Str} (h : Ok (ms Str.empty env S) fun x S1 => Q (.str x) S1) : Ok (mJo ms env S) Q := Ok.bnd (h.mono fun _ _ q => ⟨_, _, rfl, q⟩)
theorem w_jnil {acc : Str} {Q : Str → Sto → Prop} (h : Q acc S) : Ok (jNil acc env S) Q := ⟨_, _, rfl, h⟩
theorem w_jcons {acc : Str} {ms : Str → Ev → Sto → Res Str} {Q : Str → Sto → Prop} (h : Ok (ma env S) fun u S1 => ∃ y, u = .str y ∧ (acc ++ y).length ≤ LIM ∧ Ok (ms (acc ++ y) env S1) Q) : Ok (jCons ma ms acc env S) Q :=
  Ok.bnd (h.mono fun u S1 ⟨y, e, c, q⟩ => by subst e; (try dsimp only); rw [if_pos c]; exact q)
theorem w_dict {md : Ev → Sto → Res (List (U × U))} (h : Ok (md env (S ++ [.dct []])) fun ps S2 => S2[S.length]? = some (.dct []) ∧ ∃ kvs, keysOf ps = some kvs ∧ kvs.length ≤ 15 ∧ Q (.ref S.length) (S2.set S.length (.dct (mergeU [] kvs)))) : Ok (mDict md env S) Q :=
  Ok.bnd (h.mono fun ps S2 ⟨e, kvs, ek, c, q⟩ => ⟨_, _, by (try dsimp only); rw [e, ek]; exact if_pos c, q⟩)
theorem w_dnil {Q : List (U × U) → Sto → Prop} (h : Q [] S) : Ok (dNil env S) Q := ⟨_, _, rfl, h⟩
theorem w_dcons {ms : Ev → Sto → Res (List (U × U))} {Q : List (U × U) → Sto → Prop} (h : Ok (ma env S) fun u S1 => Ok (mb env S1) fun v S2 => Ok (ms env S2) fun ps S3 => Q ((u, v) :: ps) S3) : Ok (dCons ma mb ms env S) Q :=
  Ok.bnd (h.mono fun _ _ q => Ok.bnd (q.mono fun _ _ q => Ok.bnd (q.mono fun _ _ q => ⟨_, _, rfl, q⟩)))
theorem w_ok {α : Type} {a : α} {Q : α → Sto → Prop} (h : Q a S) : Ok (.ok a S) Q := ⟨a, S, rfl, h⟩
end
/-! ### statements -/
section
variable {env : Ev} {S : Sto} {Nx : Ev → Sto → Prop} {Rt : U → Sto → Prop} {Bk Ct : Ev → Sto → Prop} {m : Ev → Sto → Res U}
theorem w_run {N : List Str} {ms : Ev → Sto → SRes} {us : List U} (h : Do (ms (startE N us) S) (fun _ S1 => Rt .non S1) Rt (fun _ _ => False) (fun _ _ => False)) : Ok (runB N ms us S) Rt := by
  unfold runB
  cases e : ms (startE N us) S with
  | nx e1 S1 => rw [e] at h; exact ⟨_, _, rfl, h⟩
  | rt u S1 => rw [e] at h; exact ⟨_, _, rfl, h⟩
  | bk e1 S1 => rw [e] at h; exact h.elim
  | ct e1 S1 => rw [e] at h; exact h.elim
  | exc x e1 S1 => rw [e] at h; exact h.elim
  | bad => rw [e] at h; exact h.elim
theorem bndE_do {α : Type} {r : Res α} {f : α → Sto → SRes} (h : Ok r fun a S1 => Do (f a S1) Nx Rt Bk Ct) : Do (bndE r env f) Nx Rt Bk Ct := by
  obtain ⟨a, S1, e, q⟩ := h
  rw [e]
  exact q
theorem d_nx (h : Nx env S) : Do (.nx env S) Nx Rt Bk Ct := h
theorem d_bk (h : Bk env S) : Do (.bk env S) Nx Rt Bk Ct := h
theorem d_ct (h : Ct env S) : Do (.ct env S) Nx Rt Bk Ct := h
theorem d_seq {a b : Ev → Sto → SRes} (h : Do (a env S) (fun e1 S1 => Do (b e1 S1) Nx Rt Bk Ct) Rt Bk Ct) : Do (mSeq a b env S) Nx Rt Bk Ct := by
  unfold mSeq
  cases e : a env S with
  | nx e1 S1 => rw [e] at h; exact h
  | rt u S1 => rw [e] at h; exact h
  | bk e1 S1 => rw [e] at h; exact h
  | ct e1 S1 => rw [e] at h; exact h
  | exc x e1 S1 => rw [e] at h; exact h.elim
  | bad => rw [e] at h; exact h.elim
theorem d_ret (h : Ok (m env S) Rt) : Do (mRet m env S) Nx Rt Bk Ct := bndE_do h
theorem d_exp (h : Ok (m env S) fun _ S1 => Nx env S1) : Do (mExpr m env S) Nx Rt Bk Ct := bndE_do h
theorem d_if {mc : Ev → Sto → Res Bool} {a b : Ev → Sto → SRes} (h : Ok (mc env S) fun t S1 => Br t (Do (a env S1) Nx Rt Bk Ct) (Do (b env S1) Nx Rt Bk Ct)) : Do (mIf mc a b env S) Nx Rt Bk Ct :=
  bndE_do (h.mono fun t S1 q => by
    cases t with
    | true => exact q.1 rfl
    | false => exact q.2 rfl)
theorem d_set {i : Nat} (h : Ok (m env S) fun u S1 => Nx (env.set i (some u)) S1) : Do (mAsg m (gNm i) env S) Nx Rt Bk Ct := bndE_do h
theorem d_asg {g : U → Ev → Sto → GRes} (h : Ok (m env S) fun u S1 => ∃ e1 S2, g u env S1 = some (e1, S2) ∧ Nx e1 S2) : Do (mAsg m g env S) Nx Rt Bk Ct := bndE_do (h.mono fun u S1 ⟨e1, S2, e, q⟩ => by (try dsimp only); rw [e]; exact q)
/-- a store into a list or dict -/
theorem d_put {mo mi : Ev → Sto → Res U} (h : Ok (m env S) fun v S1 => Ok (mo env S1) fun u S2 => Ok (mi env S2) fun w S3 => Op u w v S3 fun S4 => Nx env S4) : Do (mAsg m (gSb mo mi) env S) Nx Rt Bk Ct :=
  d_asg (h.mono fun v S1 q => by
    obtain ⟨u, S2, e1, w, S3, e2, S4, e3, q⟩ := q
    exact ⟨env, S4, by unfold gSb; rw [e1]; (try dsimp only); rw [e2]; (try dsimp only); rw [e3]; rfl, q⟩)
/-- a loop by its turns: I ahead of turn i, n turns -/
theorem d_for {mi : Ev → Sto → Res Src} {g : U → Ev → Sto → GRes} {mb : Ev → Sto → SRes} (h : Ok (mi env S) fun s S1 => ∃ (n : Nat) (I : Nat → Ev → Sto → Prop), n ≤ turns s S1 ∧ I 0 env S1 ∧
      (∀ i e S', i < n → I i e S' → ∃ u S2 e1 S3, nxt s i S' = .give u S2 ∧ g u e S2 = some (e1, S3) ∧ Do (mb e1 S3) (I (i + 1)) Rt Nx (I (i + 1))) ∧ (∀ e S', I n e S' → nxt s n S' = .stop ∧ Nx e S')) : Do (mFor mi g mb env S) Nx Rt Bk Ct := by
  refine bndE_do (h.mono fun s S1 q => ?_)
  obtain ⟨n, I, hn, h0, hs, hd⟩ := q
  have go : ∀ (f i : Nat) (e : Ev) (S' : Sto), n < f + i → i ≤ n → I i e S' → Do (forL s g mb f i e S') Nx Rt Bk Ct := by
    intro f
    induction f with
    | zero => intro i e S' h1 h2 _; omega
    | succ f ih =>
      intro i e S' h1 h2 hI
      unfold forL
      by_cases hi : i < n
      · obtain ⟨u, S2, e1, S3, q1, q2, q3⟩ := hs i e S' hi hI
        rw [q1]
        try dsimp only
        rw [q2]
        try dsimp only
        cases em : mb e1 S3 with
        | nx e4 S4 => rw [em] at q3; exact ih (i + 1) e4 S4 (by omega) hi q3
        | ct e4 S4 => rw [em] at q3; exact ih (i + 1) e4 S4 (by omega) hi q3
        | bk e4 S4 => rw [em] at q3; exact q3
        | rt u S4 => rw [em] at q3; exact q3
        | exc x e4 S4 => rw [em] at q3; exact q3.elim
        | bad => rw [em] at q3; exact q3.elim
      · have : i = n := by omega
        subst this
        obtain ⟨q1, q2⟩ := hd e S' hI
        rw [q1]
        exact q2
  exact go (turns s S1 + 1) 0 env S1 (by omega) (Nat.zero_le _) h0
/-- a comprehension by its turns -/
theorem w_lc {mi : Ev → Sto → Res Src} {g : U → Ev → Sto → GRes} {t : Ev → Sto → Res Bool} {vs : List Nat} {Q : U → Sto → Prop} (h : Ok (mi env S) fun s S1 => ∃ (n : Nat) (I : Nat → Sto → Prop), n ≤ turns s S1 ∧ I 0 (S1 ++ [.lst []]) ∧
      (∀ i S', i < n → I i S' → ∃ u S2 e1 S3, nxt s i S' = .give u S2 ∧ g u (wipeE env vs) S2 = some (e1, S3) ∧ Ok (t e1 S3) fun b S4 => (b = false → I (i + 1) S4) ∧ (b = true → Ok (m e1 S4) fun v S5 => ∃ S6, pushAt S1.length v S5 = some S6 ∧ I (i + 1) S6)) ∧
      (∀ S', I n S' → nxt s n S' = .stop ∧ Q (.ref S1.length) S')) : Ok (mLc mi g t m vs env S) Q := by
  refine Ok.bnd (h.mono fun s S1 q => ?_)
  obtain ⟨n, I, hn, h0, hs, hd⟩ := q
  have go : ∀ (f i : Nat) (S' : Sto), n < f + i → i ≤ n → I i S' → ∃ S2, lcL s g t m (wipeE env vs) S1.length f i S' = some S2 ∧ Q (.ref S1.length) S2 := by
    intro f
    induction f with
    | zero => intro i S' h1 h2 _; omega
    | succ f ih =>
      intro i S' h1 h2 hI
      unfold lcL
      by_cases hi : i < n
      · obtain ⟨u, S2, e1, S3, q1, q2, b, S4, q3, q4, q5⟩ := hs i S' hi hI
        rw [q1]
        try dsimp only
        rw [q2]
        try dsimp only
        rw [q3]
        cases b with
        | false => exact ih (i + 1) S4 (by omega) hi (q4 rfl)
        | true =>
          obtain ⟨v, S5, r1, S6, r2, r3⟩ := q5 rfl
          try dsimp only
          rw [r1]
          try dsimp only
          rw [r2]
          exact ih (i + 1) S6 (by omega) hi r3
      · have : i = n := by omega
        subst this
        obtain ⟨q1, q2⟩ := hd S' hI
        rw [q1]
        exact ⟨S', rfl, q2⟩
  obtain ⟨S2, e, q⟩ := go (turns s S1 + 1) 0 _ (by omega) (Nat.zero_le _) h0
  try dsimp only
  rw [e]
  exact ⟨_, _, rfl, q⟩
end

/-! ### what stays of a store -/
structure Ex (J : Nat → Prop) (S S' : Sto) : Prop where
  len : S.length ≤ S'.length
  tup : ∀ (k : Nat) (us : List U), S[k]? = some (.tup us) → S'[k]? = some (.tup us)
  scr : ∀ (k : Nat) (us : List U), S[k]? = some (.scr us) → S'[k]? = some (.scr us)
  old : ∀ (k : Nat), k < S.length → ¬ J k → S'[k]? = S[k]?
def none' : Nat → Prop := fun _ => False
def one' (j : Nat) : Nat → Prop := fun k => k = j
theorem Ex.refl (J : Nat → Prop) (S : Sto) : Ex J S S := ⟨Nat.le_refl _, fun _ _ h => h, fun _ _ h => h, fun _ _ _ => rfl⟩
theorem Ex.weak {J J' : Nat → Prop} {S S' : Sto} (h : Ex J S S') (w : ∀ k, k < S.length → J k → J' k) : Ex J' S S' := ⟨h.len, h.tup, h.scr, fun k hk n => h.old k hk fun q => n (w k hk q)⟩
theorem Ex.trans {J J' : Nat → Prop} {S S1 S2 : Sto} (h : Ex J S S1) (h' : Ex J' S1 S2) (w : ∀ k, k < S.length → J' k → J k) : Ex J S S2 :=
  ⟨Nat.le_trans h.len h'.len, fun k us e => h'.tup k us (h.tup k us e), fun k us e => h'.scr k us (h.scr k us e), fun k hk n => (h'.old k (Nat.lt_of_lt_of_le hk h.len) fun q => n (w k hk q)).trans (h.old k hk n)⟩
theorem Ex.then {J : Nat → Prop} {S S1 S2 : Sto} (h : Ex J S S1) (h' : Ex J S1 S2) : Ex J S S2 := h.trans h' fun _ _ q => q
theorem Ex.pure {J : Nat → Prop} {S S1 S2 : Sto} (h : Ex J S S1) (h' : Ex none' S1 S2) : Ex J S S2 := h.trans h' fun _ _ q => q.elim
theorem Ex.of {J : Nat → Prop} {S S' : Sto} (h : Ex none' S S') : Ex J S S' := h.weak fun _ _ q => q.elim
theorem Ex.snoc (J : Nat → Prop) (S : Sto) (o : O) : Ex J S (S ++ [o]) := by
  have e : ∀ k, k < S.length → (S ++ [o])[k]? = S[k]? := fun k hk => List.getElem?_append_left hk
  exact ⟨by simp, fun k us h => by rw [e k (List.getElem?_eq_some_iff.mp h).1]; exact h, fun k us h => by rw [e k (List.getElem?_eq_some_iff.mp h).1]; exact h, fun k hk _ => e k hk⟩
theorem Ex.add {J : Nat → Prop} {S S1 : Sto} (h : Ex J S S1) (o : O) : Ex J S (S1 ++ [o]) := h.then (Ex.snoc J S1 o)
theorem Ex.set {J : Nat → Prop} {S : Sto} {j : Nat} {o o' : O} (h : S[j]? = some o) (ho : o.own = true) (hj : J j) : Ex J S (S.set j o') := by
  refine ⟨by simp, fun k us e => ?_, fun k us e => ?_, fun k hk n => ?_⟩
  · have : j ≠ k := by rintro rfl; rw [h] at e; cases e; cases ho
    rw [List.getElem?_set_ne this]; exact e
  · have : j ≠ k := by rintro rfl; rw [h] at e; cases e; cases ho
    rw [List.getElem?_set_ne this]; exact e
  · have : j ≠ k := by rintro rfl; exact n hj
    rw [List.getElem?_set_ne this]
theorem at_end (S : Sto) (o : O) : (S ++ [o])[S.length]? = some o := by simp
theorem at_set {S : Sto} {j : Nat} {o o' : O} (h : S[j]? = some o) : (S.set j o')[j]? = some o' := List.getElem?_set_self (List.getElem?_eq_some_iff.mp h).1
theorem Ex.at {J : Nat → Prop} {S S' : Sto} {k : Nat} {o : O} (h : Ex J S S') (e : S[k]? = some o) (n : ¬ J k) : S'[k]? = some o := (h.old k (List.getElem?_eq_some_iff.mp e).1 n).trans e
/-! data of atoms and tuples -/
mutual
inductive Tv (S : Sto) : U → PyData → Prop
  | non : Tv S .non .none
  | bl (b : Bool) : Tv S (.bl b) (.bool b)
  | int (i : Int) : Tv S (.int i) (.int i)
  | str (x : Str) : Tv S (.str x) (.str x)
  | tup {k : Nat} {us : List U} {ds : List PyData} (e : S[k]? = some (.tup us)) (h : Tvs S us ds) : Tv S (.ref k) (.tuple ds)
inductive Tvs (S : Sto) : List U → List PyData → Prop
  | nil : Tvs S [] []
  | cons {u : U} {us : List U} {d : PyData} {ds : List PyData} (h : Tv S u d) (t : Tvs S us ds) : Tvs S (u :: us) (d :: ds)
end
mutual
theorem Tv.up {J : Nat → Prop} {S S' : Sto} (x : Ex J S S') : ∀ {u : U} {d : PyData}, Tv S u d → Tv S' u d
  | _, _, .non => .non
  | _, _, .bl b => .bl b
  | _, _, .int i => .int i
  | _, _, .str x => .str x
  | _, _, .tup e h => .tup (x.tup _ _ e) (Tvs.up x h)
theorem Tvs.up {J : Nat → Prop} {S S' : Sto} (x : Ex J S S') : ∀ {us : List U} {ds : List PyData}, Tvs S us ds → Tvs S' us ds
  | _, _, .nil => .nil
  | _, _, .cons h t => .cons (h.up x) (Tvs.up x t)
end
theorem Tvs.len {S : Sto} : ∀ {us : List U} {ds : List PyData}, Tvs S us ds → us.length = ds.length
  | _, _, .nil => rfl
  | _, _, .cons _ t => congrArg (· + 1) t.len
theorem Tvs.get {S : Sto} : ∀ {us : List U} {ds : List PyData} {i : Nat} {d : PyData}, Tvs S us ds → ds[i]? = some d → ∃ u, us[i]? = some u ∧ Tv S u d
  | _, _, _, _, .nil, e => by simp at e
  | _, _, 0, _, .cons h _, e => by simp at e; subst e; exact ⟨_, rfl, h⟩
  | _, _, i + 1, _, .cons _ t, e => by
    obtain ⟨u, h1, h2⟩ := Tvs.get (i := i) t (by simpa using e)
    exact ⟨u, by simpa using h1, h2⟩
theorem Tvs.app {S : Sto} : ∀ {us vs : List U} {ds es : List PyData}, Tvs S us ds → Tvs S vs es → Tvs S (us ++ vs) (ds ++ es)
  | _, _, _, _, .nil, h => h
  | _, _, _, _, .cons h t, h' => .cons h (t.app h')
mutual
theorem Tv.dat {S : Sto} : ∀ {u : U} {d : PyData} {n : Nat}, Tv S u d → d.depth ≤ n → Mn.dat n u S = some d
  | _, _, _, .non, _ => by unfold Mn.dat; rfl
  | _, _, _, .bl b, _ => by unfold Mn.dat; rfl
  | _, _, _, .int i, _ => by unfold Mn.dat; rfl
  | _, _, _, .str x, _ => by unfold Mn.dat; rfl
  | _, _, 0, .tup e h, hd => by simp only [PyData.depth] at hd; omega
  | _, _, n + 1, .tup e h, hd => by
    unfold Mn.dat
    rw [e]
    try dsimp only
    rw [Tvs.dats h (by simp only [PyData.depth] at hd; omega)]
    rfl
theorem Tvs.dats {S : Sto} : ∀ {us : List U} {ds : List PyData} {n : Nat}, Tvs S us ds → PyData.depthAll ds ≤ n → Mn.dats n us S = some ds
  | _, _, _, .nil, _ => by unfold Mn.dats; rfl
  | _, _, n, .cons h t, hd => by
    simp only [PyData.depthAll] at hd
    unfold Mn.dats
    rw [h.dat (by omega), t.dats (by omega)]
end

/-! leaves -/
section
variable {S : Sto} {Q : U → Sto → Prop} {T : Bool → Sto → Prop}
theorem i_lst {j : Nat} {xs : List U} {i : Int} {z : U} (h : S[j]? = some (.lst xs)) (e : L2.atI xs i = some z) (q : Q z S) : Oi (.ref j) (.int i) S Q := ⟨z, by simp only [opI, h]; exact e, q⟩
theorem i_scr {j : Nat} {xs : List U} {i : Int} {z : U} (h : S[j]? = some (.scr xs)) (e : L2.atI xs i = some z) (q : Q z S) : Oi (.ref j) (.int i) S Q := ⟨z, by simp only [opI, h]; exact e, q⟩
theorem i_tup {j : Nat} {xs : List U} {i : Int} {z : U} (h : S[j]? = some (.tup xs)) (e : L2.atI xs i = some z) (q : Q z S) : Oi (.ref j) (.int i) S Q := ⟨z, by simp only [opI, h]; exact e, q⟩
theorem i_dct {j : Nat} {kvs : List (L2.Key × U)} {w z : U} {key : L2.Key} (h : S[j]? = some (.dct kvs)) (ek : keyU w = some key) (e : getK kvs key = some z) (q : Q z S) : Oi (.ref j) w S Q := ⟨z, by simp only [opI, h, ek]; exact e, q⟩
theorem p_lst {j n : Nat} {xs : List U} {i : Int} {v : U} {R : Sto → Prop} (h : S[j]? = some (.lst xs)) (e : L2.ixN xs.length i = some n) (q : R (S.set j (.lst (xs.set n v)))) : Op (.ref j) (.int i) v S R := ⟨_, by simp only [opP, h, e]; rfl, q⟩
theorem c_of {o : PySem.CmpOp} {u v : U} {t : Bool} (e : opC o u v S = some t) (q : T t S) : Oc o u v S T := ⟨t, e, q⟩
theorem c_gt {i j : Int} (q : T (decide (j < i)) S) : Oc .Gt (.int i) (.int j) S T := ⟨_, rfl, q⟩
theorem c_lt {i j : Int} (q : T (decide (i < j)) S) : Oc .Lt (.int i) (.int j) S T := ⟨_, rfl, q⟩
theorem c_le {i j : Int} (q : T (decide (i ≤ j)) S) : Oc .LtE (.int i) (.int j) S T := ⟨_, rfl, q⟩
theorem c_ge {i j : Int} (q : T (decide (j ≤ i)) S) : Oc .GtE (.int i) (.int j) S T := ⟨_, rfl, q⟩
theorem t_bl {b : Bool} (q : T b S) : Ot (.bl b) S T := ⟨_, rfl, q⟩
theorem t_int {i : Int} (q : T (i != 0) S) : Ot (.int i) S T := ⟨_, rfl, q⟩
theorem n_of {nt : Nt} {us : List U} {w : U} {S' : Sto} (e : nt us S = some (w, S')) (q : Q w S') : On nt us S Q := ⟨w, S', e, q⟩
theorem eqF {u v : U} (h : scalU u v = true) : opEq u v S = some (decide (u = v)) := if_pos h
theorem c_eq {u v : U} (h : scalU u v = true) (q : T (decide (u = v)) S) : Oc .Eq u v S T := ⟨_, eqF h, q⟩
theorem c_ne {u v : U} (h : scalU u v = true) (q : T (!decide (u = v)) S) : Oc .NotEq u v S T := ⟨_, by show (opEq u v S).map _ = _; rw [eqF h]; rfl, q⟩
theorem c_isN {u : U} (q : T (decide (u = .non)) S) : Oc .Is u .non S T := ⟨_, by cases u <;> rfl, q⟩
theorem c_isNotN {u : U} (q : T (!decide (u = .non)) S) : Oc .IsNot u .non S T := ⟨_, by cases u <;> rfl, q⟩
end

/-! what is walked -/
section
variable {env : Ev} {S : Sto} {Q : Src → Sto → Prop} {ms : Ev → Sto → Res (List U)} {m : Ev → Sto → Res U}
theorem w_rng1 (h : Ok (ms env S) fun us S1 => ∃ n, us = [.int n] ∧ n.natAbs < 2 ^ 60 ∧ Q (.rng 0 n.toNat) S1) : Ok (iRng1 ms env S) Q := Ok.bnd (h.mono fun us S1 ⟨n, e, c, q⟩ => by subst e; exact ⟨_, _, if_pos c, q⟩)
theorem w_val (h : Ok (m env S) fun u S1 => ∃ s, srcOf u S1 = some s ∧ Q s S1) : Ok (iVal m env S) Q := Ok.bnd (h.mono fun u S1 ⟨s, e, q⟩ => ⟨s, S1, by rw [e]; rfl, q⟩)
theorem w_zip {st : Bool} (h : Ok (ms env S) fun us S1 => ∃ u v l l', us = [u, v] ∧ legOf u S1 = some l ∧ legOf v S1 = some l' ∧ Q (.zip l l' st) S1) : Ok (iZip2 st ms env S) Q :=
  Ok.bnd (h.mono fun us S1 ⟨u, v, l, l', e, e1, e2, q⟩ => by subst e; exact ⟨_, _, by simp only [zipU, e1, e2], q⟩)
theorem nxt_rng {lo : Int} {n i : Nat} (h : i < n) : nxt (.rng lo n) i S = .give (.int (lo + i)) S := if_pos h
theorem nxt_rng0 {lo : Int} {n : Nat} : nxt (.rng lo n) n S = .stop := if_neg (Nat.lt_irrefl n)
theorem nxt_txt {x : Str} {i c : Nat} (h : x.cps[i]? = some c) : nxt (.txt x) i S = .give (.str ⟨#[c]⟩) S := by simp only [nxt, h]
theorem nxt_txt0 {x : Str} : nxt (.txt x) x.length S = .stop := by
  have : x.cps[x.length]? = none := by simp [Str.length]
  simp only [nxt, this]
theorem nxt_lst {k i : Nat} {xs : List U} {u : U} (h : S[k]? = some (.lst xs)) (e : xs[i]? = some u) : nxt (.lst k) i S = .give u S := by simp only [nxt, listAt, h, e]
theorem nxt_lst0 {k : Nat} {xs : List U} (h : S[k]? = some (.lst xs)) : nxt (.lst k) xs.length S = .stop := by simp [nxt, listAt, h]
theorem nxt_tup {k i : Nat} {xs : List U} {u : U} (h : S[k]? = some (.tup xs)) (e : xs[i]? = some u) : nxt (.tup k) i S = .give u S := by simp only [nxt, tupAt, h, e]
theorem nxt_tup0 {k : Nat} {xs : List U} (h : S[k]? = some (.tup xs)) : nxt (.tup k) xs.length S = .stop := by simp [nxt, tupAt, h]
theorem nxt_zip {l l' : Leg} {st : Bool} {i : Nat} {xs ys : List U} {u v : U} (h : legU l S = some xs) (h' : legU l' S = some ys) (e : xs[i]? = some u) (e' : ys[i]? = some v) : nxt (.zip l l' st) i S = .give (.ref S.length) (S ++ [.tup [u, v]]) := by simp only [nxt, h, h', e, e']
theorem nxt_zip0 {l l' : Leg} {st : Bool} {xs ys : List U} (h : legU l S = some xs) (h' : legU l' S = some ys) (e : xs.length = ys.length) : nxt (.zip l l' st) xs.length S = .stop := by
  have e1 : xs[xs.length]? = none := by simp
  have e2 : ys[xs.length]? = none := by rw [e]; simp
  have c : xs.length ≤ xs.length ∧ xs.length ≤ ys.length ∧ (st = true → xs.length = xs.length ∧ ys.length = xs.length) := ⟨Nat.le_refl _, Nat.le_of_eq e, fun _ => ⟨rfl, e.symm⟩⟩
  unfold nxt
  dsimp only
  rw [h, h']
  dsimp only
  rw [e1]
  exact if_pos c
theorem push_at {D : Nat} {us : List U} {u : U} (h : S[D]? = some (.lst us)) (c : us.length < LIM) : pushAt D u S = some (S.set D (.lst (us ++ [u]))) := by simp only [pushAt, h]; exact if_pos c
end
/-- a range that is walked -/
theorem d_rng {env : Ev} {S : Sto} {Nx : Ev → Sto → Prop} {Rt : U → Sto → Prop} {Bk Ct : Ev → Sto → Prop} {mi : Ev → Sto → Res Src} {g : U → Ev → Sto → GRes} {mb : Ev → Sto → SRes} (h : Ok (mi env S) fun s S1 => ∃ (lo : Int) (n : Nat) (I : Nat → Ev → Sto → Prop), s = .rng lo n ∧ I 0 env S1 ∧
      (∀ i e S', i < n → I i e S' → ∃ e1 S3, g (.int (lo + i)) e S' = some (e1, S3) ∧ Do (mb e1 S3) (I (i + 1)) Rt Nx (I (i + 1))) ∧ (∀ e S', I n e S' → Nx e S')) : Do (mFor mi g mb env S) Nx Rt Bk Ct :=
  d_for (h.mono fun s S1 ⟨lo, n, I, es, h0, hs, hd⟩ => ⟨n, I, by rw [es]; exact Nat.le_refl _, h0, fun i e S' hi hI => let ⟨e1, S3, q1, q2⟩ := hs i e S' hi hI; ⟨_, S', e1, S3, by rw [es]; exact nxt_rng hi, q1, q2⟩, fun e S' hI => ⟨by rw [es]; exact nxt_rng0, hd e S' hI⟩⟩)
end Mn
set_option Elab.async false
set_option linter.all false
set_option maxRecDepth 100000
set_option maxHeartbeats 4000000
namespace Mn.D
open PySem PySem.Spec PyProof.Rows L2 Mn

def top (i : Nat) : Stmt := PySem.Challenge.pw_stampedwait_k79_deeds_written_and_read.main.body.getD i (.Pass ⟨0, 0, 0, 0⟩)
def baseS : Sto := [.tup [.str "number"], .tup [.str "number", .str "number", .str "number", .str "number"], .tup [.str "number", .str "number", .str "pace"], .tup [.str "number", .str "number"], .tup [.str "number", .str "number"], .tup [.str "number", .str "number"], .tup [.str "number"], .tup [.str "number", .str "number"], .tup [.str "number"], .tup [.str "number", .str "number"], .tup [], .tup [.str "number"], .tup [.str "number", .str "key", .str "mode"], .tup [.str "number", .str "key"], .tup [.str "number", .str "key", .str "worth"], .tup [.str "number"], .tup [.str "number"], .tup [.str "number"], .tup [.str "number"], .tup [.str "number"], .tup [.str "number"], .tup [.str "number", .str "keys"], .tup [.str "number", .str "number", .str "keys"], .tup [.str "number", .str "keys"], .tup [.str "key", .str "number"], .tup [.str "number", .str "number"], .tup []]
def kd_FORMS : List (Str × U) := [("tick", .ref 0), ("set", .ref 1), ("pace", .ref 2), ("stop", .ref 3), ("back", .ref 4), ("choose", .ref 5), ("renew", .ref 6), ("catch", .ref 7), ("mark", .ref 8), ("gone", .ref 9), ("begin", .ref 10), ("again", .ref 11), ("take", .ref 12), ("read", .ref 13), ("write", .ref 14), ("finish", .ref 15), ("tell", .ref 16), ("stay", .ref 17), ("deliver", .ref 18), ("lose", .ref 19), ("question", .ref 20), ("at", .ref 21), ("copy", .ref 22), ("now", .ref 23), ("move", .ref 24), ("form", .ref 25), ("settle", .ref 26)]
def kd_READERS : List (Str × U) := [("number", .fn "number_in"), ("key", .fn "key_in"), ("mode", .fn "mode_in"), ("worth", .fn "worth_in"), ("pace", .fn "pace_in"), ("keys", .fn "keys_in")]
/-! ### is_key -/
abbrev sD_is_key : Stmt := top 7
def N_is_key : List Str := ["thing", "sign"]
def C_is_key : Cal := calOf [] [("LONGEST", .int 6), ("LETTERS", .str "abcdefghijklmnopqrstuvwxyz")] ["isinstance", "str", "len", "all"] []
def m_is_key : Ev → Sto → SRes := (mSeq (mRet (mAnd (mNt ntIsi (mCons (mVar 0) (mCons (mC (.ty "str")) mNil))) (mAnd (toB (mChnT .LtE .LtE (mC (.int 1)) (mNt ntLen (mCons (mVar 0) mNil)) (mC (.int 6)))) (mNt ntAll (mCons (mLc (iVal (mVar 0)) (gNm 1) (fun _ S => .ok true S) (toB (mCmpT .In (mVar 1) (mC (.str "abcdefghijklmnopqrstuvwxyz")))) [1]) mNil))))) (fun env S => .nx env S))
def g_is_key : List U → Sto → Res U := runB N_is_key m_is_key
theorem ok_is_key {k : Nat} : SB k (gmOf N_is_key (defScope sD_is_key)) C_is_key true (defBody sD_is_key) m_is_key := (sb_cons (ss_ret (se_and (se_callB nt_isi boot_isinstance (by decide +kernel) (by kernel_rfl) (sa_cons (se_var (i := 0) (by rfl) (by kernel_rfl) (by kernel_rfl) (by kernel_rfl)) (sa_cons (se_mC (se_ty boot_str (by decide +kernel) (by kernel_rfl))) sa_nil rfl) rfl) rfl) (se_and (se_chn (se_mC se_int) (se_callB nt_len boot_len (by decide +kernel) (by kernel_rfl) (sa_cons (se_var (i := 0) (by rfl) (by kernel_rfl) (by kernel_rfl) (by kernel_rfl)) sa_nil rfl) rfl) (se_glc (by kernel_rfl) (by kernel_rfl) (by kernel_rfl)) rfl) (se_one (se_callB nt_all boot_all (by decide +kernel) (by kernel_rfl) (sa_cons (se_lc [("sign", 1)] (by kernel_rfl) (by kernel_rfl) rfl (si_val (se_var (i := 0) (by rfl) (by kernel_rfl) (by kernel_rfl) (by kernel_rfl))) (sg_name (i := 1) (by rfl) (by kernel_rfl)) sts_nil (se_cmp (se_var (i := 1) (by rfl) (by kernel_rfl) (by kernel_rfl) (by kernel_rfl)) (se_glc (by kernel_rfl) (by kernel_rfl) (by kernel_rfl)) rfl)) sa_nil rfl) rfl))))) sb_nil)
theorem sc_is_key : FnScope N_is_key ["thing"] (defScope sD_is_key) := ⟨by rfl, by rfl, by rfl, by decide +kernel, by rfl, by decide +kernel, by decide +kernel⟩
theorem bd_is_key (kV doc pm : Value) (an : Option Addr) (cdv ct : Value) (us : List Value) (hl : us.length = (["thing"] : List Str).length) : bindArgs (PySem.W.fnOf "is_key" "is_key" (defArgs sD_is_key) (defBody sD_is_key) (defScope sD_is_key) .none kV doc pm an cdv ct) ⟨us, []⟩ = pure ((["thing"] : List Str).zip us) := match us, hl with | [_], _ => rfl
/-! ### number_in -/
abbrev sD_number_in : Stmt := top 10
def N_number_in : List Str := ["word", "figures", "sign"]
def C_number_in : Cal := calOf [] [] ["str", "int", "len", "all"] []
def m_number_in : Ev → Sto → SRes := (mSeq (mAsg (mIfe (mCmpT .Eq (mSlc (mVar 0) (fun _ S => .ok none S) (mPart (mC (.int 1)))) (mC (.str "-"))) (mSlc (mVar 0) (mPart (mC (.int 1))) (fun _ S => .ok none S)) (mVar 0)) (gNm 1)) (mSeq (mIf (mOrT (mNotT (mChnT .LtE .LtE (mC (.int 1)) (mNt ntLen (mCons (mVar 1) mNil)) (mC (.int 30)))) (mNotT (tru (mNt ntAll (mCons (mLc (iVal (mVar 1)) (gNm 2) (fun _ S => .ok true S) (toB (mCmpT .In (mVar 2) (mC (.str "0123456789")))) [2]) mNil))))) (mSeq (mRet (mC .non)) (fun env S => .nx env S)) (fun env S => .nx env S)) (mSeq (mRet (mIfe (mCmpT .Eq (mNt ntStr (mCons (mNt ntInt (mCons (mVar 0) mNil)) mNil)) (mVar 0)) (mNt ntInt (mCons (mVar 0) mNil)) (mC .non))) (fun env S => .nx env S))))
def g_number_in : List U → Sto → Res U := runB N_number_in m_number_in
theorem ok_number_in {k : Nat} : SB k (gmOf N_number_in (defScope sD_number_in)) C_number_in true (defBody sD_number_in) m_number_in := (sb_cons (ss_asg (se_ife (st_cmp (se_slc (se_var (i := 0) (by rfl) (by kernel_rfl) (by kernel_rfl) (by kernel_rfl)) so_none (so_some (se_mC se_int))) (se_mC se_str) rfl) (se_slc (se_var (i := 0) (by rfl) (by kernel_rfl) (by kernel_rfl) (by kernel_rfl)) (so_some (se_mC se_int)) so_none) (se_var (i := 0) (by rfl) (by kernel_rfl) (by kernel_rfl) (by kernel_rfl))) (sg_name (i := 1) (by rfl) (by kernel_rfl)) rfl rfl rfl) (sb_cons (ss_if (SW.st (sw_or (st_not (st_chn (se_mC se_int) (se_callB nt_len boot_len (by decide +kernel) (by kernel_rfl) (sa_cons (se_var (i := 1) (by rfl) (by kernel_rfl) (by kernel_rfl) (by kernel_rfl)) sa_nil rfl) rfl) (se_mC se_int) rfl)) (sw_or1 (st_not (st_val (se_callB nt_all boot_all (by decide +kernel) (by kernel_rfl) (sa_cons (se_lc [("sign", 2)] (by kernel_rfl) (by kernel_rfl) rfl (si_val (se_var (i := 1) (by rfl) (by kernel_rfl) (by kernel_rfl) (by kernel_rfl))) (sg_name (i := 2) (by rfl) (by kernel_rfl)) sts_nil (se_cmp (se_var (i := 2) (by rfl) (by kernel_rfl) (by kernel_rfl) (by kernel_rfl)) (se_mC se_str) rfl)) sa_nil rfl) rfl) rfl))))) (sb_cons (ss_ret (se_mC se_none)) sb_nil) sb_nil) (sb_cons (ss_ret (se_ife (st_cmp (se_callT nt_str boot_str (by decide +kernel) (by kernel_rfl) (sa_cons (se_callT nt_int boot_int (by decide +kernel) (by kernel_rfl) (sa_cons (se_var (i := 0) (by rfl) (by kernel_rfl) (by kernel_rfl) (by kernel_rfl)) sa_nil rfl) rfl) sa_nil rfl) rfl) (se_var (i := 0) (by rfl) (by kernel_rfl) (by kernel_rfl) (by kernel_rfl)) rfl) (se_callT nt_int boot_int (by decide +kernel) (by kernel_rfl) (sa_cons (se_var (i := 0) (by rfl) (by kernel_rfl) (by kernel_rfl) (by kernel_rfl)) sa_nil rfl) rfl) (se_mC se_none))) sb_nil)))
theorem sc_number_in : FnScope N_number_in ["word"] (defScope sD_number_in) := ⟨by rfl, by rfl, by rfl, by decide +kernel, by rfl, by decide +kernel, by decide +kernel⟩
theorem bd_number_in (kV doc pm : Value) (an : Option Addr) (cdv ct : Value) (us : List Value) (hl : us.length = (["word"] : List Str).length) : bindArgs (PySem.W.fnOf "number_in" "number_in" (defArgs sD_number_in) (defBody sD_number_in) (defScope sD_number_in) .none kV doc pm an cdv ct) ⟨us, []⟩ = pure ((["word"] : List Str).zip us) := match us, hl with | [_], _ => rfl
/-! ### numbers_in -/
abbrev sD_numbers_in : Stmt := top 11
def N_numbers_in : List Str := ["word", "mark", "found", "part"]
def C_numbers_in : Cal := calOf [("number_in", 1, g_number_in)] [] ["tuple"] []
def m_numbers_in : Ev → Sto → SRes := (mSeq (mAsg (mLc (iVal (mMet "str" ntSplit (mVar 0) (mCons (mVar 1) mNil))) (gNm 3) (fun _ S => .ok true S) (mCall g_number_in 1 (mCons (mVar 3) mNil)) [3]) (gNm 2)) (mSeq (mRet (mIfe (mCmpT .In (mC .non) (mVar 2)) (mC .non) (mNt ntTup (mCons (mVar 2) mNil)))) (fun env S => .nx env S)))
def g_numbers_in : List U → Sto → Res U := runB N_numbers_in m_numbers_in
theorem ok_numbers_in {k : Nat} : SB k (gmOf N_numbers_in (defScope sD_numbers_in)) C_numbers_in true (defBody sD_numbers_in) m_numbers_in := (sb_cons (ss_setLc (i := 2) [("part", 3)] (by rfl) (by kernel_rfl) (by kernel_rfl) (by kernel_rfl) rfl (si_val (se_met nt_split PySem.F.plainAttrs_str PySem.F.slot_str_split PySem.F.type_str_split (se_var (i := 0) (by rfl) (by kernel_rfl) (by kernel_rfl) (by kernel_rfl)) (sa_cons (se_var (i := 1) (by rfl) (by kernel_rfl) (by kernel_rfl) (by kernel_rfl)) sa_nil rfl) rfl rfl (by decide) rfl)) (sg_name (i := 3) (by rfl) (by kernel_rfl)) sts_nil (se_call (g := g_number_in) (n := 1) (by kernel_rfl) (by kernel_rfl) (by kernel_rfl) (sa_cons (se_var (i := 3) (by rfl) (by kernel_rfl) (by kernel_rfl) (by kernel_rfl)) sa_nil rfl) rfl)) (sb_cons (ss_ret (se_ife (st_cmp (se_mC se_none) (se_var (i := 2) (by rfl) (by kernel_rfl) (by kernel_rfl) (by kernel_rfl)) rfl) (se_mC se_none) (se_callT nt_tup boot_tuple (by decide +kernel) (by kernel_rfl) (sa_cons (se_var (i := 2) (by rfl) (by kernel_rfl) (by kernel_rfl) (by kernel_rfl)) sa_nil rfl) rfl))) sb_nil))
theorem sc_numbers_in : FnScope N_numbers_in ["word", "mark"] (defScope sD_numbers_in) := ⟨by rfl, by rfl, by rfl, by decide +kernel, by rfl, by decide +kernel, by decide +kernel⟩
theorem bd_numbers_in (kV doc pm : Value) (an : Option Addr) (cdv ct : Value) (us : List Value) (hl : us.length = (["word", "mark"] : List Str).length) : bindArgs (PySem.W.fnOf "numbers_in" "numbers_in" (defArgs sD_numbers_in) (defBody sD_numbers_in) (defScope sD_numbers_in) .none kV doc pm an cdv ct) ⟨us, []⟩ = pure ((["word", "mark"] : List Str).zip us) := match us, hl with | [_, _], _ => rfl
/-! ### pace_in -/
abbrev sD_pace_in : Stmt := top 12
def N_pace_in : List Str := ["word", "found"]
def C_pace_in : Cal := calOf [("numbers_in", 2, g_numbers_in)] [] ["len"] []
def m_pace_in : Ev → Sto → SRes := (mSeq (mAsg (mCall g_numbers_in 2 (mCons (mVar 0) (mCons (mC (.str "/")) mNil))) (gNm 1)) (mSeq (mRet (mIfe (mAndT (mCmpT .IsNot (mVar 1) (mC .non)) (mCmpT .Eq (mNt ntLen (mCons (mVar 1) mNil)) (mC (.int 2)))) (mVar 1) (mC .non))) (fun env S => .nx env S)))
def g_pace_in : List U → Sto → Res U := runB N_pace_in m_pace_in
theorem ok_pace_in {k : Nat} : SB k (gmOf N_pace_in (defScope sD_pace_in)) C_pace_in true (defBody sD_pace_in) m_pace_in := (sb_cons (ss_asg (se_call (g := g_numbers_in) (n := 2) (by kernel_rfl) (by kernel_rfl) (by kernel_rfl) (sa_cons (se_var (i := 0) (by rfl) (by kernel_rfl) (by kernel_rfl) (by kernel_rfl)) (sa_cons (se_mC se_str) sa_nil rfl) rfl) rfl) (sg_name (i := 1) (by rfl) (by kernel_rfl)) rfl rfl rfl) (sb_cons (ss_ret (se_ife (SW.st (sw_and (st_cmp (se_var (i := 1) (by rfl) (by kernel_rfl) (by kernel_rfl) (by kernel_rfl)) (se_mC se_none) rfl) (sw_and1 (st_cmp (se_callB nt_len boot_len (by decide +kernel) (by kernel_rfl) (sa_cons (se_var (i := 1) (by rfl) (by kernel_rfl) (by kernel_rfl) (by kernel_rfl)) sa_nil rfl) rfl) (se_mC se_int) rfl)))) (se_var (i := 1) (by rfl) (by kernel_rfl) (by kernel_rfl) (by kernel_rfl)) (se_mC se_none))) sb_nil))
theorem sc_pace_in : FnScope N_pace_in ["word"] (defScope sD_pace_in) := ⟨by rfl, by rfl, by rfl, by decide +kernel, by rfl, by decide +kernel, by decide +kernel⟩
theorem bd_pace_in (kV doc pm : Value) (an : Option Addr) (cdv ct : Value) (us : List Value) (hl : us.length = (["word"] : List Str).length) : bindArgs (PySem.W.fnOf "pace_in" "pace_in" (defArgs sD_pace_in) (defBody sD_pace_in) (defScope sD_pace_in) .none kV doc pm an cdv ct) ⟨us, []⟩ = pure ((["word"] : List Str).zip us) := match us, hl with | [_], _ => rfl
/-! ### keys_in -/
abbrev sD_keys_in : Stmt := top 13
def N_keys_in : List Str := ["word", "found", "one"]
def C_keys_in : Cal := calOf [("is_key", 1, g_is_key)] [] ["all", "tuple"] []
def m_keys_in : Ev → Sto → SRes := (mSeq (mAsg (mMet "str" ntSplit (mVar 0) (mCons (mC (.str ",")) mNil)) (gNm 1)) (mSeq (mRet (mIfe (tru (mNt ntAll (mCons (mLc (iVal (mVar 1)) (gNm 2) (fun _ S => .ok true S) (mCall g_is_key 1 (mCons (mVar 2) mNil)) [2]) mNil))) (mNt ntTup (mCons (mVar 1) mNil)) (mC .non))) (fun env S => .nx env S)))
def g_keys_in : List U → Sto → Res U := runB N_keys_in m_keys_in
theorem ok_keys_in {k : Nat} : SB k (gmOf N_keys_in (defScope sD_keys_in)) C_keys_in true (defBody sD_keys_in) m_keys_in := (sb_cons (ss_asg (se_met nt_split PySem.F.plainAttrs_str PySem.F.slot_str_split PySem.F.type_str_split (se_var (i := 0) (by rfl) (by kernel_rfl) (by kernel_rfl) (by kernel_rfl)) (sa_cons (se_mC se_str) sa_nil rfl) rfl rfl (by decide) rfl) (sg_name (i := 1) (by rfl) (by kernel_rfl)) rfl rfl rfl) (sb_cons (ss_ret (se_ife (st_val (se_callB nt_all boot_all (by decide +kernel) (by kernel_rfl) (sa_cons (se_lc [("one", 2)] (by kernel_rfl) (by kernel_rfl) rfl (si_val (se_var (i := 1) (by rfl) (by kernel_rfl) (by kernel_rfl) (by kernel_rfl))) (sg_name (i := 2) (by rfl) (by kernel_rfl)) sts_nil (se_call (g := g_is_key) (n := 1) (by kernel_rfl) (by kernel_rfl) (by kernel_rfl) (sa_cons (se_var (i := 2) (by rfl) (by kernel_rfl) (by kernel_rfl) (by kernel_rfl)) sa_nil rfl) rfl)) sa_nil rfl) rfl) rfl) (se_callT nt_tup boot_tuple (by decide +kernel) (by kernel_rfl) (sa_cons (se_var (i := 1) (by rfl) (by kernel_rfl) (by kernel_rfl) (by kernel_rfl)) sa_nil rfl) rfl) (se_mC se_none))) sb_nil))
theorem sc_keys_in : FnScope N_keys_in ["word"] (defScope sD_keys_in) := ⟨by rfl, by rfl, by rfl, by decide +kernel, by rfl, by decide +kernel, by decide +kernel⟩
theorem bd_keys_in (kV doc pm : Value) (an : Option Addr) (cdv ct : Value) (us : List Value) (hl : us.length = (["word"] : List Str).length) : bindArgs (PySem.W.fnOf "keys_in" "keys_in" (defArgs sD_keys_in) (defBody sD_keys_in) (defScope sD_keys_in) .none kV doc pm an cdv ct) ⟨us, []⟩ = pure ((["word"] : List Str).zip us) := match us, hl with | [_], _ => rfl
/-! ### key_in -/
abbrev sD_key_in : Stmt := top 14
def N_key_in : List Str := ["word"]
def C_key_in : Cal := calOf [("is_key", 1, g_is_key)] [] [] []
def m_key_in : Ev → Sto → SRes := (mSeq (mRet (mIfe (tru (mCall g_is_key 1 (mCons (mVar 0) mNil))) (mVar 0) (mC .non))) (fun env S => .nx env S))
def g_key_in : List U → Sto → Res U := runB N_key_in m_key_in
theorem ok_key_in {k : Nat} : SB k (gmOf N_key_in (defScope sD_key_in)) C_key_in true (defBody sD_key_in) m_key_in := (sb_cons (ss_ret (se_ife (st_val (se_call (g := g_is_key) (n := 1) (by kernel_rfl) (by kernel_rfl) (by kernel_rfl) (sa_cons (se_var (i := 0) (by rfl) (by kernel_rfl) (by kernel_rfl) (by kernel_rfl)) sa_nil rfl) rfl) rfl) (se_var (i := 0) (by rfl) (by kernel_rfl) (by kernel_rfl) (by kernel_rfl)) (se_mC se_none))) sb_nil)
theorem sc_key_in : FnScope N_key_in ["word"] (defScope sD_key_in) := ⟨by rfl, by rfl, by rfl, by decide +kernel, by rfl, by decide +kernel, by decide +kernel⟩
theorem bd_key_in (kV doc pm : Value) (an : Option Addr) (cdv ct : Value) (us : List Value) (hl : us.length = (["word"] : List Str).length) : bindArgs (PySem.W.fnOf "key_in" "key_in" (defArgs sD_key_in) (defBody sD_key_in) (defScope sD_key_in) .none kV doc pm an cdv ct) ⟨us, []⟩ = pure ((["word"] : List Str).zip us) := match us, hl with | [_], _ => rfl
/-! ### mode_in -/
abbrev sD_mode_in : Stmt := top 15
def N_mode_in : List Str := ["word"]
def C_mode_in : Cal := calOf [] [] [] []
def m_mode_in : Ev → Sto → SRes := (mSeq (mRet (mIfe (mCmpT .In (mVar 0) (mTup (mCons (mC (.str "read")) (mCons (mC (.str "write")) mNil)))) (mVar 0) (mC .non))) (fun env S => .nx env S))
def g_mode_in : List U → Sto → Res U := runB N_mode_in m_mode_in
theorem ok_mode_in {k : Nat} : SB k (gmOf N_mode_in (defScope sD_mode_in)) C_mode_in true (defBody sD_mode_in) m_mode_in := (sb_cons (ss_ret (se_ife (st_cmp (se_var (i := 0) (by rfl) (by kernel_rfl) (by kernel_rfl) (by kernel_rfl)) (se_tup (sa_cons (se_mC se_str) (sa_cons (se_mC se_str) sa_nil rfl) rfl)) rfl) (se_var (i := 0) (by rfl) (by kernel_rfl) (by kernel_rfl) (by kernel_rfl)) (se_mC se_none))) sb_nil)
theorem sc_mode_in : FnScope N_mode_in ["word"] (defScope sD_mode_in) := ⟨by rfl, by rfl, by rfl, by decide +kernel, by rfl, by decide +kernel, by decide +kernel⟩
theorem bd_mode_in (kV doc pm : Value) (an : Option Addr) (cdv ct : Value) (us : List Value) (hl : us.length = (["word"] : List Str).length) : bindArgs (PySem.W.fnOf "mode_in" "mode_in" (defArgs sD_mode_in) (defBody sD_mode_in) (defScope sD_mode_in) .none kV doc pm an cdv ct) ⟨us, []⟩ = pure ((["word"] : List Str).zip us) := match us, hl with | [_], _ => rfl
/-! ### worth_in -/
abbrev sD_worth_in : Stmt := top 16
def N_worth_in : List Str := ["word", "found"]
def C_worth_in : Cal := calOf [("numbers_in", 2, g_numbers_in)] [("MOST_FIELDS", .int 4)] ["len"] []
def m_worth_in : Ev → Sto → SRes := (mSeq (mAsg (mCall g_numbers_in 2 (mCons (mVar 0) (mCons (mC (.str ",")) mNil))) (gNm 1)) (mSeq (mRet (mIfe (mAndT (mCmpT .IsNot (mVar 1) (mC .non)) (mCmpT .LtE (mNt ntLen (mCons (mVar 1) mNil)) (mC (.int 4)))) (mVar 1) (mC .non))) (fun env S => .nx env S)))
def g_worth_in : List U → Sto → Res U := runB N_worth_in m_worth_in
theorem ok_worth_in {k : Nat} : SB k (gmOf N_worth_in (defScope sD_worth_in)) C_worth_in true (defBody sD_worth_in) m_worth_in := (sb_cons (ss_asg (se_call (g := g_numbers_in) (n := 2) (by kernel_rfl) (by kernel_rfl) (by kernel_rfl) (sa_cons (se_var (i := 0) (by rfl) (by kernel_rfl) (by kernel_rfl) (by kernel_rfl)) (sa_cons (se_mC se_str) sa_nil rfl) rfl) rfl) (sg_name (i := 1) (by rfl) (by kernel_rfl)) rfl rfl rfl) (sb_cons (ss_ret (se_ife (SW.st (sw_and (st_cmp (se_var (i := 1) (by rfl) (by kernel_rfl) (by kernel_rfl) (by kernel_rfl)) (se_mC se_none) rfl) (sw_and1 (st_cmp (se_callB nt_len boot_len (by decide +kernel) (by kernel_rfl) (sa_cons (se_var (i := 1) (by rfl) (by kernel_rfl) (by kernel_rfl) (by kernel_rfl)) sa_nil rfl) rfl) (se_glc (by kernel_rfl) (by kernel_rfl) (by kernel_rfl)) rfl)))) (se_var (i := 1) (by rfl) (by kernel_rfl) (by kernel_rfl) (by kernel_rfl)) (se_mC se_none))) sb_nil))
theorem sc_worth_in : FnScope N_worth_in ["word"] (defScope sD_worth_in) := ⟨by rfl, by rfl, by rfl, by decide +kernel, by rfl, by decide +kernel, by decide +kernel⟩
theorem bd_worth_in (kV doc pm : Value) (an : Option Addr) (cdv ct : Value) (us : List Value) (hl : us.length = (["word"] : List Str).length) : bindArgs (PySem.W.fnOf "worth_in" "worth_in" (defArgs sD_worth_in) (defBody sD_worth_in) (defScope sD_worth_in) .none kV doc pm an cdv ct) ⟨us, []⟩ = pure ((["word"] : List Str).zip us) := match us, hl with | [_], _ => rfl
/-! ### shown_thing -/
abbrev sD_shown_thing : Stmt := top 18
def N_shown_thing : List Str := ["kind", "thing", "one"]
def C_shown_thing : Cal := calOf [] [] ["str"] []
def m_shown_thing : Ev → Sto → SRes := (mSeq (mIf (mCmpT .Eq (mVar 0) (mC (.str "pace"))) (mSeq (mRet (mJo (jCons (mFmt (mSub (mVar 1) (mC (.int 0)))) (jCons (mC (.str "/")) (jCons (mFmt (mSub (mVar 1) (mC (.int 1)))) jNil))))) (fun env S => .nx env S)) (fun env S => .nx env S)) (mSeq (mIf (mCmpT .In (mVar 0) (mTup (mCons (mC (.str "worth")) (mCons (mC (.str "keys")) mNil)))) (mSeq (mRet (mMet "str" ntJoin (mC (.str ",")) (mCons (mLc (iVal (mVar 1)) (gNm 2) (fun _ S => .ok true S) (mNt ntStr (mCons (mVar 2) mNil)) [2]) mNil))) (fun env S => .nx env S)) (fun env S => .nx env S)) (mSeq (mRet (mNt ntStr (mCons (mVar 1) mNil))) (fun env S => .nx env S))))
def g_shown_thing : List U → Sto → Res U := runB N_shown_thing m_shown_thing
theorem ok_shown_thing {k : Nat} : SB k (gmOf N_shown_thing (defScope sD_shown_thing)) C_shown_thing true (defBody sD_shown_thing) m_shown_thing := (sb_cons (ss_if (st_cmp (se_var (i := 0) (by rfl) (by kernel_rfl) (by kernel_rfl) (by kernel_rfl)) (se_mC se_str) rfl) (sb_cons (ss_ret (se_joined (sj_cons (se_fmt (se_sub (se_var (i := 1) (by rfl) (by kernel_rfl) (by kernel_rfl) (by kernel_rfl)) (se_mC se_int) rfl)) (sj_cons (se_mC se_str) (sj_cons (se_fmt (se_sub (se_var (i := 1) (by rfl) (by kernel_rfl) (by kernel_rfl) (by kernel_rfl)) (se_mC se_int) rfl)) sj_nil))))) sb_nil) sb_nil) (sb_cons (ss_if (st_cmp (se_var (i := 0) (by rfl) (by kernel_rfl) (by kernel_rfl) (by kernel_rfl)) (se_tup (sa_cons (se_mC se_str) (sa_cons (se_mC se_str) sa_nil rfl) rfl)) rfl) (sb_cons (ss_ret (se_met nt_join PySem.F.plainAttrs_str PySem.F.slot_str_join PySem.F.type_str_join (se_mC se_str) (sa_cons (se_lc [("one", 2)] (by kernel_rfl) (by kernel_rfl) rfl (si_val (se_var (i := 1) (by rfl) (by kernel_rfl) (by kernel_rfl) (by kernel_rfl))) (sg_name (i := 2) (by rfl) (by kernel_rfl)) sts_nil (se_callT nt_str boot_str (by decide +kernel) (by kernel_rfl) (sa_cons (se_var (i := 2) (by rfl) (by kernel_rfl) (by kernel_rfl) (by kernel_rfl)) sa_nil rfl) rfl)) sa_nil rfl) rfl rfl (by decide) rfl)) sb_nil) sb_nil) (sb_cons (ss_ret (se_callT nt_str boot_str (by decide +kernel) (by kernel_rfl) (sa_cons (se_var (i := 1) (by rfl) (by kernel_rfl) (by kernel_rfl) (by kernel_rfl)) sa_nil rfl) rfl)) sb_nil)))
theorem sc_shown_thing : FnScope N_shown_thing ["kind", "thing"] (defScope sD_shown_thing) := ⟨by rfl, by rfl, by rfl, by decide +kernel, by rfl, by decide +kernel, by decide +kernel⟩
theorem bd_shown_thing (kV doc pm : Value) (an : Option Addr) (cdv ct : Value) (us : List Value) (hl : us.length = (["kind", "thing"] : List Str).length) : bindArgs (PySem.W.fnOf "shown_thing" "shown_thing" (defArgs sD_shown_thing) (defBody sD_shown_thing) (defScope sD_shown_thing) .none kV doc pm an cdv ct) ⟨us, []⟩ = pure ((["kind", "thing"] : List Str).zip us) := match us, hl with | [_, _], _ => rfl
/-! ### shown_deed -/
abbrev sD_shown_deed : Stmt := top 19
def N_shown_deed : List Str := ["deed", "word", "things", "kind", "thing"]
def C_shown_deed : Cal := calOf [("shown_thing", 2, g_shown_thing)] [] ["zip"] [("FORMS", kd_FORMS)]
def m_shown_deed : Ev → Sto → SRes := (mSeq (mAsg (mVar 0) (gStar (gsCons (gNm 1) (gsCons (gNm 2) gsNil)))) (mSeq (mRet (mMet "str" ntJoin (mC (.str " ")) (mCons (mBin .Add (mLst (mCons (mVar 1) mNil)) (mLc (iZip2 true (mCons (mKGet kd_FORMS (mVar 1)) (mCons (mVar 2) mNil))) (gTp 2 (gsCons (gNm 3) (gsCons (gNm 4) gsNil))) (fun _ S => .ok true S) (mCall g_shown_thing 2 (mCons (mVar 3) (mCons (mVar 4) mNil))) [3, 4])) mNil))) (fun env S => .nx env S)))
def g_shown_deed : List U → Sto → Res U := runB N_shown_deed m_shown_deed
theorem ok_shown_deed {k : Nat} : SB k (gmOf N_shown_deed (defScope sD_shown_deed)) C_shown_deed true (defBody sD_shown_deed) m_shown_deed := (sb_cons (ss_asg (se_var (i := 0) (by rfl) (by kernel_rfl) (by kernel_rfl) (by kernel_rfl)) (sg_star (sgs_cons (sg_name (i := 1) (by rfl) (by kernel_rfl)) (sgs_cons (sg_name (i := 2) (by rfl) (by kernel_rfl)) sgs_nil rfl) rfl) rfl rfl) rfl rfl rfl) (sb_cons (ss_ret (se_met nt_join PySem.F.plainAttrs_str PySem.F.slot_str_join PySem.F.type_str_join (se_mC se_str) (sa_cons (se_bin (se_lst (sa_cons (se_var (i := 1) (by rfl) (by kernel_rfl) (by kernel_rfl) (by kernel_rfl)) sa_nil rfl)) (se_lc [("kind", 3), ("thing", 4)] (by kernel_rfl) (by kernel_rfl) rfl (si_zipS (by kernel_rfl) (by decide +kernel) (sa_cons (se_kget (kvs := kd_FORMS) (by kernel_rfl) (se_var (i := 1) (by rfl) (by kernel_rfl) (by kernel_rfl) (by kernel_rfl)) (by kernel_rfl) rfl) (sa_cons (se_var (i := 2) (by rfl) (by kernel_rfl) (by kernel_rfl) (by kernel_rfl)) sa_nil rfl) rfl) rfl) (sg_tup (sgs_cons (sg_name (i := 3) (by rfl) (by kernel_rfl)) (sgs_cons (sg_name (i := 4) (by rfl) (by kernel_rfl)) sgs_nil rfl) rfl) rfl) sts_nil (se_call (g := g_shown_thing) (n := 2) (by kernel_rfl) (by kernel_rfl) (by kernel_rfl) (sa_cons (se_var (i := 3) (by rfl) (by kernel_rfl) (by kernel_rfl) (by kernel_rfl)) (sa_cons (se_var (i := 4) (by rfl) (by kernel_rfl) (by kernel_rfl) (by kernel_rfl)) sa_nil rfl) rfl) rfl))) sa_nil rfl) rfl rfl (by decide) rfl)) sb_nil))
theorem sc_shown_deed : FnScope N_shown_deed ["deed"] (defScope sD_shown_deed) := ⟨by rfl, by rfl, by rfl, by decide +kernel, by rfl, by decide +kernel, by decide +kernel⟩
theorem bd_shown_deed (kV doc pm : Value) (an : Option Addr) (cdv ct : Value) (us : List Value) (hl : us.length = (["deed"] : List Str).length) : bindArgs (PySem.W.fnOf "shown_deed" "shown_deed" (defArgs sD_shown_deed) (defBody sD_shown_deed) (defScope sD_shown_deed) .none kV doc pm an cdv ct) ⟨us, []⟩ = pure ((["deed"] : List Str).zip us) := match us, hl with | [_], _ => rfl
/-! ### read_deed -/
-- out of reach: Raise :: raise NoText(0)
-- out of reach: Raise :: raise NoText(0)
-- out of reach: Raise :: raise NoText(0)
abbrev sD_read_deed : Stmt := top 20
def N_read_deed : List Str := ["text", "found", "word", "kind", "one", "reader", "words"]
def C_read_deed : Cal := calOf [("number_in", 1, g_number_in), ("key_in", 1, g_key_in), ("mode_in", 1, g_mode_in), ("worth_in", 1, g_worth_in), ("pace_in", 1, g_pace_in), ("keys_in", 1, g_keys_in)] [] ["tuple", "zip", "len", "isinstance", "str"] [("FORMS", kd_FORMS), ("READERS", kd_READERS)]
def m_read_deed : Ev → Sto → SRes := (mSeq (mIf (mNotT (tru (mNt ntIsi (mCons (mVar 0) (mCons (mC (.ty "str")) mNil))))) (mSeq (fun _ _ => .bad) (fun env S => .nx env S)) (fun env S => .nx env S)) (mSeq (mAsg (mMet "str" ntSplit (mVar 0) (mCons (mC (.str " ")) mNil)) (gStar (gsCons (gNm 2) (gsCons (gNm 6) gsNil)))) (mSeq (mIf (mOrT (mKIn kd_FORMS true (mVar 2)) (mCmpT .NotEq (mNt ntLen (mCons (mVar 6) mNil)) (mNt ntLen (mCons (mKGet kd_FORMS (mVar 2)) mNil)))) (mSeq (fun _ _ => .bad) (fun env S => .nx env S)) (fun env S => .nx env S)) (mSeq (mAsg (mLst mNil) (gNm 1)) (mSeq (mFor (iZip2 true (mCons (mKGet kd_FORMS (mVar 2)) (mCons (mVar 6) mNil))) (gTp 2 (gsCons (gNm 3) (gsCons (gNm 4) gsNil))) (mSeq (mAsg (mKGet kd_READERS (mVar 3)) (gNm 5)) (mSeq (mExpr (mMet "list" ntAppend (mVar 1) (mCons (mCallV C_read_deed 5 (mCons (mVar 4) mNil)) mNil))) (fun env S => .nx env S)))) (mSeq (mIf (mCmpT .In (mC .non) (mVar 1)) (mSeq (fun _ _ => .bad) (fun env S => .nx env S)) (fun env S => .nx env S)) (mSeq (mRet (mBin .Add (mTup (mCons (mVar 2) mNil)) (mNt ntTup (mCons (mVar 1) mNil)))) (fun env S => .nx env S))))))))
def g_read_deed : List U → Sto → Res U := runB N_read_deed m_read_deed
theorem ok_read_deed {k : Nat} : SB k (gmOf N_read_deed (defScope sD_read_deed)) C_read_deed true (defBody sD_read_deed) m_read_deed := (sb_cons (ss_if (st_not (st_val (se_callB nt_isi boot_isinstance (by decide +kernel) (by kernel_rfl) (sa_cons (se_var (i := 0) (by rfl) (by kernel_rfl) (by kernel_rfl) (by kernel_rfl)) (sa_cons (se_mC (se_ty boot_str (by decide +kernel) (by kernel_rfl))) sa_nil rfl) rfl) rfl) rfl)) (sb_cons ss_bad sb_nil) sb_nil) (sb_cons (ss_asg (se_met nt_split PySem.F.plainAttrs_str PySem.F.slot_str_split PySem.F.type_str_split (se_var (i := 0) (by rfl) (by kernel_rfl) (by kernel_rfl) (by kernel_rfl)) (sa_cons (se_mC se_str) sa_nil rfl) rfl rfl (by decide) rfl) (sg_star (sgs_cons (sg_name (i := 2) (by rfl) (by kernel_rfl)) (sgs_cons (sg_name (i := 6) (by rfl) (by kernel_rfl)) sgs_nil rfl) rfl) rfl rfl) rfl rfl rfl) (sb_cons (ss_if (SW.st (sw_or (st_kin (kvs := kd_FORMS) true (by kernel_rfl) (se_var (i := 2) (by rfl) (by kernel_rfl) (by kernel_rfl) (by kernel_rfl)) (by kernel_rfl)) (sw_or1 (st_cmp (se_callB nt_len boot_len (by decide +kernel) (by kernel_rfl) (sa_cons (se_var (i := 6) (by rfl) (by kernel_rfl) (by kernel_rfl) (by kernel_rfl)) sa_nil rfl) rfl) (se_callB nt_len boot_len (by decide +kernel) (by kernel_rfl) (sa_cons (se_kget (kvs := kd_FORMS) (by kernel_rfl) (se_var (i := 2) (by rfl) (by kernel_rfl) (by kernel_rfl) (by kernel_rfl)) (by kernel_rfl) rfl) sa_nil rfl) rfl) rfl)))) (sb_cons ss_bad sb_nil) sb_nil) (sb_cons (ss_asg (se_lst sa_nil) (sg_name (i := 1) (by rfl) (by kernel_rfl)) rfl rfl rfl) (sb_cons (ss_for (si_zipS (by kernel_rfl) (by decide +kernel) (sa_cons (se_kget (kvs := kd_FORMS) (by kernel_rfl) (se_var (i := 2) (by rfl) (by kernel_rfl) (by kernel_rfl) (by kernel_rfl)) (by kernel_rfl) rfl) (sa_cons (se_var (i := 6) (by rfl) (by kernel_rfl) (by kernel_rfl) (by kernel_rfl)) sa_nil rfl) rfl) rfl) (sg_tup (sgs_cons (sg_name (i := 3) (by rfl) (by kernel_rfl)) (sgs_cons (sg_name (i := 4) (by rfl) (by kernel_rfl)) sgs_nil rfl) rfl) rfl) (sb_cons (ss_asg (se_kget (kvs := kd_READERS) (by kernel_rfl) (se_var (i := 3) (by rfl) (by kernel_rfl) (by kernel_rfl) (by kernel_rfl)) (by kernel_rfl) rfl) (sg_name (i := 5) (by rfl) (by kernel_rfl)) rfl rfl rfl) (sb_cons (ss_expr (se_met nt_append PySem.F.plainAttrs_list PySem.F.slot_list_append PySem.F.type_list_append (se_var (i := 1) (by rfl) (by kernel_rfl) (by kernel_rfl) (by kernel_rfl)) (sa_cons (se_callV (i := 5) (by rfl) (by kernel_rfl) (by kernel_rfl) (by kernel_rfl) (sa_cons (se_var (i := 4) (by rfl) (by kernel_rfl) (by kernel_rfl) (by kernel_rfl)) sa_nil rfl) rfl) sa_nil rfl) rfl rfl (by decide) rfl) rfl) sb_nil)) rfl) (sb_cons (ss_if (st_cmp (se_mC se_none) (se_var (i := 1) (by rfl) (by kernel_rfl) (by kernel_rfl) (by kernel_rfl)) rfl) (sb_cons ss_bad sb_nil) sb_nil) (sb_cons (ss_ret (se_bin (se_tup (sa_cons (se_var (i := 2) (by rfl) (by kernel_rfl) (by kernel_rfl) (by kernel_rfl)) sa_nil rfl)) (se_callT nt_tup boot_tuple (by decide +kernel) (by kernel_rfl) (sa_cons (se_var (i := 1) (by rfl) (by kernel_rfl) (by kernel_rfl) (by kernel_rfl)) sa_nil rfl) rfl))) sb_nil)))))))
theorem sc_read_deed : FnScope N_read_deed ["text"] (defScope sD_read_deed) := ⟨by rfl, by rfl, by rfl, by decide +kernel, by rfl, by decide +kernel, by decide +kernel⟩
theorem bd_read_deed (kV doc pm : Value) (an : Option Addr) (cdv ct : Value) (us : List Value) (hl : us.length = (["text"] : List Str).length) : bindArgs (PySem.W.fnOf "read_deed" "read_deed" (defArgs sD_read_deed) (defBody sD_read_deed) (defScope sD_read_deed) .none kV doc pm an cdv ct) ⟨us, []⟩ = pure ((["text"] : List Str).zip us) := match us, hl with | [_], _ => rfl
/-! ### _law_begun -/
abbrev sD__law_begun : Stmt := top 22
def N__law_begun : List Str := ["_law_script", "_law_k", "_law_cell", "_law_number_here", "_law_mixed"]
def C__law_begun : Cal := calOf [] [] ["max"] []
def m__law_begun : Ev → Sto → SRes := (mSeq (mAsg (mSub (mBin .Add (mSlc (mVar 0) (mPart (mVar 1)) (mPart (mBin .Add (mVar 1) (mC (.int 1))))) (mLst (mCons (mC (.int 0)) mNil))) (mC (.int 0))) (gNm 2)) (mSeq (mAsg (mNt ntMax (mCons (mVar 2) (mCons (mBin .Sub (mNeg (mC (.int 1))) (mVar 2)) mNil))) (gNm 3)) (mSeq (mAsg (mBin .Mod (mBin .Add (mBin .Add (mBin .Add (mBin .Mod (mVar 3) (mC (.int 2147483629))) (mBin .Mult (mC (.int 7919)) (mVar 1))) (mBin .Mult (mBin .Mult (mC (.int 104729)) (mVar 1)) (mVar 1))) (mC (.int 11))) (mC (.int 2147483629))) (gNm 4)) (mSeq (mRet (mLst (mCons (mVar 3) (mCons (mVar 4) (mCons (toB (mCmpT .GtE (mVar 3) (mBin .Pow (mC (.int 10)) (mC (.int 18))))) mNil))))) (fun env S => .nx env S)))))
def g__law_begun : List U → Sto → Res U := runB N__law_begun m__law_begun
theorem ok__law_begun {k : Nat} : SB k (gmOf N__law_begun (defScope sD__law_begun)) C__law_begun true (defBody sD__law_begun) m__law_begun := (sb_cons (ss_asg (se_sub (se_bin (se_slc (se_var (i := 0) (by rfl) (by kernel_rfl) (by kernel_rfl) (by kernel_rfl)) (so_some (se_var (i := 1) (by rfl) (by kernel_rfl) (by kernel_rfl) (by kernel_rfl))) (so_some (se_bin (se_var (i := 1) (by rfl) (by kernel_rfl) (by kernel_rfl) (by kernel_rfl)) (se_mC se_int)))) (se_lst (sa_cons (se_mC se_int) sa_nil rfl))) (se_mC se_int) rfl) (sg_name (i := 2) (by rfl) (by kernel_rfl)) rfl rfl rfl) (sb_cons (ss_asg (se_callB nt_max boot_max (by decide +kernel) (by kernel_rfl) (sa_cons (se_var (i := 2) (by rfl) (by kernel_rfl) (by kernel_rfl) (by kernel_rfl)) (sa_cons (se_bin (se_neg (se_mC se_int)) (se_var (i := 2) (by rfl) (by kernel_rfl) (by kernel_rfl) (by kernel_rfl))) sa_nil rfl) rfl) rfl) (sg_name (i := 3) (by rfl) (by kernel_rfl)) rfl rfl rfl) (sb_cons (ss_asg (se_bin (se_bin (se_bin (se_bin (se_bin (se_var (i := 3) (by rfl) (by kernel_rfl) (by kernel_rfl) (by kernel_rfl)) (se_mC se_int)) (se_bin (se_mC se_int) (se_var (i := 1) (by rfl) (by kernel_rfl) (by kernel_rfl) (by kernel_rfl)))) (se_bin (se_bin (se_mC se_int) (se_var (i := 1) (by rfl) (by kernel_rfl) (by kernel_rfl) (by kernel_rfl))) (se_var (i := 1) (by rfl) (by kernel_rfl) (by kernel_rfl) (by kernel_rfl)))) (se_mC se_int)) (se_mC se_int)) (sg_name (i := 4) (by rfl) (by kernel_rfl)) rfl rfl rfl) (sb_cons (ss_ret (se_lst (sa_cons (se_var (i := 3) (by rfl) (by kernel_rfl) (by kernel_rfl) (by kernel_rfl)) (sa_cons (se_var (i := 4) (by rfl) (by kernel_rfl) (by kernel_rfl) (by kernel_rfl)) (sa_cons (se_cmp (se_var (i := 3) (by rfl) (by kernel_rfl) (by kernel_rfl) (by kernel_rfl)) (se_bin (se_mC se_int) (se_mC se_int)) rfl) sa_nil rfl) rfl) rfl))) sb_nil))))
theorem sc__law_begun : FnScope N__law_begun ["_law_script", "_law_k"] (defScope sD__law_begun) := ⟨by rfl, by rfl, by rfl, by decide +kernel, by rfl, by decide +kernel, by decide +kernel⟩
theorem bd__law_begun (kV doc pm : Value) (an : Option Addr) (cdv ct : Value) (us : List Value) (hl : us.length = (["_law_script", "_law_k"] : List Str).length) : bindArgs (PySem.W.fnOf "_law_begun" "_law_begun" (defArgs sD__law_begun) (defBody sD__law_begun) (defScope sD__law_begun) .none kV doc pm an cdv ct) ⟨us, []⟩ = pure ((["_law_script", "_law_k"] : List Str).zip us) := match us, hl with | [_, _], _ => rfl
/-! ### _law_take -/
abbrev sD__law_take : Stmt := top 23
def N__law_take : List Str := ["_law_state", "_law_many", "_law_made", "_law_turn", "_law_digit"]
def C__law_take : Cal := calOf [] [] ["range", "int"] []
def m__law_take : Ev → Sto → SRes := (mSeq (mIf (tru (mSub (mVar 0) (mC (.int 2)))) (mSeq (mAsg (mBin .Mod (mSub (mVar 0) (mC (.int 0))) (mVar 1)) (gNm 4)) (mSeq (mAsg (mBin .FloorDiv (mSub (mVar 0) (mC (.int 0))) (mVar 1)) (gSb (mVar 0) (mC (.int 0)))) (mSeq (mAsg (toB (mCmpT .Gt (mSub (mVar 0) (mC (.int 0))) (mC (.int 0)))) (gSb (mVar 0) (mC (.int 2)))) (mSeq (mRet (mVar 4)) (fun env S => .nx env S))))) (fun env S => .nx env S)) (mSeq (mAsg (mC (.int 0)) (gNm 2)) (mSeq (mFor (iRng1 (mCons (mBin .Add (mC (.int 1)) (mNt ntInt (mCons (toB (mCmpT .Gt (mVar 1) (mBin .Pow (mC (.int 10)) (mC (.int 6))))) mNil))) mNil)) (gNm 3) (mSeq (mAsg (mBin .Mod (mBin .Add (mBin .Mult (mSub (mVar 0) (mC (.int 1))) (mC (.int 48271))) (mC (.int 11))) (mC (.int 2147483647))) (gSb (mVar 0) (mC (.int 1)))) (mSeq (mAsg (mBin .Add (mBin .Mult (mVar 2) (mC (.int 2147483587))) (mBin .Mod (mBin .Mult (mSub (mVar 0) (mC (.int 1))) (mSub (mVar 0) (mC (.int 1)))) (mC (.int 2147483587)))) (gNm 2)) (fun env S => .nx env S)))) (mSeq (mRet (mBin .Mod (mBin .FloorDiv (mVar 2) (mC (.int 64))) (mVar 1))) (fun env S => .nx env S)))))
def g__law_take : List U → Sto → Res U := runB N__law_take m__law_take
theorem ok__law_take {k : Nat} : SB k (gmOf N__law_take (defScope sD__law_take)) C__law_take true (defBody sD__law_take) m__law_take := (sb_cons (ss_if (st_val (se_sub (se_var (i := 0) (by rfl) (by kernel_rfl) (by kernel_rfl) (by kernel_rfl)) (se_mC se_int) rfl) rfl) (sb_cons (ss_asg (se_bin (se_sub (se_var (i := 0) (by rfl) (by kernel_rfl) (by kernel_rfl) (by kernel_rfl)) (se_mC se_int) rfl) (se_var (i := 1) (by rfl) (by kernel_rfl) (by kernel_rfl) (by kernel_rfl))) (sg_name (i := 4) (by rfl) (by kernel_rfl)) rfl rfl rfl) (sb_cons (ss_asg (se_bin (se_sub (se_var (i := 0) (by rfl) (by kernel_rfl) (by kernel_rfl) (by kernel_rfl)) (se_mC se_int) rfl) (se_var (i := 1) (by rfl) (by kernel_rfl) (by kernel_rfl) (by kernel_rfl))) (sg_sub (se_var (i := 0) (by rfl) (by kernel_rfl) (by kernel_rfl) (by kernel_rfl)) (se_mC se_int) rfl) rfl rfl rfl) (sb_cons (ss_asg (se_cmp (se_sub (se_var (i := 0) (by rfl) (by kernel_rfl) (by kernel_rfl) (by kernel_rfl)) (se_mC se_int) rfl) (se_mC se_int) rfl) (sg_sub (se_var (i := 0) (by rfl) (by kernel_rfl) (by kernel_rfl) (by kernel_rfl)) (se_mC se_int) rfl) rfl rfl rfl) (sb_cons (ss_ret (se_var (i := 4) (by rfl) (by kernel_rfl) (by kernel_rfl) (by kernel_rfl))) sb_nil)))) sb_nil) (sb_cons (ss_asg (se_mC se_int) (sg_name (i := 2) (by rfl) (by kernel_rfl)) rfl rfl rfl) (sb_cons (ss_for (si_rng1 (by kernel_rfl) (by decide +kernel) (sa_cons (se_bin (se_mC se_int) (se_callT nt_int boot_int (by decide +kernel) (by kernel_rfl) (sa_cons (se_cmp (se_var (i := 1) (by rfl) (by kernel_rfl) (by kernel_rfl) (by kernel_rfl)) (se_bin (se_mC se_int) (se_mC se_int)) rfl) sa_nil rfl) rfl)) sa_nil rfl) rfl) (sg_name (i := 3) (by rfl) (by kernel_rfl)) (sb_cons (ss_asg (se_bin (se_bin (se_bin (se_sub (se_var (i := 0) (by rfl) (by kernel_rfl) (by kernel_rfl) (by kernel_rfl)) (se_mC se_int) rfl) (se_mC se_int)) (se_mC se_int)) (se_mC se_int)) (sg_sub (se_var (i := 0) (by rfl) (by kernel_rfl) (by kernel_rfl) (by kernel_rfl)) (se_mC se_int) rfl) rfl rfl rfl) (sb_cons (ss_asg (se_bin (se_bin (se_var (i := 2) (by rfl) (by kernel_rfl) (by kernel_rfl) (by kernel_rfl)) (se_mC se_int)) (se_bin (se_bin (se_sub (se_var (i := 0) (by rfl) (by kernel_rfl) (by kernel_rfl) (by kernel_rfl)) (se_mC se_int) rfl) (se_sub (se_var (i := 0) (by rfl) (by kernel_rfl) (by kernel_rfl) (by kernel_rfl)) (se_mC se_int) rfl)) (se_mC se_int))) (sg_name (i := 2) (by rfl) (by kernel_rfl)) rfl rfl rfl) sb_nil)) rfl) (sb_cons (ss_ret (se_bin (se_bin (se_var (i := 2) (by rfl) (by kernel_rfl) (by kernel_rfl) (by kernel_rfl)) (se_mC se_int)) (se_var (i := 1) (by rfl) (by kernel_rfl) (by kernel_rfl) (by kernel_rfl)))) sb_nil))))
theorem sc__law_take : FnScope N__law_take ["_law_state", "_law_many"] (defScope sD__law_take) := ⟨by rfl, by rfl, by rfl, by decide +kernel, by rfl, by decide +kernel, by decide +kernel⟩
theorem bd__law_take (kV doc pm : Value) (an : Option Addr) (cdv ct : Value) (us : List Value) (hl : us.length = (["_law_state", "_law_many"] : List Str).length) : bindArgs (PySem.W.fnOf "_law_take" "_law_take" (defArgs sD__law_take) (defBody sD__law_take) (defScope sD__law_take) .none kV doc pm an cdv ct) ⟨us, []⟩ = pure ((["_law_state", "_law_many"] : List Str).zip us) := match us, hl with | [_, _], _ => rfl
/-! ### _law_a_key -/
abbrev sD__law_a_key : Stmt := top 24
def N__law_a_key : List Str := ["_law_state"]
def C__law_a_key : Cal := calOf [("_law_take", 2, g__law_take)] [] [] []
def m__law_a_key : Ev → Sto → SRes := (mSeq (mRet (mSub (mLst (mCons (mC (.str "a")) (mCons (mC (.str "b")) (mCons (mC (.str "zzzzzz")) (mCons (mC (.str "read")) (mCons (mC (.str "tick")) mNil)))))) (mCall g__law_take 2 (mCons (mVar 0) (mCons (mC (.int 5)) mNil))))) (fun env S => .nx env S))
def g__law_a_key : List U → Sto → Res U := runB N__law_a_key m__law_a_key
theorem ok__law_a_key {k : Nat} : SB k (gmOf N__law_a_key (defScope sD__law_a_key)) C__law_a_key true (defBody sD__law_a_key) m__law_a_key := (sb_cons (ss_ret (se_sub (se_lst (sa_cons (se_mC se_str) (sa_cons (se_mC se_str) (sa_cons (se_mC se_str) (sa_cons (se_mC se_str) (sa_cons (se_mC se_str) sa_nil rfl) rfl) rfl) rfl) rfl)) (se_call (g := g__law_take) (n := 2) (by kernel_rfl) (by kernel_rfl) (by kernel_rfl) (sa_cons (se_var (i := 0) (by rfl) (by kernel_rfl) (by kernel_rfl) (by kernel_rfl)) (sa_cons (se_mC se_int) sa_nil rfl) rfl) rfl) rfl)) sb_nil)
theorem sc__law_a_key : FnScope N__law_a_key ["_law_state"] (defScope sD__law_a_key) := ⟨by rfl, by rfl, by rfl, by decide +kernel, by rfl, by decide +kernel, by decide +kernel⟩
theorem bd__law_a_key (kV doc pm : Value) (an : Option Addr) (cdv ct : Value) (us : List Value) (hl : us.length = (["_law_state"] : List Str).length) : bindArgs (PySem.W.fnOf "_law_a_key" "_law_a_key" (defArgs sD__law_a_key) (defBody sD__law_a_key) (defScope sD__law_a_key) .none kV doc pm an cdv ct) ⟨us, []⟩ = pure ((["_law_state"] : List Str).zip us) := match us, hl with | [_], _ => rfl
/-! ### _law_number -/
abbrev sD__law_number : Stmt := top 25
def N__law_number : List Str := ["_law_state", "_law_far"]
def C__law_number : Cal := calOf [("_law_take", 2, g__law_take)] [] [] []
def m__law_number : Ev → Sto → SRes := (mSeq (mAsg (mBin .Add (mBin .Pow (mC (.int 10)) (mC (.int 29))) (mCall g__law_take 2 (mCons (mVar 0) (mCons (mC (.int 9)) mNil)))) (gNm 1)) (mSeq (mRet (mSub (mLst (mCons (mC (.int 0)) (mCons (mC (.int 1)) (mCons (mCall g__law_take 2 (mCons (mVar 0) (mCons (mC (.int 30)) mNil))) (mCons (mVar 1) (mCons (mBin .Sub (mBin .Sub (mC (.int 0)) (mC (.int 1))) (mCall g__law_take 2 (mCons (mVar 0) (mCons (mC (.int 50)) mNil)))) mNil)))))) (mCall g__law_take 2 (mCons (mVar 0) (mCons (mC (.int 5)) mNil))))) (fun env S => .nx env S)))
def g__law_number : List U → Sto → Res U := runB N__law_number m__law_number
theorem ok__law_number {k : Nat} : SB k (gmOf N__law_number (defScope sD__law_number)) C__law_number true (defBody sD__law_number) m__law_number := (sb_cons (ss_asg (se_bin (se_bin (se_mC se_int) (se_mC se_int)) (se_call (g := g__law_take) (n := 2) (by kernel_rfl) (by kernel_rfl) (by kernel_rfl) (sa_cons (se_var (i := 0) (by rfl) (by kernel_rfl) (by kernel_rfl) (by kernel_rfl)) (sa_cons (se_mC se_int) sa_nil rfl) rfl) rfl)) (sg_name (i := 1) (by rfl) (by kernel_rfl)) rfl rfl rfl) (sb_cons (ss_ret (se_sub (se_lst (sa_cons (se_mC se_int) (sa_cons (se_mC se_int) (sa_cons (se_call (g := g__law_take) (n := 2) (by kernel_rfl) (by kernel_rfl) (by kernel_rfl) (sa_cons (se_var (i := 0) (by rfl) (by kernel_rfl) (by kernel_rfl) (by kernel_rfl)) (sa_cons (se_mC se_int) sa_nil rfl) rfl) rfl) (sa_cons (se_var (i := 1) (by rfl) (by kernel_rfl) (by kernel_rfl) (by kernel_rfl)) (sa_cons (se_bin (se_bin (se_mC se_int) (se_mC se_int)) (se_call (g := g__law_take) (n := 2) (by kernel_rfl) (by kernel_rfl) (by kernel_rfl) (sa_cons (se_var (i := 0) (by rfl) (by kernel_rfl) (by kernel_rfl) (by kernel_rfl)) (sa_cons (se_mC se_int) sa_nil rfl) rfl) rfl)) sa_nil rfl) rfl) rfl) rfl) rfl)) (se_call (g := g__law_take) (n := 2) (by kernel_rfl) (by kernel_rfl) (by kernel_rfl) (sa_cons (se_var (i := 0) (by rfl) (by kernel_rfl) (by kernel_rfl) (by kernel_rfl)) (sa_cons (se_mC se_int) sa_nil rfl) rfl) rfl) rfl)) sb_nil))
theorem sc__law_number : FnScope N__law_number ["_law_state"] (defScope sD__law_number) := ⟨by rfl, by rfl, by rfl, by decide +kernel, by rfl, by decide +kernel, by decide +kernel⟩
theorem bd__law_number (kV doc pm : Value) (an : Option Addr) (cdv ct : Value) (us : List Value) (hl : us.length = (["_law_state"] : List Str).length) : bindArgs (PySem.W.fnOf "_law_number" "_law_number" (defArgs sD__law_number) (defBody sD__law_number) (defScope sD__law_number) .none kV doc pm an cdv ct) ⟨us, []⟩ = pure ((["_law_state"] : List Str).zip us) := match us, hl with | [_], _ => rfl
/-! ### _law_things -/
abbrev sD__law_things : Stmt := top 26
def N__law_things : List Str := ["_law_state", "_law_kinds_here", "_law_found", "_law_kind", "_law_pace", "_law_worth", "_law_some", "_law_mode", "_law_menu", "_law_part"]
def C__law_things : Cal := calOf [("_law_a_key", 1, g__law_a_key), ("_law_number", 1, g__law_number), ("_law_take", 2, g__law_take)] [] ["tuple", "range"] []
def m__law_things : Ev → Sto → SRes := (mSeq (mAsg (mLst mNil) (gNm 2)) (mSeq (mFor (iVal (mVar 1)) (gNm 3) (mSeq (mAsg (mTup (mCons (mCall g__law_number 1 (mCons (mVar 0) mNil)) (mCons (mCall g__law_number 1 (mCons (mVar 0) mNil)) mNil))) (gNm 4)) (mSeq (mAsg (mNt ntTup (mCons (mLc (iRng1 (mCons (mBin .Add (mC (.int 1)) (mCall g__law_take 2 (mCons (mVar 0) (mCons (mC (.int 4)) mNil)))) mNil)) (gNm 9) (fun _ S => .ok true S) (mCall g__law_number 1 (mCons (mVar 0) mNil)) [9]) mNil)) (gNm 5)) (mSeq (mAsg (mNt ntTup (mCons (mLc (iRng1 (mCons (mBin .Add (mC (.int 1)) (mCall g__law_take 2 (mCons (mVar 0) (mCons (mC (.int 3)) mNil)))) mNil)) (gNm 9) (fun _ S => .ok true S) (mCall g__law_a_key 1 (mCons (mVar 0) mNil)) [9]) mNil)) (gNm 6)) (mSeq (mAsg (mSub (mLst (mCons (mC (.str "read")) (mCons (mC (.str "write")) mNil))) (mCall g__law_take 2 (mCons (mVar 0) (mCons (mC (.int 2)) mNil)))) (gNm 7)) (mSeq (mAsg (mDict (dCons (mC (.str "n")) (mCall g__law_number 1 (mCons (mVar 0) mNil)) (dCons (mC (.str "k")) (mCall g__law_a_key 1 (mCons (mVar 0) mNil)) (dCons (mC (.str "m")) (mVar 7) (dCons (mC (.str "w")) (mVar 5) (dCons (mC (.str "p")) (mVar 4) (dCons (mC (.str "s")) (mVar 6) dNil))))))) (gNm 8)) (mSeq (mExpr (mMet "list" ntAppend (mVar 2) (mCons (mSub (mVar 8) (mVar 3)) mNil))) (fun env S => .nx env S)))))))) (mSeq (mRet (mNt ntTup (mCons (mVar 2) mNil))) (fun env S => .nx env S))))
def g__law_things : List U → Sto → Res U := runB N__law_things m__law_things
theorem ok__law_things {k : Nat} : SB k (gmOf N__law_things (defScope sD__law_things)) C__law_things true (defBody sD__law_things) m__law_things := (sb_cons (ss_asg (se_lst sa_nil) (sg_name (i := 2) (by rfl) (by kernel_rfl)) rfl rfl rfl) (sb_cons (ss_for (si_val (se_var (i := 1) (by rfl) (by kernel_rfl) (by kernel_rfl) (by kernel_rfl))) (sg_name (i := 3) (by rfl) (by kernel_rfl)) (sb_cons (ss_asg (se_tup (sa_cons (se_call (g := g__law_number) (n := 1) (by kernel_rfl) (by kernel_rfl) (by kernel_rfl) (sa_cons (se_var (i := 0) (by rfl) (by kernel_rfl) (by kernel_rfl) (by kernel_rfl)) sa_nil rfl) rfl) (sa_cons (se_call (g := g__law_number) (n := 1) (by kernel_rfl) (by kernel_rfl) (by kernel_rfl) (sa_cons (se_var (i := 0) (by rfl) (by kernel_rfl) (by kernel_rfl) (by kernel_rfl)) sa_nil rfl) rfl) sa_nil rfl) rfl)) (sg_name (i := 4) (by rfl) (by kernel_rfl)) rfl rfl rfl) (sb_cons (ss_asg (se_callT nt_tup boot_tuple (by decide +kernel) (by kernel_rfl) (sa_cons (se_lc [("_law_part", 9)] (by kernel_rfl) (by kernel_rfl) rfl (si_rng1 (by kernel_rfl) (by decide +kernel) (sa_cons (se_bin (se_mC se_int) (se_call (g := g__law_take) (n := 2) (by kernel_rfl) (by kernel_rfl) (by kernel_rfl) (sa_cons (se_var (i := 0) (by rfl) (by kernel_rfl) (by kernel_rfl) (by kernel_rfl)) (sa_cons (se_mC se_int) sa_nil rfl) rfl) rfl)) sa_nil rfl) rfl) (sg_name (i := 9) (by rfl) (by kernel_rfl)) sts_nil (se_call (g := g__law_number) (n := 1) (by kernel_rfl) (by kernel_rfl) (by kernel_rfl) (sa_cons (se_var (i := 0) (by rfl) (by kernel_rfl) (by kernel_rfl) (by kernel_rfl)) sa_nil rfl) rfl)) sa_nil rfl) rfl) (sg_name (i := 5) (by rfl) (by kernel_rfl)) rfl rfl rfl) (sb_cons (ss_asg (se_callT nt_tup boot_tuple (by decide +kernel) (by kernel_rfl) (sa_cons (se_lc [("_law_part", 9)] (by kernel_rfl) (by kernel_rfl) rfl (si_rng1 (by kernel_rfl) (by decide +kernel) (sa_cons (se_bin (se_mC se_int) (se_call (g := g__law_take) (n := 2) (by kernel_rfl) (by kernel_rfl) (by kernel_rfl) (sa_cons (se_var (i := 0) (by rfl) (by kernel_rfl) (by kernel_rfl) (by kernel_rfl)) (sa_cons (se_mC se_int) sa_nil rfl) rfl) rfl)) sa_nil rfl) rfl) (sg_name (i := 9) (by rfl) (by kernel_rfl)) sts_nil (se_call (g := g__law_a_key) (n := 1) (by kernel_rfl) (by kernel_rfl) (by kernel_rfl) (sa_cons (se_var (i := 0) (by rfl) (by kernel_rfl) (by kernel_rfl) (by kernel_rfl)) sa_nil rfl) rfl)) sa_nil rfl) rfl) (sg_name (i := 6) (by rfl) (by kernel_rfl)) rfl rfl rfl) (sb_cons (ss_asg (se_sub (se_lst (sa_cons (se_mC se_str) (sa_cons (se_mC se_str) sa_nil rfl) rfl)) (se_call (g := g__law_take) (n := 2) (by kernel_rfl) (by kernel_rfl) (by kernel_rfl) (sa_cons (se_var (i := 0) (by rfl) (by kernel_rfl) (by kernel_rfl) (by kernel_rfl)) (sa_cons (se_mC se_int) sa_nil rfl) rfl) rfl) rfl) (sg_name (i := 7) (by rfl) (by kernel_rfl)) rfl rfl rfl) (sb_cons (ss_asg (se_dict (sd_cons (se_mC se_str) (se_call (g := g__law_number) (n := 1) (by kernel_rfl) (by kernel_rfl) (by kernel_rfl) (sa_cons (se_var (i := 0) (by rfl) (by kernel_rfl) (by kernel_rfl) (by kernel_rfl)) sa_nil rfl) rfl) (sd_cons (se_mC se_str) (se_call (g := g__law_a_key) (n := 1) (by kernel_rfl) (by kernel_rfl) (by kernel_rfl) (sa_cons (se_var (i := 0) (by rfl) (by kernel_rfl) (by kernel_rfl) (by kernel_rfl)) sa_nil rfl) rfl) (sd_cons (se_mC se_str) (se_var (i := 7) (by rfl) (by kernel_rfl) (by kernel_rfl) (by kernel_rfl)) (sd_cons (se_mC se_str) (se_var (i := 5) (by rfl) (by kernel_rfl) (by kernel_rfl) (by kernel_rfl)) (sd_cons (se_mC se_str) (se_var (i := 4) (by rfl) (by kernel_rfl) (by kernel_rfl) (by kernel_rfl)) (sd_cons (se_mC se_str) (se_var (i := 6) (by rfl) (by kernel_rfl) (by kernel_rfl) (by kernel_rfl)) sd_nil)))))) rfl rfl rfl (by decide)) (sg_name (i := 8) (by rfl) (by kernel_rfl)) rfl rfl rfl) (sb_cons (ss_expr (se_met nt_append PySem.F.plainAttrs_list PySem.F.slot_list_append PySem.F.type_list_append (se_var (i := 2) (by rfl) (by kernel_rfl) (by kernel_rfl) (by kernel_rfl)) (sa_cons (se_sub (se_var (i := 8) (by rfl) (by kernel_rfl) (by kernel_rfl) (by kernel_rfl)) (se_var (i := 3) (by rfl) (by kernel_rfl) (by kernel_rfl) (by kernel_rfl)) rfl) sa_nil rfl) rfl rfl (by decide) rfl) rfl) sb_nil)))))) rfl) (sb_cons (ss_ret (se_callT nt_tup boot_tuple (by decide +kernel) (by kernel_rfl) (sa_cons (se_var (i := 2) (by rfl) (by kernel_rfl) (by kernel_rfl) (by kernel_rfl)) sa_nil rfl) rfl)) sb_nil)))
theorem sc__law_things : FnScope N__law_things ["_law_state", "_law_kinds_here"] (defScope sD__law_things) := ⟨by rfl, by rfl, by rfl, by decide +kernel, by rfl, by decide +kernel, by decide +kernel⟩
theorem bd__law_things (kV doc pm : Value) (an : Option Addr) (cdv ct : Value) (us : List Value) (hl : us.length = (["_law_state", "_law_kinds_here"] : List Str).length) : bindArgs (PySem.W.fnOf "_law_things" "_law_things" (defArgs sD__law_things) (defBody sD__law_things) (defScope sD__law_things) .none kV doc pm an cdv ct) ⟨us, []⟩ = pure ((["_law_state", "_law_kinds_here"] : List Str).zip us) := match us, hl with | [_, _], _ => rfl
/-! ### _law_kinds -/
abbrev sD__law_kinds : Stmt := top 27
def N__law_kinds : List Str := ["_law_found"]
def C__law_kinds : Cal := calOf [] [] [] []
def m__law_kinds : Ev → Sto → SRes := (mSeq (mAsg (mDict (dCons (mC (.str "tick")) (mC (.str "n")) (dCons (mC (.str "set")) (mC (.str "nnnn")) (dCons (mC (.str "pace")) (mC (.str "nnp")) (dCons (mC (.str "stop")) (mC (.str "nn")) (dCons (mC (.str "back")) (mC (.str "nn")) dNil)))))) (gNm 0)) (mSeq (mExpr (mMet "dict" ntUpdate (mVar 0) (mCons (mDict (dCons (mC (.str "choose")) (mC (.str "nn")) (dCons (mC (.str "renew")) (mC (.str "n")) dNil))) mNil))) (mSeq (mExpr (mMet "dict" ntUpdate (mVar 0) (mCons (mDict (dCons (mC (.str "catch")) (mC (.str "nn")) (dCons (mC (.str "mark")) (mC (.str "n")) (dCons (mC (.str "gone")) (mC (.str "nn")) (dCons (mC (.str "begin")) (mC (.str "")) (dCons (mC (.str "again")) (mC (.str "n")) dNil)))))) mNil))) (mSeq (mExpr (mMet "dict" ntUpdate (mVar 0) (mCons (mDict (dCons (mC (.str "take")) (mC (.str "nkm")) (dCons (mC (.str "read")) (mC (.str "nk")) dNil))) mNil))) (mSeq (mExpr (mMet "dict" ntUpdate (mVar 0) (mCons (mDict (dCons (mC (.str "write")) (mC (.str "nkw")) (dCons (mC (.str "finish")) (mC (.str "n")) (dCons (mC (.str "tell")) (mC (.str "n")) (dCons (mC (.str "stay")) (mC (.str "n")) (dCons (mC (.str "deliver")) (mC (.str "n")) (dCons (mC (.str "lose")) (mC (.str "n")) dNil))))))) mNil))) (mSeq (mExpr (mMet "dict" ntUpdate (mVar 0) (mCons (mDict (dCons (mC (.str "question")) (mC (.str "n")) (dCons (mC (.str "at")) (mC (.str "ns")) (dCons (mC (.str "copy")) (mC (.str "nns")) (dCons (mC (.str "now")) (mC (.str "ns")) (dCons (mC (.str "move")) (mC (.str "kn")) (dCons (mC (.str "form")) (mC (.str "nn")) (dCons (mC (.str "settle")) (mC (.str "")) dNil)))))))) mNil))) (mSeq (mRet (mVar 0)) (fun env S => .nx env S))))))))
def g__law_kinds : List U → Sto → Res U := runB N__law_kinds m__law_kinds
theorem ok__law_kinds {k : Nat} : SB k (gmOf N__law_kinds (defScope sD__law_kinds)) C__law_kinds true (defBody sD__law_kinds) m__law_kinds := (sb_cons (ss_asg (se_dict (sd_cons (se_mC se_str) (se_mC se_str) (sd_cons (se_mC se_str) (se_mC se_str) (sd_cons (se_mC se_str) (se_mC se_str) (sd_cons (se_mC se_str) (se_mC se_str) (sd_cons (se_mC se_str) (se_mC se_str) sd_nil))))) rfl rfl rfl (by decide)) (sg_name (i := 0) (by rfl) (by kernel_rfl)) rfl rfl rfl) (sb_cons (ss_expr (se_met nt_update PySem.F.plainAttrs_dict PySem.F.slot_dict_update PySem.F.type_dict_update (se_var (i := 0) (by rfl) (by kernel_rfl) (by kernel_rfl) (by kernel_rfl)) (sa_cons (se_dict (sd_cons (se_mC se_str) (se_mC se_str) (sd_cons (se_mC se_str) (se_mC se_str) sd_nil)) rfl rfl rfl (by decide)) sa_nil rfl) rfl rfl (by decide) rfl) rfl) (sb_cons (ss_expr (se_met nt_update PySem.F.plainAttrs_dict PySem.F.slot_dict_update PySem.F.type_dict_update (se_var (i := 0) (by rfl) (by kernel_rfl) (by kernel_rfl) (by kernel_rfl)) (sa_cons (se_dict (sd_cons (se_mC se_str) (se_mC se_str) (sd_cons (se_mC se_str) (se_mC se_str) (sd_cons (se_mC se_str) (se_mC se_str) (sd_cons (se_mC se_str) (se_mC se_str) (sd_cons (se_mC se_str) (se_mC se_str) sd_nil))))) rfl rfl rfl (by decide)) sa_nil rfl) rfl rfl (by decide) rfl) rfl) (sb_cons (ss_expr (se_met nt_update PySem.F.plainAttrs_dict PySem.F.slot_dict_update PySem.F.type_dict_update (se_var (i := 0) (by rfl) (by kernel_rfl) (by kernel_rfl) (by kernel_rfl)) (sa_cons (se_dict (sd_cons (se_mC se_str) (se_mC se_str) (sd_cons (se_mC se_str) (se_mC se_str) sd_nil)) rfl rfl rfl (by decide)) sa_nil rfl) rfl rfl (by decide) rfl) rfl) (sb_cons (ss_expr (se_met nt_update PySem.F.plainAttrs_dict PySem.F.slot_dict_update PySem.F.type_dict_update (se_var (i := 0) (by rfl) (by kernel_rfl) (by kernel_rfl) (by kernel_rfl)) (sa_cons (se_dict (sd_cons (se_mC se_str) (se_mC se_str) (sd_cons (se_mC se_str) (se_mC se_str) (sd_cons (se_mC se_str) (se_mC se_str) (sd_cons (se_mC se_str) (se_mC se_str) (sd_cons (se_mC se_str) (se_mC se_str) (sd_cons (se_mC se_str) (se_mC se_str) sd_nil)))))) rfl rfl rfl (by decide)) sa_nil rfl) rfl rfl (by decide) rfl) rfl) (sb_cons (ss_expr (se_met nt_update PySem.F.plainAttrs_dict PySem.F.slot_dict_update PySem.F.type_dict_update (se_var (i := 0) (by rfl) (by kernel_rfl) (by kernel_rfl) (by kernel_rfl)) (sa_cons (se_dict (sd_cons (se_mC se_str) (se_mC se_str) (sd_cons (se_mC se_str) (se_mC se_str) (sd_cons (se_mC se_str) (se_mC se_str) (sd_cons (se_mC se_str) (se_mC se_str) (sd_cons (se_mC se_str) (se_mC se_str) (sd_cons (se_mC se_str) (se_mC se_str) (sd_cons (se_mC se_str) (se_mC se_str) sd_nil))))))) rfl rfl rfl (by decide)) sa_nil rfl) rfl rfl (by decide) rfl) rfl) (sb_cons (ss_ret (se_var (i := 0) (by rfl) (by kernel_rfl) (by kernel_rfl) (by kernel_rfl))) sb_nil)))))))
theorem sc__law_kinds : FnScope N__law_kinds [] (defScope sD__law_kinds) := ⟨by rfl, by rfl, by rfl, by decide +kernel, by rfl, by decide +kernel, by decide +kernel⟩
theorem bd__law_kinds (kV doc pm : Value) (an : Option Addr) (cdv ct : Value) (us : List Value) (hl : us.length = ([] : List Str).length) : bindArgs (PySem.W.fnOf "_law_kinds" "_law_kinds" (defArgs sD__law_kinds) (defBody sD__law_kinds) (defScope sD__law_kinds) .none kV doc pm an cdv ct) ⟨us, []⟩ = pure (([] : List Str).zip us) := match us, hl with | [], _ => rfl
/-! ### _law_text -/
abbrev sD__law_text : Stmt := top 28
def N__law_text : List Str := ["_law_deed", "_law_kinds_here", "_law_words", "_law_kind", "_law_thing", "_law_one"]
def C__law_text : Cal := calOf [("_law_kinds", 0, g__law_kinds)] [] ["zip", "str"] []
def m__law_text : Ev → Sto → SRes := (mSeq (mAsg (mSub (fun _ S => g__law_kinds [] S) (mSub (mVar 0) (mC (.int 0)))) (gNm 1)) (mSeq (mAsg (mLst (mCons (mSub (mVar 0) (mC (.int 0))) mNil)) (gNm 2)) (mSeq (mFor (iZip2 false (mCons (mVar 1) (mCons (mSlc (mVar 0) (mPart (mC (.int 1))) (fun _ S => .ok none S)) mNil))) (gTp 2 (gsCons (gNm 3) (gsCons (gNm 4) gsNil))) (mSeq (mIf (mCmpT .Eq (mVar 3) (mC (.str "p"))) (mSeq (mExpr (mMet "list" ntAppend (mVar 2) (mCons (mBin .Add (mBin .Add (mNt ntStr (mCons (mSub (mVar 4) (mC (.int 0))) mNil)) (mC (.str "/"))) (mNt ntStr (mCons (mSub (mVar 4) (mC (.int 1))) mNil))) mNil))) (fun env S => .nx env S)) (mSeq (mIf (mCmpT .In (mVar 3) (mC (.str "ws"))) (mSeq (mExpr (mMet "list" ntAppend (mVar 2) (mCons (mMet "str" ntJoin (mC (.str ",")) (mCons (mLc (iVal (mVar 4)) (gNm 5) (fun _ S => .ok true S) (mNt ntStr (mCons (mVar 5) mNil)) [5]) mNil)) mNil))) (fun env S => .nx env S)) (mSeq (mExpr (mMet "list" ntAppend (mVar 2) (mCons (mNt ntStr (mCons (mVar 4) mNil)) mNil))) (fun env S => .nx env S))) (fun env S => .nx env S))) (fun env S => .nx env S))) (mSeq (mRet (mMet "str" ntJoin (mC (.str " ")) (mCons (mVar 2) mNil))) (fun env S => .nx env S)))))
def g__law_text : List U → Sto → Res U := runB N__law_text m__law_text
theorem ok__law_text {k : Nat} : SB k (gmOf N__law_text (defScope sD__law_text)) C__law_text true (defBody sD__law_text) m__law_text := (sb_cons (ss_asg (se_sub (se_call0 (g := g__law_kinds) (by kernel_rfl) (by kernel_rfl) (by kernel_rfl)) (se_sub (se_var (i := 0) (by rfl) (by kernel_rfl) (by kernel_rfl) (by kernel_rfl)) (se_mC se_int) rfl) rfl) (sg_name (i := 1) (by rfl) (by kernel_rfl)) rfl rfl rfl) (sb_cons (ss_asg (se_lst (sa_cons (se_sub (se_var (i := 0) (by rfl) (by kernel_rfl) (by kernel_rfl) (by kernel_rfl)) (se_mC se_int) rfl) sa_nil rfl)) (sg_name (i := 2) (by rfl) (by kernel_rfl)) rfl rfl rfl) (sb_cons (ss_for (si_zip (by kernel_rfl) (by decide +kernel) (sa_cons (se_var (i := 1) (by rfl) (by kernel_rfl) (by kernel_rfl) (by kernel_rfl)) (sa_cons (se_slc (se_var (i := 0) (by rfl) (by kernel_rfl) (by kernel_rfl) (by kernel_rfl)) (so_some (se_mC se_int)) so_none) sa_nil rfl) rfl) rfl) (sg_tup (sgs_cons (sg_name (i := 3) (by rfl) (by kernel_rfl)) (sgs_cons (sg_name (i := 4) (by rfl) (by kernel_rfl)) sgs_nil rfl) rfl) rfl) (sb_cons (ss_if (st_cmp (se_var (i := 3) (by rfl) (by kernel_rfl) (by kernel_rfl) (by kernel_rfl)) (se_mC se_str) rfl) (sb_cons (ss_expr (se_met nt_append PySem.F.plainAttrs_list PySem.F.slot_list_append PySem.F.type_list_append (se_var (i := 2) (by rfl) (by kernel_rfl) (by kernel_rfl) (by kernel_rfl)) (sa_cons (se_bin (se_bin (se_callT nt_str boot_str (by decide +kernel) (by kernel_rfl) (sa_cons (se_sub (se_var (i := 4) (by rfl) (by kernel_rfl) (by kernel_rfl) (by kernel_rfl)) (se_mC se_int) rfl) sa_nil rfl) rfl) (se_mC se_str)) (se_callT nt_str boot_str (by decide +kernel) (by kernel_rfl) (sa_cons (se_sub (se_var (i := 4) (by rfl) (by kernel_rfl) (by kernel_rfl) (by kernel_rfl)) (se_mC se_int) rfl) sa_nil rfl) rfl)) sa_nil rfl) rfl rfl (by decide) rfl) rfl) sb_nil) (sb_cons (ss_if (st_cmp (se_var (i := 3) (by rfl) (by kernel_rfl) (by kernel_rfl) (by kernel_rfl)) (se_mC se_str) rfl) (sb_cons (ss_expr (se_met nt_append PySem.F.plainAttrs_list PySem.F.slot_list_append PySem.F.type_list_append (se_var (i := 2) (by rfl) (by kernel_rfl) (by kernel_rfl) (by kernel_rfl)) (sa_cons (se_met nt_join PySem.F.plainAttrs_str PySem.F.slot_str_join PySem.F.type_str_join (se_mC se_str) (sa_cons (se_lc [("_law_one", 5)] (by kernel_rfl) (by kernel_rfl) rfl (si_val (se_var (i := 4) (by rfl) (by kernel_rfl) (by kernel_rfl) (by kernel_rfl))) (sg_name (i := 5) (by rfl) (by kernel_rfl)) sts_nil (se_callT nt_str boot_str (by decide +kernel) (by kernel_rfl) (sa_cons (se_var (i := 5) (by rfl) (by kernel_rfl) (by kernel_rfl) (by kernel_rfl)) sa_nil rfl) rfl)) sa_nil rfl) rfl rfl (by decide) rfl) sa_nil rfl) rfl rfl (by decide) rfl) rfl) sb_nil) (sb_cons (ss_expr (se_met nt_append PySem.F.plainAttrs_list PySem.F.slot_list_append PySem.F.type_list_append (se_var (i := 2) (by rfl) (by kernel_rfl) (by kernel_rfl) (by kernel_rfl)) (sa_cons (se_callT nt_str boot_str (by decide +kernel) (by kernel_rfl) (sa_cons (se_var (i := 4) (by rfl) (by kernel_rfl) (by kernel_rfl) (by kernel_rfl)) sa_nil rfl) rfl) sa_nil rfl) rfl rfl (by decide) rfl) rfl) sb_nil)) sb_nil)) sb_nil) rfl) (sb_cons (ss_ret (se_met nt_join PySem.F.plainAttrs_str PySem.F.slot_str_join PySem.F.type_str_join (se_mC se_str) (sa_cons (se_var (i := 2) (by rfl) (by kernel_rfl) (by kernel_rfl) (by kernel_rfl)) sa_nil rfl) rfl rfl (by decide) rfl)) sb_nil))))
theorem sc__law_text : FnScope N__law_text ["_law_deed"] (defScope sD__law_text) := ⟨by rfl, by rfl, by rfl, by decide +kernel, by rfl, by decide +kernel, by decide +kernel⟩
theorem bd__law_text (kV doc pm : Value) (an : Option Addr) (cdv ct : Value) (us : List Value) (hl : us.length = (["_law_deed"] : List Str).length) : bindArgs (PySem.W.fnOf "_law_text" "_law_text" (defArgs sD__law_text) (defBody sD__law_text) (defScope sD__law_text) .none kV doc pm an cdv ct) ⟨us, []⟩ = pure ((["_law_deed"] : List Str).zip us) := match us, hl with | [_], _ => rfl
/-! ### _law_drawn -/
abbrev sD__law_drawn : Stmt := top 29
def N__law_drawn : List Str := ["_law_state", "_law_some", "_law_word"]
def C__law_drawn : Cal := calOf [("_law_things", 2, g__law_things), ("_law_kinds", 0, g__law_kinds), ("_law_take", 2, g__law_take)] [] ["len", "sorted"] []
def m__law_drawn : Ev → Sto → SRes := (mSeq (mAsg (mNt (orN ntSortD ntSortS) (mCons (fun _ S => g__law_kinds [] S) mNil)) (gNm 1)) (mSeq (mAsg (mSub (mVar 1) (mCall g__law_take 2 (mCons (mVar 0) (mCons (mNt ntLen (mCons (mVar 1) mNil)) mNil)))) (gNm 2)) (mSeq (mRet (mBin .Add (mTup (mCons (mVar 2) mNil)) (mCall g__law_things 2 (mCons (mVar 0) (mCons (mSub (fun _ S => g__law_kinds [] S) (mVar 2)) mNil))))) (fun env S => .nx env S))))
def g__law_drawn : List U → Sto → Res U := runB N__law_drawn m__law_drawn
theorem ok__law_drawn {k : Nat} : SB k (gmOf N__law_drawn (defScope sD__law_drawn)) C__law_drawn true (defBody sD__law_drawn) m__law_drawn := (sb_cons (ss_asg (se_callB (nt_or nt_sortD nt_sortS) boot_sorted (by decide +kernel) (by kernel_rfl) (sa_cons (se_call0 (g := g__law_kinds) (by kernel_rfl) (by kernel_rfl) (by kernel_rfl)) sa_nil rfl) rfl) (sg_name (i := 1) (by rfl) (by kernel_rfl)) rfl rfl rfl) (sb_cons (ss_asg (se_sub (se_var (i := 1) (by rfl) (by kernel_rfl) (by kernel_rfl) (by kernel_rfl)) (se_call (g := g__law_take) (n := 2) (by kernel_rfl) (by kernel_rfl) (by kernel_rfl) (sa_cons (se_var (i := 0) (by rfl) (by kernel_rfl) (by kernel_rfl) (by kernel_rfl)) (sa_cons (se_callB nt_len boot_len (by decide +kernel) (by kernel_rfl) (sa_cons (se_var (i := 1) (by rfl) (by kernel_rfl) (by kernel_rfl) (by kernel_rfl)) sa_nil rfl) rfl) sa_nil rfl) rfl) rfl) rfl) (sg_name (i := 2) (by rfl) (by kernel_rfl)) rfl rfl rfl) (sb_cons (ss_ret (se_bin (se_tup (sa_cons (se_var (i := 2) (by rfl) (by kernel_rfl) (by kernel_rfl) (by kernel_rfl)) sa_nil rfl)) (se_call (g := g__law_things) (n := 2) (by kernel_rfl) (by kernel_rfl) (by kernel_rfl) (sa_cons (se_var (i := 0) (by rfl) (by kernel_rfl) (by kernel_rfl) (by kernel_rfl)) (sa_cons (se_sub (se_call0 (g := g__law_kinds) (by kernel_rfl) (by kernel_rfl) (by kernel_rfl)) (se_var (i := 2) (by rfl) (by kernel_rfl) (by kernel_rfl) (by kernel_rfl)) rfl) sa_nil rfl) rfl) rfl))) sb_nil)))
theorem sc__law_drawn : FnScope N__law_drawn ["_law_state"] (defScope sD__law_drawn) := ⟨by rfl, by rfl, by rfl, by decide +kernel, by rfl, by decide +kernel, by decide +kernel⟩
theorem bd__law_drawn (kV doc pm : Value) (an : Option Addr) (cdv ct : Value) (us : List Value) (hl : us.length = (["_law_state"] : List Str).length) : bindArgs (PySem.W.fnOf "_law_drawn" "_law_drawn" (defArgs sD__law_drawn) (defBody sD__law_drawn) (defScope sD__law_drawn) .none kV doc pm an cdv ct) ⟨us, []⟩ = pure ((["_law_state"] : List Str).zip us) := match us, hl with | [_], _ => rfl
/-! ### _law_right -/
abbrev sD__law_right : Stmt := top 30
def N__law_right : List Str := ["_law_deed", "_law_text_here", "_law_kept"]
def C__law_right : Cal := calOf [("shown_deed", 1, g_shown_deed), ("read_deed", 1, g_read_deed), ("_law_text", 1, g__law_text)] [] ["repr"] []
def m__law_right : Ev → Sto → SRes := (mSeq (mAsg (mCall g__law_text 1 (mCons (mVar 0) mNil)) (gNm 1)) (mSeq (mAsg (mNt ntRepr (mCons (mVar 0) mNil)) (gNm 2)) (mSeq (mIf (mOrT (mCmpT .NotEq (mCall g_shown_deed 1 (mCons (mVar 0) mNil)) (mVar 1)) (mOrT (mCmpT .NotEq (mNt ntRepr (mCons (mCall g_read_deed 1 (mCons (mVar 1) mNil)) mNil)) (mVar 2)) (mCmpT .NotEq (mNt ntRepr (mCons (mVar 0) mNil)) (mVar 2)))) (mSeq (mRet (mC (.bl false))) (fun env S => .nx env S)) (fun env S => .nx env S)) (mSeq (mRet (toB (mCmpT .Eq (mCall g_shown_deed 1 (mCons (mCall g_read_deed 1 (mCons (mVar 1) mNil)) mNil)) (mVar 1)))) (fun env S => .nx env S)))))
def g__law_right : List U → Sto → Res U := runB N__law_right m__law_right
theorem ok__law_right {k : Nat} : SB k (gmOf N__law_right (defScope sD__law_right)) C__law_right true (defBody sD__law_right) m__law_right := (sb_cons (ss_asg (se_call (g := g__law_text) (n := 1) (by kernel_rfl) (by kernel_rfl) (by kernel_rfl) (sa_cons (se_var (i := 0) (by rfl) (by kernel_rfl) (by kernel_rfl) (by kernel_rfl)) sa_nil rfl) rfl) (sg_name (i := 1) (by rfl) (by kernel_rfl)) rfl rfl rfl) (sb_cons (ss_asg (se_callB nt_repr boot_repr (by decide +kernel) (by kernel_rfl) (sa_cons (se_var (i := 0) (by rfl) (by kernel_rfl) (by kernel_rfl) (by kernel_rfl)) sa_nil rfl) rfl) (sg_name (i := 2) (by rfl) (by kernel_rfl)) rfl rfl rfl) (sb_cons (ss_if (SW.st (sw_or (st_cmp (se_call (g := g_shown_deed) (n := 1) (by kernel_rfl) (by kernel_rfl) (by kernel_rfl) (sa_cons (se_var (i := 0) (by rfl) (by kernel_rfl) (by kernel_rfl) (by kernel_rfl)) sa_nil rfl) rfl) (se_var (i := 1) (by rfl) (by kernel_rfl) (by kernel_rfl) (by kernel_rfl)) rfl) (sw_or (st_cmp (se_callB nt_repr boot_repr (by decide +kernel) (by kernel_rfl) (sa_cons (se_call (g := g_read_deed) (n := 1) (by kernel_rfl) (by kernel_rfl) (by kernel_rfl) (sa_cons (se_var (i := 1) (by rfl) (by kernel_rfl) (by kernel_rfl) (by kernel_rfl)) sa_nil rfl) rfl) sa_nil rfl) rfl) (se_var (i := 2) (by rfl) (by kernel_rfl) (by kernel_rfl) (by kernel_rfl)) rfl) (sw_or1 (st_cmp (se_callB nt_repr boot_repr (by decide +kernel) (by kernel_rfl) (sa_cons (se_var (i := 0) (by rfl) (by kernel_rfl) (by kernel_rfl) (by kernel_rfl)) sa_nil rfl) rfl) (se_var (i := 2) (by rfl) (by kernel_rfl) (by kernel_rfl) (by kernel_rfl)) rfl))))) (sb_cons (ss_ret (se_mC se_bool)) sb_nil) sb_nil) (sb_cons (ss_ret (se_cmp (se_call (g := g_shown_deed) (n := 1) (by kernel_rfl) (by kernel_rfl) (by kernel_rfl) (sa_cons (se_call (g := g_read_deed) (n := 1) (by kernel_rfl) (by kernel_rfl) (by kernel_rfl) (sa_cons (se_var (i := 1) (by rfl) (by kernel_rfl) (by kernel_rfl) (by kernel_rfl)) sa_nil rfl) rfl) sa_nil rfl) rfl) (se_var (i := 1) (by rfl) (by kernel_rfl) (by kernel_rfl) (by kernel_rfl)) rfl)) sb_nil))))
theorem sc__law_right : FnScope N__law_right ["_law_deed"] (defScope sD__law_right) := ⟨by rfl, by rfl, by rfl, by decide +kernel, by rfl, by decide +kernel, by decide +kernel⟩
theorem bd__law_right (kV doc pm : Value) (an : Option Addr) (cdv ct : Value) (us : List Value) (hl : us.length = (["_law_deed"] : List Str).length) : bindArgs (PySem.W.fnOf "_law_right" "_law_right" (defArgs sD__law_right) (defBody sD__law_right) (defScope sD__law_right) .none kV doc pm an cdv ct) ⟨us, []⟩ = pure ((["_law_deed"] : List Str).zip us) := match us, hl with | [_], _ => rfl
/-! ### law -/
abbrev sD_law : Stmt := top 31
def N_law : List Str := ["_law_script", "_law_k", "_law_state", "_law_word"]
def C_law : Cal := calOf [("_law_kinds", 0, g__law_kinds), ("_law_right", 1, g__law_right), ("_law_things", 2, g__law_things), ("_law_begun", 2, g__law_begun), ("_law_drawn", 1, g__law_drawn)] [] ["len", "sorted", "range", "max", "min"] []
def m_law : Ev → Sto → SRes := (mSeq (mFor (iRng1 (mCons (mNt ntMax (mCons (mC (.int 1)) (mCons (mNt ntMin (mCons (mC (.int 40)) (mCons (mNt ntLen (mCons (mVar 0) mNil)) mNil))) mNil))) mNil)) (gNm 1) (mSeq (mAsg (mCall g__law_begun 2 (mCons (mVar 0) (mCons (mVar 1) mNil))) (gNm 2)) (mSeq (mIf (mNotT (tru (mCall g__law_right 1 (mCons (mCall g__law_drawn 1 (mCons (mVar 2) mNil)) mNil)))) (mSeq (mRet (mC (.bl false))) (fun env S => .nx env S)) (fun env S => .nx env S)) (fun env S => .nx env S)))) (mSeq (mAsg (mCall g__law_begun 2 (mCons (mVar 0) (mCons (mC (.int 0)) mNil))) (gNm 2)) (mSeq (mFor (iVal (mNt (orN ntSortD ntSortS) (mCons (fun _ S => g__law_kinds [] S) mNil))) (gNm 3) (mSeq (mIf (mNotT (tru (mCall g__law_right 1 (mCons (mBin .Add (mTup (mCons (mVar 3) mNil)) (mCall g__law_things 2 (mCons (mVar 2) (mCons (mSub (fun _ S => g__law_kinds [] S) (mVar 3)) mNil)))) mNil)))) (mSeq (mRet (mC (.bl false))) (fun env S => .nx env S)) (fun env S => .nx env S)) (fun env S => .nx env S))) (mSeq (mRet (toB (mCmpT .Eq (mNt ntLen (mCons (fun _ S => g__law_kinds [] S) mNil)) (mC (.int 27))))) (fun env S => .nx env S)))))
def g_law : List U → Sto → Res U := runB N_law m_law
theorem ok_law {k : Nat} : SB k (gmOf N_law (defScope sD_law)) C_law true (defBody sD_law) m_law := (sb_cons (ss_for (si_rng1 (by kernel_rfl) (by decide +kernel) (sa_cons (se_callB nt_max boot_max (by decide +kernel) (by kernel_rfl) (sa_cons (se_mC se_int) (sa_cons (se_callB nt_min boot_min (by decide +kernel) (by kernel_rfl) (sa_cons (se_mC se_int) (sa_cons (se_callB nt_len boot_len (by decide +kernel) (by kernel_rfl) (sa_cons (se_var (i := 0) (by rfl) (by kernel_rfl) (by kernel_rfl) (by kernel_rfl)) sa_nil rfl) rfl) sa_nil rfl) rfl) rfl) sa_nil rfl) rfl) rfl) sa_nil rfl) rfl) (sg_name (i := 1) (by rfl) (by kernel_rfl)) (sb_cons (ss_asg (se_call (g := g__law_begun) (n := 2) (by kernel_rfl) (by kernel_rfl) (by kernel_rfl) (sa_cons (se_var (i := 0) (by rfl) (by kernel_rfl) (by kernel_rfl) (by kernel_rfl)) (sa_cons (se_var (i := 1) (by rfl) (by kernel_rfl) (by kernel_rfl) (by kernel_rfl)) sa_nil rfl) rfl) rfl) (sg_name (i := 2) (by rfl) (by kernel_rfl)) rfl rfl rfl) (sb_cons (ss_if (st_not (st_val (se_call (g := g__law_right) (n := 1) (by kernel_rfl) (by kernel_rfl) (by kernel_rfl) (sa_cons (se_call (g := g__law_drawn) (n := 1) (by kernel_rfl) (by kernel_rfl) (by kernel_rfl) (sa_cons (se_var (i := 2) (by rfl) (by kernel_rfl) (by kernel_rfl) (by kernel_rfl)) sa_nil rfl) rfl) sa_nil rfl) rfl) rfl)) (sb_cons (ss_ret (se_mC se_bool)) sb_nil) sb_nil) sb_nil)) rfl) (sb_cons (ss_asg (se_call (g := g__law_begun) (n := 2) (by kernel_rfl) (by kernel_rfl) (by kernel_rfl) (sa_cons (se_var (i := 0) (by rfl) (by kernel_rfl) (by kernel_rfl) (by kernel_rfl)) (sa_cons (se_mC se_int) sa_nil rfl) rfl) rfl) (sg_name (i := 2) (by rfl) (by kernel_rfl)) rfl rfl rfl) (sb_cons (ss_for (si_val (se_callB (nt_or nt_sortD nt_sortS) boot_sorted (by decide +kernel) (by kernel_rfl) (sa_cons (se_call0 (g := g__law_kinds) (by kernel_rfl) (by kernel_rfl) (by kernel_rfl)) sa_nil rfl) rfl)) (sg_name (i := 3) (by rfl) (by kernel_rfl)) (sb_cons (ss_if (st_not (st_val (se_call (g := g__law_right) (n := 1) (by kernel_rfl) (by kernel_rfl) (by kernel_rfl) (sa_cons (se_bin (se_tup (sa_cons (se_var (i := 3) (by rfl) (by kernel_rfl) (by kernel_rfl) (by kernel_rfl)) sa_nil rfl)) (se_call (g := g__law_things) (n := 2) (by kernel_rfl) (by kernel_rfl) (by kernel_rfl) (sa_cons (se_var (i := 2) (by rfl) (by kernel_rfl) (by kernel_rfl) (by kernel_rfl)) (sa_cons (se_sub (se_call0 (g := g__law_kinds) (by kernel_rfl) (by kernel_rfl) (by kernel_rfl)) (se_var (i := 3) (by rfl) (by kernel_rfl) (by kernel_rfl) (by kernel_rfl)) rfl) sa_nil rfl) rfl) rfl)) sa_nil rfl) rfl) rfl)) (sb_cons (ss_ret (se_mC se_bool)) sb_nil) sb_nil) sb_nil) rfl) (sb_cons (ss_ret (se_cmp (se_callB nt_len boot_len (by decide +kernel) (by kernel_rfl) (sa_cons (se_call0 (g := g__law_kinds) (by kernel_rfl) (by kernel_rfl) (by kernel_rfl)) sa_nil rfl) rfl) (se_mC se_int) rfl)) sb_nil))))
theorem sc_law : FnScope N_law ["_law_script"] (defScope sD_law) := ⟨by rfl, by rfl, by rfl, by decide +kernel, by rfl, by decide +kernel, by decide +kernel⟩
theorem bd_law (kV doc pm : Value) (an : Option Addr) (cdv ct : Value) (us : List Value) (hl : us.length = (["_law_script"] : List Str).length) : bindArgs (PySem.W.fnOf "law" "law" (defArgs sD_law) (defBody sD_law) (defScope sD_law) .none kV doc pm an cdv ct) ⟨us, []⟩ = pure ((["_law_script"] : List Str).zip us) := match us, hl with | [_], _ => rfl
/-! ### the law as a whole -/
theorem all_mk {l : PySem.W.OpenLaw} {w : World} {K : PySem.W.Frag} {h : Heap} {mg : Str → Option Value} {fa : Addr} (X : K.In h) (G : h.Ns mainGlobals mg) (hfa : mg "law" = some (.ref fa))
    {f__law_kinds : Addr} {od__law_kinds an__law_kinds : Option Addr} {sl__law_kinds : Array (Option Value)} {oc__law_kinds kV__law_kinds dc__law_kinds pm__law_kinds cd__law_kinds ct__law_kinds : Value}
    {f_shown_thing : Addr} {od_shown_thing an_shown_thing : Option Addr} {sl_shown_thing : Array (Option Value)} {oc_shown_thing kV_shown_thing dc_shown_thing pm_shown_thing cd_shown_thing ct_shown_thing : Value}
    {f_shown_deed : Addr} {od_shown_deed an_shown_deed : Option Addr} {sl_shown_deed : Array (Option Value)} {oc_shown_deed kV_shown_deed dc_shown_deed pm_shown_deed cd_shown_deed ct_shown_deed : Value}
    {f_number_in : Addr} {od_number_in an_number_in : Option Addr} {sl_number_in : Array (Option Value)} {oc_number_in kV_number_in dc_number_in pm_number_in cd_number_in ct_number_in : Value}
    {f_is_key : Addr} {od_is_key an_is_key : Option Addr} {sl_is_key : Array (Option Value)} {oc_is_key kV_is_key dc_is_key pm_is_key cd_is_key ct_is_key : Value}
    {f_key_in : Addr} {od_key_in an_key_in : Option Addr} {sl_key_in : Array (Option Value)} {oc_key_in kV_key_in dc_key_in pm_key_in cd_key_in ct_key_in : Value}
    {f_mode_in : Addr} {od_mode_in an_mode_in : Option Addr} {sl_mode_in : Array (Option Value)} {oc_mode_in kV_mode_in dc_mode_in pm_mode_in cd_mode_in ct_mode_in : Value}
    {f_numbers_in : Addr} {od_numbers_in an_numbers_in : Option Addr} {sl_numbers_in : Array (Option Value)} {oc_numbers_in kV_numbers_in dc_numbers_in pm_numbers_in cd_numbers_in ct_numbers_in : Value}
    {f_worth_in : Addr} {od_worth_in an_worth_in : Option Addr} {sl_worth_in : Array (Option Value)} {oc_worth_in kV_worth_in dc_worth_in pm_worth_in cd_worth_in ct_worth_in : Value}
    {f_pace_in : Addr} {od_pace_in an_pace_in : Option Addr} {sl_pace_in : Array (Option Value)} {oc_pace_in kV_pace_in dc_pace_in pm_pace_in cd_pace_in ct_pace_in : Value}
    {f_keys_in : Addr} {od_keys_in an_keys_in : Option Addr} {sl_keys_in : Array (Option Value)} {oc_keys_in kV_keys_in dc_keys_in pm_keys_in cd_keys_in ct_keys_in : Value}
    {f_read_deed : Addr} {od_read_deed an_read_deed : Option Addr} {sl_read_deed : Array (Option Value)} {oc_read_deed kV_read_deed dc_read_deed pm_read_deed cd_read_deed ct_read_deed : Value}
    {f__law_text : Addr} {od__law_text an__law_text : Option Addr} {sl__law_text : Array (Option Value)} {oc__law_text kV__law_text dc__law_text pm__law_text cd__law_text ct__law_text : Value}
    {f__law_right : Addr} {od__law_right an__law_right : Option Addr} {sl__law_right : Array (Option Value)} {oc__law_right kV__law_right dc__law_right pm__law_right cd__law_right ct__law_right : Value}
    {f__law_take : Addr} {od__law_take an__law_take : Option Addr} {sl__law_take : Array (Option Value)} {oc__law_take kV__law_take dc__law_take pm__law_take cd__law_take ct__law_take : Value}
    {f__law_a_key : Addr} {od__law_a_key an__law_a_key : Option Addr} {sl__law_a_key : Array (Option Value)} {oc__law_a_key kV__law_a_key dc__law_a_key pm__law_a_key cd__law_a_key ct__law_a_key : Value}
    {f__law_number : Addr} {od__law_number an__law_number : Option Addr} {sl__law_number : Array (Option Value)} {oc__law_number kV__law_number dc__law_number pm__law_number cd__law_number ct__law_number : Value}
    {f__law_things : Addr} {od__law_things an__law_things : Option Addr} {sl__law_things : Array (Option Value)} {oc__law_things kV__law_things dc__law_things pm__law_things cd__law_things ct__law_things : Value}
    {f__law_begun : Addr} {od__law_begun an__law_begun : Option Addr} {sl__law_begun : Array (Option Value)} {oc__law_begun kV__law_begun dc__law_begun pm__law_begun cd__law_begun ct__law_begun : Value}
    {f__law_drawn : Addr} {od__law_drawn an__law_drawn : Option Addr} {sl__law_drawn : Array (Option Value)} {oc__law_drawn kV__law_drawn dc__law_drawn pm__law_drawn cd__law_drawn ct__law_drawn : Value}
    {f_law : Addr} {od_law an_law : Option Addr} {sl_law : Array (Option Value)} {oc_law kV_law dc_law pm_law cd_law ct_law : Value}
    {t_LONGEST : Tok}
    {t_LETTERS : Tok}
    {t_MOST_FIELDS : Tok}
    {b_0 : Addr} {bd_0 : Option Addr} {bn_0 : Nat} {bs_0 : Array (Option Value)} {u_0_0 : Tok}
    {b_1 : Addr} {bd_1 : Option Addr} {bn_1 : Nat} {bs_1 : Array (Option Value)} {u_1_0 u_1_1 u_1_2 u_1_3 : Tok}
    {b_2 : Addr} {bd_2 : Option Addr} {bn_2 : Nat} {bs_2 : Array (Option Value)} {u_2_0 u_2_1 u_2_2 : Tok}
    {b_3 : Addr} {bd_3 : Option Addr} {bn_3 : Nat} {bs_3 : Array (Option Value)} {u_3_0 u_3_1 : Tok}
    {b_4 : Addr} {bd_4 : Option Addr} {bn_4 : Nat} {bs_4 : Array (Option Value)} {u_4_0 u_4_1 : Tok}
    {b_5 : Addr} {bd_5 : Option Addr} {bn_5 : Nat} {bs_5 : Array (Option Value)} {u_5_0 u_5_1 : Tok}
    {b_6 : Addr} {bd_6 : Option Addr} {bn_6 : Nat} {bs_6 : Array (Option Value)} {u_6_0 : Tok}
    {b_7 : Addr} {bd_7 : Option Addr} {bn_7 : Nat} {bs_7 : Array (Option Value)} {u_7_0 u_7_1 : Tok}
    {b_8 : Addr} {bd_8 : Option Addr} {bn_8 : Nat} {bs_8 : Array (Option Value)} {u_8_0 : Tok}
    {b_9 : Addr} {bd_9 : Option Addr} {bn_9 : Nat} {bs_9 : Array (Option Value)} {u_9_0 u_9_1 : Tok}
    {b_10 : Addr} {bd_10 : Option Addr} {bn_10 : Nat} {bs_10 : Array (Option Value)}
    {b_11 : Addr} {bd_11 : Option Addr} {bn_11 : Nat} {bs_11 : Array (Option Value)} {u_11_0 : Tok}
    {b_12 : Addr} {bd_12 : Option Addr} {bn_12 : Nat} {bs_12 : Array (Option Value)} {u_12_0 u_12_1 u_12_2 : Tok}
    {b_13 : Addr} {bd_13 : Option Addr} {bn_13 : Nat} {bs_13 : Array (Option Value)} {u_13_0 u_13_1 : Tok}
    {b_14 : Addr} {bd_14 : Option Addr} {bn_14 : Nat} {bs_14 : Array (Option Value)} {u_14_0 u_14_1 u_14_2 : Tok}
    {b_15 : Addr} {bd_15 : Option Addr} {bn_15 : Nat} {bs_15 : Array (Option Value)} {u_15_0 : Tok}
    {b_16 : Addr} {bd_16 : Option Addr} {bn_16 : Nat} {bs_16 : Array (Option Value)} {u_16_0 : Tok}
    {b_17 : Addr} {bd_17 : Option Addr} {bn_17 : Nat} {bs_17 : Array (Option Value)} {u_17_0 : Tok}
    {b_18 : Addr} {bd_18 : Option Addr} {bn_18 : Nat} {bs_18 : Array (Option Value)} {u_18_0 : Tok}
    {b_19 : Addr} {bd_19 : Option Addr} {bn_19 : Nat} {bs_19 : Array (Option Value)} {u_19_0 : Tok}
    {b_20 : Addr} {bd_20 : Option Addr} {bn_20 : Nat} {bs_20 : Array (Option Value)} {u_20_0 : Tok}
    {b_21 : Addr} {bd_21 : Option Addr} {bn_21 : Nat} {bs_21 : Array (Option Value)} {u_21_0 u_21_1 : Tok}
    {b_22 : Addr} {bd_22 : Option Addr} {bn_22 : Nat} {bs_22 : Array (Option Value)} {u_22_0 u_22_1 u_22_2 : Tok}
    {b_23 : Addr} {bd_23 : Option Addr} {bn_23 : Nat} {bs_23 : Array (Option Value)} {u_23_0 u_23_1 : Tok}
    {b_24 : Addr} {bd_24 : Option Addr} {bn_24 : Nat} {bs_24 : Array (Option Value)} {u_24_0 u_24_1 : Tok}
    {b_25 : Addr} {bd_25 : Option Addr} {bn_25 : Nat} {bs_25 : Array (Option Value)} {u_25_0 u_25_1 : Tok}
    {b_26 : Addr} {bd_26 : Option Addr} {bn_26 : Nat} {bs_26 : Array (Option Value)}
    {d_FORMS : Addr} {n_FORMS : Nat} {v_FORMS_0 v_FORMS_1 v_FORMS_2 v_FORMS_3 v_FORMS_4 v_FORMS_5 v_FORMS_6 v_FORMS_7 v_FORMS_8 v_FORMS_9 v_FORMS_10 v_FORMS_11 v_FORMS_12 v_FORMS_13 v_FORMS_14 v_FORMS_15 v_FORMS_16 v_FORMS_17 v_FORMS_18 v_FORMS_19 v_FORMS_20 v_FORMS_21 v_FORMS_22 v_FORMS_23 v_FORMS_24 v_FORMS_25 v_FORMS_26 : Tok}
    {d_READERS : Addr} {n_READERS : Nat} {v_READERS_0 v_READERS_1 v_READERS_2 v_READERS_3 v_READERS_4 v_READERS_5 : Tok}
    (a__law_kinds : PySem.W.nsIn K mainGlobals "_law_kinds" = some (some (.ref f__law_kinds)))
    (l__law_kinds : K.lookup f__law_kinds = some ⟨oc__law_kinds, od__law_kinds, .func (PySem.W.fnOf "_law_kinds" "_law_kinds" (defArgs sD__law_kinds) (defBody sD__law_kinds) (defScope sD__law_kinds) .none kV__law_kinds dc__law_kinds pm__law_kinds an__law_kinds cd__law_kinds ct__law_kinds), sl__law_kinds⟩)
    (c__law_kinds : PySem.W.codeIn K cd__law_kinds "_law_kinds" = true)
    (k__law_kinds : PySem.W.keepIn K (.ref f__law_kinds) = true)
    (a_shown_thing : PySem.W.nsIn K mainGlobals "shown_thing" = some (some (.ref f_shown_thing)))
    (l_shown_thing : K.lookup f_shown_thing = some ⟨oc_shown_thing, od_shown_thing, .func (PySem.W.fnOf "shown_thing" "shown_thing" (defArgs sD_shown_thing) (defBody sD_shown_thing) (defScope sD_shown_thing) .none kV_shown_thing dc_shown_thing pm_shown_thing an_shown_thing cd_shown_thing ct_shown_thing), sl_shown_thing⟩)
    (c_shown_thing : PySem.W.codeIn K cd_shown_thing "shown_thing" = true)
    (k_shown_thing : PySem.W.keepIn K (.ref f_shown_thing) = true)
    (a_shown_deed : PySem.W.nsIn K mainGlobals "shown_deed" = some (some (.ref f_shown_deed)))
    (l_shown_deed : K.lookup f_shown_deed = some ⟨oc_shown_deed, od_shown_deed, .func (PySem.W.fnOf "shown_deed" "shown_deed" (defArgs sD_shown_deed) (defBody sD_shown_deed) (defScope sD_shown_deed) .none kV_shown_deed dc_shown_deed pm_shown_deed an_shown_deed cd_shown_deed ct_shown_deed), sl_shown_deed⟩)
    (c_shown_deed : PySem.W.codeIn K cd_shown_deed "shown_deed" = true)
    (k_shown_deed : PySem.W.keepIn K (.ref f_shown_deed) = true)
    (a_number_in : PySem.W.nsIn K mainGlobals "number_in" = some (some (.ref f_number_in)))
    (l_number_in : K.lookup f_number_in = some ⟨oc_number_in, od_number_in, .func (PySem.W.fnOf "number_in" "number_in" (defArgs sD_number_in) (defBody sD_number_in) (defScope sD_number_in) .none kV_number_in dc_number_in pm_number_in an_number_in cd_number_in ct_number_in), sl_number_in⟩)
    (c_number_in : PySem.W.codeIn K cd_number_in "number_in" = true)
    (k_number_in : PySem.W.keepIn K (.ref f_number_in) = true)
    (a_is_key : PySem.W.nsIn K mainGlobals "is_key" = some (some (.ref f_is_key)))
    (l_is_key : K.lookup f_is_key = some ⟨oc_is_key, od_is_key, .func (PySem.W.fnOf "is_key" "is_key" (defArgs sD_is_key) (defBody sD_is_key) (defScope sD_is_key) .none kV_is_key dc_is_key pm_is_key an_is_key cd_is_key ct_is_key), sl_is_key⟩)
    (c_is_key : PySem.W.codeIn K cd_is_key "is_key" = true)
    (k_is_key : PySem.W.keepIn K (.ref f_is_key) = true)
    (a_key_in : PySem.W.nsIn K mainGlobals "key_in" = some (some (.ref f_key_in)))
    (l_key_in : K.lookup f_key_in = some ⟨oc_key_in, od_key_in, .func (PySem.W.fnOf "key_in" "key_in" (defArgs sD_key_in) (defBody sD_key_in) (defScope sD_key_in) .none kV_key_in dc_key_in pm_key_in an_key_in cd_key_in ct_key_in), sl_key_in⟩)
    (c_key_in : PySem.W.codeIn K cd_key_in "key_in" = true)
    (k_key_in : PySem.W.keepIn K (.ref f_key_in) = true)
    (a_mode_in : PySem.W.nsIn K mainGlobals "mode_in" = some (some (.ref f_mode_in)))
    (l_mode_in : K.lookup f_mode_in = some ⟨oc_mode_in, od_mode_in, .func (PySem.W.fnOf "mode_in" "mode_in" (defArgs sD_mode_in) (defBody sD_mode_in) (defScope sD_mode_in) .none kV_mode_in dc_mode_in pm_mode_in an_mode_in cd_mode_in ct_mode_in), sl_mode_in⟩)
    (c_mode_in : PySem.W.codeIn K cd_mode_in "mode_in" = true)
    (k_mode_in : PySem.W.keepIn K (.ref f_mode_in) = true)
    (a_numbers_in : PySem.W.nsIn K mainGlobals "numbers_in" = some (some (.ref f_numbers_in)))
    (l_numbers_in : K.lookup f_numbers_in = some ⟨oc_numbers_in, od_numbers_in, .func (PySem.W.fnOf "numbers_in" "numbers_in" (defArgs sD_numbers_in) (defBody sD_numbers_in) (defScope sD_numbers_in) .none kV_numbers_in dc_numbers_in pm_numbers_in an_numbers_in cd_numbers_in ct_numbers_in), sl_numbers_in⟩)
    (c_numbers_in : PySem.W.codeIn K cd_numbers_in "numbers_in" = true)
    (k_numbers_in : PySem.W.keepIn K (.ref f_numbers_in) = true)
    (a_worth_in : PySem.W.nsIn K mainGlobals "worth_in" = some (some (.ref f_worth_in)))
    (l_worth_in : K.lookup f_worth_in = some ⟨oc_worth_in, od_worth_in, .func (PySem.W.fnOf "worth_in" "worth_in" (defArgs sD_worth_in) (defBody sD_worth_in) (defScope sD_worth_in) .none kV_worth_in dc_worth_in pm_worth_in an_worth_in cd_worth_in ct_worth_in), sl_worth_in⟩)
    (c_worth_in : PySem.W.codeIn K cd_worth_in "worth_in" = true)
    (k_worth_in : PySem.W.keepIn K (.ref f_worth_in) = true)
    (a_pace_in : PySem.W.nsIn K mainGlobals "pace_in" = some (some (.ref f_pace_in)))
    (l_pace_in : K.lookup f_pace_in = some ⟨oc_pace_in, od_pace_in, .func (PySem.W.fnOf "pace_in" "pace_in" (defArgs sD_pace_in) (defBody sD_pace_in) (defScope sD_pace_in) .none kV_pace_in dc_pace_in pm_pace_in an_pace_in cd_pace_in ct_pace_in), sl_pace_in⟩)
    (c_pace_in : PySem.W.codeIn K cd_pace_in "pace_in" = true)
    (k_pace_in : PySem.W.keepIn K (.ref f_pace_in) = true)
    (a_keys_in : PySem.W.nsIn K mainGlobals "keys_in" = some (some (.ref f_keys_in)))
    (l_keys_in : K.lookup f_keys_in = some ⟨oc_keys_in, od_keys_in, .func (PySem.W.fnOf "keys_in" "keys_in" (defArgs sD_keys_in) (defBody sD_keys_in) (defScope sD_keys_in) .none kV_keys_in dc_keys_in pm_keys_in an_keys_in cd_keys_in ct_keys_in), sl_keys_in⟩)
    (c_keys_in : PySem.W.codeIn K cd_keys_in "keys_in" = true)
    (k_keys_in : PySem.W.keepIn K (.ref f_keys_in) = true)
    (a_read_deed : PySem.W.nsIn K mainGlobals "read_deed" = some (some (.ref f_read_deed)))
    (l_read_deed : K.lookup f_read_deed = some ⟨oc_read_deed, od_read_deed, .func (PySem.W.fnOf "read_deed" "read_deed" (defArgs sD_read_deed) (defBody sD_read_deed) (defScope sD_read_deed) .none kV_read_deed dc_read_deed pm_read_deed an_read_deed cd_read_deed ct_read_deed), sl_read_deed⟩)
    (c_read_deed : PySem.W.codeIn K cd_read_deed "read_deed" = true)
    (k_read_deed : PySem.W.keepIn K (.ref f_read_deed) = true)
    (a__law_text : PySem.W.nsIn K mainGlobals "_law_text" = some (some (.ref f__law_text)))
    (l__law_text : K.lookup f__law_text = some ⟨oc__law_text, od__law_text, .func (PySem.W.fnOf "_law_text" "_law_text" (defArgs sD__law_text) (defBody sD__law_text) (defScope sD__law_text) .none kV__law_text dc__law_text pm__law_text an__law_text cd__law_text ct__law_text), sl__law_text⟩)
    (c__law_text : PySem.W.codeIn K cd__law_text "_law_text" = true)
    (k__law_text : PySem.W.keepIn K (.ref f__law_text) = true)
    (a__law_right : PySem.W.nsIn K mainGlobals "_law_right" = some (some (.ref f__law_right)))
    (l__law_right : K.lookup f__law_right = some ⟨oc__law_right, od__law_right, .func (PySem.W.fnOf "_law_right" "_law_right" (defArgs sD__law_right) (defBody sD__law_right) (defScope sD__law_right) .none kV__law_right dc__law_right pm__law_right an__law_right cd__law_right ct__law_right), sl__law_right⟩)
    (c__law_right : PySem.W.codeIn K cd__law_right "_law_right" = true)
    (k__law_right : PySem.W.keepIn K (.ref f__law_right) = true)
    (a__law_take : PySem.W.nsIn K mainGlobals "_law_take" = some (some (.ref f__law_take)))
    (l__law_take : K.lookup f__law_take = some ⟨oc__law_take, od__law_take, .func (PySem.W.fnOf "_law_take" "_law_take" (defArgs sD__law_take) (defBody sD__law_take) (defScope sD__law_take) .none kV__law_take dc__law_take pm__law_take an__law_take cd__law_take ct__law_take), sl__law_take⟩)
    (c__law_take : PySem.W.codeIn K cd__law_take "_law_take" = true)
    (k__law_take : PySem.W.keepIn K (.ref f__law_take) = true)
    (a__law_a_key : PySem.W.nsIn K mainGlobals "_law_a_key" = some (some (.ref f__law_a_key)))
    (l__law_a_key : K.lookup f__law_a_key = some ⟨oc__law_a_key, od__law_a_key, .func (PySem.W.fnOf "_law_a_key" "_law_a_key" (defArgs sD__law_a_key) (defBody sD__law_a_key) (defScope sD__law_a_key) .none kV__law_a_key dc__law_a_key pm__law_a_key an__law_a_key cd__law_a_key ct__law_a_key), sl__law_a_key⟩)
    (c__law_a_key : PySem.W.codeIn K cd__law_a_key "_law_a_key" = true)
    (k__law_a_key : PySem.W.keepIn K (.ref f__law_a_key) = true)
    (a__law_number : PySem.W.nsIn K mainGlobals "_law_number" = some (some (.ref f__law_number)))
    (l__law_number : K.lookup f__law_number = some ⟨oc__law_number, od__law_number, .func (PySem.W.fnOf "_law_number" "_law_number" (defArgs sD__law_number) (defBody sD__law_number) (defScope sD__law_number) .none kV__law_number dc__law_number pm__law_number an__law_number cd__law_number ct__law_number), sl__law_number⟩)
    (c__law_number : PySem.W.codeIn K cd__law_number "_law_number" = true)
    (k__law_number : PySem.W.keepIn K (.ref f__law_number) = true)
    (a__law_things : PySem.W.nsIn K mainGlobals "_law_things" = some (some (.ref f__law_things)))
    (l__law_things : K.lookup f__law_things = some ⟨oc__law_things, od__law_things, .func (PySem.W.fnOf "_law_things" "_law_things" (defArgs sD__law_things) (defBody sD__law_things) (defScope sD__law_things) .none kV__law_things dc__law_things pm__law_things an__law_things cd__law_things ct__law_things), sl__law_things⟩)
    (c__law_things : PySem.W.codeIn K cd__law_things "_law_things" = true)
    (k__law_things : PySem.W.keepIn K (.ref f__law_things) = true)
    (a__law_begun : PySem.W.nsIn K mainGlobals "_law_begun" = some (some (.ref f__law_begun)))
    (l__law_begun : K.lookup f__law_begun = some ⟨oc__law_begun, od__law_begun, .func (PySem.W.fnOf "_law_begun" "_law_begun" (defArgs sD__law_begun) (defBody sD__law_begun) (defScope sD__law_begun) .none kV__law_begun dc__law_begun pm__law_begun an__law_begun cd__law_begun ct__law_begun), sl__law_begun⟩)
    (c__law_begun : PySem.W.codeIn K cd__law_begun "_law_begun" = true)
    (k__law_begun : PySem.W.keepIn K (.ref f__law_begun) = true)
    (a__law_drawn : PySem.W.nsIn K mainGlobals "_law_drawn" = some (some (.ref f__law_drawn)))
    (l__law_drawn : K.lookup f__law_drawn = some ⟨oc__law_drawn, od__law_drawn, .func (PySem.W.fnOf "_law_drawn" "_law_drawn" (defArgs sD__law_drawn) (defBody sD__law_drawn) (defScope sD__law_drawn) .none kV__law_drawn dc__law_drawn pm__law_drawn an__law_drawn cd__law_drawn ct__law_drawn), sl__law_drawn⟩)
    (c__law_drawn : PySem.W.codeIn K cd__law_drawn "_law_drawn" = true)
    (k__law_drawn : PySem.W.keepIn K (.ref f__law_drawn) = true)
    (a_law : PySem.W.nsIn K mainGlobals "law" = some (some (.ref f_law)))
    (l_law : K.lookup f_law = some ⟨oc_law, od_law, .func (PySem.W.fnOf "law" "law" (defArgs sD_law) (defBody sD_law) (defScope sD_law) .none kV_law dc_law pm_law an_law cd_law ct_law), sl_law⟩)
    (c_law : PySem.W.codeIn K cd_law "law" = true)
    (k_law : PySem.W.keepIn K (.ref f_law) = true)
    (z_str : PySem.W.nsIn K mainGlobals "str" = some none)
    (z_zip : PySem.W.nsIn K mainGlobals "zip" = some none)
    (z_int : PySem.W.nsIn K mainGlobals "int" = some none)
    (z_len : PySem.W.nsIn K mainGlobals "len" = some none)
    (z_all : PySem.W.nsIn K mainGlobals "all" = some none)
    (z_isinstance : PySem.W.nsIn K mainGlobals "isinstance" = some none)
    (z_tuple : PySem.W.nsIn K mainGlobals "tuple" = some none)
    (z_repr : PySem.W.nsIn K mainGlobals "repr" = some none)
    (z_range : PySem.W.nsIn K mainGlobals "range" = some none)
    (z_max : PySem.W.nsIn K mainGlobals "max" = some none)
    (z_sorted : PySem.W.nsIn K mainGlobals "sorted" = some none)
    (z_min : PySem.W.nsIn K mainGlobals "min" = some none)
    (g_LONGEST : PySem.W.nsIn K mainGlobals "LONGEST" = some (some (.int 6 t_LONGEST)))
    (g_LETTERS : PySem.W.nsIn K mainGlobals "LETTERS" = some (some (.str "abcdefghijklmnopqrstuvwxyz" t_LETTERS)))
    (g_MOST_FIELDS : PySem.W.nsIn K mainGlobals "MOST_FIELDS" = some (some (.int 4 t_MOST_FIELDS)))
    (r_0 : K.lookup b_0 = some ⟨.type "tuple", bd_0, .seq (strVs [("number", u_0_0)]).toArray bn_0, bs_0⟩)
    (r_1 : K.lookup b_1 = some ⟨.type "tuple", bd_1, .seq (strVs [("number", u_1_0), ("number", u_1_1), ("number", u_1_2), ("number", u_1_3)]).toArray bn_1, bs_1⟩)
    (r_2 : K.lookup b_2 = some ⟨.type "tuple", bd_2, .seq (strVs [("number", u_2_0), ("number", u_2_1), ("pace", u_2_2)]).toArray bn_2, bs_2⟩)
    (r_3 : K.lookup b_3 = some ⟨.type "tuple", bd_3, .seq (strVs [("number", u_3_0), ("number", u_3_1)]).toArray bn_3, bs_3⟩)
    (r_4 : K.lookup b_4 = some ⟨.type "tuple", bd_4, .seq (strVs [("number", u_4_0), ("number", u_4_1)]).toArray bn_4, bs_4⟩)
    (r_5 : K.lookup b_5 = some ⟨.type "tuple", bd_5, .seq (strVs [("number", u_5_0), ("number", u_5_1)]).toArray bn_5, bs_5⟩)
    (r_6 : K.lookup b_6 = some ⟨.type "tuple", bd_6, .seq (strVs [("number", u_6_0)]).toArray bn_6, bs_6⟩)
    (r_7 : K.lookup b_7 = some ⟨.type "tuple", bd_7, .seq (strVs [("number", u_7_0), ("number", u_7_1)]).toArray bn_7, bs_7⟩)
    (r_8 : K.lookup b_8 = some ⟨.type "tuple", bd_8, .seq (strVs [("number", u_8_0)]).toArray bn_8, bs_8⟩)
    (r_9 : K.lookup b_9 = some ⟨.type "tuple", bd_9, .seq (strVs [("number", u_9_0), ("number", u_9_1)]).toArray bn_9, bs_9⟩)
    (r_10 : K.lookup b_10 = some ⟨.type "tuple", bd_10, .seq (strVs []).toArray bn_10, bs_10⟩)
    (r_11 : K.lookup b_11 = some ⟨.type "tuple", bd_11, .seq (strVs [("number", u_11_0)]).toArray bn_11, bs_11⟩)
    (r_12 : K.lookup b_12 = some ⟨.type "tuple", bd_12, .seq (strVs [("number", u_12_0), ("key", u_12_1), ("mode", u_12_2)]).toArray bn_12, bs_12⟩)
    (r_13 : K.lookup b_13 = some ⟨.type "tuple", bd_13, .seq (strVs [("number", u_13_0), ("key", u_13_1)]).toArray bn_13, bs_13⟩)
    (r_14 : K.lookup b_14 = some ⟨.type "tuple", bd_14, .seq (strVs [("number", u_14_0), ("key", u_14_1), ("worth", u_14_2)]).toArray bn_14, bs_14⟩)
    (r_15 : K.lookup b_15 = some ⟨.type "tuple", bd_15, .seq (strVs [("number", u_15_0)]).toArray bn_15, bs_15⟩)
    (r_16 : K.lookup b_16 = some ⟨.type "tuple", bd_16, .seq (strVs [("number", u_16_0)]).toArray bn_16, bs_16⟩)
    (r_17 : K.lookup b_17 = some ⟨.type "tuple", bd_17, .seq (strVs [("number", u_17_0)]).toArray bn_17, bs_17⟩)
    (r_18 : K.lookup b_18 = some ⟨.type "tuple", bd_18, .seq (strVs [("number", u_18_0)]).toArray bn_18, bs_18⟩)
    (r_19 : K.lookup b_19 = some ⟨.type "tuple", bd_19, .seq (strVs [("number", u_19_0)]).toArray bn_19, bs_19⟩)
    (r_20 : K.lookup b_20 = some ⟨.type "tuple", bd_20, .seq (strVs [("number", u_20_0)]).toArray bn_20, bs_20⟩)
    (r_21 : K.lookup b_21 = some ⟨.type "tuple", bd_21, .seq (strVs [("number", u_21_0), ("keys", u_21_1)]).toArray bn_21, bs_21⟩)
    (r_22 : K.lookup b_22 = some ⟨.type "tuple", bd_22, .seq (strVs [("number", u_22_0), ("number", u_22_1), ("keys", u_22_2)]).toArray bn_22, bs_22⟩)
    (r_23 : K.lookup b_23 = some ⟨.type "tuple", bd_23, .seq (strVs [("number", u_23_0), ("keys", u_23_1)]).toArray bn_23, bs_23⟩)
    (r_24 : K.lookup b_24 = some ⟨.type "tuple", bd_24, .seq (strVs [("key", u_24_0), ("number", u_24_1)]).toArray bn_24, bs_24⟩)
    (r_25 : K.lookup b_25 = some ⟨.type "tuple", bd_25, .seq (strVs [("number", u_25_0), ("number", u_25_1)]).toArray bn_25, bs_25⟩)
    (r_26 : K.lookup b_26 = some ⟨.type "tuple", bd_26, .seq (strVs []).toArray bn_26, bs_26⟩)
    (e_FORMS : PySem.W.nsIn K mainGlobals "FORMS" = some (some (.ref d_FORMS)))
    (m_FORMS : K.lookup d_FORMS = some ⟨.type "dict", none, .dict (kdEs w.params [("tick", v_FORMS_0, .ref b_0), ("set", v_FORMS_1, .ref b_1), ("pace", v_FORMS_2, .ref b_2), ("stop", v_FORMS_3, .ref b_3), ("back", v_FORMS_4, .ref b_4), ("choose", v_FORMS_5, .ref b_5), ("renew", v_FORMS_6, .ref b_6), ("catch", v_FORMS_7, .ref b_7), ("mark", v_FORMS_8, .ref b_8), ("gone", v_FORMS_9, .ref b_9), ("begin", v_FORMS_10, .ref b_10), ("again", v_FORMS_11, .ref b_11), ("take", v_FORMS_12, .ref b_12), ("read", v_FORMS_13, .ref b_13), ("write", v_FORMS_14, .ref b_14), ("finish", v_FORMS_15, .ref b_15), ("tell", v_FORMS_16, .ref b_16), ("stay", v_FORMS_17, .ref b_17), ("deliver", v_FORMS_18, .ref b_18), ("lose", v_FORMS_19, .ref b_19), ("question", v_FORMS_20, .ref b_20), ("at", v_FORMS_21, .ref b_21), ("copy", v_FORMS_22, .ref b_22), ("now", v_FORMS_23, .ref b_23), ("move", v_FORMS_24, .ref b_24), ("form", v_FORMS_25, .ref b_25), ("settle", v_FORMS_26, .ref b_26)]).toArray n_FORMS, #[]⟩)
    (s_FORMS : (d_FORMS == sysModules) = false)
    (e_READERS : PySem.W.nsIn K mainGlobals "READERS" = some (some (.ref d_READERS)))
    (m_READERS : K.lookup d_READERS = some ⟨.type "dict", none, .dict (kdEs w.params [("number", v_READERS_0, .ref f_number_in), ("key", v_READERS_1, .ref f_key_in), ("mode", v_READERS_2, .ref f_mode_in), ("worth", v_READERS_3, .ref f_worth_in), ("pace", v_READERS_4, .ref f_pace_in), ("keys", v_READERS_5, .ref f_keys_in)]).toArray n_READERS, #[]⟩)
    (s_READERS : (d_READERS == sysModules) = false)
    (plain : ∀ ns : List Int, ns.length ≤ 63 → ∃ T, g_law [.ref baseS.length] (baseS ++ [.scr (ns.map U.int)]) = .ok (.bl true) T) :
    ∃ (fd : FuncData) (b : List Addr) (Sb : Sto), BaseOk K mg b Sb ∧ (∀ (s : Shared) (u : Value), BindsTo s fd ⟨[u], []⟩ [("_law_script", u)]) ∧ (∀ ns : List Int, ns.length ≤ 63 → ∃ T, g_law [.ref Sb.length] (Sb ++ [.scr (ns.map U.int)]) = .ok (.bl true) T) ∧
      ∀ base : Heap, K.In base → base.Ns mainGlobals mg → FnG l.prog w K mg base 6 fa fd ["_law_script"] (spOf K mg b 1 g_law) := by
  have e := hfa.symm.trans (PySem.W.mg_of X G a_law)
  cases e
  have D__law_kinds : DefF K mg "_law_kinds" sD__law_kinds := defF_of X G a__law_kinds l__law_kinds c__law_kinds k__law_kinds
  have D_shown_thing : DefF K mg "shown_thing" sD_shown_thing := defF_of X G a_shown_thing l_shown_thing c_shown_thing k_shown_thing
  have D_shown_deed : DefF K mg "shown_deed" sD_shown_deed := defF_of X G a_shown_deed l_shown_deed c_shown_deed k_shown_deed
  have D_number_in : DefF K mg "number_in" sD_number_in := defF_of X G a_number_in l_number_in c_number_in k_number_in
  have D_is_key : DefF K mg "is_key" sD_is_key := defF_of X G a_is_key l_is_key c_is_key k_is_key
  have D_key_in : DefF K mg "key_in" sD_key_in := defF_of X G a_key_in l_key_in c_key_in k_key_in
  have D_mode_in : DefF K mg "mode_in" sD_mode_in := defF_of X G a_mode_in l_mode_in c_mode_in k_mode_in
  have D_numbers_in : DefF K mg "numbers_in" sD_numbers_in := defF_of X G a_numbers_in l_numbers_in c_numbers_in k_numbers_in
  have D_worth_in : DefF K mg "worth_in" sD_worth_in := defF_of X G a_worth_in l_worth_in c_worth_in k_worth_in
  have D_pace_in : DefF K mg "pace_in" sD_pace_in := defF_of X G a_pace_in l_pace_in c_pace_in k_pace_in
  have D_keys_in : DefF K mg "keys_in" sD_keys_in := defF_of X G a_keys_in l_keys_in c_keys_in k_keys_in
  have D_read_deed : DefF K mg "read_deed" sD_read_deed := defF_of X G a_read_deed l_read_deed c_read_deed k_read_deed
  have D__law_text : DefF K mg "_law_text" sD__law_text := defF_of X G a__law_text l__law_text c__law_text k__law_text
  have D__law_right : DefF K mg "_law_right" sD__law_right := defF_of X G a__law_right l__law_right c__law_right k__law_right
  have D__law_take : DefF K mg "_law_take" sD__law_take := defF_of X G a__law_take l__law_take c__law_take k__law_take
  have D__law_a_key : DefF K mg "_law_a_key" sD__law_a_key := defF_of X G a__law_a_key l__law_a_key c__law_a_key k__law_a_key
  have D__law_number : DefF K mg "_law_number" sD__law_number := defF_of X G a__law_number l__law_number c__law_number k__law_number
  have D__law_things : DefF K mg "_law_things" sD__law_things := defF_of X G a__law_things l__law_things c__law_things k__law_things
  have D__law_begun : DefF K mg "_law_begun" sD__law_begun := defF_of X G a__law_begun l__law_begun c__law_begun k__law_begun
  have D__law_drawn : DefF K mg "_law_drawn" sD__law_drawn := defF_of X G a__law_drawn l__law_drawn c__law_drawn k__law_drawn
  have D_law : DefF K mg "law" sD_law := defF_of X G a_law l_law c_law k_law
  have Z_str := PySem.W.mg_none_of X G z_str
  have Z_zip := PySem.W.mg_none_of X G z_zip
  have Z_int := PySem.W.mg_none_of X G z_int
  have Z_len := PySem.W.mg_none_of X G z_len
  have Z_all := PySem.W.mg_none_of X G z_all
  have Z_isinstance := PySem.W.mg_none_of X G z_isinstance
  have Z_tuple := PySem.W.mg_none_of X G z_tuple
  have Z_repr := PySem.W.mg_none_of X G z_repr
  have Z_range := PySem.W.mg_none_of X G z_range
  have Z_max := PySem.W.mg_none_of X G z_max
  have Z_sorted := PySem.W.mg_none_of X G z_sorted
  have Z_min := PySem.W.mg_none_of X G z_min
  have G_LONGEST : GlP mg [b_0, b_1, b_2, b_3, b_4, b_5, b_6, b_7, b_8, b_9, b_10, b_11, b_12, b_13, b_14, b_15, b_16, b_17, b_18, b_19, b_20, b_21, b_22, b_23, b_24, b_25, b_26] "LONGEST" (.int 6) := glP_int (PySem.W.mg_of X G g_LONGEST)
  have G_LETTERS : GlP mg [b_0, b_1, b_2, b_3, b_4, b_5, b_6, b_7, b_8, b_9, b_10, b_11, b_12, b_13, b_14, b_15, b_16, b_17, b_18, b_19, b_20, b_21, b_22, b_23, b_24, b_25, b_26] "LETTERS" (.str "abcdefghijklmnopqrstuvwxyz") := glP_str (PySem.W.mg_of X G g_LETTERS)
  have G_MOST_FIELDS : GlP mg [b_0, b_1, b_2, b_3, b_4, b_5, b_6, b_7, b_8, b_9, b_10, b_11, b_12, b_13, b_14, b_15, b_16, b_17, b_18, b_19, b_20, b_21, b_22, b_23, b_24, b_25, b_26] "MOST_FIELDS" (.int 4) := glP_int (PySem.W.mg_of X G g_MOST_FIELDS)
  have K_FORMS : KdP w K mg [b_0, b_1, b_2, b_3, b_4, b_5, b_6, b_7, b_8, b_9, b_10, b_11, b_12, b_13, b_14, b_15, b_16, b_17, b_18, b_19, b_20, b_21, b_22, b_23, b_24, b_25, b_26] "FORMS" kd_FORMS := kdP_of (PySem.W.mg_of X G e_FORMS) m_FORMS s_FORMS (.cons ⟨rfl, V.ref b_0, rfl, .ref rfl⟩ (.cons ⟨rfl, V.ref b_1, rfl, .ref rfl⟩ (.cons ⟨rfl, V.ref b_2, rfl, .ref rfl⟩ (.cons ⟨rfl, V.ref b_3, rfl, .ref rfl⟩ (.cons ⟨rfl, V.ref b_4, rfl, .ref rfl⟩ (.cons ⟨rfl, V.ref b_5, rfl, .ref rfl⟩ (.cons ⟨rfl, V.ref b_6, rfl, .ref rfl⟩ (.cons ⟨rfl, V.ref b_7, rfl, .ref rfl⟩ (.cons ⟨rfl, V.ref b_8, rfl, .ref rfl⟩ (.cons ⟨rfl, V.ref b_9, rfl, .ref rfl⟩ (.cons ⟨rfl, V.ref b_10, rfl, .ref rfl⟩ (.cons ⟨rfl, V.ref b_11, rfl, .ref rfl⟩ (.cons ⟨rfl, V.ref b_12, rfl, .ref rfl⟩ (.cons ⟨rfl, V.ref b_13, rfl, .ref rfl⟩ (.cons ⟨rfl, V.ref b_14, rfl, .ref rfl⟩ (.cons ⟨rfl, V.ref b_15, rfl, .ref rfl⟩ (.cons ⟨rfl, V.ref b_16, rfl, .ref rfl⟩ (.cons ⟨rfl, V.ref b_17, rfl, .ref rfl⟩ (.cons ⟨rfl, V.ref b_18, rfl, .ref rfl⟩ (.cons ⟨rfl, V.ref b_19, rfl, .ref rfl⟩ (.cons ⟨rfl, V.ref b_20, rfl, .ref rfl⟩ (.cons ⟨rfl, V.ref b_21, rfl, .ref rfl⟩ (.cons ⟨rfl, V.ref b_22, rfl, .ref rfl⟩ (.cons ⟨rfl, V.ref b_23, rfl, .ref rfl⟩ (.cons ⟨rfl, V.ref b_24, rfl, .ref rfl⟩ (.cons ⟨rfl, V.ref b_25, rfl, .ref rfl⟩ (.cons ⟨rfl, V.ref b_26, rfl, .ref rfl⟩ .nil)))))))))))))))))))))))))))
  have K_READERS : KdP w K mg [b_0, b_1, b_2, b_3, b_4, b_5, b_6, b_7, b_8, b_9, b_10, b_11, b_12, b_13, b_14, b_15, b_16, b_17, b_18, b_19, b_20, b_21, b_22, b_23, b_24, b_25, b_26] "READERS" kd_READERS := kdP_of (PySem.W.mg_of X G e_READERS) m_READERS s_READERS (.cons ⟨rfl, V.ref f_number_in, rfl, .fn (PySem.W.mg_of X G a_number_in)⟩ (.cons ⟨rfl, V.ref f_key_in, rfl, .fn (PySem.W.mg_of X G a_key_in)⟩ (.cons ⟨rfl, V.ref f_mode_in, rfl, .fn (PySem.W.mg_of X G a_mode_in)⟩ (.cons ⟨rfl, V.ref f_worth_in, rfl, .fn (PySem.W.mg_of X G a_worth_in)⟩ (.cons ⟨rfl, V.ref f_pace_in, rfl, .fn (PySem.W.mg_of X G a_pace_in)⟩ (.cons ⟨rfl, V.ref f_keys_in, rfl, .fn (PySem.W.mg_of X G a_keys_in)⟩ .nil))))))
  have B : BaseOk K mg [b_0, b_1, b_2, b_3, b_4, b_5, b_6, b_7, b_8, b_9, b_10, b_11, b_12, b_13, b_14, b_15, b_16, b_17, b_18, b_19, b_20, b_21, b_22, b_23, b_24, b_25, b_26] baseS := baseOk_of (.cons ⟨rfl, tupS_ok r_0 (show (1 : Nat) ≤ LIM by decide)⟩ (.cons ⟨rfl, tupS_ok r_1 (show (4 : Nat) ≤ LIM by decide)⟩ (.cons ⟨rfl, tupS_ok r_2 (show (3 : Nat) ≤ LIM by decide)⟩ (.cons ⟨rfl, tupS_ok r_3 (show (2 : Nat) ≤ LIM by decide)⟩ (.cons ⟨rfl, tupS_ok r_4 (show (2 : Nat) ≤ LIM by decide)⟩ (.cons ⟨rfl, tupS_ok r_5 (show (2 : Nat) ≤ LIM by decide)⟩ (.cons ⟨rfl, tupS_ok r_6 (show (1 : Nat) ≤ LIM by decide)⟩ (.cons ⟨rfl, tupS_ok r_7 (show (2 : Nat) ≤ LIM by decide)⟩ (.cons ⟨rfl, tupS_ok r_8 (show (1 : Nat) ≤ LIM by decide)⟩ (.cons ⟨rfl, tupS_ok r_9 (show (2 : Nat) ≤ LIM by decide)⟩ (.cons ⟨rfl, tupS_ok r_10 (show (0 : Nat) ≤ LIM by decide)⟩ (.cons ⟨rfl, tupS_ok r_11 (show (1 : Nat) ≤ LIM by decide)⟩ (.cons ⟨rfl, tupS_ok r_12 (show (3 : Nat) ≤ LIM by decide)⟩ (.cons ⟨rfl, tupS_ok r_13 (show (2 : Nat) ≤ LIM by decide)⟩ (.cons ⟨rfl, tupS_ok r_14 (show (3 : Nat) ≤ LIM by decide)⟩ (.cons ⟨rfl, tupS_ok r_15 (show (1 : Nat) ≤ LIM by decide)⟩ (.cons ⟨rfl, tupS_ok r_16 (show (1 : Nat) ≤ LIM by decide)⟩ (.cons ⟨rfl, tupS_ok r_17 (show (1 : Nat) ≤ LIM by decide)⟩ (.cons ⟨rfl, tupS_ok r_18 (show (1 : Nat) ≤ LIM by decide)⟩ (.cons ⟨rfl, tupS_ok r_19 (show (1 : Nat) ≤ LIM by decide)⟩ (.cons ⟨rfl, tupS_ok r_20 (show (1 : Nat) ≤ LIM by decide)⟩ (.cons ⟨rfl, tupS_ok r_21 (show (2 : Nat) ≤ LIM by decide)⟩ (.cons ⟨rfl, tupS_ok r_22 (show (3 : Nat) ≤ LIM by decide)⟩ (.cons ⟨rfl, tupS_ok r_23 (show (2 : Nat) ≤ LIM by decide)⟩ (.cons ⟨rfl, tupS_ok r_24 (show (2 : Nat) ≤ LIM by decide)⟩ (.cons ⟨rfl, tupS_ok r_25 (show (2 : Nat) ≤ LIM by decide)⟩ (.cons ⟨rfl, tupS_ok r_26 (show (0 : Nat) ≤ LIM by decide)⟩ .nil)))))))))))))))))))))))))))
  refine ⟨PySem.W.fnOf "law" "law" (defArgs sD_law) (defBody sD_law) (defScope sD_law) .none kV_law dc_law pm_law an_law cd_law ct_law, [b_0, b_1, b_2, b_3, b_4, b_5, b_6, b_7, b_8, b_9, b_10, b_11, b_12, b_13, b_14, b_15, b_16, b_17, b_18, b_19, b_20, b_21, b_22, b_23, b_24, b_25, b_26], baseS, B, fun s v => .of_eq rfl, plain, fun base _ _ => ?_⟩
  have B__law_kinds : CalB l.prog w K mg base 0 [b_0, b_1, b_2, b_3, b_4, b_5, b_6, b_7, b_8, b_9, b_10, b_11, b_12, b_13, b_14, b_15, b_16, b_17, b_18, b_19, b_20, b_21, b_22, b_23, b_24, b_25, b_26] C__law_kinds := calB_of (k := 0) alln alln alln alln
  have P__law_kinds : FnP l.prog w K mg base 1 [b_0, b_1, b_2, b_3, b_4, b_5, b_6, b_7, b_8, b_9, b_10, b_11, b_12, b_13, b_14, b_15, b_16, b_17, b_18, b_19, b_20, b_21, b_22, b_23, b_24, b_25, b_26] "_law_kinds" 0 g__law_kinds := fnP_of D__law_kinds sc__law_kinds bd__law_kinds B__law_kinds ok__law_kinds
  have B_shown_thing : CalB l.prog w K mg base 0 [b_0, b_1, b_2, b_3, b_4, b_5, b_6, b_7, b_8, b_9, b_10, b_11, b_12, b_13, b_14, b_15, b_16, b_17, b_18, b_19, b_20, b_21, b_22, b_23, b_24, b_25, b_26] C_shown_thing := calB_of (k := 0) alln alln (allc Z_str alln) alln
  have P_shown_thing : FnP l.prog w K mg base 1 [b_0, b_1, b_2, b_3, b_4, b_5, b_6, b_7, b_8, b_9, b_10, b_11, b_12, b_13, b_14, b_15, b_16, b_17, b_18, b_19, b_20, b_21, b_22, b_23, b_24, b_25, b_26] "shown_thing" 2 g_shown_thing := fnP_of D_shown_thing sc_shown_thing bd_shown_thing B_shown_thing ok_shown_thing
  have B_shown_deed : CalB l.prog w K mg base 1 [b_0, b_1, b_2, b_3, b_4, b_5, b_6, b_7, b_8, b_9, b_10, b_11, b_12, b_13, b_14, b_15, b_16, b_17, b_18, b_19, b_20, b_21, b_22, b_23, b_24, b_25, b_26] C_shown_deed := calB_of (k := 1) (allc (P_shown_thing.mono (by decide)) alln) alln (allc Z_zip alln) (allc K_FORMS alln)
  have P_shown_deed : FnP l.prog w K mg base 2 [b_0, b_1, b_2, b_3, b_4, b_5, b_6, b_7, b_8, b_9, b_10, b_11, b_12, b_13, b_14, b_15, b_16, b_17, b_18, b_19, b_20, b_21, b_22, b_23, b_24, b_25, b_26] "shown_deed" 1 g_shown_deed := fnP_of D_shown_deed sc_shown_deed bd_shown_deed B_shown_deed ok_shown_deed
  have B_number_in : CalB l.prog w K mg base 0 [b_0, b_1, b_2, b_3, b_4, b_5, b_6, b_7, b_8, b_9, b_10, b_11, b_12, b_13, b_14, b_15, b_16, b_17, b_18, b_19, b_20, b_21, b_22, b_23, b_24, b_25, b_26] C_number_in := calB_of (k := 0) alln alln (allc Z_str (allc Z_int (allc Z_len (allc Z_all alln)))) alln
  have P_number_in : FnP l.prog w K mg base 1 [b_0, b_1, b_2, b_3, b_4, b_5, b_6, b_7, b_8, b_9, b_10, b_11, b_12, b_13, b_14, b_15, b_16, b_17, b_18, b_19, b_20, b_21, b_22, b_23, b_24, b_25, b_26] "number_in" 1 g_number_in := fnP_of D_number_in sc_number_in bd_number_in B_number_in ok_number_in
  have B_is_key : CalB l.prog w K mg base 0 [b_0, b_1, b_2, b_3, b_4, b_5, b_6, b_7, b_8, b_9, b_10, b_11, b_12, b_13, b_14, b_15, b_16, b_17, b_18, b_19, b_20, b_21, b_22, b_23, b_24, b_25, b_26] C_is_key := calB_of (k := 0) alln (allc G_LONGEST (allc G_LETTERS alln)) (allc Z_isinstance (allc Z_str (allc Z_len (allc Z_all alln)))) alln
  have P_is_key : FnP l.prog w K mg base 1 [b_0, b_1, b_2, b_3, b_4, b_5, b_6, b_7, b_8, b_9, b_10, b_11, b_12, b_13, b_14, b_15, b_16, b_17, b_18, b_19, b_20, b_21, b_22, b_23, b_24, b_25, b_26] "is_key" 1 g_is_key := fnP_of D_is_key sc_is_key bd_is_key B_is_key ok_is_key
  have B_key_in : CalB l.prog w K mg base 1 [b_0, b_1, b_2, b_3, b_4, b_5, b_6, b_7, b_8, b_9, b_10, b_11, b_12, b_13, b_14, b_15, b_16, b_17, b_18, b_19, b_20, b_21, b_22, b_23, b_24, b_25, b_26] C_key_in := calB_of (k := 1) (allc (P_is_key.mono (by decide)) alln) alln alln alln
  have P_key_in : FnP l.prog w K mg base 2 [b_0, b_1, b_2, b_3, b_4, b_5, b_6, b_7, b_8, b_9, b_10, b_11, b_12, b_13, b_14, b_15, b_16, b_17, b_18, b_19, b_20, b_21, b_22, b_23, b_24, b_25, b_26] "key_in" 1 g_key_in := fnP_of D_key_in sc_key_in bd_key_in B_key_in ok_key_in
  have B_mode_in : CalB l.prog w K mg base 0 [b_0, b_1, b_2, b_3, b_4, b_5, b_6, b_7, b_8, b_9, b_10, b_11, b_12, b_13, b_14, b_15, b_16, b_17, b_18, b_19, b_20, b_21, b_22, b_23, b_24, b_25, b_26] C_mode_in := calB_of (k := 0) alln alln alln alln
  have P_mode_in : FnP l.prog w K mg base 1 [b_0, b_1, b_2, b_3, b_4, b_5, b_6, b_7, b_8, b_9, b_10, b_11, b_12, b_13, b_14, b_15, b_16, b_17, b_18, b_19, b_20, b_21, b_22, b_23, b_24, b_25, b_26] "mode_in" 1 g_mode_in := fnP_of D_mode_in sc_mode_in bd_mode_in B_mode_in ok_mode_in
  have B_numbers_in : CalB l.prog w K mg base 1 [b_0, b_1, b_2, b_3, b_4, b_5, b_6, b_7, b_8, b_9, b_10, b_11, b_12, b_13, b_14, b_15, b_16, b_17, b_18, b_19, b_20, b_21, b_22, b_23, b_24, b_25, b_26] C_numbers_in := calB_of (k := 1) (allc (P_number_in.mono (by decide)) alln) alln (allc Z_tuple alln) alln
  have P_numbers_in : FnP l.prog w K mg base 2 [b_0, b_1, b_2, b_3, b_4, b_5, b_6, b_7, b_8, b_9, b_10, b_11, b_12, b_13, b_14, b_15, b_16, b_17, b_18, b_19, b_20, b_21, b_22, b_23, b_24, b_25, b_26] "numbers_in" 2 g_numbers_in := fnP_of D_numbers_in sc_numbers_in bd_numbers_in B_numbers_in ok_numbers_in
  have B_worth_in : CalB l.prog w K mg base 2 [b_0, b_1, b_2, b_3, b_4, b_5, b_6, b_7, b_8, b_9, b_10, b_11, b_12, b_13, b_14, b_15, b_16, b_17, b_18, b_19, b_20, b_21, b_22, b_23, b_24, b_25, b_26] C_worth_in := calB_of (k := 2) (allc (P_numbers_in.mono (by decide)) alln) (allc G_MOST_FIELDS alln) (allc Z_len alln) alln
  have P_worth_in : FnP l.prog w K mg base 3 [b_0, b_1, b_2, b_3, b_4, b_5, b_6, b_7, b_8, b_9, b_10, b_11, b_12, b_13, b_14, b_15, b_16, b_17, b_18, b_19, b_20, b_21, b_22, b_23, b_24, b_25, b_26] "worth_in" 1 g_worth_in := fnP_of D_worth_in sc_worth_in bd_worth_in B_worth_in ok_worth_in
  have B_pace_in : CalB l.prog w K mg base 2 [b_0, b_1, b_2, b_3, b_4, b_5, b_6, b_7, b_8, b_9, b_10, b_11, b_12, b_13, b_14, b_15, b_16, b_17, b_18, b_19, b_20, b_21, b_22, b_23, b_24, b_25, b_26] C_pace_in := calB_of (k := 2) (allc (P_numbers_in.mono (by decide)) alln) alln (allc Z_len alln) alln
  have P_pace_in : FnP l.prog w K mg base 3 [b_0, b_1, b_2, b_3, b_4, b_5, b_6, b_7, b_8, b_9, b_10, b_11, b_12, b_13, b_14, b_15, b_16, b_17, b_18, b_19, b_20, b_21, b_22, b_23, b_24, b_25, b_26] "pace_in" 1 g_pace_in := fnP_of D_pace_in sc_pace_in bd_pace_in B_pace_in ok_pace_in
  have B_keys_in : CalB l.prog w K mg base 1 [b_0, b_1, b_2, b_3, b_4, b_5, b_6, b_7, b_8, b_9, b_10, b_11, b_12, b_13, b_14, b_15, b_16, b_17, b_18, b_19, b_20, b_21, b_22, b_23, b_24, b_25, b_26] C_keys_in := calB_of (k := 1) (allc (P_is_key.mono (by decide)) alln) alln (allc Z_all (allc Z_tuple alln)) alln
  have P_keys_in : FnP l.prog w K mg base 2 [b_0, b_1, b_2, b_3, b_4, b_5, b_6, b_7, b_8, b_9, b_10, b_11, b_12, b_13, b_14, b_15, b_16, b_17, b_18, b_19, b_20, b_21, b_22, b_23, b_24, b_25, b_26] "keys_in" 1 g_keys_in := fnP_of D_keys_in sc_keys_in bd_keys_in B_keys_in ok_keys_in
  have B_read_deed : CalB l.prog w K mg base 3 [b_0, b_1, b_2, b_3, b_4, b_5, b_6, b_7, b_8, b_9, b_10, b_11, b_12, b_13, b_14, b_15, b_16, b_17, b_18, b_19, b_20, b_21, b_22, b_23, b_24, b_25, b_26] C_read_deed := calB_of (k := 3) (allc (P_number_in.mono (by decide)) (allc (P_key_in.mono (by decide)) (allc (P_mode_in.mono (by decide)) (allc (P_worth_in.mono (by decide)) (allc (P_pace_in.mono (by decide)) (allc (P_keys_in.mono (by decide)) alln)))))) alln (allc Z_tuple (allc Z_zip (allc Z_len (allc Z_isinstance (allc Z_str alln))))) (allc K_FORMS (allc K_READERS alln))
  have P_read_deed : FnP l.prog w K mg base 4 [b_0, b_1, b_2, b_3, b_4, b_5, b_6, b_7, b_8, b_9, b_10, b_11, b_12, b_13, b_14, b_15, b_16, b_17, b_18, b_19, b_20, b_21, b_22, b_23, b_24, b_25, b_26] "read_deed" 1 g_read_deed := fnP_of D_read_deed sc_read_deed bd_read_deed B_read_deed ok_read_deed
  have B__law_text : CalB l.prog w K mg base 1 [b_0, b_1, b_2, b_3, b_4, b_5, b_6, b_7, b_8, b_9, b_10, b_11, b_12, b_13, b_14, b_15, b_16, b_17, b_18, b_19, b_20, b_21, b_22, b_23, b_24, b_25, b_26] C__law_text := calB_of (k := 1) (allc (P__law_kinds.mono (by decide)) alln) alln (allc Z_zip (allc Z_str alln)) alln
  have P__law_text : FnP l.prog w K mg base 2 [b_0, b_1, b_2, b_3, b_4, b_5, b_6, b_7, b_8, b_9, b_10, b_11, b_12, b_13, b_14, b_15, b_16, b_17, b_18, b_19, b_20, b_21, b_22, b_23, b_24, b_25, b_26] "_law_text" 1 g__law_text := fnP_of D__law_text sc__law_text bd__law_text B__law_text ok__law_text
  have B__law_right : CalB l.prog w K mg base 4 [b_0, b_1, b_2, b_3, b_4, b_5, b_6, b_7, b_8, b_9, b_10, b_11, b_12, b_13, b_14, b_15, b_16, b_17, b_18, b_19, b_20, b_21, b_22, b_23, b_24, b_25, b_26] C__law_right := calB_of (k := 4) (allc (P_shown_deed.mono (by decide)) (allc (P_read_deed.mono (by decide)) (allc (P__law_text.mono (by decide)) alln))) alln (allc Z_repr alln) alln
  have P__law_right : FnP l.prog w K mg base 5 [b_0, b_1, b_2, b_3, b_4, b_5, b_6, b_7, b_8, b_9, b_10, b_11, b_12, b_13, b_14, b_15, b_16, b_17, b_18, b_19, b_20, b_21, b_22, b_23, b_24, b_25, b_26] "_law_right" 1 g__law_right := fnP_of D__law_right sc__law_right bd__law_right B__law_right ok__law_right
  have B__law_take : CalB l.prog w K mg base 0 [b_0, b_1, b_2, b_3, b_4, b_5, b_6, b_7, b_8, b_9, b_10, b_11, b_12, b_13, b_14, b_15, b_16, b_17, b_18, b_19, b_20, b_21, b_22, b_23, b_24, b_25, b_26] C__law_take := calB_of (k := 0) alln alln (allc Z_range (allc Z_int alln)) alln
  have P__law_take : FnP l.prog w K mg base 1 [b_0, b_1, b_2, b_3, b_4, b_5, b_6, b_7, b_8, b_9, b_10, b_11, b_12, b_13, b_14, b_15, b_16, b_17, b_18, b_19, b_20, b_21, b_22, b_23, b_24, b_25, b_26] "_law_take" 2 g__law_take := fnP_of D__law_take sc__law_take bd__law_take B__law_take ok__law_take
  have B__law_a_key : CalB l.prog w K mg base 1 [b_0, b_1, b_2, b_3, b_4, b_5, b_6, b_7, b_8, b_9, b_10, b_11, b_12, b_13, b_14, b_15, b_16, b_17, b_18, b_19, b_20, b_21, b_22, b_23, b_24, b_25, b_26] C__law_a_key := calB_of (k := 1) (allc (P__law_take.mono (by decide)) alln) alln alln alln
  have P__law_a_key : FnP l.prog w K mg base 2 [b_0, b_1, b_2, b_3, b_4, b_5, b_6, b_7, b_8, b_9, b_10, b_11, b_12, b_13, b_14, b_15, b_16, b_17, b_18, b_19, b_20, b_21, b_22, b_23, b_24, b_25, b_26] "_law_a_key" 1 g__law_a_key := fnP_of D__law_a_key sc__law_a_key bd__law_a_key B__law_a_key ok__law_a_key
  have B__law_number : CalB l.prog w K mg base 1 [b_0, b_1, b_2, b_3, b_4, b_5, b_6, b_7, b_8, b_9, b_10, b_11, b_12, b_13, b_14, b_15, b_16, b_17, b_18, b_19, b_20, b_21, b_22, b_23, b_24, b_25, b_26] C__law_number := calB_of (k := 1) (allc (P__law_take.mono (by decide)) alln) alln alln alln
  have P__law_number : FnP l.prog w K mg base 2 [b_0, b_1, b_2, b_3, b_4, b_5, b_6, b_7, b_8, b_9, b_10, b_11, b_12, b_13, b_14, b_15, b_16, b_17, b_18, b_19, b_20, b_21, b_22, b_23, b_24, b_25, b_26] "_law_number" 1 g__law_number := fnP_of D__law_number sc__law_number bd__law_number B__law_number ok__law_number
  have B__law_things : CalB l.prog w K mg base 2 [b_0, b_1, b_2, b_3, b_4, b_5, b_6, b_7, b_8, b_9, b_10, b_11, b_12, b_13, b_14, b_15, b_16, b_17, b_18, b_19, b_20, b_21, b_22, b_23, b_24, b_25, b_26] C__law_things := calB_of (k := 2) (allc (P__law_a_key.mono (by decide)) (allc (P__law_number.mono (by decide)) (allc (P__law_take.mono (by decide)) alln))) alln (allc Z_tuple (allc Z_range alln)) alln
  have P__law_things : FnP l.prog w K mg base 3 [b_0, b_1, b_2, b_3, b_4, b_5, b_6, b_7, b_8, b_9, b_10, b_11, b_12, b_13, b_14, b_15, b_16, b_17, b_18, b_19, b_20, b_21, b_22, b_23, b_24, b_25, b_26] "_law_things" 2 g__law_things := fnP_of D__law_things sc__law_things bd__law_things B__law_things ok__law_things
  have B__law_begun : CalB l.prog w K mg base 0 [b_0, b_1, b_2, b_3, b_4, b_5, b_6, b_7, b_8, b_9, b_10, b_11, b_12, b_13, b_14, b_15, b_16, b_17, b_18, b_19, b_20, b_21, b_22, b_23, b_24, b_25, b_26] C__law_begun := calB_of (k := 0) alln alln (allc Z_max alln) alln
  have P__law_begun : FnP l.prog w K mg base 1 [b_0, b_1, b_2, b_3, b_4, b_5, b_6, b_7, b_8, b_9, b_10, b_11, b_12, b_13, b_14, b_15, b_16, b_17, b_18, b_19, b_20, b_21, b_22, b_23, b_24, b_25, b_26] "_law_begun" 2 g__law_begun := fnP_of D__law_begun sc__law_begun bd__law_begun B__law_begun ok__law_begun
  have B__law_drawn : CalB l.prog w K mg base 3 [b_0, b_1, b_2, b_3, b_4, b_5, b_6, b_7, b_8, b_9, b_10, b_11, b_12, b_13, b_14, b_15, b_16, b_17, b_18, b_19, b_20, b_21, b_22, b_23, b_24, b_25, b_26] C__law_drawn := calB_of (k := 3) (allc (P__law_things.mono (by decide)) (allc (P__law_kinds.mono (by decide)) (allc (P__law_take.mono (by decide)) alln))) alln (allc Z_len (allc Z_sorted alln)) alln
  have P__law_drawn : FnP l.prog w K mg base 4 [b_0, b_1, b_2, b_3, b_4, b_5, b_6, b_7, b_8, b_9, b_10, b_11, b_12, b_13, b_14, b_15, b_16, b_17, b_18, b_19, b_20, b_21, b_22, b_23, b_24, b_25, b_26] "_law_drawn" 1 g__law_drawn := fnP_of D__law_drawn sc__law_drawn bd__law_drawn B__law_drawn ok__law_drawn
  have B_law : CalB l.prog w K mg base 5 [b_0, b_1, b_2, b_3, b_4, b_5, b_6, b_7, b_8, b_9, b_10, b_11, b_12, b_13, b_14, b_15, b_16, b_17, b_18, b_19, b_20, b_21, b_22, b_23, b_24, b_25, b_26] C_law := calB_of (k := 5) (allc (P__law_kinds.mono (by decide)) (allc (P__law_right.mono (by decide)) (allc (P__law_things.mono (by decide)) (allc (P__law_begun.mono (by decide)) (allc (P__law_drawn.mono (by decide)) alln))))) alln (allc Z_len (allc Z_sorted (allc Z_range (allc Z_max (allc Z_min alln))))) alln
  obtain ⟨f, fd, hm, F⟩ := D_law
  exact fnG_of l_law c_law sc_law B_law ok_law
end Mn.D
set_option Elab.async false
set_option linter.all false
set_option maxRecDepth 100000
set_option maxHeartbeats 1000000
namespace Mn.D
open PySem PySem.Spec PyProof.Rows L2 Mn
local macro_rules | `(tactic| walk_at "mn") => `(tactic| first
  | with_reducible refine w_run ?_
  | with_reducible refine d_seq ?_
  | with_reducible refine d_nx ?_
  | with_reducible refine d_ret ?_
  | with_reducible refine d_exp ?_
  | with_reducible refine d_set ?_
  | with_reducible refine d_put ?_
  | with_reducible refine d_if ?_
  | with_reducible refine d_asg ?_
  | with_reducible refine w_c ?_
  | ((with_reducible refine' w_var ?mnE ?_); (case mnE => exact rfl))
  | with_reducible refine w_bin ?_
  | with_reducible refine w_add ?_
  | with_reducible refine w_subt ?_
  | ((with_reducible refine w_mul ?mnE ?_); (case mnE => omega))
  | ((with_reducible refine w_fdiv ?mnE ?_); (case mnE => omega))
  | ((with_reducible refine w_mod ?mnE ?_); (case mnE => omega))
  | ((with_reducible refine w_pow ?mnE ?_); (case mnE => decide))
  | with_reducible refine w_cmpT ?_
  | with_reducible refine w_chn ?_
  | with_reducible refine w_toB ?_
  | with_reducible refine w_tru ?_
  | with_reducible refine w_notT ?_
  | with_reducible refine w_andT ?_
  | with_reducible refine w_orT ?_
  | with_reducible refine w_and ?_
  | with_reducible refine w_or ?_
  | with_reducible refine w_sub ?_
  | with_reducible refine w_slc ?_
  | with_reducible refine w_onone ?_
  | with_reducible refine w_nil ?_
  | with_reducible refine w_cons ?_
  | with_reducible refine w_tup ?_
  | with_reducible refine w_lst ?_
  | with_reducible refine w_nt ?_
  | with_reducible refine w_met ?_
  | with_reducible refine w_call ?_
  | with_reducible refine w_ife ?_
  | with_reducible refine w_ok ?_
  | with_reducible refine c_gt ?_
  | with_reducible refine c_lt ?_
  | with_reducible refine c_le ?_
  | with_reducible refine c_ge ?_
  | with_reducible refine t_bl ?_
  | with_reducible refine t_int ?_)

theorem set_set {S : Sto} {j : Nat} {o o' : O} : (S.set j o).set j o' = S.set j o' := List.set_set ..
/-- a row of draws stands at j -/
def Dr (S : Sto) (j : Nat) : Prop := ∃ n m b, S[j]? = some (.lst [.int n, .int m, .bl b]) ∧ 0 ≤ m ∧ m < 2147483648
/-- only the row of draws at j changes -/
abbrev Dx (j : Nat) (S S' : Sto) : Prop := Ex (one' j) S S'
theorem take_ok {S : Sto} {j : Nat} {many : Int} (h : Dr S j) (h0 : 0 < many) (h1 : many ≤ 1000000) :
    Ok (g__law_take [.ref j, .int many] S) fun u S' => ∃ d, u = .int d ∧ 0 ≤ d ∧ d < many ∧ Dx j S S' ∧ Dr S' j := by
  obtain ⟨n, m, b, h, hm⟩ := h
  unfold g__law_take m__law_take
  repeat walk_at "mn"
  refine i_lst h (by rfl) ?_
  refine t_bl (br (fun hb => ?_) (fun hb => ?_))
  · repeat walk_at "mn"
    refine i_lst h (by rfl) ?_
    repeat walk_at "mn"
    refine i_lst h (by rfl) ?_
    repeat walk_at "mn"
    refine p_lst h (by rfl) ?_
    repeat walk_at "mn"
    refine i_lst (at_set h) (by rfl) ?_
    repeat walk_at "mn"
    refine p_lst (at_set h) (by rfl) ?_
    repeat walk_at "mn"
    refine ⟨_, rfl, Int.fmod_nonneg_of_pos _ h0, Int.fmod_lt_of_pos _ h0, ?_, _, _, _, at_set (at_set h), hm⟩
    exact (Ex.set (J := one' j) h rfl rfl).then (Ex.set (J := one' j) (at_set h) rfl rfl)
  · repeat walk_at "mn"
    refine d_rng (w_rng1 ?_)
    have p6 : (10 : Int) ^ (6 : Int).toNat = 1000000 := by decide
    have e0 : decide ((10 : Int) ^ (6 : Int).toNat < many) = false := decide_eq_false (by omega)
    repeat walk_at "mn"
    refine n_of (by rfl) ?_
    repeat walk_at "mn"
    rw [e0]
    refine ⟨_, rfl, by decide, 0, _, fun i e S' => match i with
      | 0 => e = _ ∧ S' = S
      | _ => (∃ x, e[2]? = some (some (.int x))) ∧ e[1]? = some (some (.int many)) ∧ Dx j S S' ∧ Dr S' j, rfl, ⟨rfl, rfl⟩, ?_, ?_⟩
    · rintro i e S' hi hI
      have : i = 0 := by
        have hi : i < 1 := hi
        omega
      subst this
      obtain ⟨rfl, rfl⟩ := hI
      refine ⟨_, _, rfl, ?_⟩
      repeat walk_at "mn"
      refine i_lst h (by rfl) ?_
      repeat walk_at "mn"
      refine p_lst h (by rfl) ?_
      repeat walk_at "mn"
      have b0 := Int.fmod_nonneg_of_pos (m * 48271 + 11) (by decide : (0 : Int) < 2147483647)
      have b1 := Int.fmod_lt_of_pos (m * 48271 + 11) (by decide : (0 : Int) < 2147483647)
      refine i_lst (at_set h) (by rfl) ?_
      repeat walk_at "mn"
      refine i_lst (at_set h) (by rfl) ?_
      repeat walk_at "mn"
      exact ⟨⟨_, rfl⟩, rfl, Ex.set (J := one' j) h rfl rfl, _, _, _, at_set h, b0, by omega⟩
    · rintro e S' ⟨⟨x, ex⟩, em, hx, hd⟩
      repeat walk_at "mn"
      refine w_var ex ?_
      repeat walk_at "mn"
      refine w_var em ?_
      repeat walk_at "mn"
      exact ⟨_, rfl, Int.fmod_nonneg_of_pos _ h0, Int.fmod_lt_of_pos _ h0, hx, hd⟩
/-- a key -/
def keysL : List Str := ["a", "b", "zzzzzz", "read", "tick"]
theorem len_Dx {j : Nat} {S S' : Sto} (h : Dx j S S') : S.length ≤ S'.length := h.len
theorem Dr.up {J : Nat → Prop} {S S' : Sto} {j : Nat} (h : Dr S j) (x : Ex J S S') (n : ¬ J j) : Dr S' j := by
  obtain ⟨a, b, c, e, r⟩ := h
  exact ⟨a, b, c, x.at e n, r⟩
theorem Dr.add {S : Sto} {j : Nat} (h : Dr S j) (o : O) : Dr (S ++ [o]) j := h.up (Ex.snoc none' S o) id
theorem a_key_ok {S : Sto} {j : Nat} (h : Dr S j) : Ok (g__law_a_key [.ref j]  S) fun u S' => ∃ x, u = .str x ∧ x ∈ keysL ∧ Dx j S S' ∧ Dr S' j := by
  unfold g__law_a_key m__law_a_key
  repeat walk_at "mn"
  refine ⟨by decide, ?_⟩
  repeat walk_at "mn"
  refine ⟨rfl, (take_ok (h.add _) (by decide) (by decide)).mono ?_⟩
  rintro u S' ⟨d, rfl, d0, d1, hx, hd⟩
  have hl := hx.at (at_end S _) (fun e => by obtain ⟨_, _, _, e', _⟩ := h; have := (List.getElem?_eq_some_iff.mp e').1; have e : S.length = j := e; omega)
  have hX : Dx j S S' := (Ex.snoc (one' j) S _).then hx
  have cases5 : d = 0 ∨ d = 1 ∨ d = 2 ∨ d = 3 ∨ d = 4 := by omega
  rcases cases5 with rfl | rfl | rfl | rfl | rfl <;> exact i_lst hl (by rfl) ⟨_, rfl, by decide, hX, hd⟩
/-- the numbers that are drawn -/
def nums : List Int := (List.range 30).map (fun i : Nat => (i : Int)) ++ (List.range 9).map (fun i : Nat => 10 ^ 29 + (i : Int)) ++ (List.range 50).map (fun i : Nat => -1 - (i : Int))
theorem nums_a {d : Int} (h0 : 0 ≤ d) (h1 : d < 30) : d ∈ nums := by
  unfold nums
  exact List.mem_append_left _ (List.mem_append_left _ (List.mem_map.mpr ⟨d.toNat, List.mem_range.mpr (by omega), by omega⟩))
theorem nums_b {d : Int} (h0 : 0 ≤ d) (h1 : d < 9) : 10 ^ 29 + d ∈ nums := by
  unfold nums
  exact List.mem_append_left _ (List.mem_append_right _ (List.mem_map.mpr ⟨d.toNat, List.mem_range.mpr (by omega), by omega⟩))
theorem nums_c {d : Int} (h0 : 0 ≤ d) (h1 : d < 50) : 0 - 1 - d ∈ nums := by
  unfold nums
  exact List.mem_append_right _ (List.mem_map.mpr ⟨d.toNat, List.mem_range.mpr (by omega), by omega⟩)
theorem number_ok {S : Sto} {j : Nat} (h : Dr S j) : Ok (g__law_number [.ref j] S) fun u S' => ∃ i, u = .int i ∧ i ∈ nums ∧ Dx j S S' ∧ Dr S' j := by
  unfold g__law_number m__law_number
  repeat walk_at "mn"
  refine ⟨rfl, (take_ok h (by decide) (by decide)).mono ?_⟩
  rintro u S1 ⟨d1, rfl, a0, a1, x1, h1⟩
  repeat walk_at "mn"
  refine ⟨rfl, (take_ok h1 (by decide) (by decide)).mono ?_⟩
  rintro u S2 ⟨d2, rfl, b0, b1, x2, h2⟩
  repeat walk_at "mn"
  refine ⟨rfl, (take_ok h2 (by decide) (by decide)).mono ?_⟩
  rintro u S3 ⟨d3, rfl, c0, c1, x3, h3⟩
  repeat walk_at "mn"
  refine ⟨show (5 : Nat) ≤ LIM by decide, ?_⟩
  repeat walk_at "mn"
  refine ⟨rfl, (take_ok (h3.add _) (by decide) (by decide)).mono ?_⟩
  rintro u S' ⟨d, rfl, d0, d1', hx, hd⟩
  have hl := hx.at (at_end S3 _) (fun e => by obtain ⟨_, _, _, e', _⟩ := h3; have := (List.getElem?_eq_some_iff.mp e').1; have e : S3.length = j := e; omega)
  have hX : Dx j S S' := ((x1.then x2).then x3).then ((Ex.snoc (one' j) S3 _).then hx)
  have cases5 : d = 0 ∨ d = 1 ∨ d = 2 ∨ d = 3 ∨ d = 4 := by omega
  rcases cases5 with rfl | rfl | rfl | rfl | rfl
  · exact i_lst hl (by rfl) ⟨_, rfl, nums_a (by decide) (by decide), hX, hd⟩
  · exact i_lst hl (by rfl) ⟨_, rfl, nums_a (by decide) (by decide), hX, hd⟩
  · exact i_lst hl (by rfl) ⟨_, rfl, nums_a b0 b1, hX, hd⟩
  · exact i_lst hl (by rfl) ⟨_, rfl, nums_b a0 a1, hX, hd⟩
  · exact i_lst hl (by rfl) ⟨_, rfl, nums_c c0 c1, hX, hd⟩
end Mn.D
set_option Elab.async false
set_option linter.all false
set_option maxRecDepth 100000
set_option maxHeartbeats 1000000
namespace Mn.D
open PySem PySem.Spec PyProof.Rows L2 Mn
local macro_rules | `(tactic| walk_at "mn") => `(tactic| first
  | with_reducible refine w_run ?_
  | with_reducible refine d_seq ?_
  | with_reducible refine d_nx ?_
  | with_reducible refine d_ret ?_
  | with_reducible refine d_exp ?_
  | with_reducible refine d_set ?_
  | with_reducible refine d_put ?_
  | with_reducible refine d_if ?_
  | with_reducible refine d_asg ?_
  | with_reducible refine w_c ?_
  | ((with_reducible refine' w_var ?mnE ?_); (case mnE => exact rfl))
  | with_reducible refine w_bin ?_
  | with_reducible refine w_add ?_
  | with_reducible refine w_subt ?_
  | ((with_reducible refine w_mul ?mnE ?_); (case mnE => omega))
  | ((with_reducible refine w_fdiv ?mnE ?_); (case mnE => omega))
  | ((with_reducible refine w_mod ?mnE ?_); (case mnE => omega))
  | ((with_reducible refine w_pow ?mnE ?_); (case mnE => decide))
  | with_reducible refine w_cmpT ?_
  | with_reducible refine w_chn ?_
  | with_reducible refine w_toB ?_
  | with_reducible refine w_tru ?_
  | with_reducible refine w_notT ?_
  | with_reducible refine w_andT ?_
  | with_reducible refine w_orT ?_
  | with_reducible refine w_and ?_
  | with_reducible refine w_or ?_
  | with_reducible refine w_sub ?_
  | with_reducible refine w_slc ?_
  | with_reducible refine w_onone ?_
  | with_reducible refine w_part ?_
  | with_reducible refine w_neg ?_
  | with_reducible refine w_jo ?_
  | with_reducible refine w_jnil ?_
  | with_reducible refine w_jcons ?_
  | with_reducible refine w_fmt ?_
  | with_reducible refine w_dnil ?_
  | with_reducible refine w_dcons ?_
  | with_reducible refine w_dict ?_
  | with_reducible refine w_val ?_
  | with_reducible refine w_rng1 ?_
  | with_reducible refine w_zip ?_
  | with_reducible refine w_kget ?_
  | with_reducible refine w_kin ?_
  | with_reducible refine w_nil ?_
  | with_reducible refine w_cons ?_
  | with_reducible refine w_tup ?_
  | with_reducible refine w_lst ?_
  | with_reducible refine w_nt ?_
  | with_reducible refine w_met ?_
  | with_reducible refine w_call ?_
  | with_reducible refine w_ife ?_
  | with_reducible refine w_ok ?_
  | with_reducible refine c_gt ?_
  | with_reducible refine c_lt ?_
  | with_reducible refine c_le ?_
  | with_reducible refine c_ge ?_
  | with_reducible refine t_bl ?_
  | with_reducible refine t_int ?_)

theorem cut_map {α β : Type} (f : α → β) (xs : List α) (lo hi : Option Int) : cutU (xs.map f) lo hi = (cutU xs lo hi).map f := by simp [cutU, List.map_drop, List.map_take]
theorem cut_len {α : Type} (xs : List α) (lo hi : Option Int) : (cutU xs lo hi).length ≤ xs.length := by
  unfold cutU
  rw [List.length_take, List.length_drop]
  omega
theorem Dr.lt {S : Sto} {j : Nat} (h : Dr S j) : j < S.length := by
  obtain ⟨_, _, _, e, _⟩ := h
  exact (List.getElem?_eq_some_iff.mp e).1
theorem begun_ok {S : Sto} {b : Nat} {k : Int} {ns : List Int} (h : S[b]? = some (.scr (ns.map U.int))) (hn : ns.length ≤ 63) (k0 : 0 ≤ k) (k1 : k ≤ 63) :
    Ok (g__law_begun [.ref b, .int k] S) fun u S' => ∃ j, u = .ref j ∧ S.length ≤ j ∧ Ex none' S S' ∧ Dr S' j := by
  unfold g__law_begun m__law_begun
  repeat walk_at "mn"
  refine ⟨_, rfl, ?_⟩
  repeat walk_at "mn"
  refine ⟨_, rfl, ?_⟩
  have e0 : opS (.ref b) (some k) (some (k + 1)) S = .ok (.ref S.length) (S ++ [.lst ((cutU ns (some k) (some (k + 1))).map U.int)]) := by
    unfold opS
    dsimp only
    rw [h]
    dsimp only
    rw [cut_map]
  rw [e0]
  repeat walk_at "mn"
  refine ⟨show (1 : Nat) ≤ LIM by decide, ?_⟩
  have hl := cut_len ns (some k) (some (k + 1))
  refine w_catL (by rw [List.getElem?_append_left (by simp)]; exact at_end S _) (at_end _ _) (by simp only [List.length_map, List.length_cons, List.length_nil]; exact Nat.le_trans (show _ ≤ 64 by omega) (by decide)) ?_
  repeat walk_at "mn"
  have hx : ∃ c, L2.atI ((cutU ns (some k) (some (k + 1))).map U.int ++ [U.int 0]) 0 = some (.int c) := by
    cases cutU ns (some k) (some (k + 1)) with
    | nil => exact ⟨0, by rfl⟩
    | cons c cs =>
      refine ⟨c, ?_⟩
      unfold L2.atI L2.ixN
      rw [if_pos (by decide), if_pos (by simp only [List.map_cons, List.cons_append, List.length_cons]; omega)]
      rfl
  obtain ⟨c, hc⟩ := hx
  refine i_lst (at_end _ _) hc ?_
  repeat walk_at "mn"
  refine ⟨_, rfl, ?_⟩
  repeat walk_at "mn"
  refine n_of (by rfl) ?_
  repeat walk_at "mn"
  refine ⟨show (3 : Nat) ≤ LIM by decide, ?_⟩
  refine ⟨_, rfl, ?_, ?_, _, _, _, at_end _ _, Int.fmod_nonneg_of_pos _ (by decide), ?_⟩
  · simp only [List.length_append, List.length_cons, List.length_nil]; omega
  · exact (((Ex.snoc none' S _).add _).add _).add _
  · have := Int.fmod_lt_of_pos ((if -1 - c > c then -1 - c else c).fmod 2147483629 + 7919 * k + 104729 * k * k + 11) (by decide : (0 : Int) < 2147483629)
    omega
/-- a row of draws, made by a comprehension -/
theorem lc_draws {P : U → Prop} {env : Ev} {S : Sto} {j x : Nat} {m : Ev → Sto → Res U} {mi : Ev → Sto → Res Src} {vs : List Nat} {Q : U → Sto → Prop}
    (hm : ∀ e S', Dr S' j → e[0]? = some (some (.ref j)) → Ok (m e S') fun u S'' => P u ∧ Dx j S' S'' ∧ Dr S'' j)
    (he : ∀ u, ((wipeE env vs).set x (some u))[0]? = some (some (.ref j)))
    (h : Ok (mi env S) fun s S1 => ∃ n, s = .rng 0 n ∧ n ≤ 1000 ∧ Dr S1 j ∧ ∀ us S', us.length = n → (∀ u ∈ us, P u) → S'[S1.length]? = some (.lst us) → Dr S' j → Dx j S1 S' → Q (.ref S1.length) S') :
    Ok (mLc mi (gNm x) (fun _ S => .ok true S) m vs env S) Q := by
  refine w_lc (h.mono fun s S1 ⟨n, es, hn, hd, hq⟩ => ?_)
  subst es
  refine ⟨n, fun i S' => ∃ us, us.length = i ∧ (∀ u ∈ us, P u) ∧ S'[S1.length]? = some (.lst us) ∧ Dr S' j ∧ Dx j S1 S', Nat.le_refl _, ⟨[], rfl, fun _ q => (nomatch q), at_end _ _, hd.add _, Ex.snoc _ _ _⟩, ?_, ?_⟩
  · rintro i S' hi ⟨us, hl, hp, hat, hd', hx⟩
    refine ⟨_, _, _, _, nxt_rng hi, rfl, true, S', rfl, fun q => (nomatch q), fun _ => ?_⟩
    refine (hm _ S' hd' (he _)).mono fun v S5 ⟨pv, x5, d5⟩ => ?_
    have hne : S1.length ≠ j := fun e => by have := hd.lt; omega
    have h5 := x5.at hat (fun e => hne e)
    refine ⟨_, push_at h5 (by rw [hl]; exact Nat.lt_of_lt_of_le hi (Nat.le_trans hn (by decide))), us ++ [v], by simp [hl], ?_, at_set h5, ?_, ?_⟩
    · intro u hu
      rcases List.mem_append.mp hu with q | q
      · exact hp u q
      · rw [List.mem_singleton.mp q]; exact pv
    · exact d5.up (Ex.set (J := one' S1.length) h5 rfl rfl) (fun e => hne e.symm)
    · exact (hx.then x5).trans (Ex.set (J := one' S1.length) h5 rfl rfl) (fun k hk e => by have e : k = S1.length := e; omega)
  · rintro S' ⟨us, hl, hp, hat, hd', hx⟩
    exact ⟨nxt_rng0, hq us S' hl hp hat hd' hx⟩
/-- what a thing may be, by its kind's sign -/
inductive Th : Nat → PyData → Prop
  | n {i : Int} (h : i ∈ nums) : Th 110 (.int i)
  | k {x : Str} (h : x ∈ keysL) : Th 107 (.str x)
  | m {x : Str} (h : x = "read" ∨ x = "write") : Th 109 (.str x)
  | w {is : List Int} (h0 : 1 ≤ is.length) (h1 : is.length ≤ 4) (h : ∀ i ∈ is, i ∈ nums) : Th 119 (.tuple (is.map .int))
  | p {a b : Int} (ha : a ∈ nums) (hb : b ∈ nums) : Th 112 (.tuple [.int a, .int b])
  | s {xs : List Str} (h0 : 1 ≤ xs.length) (h1 : xs.length ≤ 3) (h : ∀ i ∈ xs, i ∈ keysL) : Th 115 (.tuple (xs.map .str))
theorem ints_of : ∀ {us : List U}, (∀ u ∈ us, ∃ i, u = .int i ∧ i ∈ nums) → ∃ is : List Int, us = is.map U.int ∧ ∀ i ∈ is, i ∈ nums
  | [], _ => ⟨[], rfl, fun _ h => (nomatch h)⟩
  | u :: us, h => by
    obtain ⟨i, e, hi⟩ := h u (List.mem_cons_self ..)
    obtain ⟨is, e2, h2⟩ := ints_of (us := us) fun u q => h u (List.mem_cons_of_mem _ q)
    exact ⟨i :: is, by rw [e, e2]; rfl, fun j hj => (List.mem_cons.mp hj).elim (fun q => q ▸ hi) (h2 j)⟩
theorem strs_of : ∀ {us : List U}, (∀ u ∈ us, ∃ i, u = .str i ∧ i ∈ keysL) → ∃ is : List Str, us = is.map U.str ∧ ∀ i ∈ is, i ∈ keysL
  | [], _ => ⟨[], rfl, fun _ h => (nomatch h)⟩
  | u :: us, h => by
    obtain ⟨i, e, hi⟩ := h u (List.mem_cons_self ..)
    obtain ⟨is, e2, h2⟩ := strs_of (us := us) fun u q => h u (List.mem_cons_of_mem _ q)
    exact ⟨i :: is, by rw [e, e2]; rfl, fun j hj => (List.mem_cons.mp hj).elim (fun q => q ▸ hi) (h2 j)⟩
theorem tvs_ints {S : Sto} : ∀ is : List Int, Tvs S (is.map U.int) (is.map PyData.int)
  | [] => .nil
  | i :: is => .cons (.int i) (tvs_ints is)
theorem tvs_strs {S : Sto} : ∀ is : List Str, Tvs S (is.map U.str) (is.map PyData.str)
  | [] => .nil
  | i :: is => .cons (.str i) (tvs_strs is)
theorem worth_ok {S : Sto} {us : List U} {k : Nat} (h : ∀ u ∈ us, ∃ i, u = .int i ∧ i ∈ nums) (h0 : 1 ≤ us.length) (h1 : us.length ≤ 4) (e : S[k]? = some (.tup us)) : ∃ d, Tv S (.ref k) d ∧ Th 119 d := by
  obtain ⟨is, rfl, h2⟩ := ints_of h
  exact ⟨_, .tup e (tvs_ints is), .w (by simpa using h0) (by simpa using h1) h2⟩
theorem some_ok {S : Sto} {us : List U} {k : Nat} (h : ∀ u ∈ us, ∃ i, u = .str i ∧ i ∈ keysL) (h0 : 1 ≤ us.length) (h1 : us.length ≤ 3) (e : S[k]? = some (.tup us)) : ∃ d, Tv S (.ref k) d ∧ Th 115 d := by
  obtain ⟨is, rfl, h2⟩ := strs_of h
  exact ⟨_, .tup e (tvs_strs is), .s (by simpa using h0) (by simpa using h1) h2⟩
end Mn.D
set_option Elab.async false
set_option linter.all false
set_option maxRecDepth 100000
set_option maxHeartbeats 1000000
namespace Mn.D
open PySem PySem.Spec PyProof.Rows L2 Mn
local macro_rules | `(tactic| walk_at "mn") => `(tactic| first
  | with_reducible refine w_run ?_
  | with_reducible refine d_seq ?_
  | with_reducible refine d_nx ?_
  | with_reducible refine d_ret ?_
  | with_reducible refine d_exp ?_
  | with_reducible refine d_set ?_
  | with_reducible refine d_put ?_
  | with_reducible refine d_if ?_
  | with_reducible refine d_asg ?_
  | with_reducible refine w_c ?_
  | ((with_reducible refine' w_var ?mnE ?_); (case mnE => exact rfl))
  | with_reducible refine w_bin ?_
  | with_reducible refine w_add ?_
  | with_reducible refine w_subt ?_
  | ((with_reducible refine w_mul ?mnE ?_); (case mnE => omega))
  | ((with_reducible refine w_fdiv ?mnE ?_); (case mnE => omega))
  | ((with_reducible refine w_mod ?mnE ?_); (case mnE => omega))
  | ((with_reducible refine w_pow ?mnE ?_); (case mnE => decide))
  | with_reducible refine w_cmpT ?_
  | with_reducible refine w_chn ?_
  | with_reducible refine w_toB ?_
  | with_reducible refine w_tru ?_
  | with_reducible refine w_notT ?_
  | with_reducible refine w_andT ?_
  | with_reducible refine w_orT ?_
  | with_reducible refine w_and ?_
  | with_reducible refine w_or ?_
  | with_reducible refine w_sub ?_
  | with_reducible refine w_slc ?_
  | with_reducible refine w_onone ?_
  | with_reducible refine w_part ?_
  | with_reducible refine w_neg ?_
  | with_reducible refine w_jo ?_
  | with_reducible refine w_jnil ?_
  | with_reducible refine w_jcons ?_
  | with_reducible refine w_fmt ?_
  | with_reducible refine w_dnil ?_
  | with_reducible refine w_dcons ?_
  | with_reducible refine w_dict ?_
  | with_reducible refine w_val ?_
  | with_reducible refine w_rng1 ?_
  | with_reducible refine w_zip ?_
  | with_reducible refine w_kget ?_
  | with_reducible refine w_kin ?_
  | with_reducible refine w_nil ?_
  | with_reducible refine w_cons ?_
  | with_reducible refine w_tup ?_
  | with_reducible refine w_lst ?_
  | with_reducible refine w_nt ?_
  | with_reducible refine w_met ?_
  | with_reducible refine w_call ?_
  | with_reducible refine w_ife ?_
  | with_reducible refine w_ok ?_
  | with_reducible refine c_gt ?_
  | with_reducible refine c_lt ?_
  | with_reducible refine c_le ?_
  | with_reducible refine c_ge ?_
  | with_reducible refine t_bl ?_
  | with_reducible refine t_int ?_)

theorem Ex.setNew {J : Nat → Prop} {S S1 : Sto} {D : Nat} {o o' : O} (x : Ex J S S1) (h : S1[D]? = some o) (ho : o.own = true) (hD : S.length ≤ D) : Ex J S (S1.set D o') :=
  x.trans (Ex.set (J := one' D) h ho rfl) (fun k hk e => by have e : k = D := e; omega)
theorem tup_lst {Q : U → Sto → Prop} {S : Sto} {k : Nat} {us : List U} (h : S[k]? = some (.lst us)) (q : Q (.ref S.length) (S ++ [.tup us])) : On ntTup [.ref k] S Q := ⟨_, _, by simp only [ntTup, h], q⟩
theorem app_ok {Q : U → Sto → Prop} {S : Sto} {k : Nat} {us : List U} {u : U} (h : S[k]? = some (.lst us)) (c : us.length < LIM) (q : Q .non (S.set k (.lst (us ++ [u])))) : On ntAppend [.ref k, u] S Q := ⟨_, _, by simp only [ntAppend, push_at h c]; rfl, q⟩
theorem ty_lst {S : Sto} {k : Nat} {us : List U} (h : S[k]? = some (.lst us)) : tyM "list" (.ref k) S = true := by simp only [tyM, h]; rfl
theorem paired_snoc {α β : Type} {F : α → β → Prop} {xs : List α} {ys : List β} {x : α} {y : β} (h : Paired F xs ys) (r : F x y) : Paired F (xs ++ [x]) (ys ++ [y]) := paired_app h (.cons r .nil)
theorem take_next {α : Type} {xs : List α} {i : Nat} {x : α} (h : xs[i]? = some x) : xs.take (i + 1) = xs.take i ++ [x] := by
  rw [List.take_add_one, h]; rfl
/-- a sign of a kind -/
def kindC : List Nat := [110, 107, 109, 119, 112, 115]
theorem things_ok {S : Sto} {j : Nat} {ks : Str} (h : Dr S j) (hk : ∀ c ∈ ks.cps.toList, c ∈ kindC) (hl : ks.cps.toList.length ≤ 1000) :
    Ok (g__law_things [.ref j, .str ks] S) fun u S' => ∃ ds, Tv S' u (.tuple ds) ∧ Paired Th ks.cps.toList ds ∧ Dx j S S' ∧ Dr S' j := by
  unfold g__law_things m__law_things
  repeat walk_at "mn"
  refine ⟨show (0 : Nat) ≤ LIM by decide, ?_⟩
  refine d_seq (d_for ?_)
  repeat walk_at "mn"
  refine ⟨_, rfl, ?_⟩
  have hj := h.lt
  refine ⟨ks.cps.toList.length, fun i e S' => ∃ a3 a4 a5 a6 a7 a8 a9, e = [some (.ref j), some (.str ks), some (.ref S.length), a3, a4, a5, a6, a7, a8, a9] ∧ ∃ us ds, us.length = i ∧ S'[S.length]? = some (.lst us) ∧ Tvs S' us ds ∧ Paired Th (ks.cps.toList.take i) ds ∧ Dx j S S' ∧ Dr S' j,
    by simp [turns, Str.length], ⟨_, _, _, _, _, _, _, rfl, [], [], rfl, at_end _ _, .nil, .nil, Ex.snoc _ _ _, h.add _⟩, ?_, ?_⟩
  · rintro i e S' hi ⟨a3, a4, a5, a6, a7, a8, a9, rfl, us, ds, hul, hF, hus, hds, hx, hd⟩
    obtain ⟨c, hc⟩ : ∃ c, ks.cps.toList[i]? = some c := ⟨_, List.getElem?_eq_getElem hi⟩
    have hcm := hk c (List.mem_of_getElem? hc)
    refine ⟨_, S', _, _, nxt_txt (by simpa using hc), rfl, ?_⟩
    have hFS : S.length < S'.length := (List.getElem?_eq_some_iff.mp hF).1
    repeat walk_at "mn"
    refine ⟨rfl, (number_ok hd).mono ?_⟩
    rintro u S1 ⟨p1, rfl, hp1, x1, d1⟩
    repeat walk_at "mn"
    refine ⟨rfl, (number_ok d1).mono ?_⟩
    rintro u S2 ⟨p2, rfl, hp2, x2, d2⟩
    repeat walk_at "mn"
    refine ⟨show (2 : Nat) ≤ LIM by decide, ?_⟩
    have y2 : Dx j S' (S2 ++ [.tup [.int p1, .int p2]]) := (x1.then x2).add _
    have t2 := at_end S2 (.tup [.int p1, .int p2])
    have d2 := d2.add (.tup [.int p1, .int p2])
    generalize eS3 : S2 ++ [O.tup [.int p1, .int p2]] = S3 at y2 t2 d2 ⊢
    generalize eP : S2.length = P at t2 ⊢
    repeat walk_at "mn"
    refine lc_draws (j := j) (P := fun u => ∃ i, u = .int i ∧ i ∈ nums) ?_ (fun u => rfl) ?_
    · intro e Se hde he
      repeat walk_at "mn"
      refine w_var he ?_
      repeat walk_at "mn"
      refine ⟨rfl, (number_ok hde).mono ?_⟩
      rintro u Sf ⟨p1, rfl, hp1, x1, d1⟩
      exact ⟨⟨_, rfl, hp1⟩, x1, d1⟩
    repeat walk_at "mn"
    refine ⟨rfl, (take_ok d2 (by decide) (by decide)).mono ?_⟩
    rintro u S4 ⟨k4, rfl, k40, k41, x4, d4⟩
    repeat walk_at "mn"
    refine ⟨_, rfl, by omega, _, rfl, by omega, d4, ?_⟩
    intro ws S5 lw hw at5 d5 x5
    repeat walk_at "mn"
    refine tup_lst at5 ?_
    obtain ⟨dw, tw, thw⟩ := worth_ok (S := S5 ++ [.tup ws]) hw (by omega) (by omega) (at_end S5 _)
    have y5 : Dx j S' (S5 ++ [.tup ws]) := ((y2.then x4).then x5).add _
    have t5 := (((Ex.then x4 x5).add (.tup ws)).tup _ _ t2)
    have d5 := d5.add (.tup ws)
    generalize eS6 : S5 ++ [O.tup ws] = S6 at y5 t5 d5 tw ⊢
    generalize eW : S5.length = W at tw ⊢
    repeat walk_at "mn"
    refine lc_draws (j := j) (P := fun u => ∃ i, u = .str i ∧ i ∈ keysL) ?_ (fun u => rfl) ?_
    · intro e Se hde he
      repeat walk_at "mn"
      refine w_var he ?_
      repeat walk_at "mn"
      refine ⟨rfl, (a_key_ok hde).mono ?_⟩
      rintro u Sf ⟨p1, rfl, hp1, x1, d1⟩
      exact ⟨⟨_, rfl, hp1⟩, x1, d1⟩
    repeat walk_at "mn"
    refine ⟨rfl, (take_ok d5 (by decide) (by decide)).mono ?_⟩
    rintro u S7 ⟨k7, rfl, k70, k71, x7, d7⟩
    repeat walk_at "mn"
    refine ⟨_, rfl, by omega, _, rfl, by omega, d7, ?_⟩
    intro ws' S8 lw' hw' at8 d8 x8
    repeat walk_at "mn"
    refine tup_lst at8 ?_
    obtain ⟨dk, tk, thk⟩ := some_ok (S := S8 ++ [.tup ws']) hw' (by omega) (by omega) (at_end S8 _)
    have z8 : Dx j S6 (S8 ++ [.tup ws']) := (x7.then x8).add _
    have y8 := y5.then z8
    have t8 := z8.tup _ _ t5
    have tw := tw.up z8
    have d8 := d8.add (.tup ws')
    generalize eS9 : S8 ++ [O.tup ws'] = S9 at y8 t8 tw d8 tk z8 ⊢
    generalize eK : S8.length = KK at tk ⊢
    repeat walk_at "mn"
    refine ⟨show (2 : Nat) ≤ LIM by decide, ?_⟩
    repeat walk_at "mn"
    refine ⟨rfl, (take_ok (d8.add _) (by decide) (by decide)).mono ?_⟩
    rintro u S10 ⟨k10, rfl, k100, k101, x10, d10⟩
    have l10 := x10.at (at_end S9 _) (fun e => by have e : S9.length = j := e; have := d8.lt; omega)
    have z10 : Dx j S9 S10 := (Ex.snoc (one' j) S9 _).then x10
    have y10 := y8.then z10
    have t10 := z10.tup _ _ t8
    have tw := tw.up z10
    have tk := tk.up z10
    have md : ∃ x : Str, (x = "read" ∨ x = "write") ∧ L2.atI [U.str "read", U.str "write"] k10 = some (.str x) := by
      have : k10 = 0 ∨ k10 = 1 := by omega
      rcases this with rfl | rfl
      · exact ⟨_, .inl rfl, rfl⟩
      · exact ⟨_, .inr rfl, rfl⟩
    obtain ⟨mo, hmo, emo⟩ := md
    refine i_lst l10 emo ?_
    repeat walk_at "mn"
    refine ⟨rfl, (number_ok (d10.add _)).mono ?_⟩
    rintro u S11 ⟨vn, rfl, hvn, x11, d11⟩
    repeat walk_at "mn"
    refine ⟨rfl, (a_key_ok d11).mono ?_⟩
    rintro u S12 ⟨vk, rfl, hvk, x12, d12⟩
    repeat walk_at "mn"
    have z12 : Dx j (S10 ++ [.dct []]) S12 := x11.then x12
    have at12 := z12.at (at_end S10 _) (fun e => by have e : S10.length = j := e; have := d10.lt; omega)
    refine ⟨at12, _, rfl, (show (6 : Nat) ≤ 15 by decide), ?_⟩
    have g12 : Dx j S10 (S12.set S10.length (.dct (mergeU [] [(.inr "n", .int vn), (.inr "k", .str vk), (.inr "m", .str mo), (.inr "w", .ref W), (.inr "p", .ref P), (.inr "s", .ref KK)]))) :=
      Ex.setNew ((Ex.snoc (one' j) S10 _).then z12) at12 rfl (Nat.le_refl _)
    have g := at_set (o' := (.dct (mergeU [] [(.inr "n", .int vn), (.inr "k", .str vk), (.inr "m", .str mo), (.inr "w", .ref W), (.inr "p", .ref P), (.inr "s", .ref KK)]))) at12
    have d13 := d12.up (Ex.set (J := one' S10.length) (o' := (.dct (mergeU [] [(.inr "n", .int vn), (.inr "k", .str vk), (.inr "m", .str mo), (.inr "w", .ref W), (.inr "p", .ref P), (.inr "s", .ref KK)]))) at12 rfl rfl) (fun e => by have e : j = S10.length := e; have := d10.lt; omega)
    have y13 := y10.then g12
    have t13 := g12.tup _ _ t10
    have tw := tw.up g12
    have tk := tk.up g12
    have tp : Tv _ (.ref P) (.tuple [.int p1, .int p2]) := .tup t13 (.cons (.int _) (.cons (.int _) .nil))
    show Do _ _ _ _ _
    generalize eS13 : S12.set S10.length _ = S13 at y13 t13 tw tk tp g d13 ⊢
    have hF13 := y13.at hF (fun e => by have e : S.length = j := e; omega)
    have hus13 := hus.up y13
    have hz : ∃ z dz, getK (mergeU [] [(.inr "n", .int vn), (.inr "k", .str vk), (.inr "m", .str mo), (.inr "w", .ref W), (.inr "p", .ref P), (.inr "s", .ref KK)]) (.inr ⟨#[c]⟩) = some z ∧ Tv S13 z dz ∧ Th c dz := by
      unfold kindC at hcm
      simp only [List.mem_cons, List.not_mem_nil, or_false] at hcm
      rcases hcm with rfl | rfl | rfl | rfl | rfl | rfl
      · exact ⟨_, _, rfl, .int _, .n hvn⟩
      · exact ⟨_, _, rfl, .str _, .k hvk⟩
      · exact ⟨_, _, rfl, .str _, .m hmo⟩
      · exact ⟨_, _, rfl, tw, thw⟩
      · exact ⟨_, _, rfl, tp, .p hp1 hp2⟩
      · exact ⟨_, _, rfl, tk, thk⟩
    obtain ⟨z, dz, ez, tz, thz⟩ := hz
    repeat walk_at "mn"
    refine ⟨ty_lst hF13, ?_⟩
    repeat walk_at "mn"
    refine i_dct g rfl ez ?_
    repeat walk_at "mn"
    refine app_ok hF13 (by rw [hul]; exact Nat.lt_of_lt_of_le hi (Nat.le_trans hl (by decide))) ?_
    have e14 : Ex (one' S.length) S13 (S13.set S.length (.lst (us ++ [z]))) := Ex.set hF13 rfl rfl
    exact ⟨_, _, _, _, _, _, _, rfl, us ++ [z], ds ++ [dz], by simp [hul], at_set hF13, (hus13.up e14).app (.cons (tz.up e14) .nil), by rw [take_next hc]; exact paired_snoc hds thz,
      Ex.setNew (hx.then y13) hF13 rfl (Nat.le_refl _), d13.up e14 (fun e => by have e : j = S.length := e; omega)⟩
  · rintro e S' ⟨a3, a4, a5, a6, a7, a8, a9, rfl, us, ds, hul, hF, hus, hds, hx, hd⟩
    refine ⟨by have := @nxt_txt0 S' ks; simpa [Str.length] using this, ?_⟩
    repeat walk_at "mn"
    refine tup_lst hF ?_
    rw [List.take_length] at hds
    exact ⟨ds, .tup (at_end S' _) (hus.up (Ex.snoc none' S' _)), hds, hx.add _, hd.add _⟩
end Mn.D
set_option Elab.async false
set_option linter.all false
set_option maxRecDepth 100000
set_option maxHeartbeats 1000000
namespace Mn.D
open PySem PySem.Spec PyProof.Rows L2 Mn
local macro_rules | `(tactic| walk_at "mn") => `(tactic| first
  | with_reducible refine w_run ?_
  | with_reducible refine d_seq ?_
  | with_reducible refine d_nx ?_
  | with_reducible refine d_ret ?_
  | with_reducible refine d_exp ?_
  | with_reducible refine d_set ?_
  | with_reducible refine d_put ?_
  | with_reducible refine d_if ?_
  | with_reducible refine d_asg ?_
  | with_reducible refine w_c ?_
  | ((with_reducible refine' w_var ?mnE ?_); (case mnE => exact rfl))
  | with_reducible refine w_bin ?_
  | with_reducible refine w_add ?_
  | with_reducible refine w_subt ?_
  | ((with_reducible refine w_mul ?mnE ?_); (case mnE => omega))
  | ((with_reducible refine w_fdiv ?mnE ?_); (case mnE => omega))
  | ((with_reducible refine w_mod ?mnE ?_); (case mnE => omega))
  | ((with_reducible refine w_pow ?mnE ?_); (case mnE => decide))
  | with_reducible refine w_cmpT ?_
  | with_reducible refine w_chn ?_
  | with_reducible refine w_toB ?_
  | with_reducible refine w_tru ?_
  | with_reducible refine w_notT ?_
  | with_reducible refine w_andT ?_
  | with_reducible refine w_orT ?_
  | with_reducible refine w_and ?_
  | with_reducible refine w_or ?_
  | with_reducible refine w_sub ?_
  | with_reducible refine w_slc ?_
  | with_reducible refine w_onone ?_
  | with_reducible refine w_part ?_
  | with_reducible refine w_neg ?_
  | with_reducible refine w_jo ?_
  | with_reducible refine w_jnil ?_
  | with_reducible refine w_jcons ?_
  | with_reducible refine w_fmt ?_
  | with_reducible refine w_dnil ?_
  | with_reducible refine w_dcons ?_
  | with_reducible refine w_dict ?_
  | with_reducible refine w_val ?_
  | with_reducible refine w_rng1 ?_
  | with_reducible refine w_zip ?_
  | with_reducible refine w_kget ?_
  | with_reducible refine w_kin ?_
  | with_reducible refine w_nil ?_
  | with_reducible refine w_cons ?_
  | with_reducible refine w_tup ?_
  | with_reducible refine w_lst ?_
  | with_reducible refine w_nt ?_
  | with_reducible refine w_met ?_
  | with_reducible refine w_call ?_
  | with_reducible refine w_ife ?_
  | with_reducible refine w_ok ?_
  | with_reducible refine c_gt ?_
  | with_reducible refine c_lt ?_
  | with_reducible refine c_le ?_
  | with_reducible refine c_ge ?_
  | with_reducible refine t_bl ?_
  | with_reducible refine t_int ?_)

def KA0 : List (Key × U) := [(.inr "tick", .str "n"), (.inr "set", .str "nnnn"), (.inr "pace", .str "nnp"), (.inr "stop", .str "nn"), (.inr "back", .str "nn")]
def KA1 : List (Key × U) := [(.inr "choose", .str "nn"), (.inr "renew", .str "n")]
def KA2 : List (Key × U) := [(.inr "catch", .str "nn"), (.inr "mark", .str "n"), (.inr "gone", .str "nn"), (.inr "begin", .str ""), (.inr "again", .str "n")]
def KA3 : List (Key × U) := [(.inr "take", .str "nkm"), (.inr "read", .str "nk")]
def KA4 : List (Key × U) := [(.inr "write", .str "nkw"), (.inr "finish", .str "n"), (.inr "tell", .str "n"), (.inr "stay", .str "n"), (.inr "deliver", .str "n"), (.inr "lose", .str "n")]
def KA5 : List (Key × U) := [(.inr "question", .str "n"), (.inr "at", .str "ns"), (.inr "copy", .str "nns"), (.inr "now", .str "ns"), (.inr "move", .str "kn"), (.inr "form", .str "nn"), (.inr "settle", .str "")]
def KD : List (Key × U) := (mergeU (mergeU (mergeU (mergeU (mergeU (mergeU [] KA0) (mergeU [] KA1)) (mergeU [] KA2)) (mergeU [] KA3)) (mergeU [] KA4)) (mergeU [] KA5))
theorem snoc_set {S : Sto} {a b : O} : (S ++ [a]).set S.length b = S ++ [b] := by simp
theorem ty_dct {S : Sto} {k : Nat} {us : List (Key × U)} (h : S[k]? = some (.dct us)) : tyM "dict" (.ref k) S = true := by simp only [tyM, h]; rfl
theorem upd_ok {Q : U → Sto → Prop} {S : Sto} {j i : Nat} {K M : List (Key × U)} (h : S[j]? = some (.dct K)) (h' : S[i]? = some (.dct M)) (n : j ≠ i) (c : K.length + M.length ≤ LIM) (q : Q .non (S.set j (.dct (mergeU K M)))) : On ntUpdate [.ref j, .ref i] S Q := ⟨_, _, by simp only [ntUpdate, h, h']; exact if_pos ⟨n, c⟩, q⟩
theorem kinds_ok (S : Sto) : Ok (g__law_kinds [] S) fun u S' => ∃ D, u = .ref D ∧ S.length ≤ D ∧ S'[D]? = some (.dct KD) ∧ Ex none' S S' := by
  unfold g__law_kinds m__law_kinds
  repeat walk_at "mn"
  refine ⟨at_end _ _, KA0, rfl, by decide, ?_⟩
  rw [snoc_set]
  have hD := at_end S (.dct (mergeU [] KA0))
  have x := Ex.snoc none' S (.dct (mergeU [] KA0))
  show Do _ _ _ _ _
  generalize S ++ [O.dct (mergeU [] KA0)] = T at x hD ⊢
  repeat walk_at "mn"
  refine ⟨ty_dct hD, ?_⟩
  repeat walk_at "mn"
  refine ⟨at_end _ _, KA1, rfl, by decide, ?_⟩
  rw [snoc_set]
  repeat walk_at "mn"
  refine upd_ok (M := mergeU [] KA1) ((Ex.snoc none' _ _).at hD id) (at_end _ _) (fun e => by have := (List.getElem?_eq_some_iff.mp hD).1; omega) (by decide +kernel) ?_
  have x := Ex.setNew (o' := .dct (mergeU (mergeU [] KA0) (mergeU [] KA1))) (x.add (.dct (mergeU [] KA1))) ((Ex.snoc none' _ (.dct (mergeU [] KA1))).at hD id) rfl (Nat.le_refl _)
  have hD := at_set (o' := .dct (mergeU (mergeU [] KA0) (mergeU [] KA1))) ((Ex.snoc none' _ (.dct (mergeU [] KA1))).at hD id)
  generalize List.set _ _ (O.dct (mergeU (mergeU [] KA0) (mergeU [] KA1))) = T at x hD ⊢
  repeat walk_at "mn"
  refine ⟨ty_dct hD, ?_⟩
  repeat walk_at "mn"
  refine ⟨at_end _ _, KA2, rfl, by decide, ?_⟩
  rw [snoc_set]
  repeat walk_at "mn"
  refine upd_ok (M := mergeU [] KA2) ((Ex.snoc none' _ _).at hD id) (at_end _ _) (fun e => by have := (List.getElem?_eq_some_iff.mp hD).1; omega) (by decide +kernel) ?_
  have x := Ex.setNew (o' := .dct (mergeU (mergeU (mergeU [] KA0) (mergeU [] KA1)) (mergeU [] KA2))) (x.add (.dct (mergeU [] KA2))) ((Ex.snoc none' _ (.dct (mergeU [] KA2))).at hD id) rfl (Nat.le_refl _)
  have hD := at_set (o' := .dct (mergeU (mergeU (mergeU [] KA0) (mergeU [] KA1)) (mergeU [] KA2))) ((Ex.snoc none' _ (.dct (mergeU [] KA2))).at hD id)
  generalize List.set _ _ (O.dct (mergeU (mergeU (mergeU [] KA0) (mergeU [] KA1)) (mergeU [] KA2))) = T at x hD ⊢
  repeat walk_at "mn"
  refine ⟨ty_dct hD, ?_⟩
  repeat walk_at "mn"
  refine ⟨at_end _ _, KA3, rfl, by decide, ?_⟩
  rw [snoc_set]
  repeat walk_at "mn"
  refine upd_ok (M := mergeU [] KA3) ((Ex.snoc none' _ _).at hD id) (at_end _ _) (fun e => by have := (List.getElem?_eq_some_iff.mp hD).1; omega) (by decide +kernel) ?_
  have x := Ex.setNew (o' := .dct (mergeU (mergeU (mergeU (mergeU [] KA0) (mergeU [] KA1)) (mergeU [] KA2)) (mergeU [] KA3))) (x.add (.dct (mergeU [] KA3))) ((Ex.snoc none' _ (.dct (mergeU [] KA3))).at hD id) rfl (Nat.le_refl _)
  have hD := at_set (o' := .dct (mergeU (mergeU (mergeU (mergeU [] KA0) (mergeU [] KA1)) (mergeU [] KA2)) (mergeU [] KA3))) ((Ex.snoc none' _ (.dct (mergeU [] KA3))).at hD id)
  generalize List.set _ _ (O.dct (mergeU (mergeU (mergeU (mergeU [] KA0) (mergeU [] KA1)) (mergeU [] KA2)) (mergeU [] KA3))) = T at x hD ⊢
  repeat walk_at "mn"
  refine ⟨ty_dct hD, ?_⟩
  repeat walk_at "mn"
  refine ⟨at_end _ _, KA4, rfl, by decide, ?_⟩
  rw [snoc_set]
  repeat walk_at "mn"
  refine upd_ok (M := mergeU [] KA4) ((Ex.snoc none' _ _).at hD id) (at_end _ _) (fun e => by have := (List.getElem?_eq_some_iff.mp hD).1; omega) (by decide +kernel) ?_
  have x := Ex.setNew (o' := .dct (mergeU (mergeU (mergeU (mergeU (mergeU [] KA0) (mergeU [] KA1)) (mergeU [] KA2)) (mergeU [] KA3)) (mergeU [] KA4))) (x.add (.dct (mergeU [] KA4))) ((Ex.snoc none' _ (.dct (mergeU [] KA4))).at hD id) rfl (Nat.le_refl _)
  have hD := at_set (o' := .dct (mergeU (mergeU (mergeU (mergeU (mergeU [] KA0) (mergeU [] KA1)) (mergeU [] KA2)) (mergeU [] KA3)) (mergeU [] KA4))) ((Ex.snoc none' _ (.dct (mergeU [] KA4))).at hD id)
  generalize List.set _ _ (O.dct (mergeU (mergeU (mergeU (mergeU (mergeU [] KA0) (mergeU [] KA1)) (mergeU [] KA2)) (mergeU [] KA3)) (mergeU [] KA4))) = T at x hD ⊢
  repeat walk_at "mn"
  refine ⟨ty_dct hD, ?_⟩
  repeat walk_at "mn"
  refine ⟨at_end _ _, KA5, rfl, by decide, ?_⟩
  rw [snoc_set]
  repeat walk_at "mn"
  refine upd_ok (M := mergeU [] KA5) ((Ex.snoc none' _ _).at hD id) (at_end _ _) (fun e => by have := (List.getElem?_eq_some_iff.mp hD).1; omega) (by decide +kernel) ?_
  have x := Ex.setNew (o' := .dct (mergeU (mergeU (mergeU (mergeU (mergeU (mergeU [] KA0) (mergeU [] KA1)) (mergeU [] KA2)) (mergeU [] KA3)) (mergeU [] KA4)) (mergeU [] KA5))) (x.add (.dct (mergeU [] KA5))) ((Ex.snoc none' _ (.dct (mergeU [] KA5))).at hD id) rfl (Nat.le_refl _)
  have hD := at_set (o' := .dct (mergeU (mergeU (mergeU (mergeU (mergeU (mergeU [] KA0) (mergeU [] KA1)) (mergeU [] KA2)) (mergeU [] KA3)) (mergeU [] KA4)) (mergeU [] KA5))) ((Ex.snoc none' _ (.dct (mergeU [] KA5))).at hD id)
  generalize List.set _ _ (O.dct (mergeU (mergeU (mergeU (mergeU (mergeU (mergeU [] KA0) (mergeU [] KA1)) (mergeU [] KA2)) (mergeU [] KA3)) (mergeU [] KA4)) (mergeU [] KA5))) = T at x hD ⊢
  repeat walk_at "mn"
  exact ⟨_, rfl, Nat.le_refl _, hD, x⟩
def kxs : List Str := (keyStrs KD).getD []
theorem key_kxs : keyStrs KD = some kxs := by decide +kernel
def words : List Str := sortS kxs
def nameC (c : Nat) : Str := if c = 110 then "number" else if c = 107 then "key" else if c = 109 then "mode" else if c = 119 then "worth" else if c = 112 then "pace" else "keys"
def kof (w : Str) : Str := match getK KD (.inr w) with
  | some (.str ks) => ks
  | _ => ""
def wordB (w : Str) : Bool := (match getK KD (.inr w) with
  | some (.str _) => true
  | _ => false) && (match kd_FORMS.lookup w with
  | some (.ref i) => match baseS[i]? with
    | some (.tup us) => decide (us = (kof w).cps.toList.map fun c => U.str (nameC c))
    | _ => false
  | _ => false) && (kof w).cps.toList.all (fun c => decide (c ∈ kindC)) && decide ((kof w).cps.toList.length ≤ 10) && decide (32 ∉ w.cps.toList) && decide (w.length ≤ 20)
theorem words_b : words.all wordB = true := by decide +kernel
theorem words_n : words.length = 27 := by decide +kernel
theorem kd_n : KD.length = 27 := by decide +kernel
structure WordOk (w : Str) : Prop where
  kd : getK KD (.inr w) = some (.str (kof w))
  fo : ∃ i, kd_FORMS.lookup w = some (.ref i) ∧ baseS[i]? = some (.tup ((kof w).cps.toList.map fun c => U.str (nameC c)))
  ks : ∀ c ∈ (kof w).cps.toList, c ∈ kindC
  kl : (kof w).cps.toList.length ≤ 10
  sp : 32 ∉ w.cps.toList
  wl : w.length ≤ 20
theorem word_ok {w : Str} (h : w ∈ words) : WordOk w := by
  have b := List.all_eq_true.mp words_b w h
  unfold wordB at b
  simp only [Bool.and_eq_true, decide_eq_true_eq, List.all_eq_true] at b
  obtain ⟨⟨⟨⟨⟨b1, b2⟩, b3⟩, b4⟩, b5⟩, b6⟩ := b
  refine ⟨?_, ?_, b3, b4, b5, b6⟩
  · unfold kof
    split at b1
    · rename_i e; rw [e]
    · cases b1
  · split at b2
    · rename_i i e
      refine ⟨i, e, ?_⟩
      split at b2
      · rename_i us e2
        rw [e2, of_decide_eq_true b2]
      · cases b2
    · cases b2
end Mn.D
set_option Elab.async false
set_option linter.all false
set_option maxRecDepth 100000
set_option maxHeartbeats 1000000
namespace Mn.D
open PySem PySem.Spec PyProof.Rows L2 Mn
local macro_rules | `(tactic| walk_at "mn") => `(tactic| first
  | with_reducible refine w_run ?_
  | with_reducible refine d_seq ?_
  | with_reducible refine d_nx ?_
  | with_reducible refine d_ret ?_
  | with_reducible refine d_exp ?_
  | with_reducible refine d_set ?_
  | with_reducible refine d_put ?_
  | with_reducible refine d_if ?_
  | with_reducible refine d_asg ?_
  | with_reducible refine w_c ?_
  | ((with_reducible refine' w_var ?mnE ?_); (case mnE => exact rfl))
  | with_reducible refine w_bin ?_
  | with_reducible refine w_add ?_
  | with_reducible refine w_subt ?_
  | ((with_reducible refine w_mul ?mnE ?_); (case mnE => omega))
  | ((with_reducible refine w_fdiv ?mnE ?_); (case mnE => omega))
  | ((with_reducible refine w_mod ?mnE ?_); (case mnE => omega))
  | ((with_reducible refine w_pow ?mnE ?_); (case mnE => decide))
  | with_reducible refine w_cmpT ?_
  | with_reducible refine w_chn ?_
  | with_reducible refine w_toB ?_
  | with_reducible refine w_tru ?_
  | with_reducible refine w_notT ?_
  | with_reducible refine w_andT ?_
  | with_reducible refine w_orT ?_
  | with_reducible refine w_and ?_
  | with_reducible refine w_or ?_
  | with_reducible refine w_sub ?_
  | with_reducible refine w_slc ?_
  | with_reducible refine w_onone ?_
  | with_reducible refine w_part ?_
  | with_reducible refine w_neg ?_
  | with_reducible refine w_jo ?_
  | with_reducible refine w_jnil ?_
  | with_reducible refine w_jcons ?_
  | with_reducible refine w_fmt ?_
  | with_reducible refine w_dnil ?_
  | with_reducible refine w_dcons ?_
  | with_reducible refine w_dict ?_
  | with_reducible refine w_val ?_
  | with_reducible refine w_rng1 ?_
  | with_reducible refine w_zip ?_
  | with_reducible refine w_kget ?_
  | with_reducible refine w_kin ?_
  | with_reducible refine w_nil ?_
  | with_reducible refine w_cons ?_
  | with_reducible refine w_tup ?_
  | with_reducible refine w_lst ?_
  | with_reducible refine w_nt ?_
  | with_reducible refine w_met ?_
  | with_reducible refine w_call ?_
  | with_reducible refine w_ife ?_
  | with_reducible refine w_ok ?_
  | with_reducible refine c_gt ?_
  | with_reducible refine c_lt ?_
  | with_reducible refine c_le ?_
  | with_reducible refine c_ge ?_
  | with_reducible refine t_bl ?_
  | with_reducible refine t_int ?_)

/-! ### texts of things -/
def numT (i : Int) : Str := toString i
theorem num_b : nums.all (fun i => decide ((numT i).length ≤ 40 ∧ i.natAbs.log2 < 1920)) = true := by decide +kernel
theorem num_ok {i : Int} (h : i ∈ nums) : (numT i).length ≤ 40 ∧ i.natAbs.log2 < 1920 := of_decide_eq_true (List.all_eq_true.mp num_b i h)
theorem key_b : keysL.all (fun x => decide (x.length ≤ 6)) = true := by decide +kernel
theorem key_ok {x : Str} (h : x ∈ keysL) : x.length ≤ 6 := of_decide_eq_true (List.all_eq_true.mp key_b x h)
def one : PyData → Str
  | .int i => numT i
  | .str x => x
  | _ => ""
def sepC (c : Nat) : Str := if c = 112 then "/" else ","
def txC (c : Nat) : PyData → Str
  | .tuple ds => Txt.join (sepC c) (ds.map one)
  | d => one d
def txs : List Nat → List PyData → List Str
  | c :: cs, d :: ds => txC c d :: txs cs ds
  | _, _ => []
def text (w : Str) (ds : List PyData) : Str := Txt.join " " (w :: txs (kof w).cps.toList ds)
/-- an atom whose text is s -/
inductive At : U → PyData → Prop
  | int {i : Int} (h : i ∈ nums) : At (.int i) (.int i)
  | str {x : Str} (h : x.length ≤ 6) : At (.str x) (.str x)
theorem At.str_ok {u : U} {d : PyData} {S : Sto} (h : At u d) : ntStr [u] S = some (.str (one d), S) := by
  cases h with
  | int h => unfold ntStr; exact if_pos (num_ok h).2
  | str h => rfl
theorem At.len {u : U} {d : PyData} (h : At u d) : (one d).length ≤ 40 := by
  cases h with
  | int h => exact (num_ok h).1
  | str h => exact Nat.le_trans h (by decide)
theorem ats_len : ∀ {us : List U} {ds : List PyData}, Paired At us ds → ((ds.map one).map (·.length)).sum ≤ 40 * ds.length
  | _, _, .nil => Nat.le_refl _
  | _, _, .cons (b := d) (l₂ := ds) h t => by
    have h1 := h.len
    have h2 := ats_len t
    simp only [List.map_cons, List.sum_cons, List.length_cons]
    omega
theorem strsOf_map : ∀ xs : List Str, strsOf (xs.map U.str) = some xs
  | [] => rfl
  | x :: xs => by
    show (strsOf (xs.map U.str)).map (x :: ·) = some (x :: xs)
    rw [strsOf_map xs]; rfl
theorem join_ok {Q : U → Sto → Prop} {S : Sto} {k : Nat} {a : Str} {xs : List Str} (h : S[k]? = some (.lst (xs.map U.str))) (c : (xs.map (·.length)).sum + xs.length * a.length ≤ LIM) (q : Q (.str (Txt.join a xs)) S) : On ntJoin [.str a, .ref k] S Q :=
  ⟨_, _, by simp only [ntJoin, seqOf, h, strsOf_map]; exact if_pos c, q⟩
theorem paired_at {α β : Type} {F : α → β → Prop} : ∀ {xs : List α} {ys : List β} {i : Nat} {y : β}, Paired F xs ys → ys[i]? = some y → ∃ x, xs[i]? = some x ∧ F x y
  | _, _, _, _, .nil, e => by simp at e
  | _, _, 0, _, .cons h _, e => by simp at e; subst e; exact ⟨_, rfl, h⟩
  | _, _, i + 1, _, .cons _ t, e => by
    obtain ⟨x, h1, h2⟩ := paired_at (i := i) t (by simpa using e)
    exact ⟨x, by simpa using h1, h2⟩
/-- the comprehension of the texts of atoms -/
theorem lc_str {env : Ev} {S : Sto} {x : Nat} {mi : Ev → Sto → Res Src} {vs : List Nat} {Q : U → Sto → Prop}
    (he : ∀ u, ((wipeE env vs).set x (some u))[x]? = some (some u))
    (h : Ok (mi env S) fun s S1 => ∃ k us ds, s = .tup k ∧ S1[k]? = some (.tup us) ∧ Paired At us ds ∧ ds.length ≤ 100 ∧ ∀ S', S'[S1.length]? = some (.lst ((ds.map one).map U.str)) → Ex none' S1 S' → Q (.ref S1.length) S') :
    Ok (mLc mi (gNm x) (fun _ S => .ok true S) (mNt ntStr (mCons (mVar x) mNil)) vs env S) Q := by
  refine w_lc (h.mono fun s S1 ⟨k, us, ds, es, hk, ha, hl, hq⟩ => ?_)
  subst es
  have hlen := paired_len ha
  refine ⟨us.length, fun i S' => S'[S1.length]? = some (.lst (((ds.map one).take i).map U.str)) ∧ Ex none' S1 S', by simp [turns, tupAt, hk], ⟨at_end _ _, Ex.snoc _ _ _⟩, ?_, ?_⟩
  · rintro i S' hi ⟨hat, hx⟩
    obtain ⟨u, hu⟩ : ∃ u, us[i]? = some u := ⟨_, List.getElem?_eq_getElem hi⟩
    obtain ⟨d, hd, had⟩ := paired_get ha hu
    refine ⟨_, _, _, _, nxt_tup (hx.tup _ _ hk) hu, rfl, true, S', rfl, fun q => (nomatch q), fun _ => ?_⟩
    repeat walk_at "mn"
    refine w_var (he _) ?_
    repeat walk_at "mn"
    refine n_of had.str_ok ?_
    have hm : (ds.map one)[i]? = some (one d) := by rw [List.getElem?_map, hd]; rfl
    refine ⟨_, push_at hat (by rw [List.length_map, List.length_take]; exact Nat.lt_of_le_of_lt (Nat.min_le_left _ _) (Nat.lt_of_lt_of_le hi (by rw [hlen]; exact Nat.le_trans hl (by decide)))), ?_, ?_⟩
    · rw [at_set hat, take_next hm, List.map_append]; rfl
    · exact Ex.setNew hx hat rfl (Nat.le_refl _)
  · rintro S' ⟨hat, hx⟩
    refine ⟨nxt_tup0 (hx.tup _ _ hk), hq S' ?_ hx⟩
    rw [hat, List.take_of_length_le (by rw [List.length_map, hlen]; exact Nat.le_refl _)]
theorem Tvs.atsI {S : Sto} : ∀ {us : List U} {is : List Int}, (∀ i ∈ is, i ∈ nums) → Tvs S us (is.map .int) → Paired At us (is.map .int)
  | _, [], _, .nil => .nil
  | _, i :: is, h, .cons (.int _) t => .cons (.int (h i (List.mem_cons_self ..))) (Tvs.atsI (fun j q => h j (List.mem_cons_of_mem _ q)) t)
theorem Tvs.atsK {S : Sto} : ∀ {us : List U} {is : List Str}, (∀ i ∈ is, i ∈ keysL) → Tvs S us (is.map .str) → Paired At us (is.map .str)
  | _, [], _, .nil => .nil
  | _, i :: is, h, .cons (.str _) t => .cons (.str (key_ok (h i (List.mem_cons_self ..)))) (Tvs.atsK (fun j q => h j (List.mem_cons_of_mem _ q)) t)
/-- how a thing stands in a store: an atom, or a tuple of atoms -/
inductive Sd (S : Sto) (c : Nat) : U → PyData → Prop
  | atm {u : U} {d : PyData} (h : At u d) (hc : c = 110 ∨ c = 107 ∨ c = 109) (e : txC c d = one d) : Sd S c u d
  | many {k : Nat} {us : List U} {ds : List PyData} (e : S[k]? = some (.tup us)) (h : Paired At us ds) (hl : ds.length ≤ 4) (hc : c = 119 ∨ c = 115) : Sd S c (.ref k) (.tuple ds)
  | two {k : Nat} {a b : Int} (e : S[k]? = some (.tup [.int a, .int b])) (ha : a ∈ nums) (hb : b ∈ nums) (hc : c = 112) : Sd S c (.ref k) (.tuple [.int a, .int b])
theorem Th.sd {S : Sto} {c : Nat} {u : U} {d : PyData} (h : Th c d) (t : Tv S u d) : Sd S c u d := by
  cases h with
  | n h => cases t; exact .atm (.int h) (.inl rfl) rfl
  | k h => cases t; exact .atm (.str (key_ok h)) (.inr (.inl rfl)) rfl
  | m h => cases t; exact .atm (.str (by rcases h with rfl | rfl <;> decide)) (.inr (.inr rfl)) rfl
  | w h0 h1 h => cases t with | tup e q => exact .many e (Tvs.atsI h q) (by simpa using h1) (.inl rfl)
  | p ha hb => cases t with | tup e q => cases q with | cons q1 q2 => cases q1; cases q2 with | cons q3 q4 => cases q3; cases q4; exact .two e ha hb rfl
  | s h0 h1 h => cases t with | tup e q => exact .many e (Tvs.atsK h q) (by simp; omega) (.inr rfl)
theorem join2 (y a b : Str) : Txt.join y [a, b] = a ++ y ++ b := TL.join_eq y [a, b]
theorem sep_len (c : Nat) : (sepC c).length = 1 := by unfold sepC; split <;> rfl
theorem jlen (y : Str) (xs : List Str) : (Txt.join y xs).length ≤ (xs.map (·.length)).sum + xs.length * y.length := by rw [TL.join_eq]; exact StrLaws.join_length_le y xs
theorem Sd.len {S : Sto} {c : Nat} {u : U} {d : PyData} (h : Sd S c u d) : (txC c d).length ≤ 200 := by
  cases h with
  | atm h hc e => rw [e]; exact Nat.le_trans h.len (by decide)
  | many e h hl hc =>
    rename_i k us ds
    have h1 := ats_len h
    have h2 := jlen (sepC c) (ds.map one)
    rw [sep_len, List.length_map] at h2
    show (Txt.join (sepC c) (ds.map one)).length ≤ _
    omega
  | two e ha hb hc =>
    rename_i k a b
    have h2 := jlen (sepC c) [numT a, numT b]
    have h3 := (num_ok ha).1
    have h4 := (num_ok hb).1
    simp only [List.map_cons, List.map_nil, List.sum_cons, List.sum_nil, List.length_cons, List.length_nil, sep_len] at h2
    show (Txt.join (sepC c) [numT a, numT b]).length ≤ _
    omega
/-- the shown texts, all fit -/
inductive Sds (S : Sto) : List Nat → List U → List PyData → Prop
  | nil : Sds S [] [] []
  | cons {c : Nat} {cs : List Nat} {u : U} {us : List U} {d : PyData} {ds : List PyData} (h : Sd S c u d) (t : Sds S cs us ds) : Sds S (c :: cs) (u :: us) (d :: ds)
theorem sds_of {S : Sto} : ∀ {cs : List Nat} {us : List U} {ds : List PyData}, Paired Th cs ds → Tvs S us ds → Sds S cs us ds
  | _, _, _, .nil, .nil => .nil
  | _, _, _, .cons h t, .cons q r => .cons (h.sd q) (sds_of t r)
theorem Sd.up {J : Nat → Prop} {S S' : Sto} {c : Nat} {u : U} {d : PyData} (x : Ex J S S') (h : Sd S c u d) : Sd S' c u d := by
  cases h with
  | atm h hc e => exact .atm h hc e
  | many e h hl hc => exact .many (x.tup _ _ e) h hl hc
  | two e ha hb hc => exact .two (x.tup _ _ e) ha hb hc
theorem Sds.len {S : Sto} : ∀ {cs : List Nat} {us : List U} {ds : List PyData}, Sds S cs us ds → us.length = cs.length ∧ (txs cs ds).length = cs.length ∧ ((txs cs ds).map (·.length)).sum ≤ 200 * cs.length
  | _, _, _, .nil => ⟨rfl, rfl, Nat.le_refl _⟩
  | c :: cs, _ :: _, d :: ds, .cons h t => by
    obtain ⟨a, b, e⟩ := t.len
    have h1 := h.len
    simp only [txs, List.length_cons, List.map_cons, List.sum_cons]
    omega
theorem Sds.get {S : Sto} : ∀ {cs : List Nat} {us : List U} {ds : List PyData} {i c : Nat}, Sds S cs us ds → cs[i]? = some c → ∃ u d, us[i]? = some u ∧ Sd S c u d ∧ (txs cs ds)[i]? = some (txC c d)
  | _, _, _, _, _, .nil, e => by simp at e
  | _, _, _, 0, _, .cons h _, e => by simp at e; subst e; exact ⟨_, _, rfl, h, rfl⟩
  | _, _, _, i + 1, _, .cons _ t, e => by
    obtain ⟨u, d, h1, h2, h3⟩ := Sds.get (i := i) t (by simpa using e)
    exact ⟨u, d, by simpa using h1, h2, by simpa [txs] using h3⟩
end Mn.D
set_option Elab.async false
set_option linter.all false
set_option maxRecDepth 100000
set_option maxHeartbeats 1000000
namespace Mn.D
open PySem PySem.Spec PyProof.Rows L2 Mn
local macro_rules | `(tactic| walk_at "mn") => `(tactic| first
  | with_reducible refine w_run ?_
  | with_reducible refine d_seq ?_
  | with_reducible refine d_nx ?_
  | with_reducible refine d_ret ?_
  | with_reducible refine d_exp ?_
  | with_reducible refine d_set ?_
  | with_reducible refine d_put ?_
  | with_reducible refine d_if ?_
  | with_reducible refine d_asg ?_
  | with_reducible refine w_c ?_
  | ((with_reducible refine' w_var ?mnE ?_); (case mnE => exact rfl))
  | with_reducible refine w_bin ?_
  | with_reducible refine w_add ?_
  | with_reducible refine w_subt ?_
  | ((with_reducible refine w_mul ?mnE ?_); (case mnE => omega))
  | ((with_reducible refine w_fdiv ?mnE ?_); (case mnE => omega))
  | ((with_reducible refine w_mod ?mnE ?_); (case mnE => omega))
  | ((with_reducible refine w_pow ?mnE ?_); (case mnE => decide))
  | with_reducible refine w_cmpT ?_
  | with_reducible refine w_chn ?_
  | with_reducible refine w_toB ?_
  | with_reducible refine w_tru ?_
  | with_reducible refine w_notT ?_
  | with_reducible refine w_andT ?_
  | with_reducible refine w_orT ?_
  | with_reducible refine w_and ?_
  | with_reducible refine w_or ?_
  | with_reducible refine w_sub ?_
  | with_reducible refine w_slc ?_
  | with_reducible refine w_onone ?_
  | with_reducible refine w_part ?_
  | with_reducible refine w_neg ?_
  | with_reducible refine w_jo ?_
  | with_reducible refine w_jnil ?_
  | with_reducible refine w_jcons ?_
  | with_reducible refine w_fmt ?_
  | with_reducible refine w_dnil ?_
  | with_reducible refine w_dcons ?_
  | with_reducible refine w_dict ?_
  | with_reducible refine w_val ?_
  | with_reducible refine w_rng1 ?_
  | with_reducible refine w_zip ?_
  | with_reducible refine w_kget ?_
  | with_reducible refine w_kin ?_
  | with_reducible refine w_nil ?_
  | with_reducible refine w_cons ?_
  | with_reducible refine w_tup ?_
  | with_reducible refine w_lst ?_
  | with_reducible refine w_nt ?_
  | with_reducible refine w_met ?_
  | with_reducible refine w_call ?_
  | with_reducible refine w_ife ?_
  | with_reducible refine w_ok ?_
  | with_reducible refine c_gt ?_
  | with_reducible refine c_lt ?_
  | with_reducible refine c_le ?_
  | with_reducible refine c_ge ?_
  | with_reducible refine t_bl ?_
  | with_reducible refine t_int ?_)

theorem br_no {t : Bool} {A B : Prop} (e : t = false) (h : B) : Br t A B := by subst e; exact br_f h
theorem br_yes {t : Bool} {A B : Prop} (e : t = true) (h : A) : Br t A B := by subst e; exact br_t h
theorem slice_tail {S : Sto} {k : Nat} {x : U} {xs : List U} (h : S[k]? = some (.tup (x :: xs))) : opS (.ref k) (some 1) none S = .ok (.ref S.length) (S ++ [.tup xs]) := by
  have e1 : HT.sIx (x :: xs).length 0 (some 1) = 1 := by
    show (if (1 : Int) < 0 then ((1 : Int) + ((x :: xs).length : Int)).toNat else min (1 : Int).toNat (x :: xs).length) = 1
    rw [if_neg (by decide)]
    simp
  unfold opS
  dsimp only
  rw [h]
  dsimp only
  rw [if_neg (by rw [e1]; omega)]
  unfold cutU
  rw [e1]
  simp [HT.sIx]
theorem in_tup {S : Sto} {k : Nat} {xs : List U} {u : U} {t : Bool} {T : Bool → Sto → Prop} (h : S[k]? = some (.tup xs)) (e : (if flatU u = true ∧ xs.all flatU = true then some (inV (v0 u) (xs.map v0)) else none) = some t) (q : T t S) : Oc .In u (.ref k) S T :=
  ⟨t, (show opIn u (.ref k) S = some t from by cases u <;> simp only [opIn, h] <;> exact e), q⟩
theorem empty_app (x : Str) : Str.empty ++ x = x := TL.ext_tl (by rw [TL.tl_append]; rfl)
theorem app_len (x y : Str) : (x ++ y).length = x.length + y.length := Str.length_append x y
theorem shown_thing_ok {S : Sto} {c : Nat} {u : U} {d : PyData} (h : Sd S c u d) : Ok (g_shown_thing [.str (nameC c), u] S) fun v S' => v = .str (txC c d) ∧ Ex none' S S' := by
  unfold g_shown_thing m_shown_thing
  cases h with
  | atm h hc e =>
    rw [e]
    have n1 : decide (U.str (nameC c) = U.str "pace") = false := by rcases hc with rfl | rfl | rfl <;> decide +kernel
    have n2 : (if flatU (U.str (nameC c)) = true ∧ [U.str "worth", U.str "keys"].all flatU = true then some (inV (v0 (U.str (nameC c))) ([U.str "worth", U.str "keys"].map v0)) else none) = some false := by rcases hc with rfl | rfl | rfl <;> decide +kernel
    repeat walk_at "mn"
    refine c_eq rfl (br_no n1 ?_)
    repeat walk_at "mn"
    refine ⟨show (2 : Nat) ≤ LIM by decide, ?_⟩
    refine in_tup (at_end _ _) n2 (br_no rfl ?_)
    repeat walk_at "mn"
    refine n_of h.str_ok ⟨rfl, Ex.snoc _ _ _⟩
  | many e h hl hc =>
    have n1 : decide (U.str (nameC c) = U.str "pace") = false := by rcases hc with rfl | rfl <;> decide +kernel
    have n2 : (if flatU (U.str (nameC c)) = true ∧ [U.str "worth", U.str "keys"].all flatU = true then some (inV (v0 (U.str (nameC c))) ([U.str "worth", U.str "keys"].map v0)) else none) = some true := by rcases hc with rfl | rfl <;> decide +kernel
    have n3 : sepC c = "," := by rcases hc with rfl | rfl <;> rfl
    repeat walk_at "mn"
    refine c_eq rfl (br_no n1 ?_)
    repeat walk_at "mn"
    refine ⟨show (2 : Nat) ≤ LIM by decide, ?_⟩
    refine in_tup (at_end _ _) n2 (br_yes rfl ?_)
    repeat walk_at "mn"
    refine ⟨rfl, ?_⟩
    repeat walk_at "mn"
    refine lc_str (fun u => rfl) ?_
    repeat walk_at "mn"
    have e' := (Ex.snoc none' S (.tup [U.str "worth", U.str "keys"])).tup _ _ e
    refine ⟨_, by simp only [srcOf, e'], _, _, _, rfl, e', h, by omega, ?_⟩
    intro S' hat hx
    repeat walk_at "mn"
    have l1 := ats_len h
    refine join_ok hat ?_ ⟨by show _ = U.str (Txt.join (sepC c) _); rw [n3], (Ex.snoc none' S _).then hx⟩
    rw [List.length_map]
    show _ + _ * 1 ≤ 1000000
    omega
  | two e ha hb hc =>
    subst hc
    rename_i k a b
    repeat walk_at "mn"
    refine c_eq rfl (br_yes (by decide +kernel) ?_)
    repeat walk_at "mn"
    refine i_tup e rfl ?_
    refine w_fmtI (num_ok ha).2 ⟨_, rfl, ?_, ?_⟩
    · rw [empty_app]; exact Nat.le_trans (num_ok ha).1 (by decide)
    repeat walk_at "mn"
    have ra := (num_ok ha).1
    have rb := (num_ok hb).1
    refine ⟨_, rfl, ?_, ?_⟩
    · rw [empty_app, app_len]; show (numT a).length + 1 ≤ 1000000; omega
    repeat walk_at "mn"
    refine i_tup e rfl ?_
    refine w_fmtI (num_ok hb).2 ⟨_, rfl, ?_, ?_⟩
    · rw [empty_app, app_len, app_len]; show (numT a).length + 1 + (numT b).length ≤ 1000000; omega
    repeat walk_at "mn"
    refine ⟨?_, Ex.refl _ _⟩
    rw [empty_app]
    show _ = U.str (Txt.join "/" [numT a, numT b])
    rw [join2]
    rfl
end Mn.D
set_option Elab.async false
set_option linter.all false
set_option maxRecDepth 100000
set_option maxHeartbeats 1000000
namespace Mn.D
open PySem PySem.Spec PyProof.Rows L2 Mn
local macro_rules | `(tactic| walk_at "mn") => `(tactic| first
  | with_reducible refine w_run ?_
  | with_reducible refine d_seq ?_
  | with_reducible refine d_nx ?_
  | with_reducible refine d_ret ?_
  | with_reducible refine d_exp ?_
  | with_reducible refine d_set ?_
  | with_reducible refine d_put ?_
  | with_reducible refine d_if ?_
  | with_reducible refine d_asg ?_
  | with_reducible refine w_c ?_
  | ((with_reducible refine' w_var ?mnE ?_); (case mnE => exact rfl))
  | with_reducible refine w_bin ?_
  | with_reducible refine w_add ?_
  | with_reducible refine w_subt ?_
  | ((with_reducible refine w_mul ?mnE ?_); (case mnE => omega))
  | ((with_reducible refine w_fdiv ?mnE ?_); (case mnE => omega))
  | ((with_reducible refine w_mod ?mnE ?_); (case mnE => omega))
  | ((with_reducible refine w_pow ?mnE ?_); (case mnE => decide))
  | with_reducible refine w_cmpT ?_
  | with_reducible refine w_chn ?_
  | with_reducible refine w_toB ?_
  | with_reducible refine w_tru ?_
  | with_reducible refine w_notT ?_
  | with_reducible refine w_andT ?_
  | with_reducible refine w_orT ?_
  | with_reducible refine w_and ?_
  | with_reducible refine w_or ?_
  | with_reducible refine w_sub ?_
  | with_reducible refine w_slc ?_
  | with_reducible refine w_onone ?_
  | with_reducible refine w_part ?_
  | with_reducible refine w_neg ?_
  | with_reducible refine w_jo ?_
  | with_reducible refine w_jnil ?_
  | with_reducible refine w_jcons ?_
  | with_reducible refine w_fmt ?_
  | with_reducible refine w_dnil ?_
  | with_reducible refine w_dcons ?_
  | with_reducible refine w_dict ?_
  | with_reducible refine w_val ?_
  | with_reducible refine w_rng1 ?_
  | with_reducible refine w_zip ?_
  | with_reducible refine w_kget ?_
  | with_reducible refine w_kin ?_
  | with_reducible refine w_nil ?_
  | with_reducible refine w_cons ?_
  | with_reducible refine w_tup ?_
  | with_reducible refine w_lst ?_
  | with_reducible refine w_nt ?_
  | with_reducible refine w_met ?_
  | with_reducible refine w_call ?_
  | with_reducible refine w_ife ?_
  | with_reducible refine w_ok ?_
  | with_reducible refine c_gt ?_
  | with_reducible refine c_lt ?_
  | with_reducible refine c_le ?_
  | with_reducible refine c_ge ?_
  | with_reducible refine t_bl ?_
  | with_reducible refine t_int ?_)

theorem at0 {x : U} {xs : List U} : L2.atI (x :: xs) 0 = some x := by
  unfold L2.atI L2.ixN
  rw [if_pos (by decide), if_pos (by simp only [List.length_cons]; omega)]
  rfl
/-- a deed that stands at k -/
structure Deed (S : Sto) (k : Nat) (w : Str) (us : List U) (ds : List PyData) : Prop where
  tup : S[k]? = some (.tup (.str w :: us))
  wo : WordOk w
  sds : Sds S (kof w).cps.toList us ds
theorem Sds.up {J : Nat → Prop} {S S' : Sto} (x : Ex J S S') : ∀ {cs : List Nat} {us : List U} {ds : List PyData}, Sds S cs us ds → Sds S' cs us ds
  | _, _, _, .nil => .nil
  | _, _, _, .cons h t => .cons (h.up x) (Sds.up x t)
theorem Deed.up {J : Nat → Prop} {S S' : Sto} {k : Nat} {w : Str} {us : List U} {ds : List PyData} (x : Ex J S S') (h : Deed S k w us ds) : Deed S' k w us ds := ⟨x.tup _ _ h.tup, h.wo, h.sds.up x⟩
theorem tg_two {S : Sto} {a b : U} {env : Ev} {i j : Nat} : gTp 2 (gsCons (gNm i) (gsCons (gNm j) gsNil)) (.ref S.length) env (S ++ [.tup [a, b]]) = some ((env.set i (some a)).set j (some b), S ++ [.tup [a, b]]) := by
  unfold gTp itemsU
  dsimp only
  rw [at_end]
  rfl
theorem text_len {S : Sto} {k : Nat} {w : Str} {us : List U} {ds : List PyData} (h : Deed S k w us ds) : ((w :: txs (kof w).cps.toList ds).map (·.length)).sum + (w :: txs (kof w).cps.toList ds).length * (" " : Str).length ≤ 3000 := by
  obtain ⟨a, b, c⟩ := h.sds.len
  have := h.wo.wl
  have := h.wo.kl
  simp only [List.map_cons, List.sum_cons, List.length_cons]
  show _ + _ * 1 ≤ _
  omega
theorem text_ok {S : Sto} {k : Nat} {w : Str} {us : List U} {ds : List PyData} (h : Deed S k w us ds) : Ok (g__law_text [.ref k] S) fun v S' => v = .str (text w ds) ∧ Ex none' S S' := by
  unfold g__law_text m__law_text
  repeat walk_at "mn"
  refine (kinds_ok S).mono ?_
  rintro v S1 ⟨D, rfl, hDl, hD, x1⟩
  have t1 := x1.tup _ _ h.tup
  repeat walk_at "mn"
  refine i_tup t1 at0 ?_
  refine i_dct hD rfl h.wo.kd ?_
  repeat walk_at "mn"
  refine i_tup t1 at0 ?_
  repeat walk_at "mn"
  refine ⟨show (1 : Nat) ≤ LIM by decide, ?_⟩
  have x2 : Ex none' S (S1 ++ [.lst [.str w]]) := x1.add _
  have l2 := at_end S1 (.lst [.str w])
  have hL := x1.len
  generalize eL : S1.length = L at l2 hL ⊢
  generalize eS : S1 ++ [O.lst [U.str w]] = S2 at x2 l2 ⊢
  refine d_seq (d_for ?_)
  repeat walk_at "mn"
  refine ⟨1, rfl, ?_⟩
  repeat walk_at "mn"
  rw [slice_tail (x2.tup _ _ h.tup)]
  repeat walk_at "mn"
  refine ⟨_, _, .tx (kof w), .tp S2.length, rfl, rfl, by simp only [legOf, at_end], ?_⟩
  obtain ⟨ul, tl, tlen⟩ := h.sds.len
  have kl := h.wo.kl
  refine ⟨(kof w).cps.toList.length, fun i e S' => ∃ a3 a4 a5, e = [some (.ref k), some (.str (kof w)), some (.ref L), a3, a4, a5] ∧ S'[L]? = some (.lst ((w :: (txs (kof w).cps.toList ds).take i).map .str)) ∧ Ex none' S S' ∧ S'[S2.length]? = some (.tup us),
    by simp [turns, legU], ⟨_, _, _, rfl, (Ex.snoc none' S2 _).at l2 id, x2.add _, at_end _ _⟩, ?_, ?_⟩
  · rintro i e S' hi ⟨a3, a4, a5, rfl, hat, hx, hus⟩
    obtain ⟨c, hc⟩ : ∃ c, (kof w).cps.toList[i]? = some c := ⟨_, List.getElem?_eq_getElem hi⟩
    obtain ⟨u, d, hu, hsd, htx⟩ := h.sds.get hc
    refine ⟨_, _, _, _, nxt_zip (xs := (kof w).cps.toList.map fun c => .str ⟨#[c]⟩) rfl (by simp only [legU, tupAt, hus]) (by rw [List.getElem?_map, hc]; rfl) hu, tg_two, ?_⟩
    have hx3 : Ex none' S (S' ++ [.tup [.str ⟨#[c]⟩, u]]) := hx.add _
    have hat3 := (Ex.snoc none' S' (.tup [.str ⟨#[c]⟩, u])).at hat id
    have hus3 := (Ex.snoc none' S' (.tup [.str ⟨#[c]⟩, u])).tup _ _ hus
    have hsd3 := hsd.up hx3
    generalize S' ++ [O.tup [.str ⟨#[c]⟩, u]] = S3 at hx3 hat3 hus3 hsd3 ⊢
    have fin : ∀ {S4 : Sto}, Ex none' S3 S4 → ∀ {b3 b4 b5 : Option U}, (S4[L]? = some (.lst ((w :: (txs (kof w).cps.toList ds).take i).map .str)) → ((w :: (txs (kof w).cps.toList ds).take i).map U.str).length < LIM ∧
        ∃ a3 a4 a5, [some (U.ref k), some (.str (kof w)), some (.ref L), b3, b4, b5] = [some (.ref k), some (.str (kof w)), some (.ref L), a3, a4, a5] ∧ (S4.set L (.lst ((w :: (txs (kof w).cps.toList ds).take i).map .str ++ [.str (txC c d)])))[L]? = some (.lst ((w :: (txs (kof w).cps.toList ds).take (i + 1)).map .str)) ∧ Ex none' S (S4.set L (.lst ((w :: (txs (kof w).cps.toList ds).take i).map .str ++ [.str (txC c d)]))) ∧ (S4.set L (.lst ((w :: (txs (kof w).cps.toList ds).take i).map .str ++ [.str (txC c d)])))[S2.length]? = some (.tup us)) := by
      intro S4 x4 b3 b4 b5 h4
      refine ⟨?_, _, _, _, rfl, ?_, Ex.setNew (hx3.then x4) h4 rfl hL, (Ex.set (J := one' L) h4 rfl rfl).tup _ _ (x4.tup _ _ hus3)⟩
      · rw [List.length_map, List.length_cons, List.length_take]
        have : min i (txs (kof w).cps.toList ds).length ≤ i := Nat.min_le_left _ _
        exact Nat.lt_of_le_of_lt (show _ ≤ 20 by omega) (by decide)
      · rw [at_set h4, take_next htx]
        simp
    cases hsd3 with
    | atm ha hc' e =>
      have n1 : decide (U.str ⟨#[c]⟩ = U.str "p") = false := by rcases hc' with rfl | rfl | rfl <;> decide +kernel
      have n2 : decide (c ∈ ("ws" : Str).cps.toList) = false := by rcases hc' with rfl | rfl | rfl <;> decide +kernel
      rw [e] at fin
      repeat walk_at "mn"
      refine c_eq rfl (br_no n1 ?_)
      repeat walk_at "mn"
      refine c_of (t := decide (c ∈ ("ws" : Str).cps.toList)) rfl (br_no n2 ?_)
      repeat walk_at "mn"
      refine ⟨ty_lst hat3, ?_⟩
      repeat walk_at "mn"
      refine n_of ha.str_ok ?_
      repeat walk_at "mn"
      obtain ⟨f1, f2⟩ := fin (Ex.refl _ _) (b3 := some (.str ⟨#[c]⟩)) (b4 := some u) (b5 := a5) hat3
      exact app_ok hat3 f1 f2
    | many e' ha hl hc' =>
      rename_i kk us' ds'
      have n1 : decide (U.str ⟨#[c]⟩ = U.str "p") = false := by rcases hc' with rfl | rfl <;> decide +kernel
      have n2 : decide (c ∈ ("ws" : Str).cps.toList) = true := by rcases hc' with rfl | rfl <;> decide +kernel
      have n3 : sepC c = "," := by rcases hc' with rfl | rfl <;> rfl
      repeat walk_at "mn"
      refine c_eq rfl (br_no n1 ?_)
      repeat walk_at "mn"
      refine c_of (t := decide (c ∈ ("ws" : Str).cps.toList)) rfl (br_yes n2 ?_)
      repeat walk_at "mn"
      refine ⟨ty_lst hat3, ?_⟩
      repeat walk_at "mn"
      refine ⟨rfl, ?_⟩
      repeat walk_at "mn"
      refine lc_str (fun u => rfl) ?_
      repeat walk_at "mn"
      refine ⟨_, by simp only [srcOf, e'], _, _, _, rfl, e', ha, by omega, ?_⟩
      intro S4 hat4 hx4
      repeat walk_at "mn"
      have l1 := ats_len ha
      refine join_ok hat4 (by rw [List.length_map]; show _ + _ * 1 ≤ 1000000; omega) ?_
      repeat walk_at "mn"
      obtain ⟨f1, f2⟩ := fin hx4 (b3 := some (.str ⟨#[c]⟩)) (b4 := some (.ref kk)) (b5 := a5) (hx4.at hat3 id)
      have e5 : txC c (.tuple ds') = Txt.join "," (ds'.map one) := by show Txt.join (sepC c) _ = _; rw [n3]
      rw [e5] at f2
      exact app_ok (hx4.at hat3 id) f1 f2
    | two e' ha hb hc' =>
      subst hc'
      rename_i kk a b
      have ra := (num_ok ha).1
      have rb := (num_ok hb).1
      repeat walk_at "mn"
      refine c_eq rfl (br_yes (by decide +kernel) ?_)
      repeat walk_at "mn"
      refine ⟨ty_lst hat3, ?_⟩
      repeat walk_at "mn"
      refine i_tup e' rfl ?_
      repeat walk_at "mn"
      refine n_of (At.int ha).str_ok ?_
      repeat walk_at "mn"
      refine w_cat ?_ ?_
      · show (numT a).length + 1 ≤ 1000000; omega
      repeat walk_at "mn"
      refine i_tup e' rfl ?_
      repeat walk_at "mn"
      refine n_of (At.int hb).str_ok ?_
      refine w_cat ?_ ?_
      · show (numT a ++ "/").length + (numT b).length ≤ 1000000; rw [app_len]; show (numT a).length + 1 + _ ≤ _; omega
      repeat walk_at "mn"
      obtain ⟨f1, f2⟩ := fin (Ex.refl _ _) (b3 := some (.str ⟨#[112]⟩)) (b4 := some (.ref kk)) (b5 := a5) hat3
      have e5 : txC 112 (.tuple [.int a, .int b]) = numT a ++ "/" ++ numT b := by show Txt.join "/" [numT a, numT b] = _; rw [join2]
      rw [e5] at f2
      exact app_ok hat3 f1 f2
  · rintro e S' ⟨a3, a4, a5, rfl, hat, hx, hus⟩
    refine ⟨by have := @nxt_zip0 S' (.tx (kof w)) (.tp S2.length) false ((kof w).cps.toList.map fun c => .str ⟨#[c]⟩) us rfl (by simp only [legU, tupAt, hus]) (by rw [List.length_map, ul]); rw [List.length_map] at this; exact this, ?_⟩
    repeat walk_at "mn"
    refine ⟨rfl, ?_⟩
    repeat walk_at "mn"
    rw [List.take_of_length_le (by rw [tl]; exact Nat.le_refl _)] at hat
    exact join_ok hat (Nat.le_trans (text_len h) (by decide)) ⟨rfl, hx⟩
end Mn.D
set_option Elab.async false
set_option linter.all false
set_option maxRecDepth 100000
set_option maxHeartbeats 1000000
namespace Mn.D
open PySem PySem.Spec PyProof.Rows L2 Mn
local macro_rules | `(tactic| walk_at "mn") => `(tactic| first
  | with_reducible refine w_run ?_
  | with_reducible refine d_seq ?_
  | with_reducible refine d_nx ?_
  | with_reducible refine d_ret ?_
  | with_reducible refine d_exp ?_
  | with_reducible refine d_set ?_
  | with_reducible refine d_put ?_
  | with_reducible refine d_if ?_
  | with_reducible refine d_asg ?_
  | with_reducible refine w_c ?_
  | ((with_reducible refine' w_var ?mnE ?_); (case mnE => exact rfl))
  | with_reducible refine w_bin ?_
  | with_reducible refine w_add ?_
  | with_reducible refine w_subt ?_
  | ((with_reducible refine w_mul ?mnE ?_); (case mnE => omega))
  | ((with_reducible refine w_fdiv ?mnE ?_); (case mnE => omega))
  | ((with_reducible refine w_mod ?mnE ?_); (case mnE => omega))
  | ((with_reducible refine w_pow ?mnE ?_); (case mnE => decide))
  | with_reducible refine w_cmpT ?_
  | with_reducible refine w_chn ?_
  | with_reducible refine w_toB ?_
  | with_reducible refine w_tru ?_
  | with_reducible refine w_notT ?_
  | with_reducible refine w_andT ?_
  | with_reducible refine w_orT ?_
  | with_reducible refine w_and ?_
  | with_reducible refine w_or ?_
  | with_reducible refine w_sub ?_
  | with_reducible refine w_slc ?_
  | with_reducible refine w_onone ?_
  | with_reducible refine w_part ?_
  | with_reducible refine w_neg ?_
  | with_reducible refine w_jo ?_
  | with_reducible refine w_jnil ?_
  | with_reducible refine w_jcons ?_
  | with_reducible refine w_fmt ?_
  | with_reducible refine w_dnil ?_
  | with_reducible refine w_dcons ?_
  | with_reducible refine w_dict ?_
  | with_reducible refine w_val ?_
  | with_reducible refine w_rng1 ?_
  | with_reducible refine w_zip ?_
  | with_reducible refine w_kget ?_
  | with_reducible refine w_kin ?_
  | with_reducible refine w_nil ?_
  | with_reducible refine w_cons ?_
  | with_reducible refine w_tup ?_
  | with_reducible refine w_lst ?_
  | with_reducible refine w_nt ?_
  | with_reducible refine w_met ?_
  | with_reducible refine w_call ?_
  | with_reducible refine w_ife ?_
  | with_reducible refine w_ok ?_
  | with_reducible refine c_gt ?_
  | with_reducible refine c_lt ?_
  | with_reducible refine c_le ?_
  | with_reducible refine c_ge ?_
  | with_reducible refine t_bl ?_
  | with_reducible refine t_int ?_)

/-- the module's tuples stand -/
def Bs (S : Sto) : Prop := ∀ (j : Nat) (us : List U), baseS[j]? = some (.tup us) → S[j]? = some (.tup us)
theorem Bs.up {J : Nat → Prop} {S S' : Sto} (x : Ex J S S') (h : Bs S) : Bs S' := fun j us e => x.tup _ _ (h j us e)
theorem star_ok {S : Sto} {k i j : Nat} {x : U} {xs : List U} {env : Ev} (h : S[k]? = some (.tup (x :: xs))) : gStar (gsCons (gNm i) (gsCons (gNm j) gsNil)) (.ref k) env S = some ((env.set i (some x)).set j (some (.ref S.length)), S ++ [.lst xs]) := by
  unfold gStar itemsU
  dsimp only
  rw [h]
  rfl
theorem star_okL {S : Sto} {k i j : Nat} {x : U} {xs : List U} {env : Ev} (h : S[k]? = some (.lst (x :: xs))) : gStar (gsCons (gNm i) (gsCons (gNm j) gsNil)) (.ref k) env S = some ((env.set i (some x)).set j (some (.ref S.length)), S ++ [.lst xs]) := by
  unfold gStar itemsU
  dsimp only
  rw [h]
  rfl
theorem shown_deed_ok {S : Sto} {k : Nat} {w : Str} {us : List U} {ds : List PyData} (h : Deed S k w us ds) (hb : Bs S) : Ok (g_shown_deed [.ref k] S) fun v S' => v = .str (text w ds) ∧ Ex none' S S' := by
  unfold g_shown_deed m_shown_deed
  repeat walk_at "mn"
  refine ⟨_, _, star_ok h.tup, ?_⟩
  obtain ⟨j, fj, hj⟩ := h.wo.fo
  obtain ⟨ul, tl, tlen⟩ := h.sds.len
  have kl := h.wo.kl
  repeat walk_at "mn"
  refine ⟨rfl, ?_⟩
  repeat walk_at "mn"
  refine ⟨show (1 : Nat) ≤ LIM by decide, ?_⟩
  have x2 : Ex none' S (S ++ [.lst us] ++ [.lst [.str w]]) := (Ex.snoc none' S _).add _
  have u2 := (Ex.snoc none' (S ++ [.lst us]) (.lst [.str w])).at (at_end S (.lst us)) id
  have l2 := at_end (S ++ [.lst us]) (.lst [.str w])
  have hL : S.length ≤ (S ++ [O.lst us]).length := by simp
  generalize (S ++ [O.lst us]).length = L at l2 hL ⊢
  generalize S ++ [O.lst us] ++ [O.lst [U.str w]] = S2 at x2 l2 u2 ⊢
  refine w_lc ?_
  repeat walk_at "mn"
  refine ⟨w, _, rfl, fj, ?_⟩
  repeat walk_at "mn"
  have f2 := x2.tup _ _ (hb j _ hj)
  refine ⟨_, _, .tp j, .ls S.length, rfl, by simp only [legOf, f2], by simp only [legOf, u2], ?_⟩
  refine ⟨(kof w).cps.toList.length, fun i S' => S'[S2.length]? = some (.lst (((txs (kof w).cps.toList ds).take i).map .str)) ∧ Ex none' S2 S', by simp [turns, legU, tupAt, f2], ⟨at_end _ _, Ex.snoc none' S2 _⟩, ?_, ?_⟩
  · rintro i S' hi ⟨hat, hx⟩
    obtain ⟨c, hc⟩ : ∃ c, (kof w).cps.toList[i]? = some c := ⟨_, List.getElem?_eq_getElem hi⟩
    obtain ⟨u, d, hu, hsd, htx⟩ := h.sds.get hc
    refine ⟨_, _, _, _, nxt_zip (xs := (kof w).cps.toList.map fun c => .str (nameC c)) (ys := us) (by simp only [legU, tupAt, hx.tup _ _ f2]) (by simp only [legU, listAt, hx.at u2 id]) (by rw [List.getElem?_map, hc]; rfl) hu, tg_two, true, _, rfl, fun q => (nomatch q), fun _ => ?_⟩
    repeat walk_at "mn"
    refine ⟨rfl, ?_⟩
    have x3 : Ex none' S2 (S' ++ [.tup [.str (nameC c), u]]) := hx.add _
    refine (shown_thing_ok (hsd.up (x2.then x3))).mono ?_
    rintro v S4 ⟨rfl, x4⟩
    have h4 := x4.at ((Ex.snoc none' S' (.tup [.str (nameC c), u])).at hat id) id
    refine ⟨_, push_at h4 ?_, ?_, Ex.setNew (x3.then x4) h4 rfl (Nat.le_refl _)⟩
    · rw [List.length_map, List.length_take]
      have : min i (txs (kof w).cps.toList ds).length ≤ i := Nat.min_le_left _ _
      exact Nat.lt_of_le_of_lt (show _ ≤ 20 by omega) (by decide)
    · rw [at_set h4, take_next htx, List.map_append]; rfl
  · rintro S' ⟨hat, hx⟩
    refine ⟨by have := @nxt_zip0 S' (.tp j) (.ls S.length) true ((kof w).cps.toList.map fun c => .str (nameC c)) us (by simp only [legU, tupAt, hx.tup _ _ f2]) (by simp only [legU, listAt, hx.at u2 id]) (by rw [List.length_map, ul]); rw [List.length_map] at this; exact this, ?_⟩
    rw [List.take_of_length_le (by rw [tl]; exact Nat.le_refl _)] at hat
    refine w_catL (hx.at l2 id) hat ?_ ?_
    · rw [List.length_map, tl]; exact Nat.le_trans (show _ ≤ 20 by simp only [List.length_cons, List.length_nil]; omega) (by decide)
    repeat walk_at "mn"
    exact join_ok (xs := w :: txs (kof w).cps.toList ds) (at_end _ _) (Nat.le_trans (text_len h) (by decide)) ⟨rfl, (x2.then hx).add _⟩
end Mn.D
set_option Elab.async false
set_option linter.all false
set_option maxRecDepth 100000
set_option maxHeartbeats 1000000
namespace Mn.D
open PySem PySem.Spec PyProof.Rows L2 Mn
local macro_rules | `(tactic| walk_at "mn") => `(tactic| first
  | with_reducible refine w_run ?_
  | with_reducible refine d_seq ?_
  | with_reducible refine d_nx ?_
  | with_reducible refine d_ret ?_
  | with_reducible refine d_exp ?_
  | with_reducible refine d_set ?_
  | with_reducible refine d_put ?_
  | with_reducible refine d_if ?_
  | with_reducible refine d_asg ?_
  | with_reducible refine w_c ?_
  | ((with_reducible refine' w_var ?mnE ?_); (case mnE => exact rfl))
  | with_reducible refine w_bin ?_
  | with_reducible refine w_add ?_
  | with_reducible refine w_subt ?_
  | ((with_reducible refine w_mul ?mnE ?_); (case mnE => omega))
  | ((with_reducible refine w_fdiv ?mnE ?_); (case mnE => omega))
  | ((with_reducible refine w_mod ?mnE ?_); (case mnE => omega))
  | ((with_reducible refine w_pow ?mnE ?_); (case mnE => decide))
  | with_reducible refine w_cmpT ?_
  | with_reducible refine w_chn ?_
  | with_reducible refine w_toB ?_
  | with_reducible refine w_tru ?_
  | with_reducible refine w_notT ?_
  | with_reducible refine w_andT ?_
  | with_reducible refine w_orT ?_
  | with_reducible refine w_and ?_
  | with_reducible refine w_or ?_
  | with_reducible refine w_sub ?_
  | with_reducible refine w_slc ?_
  | with_reducible refine w_onone ?_
  | with_reducible refine w_part ?_
  | with_reducible refine w_neg ?_
  | with_reducible refine w_jo ?_
  | with_reducible refine w_jnil ?_
  | with_reducible refine w_jcons ?_
  | with_reducible refine w_fmt ?_
  | with_reducible refine w_dnil ?_
  | with_reducible refine w_dcons ?_
  | with_reducible refine w_dict ?_
  | with_reducible refine w_val ?_
  | with_reducible refine w_rng1 ?_
  | with_reducible refine w_zip ?_
  | with_reducible refine w_kget ?_
  | with_reducible refine w_kin ?_
  | with_reducible refine w_nil ?_
  | with_reducible refine w_cons ?_
  | with_reducible refine w_tup ?_
  | with_reducible refine w_lst ?_
  | with_reducible refine w_nt ?_
  | with_reducible refine w_met ?_
  | with_reducible refine w_call ?_
  | with_reducible refine w_ife ?_
  | with_reducible refine w_ok ?_
  | with_reducible refine c_gt ?_
  | with_reducible refine c_lt ?_
  | with_reducible refine c_le ?_
  | with_reducible refine c_ge ?_
  | with_reducible refine t_bl ?_
  | with_reducible refine t_int ?_)

theorem all_ok {Q : U → Sto → Prop} {S : Sto} {k : Nat} {bs : List Bool} (h : S[k]? = some (.lst (bs.map U.bl))) (q : Q (.bl (bs.all id)) S) : On ntAll [.ref k] S Q :=
  ⟨_, _, by simp only [ntAll, listAt, h, bls bs]; rfl, q⟩
where bls : ∀ bs : List Bool, blsOf (bs.map U.bl) = some bs
  | [] => rfl
  | b :: bs => by show (blsOf (bs.map U.bl)).map (b :: ·) = _; rw [bls bs]; rfl
theorem len_str {Q : U → Sto → Prop} {S : Sto} {x : Str} (c : x.length ≤ LIM) (q : Q (.int x.length) S) : On ntLen [.str x] S Q := ⟨_, _, by simp only [ntLen, lenU]; rw [if_pos c]; rfl, q⟩
theorem len_lst {Q : U → Sto → Prop} {S : Sto} {k : Nat} {xs : List U} (h : S[k]? = some (.lst xs)) (q : Q (.int xs.length) S) : On ntLen [.ref k] S Q := ⟨_, _, by simp only [ntLen, lenU, h]; rfl, q⟩
theorem len_tup {Q : U → Sto → Prop} {S : Sto} {k : Nat} {xs : List U} (h : S[k]? = some (.tup xs)) (q : Q (.int xs.length) S) : On ntLen [.ref k] S Q := ⟨_, _, by simp only [ntLen, lenU, h]; rfl, q⟩
theorem int_str {Q : U → Sto → Prop} {S : Sto} {x : Str} {i : Int} (c : x.length ≤ 640) (e : PySem.intText? x = some i) (q : Q (.int i) S) : On ntInt [.str x] S Q := ⟨_, _, by simp only [ntInt]; rw [if_pos c, e]; rfl, q⟩
/-- are all signs of y in z -/
def allIn (y z : Str) : Bool := (y.cps.toList.map fun c => decide (c ∈ z.cps.toList)).all id
theorem lc_in {env : Ev} {S : Sto} {x : Nat} {y z : Str} {mi : Ev → Sto → Res Src} {vs : List Nat} {Q : U → Sto → Prop}
    (he : ∀ u, ((wipeE env vs).set x (some u))[x]? = some (some u))
    (h : Ok (mi env S) fun s S1 => s = .txt y ∧ y.length ≤ 1000 ∧ ∀ S', S'[S1.length]? = some (.lst ((y.cps.toList.map fun c => decide (c ∈ z.cps.toList)).map U.bl)) → Ex none' S1 S' → Q (.ref S1.length) S') :
    Ok (mLc mi (gNm x) (fun _ S => .ok true S) (toB (mCmpT .In (mVar x) (mC (.str z)))) vs env S) Q := by
  refine w_lc (h.mono fun s S1 ⟨es, hl, hq⟩ => ?_)
  subst es
  have hlen : y.cps.toList.length = y.length := by simp [Str.length]
  refine ⟨y.cps.toList.length, fun i S' => S'[S1.length]? = some (.lst (((y.cps.toList.map fun c => decide (c ∈ z.cps.toList)).take i).map U.bl)) ∧ Ex none' S1 S', by simp [turns, Str.length], ⟨at_end _ _, Ex.snoc _ _ _⟩, ?_, ?_⟩
  · rintro i S' hi ⟨hat, hx⟩
    obtain ⟨c, hc⟩ : ∃ c, y.cps.toList[i]? = some c := ⟨_, List.getElem?_eq_getElem hi⟩
    refine ⟨_, _, _, _, nxt_txt (by simpa using hc), rfl, true, S', rfl, fun q => (nomatch q), fun _ => ?_⟩
    repeat walk_at "mn"
    refine w_var (he _) ?_
    repeat walk_at "mn"
    refine c_of (t := decide (c ∈ z.cps.toList)) rfl ?_
    have hm : (y.cps.toList.map fun c => decide (c ∈ z.cps.toList))[i]? = some (decide (c ∈ z.cps.toList)) := by rw [List.getElem?_map, hc]; rfl
    refine ⟨_, push_at hat (by rw [List.length_map, List.length_take]; exact Nat.lt_of_le_of_lt (Nat.min_le_left _ _) (Nat.lt_of_lt_of_le hi (by rw [hlen]; exact Nat.le_trans hl (by decide)))), ?_, ?_⟩
    · rw [at_set hat, take_next hm, List.map_append]; rfl
    · exact Ex.setNew hx hat rfl (Nat.le_refl _)
  · rintro S' ⟨hat, hx⟩
    refine ⟨by rw [hlen]; exact nxt_txt0, hq S' ?_ hx⟩
    rw [hat, List.take_of_length_le (by rw [List.length_map]; exact Nat.le_refl _)]
def figB (f : Str) : Bool := decide (1 ≤ f.length) && decide (f.length ≤ 30) && allIn f "0123456789"
def numB (i : Int) : Bool := (if decide (U.str (cutS (numT i) none (some 1)) = U.str "-") = true then figB (cutS (numT i) (some 1) none) else figB (numT i)) && decide (PySem.intText? (numT i) = some i) &&
  decide (32 ∉ (numT i).cps.toList ∧ 44 ∉ (numT i).cps.toList ∧ 47 ∉ (numT i).cps.toList)
theorem numsB : nums.all numB = true := by decide +kernel
theorem number_in_ok {S : Sto} {i : Int} (hi : i ∈ nums) : Ok (g_number_in [.str (numT i)] S) fun v S' => v = .int i ∧ Ex none' S S' := by
  have b := List.all_eq_true.mp numsB i hi
  have hl := (num_ok hi).1
  have hlog := (num_ok hi).2
  unfold numB at b
  simp only [Bool.and_eq_true, decide_eq_true_eq (p := PySem.intText? (numT i) = some i)] at b
  obtain ⟨⟨b1, b2⟩, -⟩ := b
  unfold g_number_in m_number_in
  cases hn : decide (U.str (cutS (numT i) none (some 1)) = U.str "-")
  all_goals
    rw [hn] at b1
    unfold figB at b1
    simp only [Bool.false_eq_true, if_false, if_true, Bool.and_eq_true, decide_eq_true_eq] at b1
    obtain ⟨⟨f1, f2⟩, f3⟩ := b1
    repeat walk_at "mn"
    refine ⟨1, rfl, ?_⟩
    refine w_cutS (Nat.le_trans hl (by decide)) ?_
    repeat walk_at "mn"
    refine c_eq rfl ?_
  · refine br_no hn ?_
    repeat walk_at "mn"
    refine len_str (Nat.le_trans f2 (by decide)) ?_
    repeat walk_at "mn"
    refine br_yes (decide_eq_true (by omega)) ?_
    repeat walk_at "mn"
    rw [decide_eq_true (show ((numT i).length : Int) ≤ 30 by omega)]
    refine br_no rfl ?_
    repeat walk_at "mn"
    refine lc_in (y := numT i) (fun u => rfl) ?_
    repeat walk_at "mn"
    refine ⟨_, rfl, rfl, by omega, ?_⟩
    intro S' hat hx
    repeat walk_at "mn"
    refine all_ok hat ?_
    repeat walk_at "mn"
    have f3' := f3
    unfold allIn at f3'
    rw [f3']
    refine br_no rfl ?_
    repeat walk_at "mn"
    refine int_str (by omega) b2 ?_
    repeat walk_at "mn"
    refine n_of (At.int hi).str_ok ?_
    repeat walk_at "mn"
    refine c_eq rfl (br_yes (decide_eq_true rfl) ?_)
    repeat walk_at "mn"
    exact int_str (by omega) b2 ⟨rfl, hx⟩
  · refine br_yes hn ?_
    repeat walk_at "mn"
    refine ⟨1, rfl, ?_⟩
    repeat walk_at "mn"
    refine w_cutS (Nat.le_trans hl (by decide)) ?_
    repeat walk_at "mn"
    refine len_str (Nat.le_trans f2 (by decide)) ?_
    repeat walk_at "mn"
    refine br_yes (decide_eq_true (by omega)) ?_
    repeat walk_at "mn"
    rw [decide_eq_true (show ((cutS (numT i) (some 1) none).length : Int) ≤ 30 by omega)]
    refine br_no rfl ?_
    repeat walk_at "mn"
    refine lc_in (y := cutS (numT i) (some 1) none) (fun u => rfl) ?_
    repeat walk_at "mn"
    refine ⟨_, rfl, rfl, by omega, ?_⟩
    intro S' hat hx
    repeat walk_at "mn"
    refine all_ok hat ?_
    repeat walk_at "mn"
    have f3' := f3
    unfold allIn at f3'
    rw [f3']
    refine br_no rfl ?_
    repeat walk_at "mn"
    refine int_str (by omega) b2 ?_
    repeat walk_at "mn"
    refine n_of (At.int hi).str_ok ?_
    repeat walk_at "mn"
    refine c_eq rfl (br_yes (decide_eq_true rfl) ?_)
    repeat walk_at "mn"
    exact int_str (by omega) b2 ⟨rfl, hx⟩
end Mn.D
set_option Elab.async false
set_option linter.all false
set_option maxRecDepth 100000
set_option maxHeartbeats 1000000
namespace Mn.D
open PySem PySem.Spec PyProof.Rows L2 Mn
local macro_rules | `(tactic| walk_at "mn") => `(tactic| first
  | with_reducible refine w_run ?_
  | with_reducible refine d_seq ?_
  | with_reducible refine d_nx ?_
  | with_reducible refine d_ret ?_
  | with_reducible refine d_exp ?_
  | with_reducible refine d_set ?_
  | with_reducible refine d_put ?_
  | with_reducible refine d_if ?_
  | with_reducible refine d_asg ?_
  | with_reducible refine w_c ?_
  | ((with_reducible refine' w_var ?mnE ?_); (case mnE => exact rfl))
  | with_reducible refine w_bin ?_
  | with_reducible refine w_add ?_
  | with_reducible refine w_subt ?_
  | ((with_reducible refine w_mul ?mnE ?_); (case mnE => omega))
  | ((with_reducible refine w_fdiv ?mnE ?_); (case mnE => omega))
  | ((with_reducible refine w_mod ?mnE ?_); (case mnE => omega))
  | ((with_reducible refine w_pow ?mnE ?_); (case mnE => decide))
  | with_reducible refine w_cmpT ?_
  | with_reducible refine w_chn ?_
  | with_reducible refine w_toB ?_
  | with_reducible refine w_tru ?_
  | with_reducible refine w_notT ?_
  | with_reducible refine w_andT ?_
  | with_reducible refine w_orT ?_
  | with_reducible refine w_and ?_
  | with_reducible refine w_or ?_
  | with_reducible refine w_sub ?_
  | with_reducible refine w_slc ?_
  | with_reducible refine w_onone ?_
  | with_reducible refine w_part ?_
  | with_reducible refine w_neg ?_
  | with_reducible refine w_jo ?_
  | with_reducible refine w_jnil ?_
  | with_reducible refine w_jcons ?_
  | with_reducible refine w_fmt ?_
  | with_reducible refine w_dnil ?_
  | with_reducible refine w_dcons ?_
  | with_reducible refine w_dict ?_
  | with_reducible refine w_val ?_
  | with_reducible refine w_rng1 ?_
  | with_reducible refine w_zip ?_
  | with_reducible refine w_kget ?_
  | with_reducible refine w_kin ?_
  | with_reducible refine w_nil ?_
  | with_reducible refine w_cons ?_
  | with_reducible refine w_tup ?_
  | with_reducible refine w_lst ?_
  | with_reducible refine w_nt ?_
  | with_reducible refine w_met ?_
  | with_reducible refine w_call ?_
  | with_reducible refine w_ife ?_
  | with_reducible refine w_ok ?_
  | with_reducible refine c_gt ?_
  | with_reducible refine c_lt ?_
  | with_reducible refine c_le ?_
  | with_reducible refine c_ge ?_
  | with_reducible refine t_bl ?_
  | with_reducible refine t_int ?_)

def keyB (x : Str) : Bool := decide (1 ≤ x.length) && decide (x.length ≤ 6) && allIn x "abcdefghijklmnopqrstuvwxyz" && decide (32 ∉ x.cps.toList ∧ 44 ∉ x.cps.toList ∧ 47 ∉ x.cps.toList)
theorem keysB : keysL.all keyB = true := by decide +kernel
theorem is_key_ok {S : Sto} {x : Str} (h : x ∈ keysL) : Ok (g_is_key [.str x] S) fun v S' => v = .bl true ∧ Ex none' S S' := by
  have b := List.all_eq_true.mp keysB x h
  unfold keyB at b
  simp only [Bool.and_eq_true, decide_eq_true_eq] at b
  obtain ⟨⟨⟨b1, b2⟩, b3⟩, -⟩ := b
  unfold g_is_key m_is_key
  repeat walk_at "mn"
  refine n_of (w := .bl true) rfl ?_
  repeat walk_at "mn"
  refine br_t ?_
  repeat walk_at "mn"
  refine len_str (Nat.le_trans b2 (by decide)) ?_
  repeat walk_at "mn"
  refine br_yes (decide_eq_true (by omega)) ?_
  repeat walk_at "mn"
  refine br_yes (decide_eq_true (by omega)) ?_
  repeat walk_at "mn"
  refine lc_in (y := x) (fun u => rfl) ?_
  repeat walk_at "mn"
  refine ⟨_, rfl, rfl, by omega, ?_⟩
  intro S' hat hx
  repeat walk_at "mn"
  exact all_ok hat ⟨congrArg U.bl b3, hx⟩
theorem key_in_ok {S : Sto} {x : Str} (h : x ∈ keysL) : Ok (g_key_in [.str x] S) fun v S' => v = .str x ∧ Ex none' S S' := by
  unfold g_key_in m_key_in
  repeat walk_at "mn"
  refine ⟨rfl, (is_key_ok h).mono ?_⟩
  rintro v S1 ⟨rfl, x1⟩
  repeat walk_at "mn"
  refine br_t ?_
  repeat walk_at "mn"
  exact ⟨rfl, x1⟩
theorem mode_in_ok {S : Sto} {x : Str} (h : x = "read" ∨ x = "write") : Ok (g_mode_in [.str x] S) fun v S' => v = .str x ∧ Ex none' S S' := by
  unfold g_mode_in m_mode_in
  repeat walk_at "mn"
  refine ⟨show (2 : Nat) ≤ LIM by decide, ?_⟩
  refine in_tup (t := true) (at_end _ _) (by rcases h with rfl | rfl <;> decide +kernel) (br_t ?_)
  repeat walk_at "mn"
  exact ⟨rfl, Ex.snoc _ _ _⟩
/-- a comprehension that changes nothing but what it makes -/
theorem lc_map {env : Ev} {S : Sto} {x : Nat} {m : Ev → Sto → Res U} {mi : Ev → Sto → Res Src} {ws : List Nat} {Q : U → Sto → Prop} {us vs : List U}
    (hl : us.length = vs.length) (hc : us.length ≤ 1000) (he : ∀ u, ((wipeE env ws).set x (some u))[x]? = some (some u))
    (hm : ∀ (i : Nat) (u v : U), us[i]? = some u → vs[i]? = some v → ∀ e S', e[x]? = some (some u) → Ok (m e S') fun w S'' => w = v ∧ Ex none' S' S'')
    (h : Ok (mi env S) fun s S1 => ∃ k, s = .lst k ∧ S1[k]? = some (.lst us) ∧ ∀ S', S'[S1.length]? = some (.lst vs) → Ex none' S1 S' → Q (.ref S1.length) S') :
    Ok (mLc mi (gNm x) (fun _ S => .ok true S) m ws env S) Q := by
  refine w_lc (h.mono fun s S1 ⟨k, es, hk, hq⟩ => ?_)
  subst es
  refine ⟨us.length, fun i S' => S'[S1.length]? = some (.lst (vs.take i)) ∧ Ex none' S1 S', by simp [turns, listAt, hk], ⟨at_end _ _, Ex.snoc _ _ _⟩, ?_, ?_⟩
  · rintro i S' hi ⟨hat, hx⟩
    obtain ⟨u, hu⟩ : ∃ u, us[i]? = some u := ⟨_, List.getElem?_eq_getElem hi⟩
    obtain ⟨v, hv⟩ : ∃ v, vs[i]? = some v := ⟨_, List.getElem?_eq_getElem (by omega)⟩
    refine ⟨_, _, _, _, nxt_lst (hx.at hk id) hu, rfl, true, S', rfl, fun q => (nomatch q), fun _ => ?_⟩
    refine (hm i u v hu hv _ S' (he _)).mono ?_
    rintro w S2 ⟨rfl, x2⟩
    have hat2 := x2.at hat id
    refine ⟨_, push_at hat2 (by rw [List.length_take]; exact Nat.lt_of_le_of_lt (Nat.min_le_left _ _) (Nat.lt_of_lt_of_le hi (Nat.le_trans hc (by decide)))), ?_, ?_⟩
    · rw [at_set hat2, take_next hv]
    · exact Ex.setNew (hx.then x2) hat2 rfl (Nat.le_refl _)
  · rintro S' ⟨hat, hx⟩
    refine ⟨nxt_lst0 (hx.at hk id), hq S' ?_ hx⟩
    rw [hat, List.take_of_length_le (by omega)]
theorem split_ok {Q : U → Sto → Prop} {S : Sto} {mark : Str} {c : Nat} {parts : List Str} (em : mark.cps.toList = [c]) (ec : c < 256) (hne : parts ≠ []) (hp : ∀ p ∈ parts, c ∉ p.cps.toList) (hl : (Txt.join mark parts).length + 2 ≤ LIM)
    (q : Q (.ref S.length) (S ++ [.lst (parts.map U.str)])) : On ntSplit [.str (Txt.join mark parts), .str mark] S Q := by
  have e := TL.split_join (y := mark) (s := c) (S := []) em (by rw [← Array.all_toList, em]; simp [ec]) hne hp
  have h1 : (mark.length == 0) = false := by
    have : mark.length = 1 := by rw [TL.len_tl]; show mark.cps.toList.length = 1; rw [em]; rfl
    rw [this]; rfl
  refine ⟨_, _, ?_, q⟩
  unfold ntSplit
  dsimp only
  rw [if_pos ⟨h1, hl⟩, e]
theorem in_lst {S : Sto} {k : Nat} {xs : List U} {u : U} {t : Bool} {T : Bool → Sto → Prop} (h : S[k]? = some (.lst xs)) (hf : flatU u = true ∧ xs.all flatU = true) (e : inV (v0 u) (xs.map v0) = t) (q : T t S) : Oc .In u (.ref k) S T :=
  ⟨t, (show opIn u (.ref k) S = some t from by cases u <;> simp only [opIn, h] <;> rw [if_pos hf, e]), q⟩
theorem ints_flat : ∀ is : List Int, (is.map U.int).all flatU = true
  | [] => rfl
  | i :: is => by show (true && _) = true; rw [Bool.true_and]; exact ints_flat is
theorem ints_none : ∀ is : List Int, inV .non ((is.map U.int).map v0) = false
  | [] => rfl
  | i :: is => by
    have := ints_none is
    unfold inV at this ⊢
    show (eqV (.int i) .non || _) = false
    rw [this]; rfl
theorem numbers_in_ok {S : Sto} {is : List Int} {mark : Str} {c : Nat} (em : mark.cps.toList = [c]) (ec : c = 44 ∨ c = 47) (h0 : 1 ≤ is.length) (h1 : is.length ≤ 4) (h : ∀ i ∈ is, i ∈ nums) :
    Ok (g_numbers_in [.str (Txt.join mark (is.map numT)), .str mark] S) fun v S' => ∃ k, v = .ref k ∧ S'[k]? = some (.tup (is.map .int)) ∧ Ex none' S S' := by
  have hm : mark.length = 1 := by rw [TL.len_tl]; show mark.cps.toList.length = 1; rw [em]; rfl
  have hsum : ∀ {is : List Int}, (∀ i ∈ is, i ∈ nums) → ((is.map numT).map (·.length)).sum ≤ 40 * is.length := by
    intro is
    induction is with
    | nil => intro _; exact Nat.le_refl _
    | cons i is ih =>
      intro h
      have a := (num_ok (h i (List.mem_cons_self ..))).1
      have b := ih fun j q => h j (List.mem_cons_of_mem _ q)
      simp only [List.map_cons, List.sum_cons, List.length_cons]
      omega
  have hl : (Txt.join mark (is.map numT)).length + 2 ≤ LIM := by
    have a := jlen mark (is.map numT)
    have b := hsum h
    rw [hm, List.length_map] at a
    exact Nat.le_trans (show _ ≤ 200 by omega) (by decide)
  unfold g_numbers_in m_numbers_in
  repeat walk_at "mn"
  refine lc_map (us := (is.map numT).map U.str) (vs := is.map U.int) (by simp) (by simp; omega) (fun u => rfl) ?_ ?_
  · intro i u v hu hv e S' he
    rw [List.map_map, List.getElem?_map] at hu
    rw [List.getElem?_map] at hv
    cases hi : is[i]? with
    | none => rw [hi] at hv; cases hv
    | some n =>
      rw [hi] at hu hv
      cases hu
      cases hv
      repeat walk_at "mn"
      refine w_var he ?_
      repeat walk_at "mn"
      exact ⟨rfl, number_in_ok (h n (List.mem_of_getElem? hi))⟩
  repeat walk_at "mn"
  refine ⟨rfl, ?_⟩
  repeat walk_at "mn"
  refine split_ok em (by omega) (fun e => by rw [List.map_eq_nil_iff] at e; rw [e] at h0; exact absurd h0 (by decide)) ?_ hl ?_
  · intro p hp
    obtain ⟨i, hi, rfl⟩ := List.mem_map.mp hp
    have b := List.all_eq_true.mp numsB i (h i hi)
    unfold numB at b
    simp only [Bool.and_eq_true, decide_eq_true_eq] at b
    rcases ec with rfl | rfl
    · exact b.2.2.1
    · exact b.2.2.2
  refine ⟨_, by simp only [srcOf, at_end], _, rfl, at_end _ _, ?_⟩
  intro S' hat hx
  repeat walk_at "mn"
  refine in_lst hat ⟨rfl, ints_flat is⟩ (ints_none is) (br_f ?_)
  repeat walk_at "mn"
  refine tup_lst hat ⟨_, rfl, at_end _ _, ((Ex.snoc none' S _).then hx).add _⟩
theorem worth_in_ok {S : Sto} {is : List Int} (h0 : 1 ≤ is.length) (h1 : is.length ≤ 4) (h : ∀ i ∈ is, i ∈ nums) :
    Ok (g_worth_in [.str (Txt.join "," (is.map numT))] S) fun v S' => ∃ k, v = .ref k ∧ S'[k]? = some (.tup (is.map .int)) ∧ Ex none' S S' := by
  unfold g_worth_in m_worth_in
  repeat walk_at "mn"
  refine ⟨rfl, (numbers_in_ok (c := 44) (by rfl) (.inl rfl) h0 h1 h).mono ?_⟩
  rintro v S1 ⟨k, rfl, hk, hx⟩
  repeat walk_at "mn"
  refine c_isNotN (br_yes rfl ?_)
  repeat walk_at "mn"
  refine len_tup hk ?_
  repeat walk_at "mn"
  refine br_yes (decide_eq_true (by rw [List.length_map]; omega)) ?_
  repeat walk_at "mn"
  exact ⟨_, rfl, hk, hx⟩
theorem pace_in_ok {S : Sto} {a b : Int} (ha : a ∈ nums) (hb : b ∈ nums) :
    Ok (g_pace_in [.str (Txt.join "/" [numT a, numT b])] S) fun v S' => ∃ k, v = .ref k ∧ S'[k]? = some (.tup [.int a, .int b]) ∧ Ex none' S S' := by
  unfold g_pace_in m_pace_in
  repeat walk_at "mn"
  refine ⟨rfl, (numbers_in_ok (is := [a, b]) (c := 47) (by rfl) (.inr rfl) (show 1 ≤ 2 by decide) (show 2 ≤ 4 by decide) (by intro i hi; simp at hi; rcases hi with rfl | rfl; exact ha; exact hb)).mono ?_⟩
  rintro v S1 ⟨k, rfl, hk, hx⟩
  repeat walk_at "mn"
  refine c_isNotN (br_yes rfl ?_)
  repeat walk_at "mn"
  refine len_tup hk ?_
  repeat walk_at "mn"
  refine c_eq rfl (br_yes (decide_eq_true rfl) ?_)
  repeat walk_at "mn"
  exact ⟨_, rfl, hk, hx⟩
end Mn.D
set_option Elab.async false
set_option linter.all false
set_option maxRecDepth 100000
set_option maxHeartbeats 1000000
namespace Mn.D
open PySem PySem.Spec PyProof.Rows L2 Mn
local macro_rules | `(tactic| walk_at "mn") => `(tactic| first
  | with_reducible refine w_run ?_
  | with_reducible refine d_seq ?_
  | with_reducible refine d_nx ?_
  | with_reducible refine d_ret ?_
  | with_reducible refine d_exp ?_
  | with_reducible refine d_set ?_
  | with_reducible refine d_put ?_
  | with_reducible refine d_if ?_
  | with_reducible refine d_asg ?_
  | with_reducible refine w_c ?_
  | ((with_reducible refine' w_var ?mnE ?_); (case mnE => exact rfl))
  | with_reducible refine w_bin ?_
  | with_reducible refine w_add ?_
  | with_reducible refine w_subt ?_
  | ((with_reducible refine w_mul ?mnE ?_); (case mnE => omega))
  | ((with_reducible refine w_fdiv ?mnE ?_); (case mnE => omega))
  | ((with_reducible refine w_mod ?mnE ?_); (case mnE => omega))
  | ((with_reducible refine w_pow ?mnE ?_); (case mnE => decide))
  | with_reducible refine w_cmpT ?_
  | with_reducible refine w_chn ?_
  | with_reducible refine w_toB ?_
  | with_reducible refine w_tru ?_
  | with_reducible refine w_notT ?_
  | with_reducible refine w_andT ?_
  | with_reducible refine w_orT ?_
  | with_reducible refine w_and ?_
  | with_reducible refine w_or ?_
  | with_reducible refine w_sub ?_
  | with_reducible refine w_slc ?_
  | with_reducible refine w_onone ?_
  | with_reducible refine w_part ?_
  | with_reducible refine w_neg ?_
  | with_reducible refine w_jo ?_
  | with_reducible refine w_jnil ?_
  | with_reducible refine w_jcons ?_
  | with_reducible refine w_fmt ?_
  | with_reducible refine w_dnil ?_
  | with_reducible refine w_dcons ?_
  | with_reducible refine w_dict ?_
  | with_reducible refine w_val ?_
  | with_reducible refine w_rng1 ?_
  | with_reducible refine w_zip ?_
  | with_reducible refine w_kget ?_
  | with_reducible refine w_kin ?_
  | with_reducible refine w_nil ?_
  | with_reducible refine w_cons ?_
  | with_reducible refine w_tup ?_
  | with_reducible refine w_lst ?_
  | with_reducible refine w_nt ?_
  | with_reducible refine w_met ?_
  | with_reducible refine w_call ?_
  | with_reducible refine w_ife ?_
  | with_reducible refine w_ok ?_
  | with_reducible refine c_gt ?_
  | with_reducible refine c_lt ?_
  | with_reducible refine c_le ?_
  | with_reducible refine c_ge ?_
  | with_reducible refine t_bl ?_
  | with_reducible refine t_int ?_)

theorem key_parts {x : Str} (h : x ∈ keysL) : 32 ∉ x.cps.toList ∧ 44 ∉ x.cps.toList ∧ 47 ∉ x.cps.toList := by
  have b := List.all_eq_true.mp keysB x h
  unfold keyB at b
  simp only [Bool.and_eq_true, decide_eq_true_eq] at b
  exact b.2
theorem num_parts {i : Int} (h : i ∈ nums) : 32 ∉ (numT i).cps.toList ∧ 44 ∉ (numT i).cps.toList ∧ 47 ∉ (numT i).cps.toList := by
  have b := List.all_eq_true.mp numsB i h
  unfold numB at b
  simp only [Bool.and_eq_true, decide_eq_true_eq] at b
  exact b.2
theorem keys_in_ok {S : Sto} {xs : List Str} (h0 : 1 ≤ xs.length) (h1 : xs.length ≤ 3) (h : ∀ i ∈ xs, i ∈ keysL) :
    Ok (g_keys_in [.str (Txt.join "," xs)] S) fun v S' => ∃ k, v = .ref k ∧ S'[k]? = some (.tup (xs.map .str)) ∧ Ex none' S S' := by
  have hsum : ∀ {is : List Str}, (∀ i ∈ is, i ∈ keysL) → (is.map (·.length)).sum ≤ 6 * is.length := by
    intro is
    induction is with
    | nil => intro _; exact Nat.le_refl _
    | cons i is ih =>
      intro h
      have a := key_ok (h i (List.mem_cons_self ..))
      have b := ih fun j q => h j (List.mem_cons_of_mem _ q)
      simp only [List.map_cons, List.sum_cons, List.length_cons]
      omega
  have hl : (Txt.join "," xs).length + 2 ≤ LIM := by
    have a := jlen "," xs
    have b := hsum h
    have e : ("," : Str).length = 1 := rfl
    rw [e] at a
    exact Nat.le_trans (show _ ≤ 200 by omega) (by decide)
  unfold g_keys_in m_keys_in
  repeat walk_at "mn"
  refine ⟨rfl, ?_⟩
  repeat walk_at "mn"
  refine split_ok (c := 44) (by rfl) (by decide) (fun e => by rw [e] at h0; exact absurd h0 (by decide)) (fun p hp => (key_parts (h p hp)).2.1) hl ?_
  repeat walk_at "mn"
  refine lc_map (us := xs.map U.str) (vs := (xs.map fun _ => true).map U.bl) (by simp) (by simp; omega) (fun u => rfl) ?_ ?_
  · intro i u v hu hv e S' he
    rw [List.map_map, List.getElem?_map] at hv
    rw [List.getElem?_map] at hu
    cases hi : xs[i]? with
    | none => rw [hi] at hu; cases hu
    | some n =>
      rw [hi] at hu hv
      cases hu
      cases hv
      repeat walk_at "mn"
      refine w_var he ?_
      repeat walk_at "mn"
      exact ⟨rfl, is_key_ok (h n (List.mem_of_getElem? hi))⟩
  repeat walk_at "mn"
  refine ⟨_, by simp only [srcOf, at_end], _, rfl, at_end _ _, ?_⟩
  intro S' hat hx
  repeat walk_at "mn"
  refine all_ok hat ?_
  repeat walk_at "mn"
  refine br_yes (by simp) ?_
  repeat walk_at "mn"
  refine tup_lst (hx.at (at_end S _) id) ⟨_, rfl, at_end _ _, ((Ex.snoc none' S _).then hx).add _⟩
/-- a thing's text is read back -/
theorem rd_ok {c : Nat} {d : PyData} (h : Th c d) : ∃ y g, kd_READERS.lookup (nameC c) = some (.fn y) ∧ C_read_deed.fn y = some (1, g) ∧ ∀ S, Ok (g [.str (txC c d)] S) fun v S' => Tv S' v d ∧ Ex none' S S' := by
  cases h with
  | n h => exact ⟨"number_in", g_number_in, by decide +kernel, by kernel_rfl, fun S => (number_in_ok h).mono fun v S' ⟨e, x⟩ => ⟨by rw [e]; exact .int _, x⟩⟩
  | k h => exact ⟨"key_in", g_key_in, by decide +kernel, by kernel_rfl, fun S => (key_in_ok h).mono fun v S' ⟨e, x⟩ => ⟨by rw [e]; exact .str _, x⟩⟩
  | m h => exact ⟨"mode_in", g_mode_in, by decide +kernel, by kernel_rfl, fun S => (mode_in_ok h).mono fun v S' ⟨e, x⟩ => ⟨by rw [e]; exact .str _, x⟩⟩
  | w h0 h1 h =>
    refine ⟨"worth_in", g_worth_in, by decide +kernel, by kernel_rfl, fun S => ?_⟩
    rename_i is
    have e : txC 119 (.tuple (is.map .int)) = Txt.join "," (is.map numT) := by
      show Txt.join "," ((is.map PyData.int).map one) = _
      rw [List.map_map]; rfl
    rw [e]
    exact (worth_in_ok h0 h1 h).mono fun v S' ⟨k, e, hk, x⟩ => ⟨by rw [e]; exact .tup hk (tvs_ints is), x⟩
  | p ha hb => exact ⟨"pace_in", g_pace_in, by decide +kernel, by kernel_rfl, fun S => (pace_in_ok ha hb).mono fun v S' ⟨k, e, hk, x⟩ => ⟨by rw [e]; exact .tup hk (.cons (.int _) (.cons (.int _) .nil)), x⟩⟩
  | s h0 h1 h =>
    refine ⟨"keys_in", g_keys_in, by decide +kernel, by kernel_rfl, fun S => ?_⟩
    rename_i xs
    have e : txC 115 (.tuple (xs.map .str)) = Txt.join "," xs := by
      show Txt.join "," ((xs.map PyData.str).map one) = _
      rw [List.map_map]
      show Txt.join "," (xs.map id) = _
      rw [List.map_id]
    rw [e]
    exact (keys_in_ok h0 h1 h).mono fun v S' ⟨k, e, hk, x⟩ => ⟨by rw [e]; exact .tup hk (tvs_strs xs), x⟩
theorem joinL_free {c : Nat} {y : Str} (hy : c ∉ y.cps.toList) : ∀ {xs : List Str}, (∀ x ∈ xs, c ∉ x.cps.toList) → c ∉ TL.joinL y.cps.toList (xs.map TL.tl)
  | [], _ => by simp [TL.joinL]
  | [x], h => h x (List.mem_cons_self ..)
  | x :: z :: r, h => by
    show c ∉ x.cps.toList ++ (y.cps.toList ++ TL.joinL y.cps.toList ((z :: r).map TL.tl))
    intro hm
    rcases List.mem_append.mp hm with q | q
    · exact h x (List.mem_cons_self ..) q
    · rcases List.mem_append.mp q with q | q
      · exact hy q
      · exact joinL_free hy (fun w hw => h w (List.mem_cons_of_mem _ hw)) q
theorem join_free {c : Nat} {y : Str} (hy : c ∉ y.cps.toList) {xs : List Str} (h : ∀ x ∈ xs, c ∉ x.cps.toList) : c ∉ (Txt.join y xs).cps.toList := by
  have e : (Txt.join y xs).cps.toList = TL.joinL y.cps.toList (xs.map TL.tl) := by rw [TL.join_eq]; exact TL.tl_join y xs
  rw [e]
  exact joinL_free hy h
theorem Th.free {c : Nat} {d : PyData} (h : Th c d) : 32 ∉ (txC c d).cps.toList := by
  cases h with
  | n h => exact (num_parts h).1
  | k h => exact (key_parts h).1
  | m h => rcases h with rfl | rfl <;> decide +kernel
  | w h0 h1 h =>
    refine join_free (by decide +kernel) fun x hx => ?_
    rw [List.map_map] at hx
    obtain ⟨i, hi, rfl⟩ := List.mem_map.mp hx
    exact (num_parts (h i hi)).1
  | p ha hb =>
    refine join_free (by decide +kernel) fun x hx => ?_
    simp only [List.map_cons, List.map_nil, List.mem_cons, List.not_mem_nil, or_false] at hx
    rcases hx with rfl | rfl
    · exact (num_parts ha).1
    · exact (num_parts hb).1
  | s h0 h1 h =>
    refine join_free (by decide +kernel) fun x hx => ?_
    rw [List.map_map] at hx
    obtain ⟨i, hi, rfl⟩ := List.mem_map.mp hx
    exact (key_parts (h i hi)).1
theorem txs_free : ∀ {cs : List Nat} {ds : List PyData}, Paired Th cs ds → ∀ x ∈ txs cs ds, 32 ∉ x.cps.toList
  | _, _, .nil, _, hx => by cases hx
  | _, _, .cons h t, x, hx => by
    rcases List.mem_cons.mp hx with rfl | q
    · exact h.free
    · exact txs_free t x q
theorem txs_at : ∀ {cs : List Nat} {ds : List PyData} {i c : Nat}, Paired Th cs ds → cs[i]? = some c → ∃ d, ds[i]? = some d ∧ Th c d ∧ (txs cs ds)[i]? = some (txC c d)
  | _, _, _, _, .nil, e => by simp at e
  | _, _, 0, _, .cons h _, e => by simp at e; subst e; exact ⟨_, rfl, h, rfl⟩
  | _, _, i + 1, _, .cons _ t, e => by
    obtain ⟨d, h1, h2, h3⟩ := txs_at (i := i) t (by simpa using e)
    exact ⟨d, by simpa using h1, h2, by simpa [txs] using h3⟩
theorem txs_len : ∀ {cs : List Nat} {ds : List PyData}, Paired Th cs ds → (txs cs ds).length = cs.length
  | _, _, .nil => rfl
  | _, _, .cons _ t => congrArg (· + 1) (txs_len t)
end Mn.D
set_option Elab.async false
set_option linter.all false
set_option maxRecDepth 100000
set_option maxHeartbeats 1000000
namespace Mn.D
open PySem PySem.Spec PyProof.Rows L2 Mn
local macro_rules | `(tactic| walk_at "mn") => `(tactic| first
  | with_reducible refine w_run ?_
  | with_reducible refine d_seq ?_
  | with_reducible refine d_nx ?_
  | with_reducible refine d_ret ?_
  | with_reducible refine d_exp ?_
  | with_reducible refine d_set ?_
  | with_reducible refine d_put ?_
  | with_reducible refine d_if ?_
  | with_reducible refine d_asg ?_
  | with_reducible refine w_c ?_
  | ((with_reducible refine' w_var ?mnE ?_); (case mnE => exact rfl))
  | with_reducible refine w_bin ?_
  | with_reducible refine w_add ?_
  | with_reducible refine w_subt ?_
  | ((with_reducible refine w_mul ?mnE ?_); (case mnE => omega))
  | ((with_reducible refine w_fdiv ?mnE ?_); (case mnE => omega))
  | ((with_reducible refine w_mod ?mnE ?_); (case mnE => omega))
  | ((with_reducible refine w_pow ?mnE ?_); (case mnE => decide))
  | with_reducible refine w_cmpT ?_
  | with_reducible refine w_chn ?_
  | with_reducible refine w_toB ?_
  | with_reducible refine w_tru ?_
  | with_reducible refine w_notT ?_
  | with_reducible refine w_andT ?_
  | with_reducible refine w_orT ?_
  | with_reducible refine w_and ?_
  | with_reducible refine w_or ?_
  | with_reducible refine w_sub ?_
  | with_reducible refine w_slc ?_
  | with_reducible refine w_onone ?_
  | with_reducible refine w_part ?_
  | with_reducible refine w_neg ?_
  | with_reducible refine w_jo ?_
  | with_reducible refine w_jnil ?_
  | with_reducible refine w_jcons ?_
  | with_reducible refine w_fmt ?_
  | with_reducible refine w_dnil ?_
  | with_reducible refine w_dcons ?_
  | with_reducible refine w_dict ?_
  | with_reducible refine w_val ?_
  | with_reducible refine w_rng1 ?_
  | with_reducible refine w_zip ?_
  | with_reducible refine w_kget ?_
  | with_reducible refine w_kin ?_
  | with_reducible refine w_nil ?_
  | with_reducible refine w_cons ?_
  | with_reducible refine w_tup ?_
  | with_reducible refine w_lst ?_
  | with_reducible refine w_nt ?_
  | with_reducible refine w_met ?_
  | with_reducible refine w_call ?_
  | with_reducible refine w_ife ?_
  | with_reducible refine w_ok ?_
  | with_reducible refine c_gt ?_
  | with_reducible refine c_lt ?_
  | with_reducible refine c_le ?_
  | with_reducible refine c_ge ?_
  | with_reducible refine t_bl ?_
  | with_reducible refine t_int ?_)

/-- what is plain about a thing -/
structure ThP (d : PyData) : Prop where
  lay : d.canLay0 = true
  dep : d.depth ≤ 2
  non : d ≠ .none
  show_ : d.showable = true
theorem ints_lay : ∀ is : List Int, PyData.canLayAll0 (is.map .int) = true ∧ PyData.depthAll (is.map .int) ≤ 1
  | [] => ⟨rfl, by decide⟩
  | i :: is => by
    obtain ⟨a, b⟩ := ints_lay is
    simp only [List.map_cons, PyData.canLayAll0, PyData.canLay0, PyData.depthAll, PyData.depth, a, Bool.and_self]
    exact ⟨trivial, by omega⟩
theorem ints_show : ∀ {is : List Int}, (∀ i ∈ is, i ∈ nums) → PyData.showableAll (is.map .int) = true
  | [], _ => rfl
  | i :: is, h => by
    have a := ints_show (is := is) fun j q => h j (List.mem_cons_of_mem _ q)
    have b := (num_ok (h i (List.mem_cons_self ..))).2
    simp only [List.map_cons, PyData.showableAll, PyData.showable, a, Bool.and_true]
    exact decide_eq_true b
theorem key_lay : keysL.all PySem.PyData.strOk = true := by decide +kernel
theorem strs_lay : ∀ {xs : List Str}, (∀ i ∈ xs, i ∈ keysL) → PyData.canLayAll0 (xs.map .str) = true ∧ PyData.depthAll (xs.map .str) ≤ 1 ∧ PyData.showableAll (xs.map .str) = true
  | [], _ => ⟨rfl, by decide, rfl⟩
  | x :: xs, h => by
    obtain ⟨a, b, c⟩ := strs_lay (xs := xs) fun j q => h j (List.mem_cons_of_mem _ q)
    have k := List.all_eq_true.mp key_lay x (h x (List.mem_cons_self ..))
    simp only [List.map_cons, PyData.canLayAll0, PyData.canLay0, PyData.depthAll, PyData.depth, PyData.showableAll, PyData.showable, a, c, k, Bool.and_self]
    exact ⟨trivial, by omega, trivial⟩
theorem Th.pl {c : Nat} {d : PyData} (h : Th c d) : ThP d := by
  cases h with
  | n h => exact ⟨by simp [PyData.canLay0], by simp [PyData.depth], fun e => (nomatch e), by simp only [PyData.showable]; exact decide_eq_true (num_ok h).2⟩
  | k h => exact ⟨by simp only [PyData.canLay0]; exact List.all_eq_true.mp key_lay _ h, by simp [PyData.depth], fun e => (nomatch e), by simp [PyData.showable]⟩
  | m h => exact ⟨by simp only [PyData.canLay0]; rcases h with rfl | rfl <;> decide +kernel, by simp [PyData.depth], fun e => (nomatch e), by simp [PyData.showable]⟩
  | w h0 h1 h =>
    rename_i is
    exact ⟨by simp only [PyData.canLay0]; exact (ints_lay _).1, by simp only [PyData.depth]; have := (ints_lay is).2; omega, fun e => (nomatch e), by simp only [PyData.showable]; exact ints_show h⟩
  | p ha hb =>
    rename_i a b
    have h : ∀ i ∈ [a, b], i ∈ nums := by intro i hi; simp at hi; rcases hi with rfl | rfl; exact ha; exact hb
    exact ⟨by simp only [PyData.canLay0]; exact (ints_lay [a, b]).1, by simp only [PyData.depth]; have := (ints_lay [a, b]).2; simp only [List.map_cons, List.map_nil] at this; omega, fun e => (nomatch e), by simp only [PyData.showable]; exact ints_show h⟩
  | s h0 h1 h => exact ⟨by simp only [PyData.canLay0]; exact (strs_lay h).1, by simp only [PyData.depth]; have := (strs_lay h).2.1; omega, fun e => (nomatch e), by simp only [PyData.showable]; exact (strs_lay h).2.2⟩
theorem ths_pl : ∀ {cs : List Nat} {ds : List PyData}, Paired Th cs ds → (∀ d ∈ ds, d ≠ .none) ∧ PyData.canLayAll0 ds = true ∧ PyData.depthAll ds ≤ 3 ∧ PyData.showableAll ds = true
  | _, _, .nil => ⟨fun _ h => (nomatch h), rfl, by decide, rfl⟩
  | _, _, .cons h t => by
    obtain ⟨a, b, c, e⟩ := ths_pl t
    have p := h.pl
    have := p.dep
    simp only [PyData.canLayAll0, PyData.depthAll, PyData.showableAll, b, e, p.lay, p.show_, Bool.and_self]
    refine ⟨fun d hd => ?_, trivial, by omega, trivial⟩
    rcases List.mem_cons.mp hd with rfl | q
    · exact p.non
    · exact a d q
theorem eqv_none {d : PyData} (h : d ≠ .none) : PyData.eqv d .none = false := by
  cases d with
  | none => exact absurd rfl h
  | bool b => simp [PyData.eqv]
  | int i => simp [PyData.eqv]
  | str x => simp [PyData.eqv]
  | list x => simp [PyData.eqv]
  | tuple x => simp [PyData.eqv]
  | dict x => simp [PyData.eqv]
theorem any_none : ∀ {ds : List PyData}, (∀ d ∈ ds, d ≠ .none) → (ds.any fun z => PyData.eqv z .none) = false
  | [], _ => rfl
  | d :: ds, h => by
    show (PyData.eqv d .none || _) = false
    rw [eqv_none (h d (List.mem_cons_self ..)), any_none fun z q => h z (List.mem_cons_of_mem _ q)]; rfl
theorem inV_none {S : Sto} : ∀ {us : List U} {ds : List PyData}, Tvs S us ds → (∀ d ∈ ds, d ≠ .none) → us.all flatU = true → inV .non (us.map v0) = false
  | _, _, .nil, _, _ => rfl
  | _, _, .cons (u := u) (us := us) h t, hn, hf => by
    rw [List.all_cons, Bool.and_eq_true] at hf
    have ih := inV_none t (fun z q => hn z (List.mem_cons_of_mem _ q)) hf.2
    unfold inV at ih ⊢
    show (eqV (v0 u) .non || _) = false
    have e : (List.map v0 us).any (fun y => eqV y V.non) = false := ih
    rw [e]
    cases h with
    | non => exact absurd rfl (hn _ (List.mem_cons_self ..))
    | bl b => rfl
    | int i => rfl
    | str x => rfl
    | tup e h => cases hf.1
theorem none_in {S : Sto} {k : Nat} {us : List U} {ds : List PyData} {cs : List Nat} {T : Bool → Sto → Prop} (h : S[k]? = some (.lst us)) (t : Tvs S us ds) (p : Paired Th cs ds) (q : T false S) : Oc .In .non (.ref k) S T := by
  obtain ⟨a, b, c, -⟩ := ths_pl p
  refine ⟨false, (show opIn .non (.ref k) S = some false from ?_), q⟩
  unfold opIn
  dsimp only
  rw [h]
  dsimp only
  by_cases hf : flatU .non = true ∧ us.all flatU = true
  · rw [if_pos hf]
    exact congrArg some (inV_none t a hf.2)
  · rw [if_neg hf]
    have e1 : dat 40 .non S = some .none := by unfold dat; rfl
    have e2 : dat 40 (.ref k) S = some (.list ds) := by
      unfold dat
      rw [h]
      dsimp only
      rw [t.dats (by omega)]
      rfl
    rw [e1, e2]
    dsimp only
    rw [if_pos ⟨rfl, by unfold SeqAt.shaped; rw [show (PyData.list ds).canLay0 = true from by simp only [PyData.canLay0]; exact b, Bool.true_and]; exact decide_eq_true (by simp only [PyData.depth]; omega)⟩]
    exact congrArg some (any_none a)
theorem read_deed_ok {S : Sto} {w : Str} {ds : List PyData} (wo : WordOk w) (hd : Paired Th (kof w).cps.toList ds) (hb : Bs S) (hl : (text w ds).length + 2 ≤ LIM) :
    Ok (g_read_deed [.str (text w ds)] S) fun v S' => ∃ k us, v = .ref k ∧ S'[k]? = some (.tup (.str w :: us)) ∧ Tvs S' us ds ∧ Ex none' S S' := by
  unfold g_read_deed m_read_deed
  repeat walk_at "mn"
  refine n_of (w := .bl true) rfl ?_
  repeat walk_at "mn"
  refine br_f ?_
  repeat walk_at "mn"
  refine ⟨rfl, ?_⟩
  repeat walk_at "mn"
  refine split_ok (c := 32) (by rfl) (by decide) (by simp) ?_ hl ?_
  · intro p hp
    rcases List.mem_cons.mp hp with rfl | q
    · exact wo.sp
    · exact txs_free hd p q
  have tl := txs_len hd
  have dl := paired_len hd
  have kl := wo.kl
  obtain ⟨j, fj, hj⟩ := wo.fo
  refine ⟨_, _, star_okL (at_end S _), ?_⟩
  have x2 : Ex none' S (S ++ [.lst ((w :: txs (kof w).cps.toList ds).map U.str)] ++ [.lst ((txs (kof w).cps.toList ds).map U.str)]) := (Ex.snoc none' S _).add _
  have u2 := at_end (S ++ [.lst ((w :: txs (kof w).cps.toList ds).map U.str)]) (.lst ((txs (kof w).cps.toList ds).map U.str))
  show Do _ _ _ _ _
  generalize (S ++ [O.lst (List.map U.str (w :: txs (kof w).cps.toList ds))]).length = W at u2 ⊢
  generalize S ++ [O.lst (List.map U.str (w :: txs (kof w).cps.toList ds))] ++ [O.lst (List.map U.str (txs (kof w).cps.toList ds))] = S2 at x2 u2 ⊢
  have f2 := x2.tup _ _ (hb j _ hj)
  repeat walk_at "mn"
  refine ⟨w, rfl, ?_⟩
  rw [fj]
  refine br_no rfl ?_
  repeat walk_at "mn"
  refine len_lst u2 ?_
  repeat walk_at "mn"
  refine ⟨w, _, rfl, fj, ?_⟩
  repeat walk_at "mn"
  refine len_tup f2 ?_
  repeat walk_at "mn"
  refine c_ne rfl (br_no (by rw [List.length_map, List.length_map, tl]; simp) ?_)
  repeat walk_at "mn"
  refine ⟨show (0 : Nat) ≤ LIM by decide, ?_⟩
  refine d_seq (d_for ?_)
  repeat walk_at "mn"
  refine ⟨w, _, rfl, fj, ?_⟩
  repeat walk_at "mn"
  have f3 := (Ex.snoc none' S2 (.lst [])).tup _ _ f2
  have u3 := (Ex.snoc none' S2 (.lst [])).at u2 id
  refine ⟨_, _, .tp j, .ls W, rfl, by simp only [legOf, f3], by simp only [legOf, u3], ?_⟩
  refine ⟨(kof w).cps.toList.length, fun i e S' => ∃ a3 a4 a5, e = [some (.str (text w ds)), some (.ref S2.length), some (.str w), a3, a4, a5, some (.ref W)] ∧ ∃ us, us.length = i ∧ S'[S2.length]? = some (.lst us) ∧ Tvs S' us (ds.take i) ∧ Ex none' S2 S', by simp [turns, legU, tupAt, f3], ⟨_, _, _, rfl, [], rfl, at_end _ _, .nil, Ex.snoc none' S2 _⟩, ?_, ?_⟩
  · rintro i e S' hi ⟨a3, a4, a5, rfl, us, hul, hat, htv, hx⟩
    obtain ⟨c, hc⟩ : ∃ c, (kof w).cps.toList[i]? = some c := ⟨_, List.getElem?_eq_getElem hi⟩
    obtain ⟨d, hdi, hth, htx⟩ := txs_at hd hc
    obtain ⟨y, g, ey, eg, hg⟩ := rd_ok hth
    refine ⟨_, _, _, _, nxt_zip (xs := (kof w).cps.toList.map fun c => .str (nameC c)) (ys := (txs (kof w).cps.toList ds).map U.str) (by simp only [legU, tupAt, hx.tup _ _ f2]) (by simp only [legU, listAt, hx.at u2 id]) (by rw [List.getElem?_map, hc]; rfl) (by rw [List.getElem?_map, htx]; rfl), tg_two, ?_⟩
    repeat walk_at "mn"
    refine ⟨_, _, rfl, ey, ?_⟩
    have x3 : Ex none' S' (S' ++ [.tup [.str (nameC c), .str (txC c d)]]) := Ex.snoc none' S' _
    have hat3 := x3.at hat id
    repeat walk_at "mn"
    refine ⟨ty_lst hat3, ?_⟩
    repeat walk_at "mn"
    refine w_callV rfl eg ?_
    repeat walk_at "mn"
    refine ⟨rfl, (hg _).mono ?_⟩
    rintro v S4 ⟨hv, x4⟩
    repeat walk_at "mn"
    have hat4 := x4.at hat3 id
    refine app_ok hat4 (by rw [hul]; exact Nat.lt_of_lt_of_le hi (Nat.le_trans kl (by decide))) ?_
    have e5 : Ex (one' S2.length) S4 (S4.set S2.length (.lst (us ++ [v]))) := Ex.set hat4 rfl rfl
    exact ⟨_, _, _, rfl, us ++ [v], by simp [hul], at_set hat4, by rw [take_next hdi]; exact (((htv.up x3).up x4).up e5).app (.cons (hv.up e5) .nil), Ex.setNew ((hx.then x3).then x4) hat4 rfl (Nat.le_refl _)⟩
  · rintro e S' ⟨a3, a4, a5, rfl, us, hul, hat, htv, hx⟩
    refine ⟨by have := @nxt_zip0 S' (.tp j) (.ls W) true ((kof w).cps.toList.map fun c => .str (nameC c)) ((txs (kof w).cps.toList ds).map U.str) (by simp only [legU, tupAt, hx.tup _ _ f2]) (by simp only [legU, listAt, hx.at u2 id]) (by rw [List.length_map, List.length_map, tl]); rw [List.length_map] at this; exact this, ?_⟩
    rw [dl, List.take_length] at htv
    repeat walk_at "mn"
    refine none_in hat htv hd (br_f ?_)
    repeat walk_at "mn"
    refine ⟨show (1 : Nat) ≤ LIM by decide, ?_⟩
    repeat walk_at "mn"
    refine tup_lst ((Ex.snoc none' S' _).at hat id) ?_
    have xa : Ex none' S' (S' ++ [.tup [.str w]] ++ [.tup us]) := (Ex.snoc none' S' _).add _
    refine w_catT ((Ex.snoc none' (S' ++ [.tup [.str w]]) (.tup us)).tup _ _ (at_end S' _)) (at_end _ _) ?_ (by simp) ?_ ?_
    · exact Nat.le_trans (show _ ≤ 20 by simp only [List.length_cons, List.length_nil]; omega) (by decide)
    · intro he
      subst he
      exact ⟨_, [], rfl, (Ex.snoc none' (S' ++ [.tup [.str w]]) (.tup [])).tup _ _ (at_end S' _), htv.up xa, (x2.then hx).then xa⟩
    · exact ⟨_, us, rfl, at_end _ _, (htv.up xa).up (Ex.snoc none' _ _), ((x2.then hx).then xa).add _⟩
end Mn.D
set_option Elab.async false
set_option linter.all false
set_option maxRecDepth 100000
set_option maxHeartbeats 1000000
namespace Mn.D
open PySem PySem.Spec PyProof.Rows L2 Mn
local macro_rules | `(tactic| walk_at "mn") => `(tactic| first
  | with_reducible refine w_run ?_
  | with_reducible refine d_seq ?_
  | with_reducible refine d_nx ?_
  | with_reducible refine d_ret ?_
  | with_reducible refine d_exp ?_
  | with_reducible refine d_set ?_
  | with_reducible refine d_put ?_
  | with_reducible refine d_if ?_
  | with_reducible refine d_asg ?_
  | with_reducible refine w_c ?_
  | ((with_reducible refine' w_var ?mnE ?_); (case mnE => exact rfl))
  | with_reducible refine w_bin ?_
  | with_reducible refine w_add ?_
  | with_reducible refine w_subt ?_
  | ((with_reducible refine w_mul ?mnE ?_); (case mnE => omega))
  | ((with_reducible refine w_fdiv ?mnE ?_); (case mnE => omega))
  | ((with_reducible refine w_mod ?mnE ?_); (case mnE => omega))
  | ((with_reducible refine w_pow ?mnE ?_); (case mnE => decide))
  | with_reducible refine w_cmpT ?_
  | with_reducible refine w_chn ?_
  | with_reducible refine w_toB ?_
  | with_reducible refine w_tru ?_
  | with_reducible refine w_notT ?_
  | with_reducible refine w_andT ?_
  | with_reducible refine w_orT ?_
  | with_reducible refine w_and ?_
  | with_reducible refine w_or ?_
  | with_reducible refine w_sub ?_
  | with_reducible refine w_slc ?_
  | with_reducible refine w_onone ?_
  | with_reducible refine w_part ?_
  | with_reducible refine w_neg ?_
  | with_reducible refine w_jo ?_
  | with_reducible refine w_jnil ?_
  | with_reducible refine w_jcons ?_
  | with_reducible refine w_fmt ?_
  | with_reducible refine w_dnil ?_
  | with_reducible refine w_dcons ?_
  | with_reducible refine w_dict ?_
  | with_reducible refine w_val ?_
  | with_reducible refine w_rng1 ?_
  | with_reducible refine w_zip ?_
  | with_reducible refine w_kget ?_
  | with_reducible refine w_kin ?_
  | with_reducible refine w_nil ?_
  | with_reducible refine w_cons ?_
  | with_reducible refine w_tup ?_
  | with_reducible refine w_lst ?_
  | with_reducible refine w_nt ?_
  | with_reducible refine w_met ?_
  | with_reducible refine w_call ?_
  | with_reducible refine w_ife ?_
  | with_reducible refine w_ok ?_
  | with_reducible refine c_gt ?_
  | with_reducible refine c_lt ?_
  | with_reducible refine c_le ?_
  | with_reducible refine c_ge ?_
  | with_reducible refine t_bl ?_
  | with_reducible refine t_int ?_)

theorem tupT_len (ts : List Str) : (tupleText ts).length ≤ (ts.map (·.length)).sum + ts.length * 2 + 3 := by
  have h := StrLaws.join_length_le ", " ts
  have e : (", " : Str).length = 2 := rfl
  rw [e] at h
  unfold tupleText
  rw [app_len, app_len]
  have e1 : ("(" : Str).length = 1 := rfl
  have e2 : (Str.ofString (if ts.length == 1 then ",)" else ")" : String)).length ≤ 2 := by split <;> decide
  have e2 : ((if ts.length == 1 then ",)" else ")" : String) : Str).length ≤ 2 := e2
  omega
theorem rep_b : (keysL ++ [("write" : Str)] ++ words).all (fun x => decide ((reprText x).length ≤ 100)) = true := by decide +kernel
theorem rep_len {x : Str} (h : x ∈ keysL ++ [("write" : Str)] ++ words) : (reprText x).length ≤ 100 := of_decide_eq_true (List.all_eq_true.mp rep_b x h)
theorem ints_shown : ∀ {is : List Int}, (∀ i ∈ is, i ∈ nums) → ((PyData.shownAll (is.map .int)).map (·.length)).sum ≤ 40 * is.length ∧ (PyData.shownAll (is.map .int)).length = is.length
  | [], _ => ⟨Nat.le_refl _, rfl⟩
  | i :: is, h => by
    obtain ⟨a, b⟩ := ints_shown (is := is) fun j q => h j (List.mem_cons_of_mem _ q)
    have c : (numT i).length ≤ 40 := (num_ok (h i (List.mem_cons_self ..))).1
    have d : (PyData.int i).shown = numT i := by simp only [PyData.shown]; rfl
    simp only [List.map_cons, PyData.shownAll, List.sum_cons, List.length_cons, b, d]
    exact ⟨by omega, trivial⟩
theorem strs_shown : ∀ {is : List Str}, (∀ i ∈ is, i ∈ keysL) → ((PyData.shownAll (is.map .str)).map (·.length)).sum ≤ 100 * is.length ∧ (PyData.shownAll (is.map .str)).length = is.length
  | [], _ => ⟨Nat.le_refl _, rfl⟩
  | i :: is, h => by
    obtain ⟨a, b⟩ := strs_shown (is := is) fun j q => h j (List.mem_cons_of_mem _ q)
    have c := rep_len (List.mem_append_left words (List.mem_append_left [("write" : Str)] (h i (List.mem_cons_self ..))))
    have d : (PyData.str i).shown = reprText i := by simp only [PyData.shown]
    simp only [List.map_cons, PyData.shownAll, List.sum_cons, List.length_cons, b, d]
    exact ⟨by omega, trivial⟩
theorem Th.slen {c : Nat} {d : PyData} (h : Th c d) : d.shown.length ≤ 400 := by
  cases h with
  | n h => simp only [PyData.shown]; exact Nat.le_trans (num_ok h).1 (by decide)
  | k h => simp only [PyData.shown]; exact Nat.le_trans (rep_len (List.mem_append_left words (List.mem_append_left [("write" : Str)] h))) (by decide)
  | m h => simp only [PyData.shown]; exact Nat.le_trans (rep_len (by rcases h with rfl | rfl; exact List.mem_append_left _ (List.mem_append_left _ (by decide)); exact List.mem_append_left _ (List.mem_append_right _ (by decide)))) (by decide)
  | w h0 h1 h =>
    rename_i is
    simp only [PyData.shown]
    have a := tupT_len (PyData.shownAll (is.map .int))
    obtain ⟨b, c⟩ := ints_shown h
    omega
  | p ha hb =>
    rename_i x y
    have h : ∀ i ∈ [x, y], i ∈ nums := by intro i hi; simp at hi; rcases hi with rfl | rfl; exact ha; exact hb
    simp only [PyData.shown]
    have a := tupT_len (PyData.shownAll ([x, y].map .int))
    obtain ⟨b, c⟩ := ints_shown h
    have e : [x, y].length = 2 := rfl
    rw [e] at b c
    exact Nat.le_trans a (by omega)
  | s h0 h1 h =>
    rename_i is
    simp only [PyData.shown]
    have a := tupT_len (PyData.shownAll (is.map .str))
    obtain ⟨b, c⟩ := strs_shown h
    omega
theorem ths_shown : ∀ {cs : List Nat} {ds : List PyData}, Paired Th cs ds → ((PyData.shownAll ds).map (·.length)).sum ≤ 400 * cs.length ∧ (PyData.shownAll ds).length = cs.length
  | _, _, .nil => ⟨Nat.le_refl _, rfl⟩
  | _, _, .cons h t => by
    obtain ⟨a, b⟩ := ths_shown t
    have c := h.slen
    simp only [PyData.shownAll, List.map_cons, List.sum_cons, List.length_cons, b]
    exact ⟨by omega, trivial⟩
/-- a drawn deed stands at k -/
structure Dd (S : Sto) (k : Nat) (w : Str) (ds : List PyData) : Prop where
  ww : w ∈ words
  th : Paired Th (kof w).cps.toList ds
  at_ : ∃ us, S[k]? = some (.tup (.str w :: us)) ∧ Tvs S us ds
theorem Dd.up {J : Nat → Prop} {S S' : Sto} {k : Nat} {w : Str} {ds : List PyData} (x : Ex J S S') (h : Dd S k w ds) : Dd S' k w ds :=
  let ⟨us, a, b⟩ := h.at_
  ⟨h.ww, h.th, us, x.tup _ _ a, b.up x⟩
theorem Dd.deed {S : Sto} {k : Nat} {w : Str} {ds : List PyData} (h : Dd S k w ds) : ∃ us, Deed S k w us ds :=
  let ⟨us, a, b⟩ := h.at_
  ⟨us, a, word_ok h.ww, sds_of h.th b⟩
theorem Dd.repr {Q : U → Sto → Prop} {S : Sto} {k : Nat} {w : Str} {ds : List PyData} (h : Dd S k w ds) (q : Q (.str (PyData.tuple (.str w :: ds)).shown) S) : On ntRepr [.ref k] S Q := by
  obtain ⟨us, a, b⟩ := h.at_
  obtain ⟨p1, p2, p3, p4⟩ := ths_pl h.th
  have e : dat 40 (.ref k) S = some (.tuple (.str w :: ds)) := Tv.dat (.tup a (.cons (.str w) b)) (by simp only [PyData.depth, PyData.depthAll]; omega)
  refine ⟨_, _, ?_, q⟩
  unfold ntRepr
  dsimp only
  rw [e]
  dsimp only
  refine if_pos ⟨?_, ?_⟩
  · simp only [PyData.showable, PyData.showableAll, p4, Bool.and_self]
  · obtain ⟨a, b⟩ := ths_shown h.th
    have c := rep_len (List.mem_append_right (keysL ++ [("write" : Str)]) h.ww)
    have kl := (word_ok h.ww).kl
    have t := tupT_len (PyData.shownAll (.str w :: ds))
    simp only [PyData.shownAll, List.map_cons, List.sum_cons, List.length_cons, b, PyData.shown] at t
    simp only [PyData.shown, PyData.shownAll]
    exact Nat.le_trans (show _ ≤ 5000 by omega) (by decide)
theorem right_ok {S : Sto} {k : Nat} {w : Str} {ds : List PyData} (h : Dd S k w ds) (hb : Bs S) : Ok (g__law_right [.ref k] S) fun v S' => v = .bl true ∧ Ex none' S S' := by
  obtain ⟨us, hD⟩ := h.deed
  have hl : (text w ds).length + 2 ≤ LIM := by
    have a := text_len hD
    have b := jlen " " (w :: txs (kof w).cps.toList ds)
    exact Nat.le_trans (Nat.add_le_add_right (Nat.le_trans b a) 2) (by decide)
  unfold g__law_right m__law_right
  repeat walk_at "mn"
  refine ⟨rfl, (text_ok hD).mono ?_⟩
  rintro v S1 ⟨rfl, x1⟩
  have h1 := h.up x1
  repeat walk_at "mn"
  refine h1.repr ?_
  repeat walk_at "mn"
  obtain ⟨us1, hD1⟩ := h1.deed
  refine ⟨rfl, (shown_deed_ok hD1 (hb.up x1)).mono ?_⟩
  rintro v S2 ⟨rfl, x2⟩
  have X2 := x1.then x2
  repeat walk_at "mn"
  refine c_ne rfl (br_no (by simp) ?_)
  repeat walk_at "mn"
  refine ⟨rfl, (read_deed_ok (word_ok h.ww) h.th (hb.up X2) hl).mono ?_⟩
  rintro v S3 ⟨k3, us3, rfl, a3, t3, x3⟩
  have h3 : Dd S3 k3 w ds := ⟨h.ww, h.th, us3, a3, t3⟩
  have X3 := X2.then x3
  repeat walk_at "mn"
  refine h3.repr ?_
  repeat walk_at "mn"
  refine c_ne rfl (br_no (by simp) ?_)
  repeat walk_at "mn"
  refine (h.up X3).repr ?_
  repeat walk_at "mn"
  refine c_ne rfl (br_no (by simp) ?_)
  repeat walk_at "mn"
  refine ⟨rfl, (read_deed_ok (word_ok h.ww) h.th (hb.up X3) hl).mono ?_⟩
  rintro v S4 ⟨k4, us4, rfl, a4, t4, x4⟩
  have h4 : Dd S4 k4 w ds := ⟨h.ww, h.th, us4, a4, t4⟩
  have X4 := X3.then x4
  repeat walk_at "mn"
  obtain ⟨us5, hD4⟩ := h4.deed
  refine ⟨rfl, (shown_deed_ok hD4 (hb.up X4)).mono ?_⟩
  rintro v S5 ⟨rfl, x5⟩
  repeat walk_at "mn"
  refine c_eq rfl ?_
  exact ⟨by simp, X4.then x5⟩
end Mn.D
set_option Elab.async false
set_option linter.all false
set_option maxRecDepth 100000
set_option maxHeartbeats 1000000
namespace Mn.D
open PySem PySem.Spec PyProof.Rows L2 Mn
local macro_rules | `(tactic| walk_at "mn") => `(tactic| first
  | with_reducible refine w_run ?_
  | with_reducible refine d_seq ?_
  | with_reducible refine d_nx ?_
  | with_reducible refine d_ret ?_
  | with_reducible refine d_exp ?_
  | with_reducible refine d_set ?_
  | with_reducible refine d_put ?_
  | with_reducible refine d_if ?_
  | with_reducible refine d_asg ?_
  | with_reducible refine w_c ?_
  | ((with_reducible refine' w_var ?mnE ?_); (case mnE => exact rfl))
  | with_reducible refine w_bin ?_
  | with_reducible refine w_add ?_
  | with_reducible refine w_subt ?_
  | ((with_reducible refine w_mul ?mnE ?_); (case mnE => omega))
  | ((with_reducible refine w_fdiv ?mnE ?_); (case mnE => omega))
  | ((with_reducible refine w_mod ?mnE ?_); (case mnE => omega))
  | ((with_reducible refine w_pow ?mnE ?_); (case mnE => decide))
  | with_reducible refine w_cmpT ?_
  | with_reducible refine w_chn ?_
  | with_reducible refine w_toB ?_
  | with_reducible refine w_tru ?_
  | with_reducible refine w_notT ?_
  | with_reducible refine w_andT ?_
  | with_reducible refine w_orT ?_
  | with_reducible refine w_and ?_
  | with_reducible refine w_or ?_
  | with_reducible refine w_sub ?_
  | with_reducible refine w_slc ?_
  | with_reducible refine w_onone ?_
  | with_reducible refine w_part ?_
  | with_reducible refine w_neg ?_
  | with_reducible refine w_jo ?_
  | with_reducible refine w_jnil ?_
  | with_reducible refine w_jcons ?_
  | with_reducible refine w_fmt ?_
  | with_reducible refine w_dnil ?_
  | with_reducible refine w_dcons ?_
  | with_reducible refine w_dict ?_
  | with_reducible refine w_val ?_
  | with_reducible refine w_rng1 ?_
  | with_reducible refine w_zip ?_
  | with_reducible refine w_kget ?_
  | with_reducible refine w_kin ?_
  | with_reducible refine w_nil ?_
  | with_reducible refine w_cons ?_
  | with_reducible refine w_tup ?_
  | with_reducible refine w_lst ?_
  | with_reducible refine w_nt ?_
  | with_reducible refine w_met ?_
  | with_reducible refine w_call ?_
  | with_reducible refine w_ife ?_
  | with_reducible refine w_ok ?_
  | with_reducible refine c_gt ?_
  | with_reducible refine c_lt ?_
  | with_reducible refine c_le ?_
  | with_reducible refine c_ge ?_
  | with_reducible refine t_bl ?_
  | with_reducible refine t_int ?_)

theorem sort_ok {Q : U → Sto → Prop} {S : Sto} {D : Nat} (h : S[D]? = some (.dct KD)) (q : Q (.ref S.length) (S ++ [.lst (words.map U.str)])) : On (orN ntSortD ntSortS) [.ref D] S Q := by
  refine ⟨_, _, ?_, q⟩
  have e : ntSortD [.ref D] S = some (.ref S.length, S ++ [.lst (words.map U.str)]) := by
    unfold ntSortD
    dsimp only
    rw [h]
    dsimp only
    rw [key_kxs]
    dsimp only
    exact if_pos (by decide +kernel)
  show orN ntSortD ntSortS _ _ = _
  unfold orN
  rw [e]
theorem at_words {d : Int} (h0 : 0 ≤ d) (h1 : d < 27) : ∃ w, w ∈ words ∧ L2.atI (words.map U.str) d = some (.str w) := by
  have hl : d.toNat < words.length := by rw [words_n]; omega
  refine ⟨words[d.toNat], List.getElem_mem hl, ?_⟩
  unfold L2.atI L2.ixN
  rw [if_pos h0, if_pos (by rw [List.length_map, words_n]; omega)]
  show (words.map U.str)[d.toNat]? = _
  rw [List.getElem?_map, List.getElem?_eq_getElem hl]
  rfl
theorem with_word {S : Sto} {j L : Nat} {u : U} {w : Str} {ds : List PyData} {R : U → Sto → Prop} (hw : w ∈ words) (hl : S[L]? = some (.tup [.str w])) (th : Paired Th (kof w).cps.toList ds) (t : Tv S u (.tuple ds)) (hd : Dr S j)
    (q : ∀ k S', Dd S' k w ds → Ex none' S S' → Dr S' j → R (.ref k) S') : Ok (opB .Add (.ref L) u S) R := by
  cases t with
  | tup e h =>
    have kl := (word_ok hw).kl
    have dl := paired_len th
    have ul := h.len
    refine w_catT hl e (Nat.le_trans (show _ ≤ 20 by simp only [List.length_cons, List.length_nil]; omega) (by decide)) (by simp) ?_ ?_
    · intro he
      subst he
      exact q _ _ ⟨hw, th, [], hl, h⟩ (Ex.refl _ _) hd
    · exact q _ _ ⟨hw, th, _, at_end _ _, h.up (Ex.snoc none' _ _)⟩ (Ex.snoc none' _ _) (hd.add _)
theorem drawn_ok {S : Sto} {j : Nat} (h : Dr S j) : Ok (g__law_drawn [.ref j] S) fun u S' => ∃ k w ds, u = .ref k ∧ Dd S' k w ds ∧ Dx j S S' ∧ Dr S' j := by
  unfold g__law_drawn m__law_drawn
  repeat walk_at "mn"
  refine (kinds_ok S).mono ?_
  rintro v S1 ⟨D, rfl, hDl, hD, x1⟩
  repeat walk_at "mn"
  refine sort_ok hD ?_
  have x2 : Ex none' S (S1 ++ [.lst (words.map U.str)]) := x1.add _
  have l2 := at_end S1 (.lst (words.map U.str))
  have h2 := h.up x2 id
  have hj := h.lt
  have hL := x1.len
  show Do _ _ _ _ _
  generalize S1.length = L at l2 hL ⊢
  generalize S1 ++ [O.lst (words.map U.str)] = S2 at x2 l2 h2 ⊢
  repeat walk_at "mn"
  refine len_lst l2 ?_
  have e27 : ((words.map U.str).length : Int) = 27 := by rw [List.length_map, words_n]; rfl
  rw [e27]
  repeat walk_at "mn"
  refine ⟨rfl, (take_ok h2 (by decide) (by decide)).mono ?_⟩
  rintro u S3 ⟨d, rfl, d0, d1, x3, h3⟩
  obtain ⟨w, hw, ew⟩ := at_words d0 d1
  refine i_lst (x3.at l2 (fun e => by have e : L = j := e; omega)) ew ?_
  repeat walk_at "mn"
  refine ⟨show (1 : Nat) ≤ LIM by decide, ?_⟩
  repeat walk_at "mn"
  refine (kinds_ok _).mono ?_
  rintro v S4 ⟨D', rfl, hDl', hD', x4⟩
  repeat walk_at "mn"
  refine i_dct hD' rfl (word_ok hw).kd ?_
  repeat walk_at "mn"
  have h4 := (h3.add (.tup [.str w])).up x4 id
  refine ⟨rfl, (things_ok h4 (word_ok hw).ks (Nat.le_trans (word_ok hw).kl (by decide))).mono ?_⟩
  rintro u S5 ⟨ds, t, th, x5, h5⟩
  refine with_word hw (x5.tup _ _ (x4.tup _ _ (at_end S3 _))) th t h5 ?_
  intro k S6 hdd x6 h6
  exact ⟨k, w, ds, rfl, hdd, (((((Ex.of x2).then x3).add _).pure x4).then x5).pure x6, h6⟩
theorem law_ok {S : Sto} {b : Nat} {ns : List Int} (h : S[b]? = some (.scr (ns.map U.int))) (hn : ns.length ≤ 63) (hb : Bs S) : Ok (g_law [.ref b] S) fun v S' => v = .bl true := by
  unfold g_law m_law
  refine w_run (d_seq (d_rng (w_rng1 ?_)))
  repeat walk_at "mn"
  refine n_of (w := .int ns.length) (by simp only [ntLen, lenU, h]; rw [List.length_map]; rfl) ?_
  repeat walk_at "mn"
  refine n_of (by rfl) ?_
  repeat walk_at "mn"
  refine n_of (by rfl) ?_
  repeat walk_at "mn"
  generalize hN : (if (if (ns.length : Int) < 40 then (ns.length : Int) else 40) > 1 then (if (ns.length : Int) < 40 then (ns.length : Int) else 40) else 1) = N
  have hN1 : 1 ≤ N ∧ N ≤ 40 := by
    subst hN
    split <;> split <;> omega
  refine ⟨N, rfl, by omega, 0, N.toNat, fun i e S' => ∃ a1 a2 a3, e = [some (.ref b), a1, a2, a3] ∧ Ex none' S S', rfl, ⟨_, _, _, rfl, Ex.refl _ _⟩, ?_, ?_⟩
  · rintro i e S' hi ⟨a1, a2, a3, rfl, hx⟩
    refine ⟨_, _, rfl, ?_⟩
    repeat walk_at "mn"
    refine ⟨rfl, (begun_ok (hx.scr _ _ h) hn (by omega) (by omega)).mono ?_⟩
    rintro v S1 ⟨j, rfl, hj, x1, d1⟩
    repeat walk_at "mn"
    refine ⟨rfl, (drawn_ok d1).mono ?_⟩
    rintro v S2 ⟨k, w, ds, rfl, hdd, x2, d2⟩
    have X2 : Ex none' S' S2 := x1.trans x2 (fun k hk e => by have e : k = j := e; omega)
    repeat walk_at "mn"
    refine ⟨rfl, (right_ok hdd (hb.up (hx.then X2))).mono ?_⟩
    rintro v S3 ⟨rfl, x3⟩
    repeat walk_at "mn"
    refine br_f ?_
    repeat walk_at "mn"
    exact ⟨_, _, _, rfl, (hx.then X2).then x3⟩
  · rintro e S' ⟨a1, a2, a3, rfl, hx⟩
    repeat walk_at "mn"
    refine ⟨rfl, (begun_ok (hx.scr _ _ h) hn (by decide) (by decide)).mono ?_⟩
    rintro v S1 ⟨j, rfl, hj, x1, d1⟩
    repeat walk_at "mn"
    refine d_for ?_
    repeat walk_at "mn"
    refine (kinds_ok _).mono ?_
    rintro v S2 ⟨D, rfl, hDl, hD, x2⟩
    repeat walk_at "mn"
    refine sort_ok hD ?_
    have d2 := (d1.up x2 id).add (.lst (words.map U.str))
    have X2 : Ex none' S (S2 ++ [.lst (words.map U.str)]) := ((hx.then x1).then x2).add _
    have l2 := at_end S2 (.lst (words.map U.str))
    have hjL : j < S2.length := Nat.lt_of_lt_of_le d1.lt x2.len
    have hSj : S.length ≤ j := Nat.le_trans hx.len hj
    refine ⟨.lst S2.length, by simp only [srcOf, at_end], ?_⟩
    generalize S2.length = L at l2 hjL ⊢
    generalize S2 ++ [O.lst (words.map U.str)] = S3 at X2 d2 l2 ⊢
    refine ⟨words.length, fun i e S' => ∃ a1 a3, e = [some (.ref b), a1, some (.ref j), a3] ∧ Dr S' j ∧ Dx j S3 S' ∧ Bs S', by simp [turns, listAt, l2], ⟨_, _, rfl, d2, Ex.refl _ _, hb.up X2⟩, ?_, ?_⟩
    · rintro i e S' hi ⟨a1, a3, rfl, hd, hx', hb'⟩
      obtain ⟨w, hw, hwi⟩ : ∃ w, w ∈ words ∧ words[i]? = some w := ⟨_, List.getElem_mem hi, List.getElem?_eq_getElem hi⟩
      have hl3 := hx'.at l2 (fun e => by have e : L = j := e; omega)
      refine ⟨_, _, _, _, nxt_lst hl3 (by rw [List.getElem?_map, hwi]; rfl), rfl, ?_⟩
      repeat walk_at "mn"
      refine ⟨show (1 : Nat) ≤ LIM by decide, ?_⟩
      repeat walk_at "mn"
      refine (kinds_ok _).mono ?_
      rintro v S4 ⟨D', rfl, hDl', hD', x4⟩
      repeat walk_at "mn"
      refine i_dct hD' rfl (word_ok hw).kd ?_
      repeat walk_at "mn"
      have h4 := (hd.add (.tup [.str w])).up x4 id
      refine ⟨rfl, (things_ok h4 (word_ok hw).ks (Nat.le_trans (word_ok hw).kl (by decide))).mono ?_⟩
      rintro u S5 ⟨ds, t, th, x5, h5⟩
      refine with_word hw (x5.tup _ _ (x4.tup _ _ (at_end S' _))) th t h5 ?_
      intro k S6 hdd x6 h6
      have X6 : Dx j S' S6 := ((((Ex.snoc (one' j) S' _).pure x4).then x5).pure x6)
      repeat walk_at "mn"
      refine ⟨rfl, (right_ok hdd (hb'.up X6)).mono ?_⟩
      rintro v S7 ⟨rfl, x7⟩
      repeat walk_at "mn"
      refine br_f ?_
      repeat walk_at "mn"
      exact ⟨_, _, rfl, h6.up x7 id, (hx'.then X6).pure x7, (hb'.up X6).up x7⟩
    · rintro e S' ⟨a1, a3, rfl, hd, hx', hb'⟩
      have hl3 := hx'.at l2 (fun e => by have e : L = j := e; omega)
      refine ⟨by have := nxt_lst0 hl3; rw [List.length_map] at this; exact this, ?_⟩
      repeat walk_at "mn"
      refine (kinds_ok _).mono ?_
      rintro v S4 ⟨D', rfl, hDl', hD', x4⟩
      repeat walk_at "mn"
      refine n_of (w := .int 27) (by simp only [ntLen, lenU, hD', kd_n]; rfl) ?_
      repeat walk_at "mn"
      exact c_eq rfl (by decide +kernel)
theorem base_at : ∀ (j : Nat) (us : List U), baseS[j]? = some (.tup us) → ∀ T : Sto, (baseS ++ T)[j]? = some (.tup us) := fun j us e T => by
  rw [List.getElem?_append_left (List.getElem?_eq_some_iff.mp e).1]; exact e
theorem plain : ∀ ns : List Int, ns.length ≤ 63 → ∃ T, g_law [.ref baseS.length] (baseS ++ [.scr (ns.map U.int)]) = .ok (.bl true) T := by
  intro ns hn
  obtain ⟨v, S', e, rfl⟩ := law_ok (S := baseS ++ [.scr (ns.map U.int)]) (b := baseS.length) (ns := ns) (at_end _ _) hn (fun j us e => base_at j us e _)
  exact ⟨S', e⟩
end Mn.D
set_option Elab.async false
open PySem PySem.W PyProof.Rows
set_option maxRecDepth 100000 in
set_option maxHeartbeats 0 in
theorem PySem.Challenge.cw_stampedwait_k79_deeds_written_and_read_holds : PySem.Challenge.rw_stampedwait_k79_deeds_written_and_read.Holds := by
  w_on; o_law; k_head; (case hw => w_witness2)
  k_fill
  refine Mn.walk_G (l := PySem.Challenge.rw_stampedwait_k79_deeds_written_and_read) (n := 63) (k := 6) (x := "_law_script") (g := Mn.D.g_law) rfl (by decide) rfl ⟨rfl, by decide, by decide⟩ (fun w h Y => PySem.W.kIn_of Y) ?F
  case F =>
    intro w mg fa h KX G hmg
    refine' Mn.D.all_mk KX G hmg ?a__law_kinds ?l__law_kinds ?c__law_kinds ?k__law_kinds ?a_shown_thing ?l_shown_thing ?c_shown_thing ?k_shown_thing ?a_shown_deed ?l_shown_deed ?c_shown_deed ?k_shown_deed ?a_number_in ?l_number_in ?c_number_in ?k_number_in ?a_is_key ?l_is_key ?c_is_key ?k_is_key ?a_key_in ?l_key_in ?c_key_in ?k_key_in ?a_mode_in ?l_mode_in ?c_mode_in ?k_mode_in ?a_numbers_in ?l_numbers_in ?c_numbers_in ?k_numbers_in ?a_worth_in ?l_worth_in ?c_worth_in ?k_worth_in ?a_pace_in ?l_pace_in ?c_pace_in ?k_pace_in ?a_keys_in ?l_keys_in ?c_keys_in ?k_keys_in ?a_read_deed ?l_read_deed ?c_read_deed ?k_read_deed ?a__law_text ?l__law_text ?c__law_text ?k__law_text ?a__law_right ?l__law_right ?c__law_right ?k__law_right ?a__law_take ?l__law_take ?c__law_take ?k__law_take ?a__law_a_key ?l__law_a_key ?c__law_a_key ?k__law_a_key ?a__law_number ?l__law_number ?c__law_number ?k__law_number ?a__law_things ?l__law_things ?c__law_things ?k__law_things ?a__law_begun ?l__law_begun ?c__law_begun ?k__law_begun ?a__law_drawn ?l__law_drawn ?c__law_drawn ?k__law_drawn ?a_law ?l_law ?c_law ?k_law ?z_str ?z_zip ?z_int ?z_len ?z_all ?z_isinstance ?z_tuple ?z_repr ?z_range ?z_max ?z_sorted ?z_min ?g_LONGEST ?g_LETTERS ?g_MOST_FIELDS ?r_0 ?r_1 ?r_2 ?r_3 ?r_4 ?r_5 ?r_6 ?r_7 ?r_8 ?r_9 ?r_10 ?r_11 ?r_12 ?r_13 ?r_14 ?r_15 ?r_16 ?r_17 ?r_18 ?r_19 ?r_20 ?r_21 ?r_22 ?r_23 ?r_24 ?r_25 ?r_26 ?e_FORMS ?m_FORMS ?s_FORMS ?e_READERS ?m_READERS ?s_READERS Mn.D.plain
    (case a__law_kinds => k_is)
    (case l__law_kinds => k_is)
    (case c__law_kinds => k_is)
    (case k__law_kinds => k_is)
    (case a_shown_thing => k_is)
    (case l_shown_thing => k_is)
    (case c_shown_thing => k_is)
    (case k_shown_thing => k_is)
    (case a_shown_deed => k_is)
    (case l_shown_deed => k_is)
    (case c_shown_deed => k_is)
    (case k_shown_deed => k_is)
    (case a_number_in => k_is)
    (case l_number_in => k_is)
    (case c_number_in => k_is)
    (case k_number_in => k_is)
    (case a_is_key => k_is)
    (case l_is_key => k_is)
    (case c_is_key => k_is)
    (case k_is_key => k_is)
    (case a_key_in => k_is)
    (case l_key_in => k_is)
    (case c_key_in => k_is)
    (case k_key_in => k_is)
    (case a_mode_in => k_is)
    (case l_mode_in => k_is)
    (case c_mode_in => k_is)
    (case k_mode_in => k_is)
    (case a_numbers_in => k_is)
    (case l_numbers_in => k_is)
    (case c_numbers_in => k_is)
    (case k_numbers_in => k_is)
    (case a_worth_in => k_is)
    (case l_worth_in => k_is)
    (case c_worth_in => k_is)
    (case k_worth_in => k_is)
    (case a_pace_in => k_is)
    (case l_pace_in => k_is)
    (case c_pace_in => k_is)
    (case k_pace_in => k_is)
    (case a_keys_in => k_is)
    (case l_keys_in => k_is)
    (case c_keys_in => k_is)
    (case k_keys_in => k_is)
    (case a_read_deed => k_is)
    (case l_read_deed => k_is)
    (case c_read_deed => k_is)
    (case k_read_deed => k_is)
    (case a__law_text => k_is)
    (case l__law_text => k_is)
    (case c__law_text => k_is)
    (case k__law_text => k_is)
    (case a__law_right => k_is)
    (case l__law_right => k_is)
    (case c__law_right => k_is)
    (case k__law_right => k_is)
    (case a__law_take => k_is)
    (case l__law_take => k_is)
    (case c__law_take => k_is)
    (case k__law_take => k_is)
    (case a__law_a_key => k_is)
    (case l__law_a_key => k_is)
    (case c__law_a_key => k_is)
    (case k__law_a_key => k_is)
    (case a__law_number => k_is)
    (case l__law_number => k_is)
    (case c__law_number => k_is)
    (case k__law_number => k_is)
    (case a__law_things => k_is)
    (case l__law_things => k_is)
    (case c__law_things => k_is)
    (case k__law_things => k_is)
    (case a__law_begun => k_is)
    (case l__law_begun => k_is)
    (case c__law_begun => k_is)
    (case k__law_begun => k_is)
    (case a__law_drawn => k_is)
    (case l__law_drawn => k_is)
    (case c__law_drawn => k_is)
    (case k__law_drawn => k_is)
    (case a_law => k_is)
    (case l_law => k_is)
    (case c_law => k_is)
    (case k_law => k_is)
    (case z_str => k_is)
    (case z_zip => k_is)
    (case z_int => k_is)
    (case z_len => k_is)
    (case z_all => k_is)
    (case z_isinstance => k_is)
    (case z_tuple => k_is)
    (case z_repr => k_is)
    (case z_range => k_is)
    (case z_max => k_is)
    (case z_sorted => k_is)
    (case z_min => k_is)
    (case g_LONGEST => k_is)
    (case g_LETTERS => k_is)
    (case g_MOST_FIELDS => k_is)
    (case e_FORMS => k_is)
    (case m_FORMS => k_is)
    (case s_FORMS => rfl)
    (case e_READERS => k_is)
    (case m_READERS => k_is)
    (case s_READERS => rfl)
    (case r_0 => k_is)
    (case r_1 => k_is)
    (case r_2 => k_is)
    (case r_3 => k_is)
    (case r_4 => k_is)
    (case r_5 => k_is)
    (case r_6 => k_is)
    (case r_7 => k_is)
    (case r_8 => k_is)
    (case r_9 => k_is)
    (case r_10 => k_is)
    (case r_11 => k_is)
    (case r_12 => k_is)
    (case r_13 => k_is)
    (case r_14 => k_is)
    (case r_15 => k_is)
    (case r_16 => k_is)
    (case r_17 => k_is)
    (case r_18 => k_is)
    (case r_19 => k_is)
    (case r_20 => k_is)
    (case r_21 => k_is)
    (case r_22 => k_is)
    (case r_23 => k_is)
    (case r_24 => k_is)
    (case r_25 => k_is)
    (case r_26 => k_is)
