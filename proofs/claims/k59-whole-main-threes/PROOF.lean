import PyProof.Rows.All
import Wide.All
import OpenK.AllK
import Wide.FinOn
import HandS.ForMost
import HandS.Exc
import HandS.ExcOwn
import HandS.WordsExc
import HandS.CallSlots
import KE.KeyNested
import HandS.Flow
import HandS.Wide
import HandS.TupAny
import HandS.TupLe
import HandS.Style
import HandS.Defaults
import HandS.IsInst
import HandS.ExcInit
import HandS.ExcField
import HandS.ExcIs
import KE.KExcSuper
import HandS.Deep
import HandS.Text
import KE.SortData
import HandS.TupMul
import HandS.Iter
import HandS.More
import HandS.DictComp
import HandS.Ends
import HandS.EndBits
import PySem.Challenge.RW_turnedtables_k59_whole_main_threes
set_option Elab.async false
set_option linter.all false
set_option maxRecDepth 100000
set_option maxHeartbeats 2000000
/-! Y: data (D) and stores over the hand layer: a def as a plain function of data. -/
namespace Y
open PySem L2

/-- data; a list, a dict, an instance by its number in the store -/
inductive D where
  | non | bl (b : Bool) | int (i : Int) | str (x : Str)
  | tup (ds : List D)
  /-- a list that nobody changes (the script) -/
  | ro (ds : List D)
  | ref (i : Nat)
mutual
def D.beq : D → D → Bool
  | .non, .non => true
  | .bl a, .bl b => a == b
  | .int a, .int b => decide (a = b)
  | .str a, .str b => decide (a = b)
  | .tup a, .tup b => D.beqs a b
  | .ro a, .ro b => D.beqs a b
  | .ref a, .ref b => a == b
  | _, _ => false
def D.beqs : List D → List D → Bool
  | [], [] => true
  | a :: as, b :: bs => D.beq a b && D.beqs as bs
  | _, _ => false
end
mutual
theorem D.beq_eq : ∀ a b : D, D.beq a b = true → a = b
  | .non, b, h => by cases b <;> first | rfl | (exact absurd (show false = true from h) (by decide))
  | .bl x, b, h => by
    cases b <;> first | (exact absurd (show false = true from h) (by decide)) | skip
    rename_i y
    have h' : (x == y) = true := h
    rw [eq_of_beq h']
  | .int x, b, h => by
    cases b <;> first | (exact absurd (show false = true from h) (by decide)) | skip
    rename_i y
    have h' : decide (x = y) = true := h
    rw [of_decide_eq_true h']
  | .str x, b, h => by
    cases b <;> first | (exact absurd (show false = true from h) (by decide)) | skip
    rename_i y
    have h' : decide (x = y) = true := h
    rw [of_decide_eq_true h']
  | .tup x, b, h => by
    cases b <;> first | (exact absurd (show false = true from h) (by decide)) | skip
    rename_i y
    have h' : D.beqs x y = true := h
    rw [D.beqs_eq x y h']
  | .ro x, b, h => by
    cases b <;> first | (exact absurd (show false = true from h) (by decide)) | skip
    rename_i y
    have h' : D.beqs x y = true := h
    rw [D.beqs_eq x y h']
  | .ref x, b, h => by
    cases b <;> first | (exact absurd (show false = true from h) (by decide)) | skip
    rename_i y
    have h' : (x == y) = true := h
    rw [eq_of_beq h']
theorem D.beqs_eq : ∀ a b : List D, D.beqs a b = true → a = b
  | [], b, h => by cases b <;> first | rfl | (exact absurd (show false = true from h) (by decide))
  | a :: as, b, h => by
    cases b with
    | nil => exact absurd (show false = true from h) (by decide)
    | cons b bs =>
      have h' : (D.beq a b && D.beqs as bs) = true := h
      rw [Bool.and_eq_true] at h'
      rw [D.beq_eq a b h'.1, D.beqs_eq as bs h'.2]
end
mutual
theorem D.beq_refl : ∀ a : D, D.beq a a = true
  | .non => rfl
  | .bl x => by show (x == x) = true; simp
  | .int x => by show decide (x = x) = true; simp
  | .str x => by show decide (x = x) = true; simp
  | .tup x => D.beqs_refl x
  | .ro x => D.beqs_refl x
  | .ref x => by show (x == x) = true; simp
theorem D.beqs_refl : ∀ a : List D, D.beqs a a = true
  | [] => rfl
  | a :: as => by
    show (D.beq a a && D.beqs as as) = true
    rw [D.beq_refl a, D.beqs_refl as]; rfl
end
instance : DecidableEq D := fun a b => if h : D.beq a b = true then .isTrue (D.beq_eq a b h) else .isFalse fun e => h (e ▸ D.beq_refl a)

/-- what a number of the store stands for -/
inductive O where
  | lst (ds : List D)
  | dK (kvs : List (Key × D))
  | dN (kvs : List (D × D))
abbrev Sto := List O
abbrev Env := List (Option D)
/-- an exception: its class by name, what it keeps -/
structure Exc where
  name : Str
  fs : List (Str × D)
/-- how an expression ends: a value, an exception, or (no) nothing is said -/
inductive R (α : Type) where
  | ok (a : α) (S : Sto) | ex (c : Exc) (S : Sto) | no
/-- how a statement ends -/
inductive SR where
  | nx (ρ : Env) (S : Sto) | rt (d : D) (S : Sto) | bk (ρ : Env) (S : Sto) | ct (ρ : Env) (S : Sto) | ex (c : Exc) (ρ : Env) (S : Sto) | no
def R.bind {α β : Type} (r : R α) (f : α → Sto → R β) : R β := match r with
  | .ok a S => f a S
  | .ex c S => .ex c S
  | .no => .no
def SR.seq (r : SR) (f : Env → Sto → SR) : SR := match r with
  | .nx ρ S => f ρ S
  | .rt d S => .rt d S
  | .bk ρ S => .bk ρ S
  | .ct ρ S => .ct ρ S
  | .ex c ρ S => .ex c ρ S
  | .no => .no
/-- an expression's value, then a statement's end -/
def R.then {α : Type} (r : R α) (ρ : Env) (f : α → Sto → SR) : SR := match r with
  | .ok a S => f a S
  | .ex c S => .ex c ρ S
  | .no => .no
abbrev FE := Env → Sto → R D
abbrev FT := Env → Sto → R Bool
abbrev FA := Env → Sto → R (List D)
abbrev FS := Env → Sto → SR
abbrev FF := List D → Sto → R D

/-! ### what data stands for -/
def Imm : HO → Prop
  | .tup _ => True
  | .frz _ _ => True
  | .xd _ => True
  | _ => False
/-- a list that is not changed -/
def RoL (K : PySem.W.Frag) (H : Hp) (a : Addr) (vs : List V) : Prop := (∃ o, H a = some (.frz o (.lst vs))) ∨
    ∃ (o : Obj) (its : Array Value) (n : Nat), K.lookup a = some o ∧ o.cls = .type "list" ∧ o.dict = none ∧ o.data = .seq its n ∧ its.size ≤ sizeLine ∧ Vals vs its.toList
theorem RoL.seq {K : PySem.W.Frag} {H : Hp} {a : Addr} {vs : List V} (h : RoL K H a vs) : SqL K H a vs := by
  rcases h with ⟨o, h⟩ | h
  · exact .inl (.inr ⟨o, h⟩)
  · exact .inr h
mutual
def DV (K : PySem.W.Frag) (H : Hp) (θ : List Addr) : D → V → Prop
  | .non, v => v = .non
  | .bl b, v => v = .bl b
  | .int i, v => v = .int i
  | .str x, v => v = .str x
  | .tup ds, v => ∃ a vs, v = .ref a ∧ SqT K H a vs ∧ DVs K H θ ds vs
  | .ro ds, v => ∃ a vs, v = .ref a ∧ RoL K H a vs ∧ DVs K H θ ds vs
  | .ref i, v => ∃ a, v = .ref a ∧ θ[i]? = some a
def DVs (K : PySem.W.Frag) (H : Hp) (θ : List Addr) : List D → List V → Prop
  | [], vs => vs = []
  | d :: ds, vs => ∃ v r, vs = v :: r ∧ DV K H θ d v ∧ DVs K H θ ds r
end
/-- later -/
structure Fut (H : Hp) (θ : List Addr) (H' : Hp) (θ' : List Addr) : Prop where
  pre : ∃ m, θ' = θ ++ m
  imm : ∀ a o, Imm o → H a = some o → H' a = some o
theorem Fut.refl {H : Hp} {θ : List Addr} : Fut H θ H θ := ⟨⟨[], by simp⟩, fun _ _ _ h => h⟩
theorem Fut.trans {H H1 H2 : Hp} {θ θ1 θ2 : List Addr} (a : Fut H θ H1 θ1) (b : Fut H1 θ1 H2 θ2) : Fut H θ H2 θ2 := by
  obtain ⟨⟨m, rfl⟩, h1⟩ := a
  obtain ⟨⟨m', rfl⟩, h2⟩ := b
  exact ⟨⟨m ++ m', by simp⟩, fun c o i h => h2 c o i (h1 c o i h)⟩
theorem Fut.at {H H' : Hp} {θ θ' : List Addr} (f : Fut H θ H' θ') {i : Nat} {a : Addr} (h : θ[i]? = some a) : θ'[i]? = some a := by
  obtain ⟨⟨m, rfl⟩, _⟩ := f
  rw [List.getElem?_append_left (List.getElem?_eq_some_iff.mp h).1]
  exact h
theorem Fut.sqt {K : PySem.W.Frag} {H H' : Hp} {θ θ' : List Addr} (f : Fut H θ H' θ') {a : Addr} {vs : List V} (h : SqT K H a vs) : SqT K H' a vs := by
  rcases h with (h | ⟨o, h⟩) | h
  · exact .inl (.inl (f.imm a _ trivial h))
  · exact .inl (.inr ⟨o, f.imm a _ trivial h⟩)
  · exact .inr h
theorem Fut.rol {K : PySem.W.Frag} {H H' : Hp} {θ θ' : List Addr} (f : Fut H θ H' θ') {a : Addr} {vs : List V} (h : RoL K H a vs) : RoL K H' a vs := by
  rcases h with ⟨o, h⟩ | h
  · exact .inl ⟨o, f.imm a _ trivial h⟩
  · exact .inr h
section
variable {K : PySem.W.Frag} {w : World} {H H' : Hp} {θ θ' : List Addr}
mutual
theorem DV.later (f : Fut H θ H' θ') : ∀ (d : D) (v : V), DV K H θ d v → DV K H' θ' d v
  | .non, _, h => h
  | .bl _, _, h => h
  | .int _, _, h => h
  | .str _, _, h => h
  | .tup ds, _, ⟨a, vs, e, h, hs⟩ => ⟨a, vs, e, f.sqt h, DVs.later f ds vs hs⟩
  | .ro ds, _, ⟨a, vs, e, h, hs⟩ => ⟨a, vs, e, f.rol h, DVs.later f ds vs hs⟩
  | .ref _, _, ⟨a, e, h⟩ => ⟨a, e, f.at h⟩
theorem DVs.later (f : Fut H θ H' θ') : ∀ (ds : List D) (vs : List V), DVs K H θ ds vs → DVs K H' θ' ds vs
  | [], _, h => h
  | d :: ds, _, ⟨v, r, e, h, hs⟩ => ⟨v, r, e, DV.later f d v h, DVs.later f ds r hs⟩
end
theorem DVs.length : ∀ {ds : List D} {vs : List V}, DVs K H θ ds vs → vs.length = ds.length
  | [], _, h => by
    have e : _ = [] := h
    rw [e]; rfl
  | d :: ds, _, ⟨v, r, e, _, hs⟩ => by rw [e, List.length_cons, List.length_cons, DVs.length hs]
theorem DVs.get : ∀ {ds : List D} {vs : List V} {i : Nat} {d : D}, DVs K H θ ds vs → ds[i]? = some d → ∃ v, vs[i]? = some v ∧ DV K H θ d v
  | [], _, i, d, _, h => by simp at h
  | c :: ds, _, 0, d, ⟨v, r, e, h, hs⟩, q => by
    have e2 : c = d := by simpa using q
    subst e2
    exact ⟨v, by rw [e]; rfl, h⟩
  | c :: ds, _, i + 1, d, ⟨v, r, e, h, hs⟩, q => by
    obtain ⟨x, h1, h2⟩ := DVs.get (i := i) (d := d) hs (by simpa using q)
    exact ⟨x, by rw [e]; simpa using h1, h2⟩
theorem DVs.append : ∀ {ds es : List D} {vs ws : List V}, DVs K H θ ds vs → DVs K H θ es ws → DVs K H θ (ds ++ es) (vs ++ ws)
  | [], _, _, _, h, h2 => by
    have e : _ = [] := h
    rw [e]; exact h2
  | d :: ds, es, _, ws, ⟨v, r, e, h, hs⟩, h2 => ⟨v, r ++ ws, by rw [e]; rfl, h, DVs.append hs h2⟩
theorem DVs.set : ∀ {ds : List D} {vs : List V} (i : Nat) {d : D} {v : V}, DVs K H θ ds vs → DV K H θ d v → DVs K H θ (ds.set i d) (vs.set i v)
  | [], _, i, _, _, h, _ => by
    have e : _ = [] := h
    rw [e]; exact rfl
  | c :: ds, _, 0, d, v, ⟨w, r, e, h, hs⟩, q => ⟨v, r, by rw [e]; rfl, q, hs⟩
  | c :: ds, _, i + 1, d, v, ⟨w, r, e, h, hs⟩, q => ⟨w, r.set i v, by rw [e]; rfl, h, DVs.set i hs q⟩
theorem DVs.take : ∀ {ds : List D} {vs : List V} (n : Nat), DVs K H θ ds vs → DVs K H θ (ds.take n) (vs.take n)
  | _, _, 0, _ => rfl
  | [], _, n + 1, h => by
    have e : _ = [] := h
    rw [e]; exact rfl
  | c :: ds, _, n + 1, ⟨w, r, e, h, hs⟩ => ⟨w, r.take n, by rw [e]; rfl, h, DVs.take n hs⟩
theorem DVs.drop : ∀ {ds : List D} {vs : List V} (n : Nat), DVs K H θ ds vs → DVs K H θ (ds.drop n) (vs.drop n)
  | _, _, 0, h => h
  | [], _, n + 1, h => by
    have e : _ = [] := h
    rw [e]; exact rfl
  | c :: ds, _, n + 1, ⟨w, r, e, h, hs⟩ => by
    rw [e]
    exact DVs.drop n hs
theorem DVs.nilOf {vs : List V} (h : DVs K H θ [] vs) : vs = [] := h
theorem DVs.one {d : D} {v : V} (h : DV K H θ d v) : DVs K H θ [d] [v] := ⟨v, [], rfl, h, rfl⟩
end

/-! the key that data is: a tuple of ints, texts, None, such tuples -/
mutual
def keyN : D → Option NestedKey
  | .non => some .none
  | .int i => some (.num i)
  | .str x => some (.text x)
  | .tup ds => (keyNs ds).map .tup
  | _ => none
def keyNs : List D → Option (List NestedKey)
  | [] => some []
  | d :: ds => (keyN d).bind fun k => (keyNs ds).map fun ks => k :: ks
end
/-- a dict with tuple keys, by its entries: key, the key's tuple, value -/
def DctO (w : World) (a : Addr) (xs : List (NestedKey × Addr × Value)) : HO := .ext fun h => xs.length ≤ sizeLine ∧ (a == sysModules) = false ∧ (xs.map (·.1)).Nodup ∧
  ∃ o es ep, h.get? a = some o ∧ o.ExactDict ∧ o.data = .dict es ep ∧ es.toList = xs.map fun x => (⟨x.1.hash w, .ref x.2.1, x.2.2⟩ : DictEntry)
def EntR (K : PySem.W.Frag) (H : Hp) (θ : List Addr) (kv : D × D) (x : NestedKey × Addr × Value) : Prop := keyN kv.1 = some x.1 ∧ x.1.depth ≤ 8 ∧ DV K H θ kv.1 (.ref x.2.1) ∧ ∃ v, RelV v x.2.2 ∧ DV K H θ kv.2 v
/-- what the number's object is -/
def ObR (K : PySem.W.Frag) (w : World) (H : Hp) (θ : List Addr) (a : Addr) : O → Prop
  | .lst ds => ∃ vs, H a = some (.lst vs) ∧ DVs K H θ ds vs
  | .dK kvs => ∃ vs : List (Key × V), H a = some (.dK vs) ∧ vs.map (·.1) = kvs.map (·.1) ∧ DVs K H θ (kvs.map (·.2)) (vs.map (·.2))
  | .dN kvs => ∃ xs, H a = some (DctO w a xs) ∧ Paired (EntR K H θ) kvs xs
structure Rl (K : PySem.W.Frag) (w : World) (H : Hp) (θ : List Addr) (S : Sto) : Prop where
  len : θ.length = S.length
  nd : θ.Nodup
  at_ : ∀ (i : Nat) (o : O) (a : Addr), S[i]? = some o → θ[i]? = some a → ObR K w H θ a o
/-- slots -/
def SlV (K : PySem.W.Frag) (H : Hp) (θ : List Addr) (ρ : Env) (σ : St) : Prop := σ.length = ρ.length ∧ ∀ (i : Nat) (d : D), ρ[i]? = some (some d) → ∃ v, σ[i]? = some (some v) ∧ DV K H θ d v
theorem ObR.later {K : PySem.W.Frag} {w : World} {H : Hp} {θ θ' : List Addr} {H' : Hp} {a : Addr} {o : O} (f : Fut H θ H' θ') (h : ObR K w H θ a o) (e : H' a = H a) : ObR K w H' θ' a o := by
  cases o with
  | lst ds => obtain ⟨vs, q, d⟩ := h; exact ⟨vs, by rw [e]; exact q, DVs.later f _ _ d⟩
  | dK ds => obtain ⟨vs, q, k, d⟩ := h; exact ⟨vs, by rw [e]; exact q, k, DVs.later f _ _ d⟩
  | dN ds => obtain ⟨vs, q, d⟩ := h; exact ⟨vs, by rw [e]; exact q, L2.Paired.mapP d fun p x ⟨h1, h2, h3, v, h4, h5⟩ => ⟨h1, h2, DV.later f _ _ h3, v, h4, DV.later f _ _ h5⟩⟩
theorem ObR.some {K : PySem.W.Frag} {w : World} {H : Hp} {θ : List Addr} {a : Addr} {o : O} (h : ObR K w H θ a o) : ∃ u, H a = some u ∧ Mut (some u) ∧ ¬ Imm u := by
  cases o with
  | lst ds => obtain ⟨vs, q, d⟩ := h; exact ⟨_, q, trivial, fun z => z⟩
  | dK ds => obtain ⟨vs, q, k, d⟩ := h; exact ⟨_, q, trivial, fun z => z⟩
  | dN ds => obtain ⟨vs, q, d⟩ := h; exact ⟨_, q, trivial, fun z => z⟩
theorem SlV.later {K : PySem.W.Frag} {H H' : Hp} {θ θ' : List Addr} {ρ : Env} {σ : St} (f : Fut H θ H' θ') (h : SlV K H θ ρ σ) : SlV K H' θ' ρ σ := ⟨h.1, fun i d e =>
  let ⟨v, q, dv⟩ := h.2 i d e
  ⟨v, q, DV.later f d v dv⟩⟩
theorem SlV.set {K : PySem.W.Frag} {H : Hp} {θ : List Addr} {ρ : Env} {σ : St} (h : SlV K H θ ρ σ) (i : Nat) {d : D} {v : V} (q : DV K H θ d v) : SlV K H θ (ρ.set i (some d)) (σ.set i (some v)) := by
  refine ⟨by rw [List.length_set, List.length_set, h.1], fun j e hj => ?_⟩
  by_cases hij : i = j
  · subst hij
    by_cases hl : i < ρ.length
    · rw [List.getElem?_set_self hl] at hj
      cases hj
      exact ⟨v, by rw [List.getElem?_set_self (by rw [h.1]; exact hl)], q⟩
    · rw [List.getElem?_eq_none (by rw [List.length_set]; omega)] at hj
      cases hj
  · rw [List.getElem?_set_ne hij] at hj
    rw [List.getElem?_set_ne hij]
    exact h.2 j e hj
theorem SlV.unset {K : PySem.W.Frag} {H : Hp} {θ : List Addr} {ρ : Env} {σ : St} (h : SlV K H θ ρ σ) (i : Nat) (o : Option V) : SlV K H θ (ρ.set i none) (σ.set i o) := by
  refine ⟨by rw [List.length_set, List.length_set, h.1], fun j e hj => ?_⟩
  by_cases hij : i = j
  · subst hij
    by_cases hl : i < ρ.length
    · rw [List.getElem?_set_self hl] at hj
      cases hj
    · rw [List.getElem?_eq_none (by rw [List.length_set]; omega)] at hj
      cases hj
  · rw [List.getElem?_set_ne hij] at hj
    rw [List.getElem?_set_ne hij]
    exact h.2 j e hj

section
variable {K : PySem.W.Frag} {w : World} {H : Hp} {θ : List Addr} {S : Sto}
theorem Rl.get (r : Rl K w H θ S) {i : Nat} {o : O} (h : S[i]? = some o) : ∃ a, θ[i]? = some a ∧ ObR K w H θ a o := by
  have hl := (List.getElem?_eq_some_iff.mp h).1
  have : i < θ.length := by rw [r.len]; exact hl
  exact ⟨θ[i], by simp [this], r.at_ i o _ h (by simp [this])⟩
theorem Rl.mem (r : Rl K w H θ S) {a : Addr} (h : a ∈ θ) : ∃ u, H a = some u ∧ Mut (some u) ∧ ¬ Imm u := by
  obtain ⟨i, hi, e⟩ := List.mem_iff_getElem.mp h
  have hs : i < S.length := by rw [← r.len]; exact hi
  exact (r.at_ i S[i] a (by simp [hs]) (by simp [hi, e])).some
/-- a new object, not tracked by number (a tuple) -/
theorem Fut.new {p : Addr} {o : HO} (hp : H p = none) : Fut H θ (upd H p o) θ := ⟨⟨[], by simp⟩, fun a u _ h => by rw [upd_ne (ne_of_none h hp)]; exact h⟩
theorem Rl.new (r : Rl K w H θ S) {p : Addr} {o : HO} (hp : H p = none) : Rl K w (upd H p o) θ S := ⟨r.len, r.nd, fun i ob a h1 h2 => by
  have q := r.at_ i ob a h1 h2
  refine q.later (Fut.new hp) ?_
  obtain ⟨u, e, _⟩ := q.some
  exact upd_ne (ne_of_none e hp)⟩
/-- a new number -/
theorem Fut.newN {p : Addr} {o : HO} (hp : H p = none) : Fut H θ (upd H p o) (θ ++ [p]) := ⟨⟨[p], rfl⟩, fun a u _ h => by rw [upd_ne (ne_of_none h hp)]; exact h⟩
theorem Rl.newN (r : Rl K w H θ S) {p : Addr} {o : HO} {ob : O} (hp : H p = none) (h : ObR K w (upd H p o) (θ ++ [p]) p ob) : Rl K w (upd H p o) (θ ++ [p]) (S ++ [ob]) := by
  refine ⟨by simp [r.len], ?_, fun i o' a h1 h2 => ?_⟩
  · rw [List.nodup_append]
    refine ⟨r.nd, by simp, fun a ha b hb => ?_⟩
    have e : b = p := by simpa using hb
    subst e
    obtain ⟨u, e, _⟩ := r.mem ha
    exact ne_of_none e hp
  · by_cases hi : i < S.length
    · rw [List.getElem?_append_left hi] at h1
      rw [List.getElem?_append_left (by rw [r.len]; exact hi)] at h2
      have q := r.at_ i o' a h1 h2
      refine q.later (Fut.newN hp) ?_
      obtain ⟨u, e, _⟩ := q.some
      exact upd_ne (ne_of_none e hp)
    · have hi' : i = S.length := by
        have := (List.getElem?_eq_some_iff.mp h1).1
        simp at this
        omega
      subst hi'
      rw [List.getElem?_append_right (Nat.le_refl _)] at h1
      rw [List.getElem?_append_right (by rw [r.len]; exact Nat.le_refl _)] at h2
      simp [r.len] at h1 h2
      subst h1 h2
      exact h
/-- a changed object -/
theorem Fut.chg {p : Addr} {o u : HO} (hp : H p = some u) (hm : ¬ Imm u) : Fut H θ (upd H p o) θ := ⟨⟨[], by simp⟩, fun a w i h => by
  rw [upd_ne (show a ≠ p from fun z => by subst z; rw [hp] at h; cases h; exact hm i)]; exact h⟩
theorem Rl.chg (r : Rl K w H θ S) {p : Addr} {i : Nat} {o : HO} {ob : O} (hi : θ[i]? = some p) (h : ∀ H', Fut H θ H' θ → H' = upd H p o → ObR K w H' θ p ob) : Rl K w (upd H p o) θ (S.set i ob) := by
  have hil := (List.getElem?_eq_some_iff.mp hi).1
  have his : i < S.length := by rw [← r.len]; exact hil
  obtain ⟨u, e, m, ni⟩ := r.mem (List.mem_of_getElem? hi)
  have f : Fut H θ (upd H p o) θ := Fut.chg e ni
  refine ⟨by rw [List.length_set]; exact r.len, r.nd, fun j o' a h1 h2 => ?_⟩
  by_cases hij : i = j
  · subst hij
    rw [List.getElem?_set_self his] at h1
    cases h1
    rw [hi] at h2
    cases h2
    exact h _ f rfl
  · rw [List.getElem?_set_ne hij] at h1
    refine (r.at_ j o' a h1 h2).later f (upd_ne fun z => hij ?_)
    subst z
    exact nd_ix r.nd hi h2
end

/-! ### an exception -/
def ExR (K : PySem.W.Frag) (mg : Str → Option Value) (H : Hp) (θ : List Addr) (c : Exc) (cls : Value) (dd : Option Addr) : Prop :=
  (∃ C, mg c.name = some (.ref C) ∧ cls = .ref C) ∧ (∀ f d, (f, d) ∈ c.fs → ∃ a fs v, dd = some a ∧ H a = some (.xd fs) ∧ fs.lookup f = some v ∧ DV K H θ d v) ∧ ∀ a, dd = some a → ∃ fs, H a = some (.xd fs)
/-- what is wanted of an end, at H, θ -/
def PostV (K : PySem.W.Frag) (w : World) (mg : Str → Option Value) (θ : List Addr) (H : Hp) (r : R D) (Q : VK) (E : XK) : Prop := match r with
  | .ok d S' => ∀ θ' H' v, Fut H θ H' θ' → Rl K w H' θ' S' → DV K H' θ' d v → Q v H'
  | .ex c S' => ∀ θ' H' cls dd, Fut H θ H' θ' → Rl K w H' θ' S' → ExR K mg H' θ' c cls dd → E cls dd H'
  | .no => False
def PostB (K : PySem.W.Frag) (w : World) (mg : Str → Option Value) (θ : List Addr) (H : Hp) (r : R Bool) (Q : Bool → Hp → Prop) (E : XK) : Prop := match r with
  | .ok b S' => ∀ θ' H', Fut H θ H' θ' → Rl K w H' θ' S' → Q b H'
  | .ex c S' => ∀ θ' H' cls dd, Fut H θ H' θ' → Rl K w H' θ' S' → ExR K mg H' θ' c cls dd → E cls dd H'
  | .no => False
def PostA (K : PySem.W.Frag) (w : World) (mg : Str → Option Value) (θ : List Addr) (H : Hp) (r : R (List D)) (Q : List V → Hp → Prop) (E : XK) : Prop := match r with
  | .ok d S' => ∀ θ' H' v, Fut H θ H' θ' → Rl K w H' θ' S' → DVs K H' θ' d v → Q v H'
  | .ex c S' => ∀ θ' H' cls dd, Fut H θ H' θ' → Rl K w H' θ' S' → ExR K mg H' θ' c cls dd → E cls dd H'
  | .no => False
/-- what is wanted of a statement's end -/
def PostS (K : PySem.W.Frag) (w : World) (mg : Str → Option Value) (θ : List Addr) (H : Hp) (r : SR) (D : Ends) (W : WX) : Prop := match r with
  | .nx ρ S' => ∀ θ' H' σ', Fut H θ H' θ' → Rl K w H' θ' S' → SlV K H' θ' ρ σ' → D.nx σ' H'
  | .bk ρ S' => ∀ θ' H' σ', Fut H θ H' θ' → Rl K w H' θ' S' → SlV K H' θ' ρ σ' → D.bk σ' H'
  | .ct ρ S' => ∀ θ' H' σ', Fut H θ H' θ' → Rl K w H' θ' S' → SlV K H' θ' ρ σ' → D.ct σ' H'
  | .rt d S' => ∀ θ' H' v, Fut H θ H' θ' → Rl K w H' θ' S' → DV K H' θ' d v → D.rt v H'
  | .ex c ρ S' => ∀ θ' H' σ' cls dd, Fut H θ H' θ' → Rl K w H' θ' S' → SlV K H' θ' ρ σ' → ExR K mg H' θ' c cls dd → W cls dd σ' H'
  | .no => False
/-! ### the judgements -/
def DE (X : Cx) (W : WX) (e : Expr) (f : FE) : Prop := ∃ t, PE X e t ∧ ∀ θ σ ρ H S Q, Rl X.K X.w H θ S → SlV X.K H θ ρ σ → PostV X.K X.w X.mg θ H (f ρ S) Q (fun c d H' => W c d σ H') → t σ H Q
def DT (X : Cx) (W : WX) (e : Expr) (f : FT) : Prop := ∃ t, PT X e t ∧ ∀ θ σ ρ H S Q, Rl X.K X.w H θ S → SlV X.K H θ ρ σ → PostB X.K X.w X.mg θ H (f ρ S) Q (fun c d H' => W c d σ H') → t σ H Q
def DA (X : Cx) (W : WX) (es : List Expr) (f : FA) : Prop := ∃ t, PA X es t ∧ ∀ θ σ ρ H S Q, Rl X.K X.w H θ S → SlV X.K H θ ρ σ → PostA X.K X.w X.mg θ H (f ρ S) Q (fun c d H' => W c d σ H') → t σ H Q
def DS (X : Cx) (W : WX) (s : Stmt) (f : FS) : Prop := ∃ t, PS X s t ∧ ∀ θ σ ρ H S D, Rl X.K X.w H θ S → SlV X.K H θ ρ σ → PostS X.K X.w X.mg θ H (f ρ S) D W → t D σ H
def DSs (X : Cx) (W : WX) (s : List Stmt) (f : FS) : Prop := ∃ t, PSs X s t ∧ ∀ θ σ ρ H S D, Rl X.K X.w H θ S → SlV X.K H θ ρ σ → PostS X.K X.w X.mg θ H (f ρ S) D W → t D σ H

section
variable {K : PySem.W.Frag} {w : World} {mg : Str → Option Value} {θ θ1 : List Addr} {H H1 : Hp} {Q : VK} {E : XK}
theorem PostV.since {r : R D} (f : Fut H θ H1 θ1) (h : PostV K w mg θ H r Q E) : PostV K w mg θ1 H1 r Q E := by
  cases r with
  | ok d S => exact fun θ' H' v g => h θ' H' v (f.trans g)
  | ex c S => exact fun θ' H' cls dd g => h θ' H' cls dd (f.trans g)
  | no => exact h
theorem PostB.since {r : R Bool} {Q : Bool → Hp → Prop} (f : Fut H θ H1 θ1) (h : PostB K w mg θ H r Q E) : PostB K w mg θ1 H1 r Q E := by
  cases r with
  | ok d S => exact fun θ' H' g => h θ' H' (f.trans g)
  | ex c S => exact fun θ' H' cls dd g => h θ' H' cls dd (f.trans g)
  | no => exact h
theorem PostA.since {r : R (List D)} {Q : List V → Hp → Prop} (f : Fut H θ H1 θ1) (h : PostA K w mg θ H r Q E) : PostA K w mg θ1 H1 r Q E := by
  cases r with
  | ok d S => exact fun θ' H' v g => h θ' H' v (f.trans g)
  | ex c S => exact fun θ' H' cls dd g => h θ' H' cls dd (f.trans g)
  | no => exact h
theorem PostS.since {r : SR} {D : Ends} {W : WX} (f : Fut H θ H1 θ1) (h : PostS K w mg θ H r D W) : PostS K w mg θ1 H1 r D W := by
  cases r with
  | nx ρ S => exact fun θ' H' v g => h θ' H' v (f.trans g)
  | bk ρ S => exact fun θ' H' v g => h θ' H' v (f.trans g)
  | ct ρ S => exact fun θ' H' v g => h θ' H' v (f.trans g)
  | rt d S => exact fun θ' H' v g => h θ' H' v (f.trans g)
  | ex c ρ S => exact fun θ' H' σ' cls dd g => h θ' H' σ' cls dd (f.trans g)
  | no => exact h
end
/-- an expression, then what is made of its value -/
theorem DE.go {X : Cx} {W : WX} {e : Expr} {f : FE} {t : TE} (h : ∀ θ σ ρ H S Q, Rl X.K X.w H θ S → SlV X.K H θ ρ σ → PostV X.K X.w X.mg θ H (f ρ S) Q (fun c d H' => W c d σ H') → t σ H Q)
    {θ : List Addr} {σ : St} {ρ : Env} {H : Hp} {S : Sto} {Q : VK} (r : Rl X.K X.w H θ S) (sl : SlV X.K H θ ρ σ)
    (hno : f ρ S ≠ .no) (hex : ∀ c S', f ρ S = .ex c S' → ∀ θ' H' cls dd, Fut H θ H' θ' → Rl X.K X.w H' θ' S' → ExR X.K X.mg H' θ' c cls dd → W cls dd σ H')
    (hok : ∀ d S', f ρ S = .ok d S' → ∀ θ' H' v, Fut H θ H' θ' → Rl X.K X.w H' θ' S' → SlV X.K H' θ' ρ σ → DV X.K H' θ' d v → Q v H') : t σ H Q := by
  refine h θ σ ρ H S Q r sl ?_
  cases e : f ρ S with
  | ok d S' => exact fun θ' H' v g r' dv => hok d S' e θ' H' v g r' (sl.later g) dv
  | ex c S' => exact fun θ' H' cls dd g r' x => hex c S' e θ' H' cls dd g r' x
  | no => exact hno e
end Y

set_option Elab.async false
set_option linter.all false
set_option maxRecDepth 100000
set_option maxHeartbeats 2000000
/-! Y, expressions. -/
namespace Y
open PySem L2

/-! ### combinators -/
def fVar (i : Nat) : FE := fun ρ S => match ρ[i]? with
  | some (some d) => .ok d S
  | _ => .no
def fC (d : D) : FE := fun _ S => .ok d S
abbrev OpF := D → D → Sto → R D
def fBin (op : OpF) (fa fb : FE) : FE := fun ρ S => (fa ρ S).bind fun x S1 => (fb ρ S1).bind fun y S2 => op x y S2
def fUn (op : D → Sto → R D) (fa : FE) : FE := fun ρ S => (fa ρ S).bind op
def faNil : FA := fun _ S => .ok [] S
def faCons (fa : FE) (fr : FA) : FA := fun ρ S => (fa ρ S).bind fun x S1 => (fr ρ S1).bind fun xs S2 => .ok (x :: xs) S2
def fTup (fa : FA) : FE := fun ρ S => (fa ρ S).bind fun xs S1 => if xs.length ≤ sizeLine then .ok (.tup xs) S1 else .no
def fLst (fa : FA) : FE := fun ρ S => (fa ρ S).bind fun xs S1 => if xs.length ≤ sizeLine then .ok (.ref S1.length) (S1 ++ [.lst xs]) else .no
def fIf (ft : FT) (fa fb : FE) : FE := fun ρ S => (ft ρ S).bind fun c S1 => if c = true then fa ρ S1 else fb ρ S1
/-- truth -/
def truD (x : D) (S : Sto) : R Bool := match x with
  | .non => .ok false S
  | .bl b => .ok b S
  | .int i => .ok (i != 0) S
  | .str y => if y.length ≤ sizeLine then .ok ((y.length : Int) != 0) S else .no
  | .tup ds => .ok (!ds.isEmpty) S
  | .ro ds => .ok (!ds.isEmpty) S
  | .ref i => match S[i]? with
    | some (.lst ds) => .ok (!ds.isEmpty) S
    | some (.dK ds) => .ok (!ds.isEmpty) S
    | _ => .no
def ftTru (fa : FE) : FT := fun ρ S => (fa ρ S).bind truD
def ftNot (ft : FT) : FT := fun ρ S => (ft ρ S).bind fun c S1 => .ok (!c) S1
def ftAnd (ft fu : FT) : FT := fun ρ S => (ft ρ S).bind fun c S1 => if c = true then fu ρ S1 else .ok false S1
def ftOr (ft fu : FT) : FT := fun ρ S => (ft ρ S).bind fun c S1 => if c = true then .ok true S1 else fu ρ S1
def fAnd (fa fb : FE) : FE := fun ρ S => (fa ρ S).bind fun x S1 => (truD x S1).bind fun c S2 => if c = true then fb ρ S2 else .ok x S2
def fOr (fa fb : FE) : FE := fun ρ S => (fa ρ S).bind fun x S1 => (truD x S1).bind fun c S2 => if c = true then .ok x S2 else fb ρ S2
def fNot (fa : FE) : FE := fun ρ S => (fa ρ S).bind fun x S1 => (truD x S1).bind fun c S2 => .ok (.bl (!c)) S2
/-- a comparison as a test: a bool -/
def asB (x : D) (S : Sto) : R Bool := match x with
  | .bl b => .ok b S
  | _ => .no
def ftB (fa : FE) : FT := fun ρ S => (fa ρ S).bind asB

section
variable {X : Cx} {W : WX} {a b c e : Expr} {es : List Expr} {fa fb fe : FE} {fas : FA} {ft fu : FT} {pos : Pos}

theorem de_var (i : Nat) {x : Str} (hN : X.N[i]? = some x := by rfl) (hv : Vis X.env.scope x := by first | exact Or.inl rfl | exact Or.inr (Or.inl rfl) | exact Or.inr (Or.inr rfl)) (hd : (x == ("__debug__" : Str)) = false := by decide)
    (hcd : (x == ("__classdict__" : Str)) = false := by decide) : DE X W (.Name x pos) (fVar i) := by
  refine ⟨_, pe_var hN hv hd hcd, fun θ σ ρ H S Q r sl h => ?_⟩
  unfold fVar at h
  cases e : ρ[i]? with
  | none => rw [e] at h; exact h.elim
  | some o =>
    cases o with
    | none => rw [e] at h; exact h.elim
    | some d =>
      rw [e] at h
      obtain ⟨v, hv, dv⟩ := sl.2 i d e
      exact ⟨v, hv, h θ H v .refl r dv⟩
theorem de_int {i : Int} {j : Nat} : DE X W (.Constant (.int i) j pos) (fC (.int i)) := ⟨_, pe_int, fun θ σ ρ H S Q r sl h => h θ H _ .refl r rfl⟩
theorem de_bl {i : Bool} {j : Nat} : DE X W (.Constant (.bool i) j pos) (fC (.bl i)) := ⟨_, pe_bl, fun θ σ ρ H S Q r sl h => h θ H _ .refl r rfl⟩
theorem de_non {j : Nat} : DE X W (.Constant .none j pos) (fC .non) := ⟨_, pe_non, fun θ σ ρ H S Q r sl h => h θ H _ .refl r rfl⟩
theorem de_str {x : Str} {j : Nat} : DE X W (.Constant (.str x) j pos) (fC (.str x)) := ⟨_, pe_str, fun θ σ ρ H S Q r sl h => h θ H _ .refl r rfl⟩
/-- a constant of the module: an int, a text, a written tuple -/
def GC (K : PySem.W.Frag) (mg : Str → Option Value) (x : Str) (d : D) : Prop := ∃ u v, mg x = some u ∧ RelV v u ∧ ∀ H θ, DV K H θ d v
theorem de_glob {x : Str} {d : D} (hg : Gl X x) (h : GC X.K X.mg x d) (hd : (x == ("__debug__" : Str)) = false := by decide) : DE X W (.Name x pos) (fC d) := by
  obtain ⟨u, v, hm, rv, dv⟩ := h
  exact ⟨_, pe_glob hg hm rv hd, fun θ σ ρ H S Q r sl h => h θ H _ .refl r (dv H θ)⟩

/-- two in a row -/
theorem two {ta tb : TE} (qa : ∀ θ σ ρ H S Q, Rl X.K X.w H θ S → SlV X.K H θ ρ σ → PostV X.K X.w X.mg θ H (fa ρ S) Q (fun c d H' => W c d σ H') → ta σ H Q)
    (qb : ∀ θ σ ρ H S Q, Rl X.K X.w H θ S → SlV X.K H θ ρ σ → PostV X.K X.w X.mg θ H (fb ρ S) Q (fun c d H' => W c d σ H') → tb σ H Q)
    {θ : List Addr} {σ : L2.St} {ρ : Env} {H : Hp} {S : Sto} {Q : VK} {op : OpF} {G : V → V → Hp → Prop} (r : Rl X.K X.w H θ S) (sl : SlV X.K H θ ρ σ)
    (h : PostV X.K X.w X.mg θ H (fBin op fa fb ρ S) Q (fun c d H' => W c d σ H'))
    (hg : ∀ θ2 H2 S2 x y v w, Fut H θ H2 θ2 → Rl X.K X.w H2 θ2 S2 → SlV X.K H2 θ2 ρ σ → DV X.K H2 θ2 x v → DV X.K H2 θ2 y w → PostV X.K X.w X.mg θ2 H2 (op x y S2) Q (fun c d H' => W c d σ H') → G v w H2) :
    ta σ H fun v H1 => tb σ H1 fun w H2 => G v w H2 := by
  refine qa θ σ ρ H S _ r sl ?_
  unfold fBin at h
  cases ea : fa ρ S with
  | no => rw [ea] at h; exact h
  | ex c S' => rw [ea] at h; exact h
  | ok x S1 =>
    rw [ea] at h
    intro θ1 H1 v f1 r1 dv1
    refine qb θ1 σ ρ H1 S1 _ r1 (sl.later f1) ?_
    have h : PostV X.K X.w X.mg θ H ((fb ρ S1).bind fun y S2 => op x y S2) Q (fun c d H' => W c d σ H') := h
    cases eb : fb ρ S1 with
    | no => rw [eb] at h; exact h
    | ex c S' =>
      rw [eb] at h
      exact PostV.since f1 h
    | ok y S2 =>
      rw [eb] at h
      intro θ2 H2 w f2 r2 dv2
      exact hg θ2 H2 S2 x y v w (f1.trans f2) r2 (sl.later (f1.trans f2)) (DV.later f2 _ _ dv1) dv2 (PostV.since (f1.trans f2) h)
/-- an operator on data, by a rule -/
def OpD (X : Cx) (r : R2) (op : OpF) : Prop := ∀ θ H S x y v w (Q : VK) (E : XK), Rl X.K X.w H θ S → DV X.K H θ x v → DV X.K H θ y w → PostV X.K X.w X.mg θ H (op x y S) Q E → r v w H Q
theorem de_bin {op : Operator} {r : R2} {od : OpF} (ho : OpR X (binaryOp op) r) (hd : OpD X r od) (ha : DE X W a fa) (hb : DE X W b fb) : DE X W (.BinOp a op b pos) (fBin od fa fb) := by
  obtain ⟨ta, pa, qa⟩ := ha
  obtain ⟨tb, pb, qb⟩ := hb
  exact ⟨_, pe_op ho pa pb, fun θ σ ρ H S Q r sl h => two qa qb r sl h fun θ2 H2 S2 x y v w f r2 sl2 d1 d2 p => hd θ2 H2 S2 x y v w Q _ r2 d1 d2 p⟩
theorem de_cmp {op : CmpOp} {r : R2} {od : OpF} (ho : OpR X (compareOp op) r) (hd : OpD X r od) (ha : DE X W a fa) (hb : DE X W b fb) (hm : behindInMarks op b = false) : DE X W (.Compare a [op] [b] pos) (fBin od fa fb) := by
  obtain ⟨ta, pa, qa⟩ := ha
  obtain ⟨tb, pb, qb⟩ := hb
  exact ⟨_, pe_cmpR ho pa pb hm, fun θ σ ρ H S Q r sl h => two qa qb r sl h fun θ2 H2 S2 x y v w f r2 sl2 d1 d2 p => hd θ2 H2 S2 x y v w Q _ r2 d1 d2 p⟩
theorem dt_cmp {op : CmpOp} {r : R2} {od : OpF} (ho : OpR X (compareOp op) r) (hd : OpD X r od) (ha : DE X W a fa) (hb : DE X W b fb) (hm : behindInMarks op b = false) : DT X W (.Compare a [op] [b] pos) (ftB (fBin od fa fb)) := by
  obtain ⟨ta, pa, qa⟩ := ha
  obtain ⟨tb, pb, qb⟩ := hb
  refine ⟨_, pt_cmpR ho pa pb hm, fun θ σ ρ H S Q r sl h => ?_⟩
  have h2 : PostV X.K X.w X.mg θ H (fBin od fa fb ρ S) (fun x H' => ∃ k, x = .bl k ∧ Q k H') (fun c d H' => W c d σ H') := by
    unfold ftB at h
    cases e : fBin od fa fb ρ S with
    | no => rw [e] at h; exact h
    | ex c S' => rw [e] at h; exact h
    | ok d S' =>
      rw [e] at h
      have h : PostB X.K X.w X.mg θ H (asB d S') Q _ := h
      intro θ' H' v f r' dv
      cases d <;> first | exact h.elim | skip
      exact ⟨_, dv, h θ' H' f r'⟩
  exact two qa qb r sl h2 fun θ2 H2 S2 x y v w f r2 sl2 d1 d2 p => hd θ2 H2 S2 x y v w _ _ r2 d1 d2 p
/-- a unary operator -/
theorem one {ta : TE} (qa : ∀ θ σ ρ H S Q, Rl X.K X.w H θ S → SlV X.K H θ ρ σ → PostV X.K X.w X.mg θ H (fa ρ S) Q (fun c d H' => W c d σ H') → ta σ H Q)
    {θ : List Addr} {σ : L2.St} {ρ : Env} {H : Hp} {S : Sto} {Q : VK} {op : D → Sto → R D} {G : V → Hp → Prop} (r : Rl X.K X.w H θ S) (sl : SlV X.K H θ ρ σ)
    (h : PostV X.K X.w X.mg θ H (fUn op fa ρ S) Q (fun c d H' => W c d σ H'))
    (hg : ∀ θ2 H2 S2 x v, Fut H θ H2 θ2 → Rl X.K X.w H2 θ2 S2 → SlV X.K H2 θ2 ρ σ → DV X.K H2 θ2 x v → PostV X.K X.w X.mg θ2 H2 (op x S2) Q (fun c d H' => W c d σ H') → G v H2) :
    ta σ H fun v H1 => G v H1 := by
  refine qa θ σ ρ H S _ r sl ?_
  unfold fUn at h
  cases ea : fa ρ S with
  | no => rw [ea] at h; exact h
  | ex c S' => rw [ea] at h; exact h
  | ok x S1 =>
    rw [ea] at h
    intro θ1 H1 v f1 r1 dv1
    exact hg θ1 H1 S1 x v f1 r1 (sl.later f1) dv1 (PostV.since f1 h)
def dNeg (x : D) (S : Sto) : R D := match x with
  | .int i => .ok (.int (-i)) S
  | _ => .no
theorem de_neg (ha : DE X W a fa) : DE X W (.UnaryOp .USub a pos) (fUn dNeg fa) := by
  obtain ⟨ta, pa, qa⟩ := ha
  refine ⟨_, pe_un un_neg pa, fun θ σ ρ H S Q r sl h => one qa r sl h fun θ2 H2 S2 x v f r2 sl2 d1 p => ?_⟩
  cases x <;> first | exact p.elim | skip
  exact ⟨_, d1, p θ2 H2 _ .refl r2 rfl⟩

/-! ### arguments, displays -/
theorem da_nil : DA X W [] faNil := ⟨_, pa_nil, fun θ σ ρ H S Q r sl h => h θ H [] .refl r rfl⟩
theorem da_cons (ha : DE X W e fe) (hr : DA X W es fas) (hs : starEach (e :: es) X.env = (false, eval e X.env) :: starEach es X.env := by rfl) : DA X W (e :: es) (faCons fe fas) := by
  obtain ⟨ta, pa, qa⟩ := ha
  obtain ⟨tb, pb, qb⟩ := hr
  refine ⟨_, pa_cons pa pb hs, fun θ σ ρ H S Q r sl h => ?_⟩
  refine qa θ σ ρ H S _ r sl ?_
  unfold faCons at h
  cases ea : fe ρ S with
  | no => rw [ea] at h; exact h
  | ex c S' => rw [ea] at h; exact h
  | ok x S1 =>
    rw [ea] at h
    intro θ1 H1 v f1 r1 dv1
    refine qb θ1 σ ρ H1 S1 _ r1 (sl.later f1) ?_
    have h : PostA X.K X.w X.mg θ H ((fas ρ S1).bind fun y S2 => .ok (x :: y) S2) Q (fun c d H' => W c d σ H') := h
    cases eb : fas ρ S1 with
    | no => rw [eb] at h; exact h
    | ex c S' =>
      rw [eb] at h
      exact PostA.since f1 h
    | ok y S2 =>
      rw [eb] at h
      intro θ2 H2 w f2 r2 dv2
      exact h θ2 H2 _ (f1.trans f2) r2 ⟨v, w, rfl, DV.later f2 _ _ dv1, dv2⟩
/-- arguments, then what is made of them -/
theorem args {ta : TA} (qa : ∀ θ σ ρ H S Q, Rl X.K X.w H θ S → SlV X.K H θ ρ σ → PostA X.K X.w X.mg θ H (fas ρ S) Q (fun c d H' => W c d σ H') → ta σ H Q)
    {θ : List Addr} {σ : L2.St} {ρ : Env} {H : Hp} {S : Sto} {Q : VK} {op : List D → Sto → R D} {G : List V → Hp → Prop} (r : Rl X.K X.w H θ S) (sl : SlV X.K H θ ρ σ)
    (h : PostV X.K X.w X.mg θ H ((fas ρ S).bind op) Q (fun c d H' => W c d σ H'))
    (hg : ∀ θ2 H2 S2 xs vs, Fut H θ H2 θ2 → Rl X.K X.w H2 θ2 S2 → SlV X.K H2 θ2 ρ σ → DVs X.K H2 θ2 xs vs → PostV X.K X.w X.mg θ2 H2 (op xs S2) Q (fun c d H' => W c d σ H') → G vs H2) :
    ta σ H fun v H1 => G v H1 := by
  refine qa θ σ ρ H S _ r sl ?_
  cases ea : fas ρ S with
  | no => rw [ea] at h; exact h
  | ex c S' => rw [ea] at h; exact h
  | ok x S1 =>
    rw [ea] at h
    intro θ1 H1 v f1 r1 dv1
    exact hg θ1 H1 S1 x v f1 r1 (sl.later f1) dv1 (PostV.since f1 h)
theorem de_tup {x1} (ha : DA X W es fas) : DE X W (.Tuple es x1 pos) (fTup fas) := by
  obtain ⟨ta, pa, qa⟩ := ha
  refine ⟨_, pe_tup pa, fun θ σ ρ H S Q r sl h => args qa r sl h fun θ2 H2 S2 xs vs f r2 sl2 d1 p => ?_⟩
  by_cases hz : xs.length ≤ sizeLine
  · simp only [hz, if_true] at p
    refine ⟨by rw [d1.length]; exact hz, fun q hq => ?_⟩
    exact p θ2 _ _ (Fut.new hq) (r2.new hq) ⟨q, vs, rfl, SqT.of upd_same, DVs.later (Fut.new hq) _ _ d1⟩
  · simp only [hz, if_false] at p
    exact p.elim
theorem de_lst (ha : DA X W es fas) : DE X W (.List es pos) (fLst fas) := by
  obtain ⟨ta, pa, qa⟩ := ha
  refine ⟨_, pe_lst pa, fun θ σ ρ H S Q r sl h => args qa r sl h fun θ2 H2 S2 xs vs f r2 sl2 d1 p => ?_⟩
  by_cases hz : xs.length ≤ sizeLine
  · simp only [hz, if_true] at p
    refine ⟨by rw [d1.length]; exact hz, fun q hq => ?_⟩
    have f2 : Fut H2 θ2 (upd H2 q (.lst vs)) (θ2 ++ [q]) := Fut.newN hq
    exact p _ _ _ f2 (r2.newN hq ⟨vs, upd_same, DVs.later f2 _ _ d1⟩) ⟨q, rfl, by rw [← r2.len]; simp⟩
  · simp only [hz, if_false] at p
    exact p.elim

/-! ### tests -/
theorem truV_of {θ : List Addr} {H : Hp} {S : Sto} {x : D} {v : V} {k : Bool} {S' : Sto} (r : Rl X.K X.w H θ S) (d : DV X.K H θ x v) (h : truD x S = .ok k S') : S' = S ∧ TruV X.K v H k := by
  cases x with
  | non => cases h; obtain rfl : v = .non := d; exact ⟨rfl, rfl⟩
  | bl b => cases h; obtain rfl : v = .bl k := d; exact ⟨rfl, rfl⟩
  | int i => cases h; obtain rfl : v = .int i := d; exact ⟨rfl, rfl⟩
  | str y =>
    obtain rfl : v = .str y := d
    unfold truD at h
    by_cases hz : y.length ≤ sizeLine
    · simp only [hz, if_true] at h; cases h; exact ⟨rfl, hz, rfl⟩
    · simp only [hz, if_false] at h; cases h
  | tup ds =>
    cases h
    obtain ⟨a, vs, rfl, hs, dv⟩ := d
    refine ⟨rfl, .inr (.inl ⟨vs, hs, ?_⟩)⟩
    have := dv.length
    cases ds <;> cases vs <;> simp_all
  | ro ds =>
    cases h
    obtain ⟨a, vs, rfl, hs, dv⟩ := d
    refine ⟨rfl, .inl ⟨vs, hs.seq, ?_⟩⟩
    have := dv.length
    cases ds <;> cases vs <;> simp_all
  | ref i =>
    obtain ⟨a, rfl, ha⟩ := d
    unfold truD at h
    cases e : S[i]? with
    | none => simp only [e] at h; cases h
    | some o =>
      have q := r.at_ i o a e ha
      cases o with
      | lst ds =>
        simp only [e] at h; cases h
        obtain ⟨vs, hv, dv⟩ := q
        refine ⟨rfl, .inl ⟨vs, SqL.of hv, ?_⟩⟩
        have := dv.length
        cases ds <;> cases vs <;> simp_all
      | dK ds =>
        simp only [e] at h; cases h
        obtain ⟨vs, hv, _, dv⟩ := q
        refine ⟨rfl, .inr (.inr ⟨vs, hv, ?_⟩)⟩
        have := dv.length
        simp only [List.length_map] at this
        cases ds <;> cases vs <;> simp_all
      | dN ds => simp only [e] at h; cases h
theorem truD_ne {x : D} {S : Sto} : ∀ c S', truD x S ≠ .ex c S' := by
  intro c S' h
  unfold truD at h
  repeat' split at h
  all_goals cases h
theorem dt_tru (ha : DE X W a fa) (he : ∀ whole, isTrue a X.env whole = (do let v ← whole; standAt a.pos; holding [v] (truthy v)) := by intro _; rfl) : DT X W a (ftTru fa) := by
  obtain ⟨ta, pa, qa⟩ := ha
  refine ⟨_, pt_truth pa he, fun θ σ ρ H S Q r sl h => ?_⟩
  refine qa θ σ ρ H S _ r sl ?_
  unfold ftTru at h
  cases ea : fa ρ S with
  | no => rw [ea] at h; exact h
  | ex c S' => rw [ea] at h; exact h
  | ok x S1 =>
    rw [ea] at h
    intro θ1 H1 v f1 r1 dv1
    have h : PostB X.K X.w X.mg θ H (truD x S1) Q _ := h
    cases et : truD x S1 with
    | no => rw [et] at h; exact h.elim
    | ex c S' => exact absurd et (truD_ne _ _)
    | ok k S' =>
      obtain ⟨rfl, t⟩ := truV_of r1 dv1 et
      rw [et] at h
      exact ⟨k, t, h θ1 H1 f1 r1⟩
theorem dt_not (ha : DT X W a ft) : DT X W (.UnaryOp .Not a pos) (ftNot ft) := by
  obtain ⟨ta, pa, qa⟩ := ha
  refine ⟨_, pt_not pa, fun θ σ ρ H S Q r sl h => ?_⟩
  refine qa θ σ ρ H S _ r sl ?_
  unfold ftNot at h
  cases ea : ft ρ S with
  | no => rw [ea] at h; exact h
  | ex c S' => rw [ea] at h; exact h
  | ok x S1 => rw [ea] at h; exact h
end
section
variable {X : Cx} {W : WX} {a b c e : Expr} {es : List Expr} {fa fb fe : FE} {fas : FA} {ft fu : FT} {pos : Pos}
/-- and, or as tests, whatever stands around -/
def DW (X : Cx) (W : WX) (e : Expr) (f : FT) : Prop := ∃ t, PW X e t ∧ ∀ θ σ ρ H S Q, Rl X.K X.w H θ S → SlV X.K H θ ρ σ → PostB X.K X.w X.mg θ H (f ρ S) Q (fun c d H' => W c d σ H') → t σ H Q
theorem DW.dt (h : DW X W e ft) : DT X W e ft := let ⟨t, p, q⟩ := h; ⟨t, p.pt, q⟩
theorem dw_and1 (ha : DT X W a ft) : DW X W (.BoolOp .And [a] pos) ft := let ⟨t, p, q⟩ := ha; ⟨t, pw_and1 p, q⟩
theorem dw_or1 (ha : DT X W a ft) : DW X W (.BoolOp .Or [a] pos) ft := let ⟨t, p, q⟩ := ha; ⟨t, pw_or1 p, q⟩
theorem dw_and (ha : DT X W a ft) (hb : DW X W (.BoolOp .And (b :: es) pos) fu) : DW X W (.BoolOp .And (a :: b :: es) pos) (ftAnd ft fu) := by
  obtain ⟨ta, pa, qa⟩ := ha
  obtain ⟨tb, pb, qb⟩ := hb
  refine ⟨_, pw_and pa pb, fun θ σ ρ H S Q r sl h => ?_⟩
  refine qa θ σ ρ H S _ r sl ?_
  unfold ftAnd at h
  cases ea : ft ρ S with
  | no => rw [ea] at h; exact h
  | ex c S' => rw [ea] at h; exact h
  | ok x S1 =>
    rw [ea] at h
    intro θ1 H1 f1 r1
    have h : PostB X.K X.w X.mg θ H (if x = true then fu ρ S1 else .ok false S1) Q _ := h
    cases x with
    | true => rw [if_pos rfl] at h ⊢; exact qb θ1 σ ρ H1 S1 _ r1 (sl.later f1) (PostB.since f1 h)
    | false => rw [if_neg (by decide)] at h ⊢; exact h θ1 H1 f1 r1
theorem dw_or (ha : DT X W a ft) (hb : DW X W (.BoolOp .Or (b :: es) pos) fu) : DW X W (.BoolOp .Or (a :: b :: es) pos) (ftOr ft fu) := by
  obtain ⟨ta, pa, qa⟩ := ha
  obtain ⟨tb, pb, qb⟩ := hb
  refine ⟨_, pw_or pa pb, fun θ σ ρ H S Q r sl h => ?_⟩
  refine qa θ σ ρ H S _ r sl ?_
  unfold ftOr at h
  cases ea : ft ρ S with
  | no => rw [ea] at h; exact h
  | ex c S' => rw [ea] at h; exact h
  | ok x S1 =>
    rw [ea] at h
    intro θ1 H1 f1 r1
    have h : PostB X.K X.w X.mg θ H (if x = true then .ok true S1 else fu ρ S1) Q _ := h
    cases x with
    | false => rw [if_neg (by decide)] at h ⊢; exact qb θ1 σ ρ H1 S1 _ r1 (sl.later f1) (PostB.since f1 h)
    | true => rw [if_pos rfl] at h ⊢; exact h θ1 H1 f1 r1
theorem de_if (hc : DT X W c ft) (ha : DE X W a fa) (hb : DE X W b fb) : DE X W (.IfExp c a b pos) (fIf ft fa fb) := by
  obtain ⟨tc, pc, qc⟩ := hc
  obtain ⟨ta, pa, qa⟩ := ha
  obtain ⟨tb, pb, qb⟩ := hb
  refine ⟨_, pe_ifExp pc pa pb, fun θ σ ρ H S Q r sl h => ?_⟩
  refine qc θ σ ρ H S _ r sl ?_
  unfold fIf at h
  cases ea : ft ρ S with
  | no => rw [ea] at h; exact h
  | ex c S' => rw [ea] at h; exact h
  | ok x S1 =>
    rw [ea] at h
    intro θ1 H1 f1 r1
    have h : PostV X.K X.w X.mg θ H (if x = true then fa ρ S1 else fb ρ S1) Q _ := h
    cases x with
    | false => rw [if_neg (by decide)] at h ⊢; exact qb θ1 σ ρ H1 S1 _ r1 (sl.later f1) (PostV.since f1 h)
    | true => rw [if_pos rfl] at h ⊢; exact qa θ1 σ ρ H1 S1 _ r1 (sl.later f1) (PostV.since f1 h)
/-- one value, its truth -/
theorem truTwo {θ : List Addr} {σ : L2.St} {ρ : Env} {H : Hp} {S : Sto} {Q : VK} {G : V → Hp → Prop} {g : D → Bool → Sto → R D} {ta : TE} (qa : ∀ θ σ ρ H S Q, Rl X.K X.w H θ S → SlV X.K H θ ρ σ → PostV X.K X.w X.mg θ H (fa ρ S) Q (fun c d H' => W c d σ H') → ta σ H Q)
    (r : Rl X.K X.w H θ S) (sl : SlV X.K H θ ρ σ) (h : PostV X.K X.w X.mg θ H ((fa ρ S).bind fun x S1 => (truD x S1).bind fun c S2 => g x c S2) Q (fun c d H' => W c d σ H'))
    (hg : ∀ θ2 H2 S2 x v k, Fut H θ H2 θ2 → Rl X.K X.w H2 θ2 S2 → SlV X.K H2 θ2 ρ σ → DV X.K H2 θ2 x v → TruV X.K v H2 k → PostV X.K X.w X.mg θ2 H2 (g x k S2) Q (fun c d H' => W c d σ H') → G v H2) : ta σ H fun v H1 => G v H1 := by
  refine one (fa := fa) (op := fun x S1 => (truD x S1).bind fun c S2 => g x c S2) qa r sl h fun θ2 H2 S2 x v f r2 sl2 d1 p => ?_
  cases et : truD x S2 with
  | no => rw [et] at p; exact p.elim
  | ex c S' => exact absurd et (truD_ne _ _)
  | ok k S' =>
    obtain ⟨rfl, t⟩ := truV_of r2 d1 et
    rw [et] at p
    exact hg θ2 H2 _ x v k f r2 sl2 d1 t p
theorem de_one {op} (ha : DE X W a fa) : DE X W (.BoolOp op [a] pos) fa := let ⟨t, p, q⟩ := ha; ⟨t, pe_one p, q⟩
theorem de_and (ha : DE X W a fa) (hb : DE X W (.BoolOp .And (b :: es) pos) fb) : DE X W (.BoolOp .And (a :: b :: es) pos) (fAnd fa fb) := by
  obtain ⟨ta, pa, qa⟩ := ha
  obtain ⟨tb, pb, qb⟩ := hb
  refine ⟨_, pe_andT pa pb, fun θ σ ρ H S Q r sl h => truTwo (ta := ta) qa r sl h fun θ2 H2 S2 x v k f r2 sl2 d1 t p => ⟨k, t, ?_⟩⟩
  cases k with
  | true => rw [if_pos rfl] at p ⊢; exact qb θ2 σ ρ H2 S2 Q r2 sl2 p
  | false => rw [if_neg (by decide)] at p ⊢; exact p θ2 H2 v .refl r2 d1
theorem de_or (ha : DE X W a fa) (hb : DE X W (.BoolOp .Or (b :: es) pos) fb) : DE X W (.BoolOp .Or (a :: b :: es) pos) (fOr fa fb) := by
  obtain ⟨ta, pa, qa⟩ := ha
  obtain ⟨tb, pb, qb⟩ := hb
  refine ⟨_, pe_orT pa pb, fun θ σ ρ H S Q r sl h => truTwo (ta := ta) qa r sl h fun θ2 H2 S2 x v k f r2 sl2 d1 t p => ⟨k, t, ?_⟩⟩
  cases k with
  | false => rw [if_neg (by decide)] at p ⊢; exact qb θ2 σ ρ H2 S2 Q r2 sl2 p
  | true => rw [if_pos rfl] at p ⊢; exact p θ2 H2 v .refl r2 d1
theorem de_not (ha : DE X W a fa) : DE X W (.UnaryOp .Not a pos) (fNot fa) := by
  obtain ⟨ta, pa, qa⟩ := ha
  refine ⟨_, pe_notT pa, fun θ σ ρ H S Q r sl h => truTwo (ta := ta) qa r sl h fun θ2 H2 S2 x v k f r2 sl2 d1 t p => ⟨k, t, ?_⟩⟩
  exact p θ2 H2 _ .refl r2 rfl
end
end Y

set_option Elab.async false
set_option linter.all false
set_option maxRecDepth 100000
set_option maxHeartbeats 2000000
/-! Y, operators on data. -/
namespace Y
open PySem L2

instance (a b : Int) : Decidable (IntMulOk a b) := by unfold IntMulOk; infer_instance
instance (x : Str) (n : Int) : Decidable (MulOk x n) := by unfold MulOk; infer_instance

/-! ### ints and others -/
def dAdd : OpF := fun x y S => match x, y with
  | .int i, .int j => .ok (.int (i + j)) S
  | .str a, .str b => if a.length + b.length ≤ sizeLine then .ok (.str (a ++ b)) S else .no
  | .tup a, .tup b => if a.length + b.length ≤ sizeLine then .ok (.tup (a ++ b)) S else .no
  | .ref i, .ref j => match S[i]?, S[j]? with
    | some (.lst a), some (.lst b) => if a.length + b.length ≤ sizeLine then .ok (.ref S.length) (S ++ [.lst (a ++ b)]) else .no
    | _, _ => .no
  | _, _ => .no
def dSub : OpF := fun x y S => match x, y with
  | .int i, .int j => .ok (.int (i - j)) S
  | _, _ => .no
def dMul : OpF := fun x y S => match x, y with
  | .int i, .int j => if IntMulOk i j then .ok (.int (i * j)) S else .no
  | .ref i, .int k => match S[i]? with
    | some (.lst a) => if -(2 ^ 63) ≤ k ∧ k < 2 ^ 63 ∧ a.length * k.toNat ≤ sizeLine then .ok (.ref S.length) (S ++ [.lst (List.replicate k.toNat a).flatten]) else .no
    | _ => .no
  | .str a, .int k => if MulOk a k then .ok (.str (Txt.mul a k)) S else .no
  | _, _ => .no
def dFdiv : OpF := fun x y S => match x, y with
  | .int i, .int j => if j ≠ 0 ∧ Builtin.divisionGoesByPylong i j = false then .ok (.int (i.fdiv j)) S else .no
  | _, _ => .no
def dMod : OpF := fun x y S => match x, y with
  | .int i, .int j => if j ≠ 0 then .ok (.int (i.fmod j)) S else .no
  | _, _ => .no
def dPow : OpF := fun x y S => match x, y with
  | .int i, .int j => if 0 ≤ j ∧ (Builtin.Int.intBits i : Int) * j ≤ 2 ^ 27 then .ok (.int (i ^ j.toNat)) S else .no
  | _, _ => .no
def dAnd : OpF := fun x y S => match x, y with
  | .int i, .int j => .ok (.int (Builtin.bitAnd i j)) S
  | _, _ => .no
section
variable {X : Cx}
theorem op_mulI : OpR X (binaryOp .Mult) (rI IntMulOk fun i j => .int (i * j)) := opI fun _ _ _ _ _ _ _ hc q => PyProof.Rows.mul_int q hc
theorem op_fdivI : OpR X (binaryOp .FloorDiv) (rI (fun i j => j ≠ 0 ∧ Builtin.divisionGoesByPylong i j = false) fun i j => .int (i.fdiv j)) := opI fun _ _ _ _ _ _ _ hc q => PyProof.Rows.floordiv_int hc.1 q (.inl hc.2)
theorem op_powI : OpR X (binaryOp .Pow) (rI (fun i j => 0 ≤ j ∧ (Builtin.Int.intBits i : Int) * j ≤ 2 ^ 27) fun i j => .int (i ^ j.toNat)) := opI fun _ _ _ _ _ _ _ hc q => PyProof.Rows.pow_int hc.1 hc.2 q
theorem op_mul_str : OpR X (binaryOp .Mult) (fun x y H Q => ∃ i j, x = .str i ∧ y = .int j ∧ MulOk i j ∧ Q (.str (Txt.mul i j)) H) := by
  intro pins s σ H x y v u Q I rx ry h
  obtain ⟨i, j, rfl, rfl, hc, q⟩ := h
  obtain ⟨t, rfl⟩ := rx
  obtain ⟨t', rfl⟩ := ry
  exact SB.mul hc fun t' k => ⟨.str _, H, I.tok _, ⟨_, rfl⟩, q⟩
abbrev rAddA (X : Cx) : R2 := fun x y H Q => (rI0 fun i j => .int (i + j)) x y H Q ∨ (∃ i j, x = .str i ∧ y = .str j ∧ i.length + j.length ≤ sizeLine ∧ Q (.str (i ++ j)) H) ∨ rCatA X.K x y H Q ∨ rCat x y H Q
theorem op_addA : OpR X (binaryOp .Add) (rAddA X) := op_add.or (op_add_str.or (op_catA.or op_cat))
theorem od_add : OpD X (rAddA X) dAdd := by
  intro θ H S x y v w Q E r d1 d2 p
  unfold dAdd at p
  cases x with
  | int i =>
    cases y <;> first | exact p.elim | skip
    exact .inl ⟨_, _, d1, d2, p θ H _ .refl r rfl⟩
  | str a =>
    cases y <;> first | exact p.elim | skip
    rename_i b
    by_cases hz : a.length + b.length ≤ sizeLine
    · simp only [hz, if_true] at p
      exact .inr (.inl ⟨_, _, d1, d2, hz, p θ H _ .refl r rfl⟩)
    · simp only [hz, if_false] at p; exact p.elim
  | tup a =>
    cases y <;> first | exact p.elim | skip
    rename_i b
    by_cases hz : a.length + b.length ≤ sizeLine
    · simp only [hz, if_true] at p
      obtain ⟨a1, vs, rfl, h1, e1⟩ := d1
      obtain ⟨a2, ws, rfl, h2, e2⟩ := d2
      have l1 := e1.length
      have l2 := e2.length
      refine .inr (.inr (.inl ⟨a1, a2, vs, ws, rfl, rfl, h1, h2, by omega, fun z => ?_, fun _ z => ?_, fun _ _ q hq => ?_⟩))
      · subst z
        have za : a = [] := by cases a with | nil => rfl | cons _ _ => simp at l1
        subst za
        exact p θ H _ .refl r ⟨a2, ws, rfl, h2, e2⟩
      · subst z
        have zb : b = [] := by cases b with | nil => rfl | cons _ _ => simp at l2
        subst zb
        exact p θ H _ .refl r ⟨a1, vs, rfl, h1, by rw [List.append_nil]; exact e1⟩
      · exact p θ _ _ (Fut.new hq) (r.new hq) ⟨q, vs ++ ws, rfl, SqT.of upd_same, DVs.later (Fut.new hq) _ _ (e1.append e2)⟩
    · simp only [hz, if_false] at p; exact p.elim
  | ref i =>
    cases y <;> first | exact p.elim | skip
    rename_i j
    obtain ⟨a1, rfl, h1⟩ := d1
    obtain ⟨a2, rfl, h2⟩ := d2
    cases e1 : S[i]? with
    | none => simp only [e1] at p; exact p.elim
    | some o1 =>
      cases o1 <;> (simp only [e1] at p) <;> first | exact p.elim | skip
      rename_i xs
      cases e2 : S[j]? with
      | none => simp only [e2] at p; exact p.elim
      | some o2 =>
        cases o2 <;> (simp only [e2] at p) <;> first | exact p.elim | skip
        rename_i ys
        by_cases hz : xs.length + ys.length ≤ sizeLine
        · simp only [hz, if_true] at p
          obtain ⟨vs, q1, f1⟩ := r.at_ i _ a1 e1 h1
          obtain ⟨ws, q2, f2⟩ := r.at_ j _ a2 e2 h2
          have l1 := f1.length
          have l2 := f2.length
          refine .inr (.inr (.inr ⟨a1, a2, vs, ws, rfl, rfl, q1, q2, by omega, fun q hq => ?_⟩))
          have f3 : Fut H θ (upd H q (.lst (vs ++ ws))) (θ ++ [q]) := Fut.newN hq
          exact p _ _ _ f3 (r.newN hq ⟨_, upd_same, DVs.later f3 _ _ (f1.append f2)⟩) ⟨q, rfl, by rw [← r.len]; simp⟩
        · simp only [hz, if_false] at p; exact p.elim
  | _ => exact p.elim
theorem od_sub : OpD X (rI0 fun i j => .int (i - j)) dSub := by
  intro θ H S x y v w Q E r d1 d2 p
  unfold dSub at p
  cases x <;> first | exact p.elim | skip
  cases y <;> first | exact p.elim | skip
  exact ⟨_, _, d1, d2, p θ H _ .refl r rfl⟩
abbrev rMulA (X : Cx) : R2 := fun x y H Q => (rI IntMulOk fun i j => .int (i * j)) x y H Q ∨ rRep x y H Q ∨ (∃ i j, x = .str i ∧ y = .int j ∧ MulOk i j ∧ Q (.str (Txt.mul i j)) H)
theorem op_mulA : OpR X (binaryOp .Mult) (rMulA X) := op_mulI.or (op_rep.or op_mul_str)
theorem DVs.rep {K : PySem.W.Frag} {H : Hp} {θ : List Addr} {ds : List D} {vs : List V} (h : DVs K H θ ds vs) : ∀ n : Nat, DVs K H θ (List.replicate n ds).flatten (List.replicate n vs).flatten
  | 0 => rfl
  | n + 1 => by
    rw [List.replicate_succ, List.replicate_succ, List.flatten_cons, List.flatten_cons]
    exact h.append (DVs.rep h n)
theorem od_mul : OpD X (rMulA X) dMul := by
  intro θ H S x y v w Q E r d1 d2 p
  unfold dMul at p
  cases x with
  | int i =>
    cases y <;> first | exact p.elim | skip
    rename_i j
    by_cases hz : IntMulOk i j
    · simp only [hz, if_true] at p
      exact .inl ⟨_, _, d1, d2, hz, p θ H _ .refl r rfl⟩
    · simp only [hz, if_false] at p; exact p.elim
  | str a =>
    cases y <;> first | exact p.elim | skip
    rename_i k
    by_cases hz : MulOk a k
    · simp only [hz, if_true] at p
      exact .inr (.inr ⟨_, _, d1, d2, hz, p θ H _ .refl r rfl⟩)
    · simp only [hz, if_false] at p; exact p.elim
  | ref i =>
    cases y <;> first | exact p.elim | skip
    rename_i k
    obtain ⟨a1, rfl, h1⟩ := d1
    cases e1 : S[i]? with
    | none => simp only [e1] at p; exact p.elim
    | some o1 =>
      cases o1 <;> (simp only [e1] at p) <;> first | exact p.elim | skip
      rename_i xs
      obtain ⟨vs, q1, f1⟩ := r.at_ i _ a1 e1 h1
      have l1 := f1.length
      by_cases hz : -(2 ^ 63) ≤ k ∧ k < 2 ^ 63 ∧ xs.length * k.toNat ≤ sizeLine
      · rw [if_pos hz] at p
        refine .inr (.inl ⟨a1, k, vs, rfl, d2, q1, hz.1, hz.2.1, by rw [l1]; exact hz.2.2, fun q hq => ?_⟩)
        have f3 : Fut H θ (upd H q (.lst (List.replicate k.toNat vs).flatten)) (θ ++ [q]) := Fut.newN hq
        exact p _ _ _ f3 (r.newN hq ⟨_, upd_same, DVs.later f3 _ _ (f1.rep _)⟩) ⟨q, rfl, by rw [← r.len]; simp⟩
      · rw [if_neg hz] at p; exact p.elim
  | _ => exact p.elim
theorem od_fdiv : OpD X (rI (fun i j => j ≠ 0 ∧ Builtin.divisionGoesByPylong i j = false) fun i j => .int (i.fdiv j)) dFdiv := by
  intro θ H S x y v w Q E r d1 d2 p
  unfold dFdiv at p
  cases x <;> first | exact p.elim | skip
  cases y <;> first | exact p.elim | skip
  rename_i i j
  by_cases hz : j ≠ 0 ∧ Builtin.divisionGoesByPylong i j = false
  · dsimp only at p; rw [if_pos hz] at p
    exact ⟨_, _, d1, d2, hz, p θ H _ .refl r rfl⟩
  · dsimp only at p; rw [if_neg hz] at p; exact p.elim
theorem od_mod : OpD X (rI (fun _ j => j ≠ 0) fun i j => .int (i.fmod j)) dMod := by
  intro θ H S x y v w Q E r d1 d2 p
  unfold dMod at p
  cases x <;> first | exact p.elim | skip
  cases y <;> first | exact p.elim | skip
  rename_i i j
  by_cases hz : j ≠ 0
  · dsimp only at p; rw [if_pos hz] at p
    exact ⟨_, _, d1, d2, hz, p θ H _ .refl r rfl⟩
  · dsimp only at p; rw [if_neg hz] at p; exact p.elim
theorem od_pow : OpD X (rI (fun i j => 0 ≤ j ∧ (Builtin.Int.intBits i : Int) * j ≤ 2 ^ 27) fun i j => .int (i ^ j.toNat)) dPow := by
  intro θ H S x y v w Q E r d1 d2 p
  unfold dPow at p
  cases x <;> first | exact p.elim | skip
  cases y <;> first | exact p.elim | skip
  rename_i i j
  by_cases hz : 0 ≤ j ∧ (Builtin.Int.intBits i : Int) * j ≤ 2 ^ 27
  · dsimp only at p; rw [if_pos hz] at p
    exact ⟨_, _, d1, d2, hz, p θ H _ .refl r rfl⟩
  · dsimp only at p; rw [if_neg hz] at p; exact p.elim
theorem od_and : OpD X (rI0 fun i j => .int (Builtin.bitAnd i j)) dAnd := by
  intro θ H S x y v w Q E r d1 d2 p
  unfold dAnd at p
  cases x <;> first | exact p.elim | skip
  cases y <;> first | exact p.elim | skip
  exact ⟨_, _, d1, d2, p θ H _ .refl r rfl⟩
theorem de_add {W : WX} {a b : Expr} {fa fb : FE} {pos : Pos} (ha : DE X W a fa) (hb : DE X W b fb) : DE X W (.BinOp a .Add b pos) (fBin dAdd fa fb) := de_bin op_addA od_add ha hb
theorem de_sub {W : WX} {a b : Expr} {fa fb : FE} {pos : Pos} (ha : DE X W a fa) (hb : DE X W b fb) : DE X W (.BinOp a .Sub b pos) (fBin dSub fa fb) := de_bin op_sub od_sub ha hb
theorem de_mul {W : WX} {a b : Expr} {fa fb : FE} {pos : Pos} (ha : DE X W a fa) (hb : DE X W b fb) : DE X W (.BinOp a .Mult b pos) (fBin dMul fa fb) := de_bin op_mulA od_mul ha hb
theorem de_fdiv {W : WX} {a b : Expr} {fa fb : FE} {pos : Pos} (ha : DE X W a fa) (hb : DE X W b fb) : DE X W (.BinOp a .FloorDiv b pos) (fBin dFdiv fa fb) := de_bin op_fdivI od_fdiv ha hb
theorem de_mod {W : WX} {a b : Expr} {fa fb : FE} {pos : Pos} (ha : DE X W a fa) (hb : DE X W b fb) : DE X W (.BinOp a .Mod b pos) (fBin dMod fa fb) := de_bin op_modN od_mod ha hb
theorem de_pow {W : WX} {a b : Expr} {fa fb : FE} {pos : Pos} (ha : DE X W a fa) (hb : DE X W b fb) : DE X W (.BinOp a .Pow b pos) (fBin dPow fa fb) := de_bin op_powI od_pow ha hb
theorem de_bitand {W : WX} {a b : Expr} {fa fb : FE} {pos : Pos} (ha : DE X W a fa) (hb : DE X W b fb) : DE X W (.BinOp a .BitAnd b pos) (fBin dAnd fa fb) := de_bin op_and od_and ha hb
end

/-! ### comparisons -/
def dCmpI (p : Int → Int → Bool) : OpF := fun x y S => match x, y with
  | .int i, .int j => .ok (.bl (p i j)) S
  | _, _ => .no
def dLt : OpF := dCmpI fun i j => decide (i < j)
def dLe : OpF := dCmpI fun i j => decide (i ≤ j)
def dGt : OpF := dCmpI fun i j => decide (j < i)
def dGe : OpF := dCmpI fun i j => decide (j ≤ i)
def isNon : D → Bool
  | .non => true
  | _ => false
def dIs : OpF := fun x y S => match y with
  | .non => .ok (.bl (isNon x)) S
  | _ => .no
def dIsNot : OpF := fun x y S => match y with
  | .non => .ok (.bl (!isNon x)) S
  | _ => .no
/-! the data that a number stands for, deep -/
mutual
def pyD (g : Nat → Option PyData) : D → Option PyData
  | .non => some .none
  | .bl b => some (.bool b)
  | .int i => some (.int i)
  | .str x => some (.str x)
  | .tup ds => (pyDs g ds).map .tuple
  | .ro ds => (pyDs g ds).map .list
  | .ref i => g i
def pyDs (g : Nat → Option PyData) : List D → Option (List PyData)
  | [] => some []
  | d :: ds => (pyD g d).bind fun x => (pyDs g ds).map fun xs => x :: xs
end
/-- .. with lists up to n deep -/
def pyR (S : Sto) : Nat → Nat → Option PyData
  | 0, _ => none
  | n + 1, i => match S[i]? with
    | some (.lst ds) => (pyDs (pyR S n) ds).map .list
    | _ => none
abbrev pyN (S : Sto) (x : D) : Option PyData := pyD (pyR S 9) x
def dEqB (neg : Bool) : OpF := fun x y S => match pyN S x, pyN S y with
  | some a, some b => if SeqAt.shaped a = true ∧ SeqAt.shaped b = true then .ok (.bl (if neg then !PyData.eqv a b else PyData.eqv a b)) S else .no
  | _, _ => .no
def dEq : OpF := dEqB false
def dNe : OpF := dEqB true
section
variable {K : PySem.W.Frag} {w : World} {H : Hp} {θ : List Addr} {S : Sto}
mutual
theorem dp_D {g : Nat → Option PyData} (hg : ∀ i a p, θ[i]? = some a → g i = some p → Dp K H (.ref a) p) : ∀ (d : D) (v : V) (p : PyData), DV K H θ d v → pyD g d = some p → Dp K H v p
  | .non, v, p, h, e => by cases e; obtain rfl : v = .non := h; exact .non
  | .bl b, v, p, h, e => by cases e; obtain rfl : v = .bl b := h; exact .bl b
  | .int i, v, p, h, e => by cases e; obtain rfl : v = .int i := h; exact .int i
  | .str x, v, p, h, e => by cases e; obtain rfl : v = .str x := h; exact .str x
  | .tup ds, v, p, h, e => by
    obtain ⟨a, vs, rfl, hs, dv⟩ := h
    have e' : (pyDs g ds).map PyData.tuple = some p := e
    obtain ⟨ps, e1, rfl⟩ := Option.map_eq_some_iff.mp e'
    exact .tup hs (dp_Ds hg ds vs ps dv e1)
  | .ro ds, v, p, h, e => by
    obtain ⟨a, vs, rfl, hs, dv⟩ := h
    have e' : (pyDs g ds).map PyData.list = some p := e
    obtain ⟨ps, e1, rfl⟩ := Option.map_eq_some_iff.mp e'
    exact .lst hs.seq (dp_Ds hg ds vs ps dv e1)
  | .ref i, v, p, h, e => by
    obtain ⟨a, rfl, ha⟩ := h
    exact hg i a p ha e
theorem dp_Ds {g : Nat → Option PyData} (hg : ∀ i a p, θ[i]? = some a → g i = some p → Dp K H (.ref a) p) : ∀ (ds : List D) (vs : List V) (ps : List PyData), DVs K H θ ds vs → pyDs g ds = some ps → DpAll K H vs ps
  | [], vs, ps, h, e => by cases e; obtain rfl : vs = [] := h; exact .nil
  | d :: ds, vs, ps, h, e => by
    obtain ⟨v, r, rfl, h1, h2⟩ := h
    have e' : (pyD g d).bind (fun x => (pyDs g ds).map fun xs => x :: xs) = some ps := e
    obtain ⟨x, e1, e2⟩ := Option.bind_eq_some_iff.mp e'
    obtain ⟨xs, e3, rfl⟩ := Option.map_eq_some_iff.mp e2
    exact .cons (dp_D hg d v x h1 e1) (dp_Ds hg ds r xs h2 e3)
end
theorem dp_R (r : Rl K w H θ S) : ∀ (n i : Nat) (a : Addr) (p : PyData), θ[i]? = some a → pyR S n i = some p → Dp K H (.ref a) p
  | 0, _, _, _, _, e => by cases e
  | n + 1, i, a, p, ha, e => by
    unfold pyR at e
    cases es : S[i]? with
    | none => rw [es] at e; cases e
    | some o =>
      rw [es] at e
      cases o with
      | lst ds =>
        have e' : (pyDs (pyR S n) ds).map PyData.list = some p := e
        obtain ⟨ps, e1, rfl⟩ := Option.map_eq_some_iff.mp e'
        obtain ⟨vs, hv, dv⟩ := r.at_ i _ a es ha
        exact .lst (SqL.of hv) (dp_Ds (dp_R r n) ds vs ps dv e1)
      | dK _ => cases e
      | dN _ => cases e
theorem dp_of (r : Rl K w H θ S) {d : D} {v : V} {p : PyData} (h : DV K H θ d v) (e : pyN S d = some p) : Dp K H v p := dp_D (fun i a p => dp_R r 9 i a p) d v p h e
end
section
variable {X : Cx} {W : WX} {a b c : Expr} {fa fb fc : FE} {pos : Pos}
theorem od_eq : OpD X (rEqD X.K) dEq := by
  intro θ H S x y v w Q E r d1 d2 p
  unfold dEq dEqB at p
  cases e1 : pyN S x with
  | none => simp only [e1] at p; exact p.elim
  | some p1 =>
    cases e2 : pyN S y with
    | none => simp only [e1, e2] at p; exact p.elim
    | some p2 =>
      simp only [e1, e2] at p
      by_cases hz : SeqAt.shaped p1 = true ∧ SeqAt.shaped p2 = true
      · rw [if_pos hz] at p
        exact ⟨p1, p2, dp_of r d1 e1, dp_of r d2 e2, hz.1, hz.2, p θ H _ .refl r rfl⟩
      · rw [if_neg hz] at p; exact p.elim
theorem od_ne : OpD X (rNeD X.K) dNe := by
  intro θ H S x y v w Q E r d1 d2 p
  unfold dNe dEqB at p
  cases e1 : pyN S x with
  | none => simp only [e1] at p; exact p.elim
  | some p1 =>
    cases e2 : pyN S y with
    | none => simp only [e1, e2] at p; exact p.elim
    | some p2 =>
      simp only [e1, e2] at p
      by_cases hz : SeqAt.shaped p1 = true ∧ SeqAt.shaped p2 = true
      · rw [if_pos hz] at p
        exact ⟨p1, p2, dp_of r d1 e1, dp_of r d2 e2, hz.1, hz.2, p θ H _ .refl r rfl⟩
      · rw [if_neg hz] at p; exact p.elim
theorem od_cmpI {p : Int → Int → Bool} : OpD X (rI0 fun i j => .bl (p i j)) (dCmpI p) := by
  intro θ H S x y v w Q E r d1 d2 p
  unfold dCmpI at p
  cases x <;> first | exact p.elim | skip
  cases y <;> first | exact p.elim | skip
  exact ⟨_, _, d1, d2, p θ H _ .refl r rfl⟩
theorem od_is : OpD X (fun x y H Q => y = .non ∧ Q (.bl (decide (x = .non))) H) dIs := by
  intro θ H S x y v w Q E r d1 d2 p
  unfold dIs at p
  cases y <;> first | exact p.elim | skip
  refine ⟨d2, ?_⟩
  have e : decide (v = V.non) = isNon x := by
    cases x <;> first
      | (obtain rfl : v = _ := d1; rfl)
      | (obtain ⟨_, _, rfl, _⟩ := d1; rfl)
      | (obtain ⟨_, rfl, _⟩ := d1; rfl)
  rw [e]
  exact p θ H _ .refl r rfl
theorem od_isNot : OpD X (fun x y H Q => y = .non ∧ Q (.bl (!decide (x = .non))) H) dIsNot := by
  intro θ H S x y v w Q E r d1 d2 p
  unfold dIsNot at p
  cases y <;> first | exact p.elim | skip
  refine ⟨d2, ?_⟩
  have e : decide (v = V.non) = isNon x := by
    cases x <;> first
      | (obtain rfl : v = _ := d1; rfl)
      | (obtain ⟨_, _, rfl, _⟩ := d1; rfl)
      | (obtain ⟨_, rfl, _⟩ := d1; rfl)
  rw [e]
  exact p θ H _ .refl r rfl
/-- a comparison's rule with its data -/
structure CmpD (X : Cx) (op : CmpOp) (od : OpF) : Prop where
  ex : ∃ r, OpR X (compareOp op) r ∧ OpD X r od
theorem cd_lt : CmpD X .Lt dLt := ⟨_, op_lt, od_cmpI⟩
theorem cd_le : CmpD X .LtE dLe := ⟨_, op_le, od_cmpI⟩
theorem cd_gt : CmpD X .Gt dGt := ⟨_, op_gt, od_cmpI⟩
theorem cd_ge : CmpD X .GtE dGe := ⟨_, op_ge, od_cmpI⟩
theorem cd_is : CmpD X .Is dIs := ⟨_, op_isN, od_is⟩
theorem cd_isNot : CmpD X .IsNot dIsNot := ⟨_, op_notN, od_isNot⟩
theorem cd_eq (hu : X.A.units + 64 < cLine) : CmpD X .Eq dEq := ⟨_, op_eqD hu, od_eq⟩
theorem cd_ne (hu : X.A.units + 64 < cLine) : CmpD X .NotEq dNe := ⟨_, op_neD hu, od_ne⟩
theorem de_cmpD {op : CmpOp} {od : OpF} (c : CmpD X op od) (ha : DE X W a fa) (hb : DE X W b fb) (hm : behindInMarks op b = false := by first | exact nomark _ | rfl) : DE X W (.Compare a [op] [b] pos) (fBin od fa fb) := let ⟨_, h1, h2⟩ := c.ex; de_cmp h1 h2 ha hb hm
theorem dt_cmpD {op : CmpOp} {od : OpF} (c : CmpD X op od) (ha : DE X W a fa) (hb : DE X W b fb) (hm : behindInMarks op b = false := by first | exact nomark _ | rfl) : DT X W (.Compare a [op] [b] pos) (ftB (fBin od fa fb)) := let ⟨_, h1, h2⟩ := c.ex; dt_cmp h1 h2 ha hb hm
/-- a < b < c -/
def fChain (o1 o2 : OpF) (fa fb fc : FE) : FE := fun ρ S => (fa ρ S).bind fun x S1 => (fb ρ S1).bind fun y S2 => (o1 x y S2).bind fun z S3 => match z with
  | .bl true => (fc ρ S3).bind fun w S4 => o2 y w S4
  | .bl false => .ok (.bl false) S3
  | _ => .no
end
end Y

set_option Elab.async false
set_option linter.all false
set_option maxRecDepth 100000
set_option maxHeartbeats 2000000
/-! Y, chains, calls of defs, subscripts, slices. -/
namespace Y
open PySem L2

section
variable {X : Cx} {W : WX} {a b c e : Expr} {es : List Expr} {fa fb fc fe : FE} {fas : FA} {pos : Pos}
/-- the first two of a chain, then the rest -/
theorem chain_ {r1 r2 : R2} {o1 o2 : OpF} {ta tb tc : TE} {op op' : CmpOp} (h1 : OpD X r1 o1) (h2 : OpD X r2 o2)
    (qa : ∀ θ σ ρ H S Q, Rl X.K X.w H θ S → SlV X.K H θ ρ σ → PostV X.K X.w X.mg θ H (fa ρ S) Q (fun c d H' => W c d σ H') → ta σ H Q)
    (qb : ∀ θ σ ρ H S Q, Rl X.K X.w H θ S → SlV X.K H θ ρ σ → PostV X.K X.w X.mg θ H (fb ρ S) Q (fun c d H' => W c d σ H') → tb σ H Q)
    (qc : ∀ θ σ ρ H S Q, Rl X.K X.w H θ S → SlV X.K H θ ρ σ → PostV X.K X.w X.mg θ H (fc ρ S) Q (fun c d H' => W c d σ H') → tc σ H Q)
    {θ : List Addr} {σ : L2.St} {ρ : Env} {H : Hp} {S : Sto} {Q : VK} (r : Rl X.K X.w H θ S) (sl : SlV X.K H θ ρ σ)
    (h : PostV X.K X.w X.mg θ H (fChain o1 o2 fa fb fc ρ S) Q (fun c d H' => W c d σ H')) (hx1 : ∀ x y S c S', o1 x y S ≠ .ex c S') (hs1 : ∀ x y S d S', o1 x y S = .ok d S' → S' = S) : tChain r1 r2 ta tb tc σ H Q := by
  refine qa θ σ ρ H S _ r sl ?_
  unfold fChain at h
  cases ea : fa ρ S with
  | no => rw [ea] at h; exact h
  | ex c S' => rw [ea] at h; exact h
  | ok x S1 =>
    rw [ea] at h
    intro θ1 H1 v f1 r1' dv1
    refine qb θ1 σ ρ H1 S1 _ r1' (sl.later f1) ?_
    dsimp only [R.bind] at h
    cases eb : fb ρ S1 with
    | no => rw [eb] at h; exact h
    | ex c S' => rw [eb] at h; exact PostV.since f1 h
    | ok y S2 =>
      rw [eb] at h
      dsimp only at h
      intro θ2 H2 w f2 r2' dv2
      have dv1' := DV.later f2 _ _ dv1
      cases eo : o1 x y S2 with
      | no => rw [eo] at h; exact h.elim
      | ex c S' => exact absurd eo (hx1 _ _ _ _ _)
      | ok z S3 =>
        have eS := hs1 _ _ _ _ _ eo
        subst eS
        rw [eo] at h
        dsimp only at h
        refine h1 θ2 H2 S3 x y v w (fun z H3 => ∃ k, z = .bl k ∧ (if k = true then tc σ H3 fun w' H4 => r2 w w' H4 Q else Q (.bl false) H3)) (fun _ _ _ => False) r2' dv1' dv2 ?_
        rw [eo]
        intro θ3 H3 zv f3 r3 dv3
        cases z <;> first | exact h.elim | skip
        rename_i k
        refine ⟨k, dv3, ?_⟩
        have f13 := f1.trans (f2.trans f3)
        cases k with
        | false =>
          rw [if_neg (by decide)]
          exact h θ3 H3 _ f13 r3 rfl
        | true =>
          rw [if_pos rfl]
          refine qc θ3 σ ρ H3 S3 _ r3 (sl.later f13) ?_
          cases ec : fc ρ S3 with
          | no => simp only [ec] at h; exact h
          | ex c S' => simp only [ec] at h; exact PostV.since f13 h
          | ok u S4 =>
            simp only [ec] at h
            intro θ4 H4 w' f4 r4 dv4
            exact h2 θ4 H4 S4 y u w w' Q _ r4 (DV.later (f3.trans f4) _ _ dv2) dv4 (PostV.since (f13.trans f4) h)
theorem dCmpI_ok {p : Int → Int → Bool} : (∀ x y S c S', dCmpI p x y S ≠ .ex c S') ∧ (∀ x y S d S', dCmpI p x y S = .ok d S' → S' = S) := by
  refine ⟨fun x y S c S' h => ?_, fun x y S d S' h => ?_⟩
  · unfold dCmpI at h; split at h <;> cases h
  · unfold dCmpI at h; split at h <;> cases h; rfl
/-- a chain of two comparisons of ints -/
theorem de_chainI {op op' : CmpOp} {p p' : Int → Int → Bool} (ho : OpR X (compareOp op) (rI0 fun i j => .bl (p i j))) (ho' : OpR X (compareOp op') (rI0 fun i j => .bl (p' i j))) (ha : DE X W a fa) (hb : DE X W b fb) (hc : DE X W c fc)
    (hm : lastMarks [op, op'] [b, c] = false := by with_unfolding_all rfl) : DE X W (.Compare a [op, op'] [b, c] pos) (fChain (dCmpI p) (dCmpI p') fa fb fc) := by
  obtain ⟨ta, pa, qa⟩ := ha
  obtain ⟨tb, pb, qb⟩ := hb
  obtain ⟨tc, pc, qc⟩ := hc
  exact ⟨_, pe_chain ho ho' pa pb pc hm, fun θ σ ρ H S Q r sl h => chain_ (op := op) (op' := op') od_cmpI od_cmpI qa qb qc r sl h dCmpI_ok.1 dCmpI_ok.2⟩
theorem dt_chainI {op op' : CmpOp} {p p' : Int → Int → Bool} (ho : OpR X (compareOp op) (rI0 fun i j => .bl (p i j))) (ho' : OpR X (compareOp op') (rI0 fun i j => .bl (p' i j))) (ha : DE X W a fa) (hb : DE X W b fb) (hc : DE X W c fc)
    (hm : lastMarks [op, op'] [b, c] = false := by with_unfolding_all rfl) : DT X W (.Compare a [op, op'] [b, c] pos) (ftB (fChain (dCmpI p) (dCmpI p') fa fb fc)) := by
  obtain ⟨ta, pa, qa⟩ := ha
  obtain ⟨tb, pb, qb⟩ := hb
  obtain ⟨tc, pc, qc⟩ := hc
  refine ⟨_, pt_chain ho ho' pa pb pc hm, fun θ σ ρ H S Q r sl h => ?_⟩
  have h2 : PostV X.K X.w X.mg θ H (fChain (dCmpI p) (dCmpI p') fa fb fc ρ S) (fun x H' => ∃ k, x = .bl k ∧ Q k H') (fun c d H' => W c d σ H') := by
    unfold ftB at h
    cases e : fChain (dCmpI p) (dCmpI p') fa fb fc ρ S with
    | no => rw [e] at h; exact h
    | ex c S' => rw [e] at h; exact h
    | ok d S' =>
      rw [e] at h
      have h : PostB X.K X.w X.mg θ H (asB d S') Q _ := h
      intro θ' H' v f r' dv
      cases d <;> first | exact h.elim | skip
      exact ⟨_, dv, h θ' H' f r'⟩
  exact chain_ (op := op) (op' := op') od_cmpI od_cmpI qa qb qc r sl h2 dCmpI_ok.1 dCmpI_ok.2
end

/-! ### what a def is worth, as data -/
def runB (f : FS) (n : Nat) : FF := fun ds S => match f (ds.map some ++ List.replicate (n - ds.length) none) S with
  | .nx _ S' => .ok .non S'
  | .rt d S' => .ok d S'
  | .ex c _ S' => .ex c S'
  | _ => .no
/-- the promise of a def that is worth F, of n parameters -/
def spF (K : PySem.W.Frag) (w : World) (mg : Str → Option Value) (n : Nat) (F : FF) : Sp := fun vs H Q E => vs.length = n ∧ ∃ θ S ds, Rl K w H θ S ∧ DVs K H θ ds vs ∧ PostV K w mg θ H (F ds S) Q E
def pars (st : Stmt) : List Str := (defArgs st).args.map (·.arg)
/-- room for k calls, nothing being shown -/
structure RoomY (k : Nat) (A : Around) : Prop where
  room : Room k A
  grd : A.guards = some []
theorem RoomY.mono {j k : Nat} {A : Around} (r : RoomY k A) (h : j ≤ k) : RoomY j A := ⟨r.room.mono h, r.grd⟩
theorem RoomY.deeper {k : Nat} {A : Around} (r : RoomY (k + 1) A) (env : PySem.Env) : RoomY k (A.deeper env) := ⟨r.room.deeper env, r.grd⟩
/-- a def's promise where nothing is being shown -/
structure FnG (P : Program) (w : World) (K : PySem.W.Frag) (mg : Str → Option Value) (base : Heap) (CX : CXT) (k : Nat) (f : Addr) (fd : FuncData) (ps : List Str) (sp : Sp) : Prop where
  len : ∀ vs H Q E, sp vs H Q E → vs.length = ps.length
  run : ∀ (A : Around) (outer : List PySem.Env) (s : Shared) (H : Hp) (args : Args) (us : List Value) (vs : List V) (Q : VK) (E : XK), RoomY k A → Env0 P w K mg base A outer s H → BindsTo s fd args (ps.zip us) → Vals vs us → sp vs H Q E →
    codeAny (model P w) A (.call (.ref f) args) (CR CX outer P w H s Q E) s
theorem FnG.mono {P : Program} {w : World} {K : PySem.W.Frag} {mg : Str → Option Value} {base : Heap} {CX : CXT} {j k : Nat} {f : Addr} {fd : FuncData} {ps : List Str} {sp : Sp} (F : FnG P w K mg base CX j f fd ps sp) (h : j ≤ k) : FnG P w K mg base CX k f fd ps sp :=
  ⟨F.len, fun A outer s H args us vs Q E hr => F.run A outer s H args us vs Q E (hr.mono h)⟩
theorem fn_ofG {CX : CXT} {P : Program} {w : World} {K : PySem.W.Frag} {mg : Str → Option Value} {base : Heap} {k : Nat} {f : Addr} {name qual : Str} {params : Arguments} {body : List Stmt} {scope : Scope} {dV kV doc pm cdv ct oc : Value} {an od : Option Addr}
    {osl : Array (Option Value)} {N ps : List Str} {sp : Sp} (lk : K.lookup f = some ⟨oc, od, .func (PySem.W.fnOf name qual params body scope dV kV doc pm an cdv ct), osl⟩) (hcd : PySem.W.codeIn K cdv qual = true) (S : FnScope N ps scope)
    (len : ∀ vs H Q E, sp vs H Q E → vs.length = ps.length)
    (hbody : ∀ (A : Around) (outer : List PySem.Env) (s : Shared) (H : Hp) (vs : List V) (Q : VK) (E : XK), RoomY k (A.deeper (PyProof.Rows.envOfC qual scope s.heap.objs.size f cdv)) → sp vs H Q E →
      ∃ t, PSs (cxOf CX P w K mg base N qual scope f cdv A outer s H E) body t ∧ t { nx := fun _ H' => Q .non H', rt := Q } (L2.start N vs) H) :
    FnG P w K mg base CX (k + 1) f (PySem.W.fnOf name qual params body scope dV kV doc pm an cdv ct) ps sp := by
  refine ⟨len, fun A outer s H args us vs Q E hr e0 hb r hsp => ?_⟩
  have hl := len _ _ _ _ hsp
  have KX : K.In s.heap := e0.mod.kin.keeps fun b o e => (e0.bs b o e).1
  have lim : s.heap.NoLimit := e0.mod.nolimit.keeps fun b o e => (e0.bs b o e).1
  have hkind : ∀ y ∈ ps.zip us, scope.names.lookup y.1 = some .local ∨ (scope.names.lookup y.1 = some .cell ∧ ((cellsFrom (s.heap.objs.size + 1) scope.names []).lookup y.1).isSome = true) := fun ⟨n, v⟩ hy => by
    rcases S.par n (List.of_mem_zip hy).1 with q | q
    · exact .inl q
    · exact .inr ⟨q, PySem.W.cellsFrom_some _ _ _ (.inl q)⟩
  refine codeAny_call_function hr.room.depth (KX _ _ lk) rfl S.co S.gen rfl (PySem.W.codeRec_of KX hcd) (hb _ _ _ _ ?_)
  refine wpAny_newFunctionEnv_cells S.kind hkind fun env he s1 x => ?_
  subst he
  refine ⟨lim.keeps x.toInCall.keep, codeAny_func ?_⟩
  obtain ⟨t, ht, hq⟩ := hbody A outer s H vs Q E (hr.deeper _) hsp
  have I : Inv (cxOf CX P w K mg base N qual scope f cdv A outer s H E) [] (L2.start N vs) H s1 := inv_start S hr.room.hd e0 hl r x
  refine wpAny_mono (ht.run [] s1 (L2.start N vs) H _ I hq) (fun fl s' hs => ?_) fun e s' hs => hs
  have fin : ∀ {σ' : St} {H' : Hp} {v : V} {u : Value}, Inv (cxOf CX P w K mg base N qual scope f cdv A outer s H E) [] σ' H' s' → RelV v u → Q v H' → CE outer P w H s Q u s' :=
    fun {σ' H' v u} J rv q => ⟨v, H', J.os, J.bare, J.base, J.hok, rv, q⟩
  cases fl with
  | ret u =>
    obtain ⟨v, σ', H', J, rv, q⟩ := hs
    exact fin J rv q
  | next =>
    obtain ⟨σ', H', J, q⟩ := hs
    exact fin (v := V.non) (u := Value.none) J rfl q
  | brk =>
    obtain ⟨_, _, _, q⟩ := hs
    exact False.elim q
  | cont =>
    obtain ⟨_, _, _, q⟩ := hs
    exact False.elim q
theorem run_fnG {X : Cx} {CX : CXT} {k : Nat} {f : Addr} {fd : FuncData} {ps : List Str} {sp : Sp} {E : St → XK} {pins : List (Addr × Obj)} {σ : St} {H : Hp} {s : Shared} {Q : VK} {us : List Value} {vs : List V} (F : FnG X.prog X.w X.K X.mg X.base CX k f fd ps sp) (hr : RoomY k X.A) (hb : Binds X.K fd ps []) (hx : PassesAt CX X σ (E σ))
    (I : Inv X pins σ H s) (r : Vals vs us) (h : sp vs H Q (E σ)) : wpAny (model X.prog X.w) X.A (call (.ref f) us) (EP X pins σ Q) X.xe s := by
  have hl : us.length = ps.length := by rw [← r.length]; exact F.len _ _ _ _ h
  have b := hb s us I.kIn (by rw [List.append_nil]; exact hl)
  rw [List.append_nil] at b
  refine wpAny_call (codeAny_mono (F.run X.A X.stack s H ⟨us, []⟩ us vs Q (E σ) hr I.env0 b r h) fun r s' hq => ?_)
  cases r with
  | error e => exact hx pins H s e s' I hq
  | ok fl =>
    cases fl with
    | ret u => exact I.after hq
    | next => exact False.elim hq
    | brk => exact False.elim hq
    | cont => exact False.elim hq
theorem pe_callG {X : Cx} {CX : CXT} {k : Nat} {f : Addr} {fd : FuncData} {ps : List Str} {sp : Sp} {E : St → XK} {x : Str} {p pos : Pos} {e : Expr} {es : List Expr} {t : TA} (F : FnG X.prog X.w X.K X.mg X.base CX k f fd ps sp) (hr : RoomY k X.A) (hg : Gl X x) (hm : X.mg x = some (.ref f)) (hk : PySem.W.keepIn X.K (.ref f) = true) (hb : Binds X.K fd ps []) (hx : ∀ σ, PassesAt CX X σ (E σ))
    (ha : PA X (e :: es) t) (hdb : (x == ("__debug__" : Str)) = false := by decide) (he : starEach (e :: es) X.env = (false, eval e X.env) :: starEach es X.env := by rfl) (hpl : (backTo pos (starEach es X.env)).any (·.1) = false := by rfl) :
    PE X (.Call (.Name x p) (e :: es) [] pos) (tCallS sp E t) := by
  refine ⟨fun pins s σ H Q I h => ?_⟩
  refine wpAny_Call_Name_kw (ld_glob I hg hm ?_ hdb)
  refine PySem.W.callWith_K (h₀ := X.base) I.ok.mod.kin hk (thn (ha.run pos pins s σ H _ I h) fun us s1 ⟨vs, H1, I1, r, q⟩ => ⟨I1.kIn, ?_⟩) he hpl
  exact run_fnG F hr hb (hx σ) I1 r q
/-- the def x of the text st, worth F, at level k -/
structure DF (P : Program) (w : World) (K : PySem.W.Frag) (mg : Str → Option Value) (base : Heap) (k : Nat) (x : Str) (st : Stmt) (F : FF) : Prop where
  ex : ∃ f fd, Fun K x x st f fd ∧ mg x = some (.ref f) ∧ FnG P w K mg base (L2.CX P w) k f fd (pars st) (spF K w mg (pars st).length F)
theorem DF.mono {P : Program} {w : World} {K : PySem.W.Frag} {mg : Str → Option Value} {base : Heap} {j k : Nat} {x : Str} {st : Stmt} {F : FF} (d : DF P w K mg base j x st F) (h : j ≤ k) : DF P w K mg base k x st F :=
  let ⟨f, fd, a, b, c⟩ := d.ex
  ⟨f, fd, a, b, c.mono h⟩
section
variable {P : Program} {w : World} {K : PySem.W.Frag} {mg : Str → Option Value} {base : Heap}
/-- THE RULE: a def of the text is worth what its body is worth -/
theorem DF.mk' {x : Str} {st : Stmt} {k : Nat} {N : List Str} {fb : FS} (hF : ∃ f fd, Fun K x x st f fd ∧ mg x = some (.ref f)) (S : FnScope N (pars st) (defScope st))
    (hb : ∀ (f : Addr) (cdv : Value) (A : Around) (outer : List PySem.Env) (s : Shared) (H : Hp) (E : XK), RoomY k (A.deeper (PyProof.Rows.envOfC x (defScope st) s.heap.objs.size f cdv)) →
      DSs (cxOf (L2.CX P w) P w K mg base N x (defScope st) f cdv A outer s H E) (fun cls d _ H => E cls d H) (defBody st) fb) :
    DF P w K mg base (k + 1) x st (runB fb N.length) := by
  obtain ⟨f, fd, F, hm⟩ := hF
  refine ⟨f, fd, F, hm, ?_⟩
  obtain ⟨oc, od, kV, doc, pm, an, cdv, ct, osl, rfl, lk, hcd⟩ := F.ex
  refine fn_ofG lk hcd S (fun vs H Q E h => h.1) fun A outer s H vs Q E hr h => ?_
  obtain ⟨hl, θ, St, ds, r, dv, p⟩ := h
  obtain ⟨t, pt, q⟩ := hb f cdv A outer s H E hr
  refine ⟨t, pt, q θ _ (ds.map some ++ List.replicate (N.length - ds.length) none) H St _ r ?_ ?_⟩
  · have hd := dv.length
    refine ⟨by simp [L2.start, hd], fun i d hi => ?_⟩
    have hlt : i < ds.length := by
      by_cases z : i < ds.length
      · exact z
      · rw [List.getElem?_append_right (by simp; omega)] at hi
        simp [List.getElem?_replicate] at hi
    rw [List.getElem?_append_left (by simpa using hlt)] at hi
    rw [List.getElem?_map] at hi
    obtain ⟨d', e1, e2⟩ := Option.map_eq_some_iff.mp hi
    cases e2
    obtain ⟨v, hv, dvv⟩ := dv.get e1
    refine ⟨v, ?_, dvv⟩
    unfold L2.start
    rw [List.getElem?_append_left (by simp; omega), List.getElem?_map, hv]; rfl
  · unfold runB at p
    cases e : fb (ds.map some ++ List.replicate (N.length - ds.length) none) St with
    | nx ρ S' => rw [e] at p; exact fun θ' H' σ' f r' sl => p θ' H' _ f r' rfl
    | rt d S' => rw [e] at p; exact p
    | ex c ρ S' => rw [e] at p; exact fun θ' H' σ' cls dd f r' sl x => p θ' H' cls dd f r' x
    | bk ρ S' => rw [e] at p; exact p.elim
    | ct ρ S' => rw [e] at p; exact p.elim
    | no => rw [e] at p; exact p.elim
end
section
variable {X : Cx} {W : WX} {a b c e : Expr} {es : List Expr} {fa fb fc fe : FE} {fas fks : FA} {pos p : Pos} {k : Nat} {x : Str} {st : Stmt} {F : FF}
def fCall (F : FF) (fas : FA) : FE := fun ρ S => (fas ρ S).bind F
/-- f(e, ..) -/
theorem de_call (c : DF X.prog X.w X.K X.mg X.base k x st F) (hr : RoomY k X.A) (tk : Takes X W) (hg : Gl X x) (ha : DA X W (e :: es) fas)
    (hbind : ∀ (kV doc pm : Value) (an : Option Addr) (cdv ct : Value) (us : List Value), us.length = (pars st).length → bindArgs (PySem.W.fnOf x x (defArgs st) (defBody st) (defScope st) .none kV doc pm an cdv ct) ⟨us, []⟩ = pure ((pars st).zip us))
    (hlen : (e :: es).length = (pars st).length := by rfl)
    (hdb : (x == ("__debug__" : Str)) = false := by decide) (he : starEach (e :: es) X.env = (false, eval e X.env) :: starEach es X.env := by rfl) (hpl : (backTo pos (starEach es X.env)).any (·.1) = false := by rfl)
    (hls : ∀ ρ S d S', fas ρ S = .ok d S' → d.length = (e :: es).length) :
    DE X W (.Call (.Name x p) (e :: es) [] pos) (fCall F fas) := by
  obtain ⟨f, fd, FF, hm, G⟩ := c.ex
  obtain ⟨ta, pa, qa⟩ := ha
  refine ⟨_, pe_callG G hr hg hm FF.kp (FF.binds hbind) (fun σ => passAt tk σ) pa hdb he hpl, fun θ σ ρ H S Q r sl h => ?_⟩
  refine qa θ σ ρ H S _ r sl ?_
  unfold fCall at h
  cases ea : fas ρ S with
  | no => rw [ea] at h; exact h
  | ex c S' => rw [ea] at h; exact h
  | ok ds S1 =>
    rw [ea] at h
    intro θ1 H1 vs f1 r1 dv1
    exact ⟨by rw [dv1.length, hls ρ S ds S1 ea, hlen], θ1, S1, ds, r1, dv1, PostV.since f1 h⟩
/-- f() -/
theorem de_call0 (c : DF X.prog X.w X.K X.mg X.base k x st F) (hr : RoomY k X.A) (tk : Takes X W) (hg : Gl X x)
    (hbind : ∀ (kV doc pm : Value) (an : Option Addr) (cdv ct : Value) (us : List Value), us.length = (pars st).length → bindArgs (PySem.W.fnOf x x (defArgs st) (defBody st) (defScope st) .none kV doc pm an cdv ct) ⟨us, []⟩ = pure ((pars st).zip us))
    (hlen : 0 = (pars st).length := by rfl) (hdb : (x == ("__debug__" : Str)) = false := by decide) : DE X W (.Call (.Name x p) [] [] pos) (fCall F faNil) := by
  obtain ⟨f, fd, FF, hm, G⟩ := c.ex
  refine ⟨fun σ H Q => spF X.K X.w X.mg (pars st).length F [] H Q (WE W σ), ⟨fun pins s σ H Q I h => ?_⟩, fun θ σ ρ H S Q r sl h => ?_⟩
  · refine wpAny_Call_Name_kw (ld_glob I hg hm ?_ hdb)
    exact PySem.W.callWith_K0 I.kIn FF.kp (run_fnG (us := []) G hr (FF.binds hbind) (passAt tk σ) I .nil h)
  · exact ⟨hlen, θ, S, [], r, rfl, h⟩
end
end Y

set_option Elab.async false
set_option linter.all false
set_option maxRecDepth 100000
set_option maxHeartbeats 2000000
/-! Y, calls with keywords; builtins called by name; methods of builtin types. -/
namespace Y
open PySem L2
section
variable {X : Cx} {W : WX} {a b c e o : Expr} {es : List Expr} {fa fb fc fe fo : FE} {fas fks : FA} {pos p kpos apos cpos : Pos} {k : Nat} {x : Str} {st : Stmt} {F : FF} {kws : List Keyword} {nm : Option Str}
def DK (X : Cx) (W : WX) (kws : List Keyword) (f : FA) : Prop := ∃ t, PK X kws t ∧ ∀ θ σ ρ H S Q, Rl X.K X.w H θ S → SlV X.K H θ ρ σ → PostA X.K X.w X.mg θ H (f ρ S) Q (fun c d H' => W c d σ H') → t σ H Q
theorem dk_nil : DK X W [] faNil := ⟨_, pk_nil, fun θ σ ρ H S Q r sl h => h θ H [] .refl r rfl⟩
theorem dk_cons (ha : DE X W e fe) (hr : DK X W kws fas) : DK X W (⟨nm, e, kpos⟩ :: kws) (faCons fe fas) := by
  obtain ⟨ta, pa, qa⟩ := ha
  obtain ⟨tb, pb, qb⟩ := hr
  refine ⟨_, pk_cons pa pb, fun θ σ ρ H S Q r sl h => ?_⟩
  refine qa θ σ ρ H S _ r sl ?_
  unfold faCons at h
  cases ea : fe ρ S with
  | no => rw [ea] at h; exact h
  | ex c S' => rw [ea] at h; exact h
  | ok x S1 =>
    rw [ea] at h
    intro θ1 H1 v f1 r1 dv1
    refine qb θ1 σ ρ H1 S1 _ r1 (sl.later f1) ?_
    have h : PostA X.K X.w X.mg θ H ((fas ρ S1).bind fun y S2 => .ok (x :: y) S2) Q (fun c d H' => W c d σ H') := h
    cases eb : fas ρ S1 with
    | no => rw [eb] at h; exact h
    | ex c S' =>
      rw [eb] at h
      exact PostA.since f1 h
    | ok y S2 =>
      rw [eb] at h
      intro θ2 H2 w f2 r2 dv2
      exact h θ2 H2 _ (f1.trans f2) r2 ⟨v, w, rfl, DV.later f2 _ _ dv1, dv2⟩
/-- the places ix of ws -/
def pick {α : Type} (ix : List Nat) (ws : List α) : List α := ix.filterMap fun i => ws[i]?
theorem DVs.pick {K : PySem.W.Frag} {H : Hp} {θ : List Addr} {ds : List D} {vs : List V} (h : DVs K H θ ds vs) : ∀ ix : List Nat, DVs K H θ (pick ix ds) (pick ix vs)
  | [] => rfl
  | i :: ix => by
    unfold Y.pick
    rw [List.filterMap_cons, List.filterMap_cons]
    have ih := DVs.pick h ix
    unfold Y.pick at ih
    cases e : ds[i]? with
    | none =>
      have : vs[i]? = none := by
        rw [List.getElem?_eq_none_iff] at e ⊢
        rw [h.length]; exact e
      rw [this]; exact ih
    | some d =>
      obtain ⟨v, hv, dv⟩ := h.get e
      rw [hv]
      exact ⟨v, _, rfl, dv, ih⟩
theorem Vals.pick {vs : List V} {us : List Value} (h : Vals vs us) : ∀ ix : List Nat, Vals (pick ix vs) (pick ix us)
  | [] => .nil
  | i :: ix => by
    unfold Y.pick
    rw [List.filterMap_cons, List.filterMap_cons]
    have ih := Vals.pick h ix
    unfold Y.pick at ih
    cases e : vs[i]? with
    | none => rw [h.none_of e]; exact ih
    | some d =>
      obtain ⟨v, hv, dv⟩ := h.get e
      rw [hv]
      exact .cons dv ih
def fCallK (F : FF) (ix : List Nat) (fks : FA) : FE := fun ρ S => (fks ρ S).bind fun ws S1 => F (pick ix ws) S1
/-- f(k = e, ..), nothing positional -/
theorem de_callK (ix : List Nat) (ks : List Str) (c : DF X.prog X.w X.K X.mg X.base k x st F) (hr : RoomY k X.A) (tk : Takes X W) (hg : Gl X x) (ha : DK X W kws fks)
    (hbind : ∀ (kV doc pm : Value) (an : Option Addr) (cdv ct : Value) (ws : List Value), ws.length = ks.length → bindArgs (PySem.W.fnOf x x (defArgs st) (defBody st) (defScope st) .none kV doc pm an cdv ct) ⟨[], ks.zip ws⟩ = pure ((pars st).zip (pick ix ws)))
    (hlen : ∀ ws : List V, ws.length = ks.length → (pick ix ws).length = (pars st).length)
    (hls : ∀ ρ S d S', fks ρ S = .ok d S' → d.length = ks.length)
    (hall : (backToKw pos (keywordEach kws X.env)).all (·.1.isSome) = true := by rfl) (hks : (backToKw pos (keywordEach kws X.env)).filterMap (·.1) = ks := by rfl)
    (hdb : (x == ("__debug__" : Str)) = false := by decide)
    (hpl : ((backTo pos (starEach [] X.env)).any (·.1) || (backToKw pos (keywordEach kws X.env)).any (·.1.isNone)) = false := by rfl) :
    DE X W (.Call (.Name x p) [] kws pos) (fCallK F ix fks) := by
  obtain ⟨f, fd, FF, hm, G⟩ := c.ex
  obtain ⟨ta, pa, qa⟩ := ha
  refine ⟨fun σ H Q => ta σ H fun zs H2 => zs.length = ks.length ∧ spF X.K X.w X.mg (pars st).length F (pick ix zs) H2 Q (WE W σ), ⟨fun pins s σ H Q I h => ?_⟩, fun θ σ ρ H S Q r sl h => ?_⟩
  · refine wpAny_Call_Name_kw (ld_glob I hg hm ?_ hdb)
    refine PySem.W.callWith_KW0 (h₀ := X.base) I.ok.mod.kin FF.kp hall (thn (pa.run pos pins s σ H _ I h) fun ws s2 ⟨zs, H2, I2, rz, hl, q2⟩ => ⟨I2.kIn, ?_⟩) hpl
    rw [hks]
    obtain ⟨oc, od, kV, doc, pm, an, cdv, ct, osl, rfl, lk, hcd⟩ := FF.ex
    have hlw : ws.length = ks.length := by rw [← rz.length]; exact hl
    have b : BindsTo s2 (PySem.W.fnOf x x (defArgs st) (defBody st) (defScope st) .none kV doc pm an cdv ct) ⟨[], ks.zip ws⟩ ((pars st).zip (pick ix ws)) := .of_eq (hbind kV doc pm an cdv ct ws hlw)
    refine wpAny_call (codeAny_mono (G.run X.A X.stack s2 H2 ⟨[], ks.zip ws⟩ (pick ix ws) (pick ix zs) Q (WE W σ) hr I2.env0 b (Vals.pick rz ix) q2) fun r s' hq => ?_)
    cases r with
    | error e => exact passAt tk σ pins H2 s2 e s' I2 hq
    | ok fl =>
      cases fl with
      | ret u => exact I2.after hq
      | next => exact False.elim hq
      | brk => exact False.elim hq
      | cont => exact False.elim hq
  · refine qa θ σ ρ H S _ r sl ?_
    unfold fCallK at h
    cases ea : fks ρ S with
    | no => rw [ea] at h; exact h
    | ex c S' => rw [ea] at h; exact h
    | ok ds S1 =>
      rw [ea] at h
      intro θ1 H1 vs f1 r1 dv1
      have hl : vs.length = ks.length := by rw [dv1.length, hls ρ S ds S1 ea]
      exact ⟨hl, hlen vs hl, θ1, S1, _, r1, DVs.pick dv1 ix, PostV.since f1 h⟩

/-! ### builtins by name -/
/-- a builtin's rule with its data -/
def CallD (X : Cx) (r : List V → Hp → VK → Prop) (F : FF) : Prop := ∀ θ H S ds vs (Q : VK) (E : XK), Rl X.K X.w H θ S → DVs X.K H θ ds vs → PostV X.K X.w X.mg θ H (F ds S) Q E → r vs H Q
theorem de_callB {id : String} {r : List V → Hp → VK → Prop} (hc : CallR X (.builtin id) r) (hd : CallD X r F) (hg : Gl X x) (hm : X.mg x = none) (hv : bootBuiltins x = some (.builtin id)) (ha : DA X W (e :: es) fas)
    (hdb : (x == ("__debug__" : Str)) = false := by decide) (hn : x ≠ "__name__" := by decide) (he : starEach (e :: es) X.env = (false, eval e X.env) :: starEach es X.env := by rfl) (hpl : (backTo pos (starEach es X.env)).any (·.1) = false := by rfl) :
    DE X W (.Call (.Name x p) (e :: es) [] pos) (fCall F fas) := by
  obtain ⟨ta, pa, qa⟩ := ha
  refine ⟨_, pe_callB hc hg hm hv pa hn hdb he hpl, fun θ σ ρ H S Q r sl h => args qa r sl h fun θ2 H2 S2 xs vs f r2 sl2 d1 p => hd θ2 H2 S2 xs vs Q _ r2 d1 p⟩
theorem de_callTy {T : String} {r : List V → Hp → VK → Prop} (hc : CallR X (.type T) r) (hd : CallD X r F) (hg : Gl X x) (hm : X.mg x = none) (hv : bootBuiltins x = some (.type T)) (ha : DA X W (e :: es) fas)
    (hdb : (x == ("__debug__" : Str)) = false := by decide) (hn : x ≠ "__name__" := by decide) (he : starEach (e :: es) X.env = (false, eval e X.env) :: starEach es X.env := by rfl) (hpl : (backTo pos (starEach es X.env)).any (·.1) = false := by rfl) :
    DE X W (.Call (.Name x p) (e :: es) [] pos) (fCall F fas) := by
  obtain ⟨ta, pa, qa⟩ := ha
  refine ⟨_, pe_callTy hc hg hm hv pa hn hdb he hpl, fun θ σ ρ H S Q r sl h => args qa r sl h fun θ2 H2 S2 xs vs f r2 sl2 d1 p => hd θ2 H2 S2 xs vs Q _ r2 d1 p⟩
end
end Y

set_option Elab.async false
set_option linter.all false
set_option maxRecDepth 100000
set_option maxHeartbeats 2000000
/-! Y, the builtins' rules on data. -/
namespace Y
open PySem L2
/-- the items of a list or a tuple -/
def seqD (x : D) (S : Sto) : Option (List D) := match x with
  | .tup ds => some ds
  | .ro ds => some ds
  | .ref i => match S[i]? with
    | some (.lst ds) => some ds
    | _ => none
  | _ => none
theorem seqD_of {K : PySem.W.Frag} {w : World} {H : Hp} {θ : List Addr} {S : Sto} (r : Rl K w H θ S) {x : D} {v : V} {ds : List D} (d : DV K H θ x v) (h : seqD x S = some ds) : ∃ a vs, v = .ref a ∧ (SqL K H a vs ∨ SqT K H a vs) ∧ DVs K H θ ds vs := by
  cases x with
  | tup ds => cases h; obtain ⟨a, vs, rfl, hs, dv⟩ := d; exact ⟨a, vs, rfl, .inr hs, dv⟩
  | ro ds => cases h; obtain ⟨a, vs, rfl, hs, dv⟩ := d; exact ⟨a, vs, rfl, .inl hs.seq, dv⟩
  | ref i =>
    obtain ⟨a, rfl, ha⟩ := d
    unfold seqD at h
    cases e : S[i]? with
    | none => simp only [e] at h; cases h
    | some o =>
      cases o <;> simp only [e] at h <;> cases h
      obtain ⟨vs, hv, dv⟩ := r.at_ i _ a e ha
      exact ⟨a, vs, rfl, .inl (SqL.of hv), dv⟩
  | _ => cases h
/-- the items of a list -/
def lstD (x : D) (S : Sto) : Option (List D) := match x with
  | .ro ds => some ds
  | .ref i => match S[i]? with
    | some (.lst ds) => some ds
    | _ => none
  | _ => none
theorem lstD_of {K : PySem.W.Frag} {w : World} {H : Hp} {θ : List Addr} {S : Sto} (r : Rl K w H θ S) {x : D} {v : V} {ds : List D} (d : DV K H θ x v) (h : lstD x S = some ds) : ∃ a vs, v = .ref a ∧ SqL K H a vs ∧ DVs K H θ ds vs := by
  cases x with
  | ro ds => cases h; obtain ⟨a, vs, rfl, hs, dv⟩ := d; exact ⟨a, vs, rfl, hs.seq, dv⟩
  | ref i =>
    obtain ⟨a, rfl, ha⟩ := d
    unfold lstD at h
    cases e : S[i]? with
    | none => simp only [e] at h; cases h
    | some o =>
      cases o <;> simp only [e] at h <;> cases h
      obtain ⟨vs, hv, dv⟩ := r.at_ i _ a e ha
      exact ⟨a, vs, rfl, SqL.of hv, dv⟩
  | _ => cases h
/-- all ints -/
def intsD : List D → Option (List Int)
  | [] => some []
  | .int i :: r => (intsD r).map (i :: ·)
  | _ => none
theorem intsD_of {K : PySem.W.Frag} {H : Hp} {θ : List Addr} : ∀ {ds : List D} {vs : List V} {ns : List Int}, DVs K H θ ds vs → intsD ds = some ns → vs = ns.map V.int ∧ ds = ns.map D.int
  | [], vs, ns, d, h => by cases h; obtain rfl : vs = [] := d; exact ⟨rfl, rfl⟩
  | d :: ds, vs, ns, ⟨v, r, e, h1, h2⟩, h => by
    cases d <;> first | (cases h; done) | skip
    rename_i i
    obtain rfl : v = .int i := h1
    unfold intsD at h
    obtain ⟨ms, hm, rfl⟩ := Option.map_eq_some_iff.mp h
    obtain ⟨e1, e2⟩ := intsD_of h2 hm
    exact ⟨by rw [e, e1]; rfl, by rw [e2]; rfl⟩
theorem intsD_map (ns : List Int) : intsD (ns.map D.int) = some ns := by
  induction ns with
  | nil => rfl
  | cons n ns ih => show (intsD (ns.map D.int)).map (n :: ·) = _; rw [ih]; rfl
def blsD : List D → Option (List Bool)
  | [] => some []
  | .bl i :: r => (blsD r).map (i :: ·)
  | _ => none
theorem blsD_of {K : PySem.W.Frag} {H : Hp} {θ : List Addr} : ∀ {ds : List D} {vs : List V} {ns : List Bool}, DVs K H θ ds vs → blsD ds = some ns → vs = ns.map V.bl
  | [], vs, ns, d, h => by cases h; obtain rfl : vs = [] := d; rfl
  | d :: ds, vs, ns, ⟨v, r, e, h1, h2⟩, h => by
    cases d <;> first | (cases h; done) | skip
    rename_i i
    obtain rfl : v = .bl i := h1
    unfold blsD at h
    obtain ⟨ms, hm, rfl⟩ := Option.map_eq_some_iff.mp h
    rw [e, blsD_of h2 hm]; rfl
theorem blsD_map (ns : List Bool) : blsD (ns.map D.bl) = some ns := by
  induction ns with
  | nil => rfl
  | cons n ns ih => show (blsD (ns.map D.bl)).map (n :: ·) = _; rw [ih]; rfl

def dLen : FF := fun ds S => match ds with
  | [.str y] => if y.length ≤ sizeLine then .ok (.int y.length) S else .no
  | [.ref i] => match S[i]? with
    | some (.lst xs) => .ok (.int xs.length) S
    | some (.dK xs) => .ok (.int xs.length) S
    | _ => .no
  | [.tup xs] => .ok (.int xs.length) S
  | [.ro xs] => .ok (.int xs.length) S
  | _ => .no
def dAbs : FF := fun ds S => match ds with
  | [.int i] => .ok (.int (if i < 0 then -i else i)) S
  | _ => .no
def dMax2 : FF := fun ds S => match ds with
  | [.int i, .int j] => .ok (.int (if j > i then j else i)) S
  | _ => .no
def dMin2 : FF := fun ds S => match ds with
  | [.int i, .int j] => .ok (.int (if j < i then j else i)) S
  | _ => .no
def dInt : FF := fun ds S => match ds with
  | [.int i] => .ok (.int i) S
  | [.bl b] => .ok (.int (if b then 1 else 0)) S
  | [.str a] => match PySem.intText? a with
    | some n => if a.length ≤ 640 then .ok (.int n) S else .no
    | none => .no
  | _ => .no
def dStr : FF := fun ds S => match ds with
  | [.int i] => if i.natAbs.log2 < 1920 then .ok (.str (toString i)) S else .no
  | _ => .no
def dList : FF := fun ds S => match ds with
  | [x] => match seqD x S with
    | some xs => .ok (.ref S.length) (S ++ [.lst xs])
    | none => .no
  | _ => .no
def dTuple : FF := fun ds S => match ds with
  | [.tup xs] => .ok (.tup xs) S
  | [x] => match lstD x S with
    | some xs => .ok (.tup xs) S
    | none => .no
  | _ => .no
def dSum : FF := fun ds S => match ds with
  | [x] => match (lstD x S).bind intsD with
    | some ns => .ok (.int ns.sum) S
    | none => .no
  | _ => .no
def dAny : FF := fun ds S => match ds with
  | [x] => match (lstD x S).bind blsD with
    | some ns => .ok (.bl (ns.any id)) S
    | none => .no
  | _ => .no
def dAll : FF := fun ds S => match ds with
  | [x] => match (lstD x S).bind blsD with
    | some ns => .ok (.bl (ns.all id)) S
    | none => .no
  | _ => .no
def maxI : List Int → Option Int
  | [] => none
  | x :: r => some (r.foldl (fun a b => if b > a then b else a) x)
def minI : List Int → Option Int
  | [] => none
  | x :: r => some (r.foldl (fun a b => if b < a then b else a) x)
theorem foldl_max : ∀ (r : List Int) (x : Int), (r.foldl (fun a b => if b > a then b else a) x) ∈ x :: r ∧ ∀ y ∈ x :: r, y ≤ r.foldl (fun a b => if b > a then b else a) x
  | [], x => by simp
  | b :: r, x => by
    simp only [List.foldl_cons]
    obtain ⟨h1, h2⟩ := foldl_max r (if b > x then b else x)
    refine ⟨?_, fun y hy => ?_⟩
    · rcases List.mem_cons.mp h1 with e | e
      · rw [e]; split <;> simp
      · simp [e]
    · have h3 := h2 (if b > x then b else x) List.mem_cons_self
      have g1 : x ≤ (if b > x then b else x) := by split <;> omega
      have g2 : b ≤ (if b > x then b else x) := by split <;> omega
      rcases List.mem_cons.mp hy with e | hy
      · rw [e]; exact Int.le_trans g1 h3
      · rcases List.mem_cons.mp hy with e | hy
        · rw [e]; exact Int.le_trans g2 h3
        · exact h2 y (List.mem_cons_of_mem _ hy)
theorem foldl_min : ∀ (r : List Int) (x : Int), (r.foldl (fun a b => if b < a then b else a) x) ∈ x :: r ∧ ∀ y ∈ x :: r, r.foldl (fun a b => if b < a then b else a) x ≤ y
  | [], x => by simp
  | b :: r, x => by
    simp only [List.foldl_cons]
    obtain ⟨h1, h2⟩ := foldl_min r (if b < x then b else x)
    refine ⟨?_, fun y hy => ?_⟩
    · rcases List.mem_cons.mp h1 with e | e
      · rw [e]; split <;> simp
      · simp [e]
    · have h3 := h2 (if b < x then b else x) List.mem_cons_self
      have g1 : (if b < x then b else x) ≤ x := by split <;> omega
      have g2 : (if b < x then b else x) ≤ b := by split <;> omega
      rcases List.mem_cons.mp hy with e | hy
      · rw [e]; exact Int.le_trans h3 g1
      · rcases List.mem_cons.mp hy with e | hy
        · rw [e]; exact Int.le_trans h3 g2
        · exact h2 y (List.mem_cons_of_mem _ hy)
theorem maxI_of {ns : List Int} {m k : Int} (h : maxI ns = some m) (hk : k ∈ ns) (hm : ∀ y ∈ ns, y ≤ k) : k = m := by
  cases ns with
  | nil => cases h
  | cons x r =>
    cases h
    obtain ⟨h1, h2⟩ := foldl_max r x
    have a := hm _ h1
    have b := h2 _ hk
    omega
theorem minI_of {ns : List Int} {m k : Int} (h : minI ns = some m) (hk : k ∈ ns) (hm : ∀ y ∈ ns, k ≤ y) : k = m := by
  cases ns with
  | nil => cases h
  | cons x r =>
    cases h
    obtain ⟨h1, h2⟩ := foldl_min r x
    have a := hm _ h1
    have b := h2 _ hk
    omega
def dMax1 : FF := fun ds S => match ds with
  | [x] => match ((lstD x S).bind intsD).bind maxI with
    | some m => .ok (.int m) S
    | none => .no
  | _ => .no
def dMin1 : FF := fun ds S => match ds with
  | [x] => match ((lstD x S).bind intsD).bind minI with
    | some m => .ok (.int m) S
    | none => .no
  | _ => .no

section
variable {X : Cx}
theorem DVs.two {K : PySem.W.Frag} {H : Hp} {θ : List Addr} {x y : D} {vs : List V} (h : DVs K H θ [x, y] vs) : ∃ v w, vs = [v, w] ∧ DV K H θ x v ∧ DV K H θ y w := by
  obtain ⟨v, r, rfl, h1, w, r', rfl, h2, h3⟩ := h
  obtain rfl : r' = [] := h3
  exact ⟨v, w, rfl, h1, h2⟩
theorem DVs.sing {K : PySem.W.Frag} {H : Hp} {θ : List Addr} {x : D} {vs : List V} (h : DVs K H θ [x] vs) : ∃ v, vs = [v] ∧ DV K H θ x v := by
  obtain ⟨v, r, rfl, h1, h3⟩ := h
  obtain rfl : r = [] := h3
  exact ⟨v, rfl, h1⟩
def rLenA (X : Cx) : List V → Hp → VK → Prop := fun xs H Q => (∃ x n, xs = [x] ∧ LenV X.K x H n ∧ Q (.int n) H) ∨ ∃ a kvs, xs = [.ref a] ∧ H a = some (.dK kvs) ∧ Q (.int kvs.length) H
theorem call_lenA : CallR X (.builtin "len") (rLenA X) := by
  intro pins s σ H xs us Q I r h
  rcases h with h | ⟨a, kvs, rfl, e, q⟩
  · exact call_len pins s σ H xs us Q I r h
  · obtain ⟨u, rfl, rx⟩ := vals1 r
    obtain rfl : u = Value.ref a := rx
    obtain ⟨z, hd, vs, rel, m⟩ := dk_of I.hok e
    have hlen : kvs.length = vs.length := Paired.length rel
    exact PySem.call_len_dict hd m (by rw [← hlen]; have := line63; omega) ⟨.int kvs.length, H, I.tok _, ⟨_, by rw [hlen]⟩, q⟩
theorem cd_len : CallD X (rLenA X) dLen := by
  intro θ H S ds vs Q E r dv p
  unfold dLen at p
  split at p
  · rename_i y
    obtain ⟨v, rfl, d⟩ := dv.sing
    obtain rfl : v = .str y := d
    by_cases hz : y.length ≤ sizeLine
    · rw [if_pos hz] at p
      exact .inl ⟨_, _, rfl, ⟨hz, rfl⟩, p θ H _ .refl r rfl⟩
    · rw [if_neg hz] at p; exact p.elim
  · rename_i i
    obtain ⟨v, rfl, d⟩ := dv.sing
    obtain ⟨a, rfl, ha⟩ := d
    split at p
    · rename_i xs e
      obtain ⟨vs, hv, dvs⟩ := r.at_ i _ a e ha
      exact .inl ⟨_, _, rfl, .inl ⟨vs, SqL.of hv, rfl⟩, by rw [dvs.length]; exact p θ H _ .refl r rfl⟩
    · rename_i xs e
      obtain ⟨vs, hv, hk, dvs⟩ := r.at_ i _ a e ha
      have hl := dvs.length
      simp only [List.length_map] at hl
      exact .inr ⟨a, vs, rfl, hv, by rw [hl]; exact p θ H _ .refl r rfl⟩
    · exact p.elim
  · obtain ⟨v, rfl, d⟩ := dv.sing
    obtain ⟨a, vs, rfl, hs, dvs⟩ := d
    exact .inl ⟨_, _, rfl, .inr ⟨vs, hs, rfl⟩, by rw [dvs.length]; exact p θ H _ .refl r rfl⟩
  · obtain ⟨v, rfl, d⟩ := dv.sing
    obtain ⟨a, vs, rfl, hs, dvs⟩ := d
    exact .inl ⟨_, _, rfl, .inl ⟨vs, hs.seq, rfl⟩, by rw [dvs.length]; exact p θ H _ .refl r rfl⟩
  · exact p.elim
theorem cd_abs : CallD X (fun xs H Q => ∃ i, xs = [.int i] ∧ Q (.int (if i < 0 then -i else i)) H) dAbs := by
  intro θ H S ds vs Q E r dv p
  unfold dAbs at p
  split at p
  · obtain ⟨v, rfl, d⟩ := dv.sing
    exact ⟨_, congrArg (· :: []) d, p θ H _ .refl r rfl⟩
  · exact p.elim
theorem cd_max2 : CallD X (fun xs H Q => ∃ i j, xs = [.int i, .int j] ∧ Q (.int (if j > i then j else i)) H) dMax2 := by
  intro θ H S ds vs Q E r dv p
  unfold dMax2 at p
  split at p
  · obtain ⟨v, w, rfl, d1, d2⟩ := dv.two
    obtain rfl : v = _ := d1
    obtain rfl : w = _ := d2
    exact ⟨_, _, rfl, p θ H _ .refl r rfl⟩
  · exact p.elim
theorem cd_min2 : CallD X (fun xs H Q => ∃ i j, xs = [.int i, .int j] ∧ Q (.int (if j < i then j else i)) H) dMin2 := by
  intro θ H S ds vs Q E r dv p
  unfold dMin2 at p
  split at p
  · obtain ⟨v, w, rfl, d1, d2⟩ := dv.two
    obtain rfl : v = _ := d1
    obtain rfl : w = _ := d2
    exact ⟨_, _, rfl, p θ H _ .refl r rfl⟩
  · exact p.elim
abbrev rIntA : List V → Hp → VK → Prop := fun xs H Q => ((∃ i, xs = [.int i] ∧ Q (.int i) H) ∨ ∃ k, xs = [.bl k] ∧ Q (.int (if k then 1 else 0)) H) ∨ (∃ a n, xs = [.str a] ∧ PySem.intText? a = some n ∧ a.length ≤ 640 ∧ Q (.int n) H)
theorem call_intA : CallR X (.type "int") rIntA := call_int1.or call_int_str
theorem cd_int : CallD X rIntA dInt := by
  intro θ H S ds vs Q E r dv p
  unfold dInt at p
  split at p
  · obtain ⟨v, rfl, d⟩ := dv.sing
    obtain rfl : v = _ := d
    exact .inl (.inl ⟨_, rfl, p θ H _ .refl r rfl⟩)
  · obtain ⟨v, rfl, d⟩ := dv.sing
    obtain rfl : v = _ := d
    exact .inl (.inr ⟨_, rfl, p θ H _ .refl r rfl⟩)
  · rename_i a
    obtain ⟨v, rfl, d⟩ := dv.sing
    obtain rfl : v = _ := d
    split at p
    · rename_i n e
      by_cases hz : a.length ≤ 640
      · rw [if_pos hz] at p
        exact .inr ⟨_, n, rfl, e, hz, p θ H _ .refl r rfl⟩
      · rw [if_neg hz] at p; exact p.elim
    · exact p.elim
  · exact p.elim
theorem cd_str : CallD X (fun xs H Q => ∃ i, xs = [.int i] ∧ i.natAbs.log2 < 1920 ∧ Q (.str (toString i)) H) dStr := by
  intro θ H S ds vs Q E r dv p
  unfold dStr at p
  split at p
  · rename_i i
    obtain ⟨v, rfl, d⟩ := dv.sing
    obtain rfl : v = _ := d
    by_cases hz : i.natAbs.log2 < 1920
    · rw [if_pos hz] at p
      exact ⟨_, rfl, hz, p θ H _ .refl r rfl⟩
    · rw [if_neg hz] at p; exact p.elim
  · exact p.elim
theorem cd_list : CallD X (fun xs H Q => ∃ p ys, xs = [.ref p] ∧ (SqL X.K H p ys ∨ SqT X.K H p ys) ∧ ∀ l, H l = none → Q (.ref l) (upd H l (.lst ys))) dList := by
  intro θ H S ds vs Q E r dv p
  unfold dList at p
  split at p
  · obtain ⟨v, rfl, d⟩ := dv.sing
    split at p
    · rename_i xs e
      obtain ⟨a, ws, rfl, hs, dvs⟩ := seqD_of r d e
      refine ⟨a, ws, rfl, hs, fun q hq => ?_⟩
      have f2 : Fut H θ (upd H q (.lst ws)) (θ ++ [q]) := Fut.newN hq
      exact p _ _ _ f2 (r.newN hq ⟨ws, upd_same, DVs.later f2 _ _ dvs⟩) ⟨q, rfl, by rw [← r.len]; simp⟩
    · exact p.elim
  · exact p.elim
theorem cd_tuple : CallD X (fun xs H Q => ∃ p ys, xs = [.ref p] ∧ ((SqL X.K H p ys ∧ ∀ l, H l = none → Q (.ref l) (upd H l (.tup ys))) ∨ (SqT X.K H p ys ∧ Q (.ref p) H))) dTuple := by
  intro θ H S ds vs Q E r dv p
  unfold dTuple at p
  split at p
  · obtain ⟨v, rfl, d⟩ := dv.sing
    have d' := d
    obtain ⟨a, ws, rfl, hs, dvs⟩ := d
    exact ⟨a, ws, rfl, .inr ⟨hs, p θ H _ .refl r d'⟩⟩
  · obtain ⟨v, rfl, d⟩ := dv.sing
    split at p
    · rename_i xs e
      obtain ⟨a, ws, rfl, hs, dvs⟩ := lstD_of r d e
      refine ⟨a, ws, rfl, .inl ⟨hs, fun q hq => ?_⟩⟩
      exact p θ _ _ (Fut.new hq) (r.new hq) ⟨q, ws, rfl, SqT.of upd_same, DVs.later (Fut.new hq) _ _ dvs⟩
    · exact p.elim
  · exact p.elim
theorem cd_sum : CallD X (rSum X.K) dSum := by
  intro θ H S ds vs Q E r dv p
  unfold dSum at p
  split at p
  · obtain ⟨v, rfl, d⟩ := dv.sing
    split at p
    · rename_i ns e
      obtain ⟨xs, e1, e2⟩ := Option.bind_eq_some_iff.mp e
      obtain ⟨a, ws, rfl, hs, dvs⟩ := lstD_of r d e1
      obtain ⟨rfl, _⟩ := intsD_of dvs e2
      exact ⟨a, ns, rfl, hs, p θ H _ .refl r rfl⟩
    · exact p.elim
  · exact p.elim
theorem cd_any : CallD X (rAny X.K) dAny := by
  intro θ H S ds vs Q E r dv p
  unfold dAny at p
  split at p
  · obtain ⟨v, rfl, d⟩ := dv.sing
    split at p
    · rename_i ns e
      obtain ⟨xs, e1, e2⟩ := Option.bind_eq_some_iff.mp e
      obtain ⟨a, ws, rfl, hs, dvs⟩ := lstD_of r d e1
      obtain rfl := blsD_of dvs e2
      exact ⟨a, ns, rfl, hs, p θ H _ .refl r rfl⟩
    · exact p.elim
  · exact p.elim
theorem cd_all : CallD X (rAll X.K) dAll := by
  intro θ H S ds vs Q E r dv p
  unfold dAll at p
  split at p
  · obtain ⟨v, rfl, d⟩ := dv.sing
    split at p
    · rename_i ns e
      obtain ⟨xs, e1, e2⟩ := Option.bind_eq_some_iff.mp e
      obtain ⟨a, ws, rfl, hs, dvs⟩ := lstD_of r d e1
      obtain rfl := blsD_of dvs e2
      exact ⟨a, ns, rfl, hs, p θ H _ .refl r rfl⟩
    · exact p.elim
  · exact p.elim
theorem cd_max1 : CallD X (rMax X.K) dMax1 := by
  intro θ H S ds vs Q E r dv p
  unfold dMax1 at p
  split at p
  · obtain ⟨v, rfl, d⟩ := dv.sing
    split at p
    · rename_i m e
      obtain ⟨ns, e1, e3⟩ := Option.bind_eq_some_iff.mp e
      obtain ⟨xs, e1, e2⟩ := Option.bind_eq_some_iff.mp e1
      obtain ⟨a, ws, rfl, hs, dvs⟩ := lstD_of r d e1
      obtain ⟨rfl, _⟩ := intsD_of dvs e2
      exact ⟨a, ns, rfl, hs, by cases ns with | nil => cases e3 | cons _ _ => simp, fun k hk hm => by rw [maxI_of e3 hk hm]; exact p θ H _ .refl r rfl⟩
    · exact p.elim
  · exact p.elim
theorem cd_min1 : CallD X (rMin X.K) dMin1 := by
  intro θ H S ds vs Q E r dv p
  unfold dMin1 at p
  split at p
  · obtain ⟨v, rfl, d⟩ := dv.sing
    split at p
    · rename_i m e
      obtain ⟨ns, e1, e3⟩ := Option.bind_eq_some_iff.mp e
      obtain ⟨xs, e1, e2⟩ := Option.bind_eq_some_iff.mp e1
      obtain ⟨a, ws, rfl, hs, dvs⟩ := lstD_of r d e1
      obtain ⟨rfl, _⟩ := intsD_of dvs e2
      exact ⟨a, ns, rfl, hs, by cases ns with | nil => cases e3 | cons _ _ => simp, fun k hk hm => by rw [minI_of e3 hk hm]; exact p θ H _ .refl r rfl⟩
    · exact p.elim
  · exact p.elim
end
end Y

set_option Elab.async false
set_option linter.all false
set_option maxRecDepth 100000
set_option maxHeartbeats 2000000
/-! Y, statements, loops, comprehensions. -/
namespace Y
open PySem L2
instance : DecidableEq O := fun a b => match a, b with
  | .lst x, .lst y => if h : x = y then .isTrue (by rw [h]) else .isFalse fun e => h (O.lst.inj e)
  | .dK x, .dK y => if h : x = y then .isTrue (by rw [h]) else .isFalse fun e => h (O.dK.inj e)
  | .dN x, .dN y => if h : x = y then .isTrue (by rw [h]) else .isFalse fun e => h (O.dN.inj e)
  | .lst _, .dK _ => .isFalse (fun e => by cases e)
  | .lst _, .dN _ => .isFalse (fun e => by cases e)
  | .dK _, .lst _ => .isFalse (fun e => by cases e)
  | .dK _, .dN _ => .isFalse (fun e => by cases e)
  | .dN _, .lst _ => .isFalse (fun e => by cases e)
  | .dN _, .dK _ => .isFalse (fun e => by cases e)

/-! ### binders: names, tuples of names -/
abbrev FB := D → Env → Option Env
abbrev FBs := List D → Env → Option Env
def DB (X : Cx) (tg : Expr) (vs : List Nat) (g : FB) : Prop := ∃ t, PG X tg t ∧ ∀ θ (σ : L2.St) ρ H d v (Q : L2.St → Hp → Prop), SlV X.K H θ ρ σ → DV X.K H θ d v →
  (∃ ρ', g d ρ = some ρ' ∧ ∀ σ', SlV X.K H θ ρ' σ' → (∀ i, i ∉ vs → σ'[i]? = σ[i]?) → σ'.length = σ.length → Q σ' H) → t v σ H Q
def DBs (X : Cx) (tgs : List Expr) (vs : List Nat) (g : FBs) : Prop := ∃ t, PGs X tgs t ∧ ∀ θ (σ : L2.St) ρ H ds ws (Q : L2.St → Hp → Prop), SlV X.K H θ ρ σ → DVs X.K H θ ds ws →
  (∃ ρ', g ds ρ = some ρ' ∧ ∀ σ', SlV X.K H θ ρ' σ' → (∀ i, i ∉ vs → σ'[i]? = σ[i]?) → σ'.length = σ.length → Q σ' H) → t ws σ H Q
def bName (i : Nat) : FB := fun d ρ => some (ρ.set i (some d))
def bNil : FBs := fun ds ρ => match ds with
  | [] => some ρ
  | _ => none
def bCons (g : FB) (gs : FBs) : FBs := fun ds ρ => match ds with
  | d :: r => (g d ρ).bind (gs r)
  | [] => none
def bTup (n : Nat) (gs : FBs) : FB := fun d ρ => match d with
  | .tup ds => if ds.length = n then gs ds ρ else none
  | _ => none
section
variable {X : Cx} {W : WX} {tg e : Expr} {es : List Expr} {pos : Pos}
theorem db_name (i : Nat) {x : Str} (hN : X.N.Nodup) (hi : X.N[i]? = some x := by rfl) (hx : Loc X.env.scope x := by first | exact Or.inl rfl | exact Or.inr rfl)
    (hf : X.fn x = true ∨ X.env.scope.names.lookup x = some .local := by first | exact .inl rfl | exact .inr rfl) : DB X (.Name x pos) [i] (bName i) := by
  refine ⟨_, pg_name hN hi hx hf, fun θ σ ρ H d v Q sl dv h => ?_⟩
  obtain ⟨ρ', e, h⟩ := h
  cases e
  exact h _ (sl.set i dv) (fun j hj => List.getElem?_set_ne (by simpa using fun e => hj (by simp [e]))) (List.length_set ..)
theorem dbs_nil : DBs X [] [] bNil := by
  refine ⟨_, pgs_nil, fun θ σ ρ H d v Q sl dv h => ?_⟩
  obtain ⟨ρ', e, h⟩ := h
  cases d with
  | nil =>
    cases e
    exact ⟨dv, h σ sl (fun _ _ => rfl) rfl⟩
  | cons _ _ => cases e
theorem dbs_cons {vs ws : List Nat} {g : FB} {gs : FBs} (ha : DB X e vs g) (hr : DBs X es ws gs) (hs : (assignEach (e :: es) X.env).map (·.2) = assign e X.env :: (assignEach es X.env).map (·.2) := by rfl) : DBs X (e :: es) (vs ++ ws) (bCons g gs) := by
  obtain ⟨ta, pa, qa⟩ := ha
  obtain ⟨tb, pb, qb⟩ := hr
  refine ⟨_, pgs_cons pa pb hs, fun θ σ ρ H ds us Q sl dv h => ?_⟩
  obtain ⟨ρ', e, h⟩ := h
  cases ds with
  | nil => cases e
  | cons d r =>
    obtain ⟨v, us', rfl, d1, d2⟩ := dv
    obtain ⟨ρ1, e1, e2⟩ := Option.bind_eq_some_iff.mp (show (g d ρ).bind (gs r) = some ρ' from e)
    refine ⟨v, us', rfl, qa θ σ ρ H d v _ sl d1 ⟨ρ1, e1, fun σ1 sl1 k1 l1 => ?_⟩⟩
    refine qb θ σ1 ρ1 H r us' Q sl1 d2 ⟨ρ', e2, fun σ2 sl2 k2 l2 => h σ2 sl2 (fun i hi => ?_) (l2.trans l1)⟩
    rw [k2 i fun z => hi (List.mem_append_right _ z), k1 i fun z => hi (List.mem_append_left _ z)]
theorem db_tup {vs : List Nat} {gs : FBs} {n k : Nat} (hc : X.calm = true) (h : DBs X es vs gs) (hn : (assignEach es X.env).length = n := by rfl) (hst : (assignEach es X.env).findIdx? (·.1) = none := by rfl) : DB X (.Tuple es k pos) vs (bTup n gs) := by
  obtain ⟨ta, pa, qa⟩ := h
  refine ⟨_, pg_tup hc pa hn hst, fun θ σ ρ H d v Q sl dv h => ?_⟩
  obtain ⟨ρ', e, h⟩ := h
  unfold bTup at e
  cases d <;> first | (cases e; done) | skip
  rename_i ds
  dsimp only at e
  by_cases hl : ds.length = n
  · rw [if_pos hl] at e
    obtain ⟨a, us, rfl, hs, d2⟩ := dv
    exact ⟨a, us, rfl, hs, by rw [d2.length]; exact hl, qa θ σ ρ H ds us Q sl d2 ⟨ρ', e, h⟩⟩
  · rw [if_neg hl] at e; cases e
end

/-! ### plain statements -/
def sNx : FS := fun ρ S => .nx ρ S
def sSeq (a b : FS) : FS := fun ρ S => (a ρ S).seq b
def sAsg (f : FE) (g : FB) : FS := fun ρ S => (f ρ S).then ρ fun d S1 => match g d ρ with
  | some ρ' => .nx ρ' S1
  | none => .no
def sExpr (f : FE) : FS := fun ρ S => (f ρ S).then ρ fun _ S1 => .nx ρ S1
def sRet (f : FE) : FS := fun ρ S => (f ρ S).then ρ fun d S1 => .rt d S1
def sRetN : FS := fun _ S => .rt .non S
def sIf (t : FT) (a b : FS) : FS := fun ρ S => (t ρ S).then ρ fun c S1 => if c = true then a ρ S1 else b ρ S1
def sBreak : FS := fun ρ S => .bk ρ S
def sCont : FS := fun ρ S => .ct ρ S
def sNever : FS := fun _ _ => .no
def sPar (i j : Nat) (fa : FA) : FS := fun ρ S => (fa ρ S).then ρ fun ds S1 => match ds with
  | [x, y] => .nx ((ρ.set i (some x)).set j (some y)) S1
  | _ => .no
def sPar3 (i j l : Nat) (fa : FA) : FS := fun ρ S => (fa ρ S).then ρ fun ds S1 => match ds with
  | [x, y, z] => .nx (((ρ.set i (some x)).set j (some y)).set l (some z)) S1
  | _ => .no
section
variable {X : Cx} {W : WX} {tg e c : Expr} {es : List Expr} {pos : Pos} {f : FE} {ft : FT} {fa : FA} {s : Stmt} {ss a b : List Stmt} {g : FB} {vs : List Nat} {fs fu fv : FS}
theorem PostS.nxOnly {K : PySem.W.Frag} {w : World} {mg : Str → Option Value} {θ : List Addr} {H : Hp} {D D' : Ends} {ρ : Env} {S : Sto} (h : PostS K w mg θ H (.nx ρ S) D W) (e : D'.nx = D.nx) : PostS K w mg θ H (.nx ρ S) D' W := fun θ' H' σ' a b c => by rw [e]; exact h θ' H' σ' a b c
/-- an expression, then what a statement makes of it -/
theorem thenS {te : TE} (q : ∀ θ σ ρ H S Q, Rl X.K X.w H θ S → SlV X.K H θ ρ σ → PostV X.K X.w X.mg θ H (f ρ S) Q (fun c d H' => W c d σ H') → te σ H Q)
    {θ : List Addr} {σ : L2.St} {ρ : Env} {H : Hp} {S : Sto} {D : Ends} {G : V → Hp → Prop} {k : Y.D → Sto → SR} (r : Rl X.K X.w H θ S) (sl : SlV X.K H θ ρ σ) (h : PostS X.K X.w X.mg θ H ((f ρ S).then ρ k) D W)
    (hg : ∀ θ2 H2 S2 x v, Fut H θ H2 θ2 → Rl X.K X.w H2 θ2 S2 → SlV X.K H2 θ2 ρ σ → DV X.K H2 θ2 x v → PostS X.K X.w X.mg θ2 H2 (k x S2) D W → G v H2) : te σ H fun v H1 => G v H1 := by
  refine q θ σ ρ H S _ r sl ?_
  cases e : f ρ S with
  | no => rw [e] at h; exact h
  | ex c S' =>
    rw [e] at h
    exact fun θ' H' cls dd f' r' x => h θ' H' σ cls dd f' r' (sl.later f') x
  | ok d S' =>
    rw [e] at h
    exact fun θ' H' v f' r' dv => hg θ' H' S' d v f' r' (sl.later f') dv (PostS.since f' h)
theorem thenT {te : TT} (q : ∀ θ σ ρ H S Q, Rl X.K X.w H θ S → SlV X.K H θ ρ σ → PostB X.K X.w X.mg θ H (ft ρ S) Q (fun c d H' => W c d σ H') → te σ H Q)
    {θ : List Addr} {σ : L2.St} {ρ : Env} {H : Hp} {S : Sto} {D : Ends} {G : Bool → Hp → Prop} {k : Bool → Sto → SR} (r : Rl X.K X.w H θ S) (sl : SlV X.K H θ ρ σ) (h : PostS X.K X.w X.mg θ H ((ft ρ S).then ρ k) D W)
    (hg : ∀ θ2 H2 S2 x, Fut H θ H2 θ2 → Rl X.K X.w H2 θ2 S2 → SlV X.K H2 θ2 ρ σ → PostS X.K X.w X.mg θ2 H2 (k x S2) D W → G x H2) : te σ H fun v H1 => G v H1 := by
  refine q θ σ ρ H S _ r sl ?_
  cases e : ft ρ S with
  | no => rw [e] at h; exact h
  | ex c S' =>
    rw [e] at h
    exact fun θ' H' cls dd f' r' x => h θ' H' σ cls dd f' r' (sl.later f') x
  | ok d S' =>
    rw [e] at h
    exact fun θ' H' f' r' => hg θ' H' S' d f' r' (sl.later f') (PostS.since f' h)
theorem thenA {te : TA} (q : ∀ θ σ ρ H S Q, Rl X.K X.w H θ S → SlV X.K H θ ρ σ → PostA X.K X.w X.mg θ H (fa ρ S) Q (fun c d H' => W c d σ H') → te σ H Q)
    {θ : List Addr} {σ : L2.St} {ρ : Env} {H : Hp} {S : Sto} {D : Ends} {G : List V → Hp → Prop} {k : List Y.D → Sto → SR} (r : Rl X.K X.w H θ S) (sl : SlV X.K H θ ρ σ) (h : PostS X.K X.w X.mg θ H ((fa ρ S).then ρ k) D W)
    (hg : ∀ θ2 H2 S2 x v, Fut H θ H2 θ2 → Rl X.K X.w H2 θ2 S2 → SlV X.K H2 θ2 ρ σ → DVs X.K H2 θ2 x v → PostS X.K X.w X.mg θ2 H2 (k x S2) D W → G v H2) : te σ H fun v H1 => G v H1 := by
  refine q θ σ ρ H S _ r sl ?_
  cases e : fa ρ S with
  | no => rw [e] at h; exact h
  | ex c S' =>
    rw [e] at h
    exact fun θ' H' cls dd f' r' x => h θ' H' σ cls dd f' r' (sl.later f') x
  | ok d S' =>
    rw [e] at h
    exact fun θ' H' v f' r' dv => hg θ' H' S' d v f' r' (sl.later f') dv (PostS.since f' h)
theorem dss_nil : DSs X W [] sNx := ⟨_, pss_nil, fun θ σ ρ H S D r sl h => h θ H σ .refl r sl⟩
theorem dss_one (h : DS X W s fs) : DSs X W [s] fs := let ⟨t, p, q⟩ := h; ⟨t, pss_one p, q⟩
theorem dss_cons (h1 : DS X W s fs) (h2 : DSs X W ss fu) : DSs X W (s :: ss) (sSeq fs fu) := by
  obtain ⟨ta, pa, qa⟩ := h1
  obtain ⟨tb, pb, qb⟩ := h2
  refine ⟨_, pss_cons pa pb, fun θ σ ρ H S D r sl h => ?_⟩
  refine qa θ σ ρ H S _ r sl ?_
  unfold sSeq at h
  cases e : fs ρ S with
  | nx ρ' S' =>
    rw [e] at h
    intro θ1 H1 σ1 f1 r1 sl1
    exact qb θ1 σ1 ρ' H1 S' D r1 sl1 (PostS.since f1 h)
  | rt d S' => rw [e] at h; exact h
  | bk ρ S' => rw [e] at h; exact h
  | ct ρ S' => rw [e] at h; exact h
  | ex c ρ S' => rw [e] at h; exact h
  | no => rw [e] at h; exact h
theorem ds_pass : DS X W (.Pass pos) sNx := ⟨_, ps_pass, fun θ σ ρ H S D r sl h => h θ H σ .refl r sl⟩
theorem ds_doc {x j pos'} : DS X W (.Expr (.Constant (.str x) j pos) pos') sNx := ⟨_, ps_doc, fun θ σ ρ H S D r sl h => h θ H σ .refl r sl⟩
theorem ds_break : DS X W (.Break pos) sBreak := ⟨_, ps_break, fun θ σ ρ H S D r sl h => h θ H σ .refl r sl⟩
theorem ds_cont : DS X W (.Continue pos) sCont := ⟨_, ps_continue, fun θ σ ρ H S D r sl h => h θ H σ .refl r sl⟩
theorem ds_never : DS X W s sNever := ⟨_, ps_never, fun θ σ ρ H S D r sl h => h.elim⟩
theorem ds_expr (he : DE X W e f) (hs : swapsWith e none pos.line X.env = pure false := by rfl) : DS X W (.Expr e pos) (sExpr f) := by
  obtain ⟨te, pe, qe⟩ := he
  exact ⟨_, ps_expr pe hs, fun θ σ ρ H S D r sl h => thenS qe r sl h fun θ2 H2 S2 x v f2 r2 sl2 d2 p => p θ2 H2 σ .refl r2 sl2⟩
theorem ds_ret (he : DE X W e f) : DS X W (.Return (some e) pos) (sRet f) := by
  obtain ⟨te, pe, qe⟩ := he
  exact ⟨_, ps_ret pe, fun θ σ ρ H S D r sl h => thenS qe r sl h fun θ2 H2 S2 x v f2 r2 sl2 d2 p => p θ2 H2 v .refl r2 d2⟩
theorem ds_retN : DS X W (.Return none pos) sRetN := ⟨_, ps_retN, fun θ σ ρ H S D r sl h => h θ H _ .refl r rfl⟩
theorem ds_if (hc : DT X W c ft) (ha : DSs X W a fs) (hb : DSs X W b fu) : DS X W (.If c a b pos) (sIf ft fs fu) := by
  obtain ⟨tc, pc, qc⟩ := hc
  obtain ⟨ta, pa, qa⟩ := ha
  obtain ⟨tb, pb, qb⟩ := hb
  refine ⟨_, ps_if pc pa pb, fun θ σ ρ H S D r sl h => thenT qc r sl h fun θ2 H2 S2 x f2 r2 sl2 p => ?_⟩
  cases x with
  | true => rw [if_pos rfl] at p ⊢; exact qa θ2 σ ρ H2 S2 D r2 sl2 p
  | false => rw [if_neg (by decide)] at p ⊢; exact qb θ2 σ ρ H2 S2 D r2 sl2 p
theorem asgK {K : PySem.W.Frag} {w : World} {mg : Str → Option Value} {θ : List Addr} {σ : L2.St} {ρ : Env} {H : Hp} {S : Sto} {D : Ends} {d : Y.D} {t : TG} {v : V} {g : FB} {vs : List Nat}
    (q : ∀ θ (σ : L2.St) ρ H d v (Q : L2.St → Hp → Prop), SlV K H θ ρ σ → DV K H θ d v → (∃ ρ', g d ρ = some ρ' ∧ ∀ σ', SlV K H θ ρ' σ' → (∀ i, i ∉ vs → σ'[i]? = σ[i]?) → σ'.length = σ.length → Q σ' H) → t v σ H Q)
    (r : Rl K w H θ S) (sl : SlV K H θ ρ σ) (dv : DV K H θ d v) (p : PostS K w mg θ H (match g d ρ with | some ρ' => SR.nx ρ' S | none => .no) D W) : t v σ H D.nx := by
  refine q θ σ ρ H d v D.nx sl dv ?_
  cases e : g d ρ with
  | none => rw [e] at p; exact p.elim
  | some ρ' => rw [e] at p; exact ⟨ρ', rfl, fun σ' sl' _ _ => p θ H σ' .refl r sl'⟩
/-- name = e -/
theorem ds_set (i : Nat) {x : Str} {pos' : Pos} (hN : X.N.Nodup) (he : DE X W e f) (hi : X.N[i]? = some x := by rfl) (hx : Loc X.env.scope x := by first | exact Or.inl rfl | exact Or.inr rfl) (hs : swapsWith e (some (.Name x pos')) pos.line X.env = pure false := by rfl)
    (hf : X.fn x = true ∨ X.env.scope.names.lookup x = some .local := by first | exact .inl rfl | exact .inr rfl) : DS X W (.Assign [.Name x pos'] e pos) (sAsg f (bName i)) := by
  obtain ⟨te, pe, qe⟩ := he
  refine ⟨_, ps_set hN hi hx pe hs hf, fun θ σ ρ H S D r sl h => thenS qe r sl h fun θ2 H2 S2 x v f2 r2 sl2 d2 p => ?_⟩
  exact p θ2 H2 _ .refl r2 (sl2.set i d2)
/-- a, b = e -/
theorem ds_asg (he : DE X W e f) (hg : DB X tg vs g) (hs : swapsWithSole [tg] e pos.line X.env = pure false := by rfl) (hw : swappedStores [tg] e X.env = pure none := by rfl)
    (h1 : (assignEach [tg] X.env).map (·.2) = [assign tg X.env] := by rfl) : DS X W (.Assign [tg] e pos) (sAsg f g) := by
  obtain ⟨te, pe, qe⟩ := he
  obtain ⟨tg', pg, qg⟩ := hg
  exact ⟨_, ps_asg pe pg hs hw h1, fun θ σ ρ H S D r sl h => thenS qe r sl h fun θ2 H2 S2 x v f2 r2 sl2 d2 p => asgK qg r2 sl2 d2 p⟩
/-- a, b = x, y -/
theorem ds_par (i j : Nat) {x y : Str} {p q : Expr} {px py pt : Pos} {kt k2 pt2} (hc : X.calm = true) (hN : X.N.Nodup) (ha : DA X W [p, q] fa) (hi : X.N[i]? = some x := by rfl) (hj : X.N[j]? = some y := by rfl) (hij : i ≠ j := by decide)
    (hx : X.env.scope.names.lookup x = some .local := by rfl) (hy : X.env.scope.names.lookup y = some .local := by rfl)
    (hw : swappedStores [.Tuple [.Name x px, .Name y py] kt pt] (.Tuple [p, q] k2 pt2) X.env = pure (some [x, y]) := by rfl)
    (hs : swapsWithSole [.Tuple [.Name x px, .Name y py] kt pt] (.Tuple [p, q] k2 pt2) pos.line X.env = pure false := by rfl) : DS X W (.Assign [.Tuple [.Name x px, .Name y py] kt pt] (.Tuple [p, q] k2 pt2) pos) (sPar i j fa) := by
  obtain ⟨ta, pa, qa⟩ := ha
  have P := ps_par (pos := pos) hc hN hi hj hij hx hy pa hw hs
  refine ⟨_, P, fun θ σ ρ H S D r sl h => ?_⟩
  unfold sPar at h
  unfold tPar
  refine thenA qa r sl h fun θ2 H2 S2 xs ws f2 r2 sl2 d2 p => ?_
  cases xs with
  | nil => exact p.elim
  | cons x xs =>
    cases xs with
    | nil => exact p.elim
    | cons y xs =>
      cases xs with
      | cons _ _ => exact p.elim
      | nil =>
        obtain ⟨v, w, rfl, d3, d4⟩ := d2.two
        exact ⟨v, w, rfl, p θ2 H2 _ .refl r2 ((sl2.set i d3).set j d4)⟩
theorem ds_par3 (i j l : Nat) {x y z : Str} {p q s : Expr} {px py pz pt : Pos} {kt k2 pt2} (hc : X.calm = true) (hN : X.N.Nodup) (ha : DA X W [p, q, s] fa) (hi : X.N[i]? = some x := by rfl) (hj : X.N[j]? = some y := by rfl) (hl : X.N[l]? = some z := by rfl)
    (hij : i ≠ j := by decide) (hil : i ≠ l := by decide) (hjl : j ≠ l := by decide)
    (hx : X.env.scope.names.lookup x = some .local := by rfl) (hy : X.env.scope.names.lookup y = some .local := by rfl) (hz : X.env.scope.names.lookup z = some .local := by rfl)
    (hw : swappedStores [.Tuple [.Name x px, .Name y py, .Name z pz] kt pt] (.Tuple [p, q, s] k2 pt2) X.env = pure (some [x, y, z]) := by rfl)
    (hs : swapsWithSole [.Tuple [.Name x px, .Name y py, .Name z pz] kt pt] (.Tuple [p, q, s] k2 pt2) pos.line X.env = pure false := by rfl) : DS X W (.Assign [.Tuple [.Name x px, .Name y py, .Name z pz] kt pt] (.Tuple [p, q, s] k2 pt2) pos) (sPar3 i j l fa) := by
  obtain ⟨ta, pa, qa⟩ := ha
  have P := ps_par3 (pos := pos) hc hN hi hj hl hij hil hjl hx hy hz pa hw hs
  refine ⟨_, P, fun θ σ ρ H S D r sl h => ?_⟩
  unfold sPar3 at h
  unfold tPar3
  refine thenA qa r sl h fun θ2 H2 S2 xs ws f2 r2 sl2 d2 p => ?_
  cases xs with
  | nil => exact p.elim
  | cons x xs =>
    cases xs with
    | nil => exact p.elim
    | cons y xs =>
      cases xs with
      | nil => exact p.elim
      | cons z xs =>
        cases xs with
        | cons _ _ => exact p.elim
        | nil =>
          obtain ⟨v, r1, rfl, d3, d4⟩ := d2
          obtain ⟨w, u, rfl, d4, d5⟩ := DVs.two d4
          exact ⟨v, w, u, rfl, p θ2 H2 _ .refl r2 (((sl2.set i d3).set j d4).set l d5)⟩
end

/-! ### while -/
inductive StepR where
  | again (ρ : Env) (S : Sto) | fin (r : SR)
def stepW (t : FT) (b : FS) (ρ : Env) (S : Sto) : StepR := match t ρ S with
  | .ok true S1 => match b ρ S1 with
    | .nx ρ' S' => .again ρ' S'
    | .ct ρ' S' => .again ρ' S'
    | .bk ρ' S' => .fin (.nx ρ' S')
    | .rt d S' => .fin (.rt d S')
    | .ex c ρ' S' => .fin (.ex c ρ' S')
    | .no => .fin .no
  | .ok false S1 => .fin (.nx ρ S1)
  | .ex c S1 => .fin (.ex c ρ S1)
  | .no => .fin .no
def whN (t : FT) (b : FS) : Nat → Env → Sto → SR
  | 0, _, _ => .no
  | n + 1, ρ, S => match stepW t b ρ S with
    | .again ρ' S' => whN t b n ρ' S'
    | .fin r => r
theorem whN_more {t : FT} {b : FS} : ∀ {n : Nat} {ρ : Env} {S : Sto}, whN t b n ρ S ≠ .no → whN t b (n + 1) ρ S = whN t b n ρ S
  | 0, _, _, h => absurd rfl h
  | n + 1, ρ, S, h => by
    unfold whN at h ⊢
    cases e : stepW t b ρ S with
    | fin r => rfl
    | again ρ' S' =>
      simp only [e] at h ⊢
      exact whN_more h
theorem whN_le {t : FT} {b : FS} {n : Nat} {ρ : Env} {S : Sto} (h : whN t b n ρ S ≠ .no) : ∀ m, n ≤ m → whN t b m ρ S = whN t b n ρ S := by
  intro m hm
  induction m with
  | zero => have : n = 0 := by omega
            subst this; rfl
  | succ m ih =>
    by_cases e : n = m + 1
    · subst e; rfl
    · have q := ih (by omega)
      rw [whN_more (by rw [q]; exact h), q]
open Classical in
/-- while t: b; no where it does not end -/
noncomputable def sWhile (t : FT) (b : FS) : FS := fun ρ S => if h : ∃ n, whN t b n ρ S ≠ .no then whN t b h.choose ρ S else .no
theorem sWhile_of {t : FT} {b : FS} {n : Nat} {ρ : Env} {S : Sto} (h : whN t b n ρ S ≠ .no) : sWhile t b ρ S = whN t b n ρ S := by
  have hx : ∃ n, whN t b n ρ S ≠ .no := ⟨n, h⟩
  unfold sWhile
  rw [dif_pos hx]
  have h2 := hx.choose_spec
  by_cases hle : n ≤ hx.choose
  · exact whN_le h _ hle
  · exact (whN_le h2 _ (by omega)).symm
/-- THE EQUATION of a while -/
theorem sWhile_eq (t : FT) (b : FS) (ρ : Env) (S : Sto) : sWhile t b ρ S = match stepW t b ρ S with
    | .again ρ' S' => sWhile t b ρ' S'
    | .fin r => r := by
  cases e : stepW t b ρ S with
  | fin r =>
    cases r with
    | no =>
      unfold sWhile
      rw [dif_neg]
      rintro ⟨n, hn⟩
      cases n with
      | zero => exact hn rfl
      | succ n => apply hn; unfold whN; rw [e]
    | _ =>
      have h1 : whN t b 1 ρ S ≠ .no := by unfold whN; rw [e]; intro q; cases q
      rw [sWhile_of h1]
      unfold whN; rw [e]
  | again ρ' S' =>
    dsimp only
    by_cases hx : ∃ n, whN t b n ρ' S' ≠ .no
    · obtain ⟨n, hn⟩ := hx
      have h1 : whN t b (n + 1) ρ S ≠ .no := by unfold whN; rw [e]; exact hn
      rw [sWhile_of h1, sWhile_of hn]
      show whN t b (n + 1) ρ S = _
      rw [whN, e]
    · have h0 : sWhile t b ρ' S' = .no := by unfold sWhile; rw [dif_neg hx]
      rw [h0]
      unfold sWhile
      rw [dif_neg]
      rintro ⟨n, hn⟩
      cases n with
      | zero => exact hn rfl
      | succ n =>
        apply hx
        refine ⟨n, ?_⟩
        unfold whN at hn
        rw [e] at hn
        exact hn
section
variable {X : Cx} {W : WX} {c : Expr} {pos : Pos} {ft : FT} {ss : List Stmt} {fs : FS}
theorem ds_while (hp : PassesOwn (model X.prog X.w) X.A X.env X.xe) (hc : DT X W c ft) (hb : DSs X W ss fs) : DS X W (.While c ss [] pos) (sWhile ft fs) := by
  obtain ⟨tc, pc, qc⟩ := hc
  obtain ⟨tb, pb, qb⟩ := hb
  refine ⟨_, ps_while hp pc pb, fun θ σ ρ H S D r sl h => ?_⟩
  have hno : ∃ n, whN ft fs n ρ S ≠ .no := by
    apply Classical.byContradiction
    intro hx
    have : sWhile ft fs ρ S = .no := by unfold sWhile; rw [dif_neg hx]
    rw [this] at h
    exact h
  obtain ⟨n, hn⟩ := hno
  rw [sWhile_of hn] at h
  refine ⟨fun m σ H => ∃ ρ θ S, Rl X.K X.w H θ S ∧ SlV X.K H θ ρ σ ∧ PostS X.K X.w X.mg θ H (whN ft fs m ρ S) D W, ⟨n, ρ, θ, S, r, sl, h⟩, ?_⟩
  clear h hn n r sl
  rintro m σ H ⟨ρ, θ, S, r, sl, h⟩
  cases m with
  | zero => exact h.elim
  | succ m =>
    refine qc θ σ ρ H S _ r sl ?_
    unfold whN at h
    unfold stepW at h
    cases e : ft ρ S with
    | no => simp only [e] at h; exact h
    | ex c S' =>
      simp only [e] at h
      exact fun θ' H' cls dd f' r' x => h θ' H' σ cls dd f' r' (sl.later f') x
    | ok b S1 =>
      cases b with
      | false =>
        simp only [e] at h
        intro θ1 H1 f1 r1
        rw [if_neg (by decide)]
        exact h θ1 H1 σ f1 r1 (sl.later f1)
      | true =>
        simp only [e] at h
        intro θ1 H1 f1 r1
        rw [if_pos rfl]
        refine ⟨fun σ H => ∃ ρ θ S, Rl X.K X.w H θ S ∧ SlV X.K H θ ρ σ ∧ PostS X.K X.w X.mg θ H (whN ft fs m ρ S) D W, fun σ' H' q => ⟨m, Nat.lt_succ_self m, q⟩, ?_⟩
        refine qb θ1 σ ρ H1 S1 _ r1 (sl.later f1) ?_
        cases e2 : fs ρ S1 with
        | no => simp only [e2] at h; exact h
        | ex c ρ' S' => simp only [e2] at h; exact PostS.since f1 h
        | rt d S' => simp only [e2] at h; exact PostS.since (D := D) f1 h
        | bk ρ' S' =>
          simp only [e2] at h
          exact fun θ' H' σ' f' r' sl' => h θ' H' σ' (f1.trans f') r' sl'
        | nx ρ' S' =>
          simp only [e2] at h
          exact fun θ' H' σ' f' r' sl' => ⟨ρ', θ', S', r', sl', PostS.since (f1.trans f') h⟩
        | ct ρ' S' =>
          simp only [e2] at h
          exact fun θ' H' σ' f' r' sl' => ⟨ρ', θ', S', r', sl', PostS.since (f1.trans f') h⟩
end
end Y

set_option Elab.async false
set_option linter.all false
set_option maxRecDepth 100000
set_option maxHeartbeats 2000000
/-! Y, what is walked; for; list comprehensions. -/
namespace Y
open PySem L2
/-- what must stay as it is while one walks -/
abbrev Chk := List (Nat × O)
def chkOk (ch : Chk) (S : Sto) : Bool := ch.all fun p => decide (S[p.1]? = some p.2)
abbrev FI := Env → Sto → R (List D × Chk)
/-- an iterator that yields ds, as long as ch stays -/
def ItD (K : PySem.W.Frag) (w : World) (J : It) (θ : List Addr) (H : Hp) (ds : List D) (ch : Chk) : Prop := ∀ (i : Nat) θ' H' S', Fut H θ H' θ' → Rl K w H' θ' S' → chkOk ch S' = true →
  (i = ds.length → J.stop i H') ∧ ∀ d, ds[i]? = some d → J.go i H' ∧ ∀ x H'', J.yld i H' x H'' → Fut H' θ' H'' θ' ∧ Rl K w H'' θ' S' ∧ (∀ b, H' b ≠ none → H'' b = H' b) ∧ DV K H'' θ' d x
def DI (X : Cx) (W : WX) (tg e : Expr) (f : FI) : Prop := ∃ wi, PI X tg e wi ∧ ∀ θ σ ρ H S (R : It → Hp → Prop), Rl X.K X.w H θ S → SlV X.K H θ ρ σ →
  (match f ρ S with
    | .ok (ds, ch) S' => ∀ θ' H' J, Fut H θ H' θ' → Rl X.K X.w H' θ' S' → ItD X.K X.w J θ' H' ds ch → R J H'
    | .ex c S' => ∀ θ' H' cls dd, Fut H θ H' θ' → Rl X.K X.w H' θ' S' → ExR X.K X.mg H' θ' c cls dd → W cls dd σ H'
    | .no => False) → wi σ H R
/-- the items of a sequence -/
def itemsD (x : D) (S : Sto) : R (List D × Chk) := match x with
  | .ro ds => .ok (ds, []) S
  | .ref i => match S[i]? with
    | some (.lst ds) => .ok (ds, [(i, .lst ds)]) S
    | _ => .no
  | _ => .no
def itemsT (x : D) (S : Sto) : R (List D × Chk) := match x with
  | .tup ds => .ok (ds, []) S
  | _ => .no
def fiLst (f : FE) : FI := fun ρ S => (f ρ S).bind itemsD
def fiTup (f : FE) : FI := fun ρ S => (f ρ S).bind itemsT
def rngD (lo : Int) (n : Nat) : List D := (List.range n).map fun i => D.int (lo + (i : Nat))
def fiRng1 (f : FE) : FI := fun ρ S => (f ρ S).bind fun x S1 => match x with
  | .int j => if -(2 ^ 62) ≤ j ∧ j < 2 ^ 62 then .ok (rngD 0 j.toNat, []) S1 else .no
  | _ => .no
def fiRng2 (fa fb : FE) : FI := fun ρ S => (fa ρ S).bind fun x S1 => (fb ρ S1).bind fun y S2 => match x, y with
  | .int i, .int j => if -(2 ^ 62) ≤ i ∧ i < 2 ^ 62 ∧ -(2 ^ 62) ≤ j ∧ j < 2 ^ 62 then .ok (rngD i (j - i).toNat, []) S2 else .no
  | _, _ => .no
section
variable {K : PySem.W.Frag} {w : World} {θ : List Addr} {H : Hp} {S : Sto}
theorem chk1 {i : Nat} {o : O} : chkOk [(i, o)] S = true ↔ S[i]? = some o := by
  unfold chkOk
  simp
theorem itd_list {a : Addr} {i : Nat} {ds : List D} (ha : θ[i]? = some a) : ItD K w (Itl K a) θ H ds [(i, .lst ds)] := by
  intro j θ' H' S' f r hc
  rw [chk1] at hc
  obtain ⟨vs, hv, dv⟩ := r.at_ i _ a hc (f.at ha)
  refine ⟨fun e => ⟨vs, SqL.of hv, by rw [dv.length]; omega⟩, fun d hd => ?_⟩
  obtain ⟨v, e, dvv⟩ := dv.get hd
  refine ⟨⟨vs, v, SqL.of hv, e⟩, fun x H'' y => ?_⟩
  obtain ⟨rfl, hx⟩ := y
  have hx := hx vs (SqL.of hv)
  rw [e] at hx
  cases hx
  exact ⟨.refl, r, fun _ _ => rfl, dvv⟩
theorem itd_ro {a : Addr} {vs : List V} {ds : List D} (ha : RoL K H a vs) (dv : DVs K H θ ds vs) : ItD K w (Itl K a) θ H ds [] := by
  intro j θ' H' S' f r hc
  have hv := (f.rol ha).seq
  have dv := DVs.later f _ _ dv
  refine ⟨fun e => ⟨vs, hv, by rw [dv.length]; omega⟩, fun d hd => ?_⟩
  obtain ⟨v, e, dvv⟩ := dv.get hd
  refine ⟨⟨vs, v, hv, e⟩, fun x H'' y => ?_⟩
  obtain ⟨rfl, hx⟩ := y
  have hx := hx vs hv
  rw [e] at hx
  cases hx
  exact ⟨.refl, r, fun _ _ => rfl, dvv⟩
theorem itd_tup {a : Addr} {vs : List V} {ds : List D} (ha : SqT K H a vs) (dv : DVs K H θ ds vs) : ItD K w (Itt K a) θ H ds [] := by
  intro j θ' H' S' f r hc
  have hv := f.sqt ha
  have dv := DVs.later f _ _ dv
  refine ⟨fun e => ⟨vs, hv, by rw [dv.length]; omega⟩, fun d hd => ?_⟩
  obtain ⟨v, e, dvv⟩ := dv.get hd
  refine ⟨⟨vs, v, hv, e⟩, fun x H'' y => ?_⟩
  obtain ⟨rfl, hx⟩ := y
  have hx := hx vs hv
  rw [e] at hx
  cases hx
  exact ⟨.refl, r, fun _ _ => rfl, dvv⟩
theorem itd_rng {lo : Int} {n : Nat} : ItD K w (Itr lo n) θ H (rngD lo n) [] := by
  intro j θ' H' S' f r hc
  refine ⟨fun e => ?_, fun d hd => ?_⟩
  · unfold rngD at e
    rw [List.length_map, List.length_range] at e
    exact Nat.le_of_eq e.symm
  · unfold rngD at hd
    rw [List.getElem?_map] at hd
    obtain ⟨k, e1, rfl⟩ := Option.map_eq_some_iff.mp hd
    obtain ⟨h1, h2⟩ := List.getElem?_eq_some_iff.mp e1
    rw [List.getElem_range] at h2
    subst h2
    rw [List.length_range] at h1
    refine ⟨h1, fun x H'' y => ?_⟩
    obtain ⟨rfl, rfl⟩ := y
    exact ⟨.refl, r, fun _ _ => rfl, rfl⟩
end
section
variable {X : Cx} {W : WX} {tg e a b : Expr} {pos p : Pos} {f fa fb : FE}
/-- what one expression yields -/
theorem fi1 {te : TE} (q : ∀ θ σ ρ H S Q, Rl X.K X.w H θ S → SlV X.K H θ ρ σ → PostV X.K X.w X.mg θ H (f ρ S) Q (fun c d H' => W c d σ H') → te σ H Q)
    {θ : List Addr} {σ : L2.St} {ρ : Env} {H : Hp} {S : Sto} {R : It → Hp → Prop} {G : V → Hp → Prop} {k : D → Sto → Y.R (List D × Chk)} (r : Rl X.K X.w H θ S) (sl : SlV X.K H θ ρ σ)
    (h : match (f ρ S).bind k with
      | .ok (ds, ch) S' => ∀ θ' H' J, Fut H θ H' θ' → Rl X.K X.w H' θ' S' → ItD X.K X.w J θ' H' ds ch → R J H'
      | .ex c S' => ∀ θ' H' cls dd, Fut H θ H' θ' → Rl X.K X.w H' θ' S' → ExR X.K X.mg H' θ' c cls dd → W cls dd σ H'
      | .no => False)
    (hx : ∀ x S c S', k x S ≠ .ex c S')
    (hg : ∀ θ2 H2 S2 x v ds ch S3, f ρ S = .ok x S2 → k x S2 = .ok (ds, ch) S3 → Fut H θ H2 θ2 → Rl X.K X.w H2 θ2 S2 → DV X.K H2 θ2 x v → (∀ θ' H' J, Fut H2 θ2 H' θ' → Rl X.K X.w H' θ' S3 → ItD X.K X.w J θ' H' ds ch → R J H') → G v H2) : te σ H fun v H1 => G v H1 := by
  refine q θ σ ρ H S _ r sl ?_
  cases e : f ρ S with
  | no => rw [e] at h; exact h
  | ex c S' => rw [e] at h; exact h
  | ok d S' =>
    rw [e] at h
    intro θ1 H1 v f1 r1 dv1
    dsimp only [Y.R.bind] at h
    cases ek : k d S' with
    | no => rw [ek] at h; exact h.elim
    | ex c S'' => exact absurd ek (hx _ _ _ _)
    | ok dc S3 =>
      obtain ⟨ds, ch⟩ := dc
      rw [ek] at h
      exact hg θ1 H1 S' d v ds ch S3 e ek f1 r1 dv1 fun θ' H' J f' r' it => h θ' H' J (f1.trans f') r' it
theorem di_list (ha : DE X W e f) : DI X W tg e (fiLst f) := by
  obtain ⟨te, pe, qe⟩ := ha
  refine ⟨_, pi_list pe, fun θ σ ρ H S R r sl h => ?_⟩
  unfold iList
  refine fi1 qe r sl h (fun x S c S' => ?_) fun θ2 H2 S2 x v ds ch S3 e1 e2 f2 r2 d2 g => ?_
  · unfold itemsD; split
    · intro q; cases q
    · split <;> (intro q; cases q)
    · intro q; cases q
  · unfold itemsD at e2
    split at e2
    · cases e2
      obtain ⟨a, vs, rfl, hs, dv⟩ := d2
      exact ⟨a, rfl, ⟨vs, hs.seq⟩, g θ2 H2 _ .refl r2 (itd_ro hs dv)⟩
    · obtain ⟨a, rfl, ha⟩ := d2
      split at e2
      · rename_i xs es
        cases e2
        obtain ⟨vs, hv, dv⟩ := r2.at_ _ _ a es ha
        exact ⟨a, rfl, ⟨vs, SqL.of hv⟩, g θ2 H2 _ .refl r2 (itd_list ha)⟩
      · cases e2
    · cases e2
theorem di_tup (ha : DE X W e f) : DI X W tg e (fiTup f) := by
  obtain ⟨te, pe, qe⟩ := ha
  refine ⟨_, pi_tup pe, fun θ σ ρ H S R r sl h => ?_⟩
  unfold iTup
  refine fi1 qe r sl h (fun x S c S' => ?_) fun θ2 H2 S2 x v ds ch S3 e1 e2 f2 r2 d2 g => ?_
  · unfold itemsT; split <;> (intro q; cases q)
  · unfold itemsT at e2
    split at e2
    · cases e2
      obtain ⟨a, vs, rfl, hs, dv⟩ := d2
      exact ⟨a, rfl, ⟨vs, hs⟩, g θ2 H2 _ .refl r2 (itd_tup hs dv)⟩
    · cases e2
theorem di_rng1 (hg : Gl X "range") (hm : X.mg "range" = none) (ha : DE X W a fa) (hs : starEach [a] X.env = [(false, eval a X.env)] := by rfl) : DI X W tg (.Call (.Name "range" p) [a] [] pos) (fiRng1 fa) := by
  obtain ⟨te, pe, qe⟩ := ha
  refine ⟨_, pi_range1 hg hm (pa_cons pe pa_nil hs) hs, fun θ σ ρ H S R r sl h => ?_⟩
  unfold iRng1 tCons tNil
  refine fi1 qe r sl h (fun x S c S' => ?_) fun θ2 H2 S2 x v ds ch S3 e1 e2 f2 r2 d2 g => ?_
  · split
    · split <;> (intro q; cases q)
    · intro q; cases q
  · split at e2
    · rename_i j
      split at e2
      · rename_i hj
        cases e2
        obtain rfl : v = .int j := d2
        exact ⟨j, rfl, hj.1, hj.2, g θ2 H2 _ .refl r2 itd_rng⟩
      · cases e2
    · cases e2
theorem di_rng2 (hg : Gl X "range") (hm : X.mg "range" = none) (ha : DE X W a fa) (hb : DE X W b fb) (hs : starEach [a, b] X.env = [(false, eval a X.env), (false, eval b X.env)] := by rfl) (hs2 : starEach [b] X.env = [(false, eval b X.env)] := by rfl) : DI X W tg (.Call (.Name "range" p) [a, b] [] pos) (fiRng2 fa fb) := by
  obtain ⟨ta, pa, qa⟩ := ha
  obtain ⟨tb, pb, qb⟩ := hb
  refine ⟨_, pi_range2 hg hm (pa_cons pa (pa_cons pb pa_nil hs2) (by rw [hs, hs2])) hs hs2, fun θ σ ρ H S R r sl h => ?_⟩
  unfold iRng2 tCons
  refine qa θ σ ρ H S _ r sl ?_
  unfold fiRng2 at h
  cases e : fa ρ S with
  | no => rw [e] at h; exact h
  | ex c S' => rw [e] at h; exact h
  | ok d S' =>
    rw [e] at h
    intro θ1 H1 v f1 r1 dv1
    dsimp only [Y.R.bind] at h
    refine qb θ1 σ ρ H1 S' _ r1 (sl.later f1) ?_
    cases e2 : fb ρ S' with
    | no => rw [e2] at h; exact h
    | ex c S'' => rw [e2] at h; exact fun θ' H' cls dd f' => h θ' H' cls dd (f1.trans f')
    | ok d2 S2 =>
      rw [e2] at h
      intro θ2 H2 w f2 r2 dv2
      have dv1' := DV.later f2 _ _ dv1
      dsimp only at h
      cases d <;> first | exact h.elim | skip
      cases d2 <;> first | exact h.elim | skip
      rename_i i j
      by_cases hz : -(2 ^ 62) ≤ i ∧ i < 2 ^ 62 ∧ -(2 ^ 62) ≤ j ∧ j < 2 ^ 62
      · simp only [hz] at h
        obtain rfl : v = .int i := dv1
        obtain rfl : w = .int j := dv2
        rw [if_pos (by simp)] at h
        exact ⟨i, j, rfl, hz, h θ2 H2 _ (f1.trans f2) r2 itd_rng⟩
      · dsimp only at h
        rw [if_neg hz] at h; exact h.elim
end

/-! ### for -/
def loopF (ch : Chk) (g : FB) (b : FS) : List D → Env → Sto → SR
  | [], ρ, S => if chkOk ch S = true then .nx ρ S else .no
  | d :: ds, ρ, S => if chkOk ch S = true then (match g d ρ with
    | none => .no
    | some ρ1 => match b ρ1 S with
      | .nx ρ' S' => loopF ch g b ds ρ' S'
      | .ct ρ' S' => loopF ch g b ds ρ' S'
      | .bk ρ' S' => .nx ρ' S'
      | .rt d S' => .rt d S'
      | .ex c ρ' S' => .ex c ρ' S'
      | .no => .no) else .no
def sFor (fi : FI) (g : FB) (b : FS) : FS := fun ρ S => (fi ρ S).then ρ fun dc S1 => loopF dc.2 g b dc.1 ρ S1
section
variable {X : Cx} {W : WX} {tg e : Expr} {pos : Pos} {fi : FI} {g : FB} {vs : List Nat} {fs : FS} {ss : List Stmt}
theorem ds_for (hp : PassesOwn (model X.prog X.w) X.A X.env X.xe) (hc : X.calm = true) (hi : DI X W tg e fi) (hg : DB X tg vs g) (hb : DSs X W ss fs) (hs : ∀ x, foldedSetIterable e X.env x = pure x := by intro _; rfl) : DS X W (.For tg e ss [] pos) (sFor fi g fs) := by
  obtain ⟨wi, pi, qi⟩ := hi
  obtain ⟨tt, pg, qg⟩ := hg
  obtain ⟨tb, pb, qb⟩ := hb
  refine ⟨_, ps_for hp hc pi pg pb hs, fun θ0 σ0 ρ0 H0 S0 D r0 sl0 h => ?_⟩
  refine qi θ0 σ0 ρ0 H0 S0 _ r0 sl0 ?_
  unfold sFor at h
  cases e0 : fi ρ0 S0 with
  | no => rw [e0] at h; exact h
  | ex c S' =>
    rw [e0] at h
    exact fun θ' H' cls dd f' r' x => h θ' H' σ0 cls dd f' r' (sl0.later f') x
  | ok dc S1 =>
    obtain ⟨ds, ch⟩ := dc
    rw [e0] at h
    intro θ1 H1 J f1 r1 it
    have h1 : PostS X.K X.w X.mg θ1 H1 (loopF ch g fs ds ρ0 S1) D W := PostS.since f1 h
    refine ⟨fun i m σ H => i ≤ ds.length ∧ m = ds.length - i ∧ ∃ ρ θ S, Fut H1 θ1 H θ ∧ Rl X.K X.w H θ S ∧ SlV X.K H θ ρ σ ∧ PostS X.K X.w X.mg θ H (loopF ch g fs (ds.drop i) ρ S) D W,
      ⟨ds.length, Nat.zero_le _, rfl, ρ0, θ1, S1, .refl, r1, sl0.later f1, h1⟩, ?_⟩
    clear h h1
    rintro i m σ H ⟨hi, rfl, ρ, θ, S, f2, r2, sl2, h⟩
    by_cases hlt : i < ds.length
    · rw [List.drop_eq_getElem_cons hlt] at h
      unfold loopF at h
      by_cases hck : chkOk ch S = true
      · rw [if_pos hck] at h
        cases eg : g ds[i] ρ with
        | none => simp only [eg] at h; exact h.elim
        | some ρ1 =>
          simp only [eg] at h
          obtain ⟨_, g2⟩ := it i θ H S f2 r2 hck
          obtain ⟨hgo, hy⟩ := g2 ds[i] (by simp [hlt])
          refine .inr ⟨hgo, fun σ' H' => (i + 1) ≤ ds.length ∧ ∃ ρ θ S, Fut H1 θ1 H' θ ∧ Rl X.K X.w H' θ S ∧ SlV X.K H' θ ρ σ' ∧ PostS X.K X.w X.mg θ H' (loopF ch g fs (ds.drop (i + 1)) ρ S) D W,
            fun σ' H' q => ⟨ds.length - (i + 1), by omega, q.1, rfl, q.2⟩, fun x H' y => ?_⟩
          obtain ⟨f3, r3, _, dv3⟩ := hy x H' y
          refine qg θ σ ρ H' ds[i] x _ (sl2.later f3) dv3 ⟨ρ1, eg, fun σ2 sl3 _ _ => ?_⟩
          refine qb θ σ2 ρ1 H' S _ r3 sl3 ?_
          have h := PostS.since f3 h
          cases eb : fs ρ1 S with
          | no => simp only [eb] at h; exact h
          | ex c ρ' S' => simp only [eb] at h; exact h
          | rt d S' => simp only [eb] at h; exact h
          | bk ρ' S' =>
            simp only [eb] at h
            exact h
          | nx ρ' S' =>
            simp only [eb] at h
            exact fun θ' H'' σ' f' r' sl' => ⟨hlt, ρ', θ', S', f2.trans (f3.trans f'), r', sl', PostS.since f' h⟩
          | ct ρ' S' =>
            simp only [eb] at h
            exact fun θ' H'' σ' f' r' sl' => ⟨hlt, ρ', θ', S', f2.trans (f3.trans f'), r', sl', PostS.since f' h⟩
      · rw [if_neg hck] at h; exact h.elim
    · have e : i = ds.length := by omega
      subst e
      rw [List.drop_length] at h
      unfold loopF at h
      by_cases hck : chkOk ch S = true
      · rw [if_pos hck] at h
        exact .inl ⟨(it _ θ H S f2 r2 hck).1 rfl, h θ H σ .refl r2 sl2⟩
      · rw [if_neg hck] at h; exact h.elim
end

/-! ### list comprehensions -/
def wipeD (ρ : Env) : List Nat → Env
  | [] => ρ
  | v :: vs => (wipeD ρ vs).set v none
theorem SlV.wipe {K : PySem.W.Frag} {H : Hp} {θ : List Addr} {ρ : Env} {σ : L2.St} (h : SlV K H θ ρ σ) : ∀ vs, SlV K H θ (wipeD ρ vs) (L2.wipe σ vs)
  | [] => h
  | v :: vs => (SlV.wipe h vs).unset v none
theorem wipe_congr {σ σ' : L2.St} : ∀ {vs : List Nat}, (∀ i, i ∉ vs → σ'[i]? = σ[i]?) → σ'.length = σ.length → L2.wipe σ' vs = L2.wipe σ vs := by
  intro vs h hl
  have key : ∀ (vs : List Nat) (τ : L2.St) (i : Nat), (L2.wipe τ vs)[i]? = if i ∈ vs ∧ i < τ.length then some none else τ[i]? := by
    intro vs
    induction vs with
    | nil => intro τ i; simp [L2.wipe]
    | cons v vs ih =>
      intro τ i
      unfold L2.wipe
      by_cases e : v = i
      · subst e
        by_cases hv : v < τ.length
        · rw [List.getElem?_set_self (by rw [wipe_length]; exact hv), if_pos ⟨by simp, hv⟩]
        · rw [List.getElem?_eq_none (by rw [List.length_set, wipe_length]; omega), if_neg (fun z => hv z.2), List.getElem?_eq_none (by omega)]
      · rw [List.getElem?_set_ne e, ih]
        have : (i ∈ v :: vs) ↔ i ∈ vs := by simp [Ne.symm e]
        simp only [this]
  apply List.ext_getElem?
  intro i
  rw [key, key, hl]
  by_cases hi : i ∈ vs
  · by_cases hl2 : i < σ.length
    · rw [if_pos ⟨hi, hl2⟩, if_pos ⟨hi, hl2⟩]
    · rw [if_neg (fun z => hl2 z.2), if_neg (fun z => hl2 z.2), List.getElem?_eq_none (by omega), List.getElem?_eq_none (by omega)]
  · rw [if_neg (fun z => hi z.1), if_neg (fun z => hi z.1)]
    exact h i hi
def lcLoop (r : Nat) (ch : Chk) (g : FB) (t : FT) (e : FE) (ρ : Env) : List D → Sto → R D
  | [], S => if chkOk ch S = true then .ok (.ref r) S else .no
  | d :: ds, S => if chkOk ch S = true then (match g d ρ with
    | none => .no
    | some ρ1 => match t ρ1 S with
      | .ok true S2 => (match e ρ1 S2 with
        | .ok y S3 => (match S3[r]? with
          | some (.lst acc) => if acc.length < sizeLine then lcLoop r ch g t e ρ ds (S3.set r (.lst (acc ++ [y]))) else .no
          | _ => .no)
        | _ => .no)
      | .ok false S2 => lcLoop r ch g t e ρ ds S2
      | _ => .no) else .no
def fLc (fi : FI) (own : List Nat) (g : FB) (t : FT) (e : FE) : FE := fun ρ S => (fi ρ S).bind fun dc S1 => lcLoop S1.length dc.2 g t e (wipeD ρ own) dc.1 (S1 ++ [.lst []])
def ftYes : FT := fun _ S => .ok true S
def DTs (X : Cx) (W : WX) (es : List Expr) (f : FT) : Prop := ∃ t, PTs X es t ∧ ∀ θ σ ρ H S Q, Rl X.K X.w H θ S → SlV X.K H θ ρ σ → PostB X.K X.w X.mg θ H (f ρ S) Q (fun c d H' => W c d σ H') → t σ H Q
abbrev W0 : WX := fun _ _ _ _ => False
theorem dts_nil {X : Cx} {W : WX} : DTs X W [] ftYes := ⟨_, pts_nil, fun θ σ ρ H S Q r sl h => h θ H .refl r⟩
theorem dts_one {X : Cx} {W : WX} {c : Expr} {f : FT} (h : DT X W c f) : DTs X W [c] f := let ⟨t, p, q⟩ := h; ⟨t, pts_one p, q⟩
section
variable {X : Cx} {W : WX} {elt tg iter : Expr} {ifs : List Expr} {scope : Scope} {own : List (Str × Nat)} {pos : Pos} {fi : FI} {g : FB} {ft : FT} {fe : FE}
theorem lc_read {wi : TI} {g' : TG} {tt : TT} {te : TE}
    (qi : ∀ θ σ ρ H S (R : It → Hp → Prop), Rl X.K X.w H θ S → SlV X.K H θ ρ σ → (match fi ρ S with
      | .ok (ds, ch) S' => ∀ θ' H' J, Fut H θ H' θ' → Rl X.K X.w H' θ' S' → ItD X.K X.w J θ' H' ds ch → R J H'
      | .ex c S' => ∀ θ' H' cls dd, Fut H θ H' θ' → Rl X.K X.w H' θ' S' → ExR X.K X.mg H' θ' c cls dd → W cls dd σ H'
      | .no => False) → wi σ H R)
    (qg : ∀ θ (σ : L2.St) ρ H d v (Q : L2.St → Hp → Prop), SlV X.K H θ ρ σ → DV X.K H θ d v → (∃ ρ', g d ρ = some ρ' ∧ ∀ σ', SlV X.K H θ ρ' σ' → (∀ i, i ∉ own.map (·.2) → σ'[i]? = σ[i]?) → σ'.length = σ.length → Q σ' H) → g' v σ H Q)
    (qt : ∀ θ σ ρ H S Q, Rl X.K X.w H θ S → SlV X.K H θ ρ σ → PostB X.K X.w X.mg θ H (ft ρ S) Q (fun _ _ _ => False) → tt σ H Q)
    (qe : ∀ θ σ ρ H S Q, Rl X.K X.w H θ S → SlV X.K H θ ρ σ → PostV X.K X.w X.mg θ H (fe ρ S) Q (fun _ _ _ => False) → te σ H Q)
    {θ : List Addr} {σ : L2.St} {ρ : Env} {H : Hp} {S : Sto} {Q : VK} (r : Rl X.K X.w H θ S) (sl : SlV X.K H θ ρ σ) (h : PostV X.K X.w X.mg θ H (fLc fi (own.map (·.2)) g ft fe ρ S) Q (fun c d H' => W c d σ H')) :
    tLc wi g' tt te (own.map (·.2)) σ H Q := by
  refine qi θ σ ρ H S _ r sl ?_
  unfold fLc at h
  cases e0 : fi ρ S with
  | no => rw [e0] at h; exact h
  | ex c S' => rw [e0] at h; exact h
  | ok dc S1 =>
    obtain ⟨ds, ch⟩ := dc
    rw [e0] at h
    intro θ1 H1 J f1 r1 it
    intro L hL
    have fL : Fut H1 θ1 (upd H1 L (.lst [])) (θ1 ++ [L]) := Fut.newN hL
    have rL : Rl X.K X.w (upd H1 L (.lst [])) (θ1 ++ [L]) (S1 ++ [.lst []]) := r1.newN hL ⟨[], upd_same, rfl⟩
    have atL : (θ1 ++ [L])[S1.length]? = some L := by rw [← r1.len]; simp
    have h1 : PostV X.K X.w X.mg (θ1 ++ [L]) (upd H1 L (.lst [])) (lcLoop S1.length ch g ft fe (wipeD ρ (own.map (·.2))) ds (S1 ++ [.lst []])) Q (fun c d H' => W c d σ H') := PostV.since (f1.trans fL) h
    refine ⟨fun i m H => i ≤ ds.length ∧ m = ds.length - i ∧ ∃ θ S, Fut (upd H1 L (.lst [])) (θ1 ++ [L]) H θ ∧ Rl X.K X.w H θ S ∧ PostV X.K X.w X.mg θ H (lcLoop S1.length ch g ft fe (wipeD ρ (own.map (·.2))) (ds.drop i) S) Q (fun c d H' => W c d σ H'),
      ⟨ds.length, Nat.zero_le _, rfl, _, _, .refl, rL, h1⟩, ?_⟩
    clear h h1
    rintro i m H2 ⟨hi, rfl, θ2, S2, f2, r2, h⟩
    have slw : SlV X.K H2 θ2 (wipeD ρ (own.map (·.2))) (L2.wipe σ (own.map (·.2))) := (sl.later (f1.trans (fL.trans f2))).wipe _
    by_cases hlt : i < ds.length
    · rw [List.drop_eq_getElem_cons hlt] at h
      unfold lcLoop at h
      by_cases hck : chkOk ch S2 = true
      · rw [if_pos hck] at h
        cases eg : g ds[i] (wipeD ρ (own.map (·.2))) with
        | none => simp only [eg] at h; exact h.elim
        | some ρ1 =>
          simp only [eg] at h
          obtain ⟨_, g2⟩ := it i θ2 H2 S2 (fL.trans f2) r2 hck
          obtain ⟨hgo, hy⟩ := g2 ds[i] (by simp [hlt])
          refine .inr ⟨hgo, fun H' => (i + 1) ≤ ds.length ∧ ∃ θ S, Fut (upd H1 L (.lst [])) (θ1 ++ [L]) H' θ ∧ Rl X.K X.w H' θ S ∧ PostV X.K X.w X.mg θ H' (lcLoop S1.length ch g ft fe (wipeD ρ (own.map (·.2))) (ds.drop (i + 1)) S) Q (fun c d H' => W c d σ H'),
            fun H' q => ⟨ds.length - (i + 1), by omega, q.1, rfl, q.2⟩, fun x H' y => ?_⟩
          obtain ⟨f3, r3, _, dv3⟩ := hy x H' y
          refine qg θ2 _ _ H' ds[i] x _ (slw.later f3) dv3 ⟨ρ1, eg, fun σ2 sl3 k2 l2 => ⟨wipe_eq k2 l2, ?_⟩⟩
          refine qt θ2 σ2 ρ1 H' S2 _ r3 sl3 ?_
          have h := PostV.since f3 h
          cases et : ft ρ1 S2 with
          | no => simp only [et] at h; exact h
          | ex c S' => simp only [et] at h; exact h.elim
          | ok b S3 =>
            cases b with
            | false =>
              simp only [et] at h
              intro θ3 H3 f4 r4
              rw [if_neg (by decide)]
              exact ⟨hlt, θ3, S3, f2.trans (f3.trans f4), r4, PostV.since f4 h⟩
            | true =>
              simp only [et] at h
              intro θ3 H3 f4 r4
              rw [if_pos rfl]
              refine qe θ3 σ2 ρ1 H3 S3 _ r4 (sl3.later f4) ?_
              have h := PostV.since f4 h
              cases ee : fe ρ1 S3 with
              | no => simp only [ee] at h; exact h
              | ex c S' => simp only [ee] at h; exact h.elim
              | ok yv S4 =>
                simp only [ee] at h
                intro θ4 H4 v f5 r5 dv5
                have f25 := f2.trans (f3.trans (f4.trans f5))
                have at4 := f25.at atL
                cases ea : S4[S1.length]? with
                | none => simp only [ea] at h; exact h.elim
                | some o =>
                  cases o with
                  | dK _ => simp only [ea] at h; exact h.elim
                  | dN _ => simp only [ea] at h; exact h.elim
                  | lst acc =>
                    simp only [ea] at h
                    by_cases hz : acc.length < sizeLine
                    · rw [if_pos hz] at h
                      obtain ⟨ws, hw, dw⟩ := r5.at_ _ _ L ea at4
                      refine ⟨ws, hw, by rw [dw.length]; exact hz, hlt, θ4, _, f25.trans (Fut.chg hw fun z => z), r5.chg (ob := .lst (acc ++ [yv])) at4 fun H' f' e' => ⟨ws ++ [v], by rw [e', upd_same], DVs.later f' _ _ (dw.append (DVs.one dv5))⟩, ?_⟩
                      exact PostV.since (f5.trans (Fut.chg hw fun z => z)) h
                    · rw [if_neg hz] at h; exact h.elim
      · rw [if_neg hck] at h; exact h.elim
    · have e : i = ds.length := by omega
      subst e
      rw [List.drop_length] at h
      unfold lcLoop at h
      by_cases hck : chkOk ch S2 = true
      · rw [if_pos hck] at h
        exact .inl ⟨(it _ θ2 H2 S2 (fL.trans f2) r2 hck).1 rfl, h θ2 H2 _ .refl r2 ⟨L, rfl, f2.at atL⟩⟩
      · rw [if_neg hck] at h; exact h.elim
where
  wipe_eq {σ2 σ : L2.St} {vs : List Nat} (k : ∀ i, i ∉ vs → σ2[i]? = (L2.wipe σ vs)[i]?) (l : σ2.length = (L2.wipe σ vs).length) : L2.wipe σ2 vs = L2.wipe σ vs := by
    rw [wipe_congr k l]
    apply wipe_congr
    · intro i hi
      have : ∀ (vs : List Nat), i ∉ vs → (L2.wipe σ vs)[i]? = σ[i]? := by
        intro vs
        induction vs with
        | nil => intro _; rfl
        | cons v vs ih =>
          intro h
          simp only [List.mem_cons, not_or] at h
          unfold L2.wipe
          rw [List.getElem?_set_ne (Ne.symm h.1), ih h.2]
      exact this vs hi
    · exact wipe_length _ _
end
end Y

set_option Elab.async false
set_option linter.all false
set_option maxRecDepth 100000
set_option maxHeartbeats 2000000
/-! Y, list comprehensions as expressions; subscripts, slices, stores to items, list methods. -/
namespace Y
open PySem L2
/-! ### the canonical reading -/
def tF (K : PySem.W.Frag) (w : World) (mg : Str → Option Value) (W : WX) (f : FE) : TE := fun σ H Q => ∃ θ ρ S, Rl K w H θ S ∧ SlV K H θ ρ σ ∧ PostV K w mg θ H (f ρ S) Q (fun c d H' => W c d σ H')
def tFT (K : PySem.W.Frag) (w : World) (mg : Str → Option Value) (W : WX) (f : FT) : TT := fun σ H Q => ∃ θ ρ S, Rl K w H θ S ∧ SlV K H θ ρ σ ∧ PostB K w mg θ H (f ρ S) Q (fun c d H' => W c d σ H')
def tFB (K : PySem.W.Frag) (vs : List Nat) (g : FB) : TG := fun v σ H Q => ∃ θ ρ d, SlV K H θ ρ σ ∧ DV K H θ d v ∧ ∃ ρ', g d ρ = some ρ' ∧ ∀ σ', SlV K H θ ρ' σ' → (∀ i, i ∉ vs → σ'[i]? = σ[i]?) → σ'.length = σ.length → Q σ' H
theorem DE.can {X : Cx} {W : WX} {e : Expr} {f : FE} (h : DE X W e f) : PE X e (tF X.K X.w X.mg W f) := by
  obtain ⟨t, p, q⟩ := h
  exact ⟨fun pins s σ H Q I ⟨θ, ρ, S, r, sl, h⟩ => p.run pins s σ H Q I (q θ σ ρ H S Q r sl h)⟩
theorem DTs.can {X : Cx} {W : WX} {e : List Expr} {f : FT} (h : DTs X W e f) : PTs X e (tFT X.K X.w X.mg W f) := by
  obtain ⟨t, p, q⟩ := h
  exact ⟨fun pins s σ H Q I ⟨θ, ρ, S, r, sl, h⟩ => p.run pins s σ H Q I (q θ σ ρ H S Q r sl h)⟩
theorem DB.can {X : Cx} {e : Expr} {vs : List Nat} {g : FB} (h : DB X e vs g) : PG X e (tFB X.K vs g) := by
  obtain ⟨t, p, q⟩ := h
  exact ⟨fun pins s σ H v u Q I rv ⟨θ, ρ, d, sl, dv, h⟩ => p.run pins s σ H v u Q I rv (q θ σ ρ H d v Q sl dv h)⟩
section
variable {X : Cx} {W : WX} {elt tg iter : Expr} {ifs : List Expr} {scope : Scope} {own : List (Str × Nat)} {pos spos py : Pos} {fi : FI} {g : FB} {ft : FT} {fe : FE}
/-- [elt for tg in iter if ..] -/
theorem de_lc (own : List (Str × Nat)) (hc : X.calm = true) (hN : X.N.Nodup) (hi : DI X W tg iter fi) (ok : BlkOk X.N X.env.scope scope own)
    (hg : ∀ (s : Shared) (H : Hp) (C : Addr) (cl : List (Str × Addr)) (fp : List Addr), DB (X.blk s H scope (compEnvC scope cl C X.env) fp) tg (own.map (·.2)) g)
    (ht : ∀ (s : Shared) (H : Hp) (C : Addr) (cl : List (Str × Addr)) (fp : List Addr), DTs (X.blk s H scope (compEnvC scope cl C X.env) fp) W0 ifs ft)
    (he : ∀ (s : Shared) (H : Hp) (C : Addr) (cl : List (Str × Addr)) (fp : List Addr), DE (X.blk s H scope (compEnvC scope cl C X.env) fp) W0 elt fe)
    (hs : ∀ x, foldedSetIterable iter X.env x = pure x := by intro _; rfl) : DE X W (.ListComp elt [⟨tg, iter, ifs, 0⟩] scope pos) (fLc fi (own.map (·.2)) g ft fe) := by
  obtain ⟨wi, pi, qi⟩ := hi
  refine ⟨_, pe_lc hc hN pi ok (g := tFB X.K (own.map (·.2)) g) (tt := tFT X.K X.w X.mg W0 ft) (te := tF X.K X.w X.mg W0 fe) (fun s H C cl fp => (hg s H C cl fp).can) (fun s H C cl fp => (ht s H C cl fp).can) (fun s H C cl fp => (he s H C cl fp).can) hs, fun θ σ ρ H S Q r sl h => ?_⟩
  exact lc_read qi (fun θ σ ρ H d v Q a b c => ⟨θ, ρ, d, a, b, c⟩) (fun θ σ ρ H S Q a b c => ⟨θ, ρ, S, a, b, c⟩) (fun θ σ ρ H S Q a b c => ⟨θ, ρ, S, a, b, c⟩) r sl h
/-- y = [..] on one line -/
theorem ds_setLc (i : Nat) (own : List (Str × Nat)) {y : Str} (hc : X.calm = true) (hN : X.N.Nodup) (hi : DI X W tg iter fi) (ok : BlkOk X.N X.env.scope scope own)
    (hg : ∀ (s : Shared) (H : Hp) (C : Addr) (cl : List (Str × Addr)) (fp : List Addr), DB (X.blk s H scope (compEnvC scope cl C X.env) fp) tg (own.map (·.2)) g)
    (ht : ∀ (s : Shared) (H : Hp) (C : Addr) (cl : List (Str × Addr)) (fp : List Addr), DTs (X.blk s H scope (compEnvC scope cl C X.env) fp) W0 ifs ft)
    (he : ∀ (s : Shared) (H : Hp) (C : Addr) (cl : List (Str × Addr)) (fp : List Addr), DE (X.blk s H scope (compEnvC scope cl C X.env) fp) W0 elt fe)
    (hy : X.N[i]? = some y := by rfl) (hyl : X.env.scope.names.lookup y = some .local := by rfl)
    (hsw : swapsWith (.ListComp elt [⟨tg, iter, ifs, 0⟩] scope pos) (some (.Name y py)) spos.line X.env = pure true := by exact sw_true rfl rfl rfl (by decide +kernel))
    (hs : ∀ x, foldedSetIterable iter X.env x = pure x := by intro _; rfl) : DS X W (.Assign [.Name y py] (.ListComp elt [⟨tg, iter, ifs, 0⟩] scope pos) spos) (sAsg (fLc fi (own.map (·.2)) g ft fe) (bName i)) := by
  obtain ⟨wi, pi, qi⟩ := hi
  refine ⟨_, ps_setLc (i := i) hc hN hy hyl hsw pi ok (g := tFB X.K (own.map (·.2)) g) (tt := tFT X.K X.w X.mg W0 ft) (te := tF X.K X.w X.mg W0 fe) (fun s H C cl fp => (hg s H C cl fp).can) (fun s H C cl fp => (ht s H C cl fp).can) (fun s H C cl fp => (he s H C cl fp).can) hs, fun θ σ ρ H S D r sl h => ?_⟩
  have q : ∀ θ σ ρ H S Q, Rl X.K X.w H θ S → SlV X.K H θ ρ σ → PostV X.K X.w X.mg θ H (fLc fi (own.map (·.2)) g ft fe ρ S) Q (fun c d H' => W c d σ H') → tLc wi (tFB X.K (own.map (·.2)) g) (tFT X.K X.w X.mg W0 ft) (tF X.K X.w X.mg W0 fe) (own.map (·.2)) σ H Q :=
    fun θ σ ρ H S Q r sl h => lc_read qi (fun θ σ ρ H d v Q a b c => ⟨θ, ρ, d, a, b, c⟩) (fun θ σ ρ H S Q a b c => ⟨θ, ρ, S, a, b, c⟩) (fun θ σ ρ H S Q a b c => ⟨θ, ρ, S, a, b, c⟩) r sl h
  exact thenS q r sl h fun θ2 H2 S2 x v f2 r2 sl2 d2 p => p θ2 H2 _ .refl r2 (sl2.set i d2)
end

/-! ### subscripts -/
/-- the item at i, of any sign -/
def dIx : OpF := fun x y S => match y with
  | .int i => match x with
    | .str z => if z.length ≤ sizeLine then (match atI z.cps.toList i with
      | some c => .ok (.str ⟨#[c]⟩) S
      | none => .no) else .no
    | x => match (seqD x S).bind fun ds => atI ds i with
      | some d => .ok d S
      | none => .no
  | _ => .no
theorem DVs.atI {K : PySem.W.Frag} {H : Hp} {θ : List Addr} {ds : List D} {vs : List V} {i : Int} {d : D} (h : DVs K H θ ds vs) (e : L2.atI ds i = some d) : ∃ v, L2.atI vs i = some v ∧ DV K H θ d v := by
  unfold L2.atI at e ⊢
  rw [h.length]
  cases q : ixN ds.length i with
  | none => rw [q] at e; cases e
  | some j =>
    rw [q] at e
    exact h.get e
section
variable {X : Cx} {W : WX} {a b e o : Expr} {pos : Pos} {fa fb fe fo : FE}
theorem de_ix (ha : DE X W a fa) (hb : DE X W b fb) (hs : PlainIx b := by exact fun _ _ => rfl) : DE X W (.Subscript a b pos) (fBin dIx fa fb) := by
  obtain ⟨ta, pa, qa⟩ := ha
  obtain ⟨tb, pb, qb⟩ := hb
  refine ⟨_, pe_ix ix_seq pa pb hs, fun θ σ ρ H S Q r sl h => two qa qb r sl h fun θ2 H2 S2 x y v w f r2 sl2 d1 d2 p => ?_⟩
  unfold dIx at p
  cases y <;> first | exact p.elim | skip
  rename_i i
  obtain rfl : w = .int i := d2
  have key : ∀ ds d, seqD x S2 = some ds → L2.atI ds i = some d → PostV X.K X.w X.mg θ2 H2 (.ok d S2) Q (fun c d H' => W c d σ H') → rIx X.K v (.int i) H2 Q := by
    intro ds d e1 e2 p
    obtain ⟨a1, vs, rfl, hs, dv⟩ := seqD_of r2 d1 e1
    obtain ⟨u, hu, du⟩ := dv.atI e2
    rcases hs with hs | hs
    · exact .inl ⟨a1, vs, i, u, rfl, rfl, hs, hu, p θ2 H2 u .refl r2 du⟩
    · exact .inr (.inl ⟨a1, vs, i, u, rfl, rfl, hs, hu, p θ2 H2 u .refl r2 du⟩)
  cases x with
  | str z =>
    dsimp only at p
    obtain rfl : v = .str z := d1
    by_cases hz : z.length ≤ sizeLine
    · rw [if_pos hz] at p
      cases e : L2.atI z.cps.toList i with
      | none => rw [e] at p; exact p.elim
      | some c =>
        rw [e] at p
        exact .inr (.inr ⟨z, i, c, rfl, rfl, hz, e, p θ2 H2 _ .refl r2 rfl⟩)
    · rw [if_neg hz] at p; exact p.elim
  | _ =>
    dsimp only at p
    split at p
    · rename_i d e
      obtain ⟨ds, e1, e2⟩ := Option.bind_eq_some_iff.mp e
      exact key ds d e1 e2 p
    · exact p.elim

/-! ### slices -/
abbrev FO := Env → Sto → R (Option Int)
def foNone : FO := fun _ S => .ok none S
def foSome (f : FE) : FO := fun ρ S => (f ρ S).bind fun x S1 => match x with
  | .int i => .ok (some i) S1
  | _ => .no
def cutD (ds : List D) (lo hi : Option Int) : List D := (ds.drop (HT.sIx ds.length 0 lo)).take (HT.sIx ds.length ds.length hi - HT.sIx ds.length 0 lo)
def dSl (x : D) (lo hi : Option Int) (S : Sto) : R D := match x with
  | .tup ds => .ok (.tup (cutD ds lo hi)) S
  | .str z => if z.length ≤ sizeLine then .ok (.str (cutS z lo hi)) S else .no
  | x => match lstD x S with
    | some ds => .ok (.ref S.length) (S ++ [.lst (cutD ds lo hi)])
    | none => .no
def fSl (fe : FE) (lo hi : FO) : FE := fun ρ S => (fe ρ S).bind fun x S1 => (lo ρ S1).bind fun l S2 => (hi ρ S2).bind fun h S3 => dSl x l h S3
def DO (X : Cx) (W : WX) (e : Option Expr) (f : FO) : Prop := ∃ t, PO X e t ∧ ∀ θ σ ρ H S (Q : Option Int → Hp → Prop), Rl X.K X.w H θ S → SlV X.K H θ ρ σ →
  (match f ρ S with
    | .ok i S' => ∀ θ' H', Fut H θ H' θ' → Rl X.K X.w H' θ' S' → Q i H'
    | .ex c S' => ∀ θ' H' cls dd, Fut H θ H' θ' → Rl X.K X.w H' θ' S' → ExR X.K X.mg H' θ' c cls dd → W cls dd σ H'
    | .no => False) → t σ H Q
theorem do_none : DO X W none foNone := ⟨_, po_none, fun θ σ ρ H S Q r sl h => h θ H .refl r⟩
theorem do_some (h : DE X W e fe) : DO X W (some e) (foSome fe) := by
  obtain ⟨t, p, q⟩ := h
  refine ⟨_, po_some p, fun θ σ ρ H S Q r sl h => ?_⟩
  refine q θ σ ρ H S _ r sl ?_
  unfold foSome at h
  cases e : fe ρ S with
  | no => rw [e] at h; exact h
  | ex c S' => rw [e] at h; exact h
  | ok d S' =>
    rw [e] at h
    intro θ1 H1 v f1 r1 dv1
    dsimp only [R.bind] at h
    cases d <;> first | exact h.elim | skip
    exact ⟨_, dv1, h θ1 H1 f1 r1⟩
theorem DVs.cut {K : PySem.W.Frag} {H : Hp} {θ : List Addr} {ds : List D} {vs : List V} (h : DVs K H θ ds vs) (lo hi : Option Int) : DVs K H θ (cutD ds lo hi) (cutV vs lo hi) := by
  unfold cutD cutV
  rw [h.length]
  exact (h.drop _).take _
theorem de_slice {lo hi : Option Expr} {p2 : Pos} {fl fh : FO} (he : DE X W e fe) (hl : DO X W lo fl) (hh : DO X W hi fh) : DE X W (.Subscript e (.Slice lo hi none p2) pos) (fSl fe fl fh) := by
  obtain ⟨t, pe, qe⟩ := he
  obtain ⟨tl, pl, ql⟩ := hl
  obtain ⟨th, ph, qh⟩ := hh
  refine ⟨_, pe_slice (sl_list.or (sl_tupA.or sl_str)) pe pl ph, fun θ σ ρ H S Q r sl h => ?_⟩
  unfold tSl
  refine qe θ σ ρ H S _ r sl ?_
  unfold fSl at h
  cases e1 : fe ρ S with
  | no => rw [e1] at h; exact h
  | ex c S' => rw [e1] at h; exact h
  | ok x S1 =>
    rw [e1] at h
    intro θ1 H1 v f1 r1 dv1
    refine ql θ1 σ ρ H1 S1 _ r1 (sl.later f1) ?_
    dsimp only [R.bind] at h
    cases e2 : fl ρ S1 with
    | no => rw [e2] at h; exact h
    | ex c S' => rw [e2] at h; exact fun θ' H' cls dd f' => h θ' H' cls dd (f1.trans f')
    | ok l S2 =>
      rw [e2] at h
      intro θ2 H2 f2 r2
      refine qh θ2 σ ρ H2 S2 _ r2 (sl.later (f1.trans f2)) ?_
      dsimp only at h
      cases e3 : fh ρ S2 with
      | no => rw [e3] at h; exact h
      | ex c S' => rw [e3] at h; exact fun θ' H' cls dd f' => h θ' H' cls dd (f1.trans (f2.trans f'))
      | ok u S3 =>
        rw [e3] at h
        intro θ3 H3 f3 r3
        have dv := DV.later (f2.trans f3) _ _ dv1
        replace h := PostV.since (f1.trans (f2.trans f3)) h
        replace h : PostV X.K X.w X.mg θ3 H3 (dSl x l u S3) Q (fun c d H' => W c d σ H') := h
        unfold dSl at h
        split at h
        · rename_i ds
          obtain ⟨a, vs, rfl, hs, d2⟩ := dv
          refine .inr (.inl ⟨a, vs, rfl, hs, fun hw => ?_, fun hw q hq => ?_⟩)
          · have e : cutD ds l u = ds := by
              unfold cutD
              rw [← d2.length, hw.1, hw.2, List.drop_zero, Nat.sub_zero, d2.length, List.take_length]
            rw [e] at h
            exact h θ3 H3 _ .refl r3 ⟨a, vs, rfl, hs, d2⟩
          · exact h θ3 _ _ (Fut.new hq) (r3.new hq) ⟨q, _, rfl, SqT.of upd_same, DVs.later (Fut.new hq) _ _ (d2.cut l u)⟩
        · rename_i z
          obtain rfl : v = .str z := dv
          by_cases hz : z.length ≤ sizeLine
          · rw [if_pos hz] at h
            exact .inr (.inr ⟨z, rfl, hz, h θ3 H3 _ .refl r3 rfl⟩)
          · rw [if_neg hz] at h; exact h.elim
        · split at h
          · rename_i ds e
            obtain ⟨a, vs, rfl, hs, d2⟩ := lstD_of r3 dv e
            refine .inl ⟨a, vs, rfl, hs, fun q hq => ?_⟩
            have f4 : Fut H3 θ3 (upd H3 q (.lst (cutV vs l u))) (θ3 ++ [q]) := Fut.newN hq
            exact h _ _ _ f4 (r3.newN hq ⟨_, upd_same, DVs.later f4 _ _ (d2.cut l u)⟩) ⟨q, rfl, by rw [← r3.len]; simp⟩
          · exact h.elim
/-- xs[::-1] of a list -/
def dRevL (x : D) (S : Sto) : R D := match lstD x S with
  | some ds => .ok (.ref S.length) (S ++ [.lst ds.reverse])
  | none => .no
theorem DVs.reverse {K : PySem.W.Frag} {H : Hp} {θ : List Addr} : ∀ {ds : List D} {vs : List V}, DVs K H θ ds vs → DVs K H θ ds.reverse vs.reverse
  | [], vs, h => by
    have e : vs = [] := h
    rw [e]; exact rfl
  | d :: ds, vs, ⟨v, r, e, h1, h2⟩ => by
    rw [e, List.reverse_cons, List.reverse_cons]
    exact (DVs.reverse h2).append (DVs.one h1)
theorem de_revL {p1 p2 p3 : Pos} {k : Nat} (he : DE X W e fe) : DE X W (.Subscript e (.Slice none none (some (.UnaryOp .USub (.Constant (.int 1) k p1) p2)) p3) pos) (fUn dRevL fe) := by
  obtain ⟨t, pe, qe⟩ := he
  refine ⟨_, pe_revL pe, fun θ σ ρ H S Q r sl h => one qe r sl h fun θ2 H2 S2 x v f r2 sl2 d1 p => ?_⟩
  unfold dRevL at p
  cases e : lstD x S2 with
  | none => rw [e] at p; exact p.elim
  | some ds =>
    rw [e] at p
    obtain ⟨a, vs, rfl, hs, d2⟩ := lstD_of r2 d1 e
    refine ⟨a, vs, rfl, hs, fun q hq => ?_⟩
    have f4 : Fut H2 θ2 (upd H2 q (.lst vs.reverse)) (θ2 ++ [q]) := Fut.newN hq
    exact p _ _ _ f4 (r2.newN hq ⟨_, upd_same, DVs.later f4 _ _ d2.reverse⟩) ⟨q, rfl, by rw [← r2.len]; simp⟩
end

/-! ### list methods -/
abbrev MF := D → List D → Sto → R D
def fM (mf : MF) (fo : FE) (fas : FA) : FE := fun ρ S => (fo ρ S).bind fun x S1 => (fas ρ S1).bind fun ds S2 => mf x ds S2
/-- the object is a list of the store -/
def isLst (x : D) (S : Sto) : Option (Nat × List D) := match x with
  | .ref i => match S[i]? with
    | some (.lst ds) => some (i, ds)
    | _ => none
  | _ => none
def mAppend : MF := fun x ds S => match isLst x S, ds with
  | some (i, xs), [y] => if xs.length < sizeLine then .ok .non (S.set i (.lst (xs ++ [y]))) else .no
  | _, _ => .no
def mPop : MF := fun x ds S => match isLst x S, ds with
  | some (i, xs), [] => match xs[xs.length - 1]? with
    | some y => .ok y (S.set i (.lst xs.dropLast))
    | none => .no
  | some (i, xs), [.int j] => match (if -(2 ^ 63) ≤ j ∧ j < 2 ^ 63 then seqIndex? j xs.length else none) with
    | some k => match xs[k]? with
      | some y => .ok y (S.set i (.lst (xs.eraseIdx k)))
      | none => .no
    | none => .no
  | _, _ => .no
def mExtend : MF := fun x ds S => match isLst x S, ds with
  | some (i, xs), [y] => match isLst y S with
    | some (_, ys) => if xs.length + ys.length ≤ sizeLine then .ok .non (S.set i (.lst (xs ++ ys))) else .no
    | none => .no
  | _, _ => .no
section
variable {K : PySem.W.Frag} {w : World} {H : Hp} {θ : List Addr} {S : Sto}
theorem isLst_of (r : Rl K w H θ S) {x : D} {v : V} {i : Nat} {xs : List D} (d : DV K H θ x v) (h : isLst x S = some (i, xs)) : ∃ a vs, x = .ref i ∧ S[i]? = some (.lst xs) ∧ v = .ref a ∧ θ[i]? = some a ∧ H a = some (.lst vs) ∧ DVs K H θ xs vs := by
  unfold isLst at h
  split at h
  · rename_i j
    obtain ⟨a, rfl, ha⟩ := d
    split at h
    · rename_i ds e
      cases h
      obtain ⟨vs, hv, dv⟩ := r.at_ _ _ a e ha
      exact ⟨a, vs, rfl, e, rfl, ha, hv, dv⟩
    · cases h
  · cases h
theorem isLst_is {x : D} {i : Nat} {xs : List D} (h : isLst x S = some (i, xs)) : x = .ref i := by
  unfold isLst at h
  split at h
  · split at h
    · cases h; rfl
    · cases h
  · cases h
end
section
variable {X : Cx} {W : WX} {o e : Expr} {es : List Expr} {apos cpos : Pos} {fo fe : FE} {fas : FA} {T : String} {name : Str} {id : String} {r : V → List V → Hp → VK → Prop}
/-- a list's method: the receiver is a list when it is read -/
def fML (mf : MF) (fo : FE) (fas : FA) : FE := fun ρ S => (fo ρ S).bind fun x S1 => if (isLst x S1).isSome = true then (fas ρ S1).bind fun ds S2 => mf x ds S2 else .no
/-- a method's rule with its data -/
def MtD (X : Cx) (r : V → List V → Hp → VK → Prop) (mf : MF) : Prop := ∀ θ H S x v ds vs (Q : VK) (E : XK), Rl X.K X.w H θ S → DV X.K H θ x v → DVs X.K H θ ds vs → PostV X.K X.w X.mg θ H (mf x ds S) Q E → r v vs H Q
theorem recv {to : TE} (qo : ∀ θ σ ρ H S Q, Rl X.K X.w H θ S → SlV X.K H θ ρ σ → PostV X.K X.w X.mg θ H (fo ρ S) Q (fun c d H' => W c d σ H') → to σ H Q)
    {mf : MF} {θ : List Addr} {σ : L2.St} {ρ : Env} {H : Hp} {S : Sto} {Q : VK} {G : V → Hp → Prop} (r : Rl X.K X.w H θ S) (sl : SlV X.K H θ ρ σ) (h : PostV X.K X.w X.mg θ H (fML mf fo fas ρ S) Q (fun c d H' => W c d σ H'))
    (hg : ∀ θ2 H2 S2 x v, Fut H θ H2 θ2 → Rl X.K X.w H2 θ2 S2 → SlV X.K H2 θ2 ρ σ → DV X.K H2 θ2 x v → tyV X.K "list" v H2 → PostV X.K X.w X.mg θ2 H2 ((fas ρ S2).bind fun ds S3 => mf x ds S3) Q (fun c d H' => W c d σ H') → G v H2) : to σ H fun v H1 => G v H1 := by
  refine qo θ σ ρ H S _ r sl ?_
  unfold fML at h
  cases e : fo ρ S with
  | no => rw [e] at h; exact h
  | ex c S' => rw [e] at h; exact h
  | ok x S1 =>
    rw [e] at h
    intro θ1 H1 v f1 r1 dv1
    dsimp only [R.bind] at h
    cases ei : isLst x S1 with
    | none => rw [ei] at h; exact h.elim
    | some ix =>
      obtain ⟨i, xs⟩ := ix
      rw [ei] at h
      obtain ⟨a, vs, _, _, rfl, _, hv, _⟩ := isLst_of r1 dv1 ei
      exact hg θ1 H1 S1 x _ f1 r1 (sl.later f1) dv1 (.inl ⟨rfl, vs, SqL.of hv⟩) (PostV.since f1 h)
theorem de_ml {mf : MF} (slot : Slot "list" name id) (hty : typeOf (.builtin id) = pure (.type "method_descriptor")) (hm : MtR X id r) (hd : MtD X r mf) (ho : DE X W o fo) (ha : DA X W (e :: es) fas)
    (hbase : attributeBase o name X.env (eval o X.env) = eval o X.env := by rfl)
    (hfew : ((backTo cpos (starEach (e :: es) X.env)).all (fun x => !x.1) && (backToKw cpos (keywordEach [] X.env)).all (fun x => x.1.isSome)
      && decide ((e :: es).length + ([] : List Keyword).length + (if ([] : List Keyword).isEmpty then 0 else 1) < 30)) = true := by rfl)
    (hline : (apos.endLine == cpos.line) = true := by rfl) (hs : starEach (e :: es) X.env = (false, eval e X.env) :: starEach es X.env := by rfl) (hplain : (backTo cpos (starEach es X.env)).any (·.1) = false := by rfl) :
    DE X W (.Call (.Attribute o name apos) (e :: es) [] cpos) (fML mf fo fas) := by
  obtain ⟨to, po, qo⟩ := ho
  obtain ⟨ta, pa, qa⟩ := ha
  refine ⟨_, pe_bm PySem.F.plainAttrs_list slot hty hm po pa hbase hfew hline hs hplain, fun θ σ ρ H S Q r sl h => recv qo r sl h fun θ2 H2 S2 x v f2 r2 sl2 d2 ty p => ⟨ty, ?_⟩⟩
  exact args qa r2 sl2 p fun θ3 H3 S3 xs vs f3 r3 sl3 d3 p => hd θ3 H3 S3 x v xs vs Q _ r3 (DV.later f3 _ _ d2) d3 p
theorem de_ml0 {mf : MF} (slot : Slot "list" name id) (hty : typeOf (.builtin id) = pure (.type "method_descriptor")) (hm : MtR X id r) (hd : MtD X r mf) (ho : DE X W o fo)
    (hbase : attributeBase o name X.env (eval o X.env) = eval o X.env := by rfl) (hline : (apos.endLine == cpos.line) = true := by rfl) : DE X W (.Call (.Attribute o name apos) [] [] cpos) (fML mf fo faNil) := by
  obtain ⟨to, po, qo⟩ := ho
  refine ⟨_, pe_bm0 PySem.F.plainAttrs_list slot hty hm po hbase hline, fun θ σ ρ H S Q r sl h => recv qo r sl h fun θ2 H2 S2 x v f2 r2 sl2 d2 ty p => ⟨ty, ?_⟩⟩
  exact hd θ2 H2 S2 x v [] [] Q _ r2 d2 rfl p
theorem md_append : MtD X rAppend mAppend := by
  intro θ H S x v ds vs Q E r dx dv p
  unfold mAppend at p
  split at p
  · rename_i i xs y e
    obtain ⟨a, us, rfl, _, rfl, ha, hv, d2⟩ := isLst_of r dx e
    obtain ⟨u, rfl, du⟩ := dv.sing
    by_cases hz : xs.length < sizeLine
    · rw [if_pos hz] at p
      have f : Fut H θ (upd H a (.lst (us ++ [u]))) θ := Fut.chg hv fun z => z
      exact ⟨a, us, u, rfl, rfl, hv, by rw [d2.length]; exact hz, p θ _ _ f (r.chg (ob := .lst (xs ++ [y])) ha fun H' f' e' => ⟨us ++ [u], by rw [e', upd_same], DVs.later f' _ _ (d2.append (DVs.one du))⟩) rfl⟩
    · rw [if_neg hz] at p; exact p.elim
  · exact p.elim
theorem DVs.dropLast {K : PySem.W.Frag} {H : Hp} {θ : List Addr} {ds : List D} {vs : List V} (h : DVs K H θ ds vs) : DVs K H θ ds.dropLast vs.dropLast := by
  rw [List.dropLast_eq_take, List.dropLast_eq_take, h.length]
  exact h.take _
theorem DVs.eraseIdx {K : PySem.W.Frag} {H : Hp} {θ : List Addr} : ∀ {ds : List D} {vs : List V} (i : Nat), DVs K H θ ds vs → DVs K H θ (ds.eraseIdx i) (vs.eraseIdx i)
  | [], vs, i, h => by
    have e : vs = [] := h
    rw [e]; exact rfl
  | d :: ds, vs, 0, ⟨v, r, e, h1, h2⟩ => by rw [e]; exact h2
  | d :: ds, vs, i + 1, ⟨v, r, e, h1, h2⟩ => by rw [e]; exact ⟨v, _, rfl, h1, DVs.eraseIdx i h2⟩
theorem mt_popA : MtR X "list.pop" (fun x xs H Q => rPop x xs H Q ∨ rPopAt x xs H Q) := MtR.or mt_pop mt_popAt
theorem md_pop : MtD X (fun x xs H Q => rPop x xs H Q ∨ rPopAt x xs H Q) mPop := by
  intro θ H S x v ds vs Q E r dx dv p
  unfold mPop at p
  split at p
  · rename_i i xs e
    obtain ⟨a, us, rfl, _, rfl, ha, hv, d2⟩ := isLst_of r dx e
    obtain rfl : vs = [] := dv
    split at p
    · rename_i y ey
      obtain ⟨u, hu, du⟩ := d2.get ey
      have f : Fut H θ (upd H a (.lst us.dropLast)) θ := Fut.chg hv fun z => z
      exact .inl ⟨a, us, u, rfl, rfl, hv, by rw [d2.length]; exact hu, p θ _ _ f (r.chg (ob := .lst xs.dropLast) ha fun H' f' e' => ⟨us.dropLast, by rw [e', upd_same], DVs.later f' _ _ d2.dropLast⟩) (DV.later f _ _ du)⟩
    · exact p.elim
  · rename_i i xs j e
    obtain ⟨a, us, rfl, _, rfl, ha, hv, d2⟩ := isLst_of r dx e
    obtain ⟨w, rfl, dw⟩ := dv.sing
    obtain rfl : w = .int j := dw
    split at p
    · rename_i k ek
      split at p
      · rename_i y ey
        obtain ⟨u, hu, du⟩ := d2.get ey
        have f : Fut H θ (upd H a (.lst (us.eraseIdx k))) θ := Fut.chg hv fun z => z
        by_cases hj : -(2 ^ 63) ≤ j ∧ j < 2 ^ 63
        · rw [if_pos hj] at ek
          exact .inr ⟨a, us, j, k, u, rfl, rfl, hv, hj.1, hj.2, by rw [d2.length]; exact ek, hu, p θ _ _ f (r.chg (ob := .lst (xs.eraseIdx k)) ha fun H' f' e' => ⟨us.eraseIdx k, by rw [e', upd_same], DVs.later f' _ _ (d2.eraseIdx k)⟩) (DV.later f _ _ du)⟩
        · rw [if_neg hj] at ek; cases ek
      · exact p.elim
    · exact p.elim
  · exact p.elim
theorem md_extend : MtD X rExtend mExtend := by
  intro θ H S x v ds vs Q E r dx dv p
  unfold mExtend at p
  split at p
  · rename_i i xs y e
    obtain ⟨a, us, rfl, _, rfl, ha, hv, d2⟩ := isLst_of r dx e
    obtain ⟨w, rfl, dw⟩ := dv.sing
    split at p
    · rename_i j ys ey
      obtain ⟨b, ws, rfl, _, rfl, hb, hw, d3⟩ := isLst_of r dw ey
      by_cases hz : xs.length + ys.length ≤ sizeLine
      · rw [if_pos hz] at p
        have f : Fut H θ (upd H a (.lst (us ++ ws))) θ := Fut.chg hv fun z => z
        exact ⟨a, b, us, ws, rfl, rfl, hv, hw, by rw [d2.length, d3.length]; exact hz, p θ _ _ f (r.chg (ob := .lst (xs ++ ys)) ha fun H' f' e' => ⟨us ++ ws, by rw [e', upd_same], DVs.later f' _ _ (d2.append d3)⟩) rfl⟩
      · rw [if_neg hz] at p; exact p.elim
    · exact p.elim
  · exact p.elim

/-! ### xs[i] = e -/
/-- the store behind xs[i] = d -/
def setIx (x y d : D) (S : Sto) : Option Sto := match isLst x S, y with
  | some (i, xs), .int k => match ixN xs.length k with
    | some j => some (S.set i (.lst (xs.set j d)))
    | none => none
  | _, _ => none
/-- o[i] = e: e, o, i in this order -/
def sSetIx (fe fo fi : FE) : FS := fun ρ S => (fe ρ S).then ρ fun d S1 => (fo ρ S1).then ρ fun x S2 => (fi ρ S2).then ρ fun y S3 => match setIx x y d S3 with
  | some S4 => .nx ρ S4
  | none => .no
theorem setIx_of {θ : List Addr} {H : Hp} {S S4 : Sto} {x y d : D} {v w u : V} {Q : Hp → Prop} (r : Rl X.K X.w H θ S) (dx : DV X.K H θ x v) (dy : DV X.K H θ y w) (dd : DV X.K H θ d u) (h : setIx x y d S = some S4)
    (q : ∀ H', Fut H θ H' θ → Rl X.K X.w H' θ S4 → Q H') : rSetL v w u H Q := by
  unfold setIx at h
  split at h
  · rename_i i xs k e
    obtain ⟨a, us, rfl, _, rfl, ha, hv, d2⟩ := isLst_of r dx e
    obtain rfl : w = .int k := dy
    split at h
    · rename_i j ej
      cases h
      have f : Fut H θ (upd H a (.lst (us.set j u))) θ := Fut.chg hv fun z => z
      exact ⟨a, us, k, j, rfl, rfl, hv, by rw [d2.length]; exact ej, q _ f (r.chg (ob := .lst (xs.set j d)) ha fun H' f' e' => ⟨us.set j u, by rw [e', upd_same], DVs.later f' _ _ (d2.set j dd)⟩)⟩
    · cases h
  · cases h
theorem ds_setIx {a b : Expr} {pos pos' : Pos} {fb fa : FE} (he : DE X W e fe) (ha : DE X W a fa) (hb : DE X W b fb) (hs : swapsWithSole [.Subscript a b pos'] e pos.line X.env = pure false := by rfl) (hw : swappedStores [.Subscript a b pos'] e X.env = pure none := by rfl)
    (h1 : (assignEach [.Subscript a b pos'] X.env).map (·.2) = [assign (.Subscript a b pos') X.env] := by rfl)
    (hsub : ∀ v, assign (.Subscript a b pos') X.env v = (do
      let ov ← holding [v] (eval a X.env)
      let iv ← holding [v, ov] (eval b X.env)
      standAt pos'
      holding [v, ov, iv] (setItem ov iv v)
      release [v, ov, iv] []) := by intro _; rfl) : DS X W (.Assign [.Subscript a b pos'] e pos) (sSetIx fe fa fb) := by
  obtain ⟨te, pe, qe⟩ := he
  obtain ⟨ta, pa, qa⟩ := ha
  obtain ⟨tb, pb, qb⟩ := hb
  refine ⟨_, ps_asg pe (pg_sub pa pb set_list hsub) hs hw h1, fun θ σ ρ H S D r sl h => ?_⟩
  unfold sSetIx at h
  unfold tAsg gSub
  refine thenS qe r sl h fun θ1 H1 S1 d u f1 r1 sl1 d1 h => ?_
  refine thenS qa r1 sl1 h fun θ2 H2 S2 x v f2 r2 sl2 d2 h => ?_
  refine thenS qb r2 sl2 h fun θ3 H3 S3 y w f3 r3 sl3 d3 h => ?_
  cases es : setIx x y d S3 with
  | none => rw [es] at h; exact h.elim
  | some S4 =>
    rw [es] at h
    exact setIx_of r3 (DV.later f3 _ _ d2) d3 (DV.later (f2.trans f3) _ _ d1) es fun H' f' r' => h θ3 H' σ f' r' (sl3.later f')
end
end Y

set_option Elab.async false
set_option linter.all false
set_option maxRecDepth 100000
set_option maxHeartbeats 2000000
/-! Y, dicts. -/
namespace Y
open PySem L2
mutual
theorem keyN_inj : ∀ (a b : D) (k : NestedKey), keyN a = some k → keyN b = some k → a = b
  | .non, b, k, h1, h2 => by cases h1; cases b <;> first | rfl | (cases h2; done) | (obtain ⟨_, _, e⟩ := Option.map_eq_some_iff.mp h2; cases e)
  | .int i, b, k, h1, h2 => by cases h1; cases b <;> first | (cases h2; rfl) | (cases h2; done) | (obtain ⟨_, _, e⟩ := Option.map_eq_some_iff.mp h2; cases e)
  | .str i, b, k, h1, h2 => by cases h1; cases b <;> first | (cases h2; rfl) | (cases h2; done) | (obtain ⟨_, _, e⟩ := Option.map_eq_some_iff.mp h2; cases e)
  | .bl _, b, k, h1, h2 => by cases h1
  | .ro _, b, k, h1, h2 => by cases h1
  | .ref _, b, k, h1, h2 => by cases h1
  | .tup as, b, k, h1, h2 => by
    obtain ⟨ks, e1, rfl⟩ := Option.map_eq_some_iff.mp h1
    cases b <;> first | (cases h2; done) | skip
    obtain ⟨ks', e2, e⟩ := Option.map_eq_some_iff.mp h2
    cases e
    rw [keyNs_inj as _ ks e1 e2]
theorem keyNs_inj : ∀ (a b : List D) (k : List NestedKey), keyNs a = some k → keyNs b = some k → a = b
  | [], b, k, h1, h2 => by
    cases h1
    cases b with
    | nil => rfl
    | cons y ys =>
      obtain ⟨z, _, e⟩ := Option.bind_eq_some_iff.mp h2
      obtain ⟨_, _, e⟩ := Option.map_eq_some_iff.mp e
      cases e
  | x :: xs, b, k, h1, h2 => by
    obtain ⟨z, e1, e⟩ := Option.bind_eq_some_iff.mp h1
    obtain ⟨zs, e2, rfl⟩ := Option.map_eq_some_iff.mp e
    cases b with
    | nil => cases h2
    | cons y ys =>
      obtain ⟨z', e3, e'⟩ := Option.bind_eq_some_iff.mp h2
      obtain ⟨zs', e4, e5⟩ := Option.map_eq_some_iff.mp e'
      cases e5
      rw [keyN_inj x y z e1 e3, keyNs_inj xs ys zs e2 e4]
end
section
variable {X : Cx} {pins : List (Addr × Obj)} {σ : L2.St} {H : Hp} {s : Shared} {θ : List Addr}
mutual
theorem nested_of (I : Inv X pins σ H s) : ∀ (d : D) (k : NestedKey) (v : V) (u : Value), keyN d = some k → DV X.K H θ d v → RelV v u → NestedIs s.heap k u
  | .non, k, v, u, e, dv, r => by cases e; obtain rfl : v = .non := dv; obtain rfl : u = .none := r; exact .none
  | .int i, k, v, u, e, dv, r => by cases e; obtain rfl : v = .int i := dv; obtain ⟨t, rfl⟩ := r; exact .int i t
  | .str x, k, v, u, e, dv, r => by cases e; obtain rfl : v = .str x := dv; obtain ⟨t, rfl⟩ := r; exact .text x t
  | .bl _, k, v, u, e, dv, r => by cases e
  | .ro _, k, v, u, e, dv, r => by cases e
  | .ref _, k, v, u, e, dv, r => by cases e
  | .tup ds, k, v, u, e, dv, r => by
    obtain ⟨ks, e1, rfl⟩ := Option.map_eq_some_iff.mp e
    obtain ⟨a, vs, rfl, hs, d2⟩ := dv
    obtain rfl : u = .ref a := r
    obtain ⟨its, rv, ⟨o, ho, hc, n, hd⟩, hz⟩ := I.tuple hs
    exact .tup ho hc hd (by simpa using nesteds_of I ds ks vs its e1 d2 rv)
theorem nesteds_of (I : Inv X pins σ H s) : ∀ (ds : List D) (ks : List NestedKey) (vs : List V) (us : List Value), keyNs ds = some ks → DVs X.K H θ ds vs → Vals vs us → NestedAll s.heap ks us
  | [], ks, vs, us, e, dv, r => by
    cases e
    obtain rfl : vs = [] := dv
    cases r
    exact .nil
  | d :: ds, ks, vs, us, e, dv, r => by
    obtain ⟨z, e1, e⟩ := Option.bind_eq_some_iff.mp e
    obtain ⟨zs, e2, rfl⟩ := Option.map_eq_some_iff.mp e
    obtain ⟨v, w, rfl, d1, d2⟩ := dv
    cases r with
    | cons r1 r2 => exact .cons (nested_of I d z v _ e1 d1 r1) (nesteds_of I ds zs w _ e2 d2 r2)
end
end
/-! ### the dict of tuple keys -/
/-- the value at a key -/
def atD (kvs : List (D × D)) (k : D) : Option D := (kvs.find? fun kv => decide (kv.1 = k)).map (·.2)
def putD (kvs : List (D × D)) (k v : D) : List (D × D) := if (atD kvs k).isSome = true then kvs.map (fun kv => if kv.1 = k then (kv.1, v) else kv) else kvs ++ [(k, v)]
def atK (kvs : List (Key × D)) (k : Key) : Option D := (kvs.find? fun kv => decide (kv.1 = k)).map (·.2)
def putKD (kvs : List (Key × D)) (k : Key) (v : D) : List (Key × D) := if (kvs.any fun kv => decide (kv.1 = k)) = true then kvs.map (fun kv => if kv.1 = k then (kv.1, v) else kv) else kvs ++ [(k, v)]
def keyK : D → Option Key
  | .int i => some (.inl i)
  | .str x => some (.inr x)
  | _ => none
theorem keyK_of {K : PySem.W.Frag} {H : Hp} {θ : List Addr} {d : D} {v : V} {k : Key} (h : keyK d = some k) (dv : DV K H θ d v) : v = kV k := by
  cases d <;> first | (cases h; done) | skip
  · cases h; exact dv
  · cases h; exact dv
/-- a key of a dict of tuple keys -/
def keyT (d : D) : Option NestedKey := match d with
  | .tup _ => match keyN d with
    | some k => if k.depth ≤ 8 then some k else none
    | none => none
  | _ => none
theorem keyT_of {d : D} {k : NestedKey} (h : keyT d = some k) : (∃ ds, d = .tup ds) ∧ keyN d = some k ∧ k.depth ≤ 8 := by
  unfold keyT at h
  split at h
  · split at h
    · rename_i k' e
      split at h
      · rename_i hd
        cases h
        exact ⟨⟨_, rfl⟩, e, hd⟩
      · cases h
    · cases h
  · cases h
section
variable {K : PySem.W.Frag} {H : Hp} {θ : List Addr}
theorem ent_at {kvs : List (D × D)} {xs : List (NestedKey × Addr × Value)} {d : D} {k : NestedKey} (hk : keyN d = some k) (r : Paired (EntR K H θ) kvs xs) :
    match atD kvs d with
      | none => atKey xs k = none
      | some v => ∃ p, atKey xs k = some p ∧ ∃ w, RelV w p.2 ∧ DV K H θ v w := by
  induction r with
  | nil => exact rfl
  | @cons p q ps qs h t ih =>
    obtain ⟨h1, h2, h3, w, h4, h5⟩ := h
    by_cases e : p.1 = d
    · have e' : q.1 = k := by rw [e, hk] at h1; exact (Option.some.inj h1).symm
      have a : atD (p :: ps) d = some p.2 := by simp [atD, e]
      have b : atKey (q :: qs) k = some q.2 := by simp [atKey, e']
      rw [a]
      exact ⟨q.2, b, w, h4, h5⟩
    · have e' : ¬ q.1 = k := fun z => e (keyN_inj _ _ k (by rw [← z]; exact h1) hk)
      have a : atD (p :: ps) d = atD ps d := by simp [atD, e]
      have b : atKey (q :: qs) k = atKey qs k := by simp [atKey, e']
      rw [a, b]
      exact ih
theorem ent_map {kvs : List (D × D)} {xs : List (NestedKey × Addr × Value)} {d v : D} {k : NestedKey} {u : Value} {y : V} (hk : keyN d = some k) (ry : RelV y u) (dy : DV K H θ v y) (r : Paired (EntR K H θ) kvs xs) :
    Paired (EntR K H θ) (kvs.map fun kv => if kv.1 = d then (kv.1, v) else kv) (xs.map (putAt k u)) := by
  induction r with
  | nil => exact .nil
  | @cons p q ps qs h t ih =>
    rw [List.map_cons, List.map_cons]
    refine .cons ?_ ih
    obtain ⟨h1, h2, h3, w, h4, h5⟩ := h
    unfold putAt
    by_cases e : p.1 = d
    · have e' : q.1 = k := by rw [e, hk] at h1; exact (Option.some.inj h1).symm
      rw [if_pos e, if_pos e']
      exact ⟨h1, h2, h3, y, ry, dy⟩
    · have e' : ¬ q.1 = k := fun z => e (keyN_inj _ _ k (by rw [← z]; exact h1) hk)
      rw [if_neg e, if_neg e']
      exact ⟨h1, h2, h3, w, h4, h5⟩
theorem paired_snoc {α β : Type} {F : α → β → Prop} {x : α} {y : β} (h : F x y) : ∀ {l₁ : List α} {l₂ : List β}, Paired F l₁ l₂ → Paired F (l₁ ++ [x]) (l₂ ++ [y])
  | _, _, .nil => .cons h .nil
  | _, _, .cons r t => .cons r (paired_snoc h t)
theorem ent_put {kvs : List (D × D)} {xs : List (NestedKey × Addr × Value)} {d v : D} {k : NestedKey} {b : Addr} {u : Value} {y : V} (hk : keyN d = some k) (hd : k.depth ≤ 8) (db : DV K H θ d (.ref b)) (ry : RelV y u) (dy : DV K H θ v y) (r : Paired (EntR K H θ) kvs xs) :
    Paired (EntR K H θ) (putD kvs d v) (storedH xs k b u) := by
  have q := ent_at hk r
  unfold putD storedH
  cases e : atD kvs d with
  | none =>
    rw [e] at q
    rw [if_neg (by simp), q, if_neg (by simp)]
    exact paired_snoc ⟨hk, hd, db, y, ry, dy⟩ r
  | some z =>
    rw [e] at q
    obtain ⟨p, hp, _⟩ := q
    rw [if_pos (by simp), hp, if_pos (by simp)]
    exact ent_map hk ry dy r
theorem len_putD (kvs : List (D × D)) (k v : D) : (putD kvs k v).length ≤ kvs.length + 1 := by
  unfold putD
  split
  · rw [List.length_map]; omega
  · rw [List.length_append]; simp
theorem len_storedH {xs : List (NestedKey × Addr × Value)} {k : NestedKey} {b : Addr} {u : Value} : (storedH xs k b u).length ≤ xs.length + 1 := by
  unfold storedH
  split
  · rw [List.length_map]; omega
  · rw [List.length_append]; simp
end
section
variable {X : Cx} {pins : List (Addr × Obj)} {σ : L2.St} {H : Hp} {s : Shared} {θ : List Addr} {a : Addr} {xs : List (NestedKey × Addr × Value)} {kvs : List (D × D)} {A : Around} {E : Value → Shared → Prop}
theorem dct_ok {h : Heap} (ok : HOk X.prog X.w H h) (e : H a = some (DctO X.w a xs)) : xs.length ≤ sizeLine ∧ (a == sysModules) = false ∧ (xs.map (·.1)).Nodup ∧
  ∃ o es ep, h.get? a = some o ∧ o.ExactDict ∧ o.data = .dict es ep ∧ es.toList = xs.map fun x => (⟨x.1.hash X.w, .ref x.2.1, x.2.2⟩ : DictEntry) := (ok a _ e).1
theorem dct_new {P : Program} {w : World} {H' : Hp} {h' : Heap} (hz : xs.length ≤ sizeLine) (hs : (a == sysModules) = false) (hn : (xs.map (·.1)).Nodup) {o : Obj} {es : Array DictEntry} {ep : Nat} (ho : h'.get? a = some o) (hx : o.ExactDict) (hd : o.data = .dict es ep)
    (he : es.toList = xs.map fun x => (⟨x.1.hash w, .ref x.2.1, x.2.2⟩ : DictEntry)) : ObjOk P w H' h' a (DctO w a xs) :=
  ⟨⟨hz, hs, hn, o, es, ep, ho, hx, hd, he⟩, ⟨o, ho⟩, fun h1 h2 ⟨a1, a2, a3, o', es', ep', b1, b2, b3, b4⟩ k => ⟨a1, a2, a3, o', es', ep', k _ b1, b2, b3, b4⟩⟩
theorem dct_H (I : Inv X pins σ H s) (e : H a = some (DctO X.w a xs)) (r : Paired (EntR X.K H θ) kvs xs) : s.heap.DictOfH (nestedKind X.prog X.w) a xs := by
  obtain ⟨hz, hs, hn, o, es, ep, ho, hx, hd, he⟩ := dct_ok I.hok e
  refine ⟨o, es, ep, ho, hx, hd, he, ?_, hn⟩
  have all : ∀ {l : List (D × D)} {m : List (NestedKey × Addr × Value)}, Paired (EntR X.K H θ) l m → ∀ x ∈ m, (nestedKind X.prog X.w).is s.heap x.1 x.2.1 := by
    intro l m q
    induction q with
    | nil => intro x hx; exact nomatch hx
    | @cons p q ps qs h t ih =>
      intro x hx
      obtain ⟨h1, h2, h3, _⟩ := h
      rcases List.mem_cons.mp hx with e | hx
      · subst e
        exact ⟨nested_of I _ _ _ _ h1 h3 rfl, h2⟩
      · exact ih x hx
  exact all r
theorem key_is (I : Inv X pins σ H s) {d : D} {k : NestedKey} {b : Addr} (hk : keyN d = some k) (hd : k.depth ≤ 8) (dv : DV X.K H θ d (.ref b)) : (nestedKind X.prog X.w).is s.heap k b := ⟨nested_of I _ _ _ _ hk dv rfl, hd⟩
/-- how deep one may be for a dict's key -/
theorem key_room {A : Around} (h : A.units + 64 < cLine) : (nestedKind X.prog X.w).room A.in1 := by
  show A.in1.units + 8 < cLine
  rw [show A.in1.units = A.units + 1 from rfl]
  omega
theorem dct_get {Q : Value → Shared → Prop} (hu : A.units + 64 < cLine) (I : Inv X pins σ H s) (e : H a = some (DctO X.w a xs)) (r : Paired (EntR X.K H θ) kvs xs) {d v : D} {k : NestedKey} {b : Addr} (hk : keyN d = some k) (hd : k.depth ≤ 8) (dv : DV X.K H θ d (.ref b))
    (hv : atD kvs d = some v) (h : ∀ w' y s', Inv X pins σ H s' → RelV y w' → DV X.K H θ v y → Q w' s') : wpAny (model X.prog X.w) A (getItem (.ref a) (.ref b)) Q E s := by
  have q := ent_at hk r
  rw [hv] at q
  obtain ⟨p, hp, y, ry, dy⟩ := q
  exact wpAny_getItem_heap (key_room hu) (key_is I hk hd dv) (dct_H I e r) hp (h _ y _ (I.tok _) ry dy)
theorem dct_in {Q : Value → Shared → Prop} (hu : A.units + 64 < cLine) (I : Inv X pins σ H s) (e : H a = some (DctO X.w a xs)) (r : Paired (EntR X.K H θ) kvs xs) {d : D} {k : NestedKey} {b : Addr} (hk : keyN d = some k) (hd : k.depth ≤ 8) (dv : DV X.K H θ d (.ref b))
    (h : ∀ s', Inv X pins σ H s' → Q (.bool (atD kvs d).isSome) s') : wpAny (model X.prog X.w) A (compareOp .In (.ref b) (.ref a)) Q E s := by
  refine wpAny_in_heap (key_room hu) (key_is I hk hd dv) (dct_ok I.hok e).2.1 (dct_H I e r) ?_
  have q := ent_at hk r
  have z : (atKey xs k).isSome = (atD kvs d).isSome := by
    cases e : atD kvs d with
    | none => rw [e] at q; rw [q]; rfl
    | some v => rw [e] at q; obtain ⟨p, hp, _⟩ := q; rw [hp]; rfl
  rw [z]
  exact h _ (I.tok _)
theorem dct_notIn {Q : Value → Shared → Prop} (hu : A.units + 64 < cLine) (I : Inv X pins σ H s) (e : H a = some (DctO X.w a xs)) (r : Paired (EntR X.K H θ) kvs xs) {d : D} {k : NestedKey} {b : Addr} (hk : keyN d = some k) (hd : k.depth ≤ 8) (dv : DV X.K H θ d (.ref b))
    (h : ∀ s', Inv X pins σ H s' → Q (.bool (!(atD kvs d).isSome)) s') : wpAny (model X.prog X.w) A (compareOp .NotIn (.ref b) (.ref a)) Q E s := by
  refine PyProof.Rows.wpAny_notIn_heap (key_room hu) (key_is I hk hd dv) (dct_ok I.hok e).2.1 (dct_H I e r) ?_
  have q := ent_at hk r
  have z : (atKey xs k).isSome = (atD kvs d).isSome := by
    cases e : atD kvs d with
    | none => rw [e] at q; rw [q]; rfl
    | some v => rw [e] at q; obtain ⟨p, hp, _⟩ := q; rw [hp]; rfl
  rw [z]
  exact h _ (I.tok _)
theorem dct_set {Q : Unit → Shared → Prop} (hu : A.units + 64 < cLine) (I : Inv X pins σ H s) (e : H a = some (DctO X.w a xs)) (r : Paired (EntR X.K H θ) kvs xs) (hz : kvs.length < sizeLine) {d v : D} {k : NestedKey} {b : Addr} {y : V} {u : Value} (hk : keyN d = some k) (hd : k.depth ≤ 8) (dv : DV X.K H θ d (.ref b)) (ry : RelV y u) (dy : DV X.K H θ v y)
    (h : ∀ xs' s', Paired (EntR X.K H θ) (putD kvs d v) xs' → Inv X pins σ (upd H a (DctO X.w a xs')) s' → Q () s') : wpAny (model X.prog X.w) A (setItem (.ref a) (.ref b) u) Q E s := by
  obtain ⟨hz2, hs, hn, _⟩ := dct_ok I.hok e
  have hl : kvs.length = xs.length := Paired.length r
  refine PySem.wpAny_setItem_heap (hsz := hz2) (key_room hu) (key_is I hk hd dv) (dct_H I e r) fun h' dd' hsb => ?_
  obtain ⟨q, es, ep, hq, h2, h3, h4, _, h5⟩ := dd'
  refine h _ _ (ent_put hk hd dv ry dy r) ?_
  refine d_write I (by rw [e]; exact True.intro) hsb ⟨q, hq⟩ (dct_new ?_ hs h5 hq h2 h3 h4)
  have := @len_storedH xs k b u
  omega
end

/-! ### readings by data -/
/-- what a dict holds at a key; none: nothing is said -/
def dctAt (x y : D) (S : Sto) : Option (Option D) := match x with
  | .ref i => match S[i]? with
    | some (.dK kvs) => (keyK y).map (atK kvs)
    | some (.dN kvs) => (keyT y).map fun _ => atD kvs y
    | _ => none
  | _ => none
/-- the reading of d[k], k in d by values: what stands there, as data -/
def DAt (X : Cx) (x y : V) (H : Hp) (θ : List Addr) (o : Option D) : Prop :=
  (∃ a kvs k, x = .ref a ∧ y = kV k ∧ H a = some (.dK kvs) ∧ (match o with | none => valV kvs k = none | some d => ∃ v, valV kvs k = some v ∧ DV X.K H θ d v)) ∨
  ∃ a b xs kvs d k, x = .ref a ∧ y = .ref b ∧ H a = some (DctO X.w a xs) ∧ Paired (EntR X.K H θ) kvs xs ∧ keyN d = some k ∧ k.depth ≤ 8 ∧ DV X.K H θ d (.ref b) ∧ atD kvs d = o
theorem val_at {K : PySem.W.Frag} {H : Hp} {θ : List Addr} (k : Key) : ∀ {kvs : List (Key × D)} {vs : List (Key × V)}, vs.map (·.1) = kvs.map (·.1) → DVs K H θ (kvs.map (·.2)) (vs.map (·.2)) →
    match atK kvs k with
      | none => valV vs k = none
      | some d => ∃ v, valV vs k = some v ∧ DV K H θ d v := by
  intro kvs
  induction kvs with
  | nil =>
    intro vs h1 h2
    cases vs with
    | nil => exact rfl
    | cons _ _ => cases h1
  | cons p ps ih =>
    intro vs h1 h2
    cases vs with
    | nil => cases h1
    | cons q qs =>
      rw [List.map_cons, List.map_cons] at h1
      rw [List.map_cons, List.map_cons] at h2
      obtain ⟨v, r, e, d1, d2⟩ := h2
      injection e with e1 e2
      injection h1 with h3 h4
      by_cases e : p.1 = k
      · have a : atK (p :: ps) k = some p.2 := by simp [atK, e]
        rw [a]
        refine ⟨q.2, ?_, by rw [e1]; exact d1⟩
        simp [valV, h3, e]
      · have a : atK (p :: ps) k = atK ps k := by simp [atK, e]
        have b : valV (q :: qs) k = valV qs k := by simp [valV, h3, e]
        rw [a, b]
        exact ih h4 (by rw [e2]; exact d2)
theorem dctAt_of {X : Cx} {H : Hp} {θ : List Addr} {S : Sto} (r : Rl X.K X.w H θ S) {x y : D} {v w : V} {o : Option D} (dx : DV X.K H θ x v) (dy : DV X.K H θ y w) (h : dctAt x y S = some o) : DAt X v w H θ o := by
  unfold dctAt at h
  split at h
  · rename_i i
    obtain ⟨a, rfl, ha⟩ := dx
    split at h
    · rename_i kvs e
      obtain ⟨k, hk, rfl⟩ := Option.map_eq_some_iff.mp h
      obtain ⟨vs, hv, h1, h2⟩ := r.at_ i _ a e ha
      obtain rfl := keyK_of hk dy
      exact .inl ⟨a, vs, k, rfl, rfl, hv, val_at k h1 h2⟩
    · rename_i kvs e
      obtain ⟨k, hk, rfl⟩ := Option.map_eq_some_iff.mp h
      obtain ⟨⟨ds, rfl⟩, h1, h2⟩ := keyT_of hk
      obtain ⟨xs, hv, h3⟩ := r.at_ i _ a e ha
      have dy' := dy
      obtain ⟨b, vs, rfl, _⟩ := dy
      exact .inr ⟨a, b, xs, kvs, _, k, rfl, rfl, hv, h3, h1, h2, dy', rfl⟩
    · cases h
  · cases h
section
variable {X : Cx} {pins : List (Addr × Obj)} {σ : L2.St} {H : Hp} {s : Shared} {θ : List Addr} {A : Around} {E : Value → Shared → Prop} {x y : V} {v u : Value}
theorem DAt.getItem {Q : Value → Shared → Prop} {d : D} (hu : A.units + 64 < cLine) (I : Inv X pins σ H s) (g : DAt X x y H θ (some d)) (rx : RelV x v) (ry : RelV y u) (h : ∀ w' z s', Inv X pins σ H s' → RelV z w' → DV X.K H θ d z → Q w' s') : wpAny (model X.prog X.w) A (getItem v u) Q E s := by
  rcases g with ⟨a, kvs, k, rfl, rfl, e, z, hz, dz⟩ | ⟨a, b, xs, kvs, d', k, rfl, rfl, e, r, hk, hd, dv, ho⟩
  · obtain rfl : v = .ref a := rx
    exact d_getItem (by omega) I (.inl ⟨kvs, k, .inl e, rfl, hz.symm⟩) ry fun w' s' I' rw' => h w' z s' I' rw' dz
  · obtain rfl : v = .ref a := rx
    obtain rfl : u = .ref b := ry
    exact dct_get hu I e r hk hd dv ho h
theorem DAt.isIn {Q : Value → Shared → Prop} {o : Option D} (hu : A.units + 64 < cLine) (I : Inv X pins σ H s) (g : DAt X x y H θ o) (rx : RelV x v) (ry : RelV y u) (h : ∀ s', Inv X pins σ H s' → Q (.bool o.isSome) s') : wpAny (model X.prog X.w) A (compareOp .In u v) Q E s := by
  rcases g with ⟨a, kvs, k, rfl, rfl, e, z⟩ | ⟨a, b, xs, kvs, d', k, rfl, rfl, e, r, hk, hd, dv, rfl⟩
  · obtain rfl : v = .ref a := rx
    refine d_in (by omega) I (.inl ⟨kvs, k, .inl e, rfl, rfl⟩) ry fun s' I' => ?_
    have : (valV kvs k).isSome = o.isSome := by
      cases o with
      | none => rw [z]; rfl
      | some d => obtain ⟨w, hw, _⟩ := z; rw [hw]; rfl
    rw [this]; exact h s' I'
  · obtain rfl : v = .ref a := rx
    obtain rfl : u = .ref b := ry
    exact dct_in hu I e r hk hd dv h
theorem DAt.notIn {Q : Value → Shared → Prop} {o : Option D} (hu : A.units + 64 < cLine) (I : Inv X pins σ H s) (g : DAt X x y H θ o) (rx : RelV x v) (ry : RelV y u) (h : ∀ s', Inv X pins σ H s' → Q (.bool (!o.isSome)) s') : wpAny (model X.prog X.w) A (compareOp .NotIn u v) Q E s := by
  rcases g with ⟨a, kvs, k, rfl, rfl, e, z⟩ | ⟨a, b, xs, kvs, d', k, rfl, rfl, e, r, hk, hd, dv, rfl⟩
  · obtain rfl : v = .ref a := rx
    refine d_notIn (by omega) I (.inl ⟨kvs, k, .inl e, rfl, rfl⟩) ry fun s' I' => ?_
    have : (valV kvs k).isSome = o.isSome := by
      cases o with
      | none => rw [z]; rfl
      | some d => obtain ⟨w, hw, _⟩ := z; rw [hw]; rfl
    rw [this]; exact h s' I'
  · obtain rfl : v = .ref a := rx
    obtain rfl : u = .ref b := ry
    exact dct_notIn hu I e r hk hd dv h
end
/-- x in d; x in a list or tuple of flat things: see dInS -/
def dIn (neg : Bool) : OpF := fun x y S => match dctAt y x S with
  | some o => .ok (.bl (if neg then !o.isSome else o.isSome)) S
  | none => .no
def rInD (X : Cx) (neg : Bool) : R2 := fun x y H Q => ∃ θ o, DAt X y x H θ o ∧ Q (.bl (if neg then !o.isSome else o.isSome)) H
section
variable {X : Cx} {W : WX} {a b e o : Expr} {pos : Pos} {fa fb fe fo : FE}
theorem op_inD (hu : X.A.units + 64 < cLine) : OpR X (compareOp .In) (rInD X false) := by
  intro pins s σ H x y v u Q I rx ry ⟨θ, o, g, q⟩
  exact g.isIn hu I ry rx fun s' I' => ⟨.bl o.isSome, H, I', rfl, q⟩
theorem op_notInD (hu : X.A.units + 64 < cLine) : OpR X (compareOp .NotIn) (rInD X true) := by
  intro pins s σ H x y v u Q I rx ry ⟨θ, o, g, q⟩
  exact g.notIn hu I ry rx fun s' I' => ⟨.bl (!o.isSome), H, I', rfl, q⟩
theorem od_inD (neg : Bool) : OpD X (rInD X neg) (dIn neg) := by
  intro θ H S x y v w Q E r d1 d2 p
  unfold dIn at p
  cases e : dctAt y x S with
  | none => rw [e] at p; exact p.elim
  | some o =>
    rw [e] at p
    exact ⟨θ, o, dctAt_of r d2 d1 e, p θ H _ .refl r rfl⟩
theorem cd_inD (hu : X.A.units + 64 < cLine) : CmpD X .In (dIn false) := ⟨_, op_inD hu, od_inD false⟩
theorem cd_notInD (hu : X.A.units + 64 < cLine) : CmpD X .NotIn (dIn true) := ⟨_, op_notInD hu, od_inD true⟩
/-- d[k] -/
def dIxD : OpF := fun x y S => match dctAt x y S with
  | some (some d) => .ok d S
  | _ => .no
theorem dctAt_typeIs {pins : List (Addr × Obj)} {σ : L2.St} {H : Hp} {s : Shared} {θ : List Addr} {x y : V} {o : Option D} {v : Value} (I : Inv X pins σ H s) (g : DAt X x y H θ o) (rx : RelV x v) : s.TypeIs v "dict" := by
  rcases g with ⟨a, kvs, k, rfl, rfl, e, z⟩ | ⟨a, b, xs, kvs, d', k, rfl, rfl, e, r, hk, hd, dv, rfl⟩
  · obtain rfl : v = .ref a := rx
    obtain ⟨_, _, vs, _, dd⟩ := dk_of I.hok e
    exact dd.typeIs
  · obtain rfl : v = .ref a := rx
    exact (dct_H I e r).typeIs
theorem de_ixD (hu : X.A.units + 64 < cLine) (ha : DE X W a fa) (hb : DE X W b fb) (hs : NoSl b := by exact fun _ _ => rfl) : DE X W (.Subscript a b pos) (fBin dIxD fa fb) := by
  obtain ⟨ta, pa, qa⟩ := ha
  obtain ⟨tb, pb, qb⟩ := hb
  refine ⟨fun σ H Q => ta σ H fun v H1 => tb σ H1 fun w H2 => ∃ θ d, DAt X v w H2 θ (some d) ∧ ∀ z, DV X.K H2 θ d z → Q z H2, ⟨fun pins s σ H Q I h => ?_⟩, fun θ σ ρ H S Q r sl h => two qa qb r sl h fun θ2 H2 S2 x y v w f r2 sl2 d1 d2 p => ?_⟩
  · refine subD_of PySem.F.slot_dict_getitem.lookup hs (thn (pa.run pins s σ H _ I h) fun u s1 ⟨x, H1, I1, rx, q1⟩ => thn (pb.run pins s1 σ H1 _ I1 q1) fun iv s2 ⟨y, H2, I2, ry, θ, d, g, q2⟩ => ?_)
    exact ⟨dctAt_typeIs I2 g rx, g.getItem hu I2 rx ry fun w' z s3 I3 rw' dz => ⟨z, H2, I3, rw', q2 z dz⟩⟩
  · unfold dIxD at p
    split at p
    · rename_i d e
      exact ⟨θ2, d, dctAt_of r2 d1 d2 e, fun z dz => p θ2 H2 z .refl r2 dz⟩
    · exact p.elim
end
end Y

set_option Elab.async false
set_option linter.all false
set_option maxRecDepth 100000
set_option maxHeartbeats 2000000
/-! YExc: own exceptions whose __init__ says super().__init__(..) -/
namespace Y
open PySem L2
section
/-- the context of a def with the cell __class__ -/
def cxOfX (CX : CXT) (P : Program) (w : World) (K : PySem.W.Frag) (mg : Str → Option Value) (base : Heap) (N : List Str) (qual : Str) (scope : Scope) (f : Addr) (cd : Value) (cc : Addr) (A : Around) (outer : List PySem.Env) (s : Shared) (H : Hp) (E : XK) : Cx where
  prog := P
  w := w
  K := K
  mg := mg
  base := base
  A := A.deeper (PySem.W.ksEnv qual scope s.heap.objs.size f cd cc)
  N := N
  s_0 := s
  H_0 := H
  env := PySem.W.ksEnv qual scope s.heap.objs.size f cd cc
  outer := outer
  stack := PySem.W.ksEnv qual scope s.heap.objs.size f cd cc :: outer
  ex := []
  calm := true
  fn := fun y => y != "__class__"
  pn := []
  xe := fun e s' => wpAny (model P w) (A.deeper (PySem.W.ksEnv qual scope s.heap.objs.size f cd cc)) (leaving (PySem.W.ksEnv qual scope s.heap.objs.size f cd cc) e) (fun _ s'' => CX outer H s E e s'') (fun e' s'' => CX outer H s E e' s'') s'
structure FnScopeX (N P : List Str) (sc : Scope) : Prop where
  kind : sc.kind = .function
  co : sc.isCoroutine = false
  gen : sc.isGenerator = false
  nd : N.Nodup
  pre : N.take P.length = P
  par : ∀ x ∈ P, sc.names.lookup x = some .local
  nocell : ∀ y ∈ sc.names, y.2 ≠ .cell
  free : ∀ y ∈ sc.names, y.2 = .free → y.1 = "__class__"
  sup : sc.names.lookup ("super" : Str) = some .globalImplicit
  cls : sc.names.lookup ("__class__" : Str) = some .free

theorem zip_rev : ∀ {P : List Str} {us : List Value} {i : Nat} {x : Str} {u : Value}, P.Nodup → P[i]? = some x → us[i]? = some u → (P.zip us).reverse.lookup x = some u := by
  intro P us i x u nd h1 h2
  have key : ∀ (l : List (Str × Value)), (l.map (·.1)).Nodup → (x, u) ∈ l → l.lookup x = some u := by
    intro l
    induction l with
    | nil => intro _ h; cases h
    | cons p l ih =>
      intro nd h
      obtain ⟨y, z⟩ := p
      simp only [List.map_cons, List.nodup_cons] at nd
      rcases List.mem_cons.mp h with e | h
      · cases e; simp [List.lookup]
      · have : x ≠ y := fun e => nd.1 (by rw [← e]; exact List.mem_map_of_mem (f := (·.1)) h)
        have e : (x == y) = false := by simpa using this
        simp only [List.lookup, e]
        exact ih nd.2 h
  refine key _ ?_ ?_
  · rw [List.map_reverse]
    refine (List.reverse_perm _).nodup_iff.mpr ?_
    have : (P.zip us).map (·.1) = P.take us.length := by
      clear nd h1 h2
      induction P generalizing us with
      | nil => simp
      | cons p P ih => cases us with
        | nil => simp
        | cons u us => simp [ih]
    rw [this]
    exact nd.sublist (List.take_sublist _ _)
  · rw [List.mem_reverse]
    have : (P.zip us)[i]? = some (x, u) := by rw [List.getElem?_zip_eq_some]; exact ⟨h1, h2⟩
    exact List.mem_of_getElem? this

theorem inv_startX {CX : CXT} {P : Program} {w : World} {K : PySem.W.Frag} {mg : Str → Option Value} {base : Heap} {N ps : List Str} {qual : Str} {scope : Scope} {f cc D : Addr} {cd cl : Value} {cld : Option Addr} {csl : Array (Option Value)} {A : Around} {outer : List PySem.Env} {s : Shared} {H : Hp} {E : XK} {us : List Value} {vs : List V}
    {h1 : Heap} {tk : Nat} (S : FnScopeX N ps scope) (hd : A.handled = none) (e0 : Env0 P w K mg base A outer s H) (hl : vs.length = ps.length) (r : Vals vs us) (hcell : K.lookup cc = some ⟨cl, cld, .cell (some (.ref D)), csl⟩)
    (hns : h1.Ns s.heap.objs.size (fun x => (ps.zip us).reverse.lookup x)) (hk : ∀ b o, s.heap.get? b = some o → h1.get? b = some o) :
    Inv (cxOfX CX P w K mg base N qual scope f cd cc A outer s H E) [] (L2.start N vs) H { s with heap := h1, toks := tk } := by
  have hpl : ps.length ≤ N.length := by have := congrArg List.length S.pre; rw [List.length_take] at this; omega
  have noA : ∀ b : Addr, b ∉ (cxOfX CX P w K mg base N qual scope f cd cc A outer s H E).ex := fun b z => absurd (show b ∈ ([] : List Addr) from z) (by simp)
  have ccB : base.get? cc = some ⟨cl, cld, .cell (some (.ref D)), csl⟩ := e0.mod.kin _ _ hcell
  have lk : ∀ {y : Str} {c : Addr}, ([("__class__", cc)] : List (Str × Addr)).lookup y = some c → y = "__class__" ∧ c = cc := fun {y c} h => by
    by_cases e : y = "__class__"
    · subst e
      exact ⟨rfl, by simpa [List.lookup] using h.symm⟩
    · have z : (y == ("__class__" : Str)) = false := by simpa using e
      simp [List.lookup, z] at h
  refine ⟨⟨e0.mod, S.kind, rfl, rfl, Nat.le_refl _, fun y z c h1 h2 => ?_, fun y hy => ?_, fun y c hf h => ?_, fun _ => hd, Around.frames_deeper e0.frames, .inr ⟨rfl, rfl⟩, fun b z => absurd z (noA b), e0.bs, e0.bsz, fun b _ _ => noA b, fun b z => absurd z (noA b), e0.funs, e0.frf⟩,
    rfl, e0.bare, Un.kept hk, ⟨_, hns, fun i y v h1 h2 h3 => ?_⟩, fun y c h => ?_, e0.hok.fresh (Nat.le_refl _), fun y c h => ?_, fun p hp => absurd (show p ∈ ([] : List (Addr × Obj)) from hp) (by simp), e0.hok.kept hk, ?_⟩
  · exact (lk h1).1.trans (lk h2).1.symm
  · have hy : scope.names.lookup y = some .cell ∨ scope.names.lookup y = some .free := hy
    rcases hy with hy | hy
    · exact absurd rfl (S.nocell _ (PySem.mem_of_lookup hy))
    · have := S.free _ (PySem.mem_of_lookup hy) rfl
      exact ⟨cc, by show ([("__class__", cc)] : List (Str × Addr)).lookup y = some cc; rw [show y = "__class__" from this]; rfl⟩
  · have := (lk h).1
    subst this
    exact absurd hf (by show ¬ (("__class__" : Str) != "__class__") = true; simp)
  · have hi : i < vs.length := by
      unfold L2.start at h2
      by_cases hi : i < vs.length
      · exact hi
      · rw [List.getElem?_append_right (by simpa using hi)] at h2
        rw [List.getElem?_replicate] at h2
        split at h2 <;> cases h2
    have ha : vs[i]? = some v := by
      unfold L2.start at h2
      rw [List.getElem?_append_left (by simpa using hi), List.getElem?_map] at h2
      cases e : vs[i]? with
      | none => rw [e] at h2; cases h2
      | some a => rw [e] at h2; cases h2; rfl
    obtain ⟨u, hu, rv⟩ := r.get ha
    have hp : ps[i]? = some y := by
      rw [← S.pre, List.getElem?_take_of_lt (by omega)]; exact h1
    have ndP : ps.Nodup := by rw [← S.pre]; exact S.nd.sublist (List.take_sublist _ _)
    exact ⟨u, rv, .inl ⟨S.par y (List.mem_of_getElem? hp), zip_rev ndP hp hu⟩⟩
  · obtain ⟨_, rfl⟩ := lk h
    exact ⟨_, _, hk _ _ (e0.bs _ _ ccB).1, rfl⟩
  · obtain ⟨_, rfl⟩ := lk h
    exact (e0.bs _ _ ccB).2
  · unfold L2.start
    show _ = N.length
    rw [List.length_append, List.length_map, List.length_replicate]
    omega

/-- what the written part says of a class C whose def at f says super(): the cell, the code, the built-in's __init__ -/
structure SupC (P : Program) (K : PySem.W.Frag) (mg : Str → Option Value) (C f cc cda : Addr) : Prop where
  oex : OexC K C
  cell : ∃ cl cld csl, K.lookup cc = some ⟨cl, cld, .cell (some (.ref C)), csl⟩
  code : ∃ ccl cdd vs ccs file tf, K.lookup cda = some ⟨ccl, cdd, .fields vs, ccs⟩ ∧ vs[2]? = some (.str file tf) ∧ ((P.main.file : Str) == file) = true
  opq : PySem.W.nsIn K cStatics "thirdparty.any" = some none
  sup : PySem.W.ks_superIn K C C "__init__" = some (some (.builtin "ValueError.__init__"))
  isa : PySem.W.subIn K (.ref C) (.type "ValueError") = some true
  own : PySem.W.mroIn K C (.ref C) = some true
  mg_ : mg "super" = none
  top : (P.main.scope.names.lookup ("super" : Str)).isSome = false

theorem fn_super {CX : CXT} {P : Program} {w : World} {K : PySem.W.Frag} {mg : Str → Option Value} {base : Heap} {k : Nat} {f cc cda C : Addr} {name qual : Str} {params : Arguments} {e : Expr} {es : List Expr} {rest : List Stmt} {p0 p1 p2 p3 p4 : Pos} {scope : Scope} {dV kV doc pm ct oc : Value} {an od : Option Addr}
    {osl : Array (Option Value)} {N ps : List Str} {sp : Sp} {ar : Arg} (T : SupC P K mg C f cc cda)
    (lk : K.lookup f = some ⟨oc, od, .func (PySem.W.ksFn name qual params (.Expr (.Call (.Attribute (.Call (.Name "super" p0) [] [] p1) "__init__" p2) (e :: es) [] p3) p4 :: rest) scope dV kV doc pm an (.ref cda) ct cc), osl⟩) (hcd : PySem.W.codeIn K (.ref cda) qual = true) (S : FnScopeX N ps scope)
    (hp : (params.posonlyargs ++ params.args).head? = some ar) (hN : N[0]? = some ar.arg) (hP : scope.names.lookup ar.arg = some .local)
    (len : ∀ vs H Q E, sp vs H Q E → vs.length = ps.length)
    (hbody : ∀ (A : Around) (outer : List PySem.Env) (s : Shared) (H : Hp) (vs : List V) (Q : VK) (E : XK), Room k (A.deeper (PySem.W.ksEnv qual scope s.heap.objs.size f (.ref cda) cc)) → sp vs H Q E →
      ∃ a ta t, (L2.start N vs)[0]? = some (some (.ref a)) ∧ PA (cxOfX CX P w K mg base N qual scope f (.ref cda) cc A outer s H E) (e :: es) ta ∧ PSs (cxOfX CX P w K mg base N qual scope f (.ref cda) cc A outer s H E) rest t ∧ H a = some (exo a C none) ∧
        ta (L2.start N vs) H fun ws H1 => ws.length ≤ 1000 ∧ H1 a = some (exo a C none) ∧ t { nx := fun _ H' => Q .non H', rt := Q } (L2.start N vs) H1)
    (he : ∀ env, starEach (e :: es) env = (false, eval e env) :: starEach es env := by intros; rfl) (hpl : ∀ env, (backTo p3 (starEach es env)).any (·.1) = false := by intros; rfl)
    {pl : PySem.Env → Sem Bool} (hev : ∀ env, eval (.Call (.Attribute (.Call (.Name "super" p0) [] [] p1) "__init__" p2) (e :: es) [] p3) env = (do
      let ov ← attributeBase (.Call (.Name "super" p0) [] [] p1) "__init__" env (eval (.Call (.Name "super" p0) [] [] p1) env)
      standAt p2.atName
      let (f, first) ← holding [ov] (getMethod ov "__init__" (pl env))
      callWith p3 f first (backTo p3 (starEach (e :: es) env)) []) := by intros; rfl)
    (hsw : ∀ env, swapsWith (.Call (.Attribute (.Call (.Name "super" p0) [] [] p1) "__init__" p2) (e :: es) [] p3) none p4.line env = pure false := by intros; rfl) :
    FnOk P w K mg base CX (k + 1) f (PySem.W.ksFn name qual params (.Expr (.Call (.Attribute (.Call (.Name "super" p0) [] [] p1) "__init__" p2) (e :: es) [] p3) p4 :: rest) scope dV kV doc pm an (.ref cda) ct cc) ps sp := by
  refine ⟨len, fun A outer s H args us vs Q E hr e0 hb r hsp => ?_⟩
  have hl := len _ _ _ _ hsp
  have KX : K.In s.heap := e0.mod.kin.keeps fun b o e => (e0.bs b o e).1
  have lim : s.heap.NoLimit := e0.mod.nolimit.keeps fun b o e => (e0.bs b o e).1
  obtain ⟨cl, cld, csl, hcell⟩ := T.cell
  obtain ⟨ccl, cdd, cvs, ccs, file, tf, hcode, hvs, hfile⟩ := T.code
  refine ks_codeAny_call_defAt (binds := ps.zip us) hr.depth (KX _ _ lk) rfl lim (PySem.W.codeRec_of KX hcd) rfl hb S.nocell (fun x hx => S.par x.1 (List.of_mem_zip hx).1) (fun h₁ hns hk => ?_) S.co S.gen S.kind
  have I : Inv (cxOfX CX P w K mg base N qual scope f (.ref cda) cc A outer s H E) [] (L2.start N vs) H { s with heap := h₁, toks := s.toks + (ps.zip us).length } := inv_startX S hr.hd e0 hl r hcell hns hk
  obtain ⟨a, ta, t, ea0, pa, pt, eH, q⟩ := hbody A outer s H vs Q E (hr.deeper _) hsp
  obtain ⟨nm, qn, Nn, bs, bm, sn, sub, ab, col, dd, k0, k1, k2, k3, k5, hC, hbm⟩ := T.oex.cls
  have hcl : PySem.W.clsIn K C = some { name := nm, bases := bs, mro := .ref C :: bm, ns := Nn, qualname := qn, hasDict := true, slotNames := sn, subclasses := sub, abstract := ab, collection := col, hasDel := false } := by unfold PySem.W.clsIn; rw [hC] <;> rfl
  have X1 : K.In h₁ := KX.keeps hk
  obtain ⟨t1, ho⟩ := exo_at I.hok eH
  have hself : ∃ m, h₁.Ns s.heap.objs.size m ∧ m ar.arg = some (.ref a) := by
    obtain ⟨m, hn, hl⟩ := I.loc
    obtain ⟨u, ru, l⟩ := hl 0 ar.arg (.ref a) hN ea0 (.inl hP)
    obtain rfl : u = Value.ref a := ru
    rcases l with l | ⟨kk, _⟩
    · exact ⟨m, hn, l.2⟩
    · exact absurd kk (by
        have z : (PySem.W.ksEnv qual scope s.heap.objs.size f (.ref cda) cc).kindOf ar.arg = some .local := hP
        intro kk
        rcases kk with kk | kk
        · exact absurd (z.symm.trans kk) (by decide)
        · exact absurd (z.symm.trans kk) (by decide))
  obtain ⟨m, hn, hm⟩ := hself
  refine ks_wpAt_execs_cons (ks_wpAt_Expr_any (ks_wpAt_MethodCall ?_ (hev _)) I.quiet (hsw _))
  refine ks_wpAt_super_base (env := PySem.W.ksEnv qual scope s.heap.objs.size f (.ref cda) cc) S.sup S.cls (by decide) rfl (X1 _ _ lk) rfl hp rfl (X1 _ _ hcode) rfl hvs hfile T.top ?_
  obtain ⟨mb, hb1, hb2⟩ := e0.mod.blt
  have B1 : ∀ b o, base.get? b = some o → h₁.get? b = some o := fun b o e => hk b o (e0.bs b o e).1
  refine PySem.W.ks_loadName_global S.kind S.sup (Calls.loadGlobal_builtin (env := PySem.W.ksEnv qual scope s.heap.objs.size f (.ref cda) cc) (e0.mod.glob.keeps B1) T.mg_ (hb1.keeps B1) ((hb2 _ (by decide)).trans (PyProof.Rows.Boot.«super»)) ⟨rfl, ?_⟩)
  refine wpAny_loadName_free S.kind S.cls rfl ⟨_, X1 _ _ hcell, rfl⟩ ?_
  refine wpAny_loadName_local S.kind hP hn hm ?_
  have hC1 := X1 _ _ hC
  refine ks_wpAny_isType_cls hC1 rfl ⟨rfl, ?_⟩
  refine ks_wpAny_call_super hC1 rfl ho rfl (fun c z => by cases z) (PySem.W.looks_mroIn X1 T.own) (fun h2 e2 k2 => ?_)
  have I2 := I.kept (h' := h2) (t' := s.toks + (ps.zip us).length) k2
  have X2 : K.In h2 := X1.keeps k2
  have ho2 := k2 _ _ ho
  have II : PySem.W.InstAt h2 a { cls := .ref C, dict := none, data := .fields #[.ref t1, .none, .none, .none, .bool false, .none] } C none := ⟨ho2, rfl, rfl, trivial⟩
  have hsp := T.sup
  unfold PySem.W.ks_superIn at hsp
  rw [hcl] at hsp
  refine PySem.W.kxs_getMethod PySem.W.kxs_ValueError e2 (PySem.W.looks_opaque X2 T.opq) (l₀ := .ref C :: bm) ((PySem.W.looks_clsIn X2 hcl).andThen .now) rfl X2 hsp (II.type.andThen (PySem.W.looks_subIn X2 T.isa)) (PySem.W.ks_ne X2 II hcl) (by decide) ?_
  have k3 : ∀ b o, h2.get? b = some o → (h2.push (PySem.W.kxs_mw "ValueError.__init__" a)).get? b = some o := fun b o z => Heap.get?_push_of_some _ z
  have I3 := (I2.kept (h' := h2.push (PySem.W.kxs_mw "ValueError.__init__" a)) (t' := s.toks + (ps.zip us).length + 1) k3).pins_of (pins' := [(h2.objs.size, PySem.W.kxs_mw "ValueError.__init__" a)]) (fun p hp => by
    obtain rfl : p = (h2.objs.size, PySem.W.kxs_mw "ValueError.__init__" a) := by simpa [cxOfX] using hp
    exact ⟨Heap.get?_push_at rfl rfl, I2.hok.fresh (Nat.le_refl _), Nat.ne_of_gt I2.lt, I2.nofs (Nat.le_refl _), fun v z => by cases z⟩)
  show wpAny _ _ (callWith p3 (Value.ref h2.objs.size) [] (backTo p3 (starEach (e :: es) (PySem.W.ksEnv qual scope s.heap.objs.size f (.ref cda) cc))) []) _ _ _
  have hpl1 : (backTo p3 (starEach (e :: es) (PySem.W.ksEnv qual scope s.heap.objs.size f (.ref cda) cc))).any (·.1) = false := by
    rw [he]; show (false || (backTo p3 (starEach es _)).any (·.1)) = false
    rw [hpl]; rfl
  refine PySem.W.kxs_callWith (u := h2.objs.size) (i := "ValueError.__init__") (x := a) hpl1 ?_
  have harg := pa.run p3 _ _ _ _ _ I3 q
  rw [he] at harg ⊢
  refine PySem.Calls.evalArgs_plain (wpAny_mono harg (fun vs1 s1 hh => ?_) fun _ _ y => y)
  obtain ⟨ws, H1, I4, r4, hw, eH1, q4⟩ := hh
  have hu := (I4.pin _ (List.mem_append_right _ List.mem_cons_self)).1
  refine ⟨hu, ?_⟩
  obtain ⟨t2, ho4⟩ := exo_at I4.hok eH1
  have hC4 := I4.kIn _ _ hC
  have hz : vs1.length ≤ sizeLine := by
    rw [← r4.length, sizeLine_eq]; omega
  obtain ⟨h4, g4, d4, tk4, os4⟩ := s1
  refine wpAny_call (codeAny_of_tree ?_)
  show wpAny _ (A.deeper _).in1 (callAny (.ref h2.objs.size) ⟨vs1, []⟩) _ _ _
  simp only [callAny]
  refine wpAny_bind (wpAny_load hu ?_)
  simp only [PySem.W.kxs_mw, show (Value.type "method-wrapper" == Value.type "method" || Value.type "method-wrapper" == Value.type "builtin_function_or_method" || Value.type "method-wrapper" == Value.type "method-wrapper") = true by decide, if_true]
  refine PySem.W.KFB.if_so (by decide) ?_
  refine wpAny_bind (PySem.W.check_bound_init F.excBase_ValueError.toExcCallFacts hC4 ho4 rfl ?_)
  refine wpAny_bind (wpAny_pure (wpAny_pure ?_))
  refine ⟨plainId_quiet F.excBase_ValueError.init.plain _, codeAny_builtin F.excBase_ValueError.initEntry ?_⟩
  refine PySem.W.exc_init_tree (cls := .ref C) (t0 := t2) (dv := none) (c2 := .none) (c3 := .none) (b4 := .bool false) ho4 hz (fun h5 k5 e5 _ => ?_)
  have I5 := I4.write (t' := tk4) (x := a) (e := a) (o := exo a C none) (by rw [eH1]; exact True.intro) (.inl rfl) k5 ⟨_, e5⟩ (exo_ok e5)
  have eu : upd H1 a (exo a C none) = H1 := by
    funext b
    by_cases hb : b = a
    · rw [hb, upd_same, eH1]
    · rw [upd_ne hb]
  rw [eu] at I5
  have I6 := I5.pins_of (pins' := []) (fun p hp => absurd (show p ∈ ([] : List (Addr × Obj)) from hp) (by simp))
  refine wpAt_of_wpAny (wpAny_mono (pt.run [] _ _ _ _ I6 q4) (fun fl s' hs => ?_) fun e s' hs => hs)
  have fin : ∀ {σ' : St} {H' : Hp} {v : V} {u : Value}, Inv (cxOfX CX P w K mg base N qual scope f (.ref cda) cc A outer s H E) [] σ' H' s' → RelV v u → Q v H' → CE outer P w H s Q u s' :=
    fun {σ' H' v u} J rv q => ⟨v, H', J.os, J.bare, J.base, J.hok, rv, q⟩
  cases fl with
  | ret u =>
    obtain ⟨v, σ', H', J, rv, q⟩ := hs
    exact fin J rv q
  | next =>
    obtain ⟨σ', H', J, q⟩ := hs
    exact fin (v := V.non) (u := Value.none) J rfl q
  | brk =>
    obtain ⟨_, _, _, q⟩ := hs
    exact False.elim q
  | cont =>
    obtain ⟨_, _, _, q⟩ := hs
    exact False.elim q
end
end Y

namespace Y
open PySem L2
/-- made by C(y): self.f = y -/
def spI (C : Addr) (f : Str) : Sp := fun vs H Q _ => ∃ a y, vs = [.ref a, y] ∧ H a = some (exo a C none) ∧ ∀ dx, H dx = none → dx ≠ a → Q .non (upd (upd H dx (exd dx [(f, y)])) a (exo a C (some dx)))
/-- class x(ValueError ..): def __init__(self, p): super().__init__(p); self.f = p; level k -/
structure XMk (P : Program) (w : World) (K : PySem.W.Frag) (mg : Str → Option Value) (base : Heap) (k : Nat) (x f : Str) : Prop where
  ex : ∃ C fI fd ps, mg x = some (.ref C) ∧ OexC K C ∧ PySem.W.findIn K (.ref C) "__init__" = some (some (.ref fI)) ∧ PySem.W.typeIn K (.ref fI) = some (.type "function") ∧
    FnOk P w K mg base (L2.CX P w) k fI fd ps (spI C f) ∧ Binds K fd ps []
section
variable {X : Cx} {W : WX} {e : Expr} {fe : FE} {pos p p0 : Pos} {k : Nat} {x f : Str}
def sRaise (x f : Str) (fe : FE) : FS := fun ρ S => (fe ρ S).then ρ fun d S' => .ex ⟨x, [(f, d)]⟩ ρ S'
theorem del_mk {H : Hp} {a dx : Addr} {u v w z : HO} (ha : H a = none) (hd : dx ≠ a) : upd (del (upd (upd (upd H a u) dx v) a w) a) dx z = upd H dx z := by
  funext b
  by_cases h : b = dx
  · rw [h, upd_same, upd_same]
  · rw [upd_ne h, upd_ne h]
    by_cases hb : b = a
    · rw [hb, del_same, ha]
    · rw [del_ne hb, upd_ne hb, upd_ne h, upd_ne hb]
theorem ds_raise (M : XMk X.prog X.w X.K X.mg X.base k x f) (hr : RoomY (k + 1) X.A) (hc : X.calm = true) (tk : Takes X W) (hg : Gl X x) (he : DE X W e fe)
    (hdb : (x == ("__debug__" : Str)) = false := by decide) (hes : starEach [e] X.env = (false, eval e X.env) :: starEach [] X.env := by rfl) :
    DS X W (.Raise (some (.Call (.Name x p) [e] [] pos)) none p0) (sRaise x f fe) := by
  obtain ⟨C, fI, fd, ps, hm, T, iC, tI, F, hb⟩ := M.ex
  obtain ⟨ta, pa, qa⟩ := da_cons he da_nil hes
  refine ⟨_, ps_raise hc tk (pmk_oex (dvs := []) (ds := []) T iC tI F hr.room hb .nil (fun pins σ H s e s' I c => tk e s' (XE.of_call I (fun _ _ _ h => h.elim) c)) hg hm pa hdb hes rfl), fun θ σ ρ H S D r sl h => ?_⟩
  show ta σ H _
  refine qa θ σ ρ H S _ r sl ?_
  unfold sRaise R.then at h
  unfold faCons faNil
  cases ea : fe ρ S with
  | no => rw [ea] at h; exact h
  | ex c S' =>
    rw [ea] at h
    exact fun θ' H' cls dd g r' x' => h θ' H' σ cls dd g r' (sl.later g) x'
  | ok d S1 =>
    rw [ea] at h
    intro θ1 H1 vs f1 r1 dv1
    obtain ⟨v, rr, rfl, dv, rfl⟩ := dv1
    refine ⟨by show 1 ≤ 1000; omega, fun a ha => ⟨a, v, rfl, upd_same, fun dx hdx hne => ⟨rfl, dx, [(f, v)], upd_same, by rw [upd_ne hne, upd_same], by rw [upd_ne hne] at hdx; exact hdx, ?_⟩⟩⟩
    rw [upd_ne hne] at hdx
    rw [del_mk ha hne]
    have fN : Fut H1 θ1 (upd H1 dx (.xd [(f, v)])) θ1 := Fut.new hdx
    refine h θ1 _ σ _ _ (f1.trans fN) (r1.new hdx) ((sl.later f1).later fN) ⟨⟨C, hm, rfl⟩, fun g d' hgd => ?_, fun b hb => by cases hb; exact ⟨_, upd_same⟩⟩
    obtain ⟨rfl, rfl⟩ : g = f ∧ d' = d := by simpa using hgd
    exact ⟨dx, _, v, rfl, upd_same, by simp [List.lookup], DV.later fN _ _ dv⟩
end
end Y

namespace Y
open PySem L2
theorem ExR.later {K : PySem.W.Frag} {mg : Str → Option Value} {H H' : Hp} {θ θ' : List Addr} {c : Exc} {cls : Value} {dd : Option Addr} (f : Fut H θ H' θ') (h : ExR K mg H θ c cls dd) : ExR K mg H' θ' c cls dd :=
  ⟨h.1, fun g d hg => by
    obtain ⟨a, fs, v, e1, e2, e3, e4⟩ := h.2.1 g d hg
    exact ⟨a, fs, v, e1, f.imm _ _ trivial e2, e3, DV.later f _ _ e4⟩, fun a ha => let ⟨fs, e⟩ := h.2.2 a ha; ⟨fs, f.imm _ _ trivial e⟩⟩
abbrev WN : WX := fun _ _ _ _ => False
/-- an expression of an except suite: slot i holds the exception c, at a -/
def DX (X : Cx) (i : Nat) (a : Addr) (cls : Value) (dd : Option Addr) (c : Exc) (e : Expr) (f : FE) : Prop := ∃ t, PE X e t ∧ ∀ θ σ ρ H S Q, Rl X.K X.w H θ S → SlV X.K H θ ρ σ → σ[i]? = some (some (.ref a)) → ExR X.K X.mg H θ c cls dd →
  PostV X.K X.w X.mg θ H (f ρ S) Q (fun _ _ _ => False) → t σ H Q
def DXA (X : Cx) (i : Nat) (a : Addr) (cls : Value) (dd : Option Addr) (c : Exc) (e : List Expr) (f : FA) : Prop := ∃ t, PA X e t ∧ ∀ θ σ ρ H S Q, Rl X.K X.w H θ S → SlV X.K H θ ρ σ → σ[i]? = some (some (.ref a)) → ExR X.K X.mg H θ c cls dd →
  PostA X.K X.w X.mg θ H (f ρ S) Q (fun _ _ _ => False) → t σ H Q
def DXT (X : Cx) (i : Nat) (a : Addr) (cls : Value) (dd : Option Addr) (c : Exc) (e : Expr) (f : FT) : Prop := ∃ t, PT X e t ∧ ∀ θ σ ρ H S Q, Rl X.K X.w H θ S → SlV X.K H θ ρ σ → σ[i]? = some (some (.ref a)) → ExR X.K X.mg H θ c cls dd →
  PostB X.K X.w X.mg θ H (f ρ S) Q (fun _ _ _ => False) → t σ H Q
section
variable {X : Cx} {i : Nat} {a : Addr} {cls : Value} {dd : Option Addr} {c : Exc} {e u b : Expr} {es : List Expr} {fe fu fb : FE} {fas : FA} {ft : FT} {pos p : Pos}
theorem dx_de (h : DE X WN e fe) : DX X i a cls dd c e fe := by
  obtain ⟨t, p, q⟩ := h
  exact ⟨t, p, fun θ σ ρ H S Q r sl _ _ h => q θ σ ρ H S Q r sl h⟩
theorem dxa_nil : DXA X i a cls dd c [] faNil := ⟨_, pa_nil, fun θ σ ρ H S Q r sl _ _ h => h θ H [] .refl r rfl⟩
theorem dxa_cons (ha : DX X i a cls dd c e fe) (hr : DXA X i a cls dd c es fas) (hs : starEach (e :: es) X.env = (false, eval e X.env) :: starEach es X.env := by rfl) : DXA X i a cls dd c (e :: es) (faCons fe fas) := by
  obtain ⟨ta, pa, qa⟩ := ha
  obtain ⟨tb, pb, qb⟩ := hr
  refine ⟨_, pa_cons pa pb hs, fun θ σ ρ H S Q r sl hi hx h => ?_⟩
  refine qa θ σ ρ H S _ r sl hi hx ?_
  unfold faCons at h
  cases ea : fe ρ S with
  | no => rw [ea] at h; exact h
  | ex c S' => rw [ea] at h; exact h
  | ok x S1 =>
    rw [ea] at h
    intro θ1 H1 v f1 r1 dv1
    refine qb θ1 σ ρ H1 S1 _ r1 (sl.later f1) hi (hx.later f1) ?_
    have h : PostA X.K X.w X.mg θ H ((fas ρ S1).bind fun y S2 => .ok (x :: y) S2) Q (fun _ _ _ => False) := h
    cases eb : fas ρ S1 with
    | no => rw [eb] at h; exact h
    | ex c S' =>
      rw [eb] at h
      exact PostA.since f1 h
    | ok y S2 =>
      rw [eb] at h
      intro θ2 H2 w f2 r2 dv2
      exact h θ2 H2 _ (f1.trans f2) r2 ⟨v, w, rfl, DV.later f2 _ _ dv1, dv2⟩
theorem xargs {ta : TA} {op : List D → Sto → R D} {G : List V → Hp → Prop} {θ : List Addr} {σ : L2.St} {ρ : Env} {H : Hp} {S : Sto} {Q : VK}
    (qa : ∀ θ σ ρ H S Q, Rl X.K X.w H θ S → SlV X.K H θ ρ σ → σ[i]? = some (some (.ref a)) → ExR X.K X.mg H θ c cls dd → PostA X.K X.w X.mg θ H (fas ρ S) Q (fun _ _ _ => False) → ta σ H Q)
    (r : Rl X.K X.w H θ S) (sl : SlV X.K H θ ρ σ) (hi : σ[i]? = some (some (.ref a))) (hx : ExR X.K X.mg H θ c cls dd) (h : PostV X.K X.w X.mg θ H ((fas ρ S).bind op) Q (fun _ _ _ => False))
    (hg : ∀ θ2 H2 S2 xs vs, Fut H θ H2 θ2 → Rl X.K X.w H2 θ2 S2 → DVs X.K H2 θ2 xs vs → PostV X.K X.w X.mg θ2 H2 (op xs S2) Q (fun _ _ _ => False) → G vs H2) : ta σ H G := by
  refine qa θ σ ρ H S _ r sl hi hx ?_
  cases ea : fas ρ S with
  | no => rw [ea] at h; exact h
  | ex c S' => rw [ea] at h; exact h
  | ok x S1 =>
    rw [ea] at h
    intro θ1 H1 v f1 r1 dv1
    exact hg θ1 H1 S1 x v f1 r1 dv1 (PostV.since f1 h)
theorem dx_tup {j : Nat} (ha : DXA X i a cls dd c es fas) : DX X i a cls dd c (.Tuple es j pos) (fTup fas) := by
  obtain ⟨ta, pa, qa⟩ := ha
  refine ⟨_, pe_tup pa, fun θ σ ρ H S Q r sl hi hx h => xargs qa r sl hi hx h fun θ2 H2 S2 xs vs f r2 d1 p => ?_⟩
  by_cases hz : xs.length ≤ sizeLine
  · simp only [hz, if_true] at p
    refine ⟨by rw [d1.length]; exact hz, fun q hq => ?_⟩
    exact p θ2 _ _ (Fut.new hq) (r2.new hq) ⟨q, vs, rfl, SqT.of upd_same, DVs.later (Fut.new hq) _ _ d1⟩
  · simp only [hz, if_false] at p
    exact p.elim
theorem dx_lst (ha : DXA X i a cls dd c es fas) : DX X i a cls dd c (.List es pos) (fLst fas) := by
  obtain ⟨ta, pa, qa⟩ := ha
  refine ⟨_, pe_lst pa, fun θ σ ρ H S Q r sl hi hx h => xargs qa r sl hi hx h fun θ2 H2 S2 xs vs f r2 d1 p => ?_⟩
  by_cases hz : xs.length ≤ sizeLine
  · simp only [hz, if_true] at p
    refine ⟨by rw [d1.length]; exact hz, fun q hq => ?_⟩
    have f2 : Fut H2 θ2 (upd H2 q (.lst vs)) (θ2 ++ [q]) := Fut.newN hq
    exact p _ _ _ f2 (r2.newN hq ⟨vs, upd_same, DVs.later f2 _ _ d1⟩) ⟨q, rfl, by rw [← r2.len]; simp⟩
  · simp only [hz, if_false] at p
    exact p.elim
theorem dx_if (hc : DXT X i a cls dd c e ft) (ha : DX X i a cls dd c u fu) (hb : DX X i a cls dd c b fb) : DX X i a cls dd c (.IfExp e u b pos) (fIf ft fu fb) := by
  obtain ⟨tc, pc, qc⟩ := hc
  obtain ⟨ta, pa, qa⟩ := ha
  obtain ⟨tb, pb, qb⟩ := hb
  refine ⟨_, pe_ifExp pc pa pb, fun θ σ ρ H S Q r sl hi hx h => ?_⟩
  refine qc θ σ ρ H S _ r sl hi hx ?_
  unfold fIf at h
  cases ea : ft ρ S with
  | no => rw [ea] at h; exact h
  | ex c S' => rw [ea] at h; exact h
  | ok x S1 =>
    rw [ea] at h
    intro θ1 H1 f1 r1
    have h : PostV X.K X.w X.mg θ H (if x = true then fu ρ S1 else fb ρ S1) Q _ := h
    cases x with
    | false => rw [if_neg (by decide)] at h ⊢; exact qb θ1 σ ρ H1 S1 _ r1 (sl.later f1) hi (hx.later f1) (PostV.since f1 h)
    | true => rw [if_pos rfl] at h ⊢; exact qa θ1 σ ρ H1 S1 _ r1 (sl.later f1) hi (hx.later f1) (PostV.since f1 h)
end
/-- the field of the exception -/
def fField (c : Exc) (f : Str) : FE := fun _ S => match c.fs.lookup f with | some d => .ok d S | none => .no
theorem lookup_mem {α : Type} {f : Str} {d : α} : ∀ {l : List (Str × α)}, l.lookup f = some d → (f, d) ∈ l
  | [], h => by cases h
  | (g, z) :: l, h => by
    by_cases e : f = g
    · subst e
      have : z = d := by simpa [List.lookup] using h
      subst this
      exact List.mem_cons_self
    · have q : (f == g) = false := by simpa using e
      rw [List.lookup, q] at h
      exact List.mem_cons_of_mem _ (lookup_mem h)
/-- isinstance(e, y): what is told of each class -/
def fIsE (tst : Str → Option Bool) (c : Exc) : FE := fun _ S => match tst c.name with | some b => .ok (.bl b) S | none => .no
def fIsET (tst : Str → Option Bool) (c : Exc) : FT := fun _ S => match tst c.name with | some b => .ok b S | none => .no

/-! isinstance of an exception that has its dict -/
section
open PySem.W PySem.Spec PySem.Calls PyProof.Rows
theorem findObj_dataO {K : Frag} {C : Addr} {od : Option Obj} {name : Str} {a g : Value} (hc : (clsIn K C).isSome = true) (ha : findIn K (.ref C) name = some (some a)) (hg : specialIn K a "__get__" = some (some g)) (ht : takesIn K a = some true) : findObj K C od name = some (.bind g a) := by
  obtain ⟨cd, hc⟩ := Option.isSome_iff_exists.mp hc
  unfold findObj
  rw [hc, Option.bind_some, ha, Option.bind_some]
  simp [hg, ht]
theorem getCls_exc {prog : Program} {w : World} {A : Around} {E : Value → Shared → Prop} {s : Shared} {K : Frag} {x D : Addr} {ox : Obj} {od : Option Obj} {Q : Option Value → Shared → Prop} (T : ExcC K D)
    (X : K.In s.heap) (I : InstAt s.heap x ox D od) (h : Q (some (.ref D)) { s with toks := s.toks + 1 }) : wpAny (model prog w) A (getAttr? (.ref x) "__class__") Q E s := by
  obtain ⟨hga, hgt, hsub, hdct, ha, hn, htk, hm⟩ := T
  have hf : findObj K D od "__class__" = some (.bind (.builtin "getset_descriptor.__get__") (.builtin "object.__class__")) := findObj_dataO (by obtain ⟨cd, hc, _⟩ := any_some hdct; rw [hc]; rfl) ha hn htk
  obtain ⟨hp, g, d, t, os⟩ := s
  have L0 := I.type (M := model prog w)
  have L1 := looks_findIn (M := model prog w) X hga
  have L2 := looks_findIn (M := model prog w) X hgt
  have L3 := looks_find (M := model prog w) X I hf
  have sub : Looks (model prog w) hp (isInstance (.ref x) (.type "BaseException")) true := L0.andThen (looks_subIn X hsub)
  have hx0 : (false && onTheHeap (Value.builtin "BaseException.__getattribute__")) = false := rfl
  have hx2 : (Value.builtin "BaseException.__getattribute__" == Value.builtin "object.__getattribute__") = false := by decide +kernel
  have hx1 : (onTheHeap (Value.ref D) && Value.builtin "BaseException.__getattribute__" == Value.builtin "object.__getattribute__") = false := by rw [hx2]; rfl
  unfold getAttr? getAttrBy? getAttrBy
  refine wpAny_bind (wpAny_mkText (wpAny_bind (wpAny_attempt (wpAny_holding (wpAny_bind (L0.at (wpAny_bind (L1.at ?_))))))))
  show wpAny _ _ (if (onTheHeap (Value.ref D) && Value.builtin "BaseException.__getattribute__" == Value.builtin "object.__getattribute__") = true then _ else _) _ _ _
  rw [hx1, if_neg Bool.false_ne_true]
  unfold getAttrByItsOwn hookBefore
  refine wpAny_bind ?_
  rw [if_pos (show onTheHeap (Value.ref D) = true from rfl)]
  refine L2.at ?_
  refine wpAny_bind (wpAny_attempt (wpAny_holding ?_))
  unfold callGetattribute
  rw [hx0, if_neg Bool.false_ne_true]
  unfold boundAndCalled
  rw [PySem.F.excAttr_ValueError.ga.bind (.ref x)]
  refine wpAny_bind (wpAny_pure ?_)
  show wpAny _ _ (call (.builtin "BaseException.__getattribute__") [.ref x, .str "__class__" t]) _ _ _
  refine wpAny_call (codeAny_call_builtin PySem.F.excAttr_ValueError.ga.plain PySem.F.entry_bexc_ga ?_)
  refine @check_slot (model prog w) _ _ ⟨hp, g, d, t + 1, os⟩ "BaseException.__getattribute__" "BaseException" "__getattribute__" (.ref x) [.str "__class__" t] [] _ (by decide +kernel) (by decide +kernel) sub (PySem.F.args_bexc_ga (.ref x) (.str "__class__" t)) ?_
  unfold Builtin.«object.__getattribute__»
  refine wpAny_bind (wpAny_of_eq (a := ((Value.ref x : Value), [Value.str "__class__" t])) (by first | rfl | (simp only [slotArgs]; rfl)) ?_)
  refine wpAny_bind (wpAny_pure (wpAny_bind (L0.at (wpAny_bind (L3.at ?_)))))
  show wpAny _ _ (holding [Value.builtin "object.__class__"] (call (.builtin "getset_descriptor.__get__") [.builtin "object.__class__", .ref x, .ref D]) >>= ret) _ _ _
  refine wpAny_bind (wpAny_holding (wpAny_call (class_get (s := ⟨hp, g, d, t + 1, os⟩) (ox := ox) (od := od) X I hm ?_)))
  refine wpAny_pure ?_
  show wpAny _ _ (handedOut (.ref D)) _ _ _
  rw [handedOut_of (v := .ref D) rfl]
  first
    | exact wpAny_pure (wpAny_pure h)
    | exact wpAny_pure h
    | exact wpAny_pure (wpAny_bind (wpAny_pure (wpAny_pure h)))
theorem kitx_excO {K : Frag} {x D : Addr} {ox : Obj} {od : Option Obj} (T : ExcC K D) : KitX K (.ref x) (.ref D) (fun h => InstAt h x ox D od) where
  ty := fun _ _ _ I => I.type
  it := fun _ _ X _ => by
    obtain ⟨cdD, hcD, _⟩ := any_some T.hd
    unfold clsIn at hcD
    split at hcD
    · rename_i c' d' cd' sl' ho
      intro A' Q' E' s' k q
      unfold isType loadHead
      exact wpAny_bind (wpAny_loadPart (k _ _ (X _ _ ho)) (wpAny_pure q))
    · cases hcD
  ne := fun h tp dd its n sl X htp => by
    obtain ⟨cdD, hcD, _⟩ := any_some T.hd
    refine Bool.eq_false_iff.mpr fun q => ?_
    have e : D = tp := Value.ref.inj (beq_iff_eq.mp q)
    subst e
    unfold clsIn at hcD
    split at hcD
    · rename_i c' d' cd' sl' ho
      have z := (X _ _ ho).symm.trans htp
      cases z
    · cases hcD
  ca := fun X I k => getCls_exc T X I k
end
section
variable {X : Cx} {i : Nat} {a : Addr} {oe : Obj} {cls : Value} {dd : Option Addr} {c : Exc} {pn : List (Addr × Obj)} {n f y z : Str} {pos p p1 p2 p3 : Pos}
theorem dx_field (hi : X.N[i]? = some n) (hv : Vis X.env.scope n) (hz : Zc cls dd oe) (hf : ∃ vs, oe.data = .fields vs)
    (hT : ∀ C, X.mg c.name = some (.ref C) → XfC X.K C ∧ PySem.W.findIn X.K (.ref C) f = some none)
    (hdb : (n == ("__debug__" : Str)) = false := by decide) (hcd : (n == ("__classdict__" : Str)) = false := by decide) (hb : attributeBase (.Name n p) f X.env (eval (.Name n p) X.env) = eval (.Name n p) X.env := by rfl) :
    DX (X.suite a ((a, oe) :: pn)) i a cls dd c (.Attribute (.Name n p) f pos) (fField c f) := by
  by_cases hC : ∃ C, X.mg c.name = some (.ref C) ∧ cls = .ref C
  · obtain ⟨C, hm, rfl⟩ := hC
    obtain ⟨T, hno⟩ := hT C hm
    refine ⟨_, pe_xf T hno hz hf (pe_var (X := X.suite a ((a, oe) :: pn)) hi hv hdb hcd) hb, fun θ σ ρ H S Q r sl hσ hx h => ?_⟩
    unfold fField at h
    cases e : c.fs.lookup f with
    | none => rw [e] at h; exact h.elim
    | some d =>
      rw [e] at h
      obtain ⟨a', fs, v, e1, e2, e3, e4⟩ := hx.2.1 f d (lookup_mem e)
      exact ⟨_, hσ, rfl, rfl, a', fs, v, e1, e2, e3, h θ H v .refl r e4⟩
  · exact ⟨fun _ _ _ => False, ⟨fun _ _ _ _ _ _ h => h.elim⟩, fun θ σ ρ H S Q r sl hσ hx h => hC hx.1⟩
/-- isinstance(n, y) -/
theorem pt_isE {T : Addr} {dx : Addr} (hi : X.N[i]? = some n) (hv : Vis X.env.scope n) {C : Addr} (hz : Zc (.ref C) (some dx) oe) (hf : ∃ vs, oe.data = .fields vs) (TC : ExcC X.K C) (hb : Gl X "isinstance") (hbm : X.mg "isinstance" = none) (hg : Gl X y) (hm : X.mg y = some (.ref T)) {b : Bool} (hk : PySem.W.kitOne X.K (.ref C) (.ref T) = some b)
    (hdb : (n == ("__debug__" : Str)) = false := by decide) (hcd : (n == ("__classdict__" : Str)) = false := by decide) (hdy : (y == ("__debug__" : Str)) = false := by decide) :
    PE (X.suite a ((a, oe) :: pn)) (.Call (.Name "isinstance" p) [.Name n p1, .Name y p2] [] pos) (fun σ H Q => σ[i]? = some (some (.ref a)) ∧ (∃ fs, H dx = some (.xd fs)) ∧ Q (.bl b) H) := by
  have hc : CallR (X.suite a ((a, oe) :: pn)) (.builtin "isinstance") (fun xs H Q => xs = [.ref a, .ref T] ∧ (∃ fs, H dx = some (.xd fs)) ∧ Q (.bl b) H) := by
    intro pins s σ H xs us Q I r h
    obtain ⟨rfl, ⟨fs, hfs⟩, q⟩ := h
    cases r with
    | cons rx rr =>
      cases rr with
      | cons rt rr =>
        cases rr
        cases rx
        cases rt
        obtain ⟨hget, _⟩ := I.pin (a, oe) (List.mem_append.mpr (.inl List.mem_cons_self))
        obtain ⟨vs, hv⟩ := hf
        have hx : ObjOk X.prog X.w H s.heap dx (.xd fs) := I.hok dx _ hfs
        obtain ⟨mA, hns, hr⟩ := hx
        obtain ⟨od, ho, hl⟩ := lookIn_ns hns
        have J : PySem.W.InstAt s.heap a oe C (some od) := ⟨hget, hz.1, by unfold PySem.W.notCls; rw [hv] <;> rfl, by rw [hz.2]; exact ho⟩
        exact PySem.W.kia_one (kitx_excO TC) I.kIn J hk (fun z => nomatch z) fun tk => ⟨.bl b, H, I.kept (t' := tk) fun _ _ z => z, rfl, q⟩
  have hp := pe_callB (X := X.suite a ((a, oe) :: pn)) (x := "isinstance") (p := p) (pos := pos) hc hb hbm PyProof.Rows.Boot.«isinstance» (pa_cons (pe_var (X := X.suite a ((a, oe) :: pn)) (pos := p1) hi hv hdb hcd) (pa_cons (pe_glob (X := X.suite a ((a, oe) :: pn)) (v := .ref T) (pos := p2) hg hm rfl hdy) pa_nil))
  refine ⟨fun pins s σ H Q I h => hp.run pins s σ H Q I ?_⟩
  obtain ⟨h1, h2, h3⟩ := h
  exact ⟨_, h1, rfl, h2, h3⟩
end
end Y

namespace Y
open PySem L2
section
variable {X : Cx} {i : Nat} {a : Addr} {oe : Obj} {cls : Value} {dd : Option Addr} {c : Exc} {pn : List (Addr × Obj)} {n f y z : Str} {pos p p1 p2 p3 : Pos} {tst : Str → Option Bool}
/-- isinstance of exceptions, by name, against the class y -/
def IsTab (K : PySem.W.Frag) (mg : Str → Option Value) (y : Str) (tst : Str → Option Bool) : Prop := ∃ T, mg y = some (.ref T) ∧ ∀ n b C, tst n = some b → mg n = some (.ref C) → ExcC K C ∧ PySem.W.kitOne K (.ref C) (.ref T) = some b
theorem dx_isE (hT : IsTab X.K X.mg y tst) (hi : X.N[i]? = some n) (hv : Vis X.env.scope n) (hz : Zc cls dd oe) (hf : ∃ vs, oe.data = .fields vs) (hb : Gl X "isinstance") (hbm : X.mg "isinstance" = none) (hg : Gl X y)
    (hdb : (n == ("__debug__" : Str)) = false := by decide) (hcd : (n == ("__classdict__" : Str)) = false := by decide) (hdy : (y == ("__debug__" : Str)) = false := by decide) :
    DX (X.suite a ((a, oe) :: pn)) i a cls dd c (.Call (.Name "isinstance" p) [.Name n p1, .Name y p2] [] pos) (fIsE tst c) := by
  by_cases hC : ∃ C b, X.mg c.name = some (.ref C) ∧ cls = .ref C ∧ tst c.name = some b
  · obtain ⟨C, b, hm, rfl, ht⟩ := hC
    obtain ⟨T, hmT, hT⟩ := hT
    obtain ⟨TC, hk⟩ := hT _ _ _ ht hm
    cases dd with
    | some dx =>
      refine ⟨_, pt_isE hi hv hz hf TC hb hbm hg hmT hk hdb hcd hdy, fun θ σ ρ H S Q r sl hσ hx h => ?_⟩
      unfold fIsE at h
      rw [ht] at h
      exact ⟨hσ, hx.2.2 dx rfl, h θ H _ .refl r rfl⟩
    | none =>
      refine ⟨_, pe_callB (X := X.suite a ((a, oe) :: pn)) (x := "isinstance") (p := p) (pos := pos) (call_isE TC hz hf) hb hbm PyProof.Rows.Boot.«isinstance» (pa_cons (pe_var (X := X.suite a ((a, oe) :: pn)) (pos := p1) hi hv hdb hcd) (pa_cons (pe_glob (X := X.suite a ((a, oe) :: pn)) (v := .ref T) (pos := p2) hg hmT rfl hdy) pa_nil)), fun θ σ ρ H S Q r sl hσ hx h => ?_⟩
      unfold fIsE at h
      rw [ht] at h
      exact ⟨_, hσ, .ref T, .ref T, b, rfl, fun u hu => hu, hk, h θ H _ .refl r rfl⟩
  · exact ⟨fun _ _ _ => False, ⟨fun _ _ _ _ _ _ h => h.elim⟩, fun θ σ ρ H S Q r sl hσ hx h => by
      obtain ⟨C, hm, e⟩ := hx.1
      unfold fIsE at h
      cases ht : tst c.name with
      | none => rw [ht] at h; exact h
      | some b => exact hC ⟨C, b, hm, e, ht⟩⟩
/-- a value as a test -/
theorem dxt_tru {e : Expr} {fe : FE} (h : DX X i a cls dd c e fe) (he : ∀ whole, isTrue e X.env whole = (do let v ← whole; standAt e.pos; holding [v] (truthy v)) := by intro _; rfl) : DXT X i a cls dd c e (ftTru fe) := by
  obtain ⟨ta, pa, qa⟩ := h
  refine ⟨_, pt_truth pa he, fun θ σ ρ H S Q r sl hi hx h => ?_⟩
  refine qa θ σ ρ H S _ r sl hi hx ?_
  unfold ftTru at h
  cases ea : fe ρ S with
  | no => rw [ea] at h; exact h
  | ex c S' => rw [ea] at h; exact h
  | ok x S1 =>
    rw [ea] at h
    intro θ1 H1 v f1 r1 dv1
    have h : PostB X.K X.w X.mg θ H (truD x S1) Q _ := h
    cases et : truD x S1 with
    | no => rw [et] at h; exact h.elim
    | ex c S' => exact absurd et (truD_ne _ _)
    | ok k S' =>
      obtain ⟨rfl, t⟩ := truV_of r1 dv1 et
      rw [et] at h
      exact ⟨k, t, h θ1 H1 f1 r1⟩
end
/-! ### try -/
/-- the exceptions by name against the class that the clause names -/
def ExTab (K : PySem.W.Frag) (mg : Str → Option Value) (hc : Value) (tst : Str → Option Bool) : Prop := ∀ n b C, tst n = some b → mg n = some (.ref C) → PySem.W.exmOne K (.ref C) hc = some b
/-- try: .. except X as n: .. -/
def sTry (tst : Str → Option Bool) (i : Nat) (fb : FS) (fs : Exc → FS) : FS := fun ρ S => match fb ρ S with
  | .ex c ρ' S' => match tst c.name with
    | some true => if i < ρ'.length then match fs c (ρ'.set i none) S' with
      | .nx ρ2 S2 => .nx (ρ2.set i none) S2
      | .bk ρ2 S2 => .bk (ρ2.set i none) S2
      | .ct ρ2 S2 => .ct (ρ2.set i none) S2
      | .rt d S2 => .rt d S2
      | .ex _ _ _ => .no
      | .no => .no else .no
    | some false => .ex c ρ' S'
    | none => .no
  | .nx ρ' S' => .nx ρ' S'
  | .rt d S' => .rt d S'
  | .bk ρ' S' => .bk ρ' S'
  | .ct ρ' S' => .ct ρ' S'
  | .no => .no
/-- try: .. except X: .. -/
def sTry0 (tst : Str → Option Bool) (fb : FS) (fs : Exc → FS) : FS := fun ρ S => match fb ρ S with
  | .ex c ρ' S' => match tst c.name with
    | some true => match fs c ρ' S' with
      | .ex _ _ _ => .no
      | r => r
    | some false => .ex c ρ' S'
    | none => .no
  | r => r
/-- the suite at a caught exception -/
def DXSs (X : Cx) (i : Nat) (a : Addr) (cls : Value) (dd : Option Addr) (c : Exc) (s : List Stmt) (f : FS) : Prop := ∃ t, PSs X s t ∧ ∀ θ σ ρ H S D, Rl X.K X.w H θ S → SlV X.K H θ ρ σ → σ[i]? = some (some (.ref a)) → ExR X.K X.mg H θ c cls dd →
  PostS X.K X.w X.mg θ H (f ρ S) D WN → t D σ H
theorem dxs_ret {X : Cx} {i : Nat} {a : Addr} {cls : Value} {dd : Option Addr} {c : Exc} {e : Expr} {fe : FE} {pos : Pos} (h : DX X i a cls dd c e fe) : DXSs X i a cls dd c [.Return (some e) pos] (sRet fe) := by
  obtain ⟨ta, pa, qa⟩ := h
  refine ⟨_, pss_one (ps_ret pa), fun θ σ ρ H S D r sl hi hx h => ?_⟩
  refine qa θ σ ρ H S _ r sl hi hx ?_
  unfold sRet at h
  cases ea : fe ρ S with
  | no => rw [ea] at h; exact h
  | ex c S' => rw [ea] at h; exact fun θ' H' cls dd g r' x' => h θ' H' σ cls dd g r' (sl.later g) x'
  | ok x S1 => rw [ea] at h; exact h
theorem dxs_of {X : Cx} {i : Nat} {a : Addr} {cls : Value} {dd : Option Addr} {c : Exc} {s : List Stmt} {fs : FS} (h : DSs X WN s fs) : DXSs X i a cls dd c s fs := by
  obtain ⟨t, p, q⟩ := h
  exact ⟨t, p, fun θ σ ρ H S D r sl _ _ h => q θ σ ρ H S D r sl h⟩
theorem PSs.imp {X : Cx} {ss : List Stmt} {t t' : TS} (h : PSs X ss t) (q : ∀ D σ H, t' D σ H → t D σ H) : PSs X ss t' := ⟨fun pins s σ H D I x => h.run pins s σ H D I (q D σ H x)⟩
/-- what a body's end wishes, whatever the pins -/
def canS (K : PySem.W.Frag) (w : World) (mg : Str → Option Value) (fb : FS) (W : WX) : TS := fun D σ H => ∃ θ ρ S, Rl K w H θ S ∧ SlV K H θ ρ σ ∧ PostS K w mg θ H (fb ρ S) D W
def canX (K : PySem.W.Frag) (w : World) (mg : Str → Option Value) (i : Nat) (fs : Exc → FS) (tst : Str → Option Bool) (a : Addr) (cls : Value) (dd : Option Addr) : TS := fun D σ H => ∃ c θ ρ S, tst c.name = some true ∧ Rl K w H θ S ∧ SlV K H θ ρ σ ∧ σ[i]? = some (some (.ref a)) ∧ ExR K mg H θ c cls dd ∧ PostS K w mg θ H (fs c ρ S) D WN
section
variable {X : Cx} {W : WX} {x n : Str} {hc : Value} {i : Nat} {body suite : List Stmt} {b₀ : Stmt} {np pos pos' : Pos} {fb : FS} {fs : Exc → FS} {tst : Str → Option Bool}
theorem ds_try (hs : X.stack = X.env :: X.outer) (hf : X.env.frame = some X.env.locals) (hN : X.N.Nodup) (hi : X.N[i]? = some n) (hln : X.env.kindOf n = some .local) (hn : Names X x hc) (tk : Takes X W) (hT : ExTab X.K X.mg hc tst)
    (hb : ∀ (W : WX) (pn : List (Addr × Obj)) (xe : Value → Shared → Prop), Takes (X.tr pn xe) W → PassesOwn (model X.prog X.w) X.A X.env xe → DSs (X.tr pn xe) W body fb)
    (hsu : ∀ (a : Addr) (oe : Obj) (cls : Value) (dd : Option Addr) (pn : List (Addr × Obj)) (c : Exc), Zc cls dd oe → (∃ vs, oe.data = .fields vs) → tst c.name = some true → DXSs (X.suite a ((a, oe) :: pn)) i a cls dd c (b₀ :: suite) (fs c)) :
    DS X W (.Try body [.ExceptHandler (some (.Name x np)) (some n) (b₀ :: suite) pos'] [] [] pos) (sTry tst i fb fs) := by
  refine ⟨_, ps_try_as (tb := canS X.K X.w X.mg fb) (ts := canX X.K X.w X.mg i fs tst) hs hf hN hi hln hn tk (fun W' pn xe tk' po => ?_) (fun a oe cls dd pn hz hf' => ?_), fun θ σ ρ H S D r sl h => ⟨θ, ρ, S, r, sl, ?_⟩⟩
  · obtain ⟨t, p, q⟩ := hb W' pn xe tk' po
    exact PSs.imp p fun D σ H ⟨θ, ρ, S, r, sl, z⟩ => q θ σ ρ H S D r sl z
  · refine ⟨fun pins s σ H D I ⟨c, θ, ρ, S, ht, r, sl, hσ, hx, z⟩ => ?_⟩
    obtain ⟨t, p, q⟩ := hsu a oe cls dd pn c hz hf' ht
    exact p.run pins s σ H D I (q θ σ ρ H S D r sl hσ hx z)
  · unfold sTry at h
    cases e : fb ρ S with
    | nx ρ' S' => rw [e] at h; exact h
    | rt d S' => rw [e] at h; exact h
    | bk ρ' S' => rw [e] at h; exact h
    | ct ρ' S' => rw [e] at h; exact h
    | no => rw [e] at h; exact h
    | ex c ρ' S' =>
      rw [e] at h
      intro θ1 H1 σ1 cls dd f1 r1 sl1 x1
      obtain ⟨C, hm, rfl⟩ := x1.1
      dsimp only at h
      cases ht : tst c.name with
      | none => rw [ht] at h; exact h.elim
      | some b =>
        rw [ht] at h
        refine ⟨b, hT _ _ _ ht hm, fun hb' a ha => ?_, fun hb' => ?_⟩
        · subst hb'
          dsimp only at h
          by_cases hl : i < ρ'.length
          · rw [if_pos hl] at h
            have hl2 : i < σ1.length := by rw [sl1.1]; exact hl
            refine ⟨c, θ1, ρ'.set i none, S', ht, r1, sl1.unset i _, by rw [List.getElem?_set_self hl2], x1, ?_⟩
            cases e2 : fs c (ρ'.set i none) S' with
            | nx ρ2 S2 => rw [e2] at h; exact fun θ' H' σ' f r' s' => h θ' H' _ (f1.trans f) r' (s'.unset i none)
            | bk ρ2 S2 => rw [e2] at h; exact fun θ' H' σ' f r' s' => h θ' H' _ (f1.trans f) r' (s'.unset i none)
            | ct ρ2 S2 => rw [e2] at h; exact fun θ' H' σ' f r' s' => h θ' H' _ (f1.trans f) r' (s'.unset i none)
            | rt d S2 => rw [e2] at h; exact fun θ' H' v f r' dv => h θ' H' v (f1.trans f) r' dv
            | ex c2 ρ2 S2 => rw [e2] at h; exact h.elim
            | no => rw [e2] at h; exact h.elim
          · rw [if_neg hl] at h; exact h.elim
        · subst hb'
          exact h θ1 H1 σ1 _ dd f1 r1 sl1 x1
end
end Y

set_option Elab.async false
set_option linter.all false
set_option maxRecDepth 100000
set_option maxHeartbeats 2000000
/-! YOrd: order of data, membership, sorted. -/
namespace Y
open PySem L2
/-! ### the order of data -/
mutual
def cmpP : PyData → PyData → Ordering
  | .bool a, .bool b => compare (PyProof.Rows.b2i a) (PyProof.Rows.b2i b)
  | .int a, .int b => compare a b
  | .str x, .str y => if x.cps.toList < y.cps.toList then .lt else if y.cps.toList < x.cps.toList then .gt else .eq
  | .tuple xs, .tuple ys => cmpPs xs ys
  | _, _ => .eq
def cmpPs : List PyData → List PyData → Ordering
  | [], [] => .eq
  | [], _ :: _ => .lt
  | _ :: _, [] => .gt
  | x :: xs, y :: ys => if PyData.eqv x y = true then cmpPs xs ys else cmpP x y
end
/-- an order sign's word -/
structure OrdW (op : CmpOp) (B : Ordering → Bool) : Prop where
  int : ∀ A s a b t u, Ob.RcOp op A s (.int a t) (.int b u) (B (compare a b))
  bool : ∀ A s a b, Ob.RcOp op A s (.bool a) (.bool b) (B (compare (PyProof.Rows.b2i a) (PyProof.Rows.b2i b)))
  str : ∀ A s (x y : Str) t u, Ob.RcOp op A s (.str x t) (.str y u) (B (if x.cps.toList < y.cps.toList then .lt else if y.cps.toList < x.cps.toList then .gt else .eq))
  tup : ∀ (A : Around) (s : Shared) (l b : Addr) (items items2 : Array Value) (e r : Nat → Bool), s.heap.IsTuple l items → s.heap.IsTuple b items2 → A.units < cLine →
    (∀ j (h1 : j < items.size) (h2 : j < items2.size), SeqAt.EqAt A.in1 s items[j] items2[j] (e j)) →
    (∀ j (h1 : j < items.size) (h2 : j < items2.size), e j = false → Ob.RcOp op A.in1 s items[j] items2[j] (r j)) →
    Ob.RcOp op A s (.ref l) (.ref b) (Ob.lexAt e r (B (compare items.size items2.size)) 0 (min items.size items2.size))
theorem lexAt_eq {B : Ordering → Bool} : ∀ (xs ys : List PyData) (e r : Nat → Bool) (i : Nat), (∀ j x y, xs[j]? = some x → ys[j]? = some y → e (i + j) = PyData.eqv x y ∧ r (i + j) = B (cmpP x y)) →
    Ob.lexAt e r (B (compare xs.length ys.length)) i (min xs.length ys.length) = B (cmpPs xs ys)
  | [], [], e, r, i, h => by simp [Ob.lexAt, cmpPs]
  | [], y :: ys, e, r, i, h => by simp [Ob.lexAt, cmpPs, compare, compareOfLessAndEq]
  | x :: xs, [], e, r, i, h => by simp [Ob.lexAt, cmpPs, compare, compareOfLessAndEq]
  | x :: xs, y :: ys, e, r, i, h => by
    have h0 := h 0 x y rfl rfl
    have ih := lexAt_eq (B := B) xs ys e r (i + 1) (fun j a b ha hb => by
      have := h (j + 1) a b (by simpa using ha) (by simpa using hb)
      rw [show i + 1 + j = i + (j + 1) by omega]; exact this)
    have hc : compare (x :: xs).length (y :: ys).length = compare xs.length ys.length := by
      simp [compare, compareOfLessAndEq]
    have hm : min (x :: xs).length (y :: ys).length = min xs.length ys.length + 1 := by simp [Nat.succ_min_succ]
    rw [hc, hm, Ob.lexAt_succ, cmpPs, show i = i + 0 from rfl, h0.1, h0.2]
    by_cases q : PyData.eqv x y = true
    · rw [if_pos q, if_pos q]; exact ih
    · rw [if_neg q, if_neg q]
mutual
/-- comparable, place by place: no list, no dict -/
def ordable : PyData → PyData → Bool
  | .bool _, .bool _ => true
  | .int _, .int _ => true
  | .str _, .str _ => true
  | .tuple xs, .tuple ys => ordables xs ys
  | _, _ => false
def ordables : List PyData → List PyData → Bool
  | x :: xs, y :: ys => (PyData.eqv x y || ordable x y) && ordables xs ys
  | _, _ => true
end
section
variable {op : CmpOp} {B : Ordering → Bool}
theorem pairEq_get : ∀ (xs ys : List PyData) (j : Nat) (x y : PyData), xs[j]? = some x → ys[j]? = some y → SeqAt.pairEq xs ys j = PyData.eqv x y
  | [], _, j, x, y, h, _ => by simp at h
  | _ :: _, [], j, x, y, _, h => by simp at h
  | a :: as, b :: bs, 0, x, y, h1, h2 => by
    have e1 : a = x := by simpa using h1
    have e2 : b = y := by simpa using h2
    subst e1 e2; rfl
  | a :: as, b :: bs, j + 1, x, y, h1, h2 => pairEq_get as bs j x y (by simpa using h1) (by simpa using h2)
mutual
theorem rcOp_of (W : OrdW op B) : ∀ (da db : PyData) (A : Around) (s : Shared) (a b : Value) (as bs : List Addr), Reads s.heap a da as → Reads s.heap b db bs → ordable da db = true → da.canLay0 = true → db.canLay0 = true → A.units + min da.depth db.depth < cLine → Ob.RcOp op A s a b (B (cmpP da db))
  | .bool x, db, A, s, a, b, as, bs, ra, rb, h, _, _, _ => by
    cases db <;> first | exact absurd (show false = true from h) (by decide) | skip
    cases ra; cases rb
    exact W.bool A s _ _
  | .int x, db, A, s, a, b, as, bs, ra, rb, h, _, _, _ => by
    cases db <;> first | exact absurd (show false = true from h) (by decide) | skip
    cases ra; cases rb
    exact W.int A s _ _ _ _
  | .str x, db, A, s, a, b, as, bs, ra, rb, h, _, _, _ => by
    cases db <;> first | exact absurd (show false = true from h) (by decide) | skip
    cases ra; cases rb
    exact W.str A s _ _ _ _
  | .tuple xs, db, A, s, a, b, as, bs, ra, rb, h, la, lb, hu => by
    cases db <;> first | exact absurd (show false = true from h) (by decide) | skip
    rename_i ys
    have h : ordables xs ys = true := h
    have la : PyData.canLayAll0 xs = true := la
    have lb : PyData.canLayAll0 ys = true := lb
    cases ra with
    | @tuple l o vs n _ as₁ h1 h2 h3 h4 =>
      cases rb with
      | @tuple l' o' vs' n' _ bs₁ k1 k2 k3 k4 =>
        have n1 : vs.size = xs.length := by simpa using SeqAt.ReadsAll.length _ _ _ h4
        have n2 : vs'.size = ys.length := by simpa using SeqAt.ReadsAll.length _ _ _ k4
        have z := W.tup A s l l' vs vs' (fun j => SeqAt.pairEq xs ys j) (fun j => B (cmpP (xs.getD j .none) (ys.getD j .none))) ⟨_, h1, h2, _, h3⟩ ⟨_, k1, k2, _, k3⟩ (SeqAt.room_here hu) (fun j j1 j2 => by
          have := SeqAt.eqAt_readsAll xs ys A.in1 s vs.toList vs'.toList _ _ h4 k4 la lb (SeqAt.room_in hu) j (by simpa using j1) (by simpa using j2)
          simpa using this) (fun j j1 j2 hj => by
          have := rcOp_all W xs ys A.in1 s vs.toList vs'.toList _ _ h4 k4 h la lb (SeqAt.room_in hu) j (by simpa using j1) (by simpa using j2) hj
          simpa using this)
        rw [n1, n2] at z
        rw [show cmpP (.tuple xs) (.tuple ys) = cmpPs xs ys from rfl, ← lexAt_eq (B := B) xs ys (fun j => SeqAt.pairEq xs ys j) (fun j => B (cmpP (xs.getD j .none) (ys.getD j .none))) 0 (fun j x y hx hy => ?_)]
        · exact z
        · rw [Nat.zero_add]
          exact ⟨pairEq_get xs ys j x y hx hy, by simp [List.getD, hx, hy]⟩
  | .none, db, A, s, a, b, as, bs, ra, rb, h, _, _, _ => absurd h (by cases db <;> simp [ordable])
  | .list _, db, A, s, a, b, as, bs, ra, rb, h, _, _, _ => absurd h (by cases db <;> simp [ordable])
  | .dict _, db, A, s, a, b, as, bs, ra, rb, h, _, _, _ => absurd h (by cases db <;> simp [ordable])
/-- the first place that differs -/
theorem rcOp_all (W : OrdW op B) : ∀ (xs ys : List PyData) (A : Around) (s : Shared) (vs ws : List Value) (as bs : List Addr), ReadsAll s.heap vs xs as → ReadsAll s.heap ws ys bs → ordables xs ys = true → PyData.canLayAll0 xs = true → PyData.canLayAll0 ys = true →
    A.units + min (PyData.depthAll xs) (PyData.depthAll ys) < cLine → ∀ j (h1 : j < vs.length) (h2 : j < ws.length), SeqAt.pairEq xs ys j = false → Ob.RcOp op A s vs[j] ws[j] (B (cmpP (xs.getD j .none) (ys.getD j .none)))
  | [], _, _, _, _, _, _, _, ra, _, _, _, _, _, j, h1, _, _ => by cases ra; exact absurd h1 (Nat.not_lt_zero _)
  | _ :: _, [], _, _, _, _, _, _, _, rb, _, _, _, _, j, _, h2, _ => by cases rb; exact absurd h2 (Nat.not_lt_zero _)
  | x :: xs, y :: ys, A, s, _, _, _, _, ra, rb, h, la, lb, hu, j, h1, h2, hj => by
    have la : x.canLay0 = true ∧ PyData.canLayAll0 xs = true := by simpa [PyData.canLayAll0] using la
    have lb : y.canLay0 = true ∧ PyData.canLayAll0 ys = true := by simpa [PyData.canLayAll0] using lb
    cases ra with
    | cons r rs =>
      cases rb with
      | cons r' rs' =>
        cases j with
        | zero =>
          have e : PyData.eqv x y = false := hj
          rw [ordables, e, Bool.false_or, Bool.and_eq_true] at h
          exact rcOp_of W x y A s _ _ _ _ r r' h.1 la.1 lb.1 (SeqAt.room_head hu)
        | succ j =>
          rw [ordables, Bool.and_eq_true] at h
          exact rcOp_all W xs ys A s _ _ _ _ rs rs' h.2 la.2 lb.2 (SeqAt.room_tail hu) j (Nat.lt_of_succ_lt_succ h1) (Nat.lt_of_succ_lt_succ h2) hj
end
end

/-! the four signs -/
theorem B_lt {i j : Int} : ((compare i j) == Ordering.lt) = decide (i < j) := by
  rw [Bool.eq_iff_iff]; simp [Int.compare_eq_lt]
theorem ordW_lt : OrdW .Lt (fun o => o == .lt) where
  int := fun A s a b t u => by
    have e : ((compare a b) == Ordering.lt) = decide (a < b) := by rw [Bool.eq_iff_iff]; simp [Int.compare_eq_lt]
    rw [e]; exact Ob.RcOp.lt_int a b t u
  bool := fun A s a b => by
    cases a <;> cases b <;> exact fun _ _ _ _ h => PyProof.Rows.lt_bool h
  str := fun A s x y t u => by
    have e : ((if x.cps.toList < y.cps.toList then Ordering.lt else if y.cps.toList < x.cps.toList then .gt else .eq) == Ordering.lt) = decide (x.cps.toList < y.cps.toList) := by
      by_cases h : x.cps.toList < y.cps.toList
      · simp [h]
      · by_cases h2 : y.cps.toList < x.cps.toList <;> simp [h, h2]
    rw [e]; exact fun _ _ _ _ h => PySem.P.lt_str h
  tup := fun A s l b items items2 e r h1 h2 hu he hr => by
    have q : ((compare items.size items2.size) == Ordering.lt) = decide (items.size < items2.size) := by rw [Bool.eq_iff_iff]; simp [Nat.compare_eq_lt]
    rw [q]; exact Ob.RcOp.tuples_lt h1 h2 hu he hr
theorem ordW_gt : OrdW .Gt (fun o => o == .gt) where
  int := fun A s a b t u => by
    have e : ((compare a b) == Ordering.gt) = decide (b < a) := by rw [Bool.eq_iff_iff]; simp [Int.compare_eq_gt]
    rw [e]; exact Ob.RcOp.gt_int a b t u
  bool := fun A s a b => by
    cases a <;> cases b <;> exact fun _ _ _ _ h => PyProof.Rows.gt_bool h
  str := fun A s x y t u => by
    have e : ((if x.cps.toList < y.cps.toList then Ordering.lt else if y.cps.toList < x.cps.toList then .gt else .eq) == Ordering.gt) = decide (y.cps.toList < x.cps.toList) := by
      by_cases h : x.cps.toList < y.cps.toList
      · have h3 : ¬ y.cps.toList < x.cps.toList := List.lt_asymm h
        simp [h, h3]
      · by_cases h2 : y.cps.toList < x.cps.toList <;> simp [h, h2]
    rw [e]; exact fun _ _ _ _ h => PySem.P.gt_str h
  tup := fun A s l b items items2 e r h1 h2 hu he hr => by
    have q : ((compare items.size items2.size) == Ordering.gt) = decide (items.size > items2.size) := by rw [Bool.eq_iff_iff]; simp [Nat.compare_eq_gt]
    rw [q]; exact Ob.RcOp.tuples_gt h1 h2 hu he hr
theorem ordW_le : OrdW .LtE (fun o => o != .gt) where
  int := fun A s a b t u => by
    have e : ((compare a b) != Ordering.gt) = decide (a ≤ b) := by rw [Bool.eq_iff_iff]; simp [Int.compare_eq_gt]
    rw [e]; exact Ob.RcOp.le_int a b t u
  bool := fun A s a b => by
    cases a <;> cases b <;> exact fun _ _ _ _ h => PyProof.Rows.le_bool h
  str := fun A s x y t u => by
    have e : ((if x.cps.toList < y.cps.toList then Ordering.lt else if y.cps.toList < x.cps.toList then .gt else .eq) != Ordering.gt) = !decide (y.cps.toList < x.cps.toList) := by
      by_cases h : x.cps.toList < y.cps.toList
      · have h3 : ¬ y.cps.toList < x.cps.toList := List.lt_asymm h
        simp [h, h3]
      · by_cases h2 : y.cps.toList < x.cps.toList <;> simp [h, h2]
    rw [e]; exact fun _ _ _ _ h => PySem.P.le_str h
  tup := fun A s l b items items2 e r h1 h2 hu he hr => by
    have q : ((compare items.size items2.size) != Ordering.gt) = decide (items.size ≤ items2.size) := by rw [Bool.eq_iff_iff]; simp [Nat.compare_eq_gt]
    rw [q]; exact Ob.RcOp.tuples_le h1 h2 hu he hr
theorem ordW_ge : OrdW .GtE (fun o => o != .lt) where
  int := fun A s a b t u => by
    have e : ((compare a b) != Ordering.lt) = decide (b ≤ a) := by rw [Bool.eq_iff_iff]; simp [Int.compare_eq_lt]
    rw [e]; exact Ob.RcOp.ge_int a b t u
  bool := fun A s a b => by
    cases a <;> cases b <;> exact fun _ _ _ _ h => PyProof.Rows.ge_bool h
  str := fun A s x y t u => by
    have e : ((if x.cps.toList < y.cps.toList then Ordering.lt else if y.cps.toList < x.cps.toList then .gt else .eq) != Ordering.lt) = !decide (x.cps.toList < y.cps.toList) := by
      by_cases h : x.cps.toList < y.cps.toList
      · simp [h]
      · by_cases h2 : y.cps.toList < x.cps.toList <;> simp [h, h2]
    rw [e]; exact fun _ _ _ _ h => PySem.P.ge_str h
  tup := fun A s l b items items2 e r h1 h2 hu he hr => by
    have q : ((compare items.size items2.size) != Ordering.lt) = decide (items.size ≥ items2.size) := by rw [Bool.eq_iff_iff]; simp [Nat.compare_eq_lt]
    rw [q]; exact Ob.RcOp.tuples_ge h1 h2 hu he hr
/-! the signs on data -/
def dOrd (p : Int → Int → Bool) (B : Ordering → Bool) : OpF := fun x y S => match x, y with
  | .int i, .int j => .ok (.bl (p i j)) S
  | x, y => match pyN S x, pyN S y with
    | some a, some b => if ordable a b = true ∧ SeqAt.shaped a = true ∧ SeqAt.shaped b = true then .ok (.bl (B (cmpP a b))) S else .no
    | _, _ => .no
section
variable {X : Cx} {op : CmpOp} {B : Ordering → Bool} {p : Int → Int → Bool}
def rOrd (K : PySem.W.Frag) (B : Ordering → Bool) : R2 := fun x y H Q => ∃ d e, Dp K H x d ∧ Dp K H y e ∧ ordable d e = true ∧ SeqAt.shaped d = true ∧ SeqAt.shaped e = true ∧ Q (.bl (B (cmpP d e))) H
theorem op_ord (W : OrdW op B) (hu : X.A.units + 64 < cLine) (hc : ∀ {x y : Value} {Q : Value → Shared → Prop} {E : Value → Shared → Prop} {s : Shared}, wpAny (model X.prog X.w) X.A (richCompare op x y) Q E s → wpAny (model X.prog X.w) X.A (compareOp op x y) Q E s) : OpR X (compareOp op) (rOrd X.K B) := by
  intro pins s σ H x y v u Q I rx ry h
  obtain ⟨d, e, hd, he, ho, sd, se, q⟩ := h
  obtain ⟨as, r1⟩ := Dp.reads I d x v hd rx
  obtain ⟨bs, r2⟩ := Dp.reads I e y u he ry
  have hz := SeqAt.depth_of_shaped sd
  exact hc (rcOp_of W d e X.A s v u as bs r1 r2 ho (SeqAt.canLay_of_shaped sd) (SeqAt.canLay_of_shaped se) (by omega) X.prog X.w X.xe _ ⟨.bl _, H, I, rfl, q⟩)
theorem od_ord (hp : ∀ i j, p i j = B (compare i j)) : OpD X (rOrd X.K B) (dOrd p B) := by
  intro θ H S x y v w Q E r d1 d2 h
  have key : ∀ a b, pyN S x = some a → pyN S y = some b → ordable a b = true → SeqAt.shaped a = true → SeqAt.shaped b = true → Q (.bl (B (cmpP a b))) H → rOrd X.K B v w H Q := fun a b e1 e2 ho s1 s2 q =>
    ⟨a, b, dp_of r d1 e1, dp_of r d2 e2, ho, s1, s2, q⟩
  have gen : PostV X.K X.w X.mg θ H (match pyN S x, pyN S y with
    | some a, some b => if ordable a b = true ∧ SeqAt.shaped a = true ∧ SeqAt.shaped b = true then R.ok (.bl (B (cmpP a b))) S else .no
    | _, _ => .no) Q E → rOrd X.K B v w H Q := fun h => by
    cases e1 : pyN S x with
    | none => rw [e1] at h; exact h.elim
    | some a =>
      cases e2 : pyN S y with
      | none => rw [e1, e2] at h; exact h.elim
      | some b =>
        rw [e1, e2] at h
        dsimp only at h
        by_cases hz : ordable a b = true ∧ SeqAt.shaped a = true ∧ SeqAt.shaped b = true
        · rw [if_pos hz] at h
          exact key a b e1 e2 hz.1 hz.2.1 hz.2.2 (h θ H _ .refl r rfl)
        · rw [if_neg hz] at h; exact h.elim
  unfold dOrd at h
  split at h
  · rename_i i j
    rw [hp] at h
    exact key (.int i) (.int j) rfl rfl rfl rfl rfl (h θ H _ .refl r rfl)
  · exact gen h
theorem cd_ltG (hu : X.A.units + 64 < cLine) : CmpD X .Lt (dOrd (fun i j => decide (i < j)) (fun o => o == .lt)) := ⟨_, op_ord ordW_lt hu (fun h => h), od_ord fun i j => by rw [Bool.eq_iff_iff]; simp [Int.compare_eq_lt]⟩
theorem cd_gtG (hu : X.A.units + 64 < cLine) : CmpD X .Gt (dOrd (fun i j => decide (j < i)) (fun o => o == .gt)) := ⟨_, op_ord ordW_gt hu (fun h => h), od_ord fun i j => by rw [Bool.eq_iff_iff]; simp [Int.compare_eq_gt]⟩
theorem cd_leG (hu : X.A.units + 64 < cLine) : CmpD X .LtE (dOrd (fun i j => decide (i ≤ j)) (fun o => o != .gt)) := ⟨_, op_ord ordW_le hu (fun h => h), od_ord fun i j => by rw [Bool.eq_iff_iff]; simp [Int.compare_eq_gt]⟩
theorem cd_geG (hu : X.A.units + 64 < cLine) : CmpD X .GtE (dOrd (fun i j => decide (j ≤ i)) (fun o => o != .lt)) := ⟨_, op_ord ordW_ge hu (fun h => h), od_ord fun i j => by rw [Bool.eq_iff_iff]; simp [Int.compare_eq_lt]⟩
end
end Y

set_option Elab.async false
set_option linter.all false
set_option maxRecDepth 100000
set_option maxHeartbeats 2000000
/-! YSort: sorted of data, membership. -/
namespace Y
open PySem L2
section
open PySem.W PySem.Calls PyProof.Rows
variable {prog : Program} {w : World} {A : Around} {E : Value → Shared → Prop} {s : Shared}
theorem collect_tuple {l : Addr} {vs : List Value} {Q : List Value → Shared → Prop} (hl : s.heap.IsTuple l vs.toArray)
    (h : Q vs { s with heap := (s.heap.push (seqObj "list" #[] 0)).update s.heap.objs.size (Obj.mapSeq (· ++ vs.toArray)) }) (hsz : vs.length ≤ sizeLine) :
    wpAny (model prog w) A (collect (.ref l)) Q E s := by
  obtain ⟨o, ho, hc, n, hd⟩ := id hl
  unfold collect
  refine wpAny_bind (wpAny_runValue (codeAny_builtin entry_proto_collect' ?_))
  show wpAny _ _ (do again (.builtin "list.__iadd__" ⟨[← newList [], .ref l], []⟩)) _ _ s
  refine wpAny_bind (wpAny_newList (wpAny_pure ⟨Code.quiet_builtin _ (by decide +kernel), codeAny_builtin entry_list_iadd' ?_⟩))
  show wpAny _ _ (Builtin.List.listExtendWith (.ref s.heap.objs.size) (.ref l) (.ref s.heap.objs.size)) _ _ { s with heap := s.heap.push (seqObj "list" #[] 0) }
  unfold Builtin.List.listExtendWith
  have ho' : (s.heap.push (seqObj "list" #[] 0)).get? l = some o := Heap.get?_push_of_some _ ho
  refine wpAny_bind (wpAny_typeOf (T := "tuple") ⟨o, ho', hc⟩ ?_)
  rw [if_pos (by rw [show (Value.type "tuple" == Value.type "tuple") = true from by decide]; simp)]
  refine wpAny_bind (listItems_at ho' hd ?_)
  refine wpAny_bind (listItems_at (xs := #[]) (n := 0) (Heap.get?_push_size _ rfl) rfl ?_)
  rw [if_neg (by simp)]
  refine wpAny_bind (listUpdate_at (xs := #[]) (n := 0) (Heap.get?_push_size _ rfl) rfl ?_ (Nat.zero_le _) (by show (#[] ++ vs.toArray).size ≤ sizeLine + 1; simp only [Array.size_append, List.size_toArray, List.length_nil]; omega))
  refine wpAny_pure ?_
  show wpAny (model prog w) A (do
      let o ← load s.heap.objs.size
      match o.data with
      | .seq xs _ => pure xs.toList
      | _ => unsupported "internal:collect") Q E { s with heap := (s.heap.push (seqObj "list" #[] 0)).update s.heap.objs.size (Obj.mapSeq (· ++ vs.toArray)) }
  refine wpAny_bind (wpAny_load (get?_update_seq (Heap.get?_push_size _ rfl) _) ?_)
  show wpAny _ _ (pure ((#[] : Array Value) ++ vs.toArray).toList) Q E _
  rw [show ((#[] : Array Value) ++ vs.toArray).toList = vs by simp]
  exact wpAny_pure h
/-- sorted(xs), however xs is gathered -/
theorem sorted_from {l : Addr} {vs : List Value} {Q : Value → Shared → Prop} {R : Value → D → Prop} {bs : List D} {enc : D → PyData}
    (hcol : ∀ {Q' : List Value → Shared → Prop}, Q' vs { s with heap := (s.heap.push (seqObj "list" #[] 0)).update s.heap.objs.size (Obj.mapSeq (· ++ vs.toArray)) } → wpAny (model prog w) A.in1 (collect (.ref l)) Q' E s)
    (e : EachIs R vs bs) (er : EachIs (fun v b => ∃ as, Reads s.heap v (enc b) as) vs bs) (hal : AllAlike (bs.map enc)) (hk : Sortable (bs.map enc)) (hL : bs.length ≤ sizeLine)
    (hu : ∀ b, b ∈ bs → A.units + 2 + (enc b).depth < cLine) (h : ∀ out, out.length = bs.length → EachIs R out (bs.mergeSort (dataLe false enc)) → Q (.ref (s.heap.objs.size + 1)) { s with heap := sortedAll s.heap vs (List.toArray out) }) :
    wpAny (model prog w) A (call (.builtin "sorted") [.ref l]) Q E s := by
  have hL' : vs.length ≤ sizeLine := by rw [e.length]; exact hL
  have er' : EachIs (fun v b => ∃ as, Reads (sortingHeap (copyHeap s.heap vs) (s.heap.objs.size + 1) vs) v (enc b) as) vs bs := er.mono fun _ _ ⟨as, r⟩ => ⟨as, PyProof.Rows.Reads.keeps (fun _ _ => sorting_copy_old) r⟩
  have S : SortsAt prog w A.in1.in1 { s with heap := sortingHeap (copyHeap s.heap vs) (s.heap.objs.size + 1) vs } (dataKind (sortingHeap (copyHeap s.heap vs) (s.heap.objs.size + 1) vs) (bs.map enc)) vs :=
    SortsAt.data (s := { s with heap := sortingHeap (copyHeap s.heap vs) (s.heap.objs.size + 1) vs }) (each_map (R := fun v d => ∃ as, Reads (sortingHeap (copyHeap s.heap vs) (s.heap.objs.size + 1) vs) v d as) enc er') hal hk (bound_map hu)
  have hq := h _ (by rw [sortVals_length false rfl]; exact e.length) (sortVals_data false e er' hal)
  refine call_function_entry kind_sorted plain_sorted entry_sorted (args_sorted1 _) ?_
  unfold Builtin.«sorted»
  refine wpAny_bind (m := checkCount "sorted" 1 1 _) (wpAny_pure ?_)
  refine wpAny_bind (hcol ?_)
  refine wpAny_bind (wpAny_newList ?_ hL')
  have hsz : ((s.heap.push (seqObj "list" #[] 0)).update s.heap.objs.size (Obj.mapSeq (· ++ vs.toArray))).objs.size = s.heap.objs.size + 1 := by
    rw [Heap.size_update, size_push']
  show wpAny _ _ _ _ _ { s with heap := copyHeap s.heap vs }
  rw [hsz]
  refine wpAny_bind (wpAny_holding (wpAny_call_entry_kw slot_list_sort ⟨_, copyHeap_at s.heap vs, rfl⟩ entry_list_sort ?body (args_list_sort _)))
  case body =>
    show wpAny (model prog w) A.in1.in1 (Builtin.«list.sort» ⟨[.ref (s.heap.objs.size + 1)], []⟩) _ _ _
    refine wpAny_mono (Q := fun f s' => f = .done (.ret .none) ∧ Q (.ref (s.heap.objs.size + 1)) s') (E := E) (list_sort_vals (s := { s with heap := copyHeap s.heap vs }) (copyHeap_at s.heap vs) S hL' ⟨rfl, hq⟩) (fun f s' hf => ?_) fun _ _ e => e
    obtain ⟨rfl, hq⟩ := hf
    exact ⟨_, rfl, wpAny_pure ⟨_, rfl, hq⟩⟩
end

/-! ### insertion -/
def ins {α : Type} (le : α → α → Bool) (x : α) : List α → List α
  | [] => [x]
  | y :: ys => if le x y = true then x :: y :: ys else y :: ins le x ys
def isort {α : Type} (le : α → α → Bool) : List α → List α
  | [] => []
  | x :: xs => ins le x (isort le xs)
theorem ins_mid {α : Type} {le : α → α → Bool} {a : α} : ∀ (l₁ l₂ : List α), (∀ b ∈ l₁, (!le a b) = true) → (∀ b ∈ l₂, le a b = true) → ins le a (l₁ ++ l₂) = l₁ ++ a :: l₂
  | [], [], _, _ => rfl
  | [], y :: ys, _, h => by
    show (if le a y = true then a :: y :: ys else y :: ins le a ys) = a :: y :: ys
    rw [if_pos (h y List.mem_cons_self)]
  | x :: l₁, l₂, h1, h2 => by
    have e : le a x = false := by simpa using h1 x List.mem_cons_self
    show (if le a x = true then a :: x :: (l₁ ++ l₂) else x :: ins le a (l₁ ++ l₂)) = x :: (l₁ ++ a :: l₂)
    rw [e, if_neg (by decide), ins_mid l₁ l₂ (fun b hb => h1 b (List.mem_cons_of_mem _ hb)) h2]
theorem mergeSort_isort {α : Type} {le : α → α → Bool} (T : PySem.W.TotalLe le) : ∀ l : List α, l.mergeSort le = isort le l
  | [] => by simp [isort]
  | a :: l => by
    obtain ⟨l₁, l₂, e1, e2, h⟩ := List.mergeSort_cons (le := le) (fun a b c => T.trans a b c) (fun a b => (Bool.or_eq_true _ _).mpr (T.total a b)) a l
    have hp := List.pairwise_mergeSort (le := le) (fun a b c => T.trans a b c) (fun a b => (Bool.or_eq_true _ _).mpr (T.total a b)) (a :: l)
    rw [e1] at hp ⊢
    show _ = ins le a (isort le l)
    rw [← mergeSort_isort T l, e2]
    refine (ins_mid l₁ l₂ h fun b hb => ?_).symm
    have := (List.pairwise_append.mp hp).2.1
    exact (List.pairwise_cons.mp this).1 b hb

theorem ins_mem {α : Type} {le : α → α → Bool} {x : α} : ∀ {l : List α} {y : α}, y ∈ ins le x l → y = x ∨ y ∈ l
  | [], y, h => by
    have : y = x := by simpa [ins] using h
    exact .inl this
  | z :: l, y, h => by
    unfold ins at h
    by_cases e : le x z = true
    · rw [if_pos e] at h
      rcases List.mem_cons.mp h with h | h
      · exact .inl h
      · exact .inr h
    · rw [if_neg e] at h
      rcases List.mem_cons.mp h with h | h
      · exact .inr (h ▸ List.mem_cons_self)
      · rcases ins_mem h with h | h
        · exact .inl h
        · exact .inr (List.mem_cons_of_mem _ h)
theorem isort_mem {α : Type} {le : α → α → Bool} : ∀ {l : List α} {y : α}, y ∈ isort le l → y ∈ l
  | [], y, h => h
  | x :: l, y, h => by
    rcases ins_mem (show y ∈ ins le x (isort le l) from h) with h | h
    · exact h ▸ List.mem_cons_self
    · exact List.mem_cons_of_mem _ (isort_mem h)
theorem ins_congr {α : Type} {le le' : α → α → Bool} {x : α} : ∀ {l : List α}, (∀ y ∈ l, le x y = le' x y) → ins le x l = ins le' x l
  | [], _ => rfl
  | z :: l, h => by
    unfold ins
    rw [h z List.mem_cons_self, ins_congr fun y hy => h y (List.mem_cons_of_mem _ hy)]
theorem isort_congr {α : Type} {le le' : α → α → Bool} : ∀ {l : List α}, (∀ a ∈ l, ∀ b ∈ l, le a b = le' a b) → isort le l = isort le' l
  | [], _ => rfl
  | x :: l, h => by
    unfold isort
    rw [isort_congr fun a ha b hb => h a (List.mem_cons_of_mem _ ha) b (List.mem_cons_of_mem _ hb)]
    exact ins_congr fun y hy => h x List.mem_cons_self y (List.mem_cons_of_mem _ (isort_mem hy))
/-! ### the order of the kit is the order of data -/
mutual
def noList : PyData → Bool
  | .list _ => false
  | .dict _ => false
  | .tuple xs => noLists xs
  | _ => true
def noLists : List PyData → Bool
  | [] => true
  | x :: xs => noList x && noLists xs
end
mutual
theorem dataLt_cmp : ∀ (x y : PyData), PySem.W.alike x y = true → (∀ xs, x ≠ .list xs) → noList x = true → noList y = true → PySem.W.dataLt x y = (cmpP x y == .lt)
  | .none, y, h, _, _, _ => by
    cases y <;> first | exact absurd (show false = true from h) (by decide) | skip
    rfl
  | .bool a, y, h, q1, q2, q3 => by
    cases y <;> first | exact absurd (show false = true from h) (by decide) | skip
    rename_i b
    rw [PySem.W.dataLt_bool]; cases a <;> cases b <;> rfl
  | .int a, y, h, q1, q2, q3 => by
    cases y <;> first | exact absurd (show false = true from h) (by decide) | skip
    rename_i b
    rw [PySem.W.dataLt_int, Bool.eq_iff_iff]; simp [cmpP, Int.compare_eq_lt]
  | .str x, y, h, q1, q2, q3 => by
    cases y <;> first | exact absurd (show false = true from h) (by decide) | skip
    rename_i y
    rw [PySem.W.dataLt_str]
    show decide (x.cps.toList < y.cps.toList) = ((if x.cps.toList < y.cps.toList then Ordering.lt else if y.cps.toList < x.cps.toList then .gt else .eq) == Ordering.lt)
    by_cases h : x.cps.toList < y.cps.toList
    · simp [h]
    · by_cases h2 : y.cps.toList < x.cps.toList <;> simp [h, h2]
  | .list xs, y, h, hn, _, _ => absurd rfl (hn xs)
  | .tuple xs, y, h, q1, n1, n2 => by
    cases y <;> first | exact absurd (show false = true from h) (by decide) | skip
    rename_i ys
    rw [PySem.W.dataLt_tuple]
    exact dataLts_cmp xs ys h n1 n2
  | .dict _, y, h, _, _, _ => absurd (show false = true by cases y <;> exact h) (by decide)
theorem dataLts_cmp : ∀ (xs ys : List PyData), PySem.W.alikeAll xs ys = true → noLists xs = true → noLists ys = true → PyProof.Rows.lexLt PyProof.Rows.itemOrd (PySem.W.keyToksAll xs) (PySem.W.keyToksAll ys) = (cmpPs xs ys == .lt)
  | [], [], _, _, _ => by decide
  | [], y :: ys, _, _, _ => by
    rw [PySem.W.toks_all_cons]; rfl
  | x :: xs, [], h, _, _ => by
    rw [PySem.W.toks_all_cons]; rfl
  | x :: xs, y :: ys, h, n1, n2 => by
    have h' := PySem.W.alike_all_cons h
    have n1 : noList x = true ∧ noLists xs = true := by simpa [noLists] using n1
    have n2 : noList y = true ∧ noLists ys = true := by simpa [noLists] using n2
    by_cases e : PyData.eqv x y = true
    · rw [PySem.W.dataLt_all_yes h'.1 e, cmpPs, if_pos e]
      exact dataLts_cmp xs ys h'.2 n1.2 n2.2
    · rw [PySem.W.dataLt_all_no h'.1 (by simpa using e), cmpPs, if_neg e]
      exact dataLt_cmp x y h'.1 (fun zs z => by rw [z] at n1; exact absurd (show false = true from n1.1) (by decide)) n1.1 n2.1
end

/-! ### sorted -/
def leP (a b : PyData) : Bool := !(cmpP b a == .lt)
/-- the data of items, all readable -/
def pyAll (S : Sto) : List D → Option (List PyData)
  | [] => some []
  | d :: ds => (pyN S d).bind fun p => (pyAll S ds).map fun ps => p :: ps
def tupNe : PyData → Bool
  | .tuple (_ :: _) => true
  | _ => false
def tupNo : PyData → Bool
  | .tuple _ => false
  | .none => false
  | _ => true
/-- may be sorted -/
def srtOk (ps : List PyData) : Bool := (ps.all fun a => noList a && SeqAt.shaped a && ps.all fun b => PySem.W.alike a b) && (ps.all tupNe || ps.all tupNo)
def enc (S : Sto) (d : D) : PyData := (pyN S d).getD .none
def srtD (S : Sto) (xs : List D) : List D := isort (fun a b => leP (enc S a) (enc S b)) xs
def dSorted : FF := fun ds S => match ds with
  | [x] => match seqD x S with
    | some xs => match pyAll S xs with
      | some ps => if srtOk ps = true ∧ xs.length ≤ sizeLine then .ok (.ref S.length) (S ++ [.lst (srtD S xs)]) else .no
      | none => .no
    | none => .no
  | _ => .no
theorem pyAll_map {S : Sto} : ∀ {ds : List D} {ps : List PyData}, pyAll S ds = some ps → ps = ds.map (enc S) ∧ ∀ d ∈ ds, pyN S d = some (enc S d)
  | [], ps, h => by cases h; exact ⟨rfl, fun d hd => absurd hd (by simp)⟩
  | d :: ds, ps, h => by
    obtain ⟨p, e1, h⟩ := Option.bind_eq_some_iff.mp h
    obtain ⟨qs, e2, rfl⟩ := Option.map_eq_some_iff.mp h
    obtain ⟨h1, h2⟩ := pyAll_map e2
    have e : enc S d = p := by unfold enc; rw [e1]; rfl
    refine ⟨by rw [List.map_cons, h1, e], fun x hx => ?_⟩
    rcases List.mem_cons.mp hx with rfl | hx
    · rw [e1, e]
    · exact h2 x hx
section
variable {X : Cx}
open PySem.W in
theorem each_of {K : PySem.W.Frag} {H : Hp} {θ : List Addr} : ∀ {ds : List D} {vs : List V} {us : List Value}, DVs K H θ ds vs → Vals vs us → EachIs (fun u d => ∃ v, RelV v u ∧ DV K H θ d v) us ds
  | [], vs, us, h, r => by
    obtain rfl : vs = [] := h
    cases r; exact .nil
  | d :: ds, vs, us, ⟨v, vr, e, h, hs⟩, r => by
    subst e
    cases r with
    | cons r1 r2 => exact .cons ⟨v, r1, h⟩ (each_of hs r2)
open PySem.W in
theorem of_each {K : PySem.W.Frag} {H : Hp} {θ : List Addr} : ∀ {ds : List D} {us : List Value}, EachIs (fun u d => ∃ v, RelV v u ∧ DV K H θ d v) us ds → ∃ vs, Vals vs us ∧ DVs K H θ ds vs
  | _, _, .nil => ⟨[], .nil, rfl⟩
  | _, _, .cons ⟨v, r, h⟩ t => by
    obtain ⟨vs, r2, h2⟩ := of_each t
    exact ⟨v :: vs, .cons r r2, v, vs, rfl, h, h2⟩
/-- sorted of a list or a tuple -/
def rSortD (X : Cx) : List V → Hp → VK → Prop := fun vs H Q => ∃ θ S x v xs ps, Rl X.K X.w H θ S ∧ vs = [v] ∧ DV X.K H θ x v ∧ seqD x S = some xs ∧ pyAll S xs = some ps ∧ srtOk ps = true ∧ xs.length ≤ sizeLine ∧
  ∀ p ws, H p = none → DVs X.K H θ (srtD S xs) ws → Q (.ref p) (upd H p (.lst ws))
theorem cr_sortD (hu : X.A.units + 66 < cLine) : CallR X (.builtin "sorted") (rSortD X) := by
  intro pins s σ H vs us Q I r h
  obtain ⟨θ, S, x, v, xs, ps, rl, rfl, dv, hx, hp, hs, hz, q⟩ := h
  obtain ⟨a, ws, rfl, hq, dws⟩ := seqD_of rl dv hx
  rw [Vals.ref1 r]
  obtain ⟨eps, hall⟩ := pyAll_map hp
  have hs' := hs
  unfold srtOk at hs'
  rw [Bool.and_eq_true] at hs'
  have hA : ∀ d ∈ xs, noList (enc S d) = true ∧ SeqAt.shaped (enc S d) = true ∧ ∀ d' ∈ xs, PySem.W.alike (enc S d) (enc S d') = true := fun d hd => by
    have h1 := List.all_eq_true.mp hs'.1 (enc S d) (by rw [eps]; exact List.mem_map_of_mem hd)
    rw [Bool.and_eq_true, Bool.and_eq_true] at h1
    exact ⟨h1.1.1, h1.1.2, fun d' hd' => List.all_eq_true.mp h1.2 _ (by rw [eps]; exact List.mem_map_of_mem hd')⟩
  have core : ∀ its : List Value, Vals ws its → (∀ {Q' : List Value → Shared → Prop}, Q' its { s with heap := (s.heap.push (PyProof.Rows.seqObj "list" #[] 0)).update s.heap.objs.size (Obj.mapSeq (· ++ its.toArray)) } → wpAny (model X.prog X.w) X.A.in1 (collect (.ref a)) Q' X.xe s) →
      wpAny (model X.prog X.w) X.A (call (.builtin "sorted") [.ref a]) (EP X pins σ Q) X.xe s := fun its rv hcol => by
    have e0 := each_of dws rv
    have hmem : ∀ {l : List D} {us : List Value}, (∀ d ∈ l, pyN S d = some (enc S d)) → PySem.W.EachIs (fun u d => ∃ v, RelV v u ∧ DV X.K H θ d v) us l → PySem.W.EachIs (fun u d => ∃ as, Reads s.heap u (enc S d) as) us l := by
      intro l us hl e
      induction e with
      | nil => exact .nil
      | cons h t ih =>
        obtain ⟨v, r, dv⟩ := h
        exact .cons (Dp.reads I _ v _ (dp_of rl dv (hl _ List.mem_cons_self)) r) (ih fun d hd => hl d (List.mem_cons_of_mem _ hd))
    refine sorted_from (bs := xs) (enc := enc S) hcol e0 (hmem hall e0) (fun d hd d' hd' => ?_) ?_ hz (fun b hb => ?_) fun out ho eo => ?_
    · obtain ⟨b, hb, rfl⟩ := List.mem_map.mp hd
      obtain ⟨b', hb', rfl⟩ := List.mem_map.mp hd'
      exact (hA b hb).2.2 b' hb'
    · rcases (Bool.or_eq_true _ _).mp hs'.2 with h | h
      · refine .inl fun d hd => ?_
        have := List.all_eq_true.mp h d (by rw [eps]; exact hd)
        cases d <;> first | exact absurd (show false = true from this) (by decide) | skip
        rename_i l
        cases l with
        | nil => exact absurd (show false = true from this) (by decide)
        | cons x r => exact ⟨x, r, rfl⟩
      · refine .inr fun d hd => ?_
        have := List.all_eq_true.mp h d (by rw [eps]; exact hd)
        refine ⟨fun z => by subst z; exact absurd (show false = true from this) (by decide), fun l z => by subst z; exact absurd (show false = true from this) (by decide)⟩
    · have := SeqAt.depth_of_shaped (hA b hb).2.1
      omega
    · rw [mergeSort_isort (show PySem.W.TotalLe (PySem.W.dataLe false (enc S)) from PySem.W.sortLe_total _ _ _), isort_congr (le' := fun a b => leP (enc S a) (enc S b)) (fun a ha b hb => ?_)] at eo
      · obtain ⟨ws', rw', dw'⟩ := of_each eo
        obtain ⟨ep, he'⟩ := PyProof.Rows.sortedAll_at s.heap its out.toArray
        have hlen : ws'.length ≤ sizeLine := by rw [rw'.length, ho]; exact hz
        exact ⟨.ref _, upd H (s.heap.objs.size + 1) (.lst ws'), I.laid (t' := s.toks) (fun _ _ => PyProof.Rows.sortedAll_old) (Nat.le_succ _) ⟨hlen, out, ep, rw', by simpa using he'⟩, rfl, q _ _ (I.hok.fresh (Nat.le_succ _)) dw'⟩
      · show (!PySem.W.dataLt (enc S b) (enc S a)) = leP (enc S a) (enc S b)
        unfold leP
        rw [dataLt_cmp _ _ ((hA b hb).2.2 a ha) (fun l z => by have := (hA b hb).1; rw [z] at this; exact absurd (show false = true from this) (by decide)) (hA b hb).1 (hA a ha).1]
  rcases hq with hq | hq
  · obtain ⟨its, rv, hl, hz'⟩ := I.list hq
    exact core its rv fun q => PyProof.Rows.collect_list hl.isList q (by rw [← rv.length]; exact hz')
  · obtain ⟨its, rv, hl, hz'⟩ := I.tuple hq
    exact core its rv fun q => collect_tuple hl q (by rw [← rv.length]; exact hz')
theorem cd_sorted : CallD X (rSortD X) dSorted := by
  intro θ H S ds vs Q E r dv p
  unfold dSorted at p
  match ds, p with
  | [], p => exact p.elim
  | [x], p =>
    cases e1 : seqD x S with
    | none => simp only [e1] at p; exact p.elim
    | some xs =>
      cases e2 : pyAll S xs with
      | none => simp only [e1, e2] at p; exact p.elim
      | some ps =>
        simp only [e1, e2] at p
        by_cases hz : srtOk ps = true ∧ xs.length ≤ sizeLine
        · rw [if_pos hz] at p
          obtain ⟨v, rr, rfl, d1, rfl⟩ := dv
          refine ⟨θ, S, x, v, xs, ps, r, rfl, d1, e1, e2, hz.1, hz.2, fun q ws hq dw => ?_⟩
          have f2 : Fut H θ (upd H q (.lst ws)) (θ ++ [q]) := Fut.newN hq
          exact p _ _ _ f2 (r.newN hq ⟨ws, upd_same, DVs.later f2 _ _ dw⟩) ⟨q, rfl, by rw [← r.len]; simp⟩
        · rw [if_neg hz] at p; exact p.elim
  | _ :: _ :: _, p => exact p.elim
end
end Y

set_option Elab.async false
set_option linter.all false
set_option maxRecDepth 100000
set_option maxHeartbeats 2000000
/-! YRepr: repr, isinstance. -/
namespace Y
open PySem L2
/-- may be shown -/
def shwOk (p : PyData) : Bool := p.showable && SeqAt.shaped p && decide (p.shown.length ≤ sizeLine)
def dRepr : FF := fun ds S => match ds with
  | [x] => match pyN S x with
    | some p => if shwOk p = true then .ok (.str p.shown) S else .no
    | none => .no
  | _ => .no
section
variable {X : Cx}
def rRepr (X : Cx) : List V → Hp → VK → Prop := fun vs H Q => ∃ v p, vs = [v] ∧ Dp X.K H v p ∧ shwOk p = true ∧ Q (.str p.shown) H
theorem cr_repr (hg : X.A.guards = some []) (hu : X.A.units + 70 < cLine) : CallR X (.builtin "repr") (rRepr X) := by
  intro pins s σ H vs us Q I r h
  obtain ⟨v, p, rfl, dp, hs, q⟩ := h
  obtain ⟨u, rfl, rv⟩ := vals1 r
  unfold shwOk at hs
  rw [Bool.and_eq_true, Bool.and_eq_true, decide_eq_true_eq] at hs
  obtain ⟨⟨h1, h2⟩, h3⟩ := hs
  have hd := SeqAt.depth_of_shaped h2
  obtain ⟨as, rd⟩ := Dp.reads I p v u dp rv
  have hnd : p.hasDict = false := PyData.hasDict_of_canLay p (SeqAt.canLay_of_shaped h2)
  have fin : ∀ (h' : Heap) (u : Tok) (tk : Nat), (∀ b o, s.heap.get? b = some o → h'.get? b = some o) → EP X pins σ Q (.str p.shown u) { s with heap := h', toks := tk } := fun h' u tk hk =>
    ⟨.str _, H, I.kept (h' := h') (t' := tk) hk, ⟨u, rfl⟩, q⟩
  cases dp with
  | non =>
    cases (show u = Value.none from rv)
    have e : (PyData.none).shown = ("None" : Str) := PyData.shown_none
    rw [e] at fin
    exact PySem.P.repr_of_none (fin s.heap _ _ fun _ _ z => z)
  | bl b =>
    cases (show u = Value.bool b from rv)
    have e : (PyData.bool b).shown = (if b then "True" else "False" : Str) := PyData.shown_bool b
    rw [e] at fin
    exact PySem.P.repr_of_bool (fin s.heap _ _ fun _ _ z => z)
  | int i =>
    obtain ⟨t, rfl⟩ := rv
    exact PySem.P.repr_of_int (of_decide_eq_true h1) (fin s.heap _ _ fun _ _ z => z)
  | str x =>
    obtain ⟨t, rfl⟩ := rv
    exact PySem.P.repr_of_str (fin s.heap _ _ fun _ _ z => z) h3
  | _ =>
    first
      | (cases rv; exact repr_of_reads' rd h1 (PyData.noDict_hsm hnd) hg (by omega) (fun _ _ z => z) (fun h' u tk hk => fin h' u tk hk) h3)
theorem cd_repr : CallD X (rRepr X) dRepr := by
  intro θ H S ds vs Q E r dv p
  unfold dRepr at p
  match ds, p with
  | [], p => exact p.elim
  | [x], p =>
    cases e1 : pyN S x with
    | none => simp only [e1] at p; exact p.elim
    | some q =>
      simp only [e1] at p
      by_cases hz : shwOk q = true
      · rw [if_pos hz] at p
        obtain ⟨v, rr, rfl, d1, rfl⟩ := dv
        exact ⟨v, q, rfl, dp_of r d1 e1, hz, p θ H _ .refl r rfl⟩
      · rw [if_neg hz] at p; exact p.elim
  | _ :: _ :: _, p => exact p.elim
end

/-! ### isinstance against a built-in type -/
def tyD (x : D) (S : Sto) : Option String := match x with
  | .non => some "NoneType"
  | .bl _ => some "bool"
  | .int _ => some "int"
  | .str _ => some "str"
  | .tup _ => some "tuple"
  | .ro _ => some "list"
  | .ref i => match S[i]? with
    | some (.lst _) => some "list"
    | some (.dK _) => some "dict"
    | _ => none
/-- a is b's kind -/
def isTy (a b : String) : Bool := a == b || (a == "bool" && b == "int")
def dIsT (T : String) (x : D) (S : Sto) : R D := match tyD x S with
  | some t => .ok (.bl (isTy t T)) S
  | none => .no
def isTys : List String := ["tuple", "list", "int", "bool", "str", "dict"]
theorem kit_isTy : ∀ T ∈ isTys, ∀ t ∈ ["NoneType", "bool", "int", "str", "tuple", "list", "dict"], kitB t T = some (isTy t T) := by decide +kernel
theorem tyD_of {K : PySem.W.Frag} {w : World} {H : Hp} {θ : List Addr} {S : Sto} (r : Rl K w H θ S) {x : D} {v : V} {t : String} (dv : DV K H θ x v) (h : tyD x S = some t) : TyX K H v (.type t) ∧ t ∈ ["NoneType", "bool", "int", "str", "tuple", "list", "dict"] := by
  cases x with
  | non => cases h; obtain rfl : v = .non := dv; exact ⟨.base .non, by decide⟩
  | bl b => cases h; obtain rfl : v = .bl b := dv; exact ⟨.base (.bl b), by decide⟩
  | int i => cases h; obtain rfl : v = .int i := dv; exact ⟨.base (.int i), by decide⟩
  | str y => cases h; obtain rfl : v = .str y := dv; exact ⟨.base (.str y), by decide⟩
  | tup ds =>
    cases h
    obtain ⟨a, vs, rfl, hs, _⟩ := dv
    refine ⟨?_, by decide⟩
    rcases hs with (h | ⟨o, h⟩) | ⟨o, its, n, h, hc, _⟩
    · exact .base (.tup h)
    · exact .fTuple h
    · exact .kTuple h hc
  | ro ds =>
    cases h
    obtain ⟨a, vs, rfl, hs, _⟩ := dv
    refine ⟨?_, by decide⟩
    rcases hs with ⟨o, h⟩ | ⟨o, its, n, h, hc, _⟩
    · exact .base (.frz h)
    · exact .kList h hc
  | ref i =>
    obtain ⟨a, rfl, ha⟩ := dv
    unfold tyD at h
    cases e : S[i]? with
    | none => simp only [e] at h; cases h
    | some o =>
      have q := r.at_ i o a e ha
      cases o with
      | lst ds => simp only [e] at h; cases h; obtain ⟨vs, hv, _⟩ := q; exact ⟨.base (.lst hv), by decide⟩
      | dK ds => simp only [e] at h; cases h; obtain ⟨vs, hv, _⟩ := q; exact ⟨.base (.dK hv), by decide⟩
      | dN ds => simp only [e] at h; cases h
section
variable {X : Cx} {W : WX} {a : Expr} {fa : FE} {p p2 pos : Pos} {y : Str} {T : String}
theorem de_isT (hT : T ∈ isTys) (hb : Gl X "isinstance") (hbm : X.mg "isinstance" = none) (hg : Gl X y) (hm : X.mg y = none) (hv : bootBuiltins y = some (.type T)) (ha : DE X W a fa)
    (hn : y ≠ "__name__" := by decide) (hdy : (y == ("__debug__" : Str)) = false := by decide)
    (he : starEach [a, .Name y p2] X.env = (false, eval a X.env) :: starEach [.Name y p2] X.env := by rfl) (hpl : (backTo pos (starEach [.Name y p2] X.env)).any (·.1) = false := by rfl) :
    DE X W (.Call (.Name "isinstance" p) [a, .Name y p2] [] pos) (fUn (dIsT T) fa) := by
  obtain ⟨ta, pa, qa⟩ := ha
  refine ⟨_, pe_callB (x := "isinstance") call_isi hb hbm PyProof.Rows.Boot.«isinstance» (pa_cons pa (pa_cons (pe_bltn (v := .ty T) hg hm hv rfl hn hdy) pa_nil) he) (he := he) (hpl := hpl), fun θ σ ρ H S Q r sl h => ?_⟩
  refine one (fa := fa) (op := dIsT T) qa r sl h fun θ2 H2 S2 x v f2 r2 sl2 d2 q => ?_
  unfold dIsT at q
  cases e : tyD x S2 with
  | none => rw [e] at q; exact q.elim
  | some t =>
    rw [e] at q
    obtain ⟨h1, h2⟩ := tyD_of r2 d2 e
    exact ⟨v, .ty T, .type t, .type T, isTy t T, rfl, .ty T, h1, kit_ty (kit_isTy T hT t h2), q θ2 H2 _ .refl r2 rfl⟩
end
end Y

set_option Elab.async false
set_option linter.all false
set_option maxRecDepth 100000
set_option maxHeartbeats 2000000
/-! YDict2: dicts made, stored into, asked with get; alternatives of rules. -/
namespace Y
open PySem L2
/-! ### alternatives -/
def orR {α : Type} (a b : R α) : R α := match a with
  | .no => b
  | r => r
def fOr2 (f g : FE) : FE := fun ρ S => orR (f ρ S) (g ρ S)
def orS (a b : SR) : SR := match a with
  | .no => b
  | r => r
def sOr2 (f g : FS) : FS := fun ρ S => orS (f ρ S) (g ρ S)
section
variable {X : Cx} {W : WX} {e : Expr} {s : Stmt} {f g : FE} {fs gs : FS}
theorem DE.or (h1 : DE X W e f) (h2 : DE X W e g) : DE X W e (fOr2 f g) := by
  obtain ⟨t1, p1, q1⟩ := h1
  obtain ⟨t2, p2, q2⟩ := h2
  refine ⟨fun σ H Q => t1 σ H Q ∨ t2 σ H Q, ⟨fun pins s σ H Q I h => ?_⟩, fun θ σ ρ H S Q r sl h => ?_⟩
  · rcases h with h | h
    · exact p1.run pins s σ H Q I h
    · exact p2.run pins s σ H Q I h
  · unfold fOr2 orR at h
    cases ea : f ρ S with
    | no => rw [ea] at h; exact .inr (q2 θ σ ρ H S Q r sl h)
    | ok d S' => rw [ea] at h; exact .inl (q1 θ σ ρ H S Q r sl (by rw [ea]; exact h))
    | ex c S' => rw [ea] at h; exact .inl (q1 θ σ ρ H S Q r sl (by rw [ea]; exact h))
theorem DS.or (h1 : DS X W s fs) (h2 : DS X W s gs) : DS X W s (sOr2 fs gs) := by
  obtain ⟨t1, p1, q1⟩ := h1
  obtain ⟨t2, p2, q2⟩ := h2
  refine ⟨fun D σ H => t1 D σ H ∨ t2 D σ H, ⟨fun pins s σ H D I h => ?_⟩, fun θ σ ρ H S D r sl h => ?_⟩
  · rcases h with h | h
    · exact p1.run pins s σ H D I h
    · exact p2.run pins s σ H D I h
  · unfold sOr2 orS at h
    cases ea : fs ρ S with
    | no => rw [ea] at h; exact .inr (q2 θ σ ρ H S D r sl h)
    | nx ρ' S' => rw [ea] at h; exact .inl (q1 θ σ ρ H S D r sl (by rw [ea]; exact h))
    | rt d S' => rw [ea] at h; exact .inl (q1 θ σ ρ H S D r sl (by rw [ea]; exact h))
    | bk ρ' S' => rw [ea] at h; exact .inl (q1 θ σ ρ H S D r sl (by rw [ea]; exact h))
    | ct ρ' S' => rw [ea] at h; exact .inl (q1 θ σ ρ H S D r sl (by rw [ea]; exact h))
    | ex c ρ' S' => rw [ea] at h; exact .inl (q1 θ σ ρ H S D r sl (by rw [ea]; exact h))
end
/-- one operator, two readings -/
def oOr (o1 o2 : OpF) : OpF := fun x y S => orR (o1 x y S) (o2 x y S)
theorem CmpD.or {X : Cx} {op : CmpOp} {o1 o2 : OpF} (h1 : CmpD X op o1) (h2 : CmpD X op o2) : CmpD X op (oOr o1 o2) := by
  obtain ⟨r1, a1, b1⟩ := h1.ex
  obtain ⟨r2, a2, b2⟩ := h2.ex
  refine ⟨fun x y H Q => r1 x y H Q ∨ r2 x y H Q, fun pins s σ H x y v u Q I rx ry h => ?_, fun θ H S x y v w Q E r d1 d2 p => ?_⟩
  · rcases h with h | h
    · exact a1 pins s σ H x y v u Q I rx ry h
    · exact a2 pins s σ H x y v u Q I rx ry h
  · unfold oOr orR at p
    cases ea : o1 x y S with
    | no => rw [ea] at p; exact .inr (b2 θ H S x y v w Q E r d1 d2 p)
    | ok d S' => rw [ea] at p; exact .inl (b1 θ H S x y v w Q E r d1 d2 (by rw [ea]; exact p))
    | ex c S' => rw [ea] at p; exact .inl (b1 θ H S x y v w Q E r d1 d2 (by rw [ea]; exact p))
/-! ### x in a list, a tuple -/
def dInL (neg : Bool) : OpF := fun x y S => match pyN S x, pyN S y with
  | some d, some (.list ds) => if SeqAt.shaped d = true ∧ SeqAt.shaped (.list ds) = true then .ok (.bl (if neg then !ds.any fun z => PyData.eqv z d else ds.any fun z => PyData.eqv z d)) S else .no
  | some d, some (.tuple ds) => if SeqAt.shaped d = true ∧ SeqAt.shaped (.tuple ds) = true then .ok (.bl (if neg then !ds.any fun z => PyData.eqv z d else ds.any fun z => PyData.eqv z d)) S else .no
  | _, _ => .no
def rInL (K : PySem.W.Frag) (neg : Bool) : R2 := fun x y H Q => ∃ d ds, Dp K H x d ∧ (Dp K H y (.list ds) ∨ Dp K H y (.tuple ds)) ∧ SeqAt.shaped d = true ∧ SeqAt.shaped (.list ds) = true ∧ Q (.bl (if neg then !ds.any fun z => PyData.eqv z d else ds.any fun z => PyData.eqv z d)) H
theorem shaped_lt {ds : List PyData} : SeqAt.shaped (.list ds) = SeqAt.shaped (.tuple ds) := rfl
section
variable {X : Cx}
theorem op_inL (hu : X.A.units + 65 < cLine) : OpR X (compareOp .In) (rInL X.K false) := by
  intro pins s σ H x y v u Q I rx ry h
  obtain ⟨d, ds, hd, he, sd, se, q⟩ := h
  obtain ⟨as, r1⟩ := Dp.reads I d x v hd rx
  rcases he with he | he
  · obtain ⟨bs, r2⟩ := Dp.reads I (.list ds) y u he ry
    exact SeqAt.in_list_reads r2 r1 (SeqAt.canLay_of_shaped se) (SeqAt.canLay_of_shaped sd) (PyProof.Rows.room_in_shaped sd hu) ⟨.bl _, H, I, rfl, q⟩
  · obtain ⟨bs, r2⟩ := Dp.reads I (.tuple ds) y u he ry
    exact SeqAt.in_tuple_reads r2 r1 (SeqAt.canLay_of_shaped se) (SeqAt.canLay_of_shaped sd) (PyProof.Rows.room_in_shaped sd hu) ⟨.bl _, H, I, rfl, q⟩
theorem op_notInL (hu : X.A.units + 65 < cLine) : OpR X (compareOp .NotIn) (rInL X.K true) := by
  intro pins s σ H x y v u Q I rx ry h
  obtain ⟨d, ds, hd, he, sd, se, q⟩ := h
  obtain ⟨as, r1⟩ := Dp.reads I d x v hd rx
  rcases he with he | he
  · obtain ⟨bs, r2⟩ := Dp.reads I (.list ds) y u he ry
    exact SeqAt.notIn_list_reads r2 r1 (SeqAt.canLay_of_shaped se) (SeqAt.canLay_of_shaped sd) (PyProof.Rows.room_in_shaped sd hu) ⟨.bl _, H, I, rfl, q⟩
  · obtain ⟨bs, r2⟩ := Dp.reads I (.tuple ds) y u he ry
    exact SeqAt.notIn_tuple_reads r2 r1 (SeqAt.canLay_of_shaped se) (SeqAt.canLay_of_shaped sd) (PyProof.Rows.room_in_shaped sd hu) ⟨.bl _, H, I, rfl, q⟩
theorem od_inL (neg : Bool) : OpD X (rInL X.K neg) (dInL neg) := by
  intro θ H S x y v w Q E r d1 d2 p
  unfold dInL at p
  split at p
  · rename_i d ds e1 e2
    split at p
    · rename_i hz
      exact ⟨d, ds, dp_of r d1 e1, .inl (dp_of r d2 e2), hz.1, hz.2, p θ H _ .refl r rfl⟩
    · exact p.elim
  · rename_i d ds e1 e2
    split at p
    · rename_i hz
      exact ⟨d, ds, dp_of r d1 e1, .inr (dp_of r d2 e2), hz.1, hz.2, p θ H _ .refl r rfl⟩
    · exact p.elim
  · exact p.elim
/-- in, not in: a dict's key, an item of a list or a tuple -/
theorem cd_in (hu : X.A.units + 65 < cLine) : CmpD X .In (oOr (dInL false) (dIn false)) := CmpD.or ⟨_, op_inL hu, od_inL false⟩ (cd_inD (by omega))
theorem cd_notIn (hu : X.A.units + 65 < cLine) : CmpD X .NotIn (oOr (dInL true) (dIn true)) := CmpD.or ⟨_, op_notInL hu, od_inL true⟩ (cd_notInD (by omega))
end
/-! ### {} -/
def fNewK : FE := fun _ S => .ok (.ref S.length) (S ++ [.dK []])
def fNewN : FE := fun _ S => .ok (.ref S.length) (S ++ [.dN []])
section
variable {X : Cx} {W : WX} {pos : Pos}
theorem de_newK : DE X W (.Dict [] [] pos) fNewK := ⟨_, pe_dnewK, fun θ σ ρ H S Q r sl h q hq => by
  have f2 : Fut H θ (upd H q (.dK [])) (θ ++ [q]) := Fut.newN hq
  exact h _ _ _ f2 (r.newN hq ⟨[], upd_same, rfl, rfl⟩) ⟨q, rfl, by rw [← r.len]; simp⟩⟩
theorem pe_dnewN : PE X (.Dict [] [] pos) (fun _ H Q => ∀ p, H p = none → Q (.ref p) (upd H p (DctO X.w p []))) := ⟨fun pins s σ H Q I h =>
  wpAny_Dict_empty ⟨.ref s.heap.objs.size, _, I.laid (a := s.heap.objs.size) (o := DctO X.w s.heap.objs.size []) (t' := s.toks) (fun _ _ q => Heap.get?_push_of_some _ q) (Nat.le_refl _)
    (dct_new (Nat.zero_le _) (beq_eq_false_iff_ne.mpr (Ne.symm (Nat.ne_of_lt I.big))) List.nodup_nil (Heap.get?_push_size _ rfl) ⟨rfl, rfl, rfl⟩ rfl rfl), rfl, h _ (I.hok.fresh (Nat.le_refl _))⟩⟩
theorem de_newN : DE X W (.Dict [] [] pos) fNewN := ⟨_, pe_dnewN, fun θ σ ρ H S Q r sl h q hq => by
  have f2 : Fut H θ (upd H q (DctO X.w q [])) (θ ++ [q]) := Fut.newN hq
  exact h _ _ _ f2 (r.newN hq ⟨[], upd_same, .nil⟩) ⟨q, rfl, by rw [← r.len]; simp⟩⟩
end

/-! ### d[k] = v -/
theorem put_rel {K : PySem.W.Frag} {H : Hp} {θ : List Addr} {k : Key} {d : D} {v : V} (dv : DV K H θ d v) : ∀ {kvs : List (Key × D)} {vs : List (Key × V)}, vs.map (·.1) = kvs.map (·.1) → DVs K H θ (kvs.map (·.2)) (vs.map (·.2)) →
    (vs.any fun kv => decide (kv.1 = k)) = (kvs.any fun kv => decide (kv.1 = k)) ∧
    ((vs.map (fun kv => if kv.1 = k then (kv.1, v) else kv)).map (·.1) = (kvs.map (fun kv => if kv.1 = k then (kv.1, d) else kv)).map (·.1)) ∧
    DVs K H θ ((kvs.map (fun kv => if kv.1 = k then (kv.1, d) else kv)).map (·.2)) ((vs.map (fun kv => if kv.1 = k then (kv.1, v) else kv)).map (·.2))
  | [], vs, h1, h2 => by
    cases vs with
    | nil => exact ⟨rfl, rfl, rfl⟩
    | cons _ _ => cases h1
  | p :: ps, [], h1, h2 => by cases h1
  | p :: ps, q :: qs, h1, h2 => by
    rw [List.map_cons, List.map_cons] at h1 h2
    injection h1 with h3 h4
    obtain ⟨w, r, e, d1, d2⟩ := h2
    injection e with e1 e2
    subst e1 e2
    obtain ⟨i1, i2, i3⟩ := put_rel (k := k) dv h4 d2
    refine ⟨by simp only [List.any_cons, h3, i1], ?_, ?_⟩
    · simp only [List.map_cons]
      rw [i2]
      congr 1
      by_cases e : p.1 = k
      · simp [e, h3]
      · simp [e, h3]
    · simp only [List.map_cons]
      by_cases e : p.1 = k
      · rw [if_pos e, if_pos (by rw [h3]; exact e)]; exact ⟨v, _, rfl, dv, i3⟩
      · rw [if_neg e, if_neg (by rw [h3]; exact e)]; exact ⟨q.2, _, rfl, d1, i3⟩
theorem putK_rel {K : PySem.W.Frag} {H : Hp} {θ : List Addr} {k : Key} {d : D} {v : V} {kvs : List (Key × D)} {vs : List (Key × V)} (dv : DV K H θ d v) (h1 : vs.map (·.1) = kvs.map (·.1)) (h2 : DVs K H θ (kvs.map (·.2)) (vs.map (·.2))) :
    (putK vs k v).map (·.1) = (putKD kvs k d).map (·.1) ∧ DVs K H θ ((putKD kvs k d).map (·.2)) ((putK vs k v).map (·.2)) := by
  obtain ⟨i1, i2, i3⟩ := put_rel (k := k) dv h1 h2
  unfold putK putKD
  rw [i1]
  by_cases e : (kvs.any fun kv => decide (kv.1 = k)) = true
  · rw [if_pos e, if_pos e]; exact ⟨i2, i3⟩
  · rw [if_neg e, if_neg e]
    simp only [List.map_append, List.map_cons, List.map_nil]
    exact ⟨by rw [h1], h2.append ⟨v, [], rfl, dv, rfl⟩⟩
/-- the store behind x[y] = d -/
def setG (x y d : D) (S : Sto) : Option Sto := match x with
  | .ref i => match S[i]? with
    | some (.lst xs) => match y with
      | .int k => match ixN xs.length k with
        | some j => some (S.set i (.lst (xs.set j d)))
        | none => none
      | _ => none
    | some (.dK kvs) => match keyK y with
      | some k => if kvs.length < sizeLine then some (S.set i (.dK (putKD kvs k d))) else none
      | none => none
    | some (.dN kvs) => match keyT y with
      | some _ => if kvs.length < sizeLine then some (S.set i (.dN (putD kvs y d))) else none
      | none => none
    | none => none
  | _ => none
def rSetG (X : Cx) : V → V → V → Hp → (Hp → Prop) → Prop := fun o i v H Q => rSetL o i v H Q ∨ (∃ a kvs k, o = .ref a ∧ i = kV k ∧ H a = some (.dK kvs) ∧ kvs.length < sizeLine ∧ Q (upd H a (.dK (putK kvs k v)))) ∨
  ∃ θ a b xs kvs y d k, o = .ref a ∧ i = .ref b ∧ H a = some (DctO X.w a xs) ∧ Paired (EntR X.K H θ) kvs xs ∧ kvs.length < sizeLine ∧ keyN y = some k ∧ k.depth ≤ 8 ∧ DV X.K H θ y (.ref b) ∧ DV X.K H θ d v ∧
    ∀ xs', Paired (EntR X.K H θ) (putD kvs y d) xs' → Q (upd H a (DctO X.w a xs'))
section
variable {X : Cx} {W : WX}
theorem set_G (hu : X.A.units + 64 < cLine) : PSet X (rSetG X) := by
  intro pins s σ H o i v ov iv u Q I ro ri rv h
  rcases h with h | ⟨a, kvs, k, rfl, rfl, e, hz, q⟩ | ⟨θ, a, b, xs, kvs, y, d, k, rfl, rfl, e, r, hz, hk, hd, dy, dd, q⟩
  · exact set_list pins s σ H o i v ov iv u Q I ro ri rv h
  · obtain rfl : ov = .ref a := ro
    exact d_setItem (by omega) I (DPut.k e hz) ri rv fun s' I' => ⟨_, I', q⟩
  · obtain rfl : ov = .ref a := ro
    obtain rfl : iv = .ref b := ri
    exact dct_set hu I e r hz hk hd dy rv dd fun xs' s' r' I' => ⟨_, I', q xs' r'⟩
theorem EntR.later {K : PySem.W.Frag} {H H' : Hp} {θ θ' : List Addr} (f : Fut H θ H' θ') {p : D × D} {x : NestedKey × Addr × Value} (h : EntR K H θ p x) : EntR K H' θ' p x :=
  let ⟨h1, h2, h3, v, h4, h5⟩ := h
  ⟨h1, h2, DV.later f _ _ h3, v, h4, DV.later f _ _ h5⟩
theorem setG_of {θ : List Addr} {H : Hp} {S S4 : Sto} {x y d : D} {v w u : V} {Q : Hp → Prop} (r : Rl X.K X.w H θ S) (dx : DV X.K H θ x v) (dy : DV X.K H θ y w) (dd : DV X.K H θ d u) (h : setG x y d S = some S4)
    (q : ∀ H', Fut H θ H' θ → Rl X.K X.w H' θ S4 → Q H') : rSetG X v w u H Q := by
  unfold setG at h
  split at h
  · rename_i i
    obtain ⟨a, rfl, ha⟩ := dx
    split at h
    · rename_i xs e
      obtain ⟨us, hv, d2⟩ := r.at_ i _ a e ha
      split at h
      · rename_i k
        obtain rfl : w = .int k := dy
        split at h
        · rename_i j ej
          cases h
          have f : Fut H θ (upd H a (.lst (us.set j u))) θ := Fut.chg hv fun z => z
          exact .inl ⟨a, us, k, j, rfl, rfl, hv, by rw [d2.length]; exact ej, q _ f (r.chg (ob := .lst (xs.set j d)) ha fun H' f' e' => ⟨us.set j u, by rw [e', upd_same], DVs.later f' _ _ (d2.set j dd)⟩)⟩
        · cases h
      · cases h
    · rename_i kvs e
      obtain ⟨vs, hv, h1, h2⟩ := r.at_ i _ a e ha
      split at h
      · rename_i k ek
        split at h
        · rename_i hz
          cases h
          obtain rfl := keyK_of ek dy
          have hl : vs.length = kvs.length := by have := congrArg List.length h1; simpa using this
          have f : Fut H θ (upd H a (.dK (putK vs k u))) θ := Fut.chg hv fun z => z
          obtain ⟨j1, j2⟩ := putK_rel (k := k) dd h1 h2
          exact .inr (.inl ⟨a, vs, k, rfl, rfl, hv, by rw [hl]; exact hz, q _ f (r.chg (ob := .dK (putKD kvs k d)) ha fun H' f' e' => ⟨putK vs k u, by rw [e', upd_same], j1, DVs.later f' _ _ j2⟩)⟩)
        · cases h
      · cases h
    · rename_i kvs e
      obtain ⟨xs, hv, h3⟩ := r.at_ i _ a e ha
      split at h
      · rename_i k ek
        split at h
        · rename_i hz
          cases h
          obtain ⟨⟨ds, rfl⟩, k1, k2⟩ := keyT_of ek
          have dy' := dy
          obtain ⟨b, ws, rfl, _⟩ := dy
          refine .inr (.inr ⟨θ, a, b, xs, kvs, _, d, k, rfl, rfl, hv, h3, hz, k1, k2, dy', dd, fun xs' r' => ?_⟩)
          have f : Fut H θ (upd H a (DctO X.w a xs')) θ := Fut.chg hv fun z => z
          exact q _ f (r.chg (ob := .dN (putD kvs (.tup ds) d)) ha fun H' f' e' => ⟨xs', by rw [e', upd_same], L2.Paired.mapP r' fun p x h => EntR.later f' h⟩)
        · cases h
      · cases h
    · cases h
  · cases h
/-- o[i] = e: e, o, i in this order -/
def sSetG (fe fo fi : FE) : FS := fun ρ S => (fe ρ S).then ρ fun d S1 => (fo ρ S1).then ρ fun x S2 => (fi ρ S2).then ρ fun y S3 => match setG x y d S3 with
  | some S4 => .nx ρ S4
  | none => .no
theorem ds_setG {e a b : Expr} {pos pos' : Pos} {fe fb fa : FE} (hu : X.A.units + 64 < cLine) (he : DE X W e fe) (ha : DE X W a fa) (hb : DE X W b fb) (hs : swapsWithSole [.Subscript a b pos'] e pos.line X.env = pure false := by rfl) (hw : swappedStores [.Subscript a b pos'] e X.env = pure none := by rfl)
    (h1 : (assignEach [.Subscript a b pos'] X.env).map (·.2) = [assign (.Subscript a b pos') X.env] := by rfl)
    (hsub : ∀ v, assign (.Subscript a b pos') X.env v = (do
      let ov ← holding [v] (eval a X.env)
      let iv ← holding [v, ov] (eval b X.env)
      standAt pos'
      holding [v, ov, iv] (setItem ov iv v)
      release [v, ov, iv] []) := by intro _; rfl) : DS X W (.Assign [.Subscript a b pos'] e pos) (sSetG fe fa fb) := by
  obtain ⟨te, pe, qe⟩ := he
  obtain ⟨ta, pa, qa⟩ := ha
  obtain ⟨tb, pb, qb⟩ := hb
  refine ⟨_, ps_asg pe (pg_sub pa pb (set_G hu) hsub) hs hw h1, fun θ σ ρ H S D r sl h => ?_⟩
  unfold sSetG at h
  unfold tAsg gSub
  refine thenS qe r sl h fun θ1 H1 S1 d u f1 r1 sl1 d1 h => ?_
  refine thenS qa r1 sl1 h fun θ2 H2 S2 x v f2 r2 sl2 d2 h => ?_
  refine thenS qb r2 sl2 h fun θ3 H3 S3 y w f3 r3 sl3 d3 h => ?_
  cases es : setG x y d S3 with
  | none => rw [es] at h; exact h.elim
  | some S4 =>
    rw [es] at h
    exact setG_of r3 (DV.later f3 _ _ d2) d3 (DV.later (f2.trans f3) _ _ d1) es fun H' f' r' => h θ3 H' σ f' r' (sl3.later f')
end

/-! ### {k: v, ..} -/
def fpNil : Env → Sto → R (List (D × D)) := fun _ S => .ok [] S
def fpCons (fk fv : FE) (r : Env → Sto → R (List (D × D))) : Env → Sto → R (List (D × D)) := fun ρ S => (fk ρ S).bind fun k S1 => (fv ρ S1).bind fun v S2 => (r ρ S2).bind fun ps S3 => .ok ((k, v) :: ps) S3
/-- the pairs with their keys -/
def keysOf : List (D × D) → Option (List (Key × D))
  | [] => some []
  | (k, v) :: r => (keyK k).bind fun x => (keysOf r).map fun l => (x, v) :: l
def mergeKD (kvs more : List (Key × D)) : List (Key × D) := more.foldl (fun acc kv => putKD acc kv.1 kv.2) kvs
def fDisp (fp : Env → Sto → R (List (D × D))) : FE := fun ρ S => (fp ρ (S ++ [.dK []])).bind fun ps S2 => match S2[S.length]?, keysOf ps with
  | some (.dK []), some kvs => if kvs.length ≤ 15 then .ok (.ref S.length) (S2.set S.length (.dK (mergeKD [] kvs))) else .no
  | _, _ => .no
section
variable {X : Cx} {W : WX} {pos : Pos} {ek ev : Expr} {fk fv : FE} {ks : List (Option Expr)} {vs : List Expr} {fp : Env → Sto → R (List (D × D))}
/-- the values of pairs -/
def DPs (K : PySem.W.Frag) (H : Hp) (θ : List Addr) (ps : List (D × D)) (qs : List (V × V)) : Prop := Paired (fun p q => DV K H θ p.1 q.1 ∧ DV K H θ p.2 q.2) ps qs
def PostP (K : PySem.W.Frag) (w : World) (mg : Str → Option Value) (θ : List Addr) (H : Hp) (r : R (List (D × D))) (Q : List (V × V) → Hp → Prop) (E : XK) : Prop := match r with
  | .ok d S' => ∀ θ' H' v, Fut H θ H' θ' → Rl K w H' θ' S' → DPs K H' θ' d v → Q v H'
  | .ex c S' => ∀ θ' H' cls dd, Fut H θ H' θ' → Rl K w H' θ' S' → ExR K mg H' θ' c cls dd → E cls dd H'
  | .no => False
theorem PostP.since {K : PySem.W.Frag} {w : World} {mg : Str → Option Value} {θ θ1 : List Addr} {H H1 : Hp} {E : XK} {r : R (List (D × D))} {Q : List (V × V) → Hp → Prop} (f : Fut H θ H1 θ1) (h : PostP K w mg θ H r Q E) : PostP K w mg θ1 H1 r Q E := by
  cases r with
  | ok d S => exact fun θ' H' v g => h θ' H' v (f.trans g)
  | ex c S => exact fun θ' H' cls dd g => h θ' H' cls dd (f.trans g)
  | no => exact h
/-- the pairs of a display -/
def DP (X : Cx) (W : WX) (pos : Pos) (ks : List (Option Expr)) (vs : List Expr) (f : Env → Sto → R (List (D × D))) : Prop := ∃ trs, PPs X pos ks vs trs ∧ ∀ θ σ ρ H S Q, Rl X.K X.w H θ S → SlV X.K H θ ρ σ → PostP X.K X.w X.mg θ H (f ρ S) Q (fun c d H' => W c d σ H') → tPairs trs σ H Q
theorem dp_nil : DP X W pos [] [] fpNil := ⟨[], pps_nil, fun θ σ ρ H S Q r sl h => h θ H [] .refl r .nil⟩
theorem dp_cons (hk : DE X W ek fk) (hv : DE X W ev fv) (hr : DP X W pos ks vs fp) : DP X W pos (some ek :: ks) (ev :: vs) (fpCons fk fv fp) := by
  obtain ⟨tk, pk, qk⟩ := hk
  obtain ⟨tv, pv, qv⟩ := hv
  obtain ⟨trs, pr, qr⟩ := hr
  refine ⟨(tk, tv) :: trs, pps_cons pk pv pr, fun θ σ ρ H S Q r sl h => ?_⟩
  show tk σ H _
  refine qk θ σ ρ H S _ r sl ?_
  unfold fpCons at h
  cases ea : fk ρ S with
  | no => rw [ea] at h; exact h
  | ex c S' => rw [ea] at h; exact h
  | ok x S1 =>
    rw [ea] at h
    intro θ1 H1 v f1 r1 dv1
    refine qv θ1 σ ρ H1 S1 _ r1 (sl.later f1) ?_
    dsimp only [R.bind] at h
    cases eb : fv ρ S1 with
    | no => rw [eb] at h; exact h
    | ex c S' => rw [eb] at h; exact PostP.since f1 h
    | ok y S2 =>
      rw [eb] at h
      intro θ2 H2 w f2 r2 dv2
      refine qr θ2 σ ρ H2 S2 _ r2 ((sl.later f1).later f2) ?_
      dsimp only [R.bind] at h
      cases ec : fp ρ S2 with
      | no => rw [ec] at h; exact h
      | ex c S' => rw [ec] at h; exact PostP.since (f1.trans f2) h
      | ok ps S3 =>
        rw [ec] at h
        intro θ3 H3 qs f3 r3 dps
        exact h θ3 H3 _ ((f1.trans f2).trans f3) r3 (.cons ⟨DV.later (f2.trans f3) _ _ dv1, DV.later f3 _ _ dv2⟩ dps)
theorem keysOf_rel {K : PySem.W.Frag} {H : Hp} {θ : List Addr} : ∀ {ps : List (D × D)} {qs : List (V × V)} {kvs : List (Key × D)}, DPs K H θ ps qs → keysOf ps = some kvs → ∃ us : List (Key × V), qs = us.map (fun kv => (kV kv.1, kv.2)) ∧ us.map (·.1) = kvs.map (·.1) ∧ DVs K H θ (kvs.map (·.2)) (us.map (·.2)) := by
  intro ps qs kvs h
  induction h generalizing kvs with
  | nil => intro e; cases e; exact ⟨[], rfl, rfl, rfl⟩
  | @cons p q ps qs h t ih =>
    intro e
    obtain ⟨k, v⟩ := p
    obtain ⟨x, e1, e⟩ := Option.bind_eq_some_iff.mp e
    obtain ⟨l, e2, rfl⟩ := Option.map_eq_some_iff.mp e
    obtain ⟨us, h1, h2, h3⟩ := ih e2
    have hk := keyK_of e1 h.1
    refine ⟨(x, q.2) :: us, by rw [List.map_cons, ← h1, ← hk], by simp [h2], q.2, _, rfl, h.2, h3⟩
theorem merge_rel {K : PySem.W.Frag} {H : Hp} {θ : List Addr} : ∀ {more : List (Key × D)} {us : List (Key × V)} {kvs : List (Key × D)} {vs : List (Key × V)}, us.map (·.1) = more.map (·.1) → DVs K H θ (more.map (·.2)) (us.map (·.2)) → vs.map (·.1) = kvs.map (·.1) → DVs K H θ (kvs.map (·.2)) (vs.map (·.2)) →
    (mergeK vs us).map (·.1) = (mergeKD kvs more).map (·.1) ∧ DVs K H θ ((mergeKD kvs more).map (·.2)) ((mergeK vs us).map (·.2))
  | [], us, kvs, vs, h1, h2, h3, h4 => by
    cases us with
    | nil => exact ⟨h3, h4⟩
    | cons _ _ => cases h1
  | p :: ps, [], kvs, vs, h1, h2, h3, h4 => by cases h1
  | p :: ps, q :: qs, kvs, vs, h1, h2, h3, h4 => by
    rw [List.map_cons, List.map_cons] at h1 h2
    injection h1 with e1 e2
    obtain ⟨w, r, e, d1, d2⟩ := h2
    injection e with e3 e4
    subst e3 e4
    obtain ⟨j1, j2⟩ := putK_rel (k := p.1) d1 h3 h4
    have := merge_rel (kvs := putKD kvs p.1 p.2) (vs := putK vs p.1 q.2) e2 d2 j1 j2
    show (mergeK (putK vs q.1 q.2) qs).map (·.1) = (mergeKD (putKD kvs p.1 p.2) ps).map (·.1) ∧ DVs K H θ ((mergeKD (putKD kvs p.1 p.2) ps).map (·.2)) ((mergeK (putK vs q.1 q.2) qs).map (·.2))
    rw [show q.1 = p.1 from e1]
    exact this
theorem de_disp (h : DP X W pos ks vs fp) (hall : ks.all (·.isSome) = true := by rfl) (hl : ks.length = vs.length := by rfl) (h0 : ks ≠ [] := by exact fun h => nomatch h) (h15 : ks.length ≤ 15 := by decide) : DE X W (.Dict ks vs pos) (fDisp fp) := by
  obtain ⟨trs, pp, q⟩ := h
  refine ⟨_, pe_disp pp hall hl h0 h15, fun θ σ ρ H S Q r sl h p hp => ?_⟩
  have f1 : Fut H θ (upd H p (.dK [])) (θ ++ [p]) := Fut.newN hp
  refine q (θ ++ [p]) σ ρ _ (S ++ [.dK []]) _ (r.newN (ob := .dK []) hp ⟨[], upd_same, rfl, rfl⟩) (sl.later f1) ?_
  unfold fDisp at h
  cases e : fp ρ (S ++ [.dK []]) with
  | no => rw [e] at h; exact h
  | ex c S' =>
    rw [e] at h
    exact fun θ' H' cls dd g r' x => h θ' H' cls dd (f1.trans g) r' x
  | ok ps S2 =>
    rw [e] at h
    intro θ2 H2 qs f2 r2 dps
    dsimp only [R.bind] at h
    have hat : θ2[S.length]? = some p := f2.at (by rw [← r.len]; simp)
    split at h
    · rename_i kvs e1 e2
      obtain ⟨vs, hv, k1, k2⟩ := r2.at_ _ _ p e1 hat
      have hvs : vs = [] := by
        cases vs with
        | nil => rfl
        | cons _ _ => cases k1
      subst hvs
      split at h
      · rename_i hz
        obtain ⟨us, u1, u2, u3⟩ := keysOf_rel dps e2
        have hl : us.length = kvs.length := by have := congrArg List.length u2; simpa using this
        obtain ⟨m1, m2⟩ := merge_rel (kvs := []) (vs := []) u2 u3 rfl rfl
        have f3 : Fut H2 θ2 (upd H2 p (.dK (mergeK [] us))) θ2 := Fut.chg hv fun z => z
        exact ⟨hv, us, u1, by rw [hl]; exact hz, h θ2 _ _ ((f1.trans f2).trans f3) (r2.chg (ob := .dK (mergeKD [] kvs)) hat fun H' f' e' => ⟨mergeK [] us, by rw [e', upd_same], m1, DVs.later f' _ _ m2⟩) ⟨p, rfl, hat⟩⟩
      · exact h.elim
    · exact h.elim
end
end Y

set_option Elab.async false
set_option linter.all false
set_option maxRecDepth 100000
set_option maxHeartbeats 2000000
/-! YTidy: what an expression leaves in the store and nobody holds is let go. -/
namespace Y
open PySem L2
mutual
/-- no number of the store -/
def flatD : D → Bool
  | .tup ds => flatDs ds
  | .ro ds => flatDs ds
  | .ref _ => false
  | _ => true
def flatDs : List D → Bool
  | [] => true
  | d :: ds => flatD d && flatDs ds
end
/-- the value of r, made at S, with as little as can be behind S -/
def tidyR (S : Sto) (r : R D) : R D := match r with
  | .ok d S' => if S'.take S.length = S then (if flatD d = true then .ok d S else match d with
      | .ref i => if S.length ≤ i then (match S'[i]? with
        | some (.lst ds) => if flatDs ds = true then .ok (.ref S.length) (S ++ [.lst ds]) else .ok d S'
        | _ => .ok d S') else .ok d S'
      | _ => .ok d S') else .ok d S'
  | .ex c S' => if S'.take S.length = S ∧ flatDs (c.fs.map (·.2)) = true then .ex c S else .ex c S'
  | .no => .no
section
variable {K : PySem.W.Frag} {w : World} {mg : Str → Option Value} {H H' : Hp} {θ θ' m : List Addr}
mutual
theorem DV.back : ∀ (d : D) (u v : V), DV K H θ d u → DV K H' (θ ++ m) d v → DV K H' θ d v
  | .non, _, _, _, h => h
  | .bl _, _, _, _, h => h
  | .int _, _, _, _, h => h
  | .str _, _, _, _, h => h
  | .tup ds, _, _, ⟨_, us, _, _, h0⟩, ⟨a, vs, e, hs, h⟩ => ⟨a, vs, e, hs, DVs.back ds us vs h0 h⟩
  | .ro ds, _, _, ⟨_, us, _, _, h0⟩, ⟨a, vs, e, hs, h⟩ => ⟨a, vs, e, hs, DVs.back ds us vs h0 h⟩
  | .ref i, _, _, ⟨a0, _, h0⟩, ⟨a, e, h⟩ => ⟨a, e, by
    rw [List.getElem?_append_left (List.getElem?_eq_some_iff.mp h0).1] at h
    exact h⟩
theorem DVs.back : ∀ (ds : List D) (us vs : List V), DVs K H θ ds us → DVs K H' (θ ++ m) ds vs → DVs K H' θ ds vs
  | [], _, _, _, h => h
  | d :: ds, _, _, ⟨u, ur, _, h0, h1⟩, ⟨v, vr, e, h2, h3⟩ => ⟨v, vr, e, DV.back d u v h0 h2, DVs.back ds ur vr h1 h3⟩
end
mutual
theorem DV.flat : ∀ (d : D) (v : V), flatD d = true → DV K H θ d v → DV K H θ' d v
  | .non, _, _, h => h
  | .bl _, _, _, h => h
  | .int _, _, _, h => h
  | .str _, _, _, h => h
  | .tup ds, _, f, ⟨a, vs, e, hs, h⟩ => ⟨a, vs, e, hs, DVs.flat ds vs f h⟩
  | .ro ds, _, f, ⟨a, vs, e, hs, h⟩ => ⟨a, vs, e, hs, DVs.flat ds vs f h⟩
  | .ref i, _, f, _ => absurd (show false = true from f) (by decide)
theorem DVs.flat : ∀ (ds : List D) (vs : List V), flatDs ds = true → DVs K H θ ds vs → DVs K H θ' ds vs
  | [], _, _, h => h
  | d :: ds, _, f, ⟨v, vr, e, h2, h3⟩ => by
    have f' : flatD d = true ∧ flatDs ds = true := by simpa [flatDs] using f
    exact ⟨v, vr, e, DV.flat d v f'.1 h2, DVs.flat ds vr f'.2 h3⟩
end
theorem EntR.back {kvs : List (D × D)} {xs0 xs : List (NestedKey × Addr × Value)} (h0 : Paired (EntR K H θ) kvs xs0) (h : Paired (EntR K H' (θ ++ m)) kvs xs) : Paired (EntR K H' θ) kvs xs := by
  induction h0 generalizing xs with
  | nil => cases h; exact .nil
  | @cons p q ps qs e t ih =>
    cases h with
    | cons e' t' =>
      obtain ⟨_, _, g3, u, _, g5⟩ := e
      obtain ⟨h1, h2, h3, v, h4, h5⟩ := e'
      exact .cons ⟨h1, h2, DV.back _ _ _ g3 h3, v, h4, DV.back _ _ _ g5 h5⟩ (ih t')
theorem ObR.back {a0 a : Addr} {o : O} (h0 : ObR K w H θ a0 o) (h : ObR K w H' (θ ++ m) a o) : ObR K w H' θ a o := by
  cases o with
  | lst ds => obtain ⟨us, _, d0⟩ := h0; obtain ⟨vs, q, d⟩ := h; exact ⟨vs, q, DVs.back _ _ _ d0 d⟩
  | dK ds => obtain ⟨us, _, _, d0⟩ := h0; obtain ⟨vs, q, k, d⟩ := h; exact ⟨vs, q, k, DVs.back _ _ _ d0 d⟩
  | dN ds => obtain ⟨us, _, d0⟩ := h0; obtain ⟨vs, q, d⟩ := h; exact ⟨vs, q, EntR.back d0 d⟩
/-- back to the old numbers -/
theorem Rl.back {S S' : Sto} (r0 : Rl K w H θ S) (r : Rl K w H' (θ ++ m) S') (e : S'.take S.length = S) : Rl K w H' θ S := by
  refine ⟨r0.len, r0.nd, fun i o a h1 h2 => ?_⟩
  have hi : i < S.length := (List.getElem?_eq_some_iff.mp h1).1
  have h1' : S'[i]? = some o := by rw [← e, List.getElem?_take_of_lt hi] at h1; exact h1
  have h2' : (θ ++ m)[i]? = some a := by rw [List.getElem?_append_left (by rw [r0.len]; exact hi)]; exact h2
  exact ObR.back (r0.at_ i o a h1 h2) (r.at_ i o a h1' h2')
/-- .. and one more, a list without numbers -/
theorem Rl.backL {S S' : Sto} {i : Nat} {a : Addr} {ds : List D} (r0 : Rl K w H θ S) (r : Rl K w H' (θ ++ m) S') (e : S'.take S.length = S) (hi : S.length ≤ i) (hs : S'[i]? = some (.lst ds)) (ha : (θ ++ m)[i]? = some a) (f : flatDs ds = true) : Rl K w H' (θ ++ [a]) (S ++ [.lst ds]) := by
  have rb := r0.back r e
  have fu : Fut H' θ H' (θ ++ [a]) := ⟨⟨[a], rfl⟩, fun _ _ _ h => h⟩
  have hna : a ∉ θ := fun hm => by
    obtain ⟨j, hj, ej⟩ := List.mem_iff_getElem.mp hm
    have hj2 : (θ ++ m)[j]? = some a := by rw [List.getElem?_append_left hj]; simp [hj, ej]
    have := nd_ix r.nd hj2 ha
    have := r0.len
    omega
  refine ⟨by simp [r0.len], ?_, fun j o b h1 h2 => ?_⟩
  · rw [List.nodup_append]
    refine ⟨r0.nd, by simp, fun x hx y hy => ?_⟩
    have : y = a := by simpa using hy
    subst this
    exact fun z => hna (z ▸ hx)
  · by_cases hj : j < S.length
    · rw [List.getElem?_append_left hj] at h1
      rw [List.getElem?_append_left (by rw [r0.len]; exact hj)] at h2
      exact (rb.at_ j o b h1 h2).later fu rfl
    · have hj' : j = S.length := by
        have := (List.getElem?_eq_some_iff.mp h1).1
        simp at this
        omega
      subst hj'
      rw [List.getElem?_append_right (Nat.le_refl _)] at h1
      rw [List.getElem?_append_right (by rw [r0.len]; exact Nat.le_refl _)] at h2
      simp [r0.len] at h1 h2
      subst h1 h2
      obtain ⟨vs, hv, d⟩ := r.at_ i _ a hs ha
      exact ⟨vs, hv, DVs.flat _ _ f d⟩
theorem tidy_post {S : Sto} {r : R D} {Q : VK} {E : XK} (r0 : Rl K w H θ S) (h : PostV K w mg θ H (tidyR S r) Q E) : PostV K w mg θ H r Q E := by
  cases r with
  | no => exact h
  | ex c S' =>
    unfold tidyR at h
    dsimp only at h
    split at h
    · rename_i hc
      intro θ1 H1 cls dd f r1 x
      obtain ⟨m, rfl⟩ := f.pre
      refine h θ H1 cls dd ⟨⟨[], by simp⟩, f.imm⟩ (r0.back r1 hc.1) ⟨x.1, fun g d hg => ?_, x.2.2⟩
      obtain ⟨a, fs, v, e1, e2, e3, e4⟩ := x.2.1 g d hg
      have fl : ∀ {l : List (Str × D)}, flatDs (l.map (·.2)) = true → (g, d) ∈ l → flatD d = true := by
        intro l
        induction l with
        | nil => intro _ hm; cases hm
        | cons p l ih =>
          intro hf hm
          have hf' : flatD p.2 = true ∧ flatDs (l.map (·.2)) = true := by simpa [flatDs] using hf
          rcases List.mem_cons.mp hm with z | z
          · rw [← z] at hf'; exact hf'.1
          · exact ih hf'.2 z
      exact ⟨a, fs, v, e1, e2, e3, DV.flat _ _ (fl hc.2 hg) e4⟩
    · exact h
  | ok d S' =>
    unfold tidyR at h
    dsimp only at h
    split at h
    · rename_i e
      split at h
      · rename_i fd
        intro θ1 H1 v f r1 dv
        obtain ⟨m, rfl⟩ := f.pre
        exact h θ H1 v ⟨⟨[], by simp⟩, f.imm⟩ (r0.back r1 e) (DV.flat _ _ fd dv)
      · split at h
        · rename_i i
          split at h
          · rename_i hi
            split at h
            · rename_i ds hs
              split at h
              · rename_i fd
                intro θ1 H1 v f r1 dv
                obtain ⟨m, rfl⟩ := f.pre
                obtain ⟨a, rfl, ha⟩ := dv
                exact h (θ ++ [a]) H1 _ ⟨⟨[a], rfl⟩, f.imm⟩ (r0.backL r1 e hi hs ha fd) ⟨a, rfl, by rw [← r0.len]; simp⟩
              · exact h
            · exact h
          · exact h
        · exact h
    · exact h
end
def fTidy (f : FE) : FE := fun ρ S => tidyR S (f ρ S)
theorem DE.tidy {X : Cx} {W : WX} {e : Expr} {f : FE} (h : DE X W e f) : DE X W e (fTidy f) := by
  obtain ⟨t, p, q⟩ := h
  exact ⟨t, p, fun θ σ ρ H S Q r sl h => q θ σ ρ H S Q r sl (tidy_post r h)⟩
def FF.tidy (F : FF) : FF := fun ds S => tidyR S (F ds S)
theorem DF.tidy {P : Program} {w : World} {K : PySem.W.Frag} {mg : Str → Option Value} {base : Heap} {k : Nat} {x : Str} {st : Stmt} {F : FF} (d : DF P w K mg base k x st F) : DF P w K mg base k x st (FF.tidy F) := by
  obtain ⟨f, fd, a, b, c⟩ := d.ex
  have imp : ∀ vs H Q E, spF K w mg (pars st).length (FF.tidy F) vs H Q E → spF K w mg (pars st).length F vs H Q E := fun vs H Q E ⟨h1, θ, S, ds, r, dv, h⟩ => ⟨h1, θ, S, ds, r, dv, tidy_post r h⟩
  exact ⟨f, fd, a, b, fun vs H Q E h => c.len vs H Q E (imp _ _ _ _ h), fun A outer s H args us vs Q E hr e0 hb rv h => c.run A outer s H args us vs Q E hr e0 hb rv (imp _ _ _ _ h)⟩
/-! the equations -/
theorem tidy_flat {S G : Sto} {r : R D} {d : D} (e : r = .ok d (S ++ G)) (f : flatD d = true) : tidyR S r = .ok d S := by
  subst e; simp [tidyR, f]
theorem tidy_lst {S G : Sto} {r : R D} {i : Nat} {ds : List D} (e : r = .ok (.ref i) (S ++ G)) (hi : S.length ≤ i) (hg : G[i - S.length]? = some (.lst ds)) (f : flatDs ds = true) : tidyR S r = .ok (.ref S.length) (S ++ [.lst ds]) := by
  subst e
  have : (S ++ G)[i]? = some (.lst ds) := by rw [List.getElem?_append_right hi]; exact hg
  simp [tidyR, flatD, hi, this, f]
end Y

set_option Elab.async false
set_option linter.all false
set_option maxRecDepth 100000
set_option maxHeartbeats 2000000
/-! YDict3: the keys of a dict in their order: sorted(d), list(d). -/
namespace Y
open PySem L2
section
open PySem.W PySem.Calls PyProof.Rows
variable {prog : Program} {w : World} {A : Around} {E : Value → Shared → Prop} {s : Shared}
/-- the dict's raw object -/
def RawD (d : Addr) (es : Array DictEntry) (ep : Nat) (h : Heap) : Prop := ∃ o, h.get? d = some o ∧ o.ExactDict ∧ o.data = .dict es ep
theorem walks_raw (hh : A.handled = none) (I d : Addr) (hne : d ≠ I) (es : Array DictEntry) (ep : Nat) :
    Walks prog w A I [I, d] [I] es.size (fun i v => ∃ en, es[i]? = some en ∧ v = en.key) (fun i h => h.IsKeyIter I d i es.size ep ∧ RawD d es ep h) where
  sub := fun b hb => List.mem_cons.mpr (.inl (List.mem_singleton.mp hb))
  frame := fun _ _ _ st hk => ⟨st.1.at fun o e => hk I (by simp) o e, let ⟨o, e, r⟩ := st.2; ⟨o, hk d (by simp) o e, r⟩⟩
  item := fun i s Q E hi ⟨s1, o, e, x, dt⟩ hQ => by
    have hx : es[i]? = some es[i] := by simp [hi]
    refine next_key_item s1 e dt rfl hx fun h' hit' sb => ?_
    exact hQ _ h' s.toks ⟨_, hx, rfl⟩ ⟨hit', o, sb.extBut d o hne e, x, dt⟩ fun b o hb e => sb.extBut b o (fun z => hb (by simp [z])) e
  done := fun s Q E ⟨s1, o, e, x, dt⟩ hQ => next_key_end hh s1 e dt rfl (Nat.le_refl _) fun h' he' => hQ h' s.toks fun b o hb e => he' b o (fun z => hb (by simp [z])) e
  self := fun _ _ _ _ st hQ => wpAny_pyIter_keyiter st.1 hQ
theorem src_raw {d : Addr} {es : Array DictEntry} {ep : Nat} (lo : (d == sysModules) = false) : KdlSrc prog w "dict" d d es.size (fun i v => ∃ en, es[i]? = some en ∧ v = en.key) (RawD d es ep) where
  type := fun _ ⟨o, e, x, _⟩ => ⟨o, e, x.1⟩
  there := fun _ ⟨o, e, _⟩ => ⟨Heap.lt_size e, Heap.lt_size e⟩
  keep := fun _ _ ⟨o, e, r⟩ hk => ⟨o, hk d (.inl rfl) o e, r⟩
  notList := by decide
  notTuple := by decide
  hint := fun _ _ _ _ ⟨o, e, x, _⟩ hq => kdl_hint_dict ⟨o, e, x.1⟩ hq
  iter := fun _ _ hh ⟨o, e, x, dt⟩ => ⟨_, _, (fun _ _ hq => iter_keys lo e x dt hq), walks_raw hh _ d (Nat.ne_of_lt (Heap.lt_size e)) es ep, ⟨⟨_, Heap.get?_push_size _ rfl, rfl, rfl⟩, o, Heap.get?_push_of_some _ e, x, dt⟩⟩
/-- sorted(xs), however xs is gathered -/
theorem sorted_gen {l : Addr} {Q : Value → Shared → Prop} {R : Value → D → Prop} {bs : List D} {enc : D → PyData}
    (hcol : wpAny (model prog w) A.in1 (collect (.ref l)) (fun vs s1 => (EachIs R vs bs ∧ EachIs (fun v b => ∃ as, Reads s1.heap v (enc b) as) vs bs) ∧
      ∀ out, out.length = bs.length → EachIs R out (bs.mergeSort (dataLe false enc)) → ∀ h' e, (∀ b o, s1.heap.get? b = some o → h'.get? b = some o) → h'.get? s1.heap.objs.size = some (seqObj "list" (List.toArray out) e) → Q (.ref s1.heap.objs.size) { s1 with heap := h' }) E s)
    (hal : AllAlike (bs.map enc)) (hk : Sortable (bs.map enc)) (hL : bs.length ≤ sizeLine) (hu : ∀ b, b ∈ bs → A.units + 2 + (enc b).depth < cLine) : wpAny (model prog w) A (call (.builtin "sorted") [.ref l]) Q E s := by
  refine call_function_entry kind_sorted plain_sorted entry_sorted (args_sorted1 _) ?_
  unfold Builtin.«sorted»
  refine wpAny_bind (m := checkCount "sorted" 1 1 _) (wpAny_pure (wpAny_bind (wpAny_mono hcol (fun vs s1 hs => ?_) fun _ _ z => z)))
  obtain ⟨⟨e, er⟩, fin⟩ := hs
  obtain ⟨h1, g1, d1, t1, o1⟩ := s1
  have hL' : vs.length ≤ sizeLine := by rw [e.length]; exact hL
  have hat : (h1.push (seqObj "list" vs.toArray 0)).get? h1.objs.size = some (seqObj "list" vs.toArray 0) := Heap.get?_push_size _ rfl
  have old : ∀ b o, h1.get? b = some o → (sortingHeap (h1.push (seqObj "list" vs.toArray 0)) h1.objs.size vs).get? b = some o := fun b o z => sortingHeap_old (Nat.ne_of_lt (Heap.lt_size z)) (Heap.get?_push_of_some _ z)
  have er' : EachIs (fun v b => ∃ as, Reads (sortingHeap (h1.push (seqObj "list" vs.toArray 0)) h1.objs.size vs) v (enc b) as) vs bs := er.mono fun _ _ ⟨as, r⟩ => ⟨as, PyProof.Rows.Reads.keeps (fun b o => old b o) r⟩
  have S : SortsAt prog w A.in1.in1 ⟨sortingHeap (h1.push (seqObj "list" vs.toArray 0)) h1.objs.size vs, g1, d1, t1, o1⟩ (dataKind (sortingHeap (h1.push (seqObj "list" vs.toArray 0)) h1.objs.size vs) (bs.map enc)) vs :=
    SortsAt.data (s := ⟨sortingHeap (h1.push (seqObj "list" vs.toArray 0)) h1.objs.size vs, g1, d1, t1, o1⟩) (each_map (R := fun v d => ∃ as, Reads (sortingHeap (h1.push (seqObj "list" vs.toArray 0)) h1.objs.size vs) v d as) enc er') hal hk (bound_map hu)
  refine wpAny_bind (wpAny_newList ?_ hL')
  show wpAny _ _ _ _ _ ⟨h1.push (seqObj "list" vs.toArray 0), g1, d1, t1, o1⟩
  refine wpAny_bind (wpAny_holding (wpAny_call_entry_kw slot_list_sort ⟨_, hat, rfl⟩ entry_list_sort (list_sort_vals (s := ⟨h1.push (seqObj "list" vs.toArray 0), g1, d1, t1, o1⟩) hat S hL' ⟨_, rfl, wpAny_pure ⟨_, rfl, ?_⟩⟩) (args_list_sort _)))
  obtain ⟨e', he'⟩ := sortedHeap_at (vs := vs) (out := (sortVals (dataKind (sortingHeap (h1.push (seqObj "list" vs.toArray 0)) h1.objs.size vs) (bs.map enc)) false vs vs).toArray) hat
  refine fin _ (by rw [sortVals_length false rfl]; exact e.length) (sortVals_data false e er' hal) _ e' (fun b o z => ?_) he'
  have hb := Heap.lt_size z
  rw [sortedHeap_old (Nat.ne_of_lt hb) (by rw [size_push']; exact Nat.lt_succ_of_lt hb)]
  exact Heap.get?_push_of_some _ z
end
end Y

namespace Y
open PySem L2
def keyD : Key → D
  | .inl i => .int i
  | .inr x => .str x
/-- the keys of a dict -/
def dKeys (x : D) (S : Sto) : Option (List D) := match x with
  | .ref i => match S[i]? with
    | some (.dK kvs) => some (kvs.map fun kv => keyD kv.1)
    | some (.dN kvs) => some (kvs.map (·.1))
    | _ => none
  | _ => none
theorem dv_keyD {K : PySem.W.Frag} {H : Hp} {θ : List Addr} (k : Key) : DV K H θ (keyD k) (kV k) := by
  cases k with
  | inl i => exact rfl
  | inr x => exact rfl
section
variable {X : Cx} {pins : List (Addr × Obj)} {σ : L2.St} {H : Hp} {s : Shared} {θ : List Addr} {S : Sto}
theorem pairs_keys {P : Program} {w : World} : ∀ {l : List DictEntry} {vs : List (Key × Value)}, Pairs (mixKind P w) l vs → ∃ ws, Vals ws (l.map (·.key)) ∧ ∀ {K : PySem.W.Frag} {H : Hp} {θ : List Addr}, DVs K H θ (vs.map fun kv => keyD kv.1) ws := by
  intro l vs h
  induction h with
  | nil => exact ⟨[], .nil, rfl⟩
  | @cons e kv es kvs hk hv t ih =>
    obtain ⟨ws, rv, d⟩ := ih
    exact ⟨kV kv.1 :: ws, .cons (relV_key hk) rv, fun {K H θ} => ⟨_, _, rfl, dv_keyD kv.1, d⟩⟩
theorem keys_raw (I : Inv X pins σ H s) (r : Rl X.K X.w H θ S) {x : D} {v : V} {ks : List D} (dv : DV X.K H θ x v) (h : dKeys x S = some ks) :
    ∃ a es ep ws, v = .ref a ∧ (a == sysModules) = false ∧ RawD a es ep s.heap ∧ es.size ≤ sizeLine ∧ DVs X.K H θ ks ws ∧ Vals ws (es.toList.map (·.key)) := by
  unfold dKeys at h
  split at h
  · rename_i i
    obtain ⟨a, rfl, ha⟩ := dv
    split at h
    · rename_i kvs e
      cases h
      obtain ⟨us, hv, h1, h2⟩ := r.at_ i _ a e ha
      obtain ⟨z, lo, vs, rel, o, es, ep, ho, hx, hd, hk, hp, hn⟩ := dk_rd I.hok (.inl hv)
      obtain ⟨ws, rw, dw⟩ := pairs_keys hp
      have e1 : (vs.map (·.1)) = kvs.map (·.1) := rel.keys.symm.trans h1
      have e2 : (vs.map fun kv => keyD kv.1) = kvs.map fun kv => keyD kv.1 := by
        have := congrArg (List.map keyD) e1
        rw [List.map_map, List.map_map] at this
        exact this
      refine ⟨a, es, ep, ws, rfl, lo, ⟨o, ho, hx, hd⟩, ?_, by rw [← e2]; exact dw, rw⟩
      have l1 := rw.length
      have l2 := (dw (K := X.K) (H := H) (θ := θ)).length
      have l3 := rel.length
      simp at l1 l2
      omega
    · rename_i kvs e
      cases h
      obtain ⟨xs, hv, h3⟩ := r.at_ i _ a e ha
      obtain ⟨z, lo, hn, o, es, ep, ho, hx, hd, he⟩ := dct_ok I.hok hv
      have key : ∀ {kvs : List (D × D)} {xs : List (NestedKey × Addr × Value)}, Paired (EntR X.K H θ) kvs xs → ∃ ws, DVs X.K H θ (kvs.map (·.1)) ws ∧ Vals ws (xs.map fun x => Value.ref x.2.1) := by
        intro kvs xs h
        induction h with
        | nil => exact ⟨[], rfl, .nil⟩
        | @cons p q ps qs h t ih =>
          obtain ⟨ws, d, v⟩ := ih
          exact ⟨.ref q.2.1 :: ws, ⟨_, _, rfl, h.2.2.1, d⟩, .cons rfl v⟩
      obtain ⟨ws, d, v⟩ := key h3
      refine ⟨a, es, ep, ws, rfl, lo, ⟨o, ho, hx, hd⟩, ?_, d, ?_⟩
      · rw [← Array.length_toList, he, List.length_map]; exact z
      · rw [he, List.map_map]; exact v
    · cases h
  · cases h
end
/-- the items that sorted, list see -/
def seqK (x : D) (S : Sto) : Option (List D) := match seqD x S with
  | some xs => some xs
  | none => dKeys x S
def dSortedK : FF := fun ds S => match ds with
  | [x] => match dKeys x S with
    | some xs => match pyAll S xs with
      | some ps => if srtOk ps = true ∧ xs.length ≤ sizeLine then .ok (.ref S.length) (S ++ [.lst (srtD S xs)]) else .no
      | none => .no
    | none => .no
  | _ => .no
def dListK : FF := fun ds S => match ds with
  | [x] => match dKeys x S with
    | some xs => .ok (.ref S.length) (S ++ [.lst xs])
    | none => .no
  | _ => .no
section
variable {X : Cx}
def rSortK (X : Cx) : List V → Hp → VK → Prop := fun vs H Q => ∃ θ S x v xs ps, Rl X.K X.w H θ S ∧ vs = [v] ∧ DV X.K H θ x v ∧ dKeys x S = some xs ∧ pyAll S xs = some ps ∧ srtOk ps = true ∧ xs.length ≤ sizeLine ∧
  ∀ p ws, H p = none → DVs X.K H θ (srtD S xs) ws → Q (.ref p) (upd H p (.lst ws))
theorem cr_sortK (hc : X.calm = true) (hu : X.A.units + 66 < cLine) : CallR X (.builtin "sorted") (rSortK X) := by
  intro pins s σ H vs us Q I r h
  obtain ⟨θ, S, x, v, xs, ps, rl, rfl, dv, hx, hp, hs, hz, q⟩ := h
  obtain ⟨a, es, ep, ws, rfl, lo, raw, hsz, dws, rws⟩ := keys_raw I rl dv hx
  rw [Vals.ref1 r]
  obtain ⟨eps, hall⟩ := pyAll_map hp
  unfold srtOk at hs
  rw [Bool.and_eq_true] at hs
  have hA : ∀ d ∈ xs, noList (enc S d) = true ∧ SeqAt.shaped (enc S d) = true ∧ ∀ d' ∈ xs, PySem.W.alike (enc S d) (enc S d') = true := fun d hd => by
    have h1 := List.all_eq_true.mp hs.1 (enc S d) (by rw [eps]; exact List.mem_map_of_mem hd)
    rw [Bool.and_eq_true, Bool.and_eq_true] at h1
    exact ⟨h1.1.1, h1.1.2, fun d' hd' => List.all_eq_true.mp h1.2 _ (by rw [eps]; exact List.mem_map_of_mem hd')⟩
  refine sorted_gen (bs := xs) (enc := enc S) (R := fun u d => ∃ v, RelV v u ∧ DV X.K H θ d v) ?_ (fun d hd d' hd' => ?_) ?_ hz (fun b hb => ?_)
  · refine PySem.W.kdu_collect (src_raw lo) (I.ok.hd hc) raw hsz fun h' tk acc hk hacc => ?_
    have eacc : acc.toList = es.toList.map (·.key) := by
      refine List.ext_getElem? fun j => ?_
      rw [List.getElem?_map, Array.getElem?_toList, Array.getElem?_toList]
      by_cases hj : j < es.size
      · have hj2 : j < acc.size := by rw [hacc.1]; exact hj
        obtain ⟨en, e1, e2⟩ := hacc.2 j acc[j] (by simp [hj2])
        rw [e1]; simp [hj2, e2]
      · have hj2 : ¬ j < acc.size := by rw [hacc.1]; exact hj
        rw [Array.getElem?_eq_none (by omega), Array.getElem?_eq_none (by omega)]; rfl
    have I1 : Inv X pins σ H { s with heap := h', toks := tk } := I.kept (h' := h') (t' := tk) hk
    have e0 := each_of dws rws
    rw [← eacc] at e0
    refine ⟨⟨e0, ?_⟩, fun out ho eo h2 e2 k2 g2 => ?_⟩
    · have hmem : ∀ {l : List D} {us : List Value}, (∀ d ∈ l, pyN S d = some (enc S d)) → PySem.W.EachIs (fun u d => ∃ v, RelV v u ∧ DV X.K H θ d v) us l → PySem.W.EachIs (fun u d => ∃ as, Reads h' u (enc S d) as) us l := by
        intro l us hl e
        induction e with
        | nil => exact .nil
        | cons h t ih =>
          obtain ⟨v, r, dv⟩ := h
          exact .cons (Dp.reads I1 _ v _ (dp_of rl dv (hl _ List.mem_cons_self)) r) (ih fun d hd => hl d (List.mem_cons_of_mem _ hd))
      exact hmem hall e0
    · rw [mergeSort_isort (show PySem.W.TotalLe (PySem.W.dataLe false (enc S)) from PySem.W.sortLe_total _ _ _), isort_congr (le' := fun a b => leP (enc S a) (enc S b)) (fun a ha b hb => ?_)] at eo
      · obtain ⟨ws', rw', dw'⟩ := of_each eo
        have hlen : ws'.length ≤ sizeLine := by rw [rw'.length, ho]; exact hz
        exact ⟨.ref _, upd H h'.objs.size (.lst ws'), I1.laid (h' := h2) (t' := tk) k2 (Nat.le_refl _) ⟨hlen, out, e2, rw', g2⟩, rfl, q _ _ (I1.hok.fresh (Nat.le_refl _)) dw'⟩
      · show (!PySem.W.dataLt (enc S b) (enc S a)) = leP (enc S a) (enc S b)
        unfold leP
        rw [dataLt_cmp _ _ ((hA b hb).2.2 a ha) (fun l z => by have := (hA b hb).1; rw [z] at this; exact absurd (show false = true from this) (by decide)) (hA b hb).1 (hA a ha).1]
  · obtain ⟨b, hb, rfl⟩ := List.mem_map.mp hd
    obtain ⟨b', hb', rfl⟩ := List.mem_map.mp hd'
    exact (hA b hb).2.2 b' hb'
  · rcases (Bool.or_eq_true _ _).mp hs.2 with h | h
    · refine .inl fun d hd => ?_
      have := List.all_eq_true.mp h d (by rw [eps]; exact hd)
      cases d <;> first | exact absurd (show false = true from this) (by decide) | skip
      rename_i l
      cases l with
      | nil => exact absurd (show false = true from this) (by decide)
      | cons x r => exact ⟨x, r, rfl⟩
    · refine .inr fun d hd => ?_
      have := List.all_eq_true.mp h d (by rw [eps]; exact hd)
      exact ⟨fun z => by subst z; exact absurd (show false = true from this) (by decide), fun l z => by subst z; exact absurd (show false = true from this) (by decide)⟩
  · have := SeqAt.depth_of_shaped (hA b hb).2.1
    omega
theorem cd_sortK : CallD X (rSortK X) dSortedK := by
  intro θ H S ds vs Q E r dv p
  unfold dSortedK at p
  split at p
  · rename_i x
    cases e1 : dKeys x S with
    | none => simp only [e1] at p; exact p.elim
    | some xs =>
      cases e2 : pyAll S xs with
      | none => simp only [e1, e2] at p; exact p.elim
      | some ps =>
        simp only [e1, e2] at p
        by_cases hz : srtOk ps = true ∧ xs.length ≤ sizeLine
        · rw [if_pos hz] at p
          obtain ⟨v, rr, rfl, d1, rfl⟩ := dv
          refine ⟨θ, S, x, v, xs, ps, r, rfl, d1, e1, e2, hz.1, hz.2, fun q ws hq dw => ?_⟩
          have f2 : Fut H θ (upd H q (.lst ws)) (θ ++ [q]) := Fut.newN hq
          exact p _ _ _ f2 (r.newN hq ⟨ws, upd_same, DVs.later f2 _ _ dw⟩) ⟨q, rfl, by rw [← r.len]; simp⟩
        · rw [if_neg hz] at p; exact p.elim
  · exact p.elim
/-- list(d) -/
def rListK (X : Cx) : List V → Hp → VK → Prop := fun vs H Q => ∃ θ S x v xs, Rl X.K X.w H θ S ∧ vs = [v] ∧ DV X.K H θ x v ∧ dKeys x S = some xs ∧ ∀ p ws, H p = none → DVs X.K H θ xs ws → Q (.ref p) (upd H p (.lst ws))
theorem cr_listK (hc : X.calm = true) : CallR X (.type "list") (rListK X) := by
  intro pins s σ H vs us Q I r h
  obtain ⟨θ, S, x, v, xs, rl, rfl, dv, hx, q⟩ := h
  obtain ⟨a, es, ep, ws, rfl, lo, raw, hsz, dws, rws⟩ := keys_raw I rl dv hx
  rw [Vals.ref1 r]
  refine PySem.W.kdl_call (src_raw lo) (I.ok.hd hc) raw hsz fun h' tk acc c' hk hD hacc => ?_
  have eacc : acc.toList = es.toList.map (·.key) := by
    refine List.ext_getElem? fun j => ?_
    rw [List.getElem?_map, Array.getElem?_toList, Array.getElem?_toList]
    by_cases hj : j < es.size
    · have hj2 : j < acc.size := by rw [hacc.1]; exact hj
      obtain ⟨en, e1, e2⟩ := hacc.2 j acc[j] (by simp [hj2])
      rw [e1]; simp [hj2, e2]
    · have hj2 : ¬ j < acc.size := by rw [hacc.1]; exact hj
      rw [Array.getElem?_eq_none (by omega), Array.getElem?_eq_none (by omega)]; rfl
  rw [← eacc] at rws
  have hl : ws.length ≤ sizeLine := by rw [rws.length, Array.length_toList, hacc.1]; exact hsz
  exact ⟨.ref _, upd H s.heap.objs.size (.lst ws), I.laid (h' := h') (t' := tk) hk (Nat.le_refl _) ⟨hl, acc.toList, c', rws, by simpa using hD⟩, rfl, q _ _ (I.hok.fresh (Nat.le_refl _)) dws⟩
theorem cd_listK : CallD X (rListK X) dListK := by
  intro θ H S ds vs Q E r dv p
  unfold dListK at p
  split at p
  · rename_i x
    cases e1 : dKeys x S with
    | none => simp only [e1] at p; exact p.elim
    | some xs =>
      simp only [e1] at p
      obtain ⟨v, rr, rfl, d1, rfl⟩ := dv
      refine ⟨θ, S, x, v, xs, r, rfl, d1, e1, fun q ws hq dw => ?_⟩
      have f2 : Fut H θ (upd H q (.lst ws)) (θ ++ [q]) := Fut.newN hq
      exact p _ _ _ f2 (r.newN hq ⟨ws, upd_same, DVs.later f2 _ _ dw⟩) ⟨q, rfl, by rw [← r.len]; simp⟩
  · exact p.elim
/-- two rules for one built-in -/
theorem CallR.or2 {f : Value} {r1 r2 : List V → Hp → VK → Prop} (h1 : CallR X f r1) (h2 : CallR X f r2) : CallR X f (fun xs H Q => r1 xs H Q ∨ r2 xs H Q) := fun pins s σ H xs us Q I r h =>
  h.elim (h1 pins s σ H xs us Q I r) (h2 pins s σ H xs us Q I r)
def ffOr (F G : FF) : FF := fun ds S => orR (F ds S) (G ds S)
theorem CallD.or2 {r1 r2 : List V → Hp → VK → Prop} {F G : FF} (h1 : CallD X r1 F) (h2 : CallD X r2 G) : CallD X (fun xs H Q => r1 xs H Q ∨ r2 xs H Q) (ffOr F G) := by
  intro θ H S ds vs Q E r dv p
  unfold ffOr orR at p
  cases e : F ds S with
  | no => rw [e] at p; exact .inr (h2 θ H S ds vs Q E r dv p)
  | ok d S' => rw [e] at p; exact .inl (h1 θ H S ds vs Q E r dv (by rw [e]; exact p))
  | ex c S' => rw [e] at p; exact .inl (h1 θ H S ds vs Q E r dv (by rw [e]; exact p))
end
end Y

set_option Elab.async false
set_option linter.all false
set_option maxRecDepth 100000
set_option maxHeartbeats 4000000
/-! YDComp: {k: v for .. in ..}, the keys of either sort; <dict of the top>.get. -/
namespace Y
open PySem L2
/-- the new dict -/
def empO (w : World) (N : Bool) (a : Addr) : HO := if N = true then DctO w a [] else .dK []
def empD (N : Bool) : O := if N = true then .dN [] else .dK []
/-- one store to a dict -/
def rDct (X : Cx) : V → V → V → Hp → (Hp → Prop) → Prop := fun o i v H Q => (∃ a kvs k, o = .ref a ∧ i = kV k ∧ H a = some (.dK kvs) ∧ kvs.length < sizeLine ∧ Q (upd H a (.dK (putK kvs k v)))) ∨
  ∃ θ a b xs kvs y d k, o = .ref a ∧ i = .ref b ∧ H a = some (DctO X.w a xs) ∧ Paired (EntR X.K H θ) kvs xs ∧ kvs.length < sizeLine ∧ keyN y = some k ∧ k.depth ≤ 8 ∧ DV X.K H θ y (.ref b) ∧ DV X.K H θ d v ∧
    ∀ xs', Paired (EntR X.K H θ) (putD kvs y d) xs' → Q (upd H a (DctO X.w a xs'))
def putG (i : Nat) (y d : D) (S : Sto) : Option Sto := match S[i]? with
  | some (.dK kvs) => match keyK y with
    | some k => if kvs.length < sizeLine then some (S.set i (.dK (putKD kvs k d))) else none
    | none => none
  | some (.dN kvs) => match keyT y with
    | some _ => if kvs.length < sizeLine then some (S.set i (.dN (putD kvs y d))) else none
    | none => none
  | _ => none
section
variable {X : Cx} {W : WX}
theorem dct_put {pins : List (Addr × Obj)} {σ : L2.St} {H : Hp} {s : Shared} {A : Around} {E : Value → Shared → Prop} {D' : Addr} {y z : V} {u r : Value} {Q : Unit → Shared → Prop} {q : Hp → Prop} (hu : A.units + 64 < cLine) (hA : X.A = A) (I : Inv X pins σ H s) (ry : RelV y u) (rz : RelV z r)
    (h : rDct X (.ref D') y z H q) (hq : ∀ H' s', q H' → Inv X pins σ H' s' → Q () s') : wpAny (model X.prog X.w) A (dictSet D' u r) Q E s := by
  subst hA
  rcases h with ⟨a, kvs, k, e, rfl, e1, hz, g⟩ | ⟨θ, a, b, xs, kvs, yd, d, k, e, rfl, e1, pr, hz, hk, hd, dy, dz, g⟩
  · cases e
    exact d_dictSet I e1 hz ry rz fun s' I' => hq _ s' g I'
  · cases e
    obtain rfl : u = .ref b := ry
    obtain ⟨hz2, hs, hn, _⟩ := dct_ok I.hok e1
    have hl : kvs.length = xs.length := Paired.length pr
    refine wpAny_dictSet_heap (hsz := hz2) (show X.A.units + 8 < cLine by omega) (key_is I hk hd dy) (dct_H I e1 pr) fun h' ⟨o, es, ep, ho, h2, h3, h4, _, h5⟩ sb => ?_
    refine hq _ _ (g _ (ent_put hk hd dy rz dz pr)) (d_write I (by rw [e1]; exact True.intro) sb ⟨o, ho⟩ (dct_new ?_ hs h5 ho h2 h3 h4))
    have := @len_storedH xs k b r
    omega
theorem putG_of {θ : List Addr} {H : Hp} {S S4 : Sto} {i : Nat} {a : Addr} {y d : D} {w u : V} {Q : Hp → Prop} (r : Rl X.K X.w H θ S) (ha : θ[i]? = some a) (dy : DV X.K H θ y w) (dd : DV X.K H θ d u) (h : putG i y d S = some S4)
    (q : ∀ H', Fut H θ H' θ → Rl X.K X.w H' θ S4 → Q H') : rDct X (.ref a) w u H Q := by
  have hs : setG (.ref i) y d S = some S4 ∧ ¬ ∃ us, H a = some (.lst us) := by
    unfold putG at h
    unfold setG
    cases e : S[i]? with
    | none => rw [e] at h; cases h
    | some o =>
      rw [e] at h
      cases o with
      | lst _ => cases h
      | dK kvs => obtain ⟨vs, hv, _⟩ := r.at_ i _ a e ha; exact ⟨by dsimp only; rw [e]; exact h, fun ⟨us, z⟩ => by rw [hv] at z; cases z⟩
      | dN kvs => obtain ⟨vs, hv, _⟩ := r.at_ i _ a e ha; exact ⟨by dsimp only; rw [e]; exact h, fun ⟨us, z⟩ => by rw [hv] at z; cases z⟩
  rcases setG_of (x := .ref i) (v := .ref a) r ⟨a, rfl, ha⟩ dy dd hs.1 q with ⟨a', us, k, j, e, _, e2, _⟩ | g
  · cases e; exact (hs.2 ⟨us, e2⟩).elim
  · exact g
/-- the walk of a dict comprehension -/
def tDcG (X : Cx) (N : Bool) (wi : TI) (g : TG) (tt : TT) (tk tv : TE) (vs : List Nat) : TE := fun σ H Q => wi σ H fun J H1 => ∀ D, H1 D = none → ∃ W : Nat → Nat → Hp → Prop, (∃ m, W 0 m (upd H1 D (empO X.w N D))) ∧ ∀ i m H, W i m H →
  (J.stop i H ∧ Q (.ref D) H) ∨ (J.go i H ∧ ∃ Nx : Hp → Prop, (∀ H', Nx H' → ∃ m', m' < m ∧ W (i + 1) m' H') ∧ ∀ x H', J.yld i H x H' → g x (wipe σ vs) H' fun σ2 H2 => wipe σ2 vs = wipe σ vs ∧ tt σ2 H2 fun b H3 =>
    if b = true then tk σ2 H3 fun y H4 => tv σ2 H4 fun z H5 => rDct X (.ref D) y z H5 Nx else Nx H3)
end
theorem empO_new {P : Program} {w : World} {N : Bool} {H : Hp} {h : Heap} (big : sysModules < h.objs.size) : ObjOk P w (upd H h.objs.size (empO w N h.objs.size)) (h.push { cls := .type "dict", data := .dict #[] }) h.objs.size (empO w N h.objs.size) := by
  cases N with
  | false => exact dk_empty h big
  | true => exact dct_new (Nat.zero_le _) (beq_eq_false_iff_ne.mpr (Ne.symm (Nat.ne_of_lt big))) List.nodup_nil (Heap.get?_push_size _ rfl) ⟨rfl, rfl, rfl⟩ rfl rfl
section
variable {X : Cx} {W : WX}
theorem dcG_core {pins : List (Addr × Obj)} {s : Shared} {σ : L2.St} {H : Hp} {Q : VK} {kx vx tg iter : Expr} {ifs : List Expr} {scope : Scope} {own : List (Str × Nat)} {pos pos' : Pos} {wi : TI} {g : TG} {tt : TT} {tk tv : TE} {use : Option (Value → Sem Unit)} {Qf : Value → Shared → Prop} (N : Bool)
    (hu : X.A.units + 64 < cLine) (hc : X.calm = true) (hN : X.N.Nodup) (I : Inv X pins σ H s) (hi : PI X tg iter wi) (ok : BlkOk X.N X.env.scope scope own)
    (hg : ∀ (s : Shared) (H : Hp) (C : Addr) (cl : List (Str × Addr)) (fp : List Addr), PG (X.blk s H scope (compEnvC scope cl C X.env) fp) tg g) (ht : ∀ (s : Shared) (H : Hp) (C : Addr) (cl : List (Str × Addr)) (fp : List Addr), PTs (X.blk s H scope (compEnvC scope cl C X.env) fp) ifs tt)
    (hk : ∀ (s : Shared) (H : Hp) (C : Addr) (cl : List (Str × Addr)) (fp : List Addr), PE (X.blk s H scope (compEnvC scope cl C X.env) fp) kx tk)
    (he : ∀ (s : Shared) (H : Hp) (C : Addr) (cl : List (Str × Addr)) (fp : List Addr), PE (X.blk s H scope (compEnvC scope cl C X.env) fp) vx tv) (hs : ∀ x, foldedSetIterable iter X.env x = pure x)
    (h : tDcG X N wi g tt tk tv (own.map (·.2)) σ H Q)
    (hRR : ∀ D C s' m H', Inv X pins σ H' s' → Q (.ref D) H' → s'.heap.Ns C m → FpOk X pins H' C → compPost (model X.prog X.w) X.A X.xe use Qf (.ref D) C (.ok .next) s') :
    wpAny (model X.prog X.w) X.A (comprehension (.DictComp kx vx [⟨tg, iter, ifs, 0⟩] scope pos) scope X.env pos' newDict false (eval iter X.env) use) Qf X.xe s := by
  have cls : ∀ y ∈ scope.names, y.2 = .free → ∃ c, X.env.cells.lookup y.1 = some c := fun y hy e => (ok.free y hy e).elim (fun z => I.ok.has _ (.inl z)) fun z => I.ok.has _ (.inr z)
  refine wpAny_comprehension_free (use := use) rfl hs (closure_ok cls) ok.kind (fun y hy e => by rw [ok.uniq y hy, e])
    (thn (hi.run pins s σ H _ I h) fun _ s1 hx => thn hx fun _ s2 ⟨it, fp, tn, J, H2, e, I2, T, st2, ff, q⟩ => ?_)
  subst e
  refine wpAny_newObj_type (newEnv_comp ?_)
  obtain ⟨V0, ⟨m0, v0⟩, turn⟩ := q s2.heap.objs.size (I2.hok.fresh (Nat.le_refl _))
  have I3 : Inv X pins σ (upd H2 s2.heap.objs.size (empO X.w N s2.heap.objs.size)) { s2 with heap := s2.heap.push { cls := .type "dict", data := .dict #[] } } :=
    I2.laid (t' := s2.toks) (fun b o e => Heap.get?_push_of_some _ e) (Nat.le_refl _) (empO_new I2.big)
  have st3 : tn 0 (s2.heap.push { cls := .type "dict", data := .dict #[] }) := T.keep _ _ _ st2 fun b _ o e => Heap.get?_push_of_some _ e
  have f3 : ∀ b ∈ fp, FpOk X pins (upd H2 s2.heap.objs.size (empO X.w N s2.heap.objs.size)) b ∧ b < (s2.heap.push { cls := .type "dict", data := .dict #[] }).objs.size := fun b hb => by
    obtain ⟨o, eo, _⟩ := T.obj _ _ st2 b hb
    have lt := Heap.lt_size eo
    exact ⟨⟨by rw [upd_ne (Nat.ne_of_lt lt)]; exact (ff b hb).1, (ff b hb).2⟩, by rw [Heap.size_push]; exact Nat.lt_succ_of_lt lt⟩
  generalize s2.heap.objs.size = D at turn v0 I3 f3 ⊢
  generalize upd H2 D (empO X.w N D) = H3 at v0 I3 f3
  generalize hs3 : ({ s2 with heap := s2.heap.push { cls := .type "dict", data := .dict #[] } } : Shared) = s3 at I3
  have h3 : s2.heap.push { cls := .type "dict", data := .dict #[] } = s3.heap := by rw [← hs3]
  rw [h3] at st3 f3
  have I4 := block_start I3 ok hN f3
  generalize hcl : cellsFrom (s3.heap.objs.size + 1) scope.names (cloFrom X.env.cells scope.names []) = cl at I4
  have pg := hg s3 H3 s3.heap.objs.size cl fp
  have pt := ht s3 H3 s3.heap.objs.size cl fp
  have pk := hk s3 H3 s3.heap.objs.size cl fp
  have pv := he s3 H3 s3.heap.objs.size cl fp
  have cL : (compEnvC scope cl s3.heap.objs.size X.env).locals = s3.heap.objs.size := rfl
  have goal : ∀ s4, s4 = ({ s3 with heap := pushCells (s3.heap.push { cls := .type "dict", data := .dict #[] }) scope.names } : Shared) →
      codeAny (model X.prog X.w) X.A (.compStart (.DictComp kx vx [⟨tg, iter, ifs, 0⟩] scope pos) 0 (.ref it) (.ref D) (compEnvC scope cl s3.heap.objs.size X.env)) (compPost (model X.prog X.w) X.A X.xe use Qf (.ref D) s3.heap.objs.size) s4 := by
    rintro s4 e4
    rw [← e4] at I4
    have st4 : tn 0 s4.heap := T.keep _ _ _ st3 fun b _ o e => by rw [e4]; exact pushCells_keeps _ _ _ _ (Heap.get?_push_of_some _ e)
    generalize hce : compEnvC scope cl s3.heap.objs.size X.env = ce at I4 pg pt pk pv cL ⊢
    have stat : ∀ {σ' : L2.St} {H' : Hp} {s' : Shared}, Inv (X.blk s3 H3 scope ce fp) [] σ' H' s' → (∀ b ∈ fp, H' b = none) → ∀ b ∈ fp, FpOk (X.blk s3 H3 scope ce fp) [] H' b := fun {σ' H' s'} I' hn b hb =>
      ⟨hn b hb, (I'.ok.exf b hb).1, I'.ok.exfs b hb, .inl hb, (I'.ok.exf b hb).2, fun p hp => absurd (show p ∈ ([] : List (Addr × Obj)) ++ [] from hp) (by simp)⟩
    have loop : codeAny (model X.prog X.w) X.A (.compLoop (.DictComp kx vx [⟨tg, iter, ifs, 0⟩] scope pos) 0 (.ref it) (.ref D) ce) (compPost (model X.prog X.w) X.A X.xe use Qf (.ref D) s3.heap.objs.size) s4 := by
      refine compLoop_anyD (fun n s' => ∃ i H', Inv (X.blk s3 H3 scope ce fp) [] (wipe σ (own.map (·.2))) H' s' ∧ tn i s'.heap ∧ (∀ b ∈ fp, H' b = none) ∧ V0 i n H') ?_ m0 ⟨0, H3, I4, st4, fun b hb => (f3 b hb).1.1, v0⟩
      rintro n s5 ⟨i, H5, I5, st5, n5, v5⟩
      rcases turn i n H5 v5 with ⟨stop, qq⟩ | ⟨go, Nx, hNx, step⟩
      · refine thnF (T.done (X.blk s3 H3 scope ce fp) rfl rfl rfl hc i [] s5 _ H5 (fun _ _ => False) I5 (stat I5 n5) st5 stop) fun r s6 ⟨hr, I6⟩ => ?_
        subst hr
        have I7 : Inv X pins σ H5 s6 := I3.call' (ch := fp) I6.os I6.base I6.hok I6.bare fun b hb => ⟨(f3 b hb).1.2.2.2.1, (f3 b hb).1.2.1, (f3 b hb).1.2.2.2.2.1, (f3 b hb).1.2.2.2.2.2⟩
        have nC : H5 s3.heap.objs.size = none := cL ▸ (show H5 ce.locals = none from I6.free)
        obtain ⟨m, hn, _⟩ := I6.loc
        exact hRR D s3.heap.objs.size s6 m H5 I7 qq (cL ▸ (show s6.heap.Ns ce.locals m from hn)) (I3.fpOk (Nat.le_refl _) nC)
      · refine thnF (T.item (X.blk s3 H3 scope ce fp) rfl rfl rfl hc i [] s5 _ H5 (fun _ _ => False) I5 (stat I5 n5) st5 go) fun r s6 ⟨u, hr, h6⟩ => ?_
        subst hr
        refine thnF h6 fun _ s7 ⟨x, H7, I7, r7, y7, st7, n7⟩ => ?_
        refine thnF (pg.run _ s7 _ H7 x u _ (I7.pinned (stat I7 n7) (T.obj _ _ st7)) r7 (step x H7 y7)) fun _ s8 ⟨σ8, H8, I8, hw8, q8⟩ => ?_
        refine thnF (pt.run _ s8 σ8 H8 _ I8 q8) fun b s9 ⟨H9, I9, q9⟩ => ?_
        have fin : ∀ {s' : Shared} {H' : Hp}, Inv (X.blk s3 H3 scope ce fp) ([] ++ pinsAt fp s7.heap) σ8 H' s' → Nx H' → ∃ m, m < n ∧ ∃ i H', Inv (X.blk s3 H3 scope ce fp) [] (wipe σ (own.map (·.2))) H' s' ∧ tn i s'.heap ∧ (∀ b ∈ fp, H' b = none) ∧ V0 i m H' := fun {s' H'} I' nx => by
          obtain ⟨m', lt, v'⟩ := hNx H' nx
          have held : ∀ b ∈ fp, ∀ o, s7.heap.get? b = some o → s'.heap.get? b = some o ∧ H' b = none := fun b hb o e => by
            have z := I'.pin (b, o) (List.mem_append_right _ (List.mem_append_right _ (mem_pinsAt hb e)))
            exact ⟨z.1, z.2.1⟩
          refine ⟨m', lt, i + 1, H', (I'.unpinned (pins := [])).weak (by rw [← hw8, wipe_length]) (fun j v e => (wipe_some (hw8 ▸ e)).1), T.keep _ _ _ st7 fun b hb o e => (held b hb o e).1, fun b hb => ?_, v'⟩
          obtain ⟨o, e, _⟩ := T.obj _ _ st7 b hb
          exact (held b hb o e).2
        cases b with
        | false => exact fin I9 q9
        | true =>
          refine thnF (pk.run _ s9 σ8 H9 _ I9 q9) fun u1 s10 ⟨y1, H10, I10, r10, q10⟩ => ?_
          refine thnF (pv.run _ s10 σ8 H10 _ I10 q10) fun u2 s11 ⟨y2, H11, I11, r11, q11⟩ => ?_
          exact dct_put (X := X.blk s3 H3 scope ce fp) (A := X.A) (q := Nx) hu rfl I11 r10 r11 q11 fun H12 s12 nx I12 => fin I12 nx
    exact codeAny_compStart_dict loop (T.self X.A 0 _ _ _ st4 loop)
  have g := goal _ rfl
  subst hcl
  subst hs3
  exact g
end
/-- as a value -/
theorem pe_dcG {X : Cx} {kx vx tg iter : Expr} {ifs : List Expr} {scope : Scope} {own : List (Str × Nat)} {pos : Pos} {wi : TI} {g : TG} {tt : TT} {tk tv : TE} (N : Bool) (hu : X.A.units + 64 < cLine) (hc : X.calm = true) (hN : X.N.Nodup) (hi : PI X tg iter wi) (ok : BlkOk X.N X.env.scope scope own)
    (hg : ∀ (s : Shared) (H : Hp) (C : Addr) (cl : List (Str × Addr)) (fp : List Addr), PG (X.blk s H scope (compEnvC scope cl C X.env) fp) tg g) (ht : ∀ (s : Shared) (H : Hp) (C : Addr) (cl : List (Str × Addr)) (fp : List Addr), PTs (X.blk s H scope (compEnvC scope cl C X.env) fp) ifs tt)
    (hk : ∀ (s : Shared) (H : Hp) (C : Addr) (cl : List (Str × Addr)) (fp : List Addr), PE (X.blk s H scope (compEnvC scope cl C X.env) fp) kx tk)
    (he : ∀ (s : Shared) (H : Hp) (C : Addr) (cl : List (Str × Addr)) (fp : List Addr), PE (X.blk s H scope (compEnvC scope cl C X.env) fp) vx tv) (hs : ∀ x, foldedSetIterable iter X.env x = pure x) :
    PE X (.DictComp kx vx [⟨tg, iter, ifs, 0⟩] scope pos) (tDcG X N wi g tt tk tv (own.map (·.2))) := by
  refine ⟨fun pins s σ H Q I h => ?_⟩
  rw [arm_eval_DictComp]
  refine dcG_core N hu hc hN I hi ok hg ht hk he hs h fun D C s' m H' I' q hn f => ⟨m, hn, fun h'' sb => ?_⟩
  obtain ⟨f0, f1, f2, f3, f4, f5⟩ := f
  exact ⟨.ref D, H', I'.turned (t' := s'.toks) (fun b o hb e => (sb.2 b hb).trans e) f0 f1 f3 f4 f5, rfl, q⟩
/-! ### by data -/
def dcLoop (r : Nat) (ch : Chk) (g : FB) (t : FT) (ek ev : FE) (ρ : Env) : List D → Sto → R D
  | [], S => if chkOk ch S = true then .ok (.ref r) S else .no
  | d :: ds, S => if chkOk ch S = true then (match g d ρ with
    | none => .no
    | some ρ1 => match t ρ1 S with
      | .ok true S2 => (match ek ρ1 S2 with
        | .ok k S3 => (match ev ρ1 S3 with
          | .ok y S4 => (match putG r k y S4 with
            | some S5 => dcLoop r ch g t ek ev ρ ds S5
            | none => .no)
          | _ => .no)
        | _ => .no)
      | .ok false S2 => dcLoop r ch g t ek ev ρ ds S2
      | _ => .no) else .no
def fDc (N : Bool) (fi : FI) (own : List Nat) (g : FB) (t : FT) (ek ev : FE) : FE := fun ρ S => (fi ρ S).bind fun dc S1 => dcLoop S1.length dc.2 g t ek ev (wipeD ρ own) dc.1 (S1 ++ [empD N])
section
variable {X : Cx} {W : WX} {kx vx tg iter : Expr} {ifs : List Expr} {scope : Scope} {own : List (Str × Nat)} {pos : Pos} {fi : FI} {g : FB} {ft : FT} {fk fv : FE}
theorem dc_read (N : Bool) {own : List (Str × Nat)} {wi : TI}
    (qi : ∀ θ σ ρ H S (R : It → Hp → Prop), Rl X.K X.w H θ S → SlV X.K H θ ρ σ → (match fi ρ S with
      | .ok (ds, ch) S' => ∀ θ' H' J, Fut H θ H' θ' → Rl X.K X.w H' θ' S' → ItD X.K X.w J θ' H' ds ch → R J H'
      | .ex c S' => ∀ θ' H' cls dd, Fut H θ H' θ' → Rl X.K X.w H' θ' S' → ExR X.K X.mg H' θ' c cls dd → W cls dd σ H'
      | .no => False) → wi σ H R)
    {θ : List Addr} {σ : L2.St} {ρ : Env} {H : Hp} {S : Sto} {Q : VK} (r : Rl X.K X.w H θ S) (sl : SlV X.K H θ ρ σ) (h : PostV X.K X.w X.mg θ H (fDc N fi (own.map (·.2)) g ft fk fv ρ S) Q (fun c d H' => W c d σ H')) :
    tDcG X N wi (tFB X.K (own.map (·.2)) g) (tFT X.K X.w X.mg W0 ft) (tF X.K X.w X.mg W0 fk) (tF X.K X.w X.mg W0 fv) (own.map (·.2)) σ H Q := by
  refine qi θ σ ρ H S _ r sl ?_
  unfold fDc at h
  cases e0 : fi ρ S with
  | no => rw [e0] at h; exact h
  | ex c S' => rw [e0] at h; exact h
  | ok dc S1 =>
    obtain ⟨ds, ch⟩ := dc
    rw [e0] at h
    intro θ1 H1 J f1 r1 it L hL
    have fL : Fut H1 θ1 (upd H1 L (empO X.w N L)) (θ1 ++ [L]) := Fut.newN hL
    have rL : Rl X.K X.w (upd H1 L (empO X.w N L)) (θ1 ++ [L]) (S1 ++ [empD N]) := r1.newN hL (by
      cases N with
      | false => exact ⟨[], upd_same, rfl, rfl⟩
      | true => exact ⟨[], upd_same, .nil⟩)
    have atL : (θ1 ++ [L])[S1.length]? = some L := by rw [← r1.len]; simp
    have h1 : PostV X.K X.w X.mg (θ1 ++ [L]) (upd H1 L (empO X.w N L)) (dcLoop S1.length ch g ft fk fv (wipeD ρ (own.map (·.2))) ds (S1 ++ [empD N])) Q (fun c d H' => W c d σ H') := PostV.since (f1.trans fL) h
    clear h
    refine ⟨fun i m H => i ≤ ds.length ∧ m = ds.length - i ∧ ∃ θ S, Fut (upd H1 L (empO X.w N L)) (θ1 ++ [L]) H θ ∧ Rl X.K X.w H θ S ∧ PostV X.K X.w X.mg θ H (dcLoop S1.length ch g ft fk fv (wipeD ρ (own.map (·.2))) (ds.drop i) S) Q (fun c d H' => W c d σ H'),
      ⟨ds.length, Nat.zero_le _, rfl, _, _, .refl, rL, h1⟩, ?_⟩
    rintro i m H2 ⟨hi, rfl, θ2, S2, f2, r2, h⟩
    have slw : SlV X.K H2 θ2 (wipeD ρ (own.map (·.2))) (L2.wipe σ (own.map (·.2))) := (sl.later (f1.trans (fL.trans f2))).wipe _
    by_cases hlt : i < ds.length
    · rw [List.drop_eq_getElem_cons hlt] at h
      unfold dcLoop at h
      by_cases hck : chkOk ch S2 = true
      · rw [if_pos hck] at h
        cases eg : g ds[i] (wipeD ρ (own.map (·.2))) with
        | none => simp only [eg] at h; exact h.elim
        | some ρ1 =>
          simp only [eg] at h
          obtain ⟨_, g2⟩ := it i θ2 H2 S2 (fL.trans f2) r2 hck
          obtain ⟨hgo, hy⟩ := g2 ds[i] (by simp [hlt])
          refine .inr ⟨hgo, fun H' => (i + 1) ≤ ds.length ∧ ∃ θ S, Fut (upd H1 L (empO X.w N L)) (θ1 ++ [L]) H' θ ∧ Rl X.K X.w H' θ S ∧ PostV X.K X.w X.mg θ H' (dcLoop S1.length ch g ft fk fv (wipeD ρ (own.map (·.2))) (ds.drop (i + 1)) S) Q (fun c d H' => W c d σ H'),
            fun H' q => ⟨ds.length - (i + 1), by omega, q.1, rfl, q.2⟩, fun x H' y => ?_⟩
          obtain ⟨f3, r3, _, dv3⟩ := hy x H' y
          refine ⟨θ2, _, ds[i], slw.later f3, dv3, ρ1, eg, fun σ2 sl3 k2 l2 => ⟨lc_read.wipe_eq k2 l2, θ2, ρ1, S2, r3, sl3, ?_⟩⟩
          have h := PostV.since f3 h
          cases et : ft ρ1 S2 with
          | no => simp only [et] at h; exact h
          | ex c S' => simp only [et] at h; exact h.elim
          | ok b S3 =>
            cases b with
            | false =>
              simp only [et] at h
              intro θ3 H3 f4 r4
              rw [if_neg (by decide)]
              exact ⟨hlt, θ3, S3, f2.trans (f3.trans f4), r4, PostV.since f4 h⟩
            | true =>
              simp only [et] at h
              intro θ3 H3 f4 r4
              rw [if_pos rfl]
              refine ⟨θ3, ρ1, S3, r4, sl3.later f4, ?_⟩
              have h := PostV.since f4 h
              cases ek : fk ρ1 S3 with
              | no => simp only [ek] at h; exact h
              | ex c S' => simp only [ek] at h; exact h.elim
              | ok kd S4 =>
                simp only [ek] at h
                intro θ4 H4 v f5 r5 dv5
                refine ⟨θ4, ρ1, S4, r5, (sl3.later f4).later f5, ?_⟩
                have h := PostV.since f5 h
                cases ee : fv ρ1 S4 with
                | no => simp only [ee] at h; exact h
                | ex c S' => simp only [ee] at h; exact h.elim
                | ok yv S5 =>
                  simp only [ee] at h
                  intro θ5 H5 u f6 r6 dv6
                  have f26 := f2.trans (f3.trans (f4.trans (f5.trans f6)))
                  have h := PostV.since f6 h
                  cases ep : putG S1.length kd yv S5 with
                  | none => simp only [ep] at h; exact h.elim
                  | some S6 =>
                    simp only [ep] at h
                    exact putG_of r6 (f26.at atL) (DV.later f6 _ _ dv5) dv6 ep fun H' f' r' => ⟨hlt, θ5, S6, f26.trans f', r', PostV.since f' h⟩
      · rw [if_neg hck] at h; exact h.elim
    · have e : i = ds.length := by omega
      subst e
      rw [List.drop_length] at h
      unfold dcLoop at h
      by_cases hck : chkOk ch S2 = true
      · rw [if_pos hck] at h
        exact .inl ⟨(it _ θ2 H2 S2 (fL.trans f2) r2 hck).1 rfl, h θ2 H2 _ .refl r2 ⟨L, rfl, f2.at atL⟩⟩
      · rw [if_neg hck] at h; exact h.elim
theorem de_dc (N : Bool) (own : List (Str × Nat)) (hu : X.A.units + 64 < cLine) (hc : X.calm = true) (hN : X.N.Nodup) (hi : DI X W tg iter fi) (ok : BlkOk X.N X.env.scope scope own)
    (hg : ∀ (s : Shared) (H : Hp) (C : Addr) (cl : List (Str × Addr)) (fp : List Addr), DB (X.blk s H scope (compEnvC scope cl C X.env) fp) tg (own.map (·.2)) g)
    (ht : ∀ (s : Shared) (H : Hp) (C : Addr) (cl : List (Str × Addr)) (fp : List Addr), DTs (X.blk s H scope (compEnvC scope cl C X.env) fp) W0 ifs ft)
    (hk : ∀ (s : Shared) (H : Hp) (C : Addr) (cl : List (Str × Addr)) (fp : List Addr), DE (X.blk s H scope (compEnvC scope cl C X.env) fp) W0 kx fk)
    (hv : ∀ (s : Shared) (H : Hp) (C : Addr) (cl : List (Str × Addr)) (fp : List Addr), DE (X.blk s H scope (compEnvC scope cl C X.env) fp) W0 vx fv)
    (hs : ∀ x, foldedSetIterable iter X.env x = pure x := by intro _; rfl) : DE X W (.DictComp kx vx [⟨tg, iter, ifs, 0⟩] scope pos) (fDc N fi (own.map (·.2)) g ft fk fv) := by
  obtain ⟨wi, pi, qi⟩ := hi
  refine ⟨_, pe_dcG N hu hc hN pi ok (g := tFB X.K (own.map (·.2)) g) (tt := tFT X.K X.w X.mg W0 ft) (tk := tF X.K X.w X.mg W0 fk) (tv := tF X.K X.w X.mg W0 fv) (fun s H C cl fp => (hg s H C cl fp).can) (fun s H C cl fp => (ht s H C cl fp).can) (fun s H C cl fp => (hk s H C cl fp).can) (fun s H C cl fp => (hv s H C cl fp).can) hs, fun θ σ ρ H S Q r sl h => ?_⟩
  exact dc_read N qi r sl h
/-- y = {..} on one line -/
theorem swD_true {kx vx : Expr} {gs : List Comprehension} {scope : Scope} {pos py : Pos} {y : Str} {l : Nat} {env : PySem.Env} (hk : env.scope.kind = .function) (hy : env.scope.names.lookup y = some .local) (hl : (py.line == pos.line) = true)
    (ha : (scope.names.any fun (n, k) => n == y && (k == .local || k == .cell)) = false) : swapsWith (.DictComp kx vx gs scope pos) (some (.Name y py)) l env = pure true := by
  have ky : env.kindOf y = some .local := hy
  have hb : env.blockKind = .function := by unfold Env.blockKind; rw [hk]; rfl
  unfold swapsWith
  simp only [hb, ky, ha, Expr.pos, hl]
  rfl
theorem ds_setDc (N : Bool) (i : Nat) (own : List (Str × Nat)) {y : Str} {py spos : Pos} (hu : X.A.units + 64 < cLine) (hc : X.calm = true) (hN : X.N.Nodup) (hi : DI X W tg iter fi) (ok : BlkOk X.N X.env.scope scope own)
    (hg : ∀ (s : Shared) (H : Hp) (C : Addr) (cl : List (Str × Addr)) (fp : List Addr), DB (X.blk s H scope (compEnvC scope cl C X.env) fp) tg (own.map (·.2)) g)
    (ht : ∀ (s : Shared) (H : Hp) (C : Addr) (cl : List (Str × Addr)) (fp : List Addr), DTs (X.blk s H scope (compEnvC scope cl C X.env) fp) W0 ifs ft)
    (hk : ∀ (s : Shared) (H : Hp) (C : Addr) (cl : List (Str × Addr)) (fp : List Addr), DE (X.blk s H scope (compEnvC scope cl C X.env) fp) W0 kx fk)
    (hv : ∀ (s : Shared) (H : Hp) (C : Addr) (cl : List (Str × Addr)) (fp : List Addr), DE (X.blk s H scope (compEnvC scope cl C X.env) fp) W0 vx fv)
    (hy : X.N[i]? = some y := by rfl) (hyl : X.env.scope.names.lookup y = some .local := by rfl)
    (hsw : swapsWith (.DictComp kx vx [⟨tg, iter, ifs, 0⟩] scope pos) (some (.Name y py)) spos.line X.env = pure true := by exact swD_true rfl rfl rfl (by decide +kernel))
    (hs : ∀ x, foldedSetIterable iter X.env x = pure x := by intro _; rfl) : DS X W (.Assign [.Name y py] (.DictComp kx vx [⟨tg, iter, ifs, 0⟩] scope pos) spos) (sAsg (fDc N fi (own.map (·.2)) g ft fk fv) (bName i)) := by
  obtain ⟨wi, pi, qi⟩ := hi
  refine ⟨tAsg (tDcG X N wi (tFB X.K (own.map (·.2)) g) (tFT X.K X.w X.mg W0 ft) (tF X.K X.w X.mg W0 fk) (tF X.K X.w X.mg W0 fv) (own.map (·.2))) (gName i), ⟨fun pins s σ H D I h => ?_⟩, fun θ σ ρ H S D r sl h => ?_⟩
  · rw [exec_Assign_Name_used _ _ _ _ hsw]
    refine wpAny_bind (wpAny_standAt (wpAny_bind ?_))
    have h : tDcG X N wi (tFB X.K (own.map (·.2)) g) (tFT X.K X.w X.mg W0 ft) (tF X.K X.w X.mg W0 fk) (tF X.K X.w X.mg W0 fv) (own.map (·.2)) σ H (fun x H1 => gName i x σ H1 D.nx) := h
    show wpAny _ X.A (do let _ ← comprehension (.DictComp kx vx [⟨tg, iter, ifs, 0⟩] scope pos) scope X.env (firstIterPos [⟨tg, iter, ifs, 0⟩] pos) newDict false (eval iter X.env) (some (assign (.Name y py) X.env))) _ _ s
    refine wpAny_bind (thn (dcG_core (Qf := fun _ s' => SP X pins D .next s') N hu hc hN I pi ok (fun s H C cl fp => (hg s H C cl fp).can) (fun s H C cl fp => (ht s H C cl fp).can) (fun s H C cl fp => (hk s H C cl fp).can) (fun s H C cl fp => (hv s H C cl fp).can) hs h fun L C s' m H' I' q hn f => ?_) fun _ s' hq => wpAny_pure (wpAny_pure hq))
    refine wpAny_assign_Name (store_ok2 (v := V.ref L) I' hN hy (.inl hyl) rfl (fun s2 I2 ⟨a, sb, ha⟩ => ?_) (.inr hyl))
    obtain ⟨f0, f1, f2, f3, f4, f5⟩ := f
    have haC : C ≠ a := by
      rcases ha with z | z
      · rw [z]; exact f1
      · exact fun e => f4 y a z e.symm
    exact ⟨m, hn.sameBut sb haC, fun h3 sb3 => ⟨_, H', I2.turned (t' := s2.toks) (fun b o hb e => (sb3.2 b hb).trans e) f0 f1 f3 f4 f5, q⟩⟩
  · have q : ∀ θ σ ρ H S Q, Rl X.K X.w H θ S → SlV X.K H θ ρ σ → PostV X.K X.w X.mg θ H (fDc N fi (own.map (·.2)) g ft fk fv ρ S) Q (fun c d H' => W c d σ H') → tDcG X N wi (tFB X.K (own.map (·.2)) g) (tFT X.K X.w X.mg W0 ft) (tF X.K X.w X.mg W0 fk) (tF X.K X.w X.mg W0 fv) (own.map (·.2)) σ H Q :=
      fun θ σ ρ H S Q r sl h => dc_read N qi r sl h
    exact thenS q r sl h fun θ2 H2 S2 x v f2 r2 sl2 d2 p => p θ2 H2 _ .refl r2 (sl2.set i d2)
end
end Y

set_option Elab.async false
set_option linter.all false
set_option maxRecDepth 100000
set_option maxHeartbeats 2000000
/-! YGet: .get, [..], in of a dict: one of the store, or one of the top. -/
namespace Y
open PySem L2
inductive GO where
  | d (x : D)
  | t (tbl : List (Key × D))
section
variable {P : Program} {w : World}
/-- a dict of the top -/
def KTab (P : Program) (w : World) (K : PySem.W.Frag) (tbl : List (Key × D)) (v : V) : Prop := ∃ a ob us vs, v = .ref a ∧ K.lookup a = some ob ∧ (a == sysModules) = false ∧ (∀ h : Heap, h.get? a = some ob → h.DictOf (mixKind P w) a us) ∧ KV vs us ∧ vs.map (·.1) = tbl.map (·.1) ∧ ∀ H θ, DVs K H θ (tbl.map (·.2)) (vs.map (·.2))
def GD (P : Program) (w : World) (K : PySem.W.Frag) (mg : Str → Option Value) (x : Str) (tbl : List (Key × D)) : Prop := ∃ a, mg x = some (.ref a) ∧ KTab P w K tbl (.ref a)
def GRl (P : Program) (w : World) (K : PySem.W.Frag) (H : Hp) (θ : List Addr) (g : GO) (v : V) : Prop := match g with
  | .d x => DV K H θ x v
  | .t tbl => KTab P w K tbl v
def gAt (g : GO) (y : D) (S : Sto) : Option (Option D) := match g with
  | .d x => dctAt x y S
  | .t tbl => (keyK y).map (atK tbl)
def isG (g : GO) (S : Sto) : Bool := match g with
  | .d (.ref i) => match S[i]? with
    | some (.dK _) => true
    | some (.dN _) => true
    | _ => false
  | .d _ => false
  | .t _ => true
end
def IsDct (X : Cx) (x : V) (H : Hp) : Prop := ∃ a, x = .ref a ∧ ((∃ kvs, H a = some (.dK kvs)) ∨ (∃ θ kvs xs, H a = some (DctO X.w a xs) ∧ Paired (EntR X.K H θ) kvs xs) ∨ ∃ ob us, X.K.lookup a = some ob ∧ ∀ h : Heap, h.get? a = some ob → h.DictOf (mixKind X.prog X.w) a us)
def KAt (X : Cx) (x y : V) (H : Hp) (θ : List Addr) (o : Option D) : Prop := ∃ a ob us vs k, x = .ref a ∧ y = kV k ∧ X.K.lookup a = some ob ∧ (a == sysModules) = false ∧ (∀ h : Heap, h.get? a = some ob → h.DictOf (mixKind X.prog X.w) a us) ∧ KV vs us ∧
  (match o with | none => valV vs k = none | some d => ∃ v, valV vs k = some v ∧ DV X.K H θ d v)
def DAtX (X : Cx) (x y : V) (H : Hp) (θ : List Addr) (o : Option D) : Prop := DAt X x y H θ o ∨ KAt X x y H θ o
section
variable {X : Cx} {pins : List (Addr × Obj)} {σ : L2.St} {H : Hp} {s : Shared} {θ : List Addr} {A : Around} {E : Value → Shared → Prop} {x y : V} {v u : Value}
theorem gAt_of {S : Sto} (r : Rl X.K X.w H θ S) {g : GO} {d : D} {o : Option D} (dx : GRl X.prog X.w X.K H θ g x) (dy : DV X.K H θ d y) (h : gAt g d S = some o) : DAtX X x y H θ o := by
  cases g with
  | d z => exact .inl (dctAt_of r dx dy h)
  | t tbl =>
    obtain ⟨k, hk, rfl⟩ := Option.map_eq_some_iff.mp h
    obtain rfl := keyK_of hk dy
    obtain ⟨a, ob, us, vs, rfl, h1, h2, h3, h4, h5, h6⟩ := dx
    exact .inr ⟨a, ob, us, vs, k, rfl, rfl, h1, h2, h3, h4, val_at k h5 (h6 H θ)⟩
theorem isG_of {S : Sto} (r : Rl X.K X.w H θ S) {g : GO} (dx : GRl X.prog X.w X.K H θ g x) (h : isG g S = true) : IsDct X x H := by
  cases g with
  | t tbl => obtain ⟨a, ob, us, vs, rfl, h1, h2, h3, _⟩ := dx; exact ⟨a, rfl, .inr (.inr ⟨ob, us, h1, h3⟩)⟩
  | d z =>
    cases z with
    | ref i =>
      obtain ⟨a, rfl, ha⟩ := dx
      unfold isG at h
      dsimp only at h
      cases e : S[i]? with
      | none => rw [e] at h; cases h
      | some o =>
        cases o with
        | lst _ => rw [e] at h; cases h
        | dK kvs => obtain ⟨vs, hv, _⟩ := r.at_ i _ a e ha; exact ⟨a, rfl, .inl ⟨vs, hv⟩⟩
        | dN kvs => obtain ⟨xs, hv, h3⟩ := r.at_ i _ a e ha; exact ⟨a, rfl, .inr (.inl ⟨θ, kvs, xs, hv, h3⟩)⟩
    | _ => cases h
theorem IsDct.at_ (I : Inv X pins σ H s) (h : IsDct X x H) : ∃ a, x = .ref a ∧ s.TypeIs (.ref a) "dict" ∧ ∀ b, Value.ref a = .ref b → ∃ ob, s.heap.get? b = some ob ∧ ob.dict = none := by
  obtain ⟨a, rfl, h⟩ := h
  refine ⟨a, rfl, ?_⟩
  rcases h with ⟨kvs, e⟩ | ⟨θ, kvs, xs, e, r⟩ | ⟨ob, us, e, h⟩
  · obtain ⟨z, hd, vs, rel, dd⟩ := dk_of I.hok e
    exact ⟨dd.typeIs, fun b q => by cases q; obtain ⟨ob, _, _, h1, h2, _⟩ := dd; exact ⟨ob, h1, h2.2.1⟩⟩
  · have dd := dct_H I e r
    exact ⟨dd.typeIs, fun b q => by cases q; obtain ⟨ob, _, _, h1, h2, _⟩ := dd; exact ⟨ob, h1, h2.2.1⟩⟩
  · have dd := h s.heap (I.kIn a ob e)
    exact ⟨dd.typeIs, fun b q => by cases q; obtain ⟨ob, _, _, h1, h2, _⟩ := dd; exact ⟨ob, h1, h2.2.1⟩⟩
/-- d.get(y, x) -/
theorem get_at {Q : Value → Shared → Prop} {o : Option D} {r : Value} {z : V} (hu : A.units + 64 < cLine) (I : Inv X pins σ H s) (g : DAtX X x y H θ o) (rx : RelV x v) (ry : RelV y u) (rz : RelV z r)
    (h1 : ∀ d, o = some d → ∀ w' z s', Inv X pins σ H s' → RelV z w' → DV X.K H θ d z → Q w' s') (h2 : o = none → ∀ w' s', Inv X pins σ H s' → RelV z w' → Q w' s') : wpAny (model X.prog X.w) A (call (.builtin "dict.get") [v, u, r]) Q E s := by
  rcases g with (⟨a, kvs, k, rfl, rfl, e, q⟩ | ⟨a, b, xs, kvs, d', k, rfl, rfl, e, pr, hk, hd, dv, ho⟩) | ⟨a, ob, us, vs, k, rfl, rfl, e, lo, hdo, rel, q⟩
  · obtain rfl : v = .ref a := rx
    refine d_get2 (o := valV kvs k) (by omega) I (.inl ⟨kvs, k, .inl e, rfl, rfl⟩) ry rz fun w' s' I' rw' => ?_
    cases o with
    | none => dsimp only at q; rw [q] at rw'; exact h2 rfl w' s' I' rw'
    | some d => obtain ⟨z', hz, dz⟩ := q; rw [hz] at rw'; exact h1 d rfl w' z' s' I' rw' dz
  · obtain rfl : v = .ref a := rx
    obtain rfl : u = .ref b := ry
    have dd := dct_H I e pr
    refine call_meetsIn PySem.F.slot_dict_get dd.typeIs PySem.F.entry_dict_get (PySem.F.args_dict_get_3 _ _ _) (meetsH_dict_get_default (nestedKind X.prog X.w) a b (dct_ok I.hok e).2.1 r) ⟨key_room hu, k, xs, key_is I hk hd dv, dd, ?_⟩
    have q := ent_at hk pr
    subst ho
    cases e : atD kvs d' with
    | none => rw [e] at q; rw [q]; exact h2 e _ _ (I.tok _) rz
    | some d => rw [e] at q; obtain ⟨p, hp, z', rz', dz⟩ := q; rw [hp]; exact h1 d e _ z' _ (I.tok _) rz' dz
  · obtain rfl : v = .ref a := rx
    have dd := hdo s.heap (I.kIn a ob e)
    refine call_meetsIn PySem.F.slot_dict_get dd.typeIs PySem.F.entry_dict_get (PySem.F.args_dict_get_3 _ _ _) (meets_dict_get_default (mixKind X.prog X.w) a (kV_is ry) lo r) ⟨_, dd.mapOf, ?_⟩
    have rv : RelO (valV vs k) (valueAt us k) := rel.val k
    cases o with
    | none => dsimp only at q; rw [q] at rv; rw [rv.none_of]; exact h2 rfl _ _ (I.tok _) rz
    | some d => obtain ⟨z', hz, dz⟩ := q; rw [hz] at rv; obtain ⟨w', e', rw'⟩ := rv.some_of; rw [e']; exact h1 d rfl _ z' _ (I.tok _) rw' dz
/-- d.get(y) -/
theorem get_at1 {Q : Value → Shared → Prop} {o : Option D} (hu : A.units + 64 < cLine) (I : Inv X pins σ H s) (g : DAtX X x y H θ o) (rx : RelV x v) (ry : RelV y u)
    (h1 : ∀ d, o = some d → ∀ w' z s', Inv X pins σ H s' → RelV z w' → DV X.K H θ d z → Q w' s') (h2 : o = none → ∀ w' s', Inv X pins σ H s' → RelV .non w' → Q w' s') : wpAny (model X.prog X.w) A (call (.builtin "dict.get") [v, u]) Q E s := by
  rcases g with (⟨a, kvs, k, rfl, rfl, e, q⟩ | ⟨a, b, xs, kvs, d', k, rfl, rfl, e, pr, hk, hd, dv, ho⟩) | ⟨a, ob, us, vs, k, rfl, rfl, e, lo, hdo, rel, q⟩
  · obtain rfl : v = .ref a := rx
    refine d_get1 (o := valV kvs k) (by omega) I (.inl ⟨kvs, k, .inl e, rfl, rfl⟩) ry fun w' s' I' rw' => ?_
    cases o with
    | none => dsimp only at q; rw [q] at rw'; exact h2 rfl w' s' I' rw'
    | some d => obtain ⟨z', hz, dz⟩ := q; rw [hz] at rw'; exact h1 d rfl w' z' s' I' rw' dz
  · obtain rfl : v = .ref a := rx
    obtain rfl : u = .ref b := ry
    have dd := dct_H I e pr
    refine call_meetsIn PySem.F.slot_dict_get dd.typeIs PySem.F.entry_dict_get (PySem.F.args_dict_get_2 _ _) (meetsH_dict_get (nestedKind X.prog X.w) a b (dct_ok I.hok e).2.1) ⟨key_room hu, k, xs, key_is I hk hd dv, dd, ?_⟩
    have q := ent_at hk pr
    subst ho
    cases e : atD kvs d' with
    | none => rw [e] at q; rw [q]; exact h2 e _ _ (I.tok _) rfl
    | some d => rw [e] at q; obtain ⟨p, hp, z', rz', dz⟩ := q; rw [hp]; exact h1 d e _ z' _ (I.tok _) rz' dz
  · obtain rfl : v = .ref a := rx
    have dd := hdo s.heap (I.kIn a ob e)
    refine call_meetsIn PySem.F.slot_dict_get dd.typeIs PySem.F.entry_dict_get (PySem.F.args_dict_get_2 _ _) (meets_dict_get (mixKind X.prog X.w) a (kV_is ry) lo) ⟨_, dd.mapOf, ?_⟩
    have rv : RelO (valV vs k) (valueAt us k) := rel.val k
    cases o with
    | none => dsimp only at q; rw [q] at rv; rw [rv.none_of]; exact h2 rfl _ _ (I.tok _) rfl
    | some d => obtain ⟨z', hz, dz⟩ := q; rw [hz] at rv; obtain ⟨w', e', rw'⟩ := rv.some_of; rw [e']; exact h1 d rfl _ z' _ (I.tok _) rw' dz
theorem item_at {Q : Value → Shared → Prop} {d : D} (hu : A.units + 64 < cLine) (I : Inv X pins σ H s) (g : DAtX X x y H θ (some d)) (rx : RelV x v) (ry : RelV y u) (h : ∀ w' z s', Inv X pins σ H s' → RelV z w' → DV X.K H θ d z → Q w' s') : wpAny (model X.prog X.w) A (getItem v u) Q E s := by
  rcases g with g | ⟨a, ob, us, vs, k, rfl, rfl, e, lo, hdo, rel, z', hz, dz⟩
  · exact g.getItem hu I rx ry h
  · obtain rfl : v = .ref a := rx
    have dd := hdo s.heap (I.kIn a ob e)
    have rv : RelO (valV vs k) (valueAt us k) := rel.val k
    rw [hz] at rv
    obtain ⟨w', e', rw'⟩ := rv.some_of
    exact wpAny_getItem_of (kV_is ry) dd.mapOf e' (h w' z' _ (I.tok _) rw' dz)
theorem in_at {Q : Value → Shared → Prop} {o : Option D} (hu : A.units + 64 < cLine) (I : Inv X pins σ H s) (g : DAtX X x y H θ o) (rx : RelV x v) (ry : RelV y u) (h : ∀ s', Inv X pins σ H s' → Q (.bool o.isSome) s') : wpAny (model X.prog X.w) A (compareOp .In u v) Q E s := by
  rcases g with g | ⟨a, ob, us, vs, k, rfl, rfl, e, lo, hdo, rel, q⟩
  · exact g.isIn hu I rx ry h
  · obtain rfl : v = .ref a := rx
    have dd := hdo s.heap (I.kIn a ob e)
    have rv : RelO (valV vs k) (valueAt us k) := rel.val k
    have : (valueAt us k).isSome = o.isSome := by
      rw [← rv.isSome_eq]
      cases o with
      | none => rw [q]; rfl
      | some d => obtain ⟨z', hz, _⟩ := q; rw [hz]; rfl
    exact wpAny_in_of (kV_is ry) lo dd.mapOf (by rw [this]; exact h _ (I.tok _))
theorem notIn_at {Q : Value → Shared → Prop} {o : Option D} (hu : A.units + 64 < cLine) (I : Inv X pins σ H s) (g : DAtX X x y H θ o) (rx : RelV x v) (ry : RelV y u) (h : ∀ s', Inv X pins σ H s' → Q (.bool (!o.isSome)) s') : wpAny (model X.prog X.w) A (compareOp .NotIn u v) Q E s := by
  rcases g with g | ⟨a, ob, us, vs, k, rfl, rfl, e, lo, hdo, rel, q⟩
  · exact g.notIn hu I rx ry h
  · obtain rfl : v = .ref a := rx
    have dd := hdo s.heap (I.kIn a ob e)
    have rv : RelO (valV vs k) (valueAt us k) := rel.val k
    have : (valueAt us k).isSome = o.isSome := by
      rw [← rv.isSome_eq]
      cases o with
      | none => rw [q]; rfl
      | some d => obtain ⟨z', hz, _⟩ := q; rw [hz]; rfl
    exact wpAny_notIn_of (kV_is ry) lo dd.mapOf (by rw [this]; exact h _ (I.tok _))
theorem datX_typeIs {o : Option D} (I : Inv X pins σ H s) (g : DAtX X x y H θ o) (rx : RelV x v) : s.TypeIs v "dict" := by
  rcases g with g | ⟨a, ob, us, vs, k, rfl, rfl, e, lo, hdo, rel, q⟩
  · exact dctAt_typeIs I g rx
  · obtain rfl : v = .ref a := rx
    exact (hdo s.heap (I.kIn a ob e)).typeIs
end
/-! ### rules -/
abbrev FG := Env → Sto → R GO
def PostG (P : Program) (w : World) (K : PySem.W.Frag) (mg : Str → Option Value) (θ : List Addr) (H : Hp) (r : R GO) (Q : VK) (E : XK) : Prop := match r with
  | .ok g S' => ∀ θ' H' v, Fut H θ H' θ' → Rl K w H' θ' S' → GRl P w K H' θ' g v → Q v H'
  | .ex c S' => ∀ θ' H' cls dd, Fut H θ H' θ' → Rl K w H' θ' S' → ExR K mg H' θ' c cls dd → E cls dd H'
  | .no => False
def DG (X : Cx) (W : WX) (e : Expr) (f : FG) : Prop := ∃ t, PE X e t ∧ ∀ θ σ ρ H S Q, Rl X.K X.w H θ S → SlV X.K H θ ρ σ → PostG X.prog X.w X.K X.mg θ H (f ρ S) Q (fun c d H' => W c d σ H') → t σ H Q
def fgD (f : FE) : FG := fun ρ S => (f ρ S).bind fun d S' => .ok (.d d) S'
def fgT (tbl : List (Key × D)) : FG := fun _ S => .ok (.t tbl) S
section
variable {X : Cx} {W : WX} {e a b c : Expr} {pos apos : Pos} {f fa fb fc : FE} {fg : FG}
theorem dg_de (h : DE X W e f) : DG X W e (fgD f) := by
  obtain ⟨t, p, q⟩ := h
  refine ⟨t, p, fun θ σ ρ H S Q r sl h => q θ σ ρ H S Q r sl ?_⟩
  unfold fgD at h
  cases e0 : f ρ S with
  | no => rw [e0] at h; exact h
  | ex c S' => rw [e0] at h; exact h
  | ok d S' => rw [e0] at h; exact h
theorem dg_top {x : Str} {tbl : List (Key × D)} (hg : Gl X x) (h : GD X.prog X.w X.K X.mg x tbl) (hd : (x == ("__debug__" : Str)) = false := by decide) : DG X W (.Name x pos) (fgT tbl) := by
  obtain ⟨a, hm, kt⟩ := h
  exact ⟨_, pe_glob (v := .ref a) hg hm rfl hd, fun θ σ ρ H S Q r sl h => h θ H _ .refl r kt⟩
/-- one value, then the rest -/
theorem bindV {ta : TE} (qa : ∀ θ σ ρ H S Q, Rl X.K X.w H θ S → SlV X.K H θ ρ σ → PostV X.K X.w X.mg θ H (fa ρ S) Q (fun c d H' => W c d σ H') → ta σ H Q) {θ : List Addr} {σ : L2.St} {ρ : Env} {H : Hp} {S : Sto} {Q G : VK} {k : D → Sto → R D} (r : Rl X.K X.w H θ S) (sl : SlV X.K H θ ρ σ)
    (h : PostV X.K X.w X.mg θ H ((fa ρ S).bind k) Q (fun c d H' => W c d σ H'))
    (hk : ∀ θ1 H1 S1 x v, Fut H θ H1 θ1 → Rl X.K X.w H1 θ1 S1 → SlV X.K H1 θ1 ρ σ → DV X.K H1 θ1 x v → PostV X.K X.w X.mg θ1 H1 (k x S1) Q (fun c d H' => W c d σ H') → G v H1) : ta σ H G := by
  refine qa θ σ ρ H S _ r sl ?_
  cases e : fa ρ S with
  | no => rw [e] at h; exact h
  | ex c S' => rw [e] at h; exact h
  | ok x S1 => rw [e] at h; exact fun θ1 H1 v f1 r1 d1 => hk θ1 H1 S1 x v f1 r1 (sl.later f1) d1 (PostV.since f1 h)
theorem bindG {ta : TE} (qa : ∀ θ σ ρ H S Q, Rl X.K X.w H θ S → SlV X.K H θ ρ σ → PostG X.prog X.w X.K X.mg θ H (fg ρ S) Q (fun c d H' => W c d σ H') → ta σ H Q) {θ : List Addr} {σ : L2.St} {ρ : Env} {H : Hp} {S : Sto} {Q G : VK} {k : GO → Sto → R D} (r : Rl X.K X.w H θ S) (sl : SlV X.K H θ ρ σ)
    (h : PostV X.K X.w X.mg θ H ((fg ρ S).bind k) Q (fun c d H' => W c d σ H'))
    (hk : ∀ θ1 H1 S1 x v, Fut H θ H1 θ1 → Rl X.K X.w H1 θ1 S1 → SlV X.K H1 θ1 ρ σ → GRl X.prog X.w X.K H1 θ1 x v → PostV X.K X.w X.mg θ1 H1 (k x S1) Q (fun c d H' => W c d σ H') → G v H1) : ta σ H G := by
  refine qa θ σ ρ H S _ r sl ?_
  cases e : fg ρ S with
  | no => rw [e] at h; exact h
  | ex c S' => rw [e] at h; exact h
  | ok x S1 => rw [e] at h; exact fun θ1 H1 v f1 r1 d1 => hk θ1 H1 S1 x v f1 r1 (sl.later f1) d1 (PostV.since f1 h)
theorem GRl.later {P : Program} {w : World} {K : PySem.W.Frag} {H H' : Hp} {θ θ' : List Addr} (f : Fut H θ H' θ') {g : GO} {v : V} (h : GRl P w K H θ g v) : GRl P w K H' θ' g v := by
  cases g with
  | d x => exact DV.later f _ _ h
  | t tbl => exact h
/-- d.get(y, x) -/
def fGet2 (fg : FG) (fb fc : FE) : FE := fun ρ S => (fg ρ S).bind fun g S1 => if isG g S1 = true then (fb ρ S1).bind fun y S2 => (fc ρ S2).bind fun z S3 => match gAt g y S3 with
  | some (some d) => .ok d S3
  | some none => .ok z S3
  | none => .no else .no
def fGet1 (fg : FG) (fb : FE) : FE := fun ρ S => (fg ρ S).bind fun g S1 => if isG g S1 = true then (fb ρ S1).bind fun y S2 => match gAt g y S2 with
  | some (some d) => .ok d S2
  | some none => .ok .non S2
  | none => .no else .no
theorem de_get2 (hu : X.A.units + 64 < cLine) (ha : DG X W a fg) (hb : DE X W b fb) (hc : DE X W c fc) (m : M2 X a "get" apos b c pos := by exact ⟨rfl, rfl, rfl, rfl⟩) : DE X W (.Call (.Attribute a "get" apos) [b, c] [] pos) (fGet2 fg fb fc) := by
  obtain ⟨ta, pa, qa⟩ := ha
  obtain ⟨tb, pb, qb⟩ := hb
  obtain ⟨tc, pc, qc⟩ := hc
  refine ⟨fun σ H Q => ta σ H fun x H1 => IsDct X x H1 ∧ tb σ H1 fun y H2 => tc σ H2 fun z H3 => ∃ θ o, DAtX X x y H3 θ o ∧ (∀ d, o = some d → ∀ v, DV X.K H3 θ d v → Q v H3) ∧ (o = none → Q z H3), ⟨fun pins s σ H Q I h => ?_⟩, fun θ σ ρ H S Q r sl h => ?_⟩
  · refine wpAny_Call_method m.base m.few m.line PySem.F.plainAttrs_dict PySem.F.slot_dict_get PySem.F.type_dict_get (thn (pa.run pins s σ H _ I h) fun u s1 ⟨x, H1, I1, rx, d, q1⟩ => ?_)
    obtain ⟨a', rfl, t1, t2⟩ := d.at_ I1
    obtain rfl : u = Value.ref a' := rx
    refine ⟨t1, t2, ?_⟩
    rw [m.trees]
    refine Calls.callWith_builtin rfl (Calls.evalArgs_plain (Calls.spliced_cons (thn (pb.run pins s1 σ H1 _ I1 q1) fun iv s2 ⟨y, H2, I2, ry, q2⟩ =>
      Calls.spliced_cons (thn (pc.run pins s2 σ H2 _ I2 q2) fun fv s3 ⟨z, H3, I3, rz, θ, o, g, q3, q4⟩ => Calls.spliced_nil ?_))))
    exact get_at hu I3 g rfl ry rz (fun d e w' z' s' I' rw' dz => ⟨z', H3, I', rw', q3 d e z' dz⟩) fun e w' s' I' rw' => ⟨z, H3, I', rw', q4 e⟩
  · refine bindG qa r sl h fun θ1 H1 S1 g v f1 r1 sl1 d1 h => ?_
    by_cases hz : isG g S1 = true
    · rw [if_pos hz] at h
      refine ⟨isG_of r1 d1 hz, bindV qb r1 sl1 h fun θ2 H2 S2 y u f2 r2 sl2 d2 h => bindV qc r2 sl2 h fun θ3 H3 S3 z w f3 r3 sl3 d3 h => ?_⟩
      cases e : gAt g y S3 with
      | none => rw [e] at h; exact h.elim
      | some o =>
        rw [e] at h
        refine ⟨θ3, o, gAt_of r3 (d1.later (f2.trans f3)) (DV.later f3 _ _ d2) e, fun d e' u' du => ?_, fun e' => ?_⟩
        · subst e'; exact h θ3 H3 u' .refl r3 du
        · subst e'; exact h θ3 H3 w .refl r3 d3
    · rw [if_neg hz] at h; exact h.elim
theorem de_get1 (hu : X.A.units + 64 < cLine) (ha : DG X W a fg) (hb : DE X W b fb) (m : M1 X a "get" apos b pos := by exact ⟨rfl, rfl, rfl, rfl⟩) : DE X W (.Call (.Attribute a "get" apos) [b] [] pos) (fGet1 fg fb) := by
  obtain ⟨ta, pa, qa⟩ := ha
  obtain ⟨tb, pb, qb⟩ := hb
  refine ⟨fun σ H Q => ta σ H fun x H1 => IsDct X x H1 ∧ tb σ H1 fun y H2 => ∃ θ o, DAtX X x y H2 θ o ∧ (∀ d, o = some d → ∀ v, DV X.K H2 θ d v → Q v H2) ∧ (o = none → Q .non H2), ⟨fun pins s σ H Q I h => ?_⟩, fun θ σ ρ H S Q r sl h => ?_⟩
  · refine wpAny_Call_method m.base m.few m.line PySem.F.plainAttrs_dict PySem.F.slot_dict_get PySem.F.type_dict_get (thn (pa.run pins s σ H _ I h) fun u s1 ⟨x, H1, I1, rx, d, q1⟩ => ?_)
    obtain ⟨a', rfl, t1, t2⟩ := d.at_ I1
    obtain rfl : u = Value.ref a' := rx
    refine ⟨t1, t2, ?_⟩
    rw [m.trees]
    refine Calls.callWith_builtin rfl (Calls.evalArgs_plain (Calls.spliced_cons (thn (pb.run pins s1 σ H1 _ I1 q1) fun iv s2 ⟨y, H2, I2, ry, θ, o, g, q3, q4⟩ => Calls.spliced_nil ?_)))
    exact get_at1 hu I2 g rfl ry (fun d e w' z' s' I' rw' dz => ⟨z', H2, I', rw', q3 d e z' dz⟩) fun e w' s' I' rw' => ⟨.non, H2, I', rw', q4 e⟩
  · refine bindG qa r sl h fun θ1 H1 S1 g v f1 r1 sl1 d1 h => ?_
    by_cases hz : isG g S1 = true
    · rw [if_pos hz] at h
      refine ⟨isG_of r1 d1 hz, bindV qb r1 sl1 h fun θ2 H2 S2 y u f2 r2 sl2 d2 h => ?_⟩
      cases e : gAt g y S2 with
      | none => rw [e] at h; exact h.elim
      | some o =>
        rw [e] at h
        refine ⟨θ2, o, gAt_of r2 (d1.later f2) d2 e, fun d e' u' du => ?_, fun e' => ?_⟩
        · subst e'; exact h θ2 H2 u' .refl r2 du
        · subst e'; exact h θ2 H2 .non .refl r2 rfl
    · rw [if_neg hz] at h; exact h.elim
/-- d[k] -/
def fIxG (fg : FG) (fb : FE) : FE := fun ρ S => (fg ρ S).bind fun g S1 => (fb ρ S1).bind fun y S2 => match gAt g y S2 with
  | some (some d) => .ok d S2
  | _ => .no
theorem de_ixG (hu : X.A.units + 64 < cLine) (ha : DG X W a fg) (hb : DE X W b fb) (hs : NoSl b := by exact fun _ _ => rfl) : DE X W (.Subscript a b pos) (fIxG fg fb) := by
  obtain ⟨ta, pa, qa⟩ := ha
  obtain ⟨tb, pb, qb⟩ := hb
  refine ⟨fun σ H Q => ta σ H fun v H1 => tb σ H1 fun w H2 => ∃ θ d, DAtX X v w H2 θ (some d) ∧ ∀ z, DV X.K H2 θ d z → Q z H2, ⟨fun pins s σ H Q I h => ?_⟩, fun θ σ ρ H S Q r sl h => ?_⟩
  · refine subD_of PySem.F.slot_dict_getitem.lookup hs (thn (pa.run pins s σ H _ I h) fun u s1 ⟨x, H1, I1, rx, q1⟩ => thn (pb.run pins s1 σ H1 _ I1 q1) fun iv s2 ⟨y, H2, I2, ry, θ, d, g, q2⟩ => ?_)
    exact ⟨datX_typeIs I2 g rx, item_at hu I2 g rx ry fun w' z s3 I3 rw' dz => ⟨z, H2, I3, rw', q2 z dz⟩⟩
  · refine bindG qa r sl h fun θ1 H1 S1 g v f1 r1 sl1 d1 h => bindV qb r1 sl1 h fun θ2 H2 S2 y u f2 r2 sl2 d2 h => ?_
    split at h
    · rename_i d e
      exact ⟨θ2, d, gAt_of r2 (d1.later f2) d2 e, fun z dz => h θ2 H2 z .refl r2 dz⟩
    · exact h.elim
/-- k in d -/
def fInG (neg : Bool) (fa : FE) (fg : FG) : FE := fun ρ S => (fa ρ S).bind fun y S1 => (fg ρ S1).bind fun g S2 => match gAt g y S2 with
  | some o => .ok (.bl (if neg = true then !o.isSome else o.isSome)) S2
  | none => .no
def rInG (X : Cx) (neg : Bool) : R2 := fun y x H Q => ∃ θ o, DAtX X x y H θ o ∧ Q (.bl (if neg = true then !o.isSome else o.isSome)) H
theorem op_inG (hu : X.A.units + 64 < cLine) : OpR X (compareOp .In) (rInG X false) := fun pins s σ H y x u v Q I ry rx ⟨θ, o, g, q⟩ => in_at hu I g rx ry fun s' I' => ⟨.bl _, H, I', rfl, q⟩
theorem op_notInG (hu : X.A.units + 64 < cLine) : OpR X (compareOp .NotIn) (rInG X true) := fun pins s σ H y x u v Q I ry rx ⟨θ, o, g, q⟩ => notIn_at hu I g rx ry fun s' I' => ⟨.bl _, H, I', rfl, q⟩
theorem read_inG {neg : Bool} {ta tb : TE} (qa : ∀ θ σ ρ H S Q, Rl X.K X.w H θ S → SlV X.K H θ ρ σ → PostV X.K X.w X.mg θ H (fa ρ S) Q (fun c d H' => W c d σ H') → ta σ H Q)
    (qb : ∀ θ σ ρ H S Q, Rl X.K X.w H θ S → SlV X.K H θ ρ σ → PostG X.prog X.w X.K X.mg θ H (fg ρ S) Q (fun c d H' => W c d σ H') → tb σ H Q) {θ : List Addr} {σ : L2.St} {ρ : Env} {H : Hp} {S : Sto} {Q : VK} (r : Rl X.K X.w H θ S) (sl : SlV X.K H θ ρ σ)
    (h : PostV X.K X.w X.mg θ H (fInG neg fa fg ρ S) Q (fun c d H' => W c d σ H')) : tOp (rInG X neg) ta tb σ H Q := by
  refine bindV qa r sl h fun θ1 H1 S1 y u f1 r1 sl1 d1 h => ?_
  have h : PostV X.K X.w X.mg θ1 H1 ((fg ρ S1).bind fun g S2 => match gAt g y S2 with
    | some o => .ok (.bl (if neg = true then !o.isSome else o.isSome)) S2
    | none => .no) Q (fun c d H' => W c d σ H') := h
  refine bindG qb r1 sl1 h fun θ2 H2 S2 g v f2 r2 sl2 d2 h => ?_
  cases e : gAt g y S2 with
  | none => rw [e] at h; exact h.elim
  | some o => rw [e] at h; exact ⟨θ2, o, gAt_of r2 d2 (DV.later f2 _ _ d1) e, h θ2 H2 _ .refl r2 rfl⟩
theorem de_inG (hu : X.A.units + 64 < cLine) (ha : DE X W a fa) (hb : DG X W b fg) (hm : behindInMarks .In b = false := by first | exact nomark _ | rfl) : DE X W (.Compare a [.In] [b] pos) (fInG false fa fg) := by
  obtain ⟨ta, pa, qa⟩ := ha
  obtain ⟨tb, pb, qb⟩ := hb
  exact ⟨_, pe_cmpR (op_inG hu) pa pb hm, fun θ σ ρ H S Q r sl h => read_inG qa qb r sl h⟩
theorem de_notInG (hu : X.A.units + 64 < cLine) (ha : DE X W a fa) (hb : DG X W b fg) (hm : behindInMarks .NotIn b = false := by first | exact nomark _ | rfl) : DE X W (.Compare a [.NotIn] [b] pos) (fInG true fa fg) := by
  obtain ⟨ta, pa, qa⟩ := ha
  obtain ⟨tb, pb, qb⟩ := hb
  exact ⟨_, pe_cmpR (op_notInG hu) pa pb hm, fun θ σ ρ H S Q r sl h => read_inG qa qb r sl h⟩
theorem ftB_V {θ : List Addr} {σ : L2.St} {ρ : Env} {H : Hp} {S : Sto} {fe : FE} {Q : Bool → Hp → Prop} (h : PostB X.K X.w X.mg θ H (ftB fe ρ S) Q (fun c d H' => W c d σ H')) : PostV X.K X.w X.mg θ H (fe ρ S) (fun x H' => ∃ k, x = .bl k ∧ Q k H') (fun c d H' => W c d σ H') := by
  unfold ftB at h
  cases e : fe ρ S with
  | no => rw [e] at h; exact h
  | ex c S' => rw [e] at h; exact h
  | ok d S' =>
    rw [e] at h
    have h : PostB X.K X.w X.mg θ H (asB d S') Q _ := h
    intro θ' H' v f r' dv
    cases d <;> first | exact h.elim | skip
    exact ⟨_, dv, h θ' H' f r'⟩
theorem dt_inG (hu : X.A.units + 64 < cLine) (ha : DE X W a fa) (hb : DG X W b fg) (hm : behindInMarks .In b = false := by first | exact nomark _ | rfl) : DT X W (.Compare a [.In] [b] pos) (ftB (fInG false fa fg)) := by
  obtain ⟨ta, pa, qa⟩ := ha
  obtain ⟨tb, pb, qb⟩ := hb
  exact ⟨_, pt_cmpR (op_inG hu) pa pb hm, fun θ σ ρ H S Q r sl h => read_inG qa qb r sl (ftB_V h)⟩
theorem dt_notInG (hu : X.A.units + 64 < cLine) (ha : DE X W a fa) (hb : DG X W b fg) (hm : behindInMarks .NotIn b = false := by first | exact nomark _ | rfl) : DT X W (.Compare a [.NotIn] [b] pos) (ftB (fInG true fa fg)) := by
  obtain ⟨ta, pa, qa⟩ := ha
  obtain ⟨tb, pb, qb⟩ := hb
  exact ⟨_, pt_cmpR (op_notInG hu) pa pb hm, fun θ σ ρ H S Q r sl h => read_inG qa qb r sl (ftB_V h)⟩
end
end Y

set_option Elab.async false
set_option linter.all false
set_option maxRecDepth 100000
set_option maxHeartbeats 2000000
/-! YKit: what the printed walks use. -/
namespace Y
open PySem L2
theorem RoomY.u {k : Nat} {A : Around} (r : RoomY k A) : A.units + 64 < cLine := by have := r.room.un; omega
theorem RoomY.u65 {k : Nat} {A : Around} (r : RoomY k A) : A.units + 65 < cLine := by have := r.room.un; omega
theorem RoomY.u66 {k : Nat} {A : Around} (r : RoomY k A) : A.units + 66 < cLine := by have := r.room.un; omega
theorem RoomY.u70 {k : Nat} {A : Around} (r : RoomY k A) : A.units + 70 < cLine := by have := r.room.un; omega
/-- in a comprehension nothing is let out -/
theorem takes0 {X : Cx} : Takes X W0 := fun u s' ⟨a, B, sI, pins, σ, H, cls, d, e, I, nb, up, sky, na, os, ag, w⟩ => w.elim
/-- so many arguments -/
def AL (fas : FA) (n : Nat) : Prop := ∀ ρ S d S', fas ρ S = .ok d S' → d.length = n
theorem al_nil : AL faNil 0 := fun ρ S d S' h => by cases h; rfl
theorem al_cons {fe : FE} {fas : FA} {n : Nat} (h : AL fas n) : AL (faCons fe fas) (n + 1) := fun ρ S d S' e => by
  unfold faCons R.bind at e
  cases e1 : fe ρ S with
  | no => rw [e1] at e; cases e
  | ex c S1 => rw [e1] at e; cases e
  | ok x S1 =>
    rw [e1] at e
    cases e2 : fas ρ S1 with
    | no => simp only [e2] at e; cases e
    | ex c S2 => simp only [e2] at e; cases e
    | ok y S2 =>
      simp only [e2] at e
      cases e
      rw [List.length_cons, h ρ S1 y _ e2]
theorem bnd0 {G : List Value → Prop} (h : G []) : ∀ us : List Value, us.length = 0 → G us
  | [], _ => h
theorem bnd1 {G : List Value → Prop} (h : ∀ a, G [a]) : ∀ us : List Value, us.length = 1 → G us
  | [a], _ => h a
theorem bndS {G : List Value → Prop} {n : Nat} (h : ∀ a, ∀ us : List Value, us.length = n → G (a :: us)) : ∀ us : List Value, us.length = n + 1 → G us
  | a :: us, e => h a us (by simpa using e)
theorem vbnd0 {G : List V → Prop} (h : G []) : ∀ us : List V, us.length = 0 → G us
  | [], _ => h
theorem vbndS {G : List V → Prop} {n : Nat} (h : ∀ a, ∀ us : List V, us.length = n → G (a :: us)) : ∀ us : List V, us.length = n + 1 → G us
  | a :: us, e => h a us (by simpa using e)
/-! tests let garbage go, too -/
def tidyB (S : Sto) (r : R Bool) : R Bool := match r with
  | .ok d S' => if S'.take S.length = S then .ok d S else .ok d S'
  | r => r
def ftTidy (f : FT) : FT := fun ρ S => tidyB S (f ρ S)
theorem DT.tidy {X : Cx} {W : WX} {e : Expr} {f : FT} (h : DT X W e f) : DT X W e (ftTidy f) := by
  obtain ⟨t, p, q⟩ := h
  refine ⟨t, p, fun θ σ ρ H S Q r sl h => q θ σ ρ H S Q r sl ?_⟩
  unfold ftTidy tidyB at h
  cases e : f ρ S with
  | no => rw [e] at h; exact h
  | ex c S' => rw [e] at h; exact h
  | ok d S' =>
    rw [e] at h
    dsimp only at h
    split at h
    · rename_i c
      intro θ1 H1 f1 r1
      obtain ⟨m, rfl⟩ := f1.pre
      exact h θ H1 ⟨⟨[], by simp⟩, f1.imm⟩ (r.back r1 c)
    · exact h
theorem tidyB_eq {S G : Sto} {r : R Bool} {b : Bool} (e : r = .ok b (S ++ G)) : tidyB S r = .ok b S := by
  subst e; simp [tidyB]
/-! the items of a list or a tuple -/
def fiOr (f g : FI) : FI := fun ρ S => orR (f ρ S) (g ρ S)
theorem DI.or {X : Cx} {W : WX} {tg e : Expr} {f g : FI} (h1 : DI X W tg e f) (h2 : DI X W tg e g) : DI X W tg e (fiOr f g) := by
  obtain ⟨t1, p1, q1⟩ := h1
  obtain ⟨t2, p2, q2⟩ := h2
  refine ⟨fun σ H R => t1 σ H R ∨ t2 σ H R, ⟨fun pins s σ H R I h => ?_⟩, fun θ σ ρ H S R r sl h => ?_⟩
  · rcases h with h | h
    · exact p1.run pins s σ H R I h
    · exact p2.run pins s σ H R I h
  · unfold fiOr orR at h
    cases ea : f ρ S with
    | no => rw [ea] at h; exact .inr (q2 θ σ ρ H S R r sl h)
    | ok d S' => rw [ea] at h; exact .inl (q1 θ σ ρ H S R r sl (by rw [ea]; exact h))
    | ex c S' => rw [ea] at h; exact .inl (q1 θ σ ρ H S R r sl (by rw [ea]; exact h))
/-- a list's or a tuple's items -/
def fiSeq (f : FE) : FI := fiOr (fiLst f) (fiTup f)
theorem di_seq {X : Cx} {W : WX} {tg e : Expr} {f : FE} (ha : DE X W e f) : DI X W tg e (fiSeq f) := DI.or (di_list ha) (di_tup ha)
end Y
namespace Y
open PySem L2
/-- the names of a comprehension's block, as a test -/
def blkB (N : List Str) (sc scope : Scope) (own : List (Str × Nat)) : Bool := (scope.kind == .function) && (scope.names.all fun y => scope.names.lookup y.1 == some y.2) && (own.all fun p => N[p.2]? == some p.1) &&
  (scope.names.all fun y => y.2 != .free || sc.names.lookup y.1 == some .cell || sc.names.lookup y.1 == some .free) && (scope.names.all fun y => !(y.2 == .local || y.2 == .cell) || (own.map (·.1)).contains y.1 || !N.contains y.1)
theorem blk_of {N : List Str} {sc scope : Scope} {own : List (Str × Nat)} (h : blkB N sc scope own = true) : BlkOk N sc scope own := by
  unfold blkB at h
  simp only [Bool.and_eq_true, List.all_eq_true, Bool.or_eq_true, beq_iff_eq, bne_iff_ne, Bool.not_eq_true'] at h
  obtain ⟨⟨⟨⟨h1, h2⟩, h3⟩, h4⟩, h5⟩ := h
  refine ⟨h1, h2, h3, fun y hy e => ?_, fun y hy e => ?_⟩
  · rcases h4 y hy with (h | h) | h
    · exact absurd e h
    · exact .inl h
    · exact .inr h
  · rcases h5 y hy with (h | h) | h
    · rcases e with e | e
      · rw [e] at h; exact absurd h (by decide)
      · rw [e] at h; exact absurd h (by decide)
    · exact .inl (by simpa using h)
    · exact .inr (by simpa using h)
end Y

set_option Elab.async false
set_option linter.all false
set_option maxRecDepth 100000
set_option maxHeartbeats 2000000
/-! YEnd: from the law's def to the law's row. -/
namespace Y
open PySem L2
open PySem.Spec PyProof.Rows
theorem caller_roomY {k : Nat} (h : Room k callerA) : RoomY k callerA := ⟨h, rfl⟩
section
variable {P : Program} {w : World} {K : PySem.W.Frag} {mg mb : Str → Option Value} {k : Nat} {fa a : Addr} {fd : FuncData} {x : Str} {sp : Sp} {s₁ : Shared} {vs : List Value} {ns : List Int}
/-- what the law's call leaves -/
abbrev Left (s₁ : Shared) : Result → Shared → Prop := fun r s' => r = .ok (.ret (.bool true)) ∧ OldK s₁.heap s'.heap ∧ s'.os = s₁.os ∧ AllBare s'.gens
/-- one reading of the heap: only the script may be tracked -/
theorem call_core (KX : K.In s₁.heap) (hns : s₁.heap.Ns mainGlobals mg) (hb : s₁.heap.Ns builtinsNs mb) (hbb : ∀ x : Str, x ≠ "__name__" → mb x = bootBuiltins x) (hlim : s₁.heap.NoLimit) (hg : s₁.gens = #[])
    (ha : s₁.heap.get? a = some { cls := .type "list", data := .seq vs.toArray }) (hr : RoomY k callerA)
    (F : ∀ base : Heap, K.In base → base.Ns mainGlobals mg → FnG P w K mg base (L2.CX P w) k fa fd [x] sp) (hbind : ∀ (s : Shared) (u : Value), BindsTo s fd ⟨[u], []⟩ [(x, u)])
    (H : Hp) (hO : Only H) (hok : HOk P w H s₁.heap) (hA : ∀ b, H b ≠ none → b = a) (hK : H a ≠ none → K.lookup a = none) (hsp : sp [.ref a] H (fun v _ => v = .bl true) fun _ _ _ => False) :
    codeAny (model P w) callerA (.call (.ref fa) ⟨[.ref a], []⟩) (Left s₁) s₁ := by
  have known : ∀ {b : Addr} {o : Obj}, s₁.heap.get? b = some o → (H b ≠ none → False) → (hidT s₁.heap H).get? b = some o := fun {b o} e n => hidT_get e (by
    cases q : H b with
    | none => rfl
    | some _ => exact (n (by rw [q]; simp)).elim)
  have nsd : ∀ {b : Addr} {m : Str → Option Value}, s₁.heap.Ns b m → (hidT s₁.heap H).Ns b m := fun {b m} ⟨o, es, ep, e, d, r⟩ => ⟨o, es, ep, known e (fun n => by
    obtain rfl := hA b n
    rw [ha] at e; cases e
    exact nomatch (show Data.seq vs.toArray _ = Data.dict es ep from d)), d, r⟩
  have kin : K.In (hidT s₁.heap H) := fun b o e => known (KX b o e) fun n => by
    obtain rfl := hA b n
    rw [hK n] at e; cases e
  have hM : Mod K mg (hidT s₁.heap H) := ⟨kin, nsd hns, ⟨mb, nsd hb, hbb⟩, let ⟨mc, h1, h2⟩ := hlim; ⟨mc, nsd h1, h2⟩⟩
  have e0 : Env0 P w K mg (hidT s₁.heap H) callerA [] s₁ H := ⟨rfl, hM, fun b o e => of_hidT e, Nat.le_of_eq (hidT_size _ _), trivial, fun b hb => absurd (show b ∈ ([] : List Addr) from hb) (by simp), hok, .of_eq hg⟩
  refine codeAny_mono ((F _ kin (nsd hns)).run callerA [] s₁ H ⟨[.ref a], []⟩ [.ref a] [.ref a] _ _ hr e0 (hbind s₁ (.ref a)) (.cons rfl .nil) hsp) fun r s' h => ?_
  match r, h with
  | .error e, h => obtain ⟨_, _, _, _, _, _, _, _, _, _, _, _, z⟩ := h; exact z.elim
  | .ok (.ret u), ⟨v, H', os, bare, un, hok', r', (q : v = .bl true)⟩ =>
    subst q
    obtain rfl : u = Value.bool true := r'
    refine ⟨rfl, OldK.of_keep fun b o e => ?_, os, bare⟩
    cases q : H b with
    | none => exact un.keep b o e q (by intro z; exact absurd (show b ∈ ([] : List Addr) from z) (by simp)) (by simp)
    | some u =>
      obtain ⟨ob, xs, z⟩ := (hO b).resolve_left (by rw [q]; simp)
      have e1 := (hok b _ z).1
      have e2 := (hok' b _ (un.frzs b ob _ z)).1
      exact e2.trans (e1.symm.trans e)
theorem call_law (KX : K.In s₁.heap) (hns : s₁.heap.Ns mainGlobals mg) (hb : s₁.heap.Ns builtinsNs mb) (hbb : ∀ x : Str, x ≠ "__name__" → mb x = bootBuiltins x) (hlim : s₁.heap.NoLimit) (hg : s₁.gens = #[])
    (ha : s₁.heap.get? a = some { cls := .type "list", data := .seq vs.toArray }) (hi : IntsAre vs ns) (hl : ns.length ≤ sizeLine) (hr : RoomY k callerA)
    (F : ∀ base : Heap, K.In base → base.Ns mainGlobals mg → FnG P w K mg base (L2.CX P w) k fa fd [x] sp) (hbind : ∀ (s : Shared) (u : Value), BindsTo s fd ⟨[u], []⟩ [(x, u)])
    (hsp : ∀ H : Hp, Only H → SqL K H a (ns.map V.int) → sp [.ref a] H (fun v _ => v = .bl true) fun _ _ _ => False) :
    codeAny (model P w) callerA (.call (.ref fa) ⟨[.ref a], []⟩) (Left s₁) s₁ := by
  have rv := vals_ints hi
  cases hk : K.lookup a with
  | some o =>
    have e := KX a o hk
    rw [ha] at e
    cases e
    refine call_core KX hns hb hbb hlim hg ha hr F hbind (fun _ => none) (fun _ => .inl rfl) (fun b u z => nomatch (show (none : Option HO) = some u from z)) (fun b z => absurd rfl z) (fun z => absurd rfl z) (hsp _ (fun _ => .inl rfl) (.inr ⟨_, vs.toArray, _, hk, rfl, rfl, rfl, by rw [List.size_toArray, hi.length]; exact hl, by simpa using rv⟩))
  | none =>
    let H : Hp := fun b => if b = a then some (.frz { cls := .type "list", data := .seq vs.toArray } (.lst (ns.map V.int))) else none
    have eH : ∀ b, b ≠ a → H b = none := fun b n => if_neg n
    have aH : H a = some (.frz { cls := .type "list", data := .seq vs.toArray } (.lst (ns.map V.int))) := if_pos rfl
    have hO : Only H := fun b => by
      by_cases n : b = a
      · subst n; exact .inr ⟨_, _, aH⟩
      · exact .inl (eH b n)
    refine call_core KX hns hb hbb hlim hg ha hr F hbind H hO (fun b u z => ?_) (fun b z => ?_) (fun _ => hk) (hsp H hO (.inl (.inr ⟨_, aH⟩)))
    · by_cases n : b = a
      · subst n
        rw [aH] at z
        cases z
        exact ⟨ha, by rw [List.length_map]; exact hl, vs, _, rv, ha⟩
      · rw [eH b n] at z; cases z
    · by_cases n : b = a
      · exact n
      · exact absurd (eH b n) z
end
/-- the script as data: nobody changes it -/
def scr (ns : List Int) : D := .ro (ns.map D.int)
theorem ints_dvs {K : PySem.W.Frag} {H : Hp} {θ : List Addr} : ∀ ns : List Int, DVs K H θ (ns.map D.int) (ns.map V.int)
  | [] => rfl
  | n :: ns => ⟨.int n, ns.map V.int, rfl, rfl, ints_dvs ns⟩
theorem ro_of {K : PySem.W.Frag} {H : Hp} {a : Addr} {vs : List V} (hO : Only H) (h : SqL K H a vs) : RoL K H a vs := by
  rcases h with (h | ⟨o, h⟩) | h
  · rcases hO a with e | ⟨o, xs, e⟩
    · rw [e] at h; cases h
    · rw [e] at h; cases h
  · exact .inl ⟨o, h⟩
  · exact .inr h
/-- THE END: what k_head leaves, from the law's def -/
theorem walk_Y {l : PySem.W.OpenLaw} {n k : Nat} {q : Program} {loose : List Str} {XP : (Str → Option Value) → Heap → Prop} {YP : World → Heap → Prop} {d : DefRec} {K : Params → PySem.W.Frag} {x : Str} {st : Stmt} {Fl : FF}
    (hn : l.most = some n) (hn2 : n ≤ sizeLine) (hdf : d.params.defaults = []) (hr : Room k callerA) (hps : pars st = [("script" : Str)])
    (hY : ∀ (w : World) (h : Heap), YP w h → (K w.params).In h)
    (F : ∀ (w : World) (mg : Str → Option Value) (h : Heap), (K w.params).In h → h.Ns mainGlobals mg → d.name = x ∧ ∀ base : Heap, (K w.params).In base → base.Ns mainGlobals mg → DF l.prog w (K w.params) mg base k x st Fl)
    (hb : ∀ (w : World) (mg : Str → Option Value) (h : Heap) f fd, (K w.params).In h → h.Ns mainGlobals mg → mg x = some (.ref f) → Fun (K w.params) x x st f fd → ∀ (s : Shared) (u : Value), BindsTo s fd ⟨[u], []⟩ [("script", u)])
    (hsp : ∀ ns : List Int, ns.length ≤ n → (∀ z ∈ ns, Builtin.Int.intBits z ≤ 1048576) → ∃ S', Fl [scr ns] [] = .ok (.bl true) S') :
    PySem.W.WalkO q loose XP YP l.row.toRowW d [] (fun f vs => PySem.call f vs) := by
  refine Att.attach_callB hn hdf fun w s₀ s₁ mg mb fa o pm cd doc a vs ns G Y ho hd hcd hmg hobj hints hlen hbits hg => ?_
  have KX := hY w _ Y
  obtain ⟨rfl, hF⟩ := F w mg _ KX G.T.g
  obtain ⟨f, fd, hfu, hm, _⟩ := (hF _ KX G.T.g).ex
  have e := hmg.symm.trans hm
  cases e
  refine call_law (sp := spF (K w.params) w mg 1 Fl) KX G.T.g G.T.b G.T.builtins G.T.nolimit hg hobj hints (Nat.le_trans hlen hn2) (caller_roomY hr) (fun base kb nb => ?_) (hb w mg _ _ fd KX G.T.g hm hfu) fun H hO hS => ?_
  · obtain ⟨f', fd', hfu', hm', hF'⟩ := (hF base kb nb).ex
    have e := hm.symm.trans hm'
    cases e
    have e2 : fd = fd' := by
      obtain ⟨_, _, _, _, _, _, _, _, _, e1, l1, _⟩ := hfu.ex
      obtain ⟨_, _, _, _, _, _, _, _, _, e2, l2, _⟩ := hfu'.ex
      rw [l1] at l2
      injection l2 with l2
      injection l2 with _ _ l2 _
      injection l2 with l2
    subst e2
    rw [hps] at hF'
    exact hF'
  · obtain ⟨S', e⟩ := hsp ns hlen hbits
    refine ⟨rfl, [], [], [scr ns], ⟨rfl, List.nodup_nil, fun i o b e _ => by simp at e⟩, ⟨.ref a, [], rfl, ⟨a, ns.map V.int, rfl, ro_of hO hS, ints_dvs ns⟩, rfl⟩, ?_⟩
    rw [e]
    exact fun θ' H' v f r dv => dv
end Y

set_option Elab.async false
set_option linter.all false
set_option maxRecDepth 100000
set_option maxHeartbeats 2000000
/-! YFact: what the top holds, read off the written part. -/
namespace Y
open PySem L2
def allO (f : Value → Option D) : List Value → Option (List D)
  | [] => some []
  | v :: r => match f v with
    | some d => (match allO f r with
      | some ds => some (d :: ds)
      | none => none)
    | none => none
/-- a written value, as data -/
def kD (K : PySem.W.Frag) : Nat → Value → Option D
  | _, .none => some .non
  | _, .bool b => some (.bl b)
  | _, .int i _ => some (.int i)
  | _, .str x _ => some (.str x)
  | n + 1, .ref a => (match K.lookup a with
    | some ⟨.type c, _, .seq its _, _⟩ => (match decide (c = "tuple") && decide (its.size ≤ 1000) with
      | true => (match allO (kD K n) its.toList with
        | some ds => some (.tup ds)
        | none => none)
      | false => none)
    | _ => none)
  | _, _ => none
section
variable {K : PySem.W.Frag}
theorem allO_ok {f : Value → Option D} (hf : ∀ v d, f v = some d → ∃ x, RelV x v ∧ ∀ H θ, DV K H θ d x) : ∀ (us : List Value) (ds : List D), allO f us = some ds → ∃ xs, Vals xs us ∧ ∀ H θ, DVs K H θ ds xs
  | [], ds, h => by cases h; exact ⟨[], .nil, fun _ _ => rfl⟩
  | u :: r, ds, h => by
    unfold allO at h
    cases e : f u with
    | none => rw [e] at h; cases h
    | some d =>
      rw [e] at h
      cases e2 : allO f r with
      | none => rw [e2] at h; cases h
      | some es =>
        rw [e2] at h
        cases h
        obtain ⟨x, rx, dx⟩ := hf u d e
        obtain ⟨xs, rs, dxs⟩ := allO_ok hf r es e2
        exact ⟨x :: xs, .cons rx rs, fun H θ => ⟨x, xs, rfl, dx H θ, dxs H θ⟩⟩
theorem kD_ok : ∀ (n : Nat) (u : Value) (d : D), kD K n u = some d → ∃ x, RelV x u ∧ ∀ H θ, DV K H θ d x
  | n, .none, d, h => by cases n <;> (cases h; exact ⟨.non, rfl, fun _ _ => rfl⟩)
  | n, .bool b, d, h => by cases n <;> (cases h; exact ⟨.bl b, rfl, fun _ _ => rfl⟩)
  | n, .int i t, d, h => by cases n <;> (cases h; exact ⟨.int i, ⟨t, rfl⟩, fun _ _ => rfl⟩)
  | n, .str x t, d, h => by cases n <;> (cases h; exact ⟨.str x, ⟨t, rfl⟩, fun _ _ => rfl⟩)
  | n + 1, .ref a, d, h => by
    unfold kD at h
    split at h
    · rename_i c od its k sl q
      split at h
      · rename_i z
        split at h
        · rename_i ds e
          cases h
          obtain ⟨xs, rs, dxs⟩ := allO_ok (fun v d h => kD_ok n v d h) _ _ e
          rw [Bool.and_eq_true, decide_eq_true_eq, decide_eq_true_eq] at z
          obtain ⟨rfl, z2⟩ := z
          exact ⟨.ref a, rfl, fun H θ => ⟨a, xs, rfl, .inr ⟨_, its, k, q, rfl, rfl, by rw [sizeLine_eq]; omega, rs⟩, dxs H θ⟩⟩
        · cases h
      · cases h
    · cases h
  | 0, .ref a, d, h => by cases h
  | n, .float _ _, d, h => by cases n <;> cases h
  | n, .bytes _ _, d, h => by cases n <;> cases h
  | n, .type _, d, h => by cases n <;> cases h
  | n, .builtin _, d, h => by cases n <;> cases h
  | n, .ellipsis, d, h => by cases n <;> cases h
  | n, .notImplemented, d, h => by cases n <;> cases h
/-- an entry of a written dict -/
def kE (K : PySem.W.Frag) (e : DictEntry) : Option (Key × Int × D) := match e.key with
  | .int i _ => (match kD K 8 e.val with
    | some d => some (.inl i, e.hash, d)
    | none => none)
  | .str x _ => (match kD K 8 e.val with
    | some d => some (.inr x, e.hash, d)
    | none => none)
  | _ => none
def kEs (K : PySem.W.Frag) : List DictEntry → Option (List (Key × Int × D))
  | [] => some []
  | e :: r => match kE K e with
    | some x => (match kEs K r with
      | some xs => some (x :: xs)
      | none => none)
    | none => none
def kT (K : PySem.W.Frag) (a : Addr) : Option (List (Key × Int × D)) := match K.lookup a with
  | some ⟨.type c, none, .dict es _, sl⟩ => (match decide (c = "dict") && (sl.isEmpty && !(a == sysModules)) with
    | true => kEs K es.toList
    | false => none)
  | _ => none
theorem kE_ok {P : Program} {w : World} {e : DictEntry} {k : Key} {i : Int} {d : D} (h : kE K e = some (k, i, d)) : (mixKind P w).is k e.key = true ∧ e.hash = i ∧ ∃ x, RelV x e.val ∧ ∀ H θ, DV K H θ d x := by
  unfold kE at h
  split at h
  · rename_i j t q
    split at h
    · rename_i d' e1
      cases h
      exact ⟨by rw [q]; exact keyIs_int j t, rfl, kD_ok 8 _ _ e1⟩
    · cases h
  · rename_i x t q
    split at h
    · rename_i d' e1
      cases h
      exact ⟨by rw [q]; exact keyIs_str x t, rfl, kD_ok 8 _ _ e1⟩
    · cases h
  · cases h
theorem kEs_ok {P : Program} {w : World} : ∀ {es : List DictEntry} {tbl : List (Key × D)}, kEs K es = some (tbl.map fun kd => (kd.1, keyH w kd.1, kd.2)) →
    ∃ us vs, PySem.Pairs (mixKind P w) es us ∧ KV vs us ∧ (∀ e ∈ es, ∃ k, (mixKind P w).is k e.key = true ∧ e.hash = (mixKind P w).hash k) ∧ us.map (·.1) = tbl.map (·.1) ∧ vs.map (·.1) = tbl.map (·.1) ∧ ∀ H θ, DVs K H θ (tbl.map (·.2)) (vs.map (·.2))
  | [], tbl, h => by
    cases tbl with
    | nil => exact ⟨[], [], .nil, .nil, fun e he => (by cases he), rfl, rfl, fun _ _ => rfl⟩
    | cons _ _ => cases h
  | e :: es, tbl, h => by
    unfold kEs at h
    split at h
    · rename_i x e1
      split at h
      · rename_i xs e2
        cases tbl with
        | nil => cases h
        | cons kd tbl =>
          rw [List.map_cons] at h
          injection h with h
          injection h with h1 h2
          subst h1
          rw [h2] at e2
          obtain ⟨us, vs, p, kv, ks, k1, k2, dv⟩ := kEs_ok (P := P) e2
          obtain ⟨a1, a2, y, ry, dy⟩ := kE_ok (P := P) (w := w) e1
          exact ⟨(kd.1, e.val) :: us, (kd.1, y) :: vs, .cons a1 rfl p, .cons ⟨rfl, ry⟩ kv, fun e' he' => (by
              rcases List.mem_cons.mp he' with rfl | z
              · exact ⟨kd.1, a1, a2⟩
              · exact ks e' z), by simp [k1], by simp [k2], fun H θ => ⟨y, _, rfl, dy H θ, dv H θ⟩⟩
      · cases h
    · cases h
end
section
variable {P : Program} {w : World} {K : PySem.W.Frag} {mg : Str → Option Value} {h : Heap} {x : Str}
theorem gc_of (X : K.In h) (G : h.Ns mainGlobals mg) {v : Value} {d : D} (a : PySem.W.nsIn K mainGlobals x = some (some v)) (e : kD K 8 v = some d) : GC K mg x d := by
  obtain ⟨y, ry, dy⟩ := kD_ok 8 v d e
  exact ⟨v, y, PySem.W.mg_of X G a, ry, dy⟩
theorem gd_of (X : K.In h) (G : h.Ns mainGlobals mg) {a : Addr} {tbl : List (Key × D)} (m : PySem.W.nsIn K mainGlobals x = some (some (.ref a))) (e : kT K a = some (tbl.map fun kd => (kd.1, keyH w kd.1, kd.2))) (nd : (tbl.map (·.1)).Nodup) : GD P w K mg x tbl := by
  refine ⟨a, PySem.W.mg_of X G m, ?_⟩
  unfold kT at e
  split at e
  · rename_i c es ep sl q
    split at e
    · rename_i z
      rw [Bool.and_eq_true, Bool.and_eq_true, decide_eq_true_eq, Bool.not_eq_true'] at z
      obtain ⟨rfl, z1, z2⟩ := z
      obtain rfl := Array.isEmpty_iff.mp z1
      obtain ⟨us, vs, p, kv, ks, k1, k2, dv⟩ := kEs_ok (P := P) e
      exact ⟨a, _, us, vs, rfl, q, z2, fun h' e' => ⟨_, es, ep, e', ⟨rfl, rfl, rfl⟩, rfl, fun en hen => ks en (by simpa using hen), p, by rw [k1]; exact nd⟩, kv, k2, dv⟩
    · cases e
  · cases e
theorem fun_of {st : Stmt} (X : K.In h) (G : h.Ns mainGlobals mg) {f : Addr} {oc : Value} {od an : Option Addr} {osl : Array (Option Value)} {kV doc pm cdv ct : Value} (a : PySem.W.nsIn K mainGlobals x = some (some (.ref f))) (l : K.lookup f = some ⟨oc, od, .func (PySem.W.fnOf x x (defArgs st) (defBody st) (defScope st) .none kV doc pm an cdv ct), osl⟩)
    (c : PySem.W.codeIn K cdv x = true) (k : PySem.W.keepIn K (.ref f) = true) : ∃ f fd, Fun K x x st f fd ∧ mg x = some (.ref f) := ⟨f, _, fun_mk l c k, PySem.W.mg_of X G a⟩
end
end Y

set_option Elab.async false
set_option linter.all false
set_option maxRecDepth 100000
set_option maxHeartbeats 2000000
/-! YPure: plain data; the equations of the readings. -/
namespace Y
open PySem L2
theorem R.bind_ok {α β : Type} (a : α) (S : Sto) (f : α → Sto → R β) : (R.ok a S).bind f = f a S := rfl
theorem R.then_ok {α : Type} (a : α) (S : Sto) (ρ : Env) (f : α → Sto → SR) : (R.ok a S).then ρ f = f a S := rfl
theorem SR.seq_nx (ρ : Env) (S : Sto) (f : Env → Sto → SR) : (SR.nx ρ S).seq f = f ρ S := rfl
theorem SR.seq_rt (d : D) (S : Sto) (f : Env → Sto → SR) : (SR.rt d S).seq f = .rt d S := rfl
/-! ### plain data -/
mutual
def toP : D → PyData
  | .non => .none
  | .bl b => .bool b
  | .int i => .int i
  | .str x => .str x
  | .tup ds => .tuple (toPs ds)
  | .ro ds => .list (toPs ds)
  | .ref _ => .none
def toPs : List D → List PyData
  | [] => []
  | d :: ds => toP d :: toPs ds
end
mutual
theorem pyD_flat (g : Nat → Option PyData) : ∀ d : D, flatD d = true → pyD g d = some (toP d)
  | .non, _ => rfl
  | .bl _, _ => rfl
  | .int _, _ => rfl
  | .str _, _ => rfl
  | .tup ds, h => by unfold pyD toP; rw [pyDs_flat g ds h]; rfl
  | .ro ds, h => by unfold pyD toP; rw [pyDs_flat g ds h]; rfl
  | .ref _, h => by cases h
theorem pyDs_flat (g : Nat → Option PyData) : ∀ ds : List D, flatDs ds = true → pyDs g ds = some (toPs ds)
  | [], _ => rfl
  | d :: ds, h => by
    unfold flatDs at h
    rw [Bool.and_eq_true] at h
    unfold pyDs toPs
    rw [pyD_flat g d h.1, pyDs_flat g ds h.2]; rfl
end
theorem pyN_flat {S : Sto} {d : D} (h : flatD d = true) : pyN S d = some (toP d) := pyD_flat _ d h
theorem pyN_lst {S : Sto} {i : Nat} {ds : List D} (e : S[i]? = some (.lst ds)) (h : flatDs ds = true) : pyN S (.ref i) = some (.list (toPs ds)) := by
  show pyR S 9 i = _
  unfold pyR
  rw [e]
  show (pyDs (pyR S 8) ds).map _ = _
  rw [pyDs_flat _ ds h]; rfl
mutual
/-- ints, texts, None, and tuples of such -/
def plainD : D → Bool
  | .non => true
  | .int _ => true
  | .str _ => true
  | .tup ds => plainDs ds
  | _ => false
def plainDs : List D → Bool
  | [] => true
  | d :: ds => plainD d && plainDs ds
end
mutual
theorem flat_plain : ∀ d : D, plainD d = true → flatD d = true
  | .non, _ => rfl
  | .int _, _ => rfl
  | .str _, _ => rfl
  | .tup ds, h => flats_plain ds h
  | .bl _, h => by cases h
  | .ro _, h => by cases h
  | .ref _, h => by cases h
theorem flats_plain : ∀ ds : List D, plainDs ds = true → flatDs ds = true
  | [], _ => rfl
  | d :: ds, h => by
    unfold plainDs at h
    rw [Bool.and_eq_true] at h
    unfold flatDs
    rw [flat_plain d h.1, flats_plain ds h.2]; rfl
end
mutual
theorem eqv_plain : ∀ d e : D, plainD d = true → plainD e = true → (PyData.eqv (toP d) (toP e) = true ↔ d = e)
  | .non, e, _, h => by cases e <;> first | (cases h; done) | simp [toP, PyData.eqv]
  | .int i, e, _, h => by cases e <;> first | (cases h; done) | simp [toP, PyData.eqv]
  | .str x, e, _, h => by cases e <;> first | (cases h; done) | simp [toP, PyData.eqv]
  | .tup ds, e, h1, h => by
    cases e with
    | tup es =>
      have := eqvs_plain ds es h1 h
      simp only [toP, PyData.eqv, D.tup.injEq]
      exact this
    | non => simp [toP, PyData.eqv]
    | int _ => simp [toP, PyData.eqv]
    | str _ => simp [toP, PyData.eqv]
    | _ => cases h
  | .bl _, _, h, _ => by cases h
  | .ro _, _, h, _ => by cases h
  | .ref _, _, h, _ => by cases h
theorem eqvs_plain : ∀ ds es : List D, plainDs ds = true → plainDs es = true → (PyData.eqvAll (toPs ds) (toPs es) = true ↔ ds = es)
  | [], [], _, _ => by simp [toPs, PyData.eqvAll]
  | [], _ :: _, _, _ => by simp [toPs, PyData.eqvAll]
  | _ :: _, [], _, _ => by simp [toPs, PyData.eqvAll]
  | d :: ds, e :: es, h1, h2 => by
    unfold plainDs at h1 h2
    rw [Bool.and_eq_true] at h1 h2
    simp only [toPs, PyData.eqvAll, Bool.and_eq_true, List.cons.injEq, eqv_plain d e h1.1 h2.1, eqvs_plain ds es h1.2 h2.2]
end
theorem shaped_int (i : Int) : SeqAt.shaped (.int i) = true := by simp [SeqAt.shaped, PyData.canLay0, PyData.depth]
theorem dEq_int (i j : Int) (S : Sto) : dEq (.int i) (.int j) S = .ok (.bl (decide (i = j))) S := by
  unfold dEq dEqB
  simp only [pyN_flat (S := S) (d := .int i) rfl, pyN_flat (S := S) (d := .int j) rfl, toP, shaped_int, and_self, if_true, PyData.eqv]
  by_cases h : i = j <;> simp [h]
theorem dNe_int (i j : Int) (S : Sto) : dNe (.int i) (.int j) S = .ok (.bl (decide (i ≠ j))) S := by
  unfold dNe dEqB
  simp only [pyN_flat (S := S) (d := .int i) rfl, pyN_flat (S := S) (d := .int j) rfl, toP, shaped_int, and_self, if_true, PyData.eqv]
  by_cases h : i = j <;> simp [h]
theorem ints_flat : ∀ ns : List Int, flatDs (ns.map D.int) = true
  | [] => rfl
  | n :: ns => ints_flat ns
theorem toPs_ints : ∀ ns : List Int, toPs (ns.map D.int) = ns.map PyData.int
  | [] => rfl
  | n :: ns => by rw [List.map_cons, List.map_cons, toPs, toPs_ints ns, toP]
theorem shaped_ints (ns : List Int) : SeqAt.shaped (.list (ns.map PyData.int)) = true := by
  have h1 : ∀ l : List Int, PyData.canLayAll0 (l.map PyData.int) = true := fun l => by
    induction l with
    | nil => rfl
    | cons a l ih => simp [PyData.canLayAll0, PyData.canLay0, ih]
  have h2 : ∀ l : List Int, PyData.depthAll (l.map PyData.int) = 0 := fun l => by
    induction l with
    | nil => rfl
    | cons a l ih => simp [PyData.depthAll, PyData.depth, ih]
  simp [SeqAt.shaped, PyData.canLay0, h1, PyData.depth, h2]
/-- xs != [] -/
theorem dNe_nil {S : Sto} {i j : Nat} {ns : List Int} (e : S[i]? = some (.lst (ns.map .int))) (e2 : S[j]? = some (.lst [])) : dNe (.ref i) (.ref j) S = .ok (.bl (!ns.isEmpty)) S := by
  unfold dNe dEqB
  rw [pyN_lst e (ints_flat ns), pyN_lst e2 rfl, toPs_ints]
  have z : SeqAt.shaped (.list (toPs [])) = true := shaped_ints []
  simp only [shaped_ints, z, and_self, if_true]
  cases ns <;> simp [toPs, PyData.eqv, PyData.eqvAll]
theorem bits_small {i : Int} (h : i.natAbs < 2 ^ 64) : Builtin.Int.intBits i ≤ 64 := by
  unfold Builtin.Int.intBits
  split
  · decide
  · rename_i hz
    have hn : i.natAbs ≠ 0 := fun e => hz (by simpa using e)
    have := (Nat.log2_lt hn).mpr h
    omega
theorem mulOk_r {i j : Int} (h : j.natAbs < 2 ^ 64) : IntMulOk i j := IntMulOk.of_right (bits_small h)
theorem mulOk_l {i j : Int} (h : i.natAbs < 2 ^ 64) : IntMulOk i j := IntMulOk.of_left (bits_small h)
theorem dMul_r {i j : Int} {S : Sto} (h : j.natAbs < 2 ^ 64) : dMul (.int i) (.int j) S = .ok (.int (i * j)) S := by unfold dMul; exact if_pos (mulOk_r h)
theorem dMul_l {i j : Int} {S : Sto} (h : i.natAbs < 2 ^ 64) : dMul (.int i) (.int j) S = .ok (.int (i * j)) S := by unfold dMul; exact if_pos (mulOk_l h)
theorem pylong_small {i j : Int} (h : j.natAbs < 2 ^ 64) : Builtin.divisionGoesByPylong i j = false := by
  have h1 : j.natAbs.log2 < 64 := by
    by_cases hz : j.natAbs = 0
    · rw [hz]; decide
    · exact (Nat.log2_lt hz).mpr h
  unfold Builtin.divisionGoesByPylong
  by_cases hz : (j == 0) = true
  · simp [hz]
  · simp only [hz]
    have : ¬ (j.natAbs.log2 / 30 + 1 > 300) := by omega
    simp [this]
theorem dFdiv_small {i j : Int} {S : Sto} (h0 : 0 < j) (h : j < 2 ^ 64) : dFdiv (.int i) (.int j) S = .ok (.int (i / j)) S := by
  unfold dFdiv
  exact (if_pos ⟨by omega, pylong_small (by omega)⟩).trans (by rw [Int.fdiv_eq_ediv_of_nonneg _ (by omega)])
theorem dMod_pos {i j : Int} {S : Sto} (h0 : 0 < j) : dMod (.int i) (.int j) S = .ok (.int (i % j)) S := by
  unfold dMod
  exact (if_pos (by omega)).trans (by rw [Int.fmod_eq_emod_of_nonneg _ (by omega)])
theorem dPow_10_9 {S : Sto} : dPow (.int 10) (.int 9) S = .ok (.int 1000000000) S := by
  unfold dPow
  exact (if_pos (by decide)).trans rfl
theorem dAdd_int {i j : Int} {S : Sto} : dAdd (.int i) (.int j) S = .ok (.int (i + j)) S := rfl
theorem dSub_int {i j : Int} {S : Sto} : dSub (.int i) (.int j) S = .ok (.int (i - j)) S := rfl
theorem dOrd_int {p : Int → Int → Bool} {B : Ordering → Bool} {i j : Int} {S : Sto} : dOrd p B (.int i) (.int j) S = .ok (.bl (p i j)) S := rfl
theorem fVar_at {i : Nat} {ρ : Env} {S : Sto} {d : D} (h : ρ[i]? = some (some d)) : fVar i ρ S = .ok d S := by unfold fVar; rw [h]
section
variable {f g h : FE} {t u : FT} {a b : FS} {ρ ρ' : Env} {S S1 S2 S3 S4 : Sto} {x y z d : D} {op : OpF} {F : FF} {c : Bool} {fas : FA} {ds : List D}
theorem fBin_ok (h1 : f ρ S = .ok x S1) (h2 : g ρ S1 = .ok y S2) : fBin op f g ρ S = op x y S2 := by rw [fBin, h1, R.bind_ok, h2, R.bind_ok]
theorem fUn_ok {o : D → Sto → R D} (h1 : f ρ S = .ok x S1) : fUn o f ρ S = o x S1 := by rw [fUn, h1, R.bind_ok]
theorem faNil_ok : faNil ρ S = .ok [] S := rfl
theorem faCons_ok (h1 : f ρ S = .ok x S1) (h2 : fas ρ S1 = .ok ds S2) : faCons f fas ρ S = .ok (x :: ds) S2 := by rw [faCons, h1, R.bind_ok, h2, R.bind_ok]
theorem fCall_ok (h1 : fas ρ S = .ok ds S1) : fCall F fas ρ S = F ds S1 := by rw [fCall, h1, R.bind_ok]
theorem fTup_ok (h1 : fas ρ S = .ok ds S1) (hl : ds.length ≤ 1000) : fTup fas ρ S = .ok (.tup ds) S1 := by rw [fTup, h1, R.bind_ok, if_pos (by rw [sizeLine_eq]; omega)]
theorem fLst_ok (h1 : fas ρ S = .ok ds S1) (hl : ds.length ≤ 1000) : fLst fas ρ S = .ok (.ref S1.length) (S1 ++ [.lst ds]) := by rw [fLst, h1, R.bind_ok, if_pos (by rw [sizeLine_eq]; omega)]
theorem fIf_ok (h1 : t ρ S = .ok c S1) : fIf t f g ρ S = if c = true then f ρ S1 else g ρ S1 := by rw [fIf, h1, R.bind_ok]
theorem fIf_t (h1 : t ρ S = .ok true S1) : fIf t f g ρ S = f ρ S1 := by rw [fIf_ok h1, if_pos rfl]
theorem fIf_f (h1 : t ρ S = .ok false S1) : fIf t f g ρ S = g ρ S1 := by rw [fIf_ok h1]; rfl
theorem ftB_ok (h1 : f ρ S = .ok (.bl c) S1) : ftB f ρ S = .ok c S1 := by rw [ftB, h1, R.bind_ok]; rfl
theorem ftTru_ok (h1 : f ρ S = .ok x S1) : ftTru f ρ S = truD x S1 := by rw [ftTru, h1, R.bind_ok]
theorem ftAnd_t (h1 : t ρ S = .ok true S1) : ftAnd t u ρ S = u ρ S1 := by rw [ftAnd, h1, R.bind_ok, if_pos rfl]
theorem ftAnd_f (h1 : t ρ S = .ok false S1) : ftAnd t u ρ S = .ok false S1 := by rw [ftAnd, h1, R.bind_ok]; rfl
theorem ftOr_t (h1 : t ρ S = .ok true S1) : ftOr t u ρ S = .ok true S1 := by rw [ftOr, h1, R.bind_ok, if_pos rfl]
theorem ftOr_f (h1 : t ρ S = .ok false S1) : ftOr t u ρ S = u ρ S1 := by rw [ftOr, h1, R.bind_ok]; rfl
theorem fTidy_flat {G : Sto} (h1 : f ρ S = .ok d (S ++ G)) (hf : flatD d = true) : fTidy f ρ S = .ok d S := by rw [fTidy, tidy_flat h1 hf]
theorem ftTidy_ok {G : Sto} (h1 : t ρ S = .ok c (S ++ G)) : ftTidy t ρ S = .ok c S := tidyB_eq h1
theorem sSeq_nx (h1 : a ρ S = .nx ρ' S1) : sSeq a b ρ S = b ρ' S1 := by rw [sSeq, h1, SR.seq_nx]
theorem sSeq_rt (h1 : a ρ S = .rt d S1) : sSeq a b ρ S = .rt d S1 := by rw [sSeq, h1, SR.seq_rt]
theorem sAsg_ok {i : Nat} (h1 : f ρ S = .ok d S1) : sAsg f (bName i) ρ S = .nx (ρ.set i (some d)) S1 := by rw [sAsg, h1, R.then_ok]; rfl
theorem sIf_t (h1 : t ρ S = .ok true S1) : sIf t a b ρ S = a ρ S1 := by rw [sIf, h1, R.then_ok, if_pos rfl]
theorem sIf_f (h1 : t ρ S = .ok false S1) : sIf t a b ρ S = b ρ S1 := by rw [sIf, h1, R.then_ok]; rfl
theorem sRet_ok (h1 : f ρ S = .ok d S1) : sRet f ρ S = .rt d S1 := by rw [sRet, h1, R.then_ok]
theorem sExpr_ok (h1 : f ρ S = .ok d S1) : sExpr f ρ S = .nx ρ S1 := by rw [sExpr, h1, R.then_ok]
theorem sSetG_ok (h1 : f ρ S = .ok d S1) (h2 : g ρ S1 = .ok x S2) (h3 : h ρ S2 = .ok y S3) (h4 : setG x y d S3 = some S4) : sSetG f g h ρ S = .nx ρ S4 := by rw [sSetG, h1, R.then_ok, h2, R.then_ok, h3, R.then_ok, h4]
theorem runB_rt {n : Nat} (h1 : a (ds.map some ++ List.replicate (n - ds.length) none) S = .rt d S1) : runB a n ds S = .ok d S1 := by rw [runB, h1]
theorem runB_nx {n : Nat} (h1 : a (ds.map some ++ List.replicate (n - ds.length) none) S = .nx ρ' S1) : runB a n ds S = .ok .non S1 := by rw [runB, h1]
theorem fC_ok : fC d ρ S = .ok d S := rfl
theorem dIx_lst {i : Nat} {k : Int} {l : List D} (h1 : S[i]? = some (.lst l)) (h2 : L2.atI l k = some d) : dIx (.ref i) (.int k) S = .ok d S := by
  show (match (seqD (.ref i) S).bind fun ds => atI ds k with
    | some d => R.ok d S
    | none => .no) = _
  simp only [seqD, h1, Option.bind_some, h2]
theorem dIx_tup {k : Int} {l : List D} (h2 : L2.atI l k = some d) : dIx (.tup l) (.int k) S = .ok d S := by
  show (match (seqD (.tup l) S).bind fun ds => atI ds k with
    | some d => R.ok d S
    | none => .no) = _
  simp only [seqD, Option.bind_some, h2]
end
/-! ### loops -/
theorem lc_ok {fi : FI} {own : List Nat} {g : FB} {t : FT} {e : FE} {ρ : Env} {S S1 : Sto} {ds : List D} {ch : Chk} (p : D → Bool) (m : D → D) (hi : fi ρ S = .ok (ds, ch) S1) (hch : ∀ G, chkOk ch (S1 ++ G) = true) (hlen : ds.length ≤ 100000)
    (h : ∀ d ∈ ds, ∃ ρ1, g d (wipeD ρ own) = some ρ1 ∧ ∀ G, t ρ1 (S1 ++ G) = .ok (p d) (S1 ++ G) ∧ (p d = true → e ρ1 (S1 ++ G) = .ok (m d) (S1 ++ G))) :
    fLc fi own g t e ρ S = .ok (.ref S1.length) (S1 ++ [.lst ((ds.filter p).map m)]) := by
  have key : ∀ (rest : List D) (acc : List D), (∀ d ∈ rest, d ∈ ds) → acc.length + rest.length ≤ 100000 → lcLoop S1.length ch g t e (wipeD ρ own) rest (S1 ++ [.lst acc]) = .ok (.ref S1.length) (S1 ++ [.lst (acc ++ (rest.filter p).map m)]) := by
    intro rest
    induction rest with
    | nil => intro acc _ _; unfold lcLoop; rw [if_pos (hch _)]; simp
    | cons d rest ih =>
      intro acc hm hl
      obtain ⟨ρ1, e1, e2⟩ := h d (hm d List.mem_cons_self)
      obtain ⟨e3, e4⟩ := e2 [.lst acc]
      unfold lcLoop
      rw [if_pos (hch _), e1]
      dsimp only
      rw [e3]
      by_cases hp : p d = true
      · rw [hp]
        dsimp only
        rw [e4 hp]
        have e5 : (S1 ++ [O.lst acc])[S1.length]? = some (.lst acc) := by simp
        dsimp only
        rw [e5]
        dsimp only
        rw [if_pos (by rw [sizeLine_eq]; simp at hl; omega), show (S1 ++ [O.lst acc]).set S1.length (.lst (acc ++ [m d])) = S1 ++ [.lst (acc ++ [m d])] by simp]
        rw [ih (acc ++ [m d]) (fun x hx => hm x (List.mem_cons_of_mem _ hx)) (by simp at hl ⊢; omega)]
        simp [List.filter_cons, hp]
      · have hp' : p d = false := by simpa using hp
        rw [hp']
        dsimp only
        rw [ih acc (fun x hx => hm x (List.mem_cons_of_mem _ hx)) (by simp at hl ⊢; omega)]
        simp [List.filter_cons, hp']
  unfold fLc
  rw [hi, R.bind_ok]
  exact (key ds [] (fun _ hd => hd) (by simpa using hlen)).trans (by simp)
theorem loop_inv {ch : Chk} {g : FB} {b : FS} (I : List D → Env → Sto → Prop) (hch : ∀ r ρ S, I r ρ S → chkOk ch S = true)
    (step : ∀ d r ρ S, I (d :: r) ρ S → ∃ ρ1 ρ2 S2, g d ρ = some ρ1 ∧ (b ρ1 S = .nx ρ2 S2 ∨ b ρ1 S = .ct ρ2 S2) ∧ I r ρ2 S2) :
    ∀ (ds : List D) (ρ : Env) (S : Sto), I ds ρ S → ∃ ρ' S', loopF ch g b ds ρ S = .nx ρ' S' ∧ I [] ρ' S'
  | [], ρ, S, h => ⟨ρ, S, by unfold loopF; rw [if_pos (hch _ _ _ h)], h⟩
  | d :: ds, ρ, S, h => by
    obtain ⟨ρ1, ρ2, S2, e1, e2, e3⟩ := step d ds ρ S h
    obtain ⟨ρ', S', q, q2⟩ := loop_inv I hch step ds ρ2 S2 e3
    refine ⟨ρ', S', ?_, q2⟩
    unfold loopF
    rw [if_pos (hch _ _ _ h), e1]
    dsimp only
    rcases e2 with e2 | e2 <;> rw [e2] <;> exact q
theorem for_inv {fi : FI} {ch : Chk} {g : FB} {b : FS} {ρ : Env} {S S1 : Sto} {ds : List D} (I : List D → Env → Sto → Prop) (hi : fi ρ S = .ok (ds, ch) S1) (hch : ∀ r ρ S, I r ρ S → chkOk ch S = true)
    (step : ∀ d r ρ S, I (d :: r) ρ S → ∃ ρ1 ρ2 S2, g d ρ = some ρ1 ∧ (b ρ1 S = .nx ρ2 S2 ∨ b ρ1 S = .ct ρ2 S2) ∧ I r ρ2 S2) (h0 : I ds ρ S1) : ∃ ρ' S', sFor fi g b ρ S = .nx ρ' S' ∧ I [] ρ' S' := by
  obtain ⟨ρ', S', q, q2⟩ := loop_inv I hch step ds ρ S1 h0
  exact ⟨ρ', S', by rw [sFor, hi, R.then_ok]; exact q, q2⟩
theorem while_inv {t : FT} {b : FS} {P : Env → Sto → Prop} (I : Nat → Env → Sto → Prop)
    (step : ∀ n ρ S, I n ρ S → (∃ S1, t ρ S = .ok false S1 ∧ P ρ S1) ∨ ∃ S1 ρ' S' n', t ρ S = .ok true S1 ∧ (b ρ S1 = .nx ρ' S' ∨ b ρ S1 = .ct ρ' S') ∧ n' < n ∧ I n' ρ' S') :
    ∀ (n : Nat) (ρ : Env) (S : Sto), I n ρ S → ∃ ρ' S', sWhile t b ρ S = .nx ρ' S' ∧ P ρ' S' := by
  intro n
  induction n using Nat.strongRecOn with
  | ind n ih =>
    intro ρ S h
    rcases step n ρ S h with ⟨S1, e, p⟩ | ⟨S1, ρ', S', n', e1, e2, lt, h'⟩
    · exact ⟨ρ, S1, by rw [sWhile_eq]; simp only [stepW, e], p⟩
    · obtain ⟨ρ2, S2, q, p⟩ := ih n' lt ρ' S' h'
      refine ⟨ρ2, S2, ?_, p⟩
      rw [sWhile_eq]
      rcases e2 with e2 | e2 <;> simp only [stepW, e1, e2] <;> exact q
/-- the items of a list of the store -/
theorem fiSeq_lst {f : FE} {ρ : Env} {S S1 : Sto} {i : Nat} {ds : List D} (h : f ρ S = .ok (.ref i) S1) (e : S1[i]? = some (.lst ds)) : fiSeq f ρ S = .ok (ds, [(i, .lst ds)]) S1 := by
  unfold fiSeq fiOr fiLst
  rw [h]
  simp [R.bind, e, orR, itemsD]
theorem fiSeq_tup {f : FE} {ρ : Env} {S S1 : Sto} {ds : List D} (h : f ρ S = .ok (.tup ds) S1) : fiSeq f ρ S = .ok (ds, []) S1 := by
  unfold fiSeq fiOr fiLst fiTup
  rw [h]
  simp [R.bind, orR, itemsD, itemsT]
theorem sWhile_f {t : FT} {b : FS} {ρ : Env} {S S1 : Sto} (h : t ρ S = .ok false S1) : sWhile t b ρ S = .nx ρ S1 := by rw [sWhile_eq]; simp only [stepW, h]
theorem sWhile_t {t : FT} {b : FS} {ρ ρ' : Env} {S S1 S2 : Sto} (h : t ρ S = .ok true S1) (h2 : b ρ S1 = .nx ρ' S2) : sWhile t b ρ S = sWhile t b ρ' S2 := by rw [sWhile_eq]; simp only [stepW, h, h2]
theorem tidy_same {F : FF} {ds : List D} {S : Sto} {d : D} (e : F ds S = .ok d S) (f : flatD d = true) : FF.tidy F ds S = .ok d S := by
  unfold FF.tidy
  rw [e]
  exact tidy_flat (G := []) (by simp) f
end Y

set_option Elab.async false
set_option linter.all false
set_option maxRecDepth 100000
set_option maxHeartbeats 2000000
/-! YBag: the laws' bag of drawn numbers. -/
namespace Y
open PySem L2
/-- the bag: its cells, the number at hand, the mixed number -/
structure BagAt (S : Sto) (i c : Nat) : Prop where
  ex : ∃ (cs : List Int) (b m : Int), S[i]? = some (.lst [.ref c, .int b, .int m]) ∧ S[c]? = some (.lst (cs.map .int)) ∧ cs.length ≤ 63 ∧ 0 ≤ b ∧ 0 ≤ m ∧ m < 2147483647
  ne : i ≠ c
/-- all else stays -/
structure Held (i c : Nat) (S S' : Sto) : Prop where
  len : S'.length = S.length
  at_ : ∀ j, j ≠ i → j ≠ c → S'[j]? = S[j]?
theorem Held.refl {i c : Nat} {S : Sto} : Held i c S S := ⟨rfl, fun _ _ _ => rfl⟩
theorem Held.trans {i c : Nat} {S S1 S2 : Sto} (a : Held i c S S1) (b : Held i c S1 S2) : Held i c S S2 := ⟨b.len.trans a.len, fun j h1 h2 => (b.at_ j h1 h2).trans (a.at_ j h1 h2)⟩
noncomputable def bDraw : FS := (sSeq (sWhile (ftAnd (ftB (fBin dEq (fBin dIx (fVar 0) (fC (.int 1))) (fC (.int 0)))) (ftTidy (ftB (fBin dNe (fBin dIx (fVar 0) (fC (.int 0))) (fLst faNil))))) (sSeq (sAsg (fML mPop (fBin dIx (fVar 0) (fC (.int 0))) faNil) (bName 2))
    (sSetG (fIf (ftB (fBin (dOrd (fun i j => decide (j < i)) (fun o => o == .gt)) (fVar 2) (fBin dPow (fC (.int 10)) (fC (.int 9))))) (fVar 2) (fC (.int 0))) (fVar 0) (fC (.int 1)))))
    (sSeq (sIf (ftB (fBin (dOrd (fun i j => decide (j < i)) (fun o => o == .gt)) (fBin dIx (fVar 0) (fC (.int 1))) (fC (.int 0)))) (sSeq (sAsg (fBin dMod (fCall dInt (faCons (fBin dIx (fVar 0) (fC (.int 1))) faNil)) (fVar 1)) (bName 3))
    (sSeq (sSetG (fBin dFdiv (fBin dIx (fVar 0) (fC (.int 1))) (fVar 1)) (fVar 0) (fC (.int 1)))
    (sRet (fVar 3)))) sNx)
    (sSeq (sSetG (fBin dMod (fCall dInt (faCons (fBin dAdd (fBin dMul (fBin dIx (fVar 0) (fC (.int 2))) (fC (.int 48271))) (fC (.int 13))) faNil)) (fC (.int 2147483647))) (fVar 0) (fC (.int 2)))
    (sRet (fBin dMod (fCall dInt (faCons (fBin dFdiv (fBin dMod (fCall dInt (faCons (fBin dMul (fBin dIx (fVar 0) (fC (.int 2))) (fBin dIx (fVar 0) (fC (.int 2)))) faNil)) (fC (.int 2147483629))) (fC (.int 7))) faNil)) (fVar 1))))))
noncomputable def FDraw : FF := FF.tidy (runB bDraw 4)
theorem tidy_len {S S' : Sto} {d : D} (f : flatD d = true) (h : S'.length = S.length) : tidyR S (.ok d S') = .ok d S' := by
  unfold tidyR
  dsimp only
  by_cases e : S'.take S.length = S
  · rw [if_pos e, if_pos f]
    rw [← h, List.take_length] at e
    rw [e]
  · rw [if_neg e]
theorem set_at {S : Sto} {i : Nat} {o : O} (h : i < S.length) : (S.set i o)[i]? = some o := by simp [h]
theorem lt_of {S : Sto} {i : Nat} {o : O} (h : S[i]? = some o) : i < S.length := (List.getElem?_eq_some_iff.mp h).1
/-- the test of the bag's loop -/
theorem draw_test {S : Sto} {i c : Nat} {cs : List Int} {b m : Int} {ρ : Env} (hρ : ρ[0]? = some (some (.ref i))) (h1 : S[i]? = some (.lst [.ref c, .int b, .int m])) (h2 : S[c]? = some (.lst (cs.map .int))) :
    (ftAnd (ftB (fBin dEq (fBin dIx (fVar 0) (fC (.int 1))) (fC (.int 0)))) (ftTidy (ftB (fBin dNe (fBin dIx (fVar 0) (fC (.int 0))) (fLst faNil))))) ρ S = .ok (decide (b = 0) && !cs.isEmpty) S := by
  have e1 : fBin dIx (fVar 0) (fC (.int 1)) ρ S = .ok (.int b) S := by
    unfold fBin; rw [fVar_at hρ]; simp only [R.bind_ok, fC, dIx, seqD, h1, Option.bind_some]; rfl
  have e0 : fBin dIx (fVar 0) (fC (.int 0)) ρ S = .ok (.ref c) S := by
    unfold fBin; rw [fVar_at hρ]; simp only [R.bind_ok, fC, dIx, seqD, h1, Option.bind_some]; rfl
  have t1 : ftB (fBin dEq (fBin dIx (fVar 0) (fC (.int 1))) (fC (.int 0))) ρ S = .ok (decide (b = 0)) S := by
    unfold ftB; rw [fBin, e1]; simp only [R.bind_ok, fC, dEq_int, asB]
  have t2 : ftTidy (ftB (fBin dNe (fBin dIx (fVar 0) (fC (.int 0))) (fLst faNil))) ρ S = .ok (!cs.isEmpty) S := by
    refine tidyB_eq (G := [.lst []]) ?_
    unfold ftB; rw [fBin, e0]
    have e : fLst faNil ρ S = .ok (.ref S.length) (S ++ [.lst []]) := by simp [fLst, faNil, R.bind]
    simp only [R.bind_ok, e]
    rw [dNe_nil (ns := cs) (by rw [List.getElem?_append_left (lt_of h2)]; exact h2) (by simp)]
    rfl
  unfold ftAnd
  rw [t1]
  simp only [R.bind_ok]
  by_cases hb : b = 0
  · simp [hb, t2]
  · simp [hb]
def drawB : FS := (sSeq (sAsg (fML mPop (fBin dIx (fVar 0) (fC (.int 0))) faNil) (bName 2))
    (sSetG (fIf (ftB (fBin (dOrd (fun i j => decide (j < i)) (fun o => o == .gt)) (fVar 2) (fBin dPow (fC (.int 10)) (fC (.int 9))))) (fVar 2) (fC (.int 0))) (fVar 0) (fC (.int 1))))
theorem draw_body {S : Sto} {i c : Nat} {cs : List Int} {x b m : Int} {ρ : Env} (hρ : ρ[0]? = some (some (.ref i))) (hl : ρ.length = 4) (hne : i ≠ c) (h1 : S[i]? = some (.lst [.ref c, .int b, .int m])) (h2 : S[c]? = some (.lst ((cs ++ [x]).map .int))) :
    drawB ρ S = .nx (ρ.set 2 (some (.int x))) ((S.set c (.lst (cs.map .int))).set i (.lst [.ref c, .int (if 1000000000 < x then x else 0), .int m])) := by
  have e0 : fBin dIx (fVar 0) (fC (.int 0)) ρ S = .ok (.ref c) S := by
    unfold fBin; rw [fVar_at hρ]; simp only [R.bind_ok, fC, dIx, seqD, h1, Option.bind_some]; rfl
  have ep : fML mPop (fBin dIx (fVar 0) (fC (.int 0))) faNil ρ S = .ok (.int x) (S.set c (.lst (cs.map .int))) := by
    unfold fML; rw [e0]
    simp [R.bind, isLst, h2, faNil, mPop]
  have a2 : (ρ.set 2 (some (.int x)))[2]? = some (some (.int x)) := by simp [hl]
  have a0 : (ρ.set 2 (some (.int x)))[0]? = some (some (.ref i)) := by simpa using hρ
  have hi : (S.set c (.lst (cs.map .int)))[i]? = some (.lst [.ref c, .int b, .int m]) := by rw [List.getElem?_set_ne (Ne.symm hne)]; exact h1
  unfold drawB sSeq sAsg
  rw [ep]
  simp only [R.then_ok, bName, SR.seq_nx]
  unfold sSetG
  have et : ftB (fBin (dOrd (fun i j => decide (j < i)) (fun o => o == .gt)) (fVar 2) (fBin dPow (fC (.int 10)) (fC (.int 9)))) (ρ.set 2 (some (.int x))) (S.set c (.lst (cs.map .int))) = .ok (decide (1000000000 < x)) (S.set c (.lst (cs.map .int))) := by
    unfold ftB
    rw [fBin, fVar_at a2]
    simp only [R.bind_ok, fBin, fC, dPow_10_9, dOrd_int, asB]
  have ev : fIf (ftB (fBin (dOrd (fun i j => decide (j < i)) (fun o => o == .gt)) (fVar 2) (fBin dPow (fC (.int 10)) (fC (.int 9))))) (fVar 2) (fC (.int 0)) (ρ.set 2 (some (.int x))) (S.set c (.lst (cs.map .int))) = .ok (.int (if 1000000000 < x then x else 0)) (S.set c (.lst (cs.map .int))) := by
    unfold fIf
    rw [et]
    simp only [R.bind_ok]
    by_cases hx : 1000000000 < x
    · simp only [hx, decide_true, if_true]; exact fVar_at a2
    · simp only [hx, decide_false, if_false, Bool.false_eq_true]; rfl
  rw [ev]
  simp only [R.then_ok]
  rw [fVar_at a0]
  simp only [R.then_ok, fC, setG, hi]
  rfl
theorem draw_loop {k : Int} : ∀ (n : Nat) (cs : List Int) (S : Sto) (ρ : Env) {i c : Nat} {b m : Int}, cs.length = n → ρ[0]? = some (some (.ref i)) → ρ[1]? = some (some (.int k)) → ρ.length = 4 → i ≠ c → cs.length ≤ 63 → 0 ≤ b →
    S[i]? = some (.lst [.ref c, .int b, .int m]) → S[c]? = some (.lst (cs.map .int)) →
    ∃ ρ' S' cs' b', sWhile (ftAnd (ftB (fBin dEq (fBin dIx (fVar 0) (fC (.int 1))) (fC (.int 0)))) (ftTidy (ftB (fBin dNe (fBin dIx (fVar 0) (fC (.int 0))) (fLst faNil))))) drawB ρ S = .nx ρ' S' ∧
      ρ'[0]? = some (some (.ref i)) ∧ ρ'[1]? = some (some (.int k)) ∧ ρ'.length = 4 ∧ Held i c S S' ∧ S'[i]? = some (.lst [.ref c, .int b', .int m]) ∧ S'[c]? = some (.lst (List.map D.int cs')) ∧ cs'.length ≤ 63 ∧ 0 ≤ b' := by
  intro n
  induction n with
  | zero =>
    intro cs S ρ i c b m hn h0 h1 hl hne hz hb e1 e2
    obtain rfl : cs = [] := List.length_eq_zero_iff.mp hn
    refine ⟨ρ, S, [], b, ?_, h0, h1, hl, .refl, e1, e2, hz, hb⟩
    rw [sWhile_eq]
    simp only [stepW, draw_test h0 e1 e2, List.isEmpty_nil, Bool.not_true, Bool.and_false]
  | succ n ih =>
    intro cs S ρ i c b m hn h0 h1 hl hne hz hb e1 e2
    by_cases hb0 : b = 0
    · have hc : cs ≠ [] := fun e => by rw [e] at hn; cases hn
      obtain ⟨cs', x, rfl⟩ : ∃ cs' x, cs = cs' ++ [x] := ⟨cs.dropLast, cs.getLast hc, (List.dropLast_concat_getLast hc).symm⟩
      have hn' : cs'.length = n := by simpa using hn
      have ht : (decide (b = 0) && !(cs' ++ [x]).isEmpty) = true := by simp [hb0]
      have step : sWhile (ftAnd (ftB (fBin dEq (fBin dIx (fVar 0) (fC (.int 1))) (fC (.int 0)))) (ftTidy (ftB (fBin dNe (fBin dIx (fVar 0) (fC (.int 0))) (fLst faNil))))) drawB ρ S = sWhile (ftAnd (ftB (fBin dEq (fBin dIx (fVar 0) (fC (.int 1))) (fC (.int 0)))) (ftTidy (ftB (fBin dNe (fBin dIx (fVar 0) (fC (.int 0))) (fLst faNil))))) drawB (ρ.set 2 (some (.int x))) ((S.set c (.lst (List.map D.int cs'))).set i (.lst [.ref c, .int (if 1000000000 < x then x else 0), .int m])) := by
        rw [sWhile_eq]
        simp only [stepW, draw_test h0 e1 e2, ht, draw_body h0 hl hne e1 e2]
      obtain ⟨ρ', S', cs2, b2, q, q0, q1, ql, qh, qi, qc, qz, qb⟩ := ih cs' ((S.set c (.lst (List.map D.int cs'))).set i (.lst [.ref c, .int (if 1000000000 < x then x else 0), .int m])) (ρ.set 2 (some (.int x))) (i := i) (c := c) (b := if 1000000000 < x then x else 0) (m := m) hn' (by simpa using h0) (by simpa using h1) (by simpa using hl) hne (by simp at hz; omega) (by split <;> omega) (by simp [lt_of e1]) (by rw [List.getElem?_set_ne hne]; simp [lt_of e2])
      refine ⟨ρ', S', cs2, b2, step.trans q, q0, q1, ql, ?_, qi, qc, qz, qb⟩
      exact Held.trans ⟨by simp, fun j j1 j2 => by rw [List.getElem?_set_ne (Ne.symm j1), List.getElem?_set_ne (Ne.symm j2)]⟩ qh
    · refine ⟨ρ, S, cs, b, ?_, h0, h1, hl, .refl, e1, e2, hz, hb⟩
      rw [sWhile_eq]
      simp only [stepW, draw_test h0 e1 e2, hb0, decide_false, Bool.false_and]
theorem tidy_held {i c : Nat} {S S' : Sto} {d : D} {F : FF} {ds : List D} (e : F ds S = .ok d S') (f : flatD d = true) (h : Held i c S S') : FF.tidy F ds S = .ok d S' := by
  unfold FF.tidy
  rw [e]
  exact tidy_len f h.len
/-- THE DRAW: some number under k -/
theorem draw_ok {S : Sto} {i c : Nat} {k : Int} (h : BagAt S i c) (hk : 0 < k) (hk2 : k < 2 ^ 64) : ∃ n S', FDraw [.ref i, .int k] S = .ok (.int n) S' ∧ 0 ≤ n ∧ n < k ∧ BagAt S' i c ∧ Held i c S S' := by
  obtain ⟨cs, b, m, h1, h2, hz, hb, hm0, hm⟩ := h.ex
  have hne := h.ne
  obtain ⟨ρ, S1, cs1, b1, q, q0, q1, ql, qh, qi, qc, qz, qb⟩ := draw_loop (k := k) cs.length cs S [some (.ref i), some (.int k), none, none] rfl rfl rfl rfl hne hz hb h1 h2
  have ix : ∀ {ρ : Env} {S : Sto} {l : List D} {j : Int} {d : D}, ρ[0]? = some (some (.ref i)) → S[i]? = some (.lst l) → L2.atI l j = some d → fBin dIx (fVar 0) (fC (.int j)) ρ S = .ok d S := fun e0 e1 e2 => (fBin_ok (fVar_at e0) fC_ok).trans (dIx_lst e1 e2)
  have eb : fBin dIx (fVar 0) (fC (.int 1)) ρ S1 = .ok (.int b1) S1 := ix q0 qi rfl
  have et : ftB (fBin (dOrd (fun i j => decide (j < i)) (fun o => o == .gt)) (fBin dIx (fVar 0) (fC (.int 1))) (fC (.int 0))) ρ S1 = .ok (decide (0 < b1)) S1 := ftB_ok (fBin_ok eb fC_ok)
  by_cases hp : 0 < b1
  · have hh : Held i c S1 (S1.set i (.lst [.ref c, .int (b1 / k), .int m])) := ⟨by simp, fun j j1 j2 => by rw [List.getElem?_set_ne (Ne.symm j1)]⟩
    refine ⟨b1 % k, S1.set i (.lst [.ref c, .int (b1 / k), .int m]), tidy_held (runB_rt ?_) rfl (qh.trans hh), Int.emod_nonneg _ (by omega), Int.emod_lt_of_pos _ hk, ⟨⟨cs1, b1 / k, m, by simp [lt_of qi], by rw [List.getElem?_set_ne hne]; exact qc, qz, Int.ediv_nonneg (by omega) (by omega), hm0, hm⟩, hne⟩, qh.trans hh⟩
    rw [decide_eq_true hp] at et
    have a0 : (ρ.set 3 (some (.int (b1 % k))))[0]? = some (some (.ref i)) := by simpa using q0
    have a1 : (ρ.set 3 (some (.int (b1 % k))))[1]? = some (some (.int k)) := by simpa using q1
    have a3 : (ρ.set 3 (some (.int (b1 % k))))[3]? = some (some (.int (b1 % k))) := by simp [ql]
    refine (sSeq_nx q).trans (sSeq_rt ?_)
    refine (sIf_t et).trans ((sSeq_nx (sAsg_ok ((fBin_ok (fCall_ok (faCons_ok eb faNil_ok)) (fVar_at q1)).trans (dMod_pos hk)))).trans ?_)
    refine (sSeq_nx (sSetG_ok ((fBin_ok (ix a0 qi rfl) (fVar_at a1)).trans (dFdiv_small hk hk2)) (fVar_at a0) fC_ok ?_)).trans (sRet_ok (fVar_at a3))
    simp only [setG, qi]; rfl
  · rw [decide_eq_false hp] at et
    have hm2 : ∀ x : Int, 0 ≤ x % 2147483647 ∧ x % 2147483647 < 2147483647 := fun x => ⟨Int.emod_nonneg _ (by omega), Int.emod_lt_of_pos _ (by omega)⟩
    have em : (m * 48271 + 13) % 2147483647 = (m * 48271 + 13) % 2147483647 := rfl
    generalize hq : (m * 48271 + 13) % 2147483647 = m2 at em
    have mb := hm2 (m * 48271 + 13)
    rw [hq] at mb
    have hh : Held i c S1 (S1.set i (.lst [.ref c, .int b1, .int m2])) := ⟨by simp, fun j j1 j2 => by rw [List.getElem?_set_ne (Ne.symm j1)]⟩
    refine ⟨(m2 * m2) % 2147483629 / 7 % k, S1.set i (.lst [.ref c, .int b1, .int m2]), tidy_held (runB_rt ?_) rfl (qh.trans hh), Int.emod_nonneg _ (by omega), Int.emod_lt_of_pos _ hk, ⟨⟨cs1, b1, m2, by simp [lt_of qi], by rw [List.getElem?_set_ne hne]; exact qc, qz, qb, mb.1, mb.2⟩, hne⟩, qh.trans hh⟩
    have qi2 : (S1.set i (.lst [.ref c, .int b1, .int m2]))[i]? = some (.lst [.ref c, .int b1, .int m2]) := by simp [lt_of qi]
    refine (sSeq_nx q).trans ((sSeq_nx (sIf_f et)).trans ?_)
    have e2 : fBin dMod (fCall dInt (faCons (fBin dAdd (fBin dMul (fBin dIx (fVar 0) (fC (.int 2))) (fC (.int 48271))) (fC (.int 13))) faNil)) (fC (.int 2147483647)) ρ S1 = .ok (.int m2) S1 :=
      (fBin_ok (fCall_ok (faCons_ok ((fBin_ok ((fBin_ok (ix q0 qi rfl) fC_ok).trans (dMul_r (by decide))) fC_ok).trans dAdd_int) faNil_ok)) fC_ok).trans ((dMod_pos (by decide)).trans (by rw [hq]))
    refine (sSeq_nx (sSetG_ok e2 (fVar_at q0) fC_ok (S4 := S1.set i (.lst [.ref c, .int b1, .int m2])) (by simp only [setG, qi]; rfl))).trans (sRet_ok ?_)
    refine (fBin_ok (fCall_ok (faCons_ok ((fBin_ok ((fBin_ok (fCall_ok (faCons_ok ((fBin_ok (ix q0 qi2 rfl) (ix q0 qi2 rfl)).trans (dMul_r (by omega))) faNil_ok)) fC_ok).trans (dMod_pos (by decide))) fC_ok).trans (dFdiv_small (by decide) (by decide))) faNil_ok)) (fVar_at q1)).trans (dMod_pos hk)
noncomputable def bBag : FS := (sSeq (sAsg (fLc (fiSeq (fSl (fVar 0) foNone (foSome (fC (.int 63))))) [3] (bName 3) ftYes (fCall dAbs (faCons (fVar 3) faNil))) (bName 1))
    (sSeq (sAsg (fBin dAdd (fC (.int 17521)) (fCall dLen (faCons (fVar 1) faNil))) (bName 2))
    (sSeq (sFor (fiSeq (fVar 1)) (bName 3) (sAsg (fBin dMod (fCall dInt (faCons (fBin dAdd (fBin dAdd (fBin dMul (fVar 2) (fC (.int 48271))) (fBin dMod (fCall dInt (faCons (fVar 3) faNil)) (fC (.int 2147483629)))) (fC (.int 5))) faNil)) (fC (.int 2147483647))) (bName 2)))
    (sRet (fLst (faCons (fUn dRevL (fVar 1)) (faCons (fC (.int 0)) (faCons (fVar 2) faNil))))))))
noncomputable def FBag : FF := FF.tidy (runB bBag 4)
theorem cut_ints (ns : List Int) (lo hi : Option Int) : ∃ ms : List Int, cutD (ns.map .int) lo hi = ms.map .int ∧ ms.length ≤ ns.length := by
  unfold cutD
  rw [← List.map_drop, ← List.map_take]
  exact ⟨_, rfl, by simp; omega⟩
theorem tidy_ref {S G : Sto} {i : Nat} {ds : List D} (hi : S.length ≤ i) (e : (S ++ G)[i]? = some (.lst ds)) (f : flatDs ds = false) : tidyR S (.ok (.ref i) (S ++ G)) = .ok (.ref i) (S ++ G) := by
  simp [tidyR, flatD, hi, e, f]
/-- THE BAG of a script -/
theorem bag_ok {ns : List Int} (hn : ns.length ≤ 63) (S : Sto) : ∃ i c G, FBag [scr ns] S = .ok (.ref i) (S ++ G) ∧ BagAt (S ++ G) i c ∧ S.length ≤ i ∧ S.length ≤ c := by
  obtain ⟨ms, hms, hl⟩ := cut_ints ns none (some 63)
  have e1 : fSl (fVar 0) foNone (foSome (fC (.int 63))) [some (scr ns), none, none, none] S = .ok (.ref S.length) (S ++ [.lst (ms.map .int)]) := by
    unfold fSl
    rw [fVar_at (d := scr ns) rfl]
    show dSl (scr ns) none (some 63) S = _
    unfold dSl scr lstD
    simp only [hms]
  have e2 : fLc (fiSeq (fSl (fVar 0) foNone (foSome (fC (.int 63))))) [3] (bName 3) ftYes (fCall dAbs (faCons (fVar 3) faNil)) [some (scr ns), none, none, none] S = .ok (.ref (S.length + 1)) (S ++ [.lst (ms.map .int), .lst ((ms.map fun i : Int => if i < 0 then -i else i).map .int)]) := by
    have q := lc_ok (g := bName 3) (t := ftYes) (e := fCall dAbs (faCons (fVar 3) faNil)) (own := [3]) (fun _ => true) (fun d => match d with | .int i => .int (if i < 0 then -i else i) | d => d) (fiSeq_lst e1 (ds := ms.map .int) (by simp)) (fun G => chk1.mpr (by rw [List.append_assoc, List.getElem?_append_right (Nat.le_refl _)]; simp)) (by simp; omega) (fun d hd => by
      obtain ⟨i, _, rfl⟩ := List.mem_map.mp hd
      exact ⟨_, rfl, fun G => ⟨rfl, fun _ => (fCall_ok (faCons_ok (fVar_at rfl) faNil_ok)).trans rfl⟩⟩)
    rw [q, List.filter_eq_self.mpr (fun _ _ => rfl), List.map_map, List.map_map]
    simp [Function.comp_def]
  generalize hcs : (ms.map fun i : Int => if i < 0 then -i else i) = cs at e2
  have lcs : cs.length ≤ 63 := by rw [← hcs]; simp; omega
  generalize hG : ([.lst (ms.map .int), .lst (cs.map .int)] : Sto) = G at e2
  have at1 : (S ++ G)[S.length + 1]? = some (.lst (cs.map .int)) := by rw [← hG, List.getElem?_append_right (by omega)]; simp
  have e3 : fBin dAdd (fC (.int 17521)) (fCall dLen (faCons (fVar 1) faNil)) [some (scr ns), some (.ref (S.length + 1)), none, none] (S ++ G) = .ok (.int (17521 + cs.length)) (S ++ G) := by
    refine (fBin_ok fC_ok ((fCall_ok (faCons_ok (fVar_at rfl) faNil_ok)).trans (show dLen [.ref (S.length + 1)] (S ++ G) = .ok (.int cs.length) (S ++ G) by simp [dLen, at1]))).trans dAdd_int
  obtain ⟨ρ', S', q, _, hρ1, m, hρ2, hm0, hm1, rfl, _⟩ := for_inv (fi := fiSeq (fVar 1)) (g := bName 3) (b := (sAsg (fBin dMod (fCall dInt (faCons (fBin dAdd (fBin dAdd (fBin dMul (fVar 2) (fC (.int 48271))) (fBin dMod (fCall dInt (faCons (fVar 3) faNil)) (fC (.int 2147483629)))) (fC (.int 5))) faNil)) (fC (.int 2147483647))) (bName 2)))
    (ρ := [some (scr ns), some (.ref (S.length + 1)), some (.int (17521 + cs.length)), none])
    (fun r ρ S' => ρ.length = 4 ∧ ρ[1]? = some (some (.ref (S.length + 1))) ∧ ∃ m, ρ[2]? = some (some (.int m)) ∧ 0 ≤ m ∧ m < 2147483647 ∧ S' = S ++ G ∧ ∃ rs : List Int, r = rs.map .int)
    (fiSeq_lst (fVar_at rfl) at1) (fun r ρ S' ⟨_, _, m, _, _, _, e, _⟩ => chk1.mpr (by rw [e]; exact at1)) (fun d r ρ S' ⟨hlen, a1, m, a2, b1, b2, e, rs, hr⟩ => by
      cases rs with
      | nil => cases hr
      | cons z rs =>
        rw [List.map_cons] at hr
        injection hr with h1 h2
        subst h1 h2 e
        have x2 : (ρ.set 3 (some (.int z)))[2]? = some (some (.int m)) := by simpa using a2
        have x3 : (ρ.set 3 (some (.int z)))[3]? = some (some (.int z)) := by simp [hlen]
        refine ⟨_, _, _, rfl, .inl (sAsg_ok ((fBin_ok (fCall_ok (faCons_ok ((fBin_ok ((fBin_ok ((fBin_ok (fVar_at x2) fC_ok).trans (dMul_r (by decide))) ((fBin_ok (fCall_ok (faCons_ok (fVar_at x3) faNil_ok)) fC_ok).trans (dMod_pos (by decide)))).trans dAdd_int) fC_ok).trans dAdd_int) faNil_ok)) fC_ok).trans (dMod_pos (by decide)))), by simp [hlen], by simpa using a1, _, List.getElem?_set_self (by simp [hlen]), Int.emod_nonneg _ (by decide), Int.emod_lt_of_pos _ (by decide), rfl, rs, rfl⟩)
    ⟨rfl, rfl, _, rfl, by omega, by omega, rfl, cs, rfl⟩
  have hv1 : fUn dRevL (fVar 1) ρ' (S ++ G) = .ok (.ref (S ++ G).length) (S ++ G ++ [.lst (cs.reverse.map .int)]) := (fUn_ok (fVar_at hρ1)).trans (by simp [dRevL, lstD, at1])
  have hR : fLst (faCons (fUn dRevL (fVar 1)) (faCons (fC (.int 0)) (faCons (fVar 2) faNil))) ρ' (S ++ G) = .ok (.ref ((S ++ G).length + 1)) (S ++ (G ++ [.lst (cs.reverse.map .int), .lst [.ref (S ++ G).length, .int 0, .int m]])) := by
    rw [fLst_ok (faCons_ok hv1 (faCons_ok fC_ok (faCons_ok (fVar_at hρ2) faNil_ok))) (by simp)]
    simp [Nat.add_assoc]
  have at2 : (S ++ (G ++ [.lst (cs.reverse.map .int), .lst [.ref (S ++ G).length, .int 0, .int m]]))[(S ++ G).length + 1]? = some (.lst [.ref (S ++ G).length, .int 0, .int m]) := by
    rw [← List.append_assoc, List.getElem?_append_right (by omega)]; simp
  have at3 : (S ++ (G ++ [.lst (cs.reverse.map .int), .lst [.ref (S ++ G).length, .int 0, .int m]]))[(S ++ G).length]? = some (.lst (cs.reverse.map .int)) := by
    rw [← List.append_assoc, List.getElem?_append_right (Nat.le_refl _)]; simp
  refine ⟨(S ++ G).length + 1, (S ++ G).length, G ++ [.lst (cs.reverse.map .int), .lst [.ref (S ++ G).length, .int 0, .int m]], ?_, ⟨⟨cs.reverse, 0, m, at2, at3, by simpa using lcs, by omega, hm0, hm1⟩, by omega⟩, by simp; omega, by simp⟩
  have run : runB bBag 4 [scr ns] S = .ok (.ref ((S ++ G).length + 1)) (S ++ (G ++ [.lst (cs.reverse.map .int), .lst [.ref (S ++ G).length, .int 0, .int m]])) :=
    runB_rt ((sSeq_nx (sAsg_ok e2)).trans ((sSeq_nx (sAsg_ok e3)).trans ((sSeq_nx q).trans (sRet_ok hR))))
  unfold FBag FF.tidy
  rw [run]
  exact tidy_ref (by simp; omega) at2 rfl
noncomputable def bPick : FS := (sRet (fBin dIx (fVar 1) (fCall FDraw (faCons (fVar 0) (faCons (fCall dLen (faCons (fVar 1) faNil)) faNil)))))
noncomputable def FPick : FF := FF.tidy (runB bPick 2)
theorem atI_nat {α : Type} {ds : List α} {n : Int} (h0 : 0 ≤ n) (h : n < ds.length) : L2.atI ds n = ds[n.toNat]? := by
  unfold L2.atI L2.ixN
  rw [if_pos h0, if_pos h]
  rfl
/-- THE PICK of a list, of a tuple -/
theorem pick_ok {S : Sto} {i c : Nat} {x : D} {ds : List D} (h : BagAt S i c) (hx : (∃ j, x = .ref j ∧ S[j]? = some (.lst ds) ∧ j ≠ i ∧ j ≠ c) ∨ x = .tup ds) (h0 : ds ≠ []) (hl : ds.length < 2 ^ 63) (hf : flatDs ds = true) :
    ∃ d S', FPick [.ref i, x] S = .ok d S' ∧ d ∈ ds ∧ BagAt S' i c ∧ Held i c S S' := by
  have hpos : 0 < ds.length := List.length_pos_iff.mpr h0
  obtain ⟨n, S', e, n0, n1, hb, hh⟩ := draw_ok (k := ds.length) h (by omega) (by omega)
  have el : dLen [x] S = .ok (.int ds.length) S := by
    rcases hx with ⟨j, rfl, ej, _, _⟩ | rfl
    · simp [dLen, ej]
    · rfl
  have hlt : n.toNat < ds.length := by omega
  have ei : dIx x (.int n) S' = .ok ds[n.toNat] S' := by
    have ea : L2.atI ds n = some ds[n.toNat] := by rw [atI_nat n0 n1]; simp [hlt]
    rcases hx with ⟨j, rfl, ej, j1, j2⟩ | rfl
    · exact dIx_lst ((hh.at_ j j1 j2).trans ej) ea
    · exact dIx_tup ea
  have fl : ∀ {l : List D} {d : D}, flatDs l = true → d ∈ l → flatD d = true := fun {l} => by
    induction l with
    | nil => intro d _ z; cases z
    | cons a l ih =>
      intro d hf z
      unfold flatDs at hf
      rw [Bool.and_eq_true] at hf
      rcases List.mem_cons.mp z with rfl | z
      · exact hf.1
      · exact ih hf.2 z
  refine ⟨ds[n.toNat], S', tidy_held (runB_rt (sRet_ok ?_)) (fl hf (List.getElem_mem hlt)) hh, List.getElem_mem hlt, hb, hh⟩
  exact (fBin_ok (fVar_at (d := x) rfl) ((fCall_ok (faCons_ok (fVar_at rfl) (faCons_ok ((fCall_ok (faCons_ok (fVar_at (d := x) rfl) faNil_ok)).trans el) faNil_ok))).trans e)).trans ei
end Y

set_option Elab.async false
set_option linter.all false
set_option maxRecDepth 100000
set_option maxHeartbeats 2000000
/-! YSrt: sorted of plain data. -/
namespace Y
open PySem L2
theorem leP_int (a b : Int) : leP (.int a) (.int b) = decide (a ≤ b) := by
  unfold leP cmpP
  by_cases h : b < a
  · rw [show compare b a = .lt from Int.compare_eq_lt.mpr h, decide_eq_false (by omega)]; rfl
  · have : compare b a ≠ .lt := fun e => h (Int.compare_eq_lt.mp e)
    rw [decide_eq_true (by omega)]
    cases e : compare b a <;> first | rfl | exact (this e).elim
theorem ins_map {α β : Type} {le : α → α → Bool} {le' : β → β → Bool} {f : α → β} (h : ∀ a b, le' (f a) (f b) = le a b) (x : α) : ∀ l : List α, ins le' (f x) (l.map f) = (ins le x l).map f
  | [] => rfl
  | y :: ys => by
    unfold ins
    rw [List.map_cons]
    dsimp only
    rw [h]
    by_cases e : le x y = true
    · rw [if_pos e, if_pos e]; rfl
    · rw [if_neg e, if_neg e, ins_map h x ys]; rfl
theorem isort_map {α β : Type} {le : α → α → Bool} {le' : β → β → Bool} {f : α → β} (h : ∀ a b, le' (f a) (f b) = le a b) : ∀ l : List α, isort le' (l.map f) = (isort le l).map f
  | [] => rfl
  | x :: l => by
    show ins le' (f x) (isort le' (l.map f)) = (ins le x (isort le l)).map f
    rw [isort_map h l, ins_map h]
theorem srtD_ints (S : Sto) (ns : List Int) : srtD S (ns.map .int) = (isort (fun a b => decide (a ≤ b)) ns).map .int := by
  unfold srtD
  refine isort_map (fun a b => ?_) ns
  show leP (enc S (.int a)) (enc S (.int b)) = _
  exact leP_int a b
theorem pyAll_ints (S : Sto) : ∀ ns : List Int, pyAll S (ns.map .int) = some (ns.map .int)
  | [] => rfl
  | n :: ns => by
    show (pyN S (.int n)).bind _ = _
    rw [pyN_flat rfl]
    show (pyAll S (ns.map .int)).map _ = _
    rw [pyAll_ints S ns]; rfl
theorem srtOk_ints (ns : List Int) : srtOk (ns.map .int) = true := by
  have h1 : ((ns.map PyData.int).all fun a => noList a && SeqAt.shaped a && (ns.map PyData.int).all fun b => PySem.W.alike a b) = true := by
    simp only [List.all_map, List.all_eq_true, Function.comp_apply, Bool.and_eq_true]
    intro a _
    refine ⟨⟨by rfl, shaped_int a⟩, fun b _ => by rfl⟩
  have h2 : (ns.map PyData.int).all tupNo = true := by
    simp only [List.all_map, List.all_eq_true, Function.comp_apply]
    intro a _; rfl
  unfold srtOk
  rw [h1, h2]; simp
theorem dSorted_ints {S : Sto} {x : D} {ns : List Int} (h : seqD x S = some (ns.map .int)) (hl : ns.length ≤ 100000) : (ffOr dSorted dSortedK) [x] S = .ok (.ref S.length) (S ++ [.lst ((isort (fun a b => decide (a ≤ b)) ns).map .int)]) := by
  have e : dSorted [x] S = .ok (.ref S.length) (S ++ [.lst ((isort (fun a b => decide (a ≤ b)) ns).map .int)]) := by
    unfold dSorted
    simp only [h, pyAll_ints]
    rw [if_pos ⟨srtOk_ints ns, by rw [sizeLine_eq]; simp; omega⟩, srtD_ints]
  unfold ffOr
  rw [e]; rfl
/-- tuple(sorted(e)), e a tuple of ints -/
theorem tupSorted_ints {e : FE} {ρ : Env} {S : Sto} {ns : List Int} (h : e ρ S = .ok (.tup (ns.map .int)) S) (hl : ns.length ≤ 100000) :
    fTidy (fCall dTuple (faCons (fCall (ffOr dSorted dSortedK) (faCons e faNil)) faNil)) ρ S = .ok (.tup ((isort (fun a b => decide (a ≤ b)) ns).map .int)) S := by
  have e1 := (fCall_ok (F := ffOr dSorted dSortedK) (faCons_ok h faNil_ok)).trans (dSorted_ints (x := .tup (ns.map .int)) rfl hl)
  refine fTidy_flat (G := [.lst ((isort (fun a b => decide (a ≤ b)) ns).map .int)]) ((fCall_ok (faCons_ok e1 faNil_ok)).trans ?_) (ints_flat _)
  simp [dTuple, lstD]
open List in
theorem ins_perm {α : Type} {le : α → α → Bool} (x : α) : ∀ l : List α, ins le x l ~ x :: l
  | [] => .refl _
  | y :: ys => by
    unfold ins
    by_cases e : le x y = true
    · rw [if_pos e]
    · rw [if_neg e]
      exact ((ins_perm x ys).cons y).trans (.swap x y ys)
open List in
theorem isort_perm {α : Type} {le : α → α → Bool} : ∀ l : List α, isort le l ~ l
  | [] => .refl _
  | x :: l => (ins_perm x (isort le l)).trans ((isort_perm l).cons x)
theorem ins_sorted {α : Type} {le : α → α → Bool} (tot : ∀ a b, le a b = true ∨ le b a = true) (tr : ∀ a b c, le a b = true → le b c = true → le a c = true) (x : α) : ∀ l : List α, l.Pairwise (fun a b => le a b = true) → (ins le x l).Pairwise (fun a b => le a b = true)
  | [], _ => by simp [ins]
  | y :: ys, h => by
    rw [List.pairwise_cons] at h
    unfold ins
    by_cases e : le x y = true
    · rw [if_pos e]
      refine List.pairwise_cons.mpr ⟨fun b hb => ?_, List.pairwise_cons.mpr h⟩
      rcases List.mem_cons.mp hb with rfl | hb
      · exact e
      · exact tr _ _ _ e (h.1 b hb)
    · rw [if_neg e]
      refine List.pairwise_cons.mpr ⟨fun b hb => ?_, ins_sorted tot tr x ys h.2⟩
      rcases List.mem_cons.mp ((ins_perm x ys).mem_iff.mp hb) with rfl | hb
      · exact (tot b y).resolve_left e
      · exact h.1 b hb
theorem isort_sorted {α : Type} {le : α → α → Bool} (tot : ∀ a b, le a b = true ∨ le b a = true) (tr : ∀ a b c, le a b = true → le b c = true → le a c = true) : ∀ l : List α, (isort le l).Pairwise (fun a b => le a b = true)
  | [] => by simp [isort]
  | x :: l => ins_sorted tot tr x _ (isort_sorted tot tr l)
/-- the sorted list of a set is the one -/
theorem isort_eq {α : Type} {le : α → α → Bool} (tot : ∀ a b, le a b = true ∨ le b a = true) (tr : ∀ a b c, le a b = true → le b c = true → le a c = true) (anti : ∀ a b, le a b = true → le b a = true → a = b) {xs ys : List α} (h : xs.Nodup) (h2 : ys.Nodup)
    (hm : ∀ a, a ∈ xs ↔ a ∈ ys) (hs : ys.Pairwise (fun a b => le a b = true)) : isort le xs = ys :=
  List.Perm.eq_of_pairwise (fun a b _ _ => anti a b) (isort_sorted tot tr xs) hs ((isort_perm xs).trans ((List.perm_ext_iff_of_nodup h h2).mpr hm))
/-! ### triples -/
abbrev Tri := Int × Int × Int
def dT (t : Tri) : D := .tup [.int t.1, .int t.2.1, .int t.2.2]
def leT (a b : Tri) : Bool := if a.1 = b.1 then (if a.2.1 = b.2.1 then decide (a.2.2 ≤ b.2.2) else decide (a.2.1 < b.2.1)) else decide (a.1 < b.1)
theorem enc_T (S : Sto) (t : Tri) : enc S (dT t) = .tuple [.int t.1, .int t.2.1, .int t.2.2] := rfl
theorem cmp_int (a b : Int) : cmpP (.int a) (.int b) = compare a b := by unfold cmpP; rfl
theorem eqv_int (a b : Int) : (PyData.eqv (.int a) (.int b) = true) = (a = b) := by simp [PyData.eqv]
theorem leP_T (S : Sto) (a b : Tri) : leP (enc S (dT a)) (enc S (dT b)) = leT a b := by
  rw [enc_T, enc_T]
  obtain ⟨a1, a2, a3⟩ := a
  obtain ⟨b1, b2, b3⟩ := b
  have key : ∀ x y : Int, (!(compare y x == Ordering.lt)) = decide (x ≤ y) := fun x y => by rw [← leP_int x y]; unfold leP; rw [cmp_int]
  unfold leP leT
  simp only [cmpP, cmpPs, eqv_int]
  by_cases h1 : a1 = b1
  · subst h1
    simp only [if_true]
    by_cases h2 : a2 = b2
    · subst h2
      simp only [if_true]
      by_cases h3 : b3 = a3
      · subst h3; simp
      · simp only [h3, if_false]
        exact key a3 b3
    · have h2' : ¬ b2 = a2 := fun e => h2 e.symm
      simp only [h2, h2', if_false]
      rw [key a2 b2]
      simp only [decide_eq_decide]; omega
  · have h1' : ¬ b1 = a1 := fun e => h1 e.symm
    simp only [h1, h1', if_false]
    rw [key a1 b1]
    simp only [decide_eq_decide]; omega
theorem flat_T (t : Tri) : flatD (dT t) = true := rfl
theorem flats_T : ∀ ts : List Tri, flatDs (ts.map dT) = true
  | [] => rfl
  | t :: ts => flats_T ts
theorem pyAll_T (S : Sto) : ∀ ts : List Tri, pyAll S (ts.map dT) = some (ts.map fun t => toP (dT t))
  | [] => rfl
  | t :: ts => by
    show (pyN S (dT t)).bind _ = _
    rw [pyN_flat (flat_T t)]
    show (pyAll S (ts.map dT)).map _ = _
    rw [pyAll_T S ts]; rfl
theorem shaped_T (t : Tri) : SeqAt.shaped (toP (dT t)) = true := by
  simp [dT, toP, toPs, SeqAt.shaped, PyData.canLay0, PyData.canLayAll0, PyData.depth, PyData.depthAll]
theorem srtOk_T (ts : List Tri) : srtOk (ts.map fun t => toP (dT t)) = true := by
  have h1 : ((ts.map fun t => toP (dT t)).all fun a => noList a && SeqAt.shaped a && (ts.map fun t => toP (dT t)).all fun b => PySem.W.alike a b) = true := by
    simp only [List.all_map, List.all_eq_true, Function.comp_apply, Bool.and_eq_true]
    exact fun a _ => ⟨⟨by rfl, shaped_T a⟩, fun b _ => by rfl⟩
  have h2 : (ts.map fun t => toP (dT t)).all tupNe = true := by
    simp only [List.all_map, List.all_eq_true, Function.comp_apply]
    exact fun a _ => by rfl
  unfold srtOk
  rw [h1, h2]; rfl
theorem srtD_T (S : Sto) (ts : List Tri) : srtD S (ts.map dT) = (isort leT ts).map dT := isort_map (le' := fun a b => leP (enc S a) (enc S b)) (fun a b => leP_T S a b) ts
theorem dSorted_T {S : Sto} {x : D} {ts : List Tri} (h : seqD x S = some (ts.map dT)) (hl : ts.length ≤ 100000) : (ffOr dSorted dSortedK) [x] S = .ok (.ref S.length) (S ++ [.lst ((isort leT ts).map dT)]) := by
  have e : dSorted [x] S = .ok (.ref S.length) (S ++ [.lst ((isort leT ts).map dT)]) := by
    unfold dSorted
    simp only [h, pyAll_T]
    rw [if_pos ⟨srtOk_T ts, by rw [sizeLine_eq]; simp; omega⟩, srtD_T]
  unfold ffOr
  rw [e]; rfl
theorem leT_tot (a b : Tri) : leT a b = true ∨ leT b a = true := by
  unfold leT
  repeat' split <;> try simp only [decide_eq_true_eq] 
  all_goals omega
theorem leT_anti (a b : Tri) (h1 : leT a b = true) (h2 : leT b a = true) : a = b := by
  obtain ⟨a1, a2, a3⟩ := a
  obtain ⟨b1, b2, b3⟩ := b
  unfold leT at h1 h2
  dsimp only at h1 h2
  simp only [Prod.mk.injEq]
  split at h1 <;> split at h2 <;> (try split at h1) <;> (try split at h2) <;> simp only [decide_eq_true_eq] at h1 h2 <;> omega
theorem leT_tr (a b c : Tri) (h1 : leT a b = true) (h2 : leT b c = true) : leT a c = true := by
  unfold leT at h1 h2 ⊢
  split at h1 <;> split at h2 <;> (try split at h1) <;> (try split at h2) <;> simp only [decide_eq_true_eq] at h1 h2 <;> split <;> (try split) <;> simp only [decide_eq_true_eq] <;> omega
end Y

set_option Elab.async false
set_option linter.all false
set_option maxRecDepth 100000
set_option maxHeartbeats 2000000
/-! YEv: the readings as rewriting rules. -/
namespace Y
open PySem L2
section
variable {f g h : FE} {t u : FT} {a b : FS} {ρ ρ' : Env} {S S' : Sto} {d e x y z : D} {op : OpF} {F G : FF} {c : Bool} {fas : FA} {ds : List D} {i j k : Nat} {o : Option D} {l m : Sto} {ob : O}
theorem ev_bindok {α β : Type} (a : α) (S : Sto) (f : α → Sto → R β) : (R.ok a S).bind f = f a S := rfl
theorem ev_bindex {α β : Type} (c : Exc) (S : Sto) (f : α → Sto → R β) : (R.ex c S : R α).bind f = R.ex c S := rfl
theorem ev_thenok {α : Type} (a : α) (S : Sto) (ρ : Env) (f : α → Sto → SR) : (R.ok a S).then ρ f = f a S := rfl
theorem ev_thenex {α : Type} (c : Exc) (S : Sto) (ρ : Env) (f : α → Sto → SR) : (R.ex c S : R α).then ρ f = SR.ex c ρ S := rfl
theorem ev_seqnx (ρ : Env) (S : Sto) (f : Env → Sto → SR) : (SR.nx ρ S).seq f = f ρ S := rfl
theorem ev_seqrt (d : D) (S : Sto) (f : Env → Sto → SR) : (SR.rt d S).seq f = .rt d S := rfl
theorem ev_seqbk (ρ : Env) (S : Sto) (f : Env → Sto → SR) : (SR.bk ρ S).seq f = .bk ρ S := rfl
theorem ev_seqct (ρ : Env) (S : Sto) (f : Env → Sto → SR) : (SR.ct ρ S).seq f = .ct ρ S := rfl
theorem ev_seqex (c : Exc) (ρ : Env) (S : Sto) (f : Env → Sto → SR) : (SR.ex c ρ S).seq f = .ex c ρ S := rfl
def optR (o : Option D) (S : Sto) : R D := match o with
  | some d => .ok d S
  | none => .no
/-- the items, if it is a list -/
def lstO : Option O → Option (List D)
  | some (.lst ds) => some ds
  | _ => none
theorem ev_lstO : lstO (some (.lst ds)) = some ds := rfl
def onL {α : Type} (o : Option (List D)) (f : List D → R α) : R α := match o with
  | some ds => f ds
  | none => .no
theorem ev_onL {α : Type} {f : List D → R α} : onL (some ds) f = f ds := rfl
def lenO (o : Option O) (S : Sto) : R D := match o with
  | some (.lst xs) => .ok (.int xs.length) S
  | some (.dK xs) => .ok (.int xs.length) S
  | _ => .no
theorem ev_lenOl : lenO (some (.lst ds)) S = .ok (.int ds.length) S := rfl
theorem ev_lenOk {kvs : List (Key × D)} : lenO (some (.dK kvs)) S = .ok (.int kvs.length) S := rfl
theorem optR_some : optR (some d) S = .ok d S := rfl
theorem ev_var0 : fVar 0 (some d :: ρ) S = .ok d S := rfl
theorem ev_varS : fVar (i + 1) (o :: ρ) S = fVar i ρ S := by unfold fVar; rw [List.getElem?_cons_succ]
theorem ev_c : fC d ρ S = .ok d S := rfl
def kBin2 (r : R D) (op : OpF) (x : D) : R D := r.bind fun y S2 => op x y S2
def kBin1 (r : R D) (op : OpF) (g : FE) (ρ : Env) : R D := r.bind fun x S1 => kBin2 (g ρ S1) op x
theorem ev_bin : fBin op f g ρ S = kBin1 (f ρ S) op g ρ := rfl
theorem ev_bin1 : kBin1 (.ok x S) op g ρ = kBin2 (g ρ S) op x := rfl
theorem ev_bin1x {c : Exc} : kBin1 (.ex c S) op g ρ = .ex c S := rfl
theorem ev_bin2 : kBin2 (.ok y S) op x = op x y S := rfl
theorem ev_bin2x {c : Exc} : kBin2 (.ex c S) op x = .ex c S := rfl
theorem ev_un {o : D → Sto → R D} : fUn o f ρ S = (f ρ S).bind o := rfl
theorem ev_nil : faNil ρ S = .ok [] S := rfl
def kCons2 (r : R (List D)) (x : D) : R (List D) := r.bind fun xs S2 => .ok (x :: xs) S2
def kCons1 (r : R D) (fas : FA) (ρ : Env) : R (List D) := r.bind fun x S1 => kCons2 (fas ρ S1) x
theorem ev_cons : faCons f fas ρ S = kCons1 (f ρ S) fas ρ := rfl
theorem ev_cons1 : kCons1 (.ok x S) fas ρ = kCons2 (fas ρ S) x := rfl
theorem ev_cons1x {c : Exc} : kCons1 (.ex c S) fas ρ = .ex c S := rfl
theorem ev_cons2 : kCons2 (.ok ds S) x = .ok (x :: ds) S := rfl
theorem ev_cons2x {c : Exc} : kCons2 (.ex c S) x = .ex c S := rfl
def kTup (r : R (List D)) : R D := r.bind fun xs S1 => if xs.length ≤ sizeLine then .ok (.tup xs) S1 else .no
theorem ev_tup : fTup fas ρ S = kTup (fas ρ S) := rfl
theorem ev_tup1 : kTup (.ok ds S) = if ds.length ≤ sizeLine then .ok (.tup ds) S else .no := rfl
theorem ev_tup1x {c : Exc} : kTup (.ex c S) = .ex c S := rfl
def kLst (r : R (List D)) : R D := r.bind fun xs S1 => if xs.length ≤ sizeLine then .ok (.ref S1.length) (S1 ++ [.lst xs]) else .no
theorem ev_lst : fLst fas ρ S = kLst (fas ρ S) := rfl
theorem ev_lst1 : kLst (.ok ds S) = if ds.length ≤ sizeLine then .ok (.ref S.length) (S ++ [.lst ds]) else .no := rfl
theorem ev_lst1x {c : Exc} : kLst (.ex c S) = .ex c S := rfl
def kIf (r : R Bool) (f g : FE) (ρ : Env) : R D := r.bind fun c S1 => if c = true then f ρ S1 else g ρ S1
theorem ev_if : fIf t f g ρ S = kIf (t ρ S) f g ρ := rfl
theorem ev_if1 : kIf (.ok c S) f g ρ = if c = true then f ρ S else g ρ S := rfl
theorem ev_if1x {c : Exc} : kIf (.ex c S) f g ρ = .ex c S := rfl
theorem ev_call : fCall F fas ρ S = (fas ρ S).bind F := rfl
def kKey (r : R (List D)) (F : FF) (ix : List Nat) : R D := r.bind fun ws S1 => F (pick ix ws) S1
theorem ev_callK {ix : List Nat} : fCallK F ix fas ρ S = kKey (fas ρ S) F ix := rfl
theorem ev_callK1 {ix : List Nat} : kKey (.ok ds S) F ix = F (pick ix ds) S := rfl
theorem ev_callK1x {ix : List Nat} {c : Exc} : kKey (.ex c S) F ix = .ex c S := rfl
theorem ev_tru : ftTru f ρ S = (f ρ S).bind truD := rfl
theorem ev_tB : ftB f ρ S = (f ρ S).bind asB := rfl
theorem ev_asB : asB (.bl c) S = .ok c S := rfl
def kNot (r : R Bool) : R Bool := r.bind fun c S1 => .ok (!c) S1
theorem ev_tNot : ftNot t ρ S = kNot (t ρ S) := rfl
theorem ev_tNot1 : kNot (.ok c S) = .ok (!c) S := rfl
theorem ev_tNot1x {c : Exc} : kNot (.ex c S) = .ex c S := rfl
def kAnd (r : R Bool) (u : FT) (ρ : Env) : R Bool := r.bind fun c S1 => if c = true then u ρ S1 else .ok false S1
theorem ev_tAnd : ftAnd t u ρ S = kAnd (t ρ S) u ρ := rfl
theorem ev_tAnd1 : kAnd (.ok c S) u ρ = if c = true then u ρ S else .ok false S := rfl
theorem ev_tAnd1x {c : Exc} : kAnd (.ex c S) u ρ = .ex c S := rfl
def kOr (r : R Bool) (u : FT) (ρ : Env) : R Bool := r.bind fun c S1 => if c = true then .ok true S1 else u ρ S1
theorem ev_tOr : ftOr t u ρ S = kOr (t ρ S) u ρ := rfl
theorem ev_tOr1 : kOr (.ok c S) u ρ = if c = true then .ok true S else u ρ S := rfl
theorem ev_tOr1x {c : Exc} : kOr (.ex c S) u ρ = .ex c S := rfl
def kAndD2 (r : R Bool) (x : D) (g : FE) (ρ : Env) : R D := r.bind fun c S2 => if c = true then g ρ S2 else .ok x S2
def kAndD1 (r : R D) (g : FE) (ρ : Env) : R D := r.bind fun x S1 => kAndD2 (truD x S1) x g ρ
theorem ev_and : fAnd f g ρ S = kAndD1 (f ρ S) g ρ := rfl
theorem ev_and1 : kAndD1 (.ok x S) g ρ = kAndD2 (truD x S) x g ρ := rfl
theorem ev_and2 : kAndD2 (.ok c S) x g ρ = if c = true then g ρ S else .ok x S := rfl
def kOrD2 (r : R Bool) (x : D) (g : FE) (ρ : Env) : R D := r.bind fun c S2 => if c = true then .ok x S2 else g ρ S2
def kOrD1 (r : R D) (g : FE) (ρ : Env) : R D := r.bind fun x S1 => kOrD2 (truD x S1) x g ρ
theorem ev_or : fOr f g ρ S = kOrD1 (f ρ S) g ρ := rfl
theorem ev_or1 : kOrD1 (.ok x S) g ρ = kOrD2 (truD x S) x g ρ := rfl
theorem ev_or2 : kOrD2 (.ok c S) x g ρ = if c = true then .ok x S else g ρ S := rfl
def kNotD2 (r : R Bool) : R D := r.bind fun c S2 => .ok (.bl (!c)) S2
def kNotD1 (r : R D) : R D := r.bind fun x S1 => kNotD2 (truD x S1)
theorem ev_not : fNot f ρ S = kNotD1 (f ρ S) := rfl
theorem ev_not1 : kNotD1 (.ok x S) = kNotD2 (truD x S) := rfl
theorem ev_not2 : kNotD2 (.ok c S) = .ok (.bl (!c)) S := rfl
theorem ev_truB : truD (.bl c) S = .ok c S := rfl
theorem ev_truI {n : Int} : truD (.int n) S = .ok (n != 0) S := rfl
theorem ev_truT : truD (.tup ds) S = .ok (!ds.isEmpty) S := rfl
theorem ev_truN : truD .non S = .ok false S := rfl
theorem ev_truL : truD (.ref i) S = (match S[i]? with | some (.lst ds) => .ok (!ds.isEmpty) S | some (.dK ds) => .ok (!ds.isEmpty) S | _ => .no) := by
  unfold truD
  dsimp only <;> (cases h : S[i]? with | none => rfl | some o => (cases o <;> rfl))
theorem ev_yes : ftYes ρ S = .ok true S := rfl
def kSl3 (r : R (Option Int)) (x : D) (l : Option Int) : R D := r.bind fun h S3 => dSl x l h S3
def kSl2 (r : R (Option Int)) (x : D) (hi : FO) (ρ : Env) : R D := r.bind fun l S2 => kSl3 (hi ρ S2) x l
def kSl1 (r : R D) (lo hi : FO) (ρ : Env) : R D := r.bind fun x S1 => kSl2 (lo ρ S1) x hi ρ
theorem ev_sl {lo hi : FO} : fSl f lo hi ρ S = kSl1 (f ρ S) lo hi ρ := rfl
theorem ev_sl1 {lo hi : FO} : kSl1 (.ok x S) lo hi ρ = kSl2 (lo ρ S) x hi ρ := rfl
theorem ev_sl2 {hi : FO} {p : Option Int} : kSl2 (.ok p S) x hi ρ = kSl3 (hi ρ S) x p := rfl
theorem ev_sl3 {p q : Option Int} : kSl3 (.ok q S) x p = dSl x p q S := rfl
theorem ev_oN : foNone ρ S = .ok none S := rfl
def kOS (r : R D) : R (Option Int) := r.bind fun x S1 => match x with | .int i => .ok (some i) S1 | _ => .no
theorem ev_oS : foSome f ρ S = kOS (f ρ S) := rfl
theorem ev_oS1 {n : Int} : kOS (.ok (.int n) S) = .ok (some n) S := rfl
theorem ev_slT {p q : Option Int} : dSl (.tup ds) p q S = .ok (.tup (cutD ds p q)) S := rfl
theorem ev_slR {p q : Option Int} : dSl (.ro ds) p q S = .ok (.ref S.length) (S ++ [.lst (cutD ds p q)]) := rfl
theorem ev_slL {p q : Option Int} : dSl (.ref i) p q S = onL (lstO S[i]?) fun ds => .ok (.ref S.length) (S ++ [.lst (cutD ds p q)]) := by
  cases h : S[i]? with
  | none => simp [h, lstO, onL, optR, lenO, dSl, lstD]
  | some o => cases o <;> simp [h, lstO, onL, optR, lenO, dSl, lstD]
theorem ev_add {n m : Int} : dAdd (.int n) (.int m) S = .ok (.int (n + m)) S := rfl
theorem ev_sub {n m : Int} : dSub (.int n) (.int m) S = .ok (.int (n - m)) S := rfl
theorem ev_neg {n : Int} : dNeg (.int n) S = .ok (.int (-n)) S := rfl
theorem ev_addT {es : List D} : dAdd (.tup ds) (.tup es) S = if ds.length + es.length ≤ sizeLine then .ok (.tup (ds ++ es)) S else .no := rfl
theorem ev_addL : dAdd (.ref i) (.ref j) S = onL (lstO S[i]?) fun ds => onL (lstO S[j]?) fun es => if ds.length + es.length ≤ sizeLine then .ok (.ref S.length) (S ++ [.lst (ds ++ es)]) else .no := by
  unfold dAdd
  dsimp only
  cases h : S[i]? with
  | none => cases h2 : S[j]? <;> rfl
  | some o => cases h2 : S[j]? with
    | none => cases o <;> rfl
    | some p => cases o <;> cases p <;> rfl
theorem ev_ord {p : Int → Int → Bool} {B : Ordering → Bool} {n m : Int} : dOrd p B (.int n) (.int m) S = .ok (.bl (p n m)) S := rfl
theorem ev_abs {n : Int} : dAbs [.int n] S = .ok (.int n.natAbs) S := by
  show R.ok (D.int (if n < 0 then -n else n)) S = _
  congr 2
  split <;> omega
theorem ev_max2 {n m : Int} : dMax2 [.int n, .int m] S = .ok (.int (max n m)) S := by
  show R.ok (D.int (if m > n then m else n)) S = _
  congr 2
  split <;> omega
theorem ev_min2 {n m : Int} : dMin2 [.int n, .int m] S = .ok (.int (min n m)) S := by
  show R.ok (D.int (if m < n then m else n)) S = _
  congr 2
  split <;> omega
theorem ev_int {n : Int} : dInt [.int n] S = .ok (.int n) S := rfl
theorem ev_intB : dInt [.bl c] S = .ok (.int (if c then 1 else 0)) S := rfl
theorem ev_lenT : dLen [.tup ds] S = .ok (.int ds.length) S := rfl
theorem ev_lenR : dLen [.ro ds] S = .ok (.int ds.length) S := rfl
theorem ev_lenL : dLen [.ref i] S = lenO S[i]? S := by
  cases h : S[i]? with
  | none => simp [h, lstO, onL, optR, lenO, dLen]
  | some o => cases o <;> simp [h, lstO, onL, optR, lenO, dLen]
theorem ev_ixT {n : Int} : dIx (.tup ds) (.int n) S = optR (L2.atI ds n) S := rfl
theorem ev_ixR {n : Int} : dIx (.ro ds) (.int n) S = optR (L2.atI ds n) S := rfl
theorem ev_ixL {n : Int} : dIx (.ref i) (.int n) S = onL (lstO S[i]?) fun ds => optR (L2.atI ds n) S := by
  unfold dIx
  dsimp only [seqD]
  cases h : S[i]? with
  | none => rfl
  | some o => cases o <;> rfl
theorem ev_tupT : dTuple [.tup ds] S = .ok (.tup ds) S := rfl
theorem ev_tupL : dTuple [.ref i] S = onL (lstO S[i]?) fun ds => .ok (.tup ds) S := by
  cases h : S[i]? with
  | none => simp [h, lstO, onL, optR, lenO, dTuple, lstD]
  | some o => cases o <;> simp [h, lstO, onL, optR, lenO, dTuple, lstD]
theorem ev_revL : dRevL (.ref i) S = onL (lstO S[i]?) fun ds => .ok (.ref S.length) (S ++ [.lst ds.reverse]) := by
  cases h : S[i]? with
  | none => simp [h, lstO, onL, optR, lenO, dRevL, lstD]
  | some o => cases o <;> simp [h, lstO, onL, optR, lenO, dRevL, lstD]
def kML2 (r : R (List D)) (mf : MF) (x : D) : R D := r.bind fun ds S2 => mf x ds S2
def kML1 (r : R D) (mf : MF) (fas : FA) (ρ : Env) : R D := r.bind fun x S1 => if (isLst x S1).isSome = true then kML2 (fas ρ S1) mf x else .no
theorem ev_ml {mf : MF} : fML mf f fas ρ S = kML1 (f ρ S) mf fas ρ := rfl
theorem ev_ml1 {mf : MF} : kML1 (.ok x S) mf fas ρ = if (isLst x S).isSome = true then kML2 (fas ρ S) mf x else .no := rfl
theorem ev_ml2 {mf : MF} : kML2 (.ok ds S) mf x = mf x ds S := rfl
theorem ev_ml2x {mf : MF} {c : Exc} : kML2 (.ex c S) mf x = .ex c S := rfl
theorem ev_isL : isLst (.ref i) S = (lstO S[i]?).map fun ds => (i, ds) := by
  unfold isLst
  dsimp only
  cases h : S[i]? with
  | none => rfl
  | some o => cases o <;> rfl
theorem ev_mapp : mAppend (.ref i) [y] S = onL (lstO S[i]?) fun xs => if xs.length < sizeLine then .ok .non (S.set i (.lst (xs ++ [y]))) else .no := by
  unfold mAppend isLst
  dsimp only
  cases h : S[i]? with
  | none => rfl
  | some o => cases o <;> rfl
def popL (xs : List D) : Option (D × List D) := (xs[xs.length - 1]?).map fun y => (y, xs.dropLast)
theorem ev_popC {l : List D} : popL (l ++ [y]) = some (y, l) := by unfold popL; simp
theorem ev_pop1 : popL [y] = some (y, []) := rfl
theorem ev_pop2 : popL [x, y] = some (y, [x]) := rfl
theorem ev_mpop : mPop (.ref i) [] S = onL (lstO S[i]?) fun xs => match popL xs with | some p => .ok p.1 (S.set i (.lst p.2)) | none => .no := by
  unfold mPop isLst
  dsimp only
  cases h : S[i]? with
  | none => rfl
  | some o =>
    cases o <;> try rfl
    rename_i xs
    dsimp only [ev_lstO, ev_onL, popL]
    cases h2 : xs[xs.length - 1]? <;> simp [ev_lstO, ev_onL]
theorem ev_mext : mExtend (.ref i) [.ref j] S = onL (lstO S[i]?) fun xs => onL (lstO S[j]?) fun ys => if xs.length + ys.length ≤ sizeLine then .ok .non (S.set i (.lst (xs ++ ys))) else .no := by
  unfold mExtend isLst
  dsimp only
  cases h : S[i]? with
  | none => rfl
  | some o => cases o <;> first | rfl | (cases h2 : S[j]? with | none => simp [lstO, onL, isLst, h2] | some o => cases o <;> simp [lstO, onL, isLst, h2])
theorem ev_newK : fNewK ρ S = .ok (.ref S.length) (S ++ [.dK []]) := rfl
theorem ev_newN : fNewN ρ S = .ok (.ref S.length) (S ++ [.dN []]) := rfl
theorem ev_is : dIs x .non S = .ok (.bl (isNon x)) S := rfl
theorem ev_isNot : dIsNot x .non S = .ok (.bl (!isNon x)) S := rfl
theorem ev_isnN : isNon .non = true := rfl
theorem ev_isnT : isNon (.tup ds) = false := rfl
theorem ev_isnI {n : Int} : isNon (.int n) = false := rfl
theorem ev_isnR : isNon (.ref i) = false := rfl
/-! statements -/
theorem ev_nx : sNx ρ S = .nx ρ S := rfl
theorem ev_seq : sSeq a b ρ S = (a ρ S).seq b := rfl
def kAsg (r : R D) (i : Nat) (ρ : Env) : SR := r.then ρ fun d S1 => .nx (ρ.set i (some d)) S1
theorem ev_asg : sAsg f (bName i) ρ S = kAsg (f ρ S) i ρ := rfl
theorem ev_asg1 : kAsg (.ok d S) i ρ = .nx (ρ.set i (some d)) S := rfl
theorem ev_asg1x {c : Exc} : kAsg (.ex c S) i ρ = .ex c ρ S := rfl
def kNx (o : Option Env) (S : Sto) : SR := match o with | some ρ' => .nx ρ' S | none => .no
theorem ev_kNx : kNx (some ρ) S = .nx ρ S := rfl
def kAsgT (r : R D) (n : Nat) (gs : FBs) (ρ : Env) : SR := r.then ρ fun d S1 => kNx (bTup n gs d ρ) S1
theorem ev_asgT {n : Nat} {gs : FBs} : sAsg f (bTup n gs) ρ S = kAsgT (f ρ S) n gs ρ := rfl
theorem ev_asgT1 {n : Nat} {gs : FBs} : kAsgT (.ok d S) n gs ρ = kNx (bTup n gs d ρ) S := rfl
theorem ev_asgT1x {n : Nat} {gs : FBs} {c : Exc} : kAsgT (.ex c S) n gs ρ = .ex c ρ S := rfl
theorem ev_bTup {n : Nat} {gs : FBs} : bTup n gs (.tup ds) ρ = if ds.length = n then gs ds ρ else none := rfl
theorem ev_bName : bName i d ρ = some (ρ.set i (some d)) := rfl
theorem ev_bCons {g : FB} {gs : FBs} : bCons g gs (d :: ds) ρ = (g d ρ).bind (gs ds) := rfl
theorem ev_bNil : bNil [] ρ = some ρ := rfl
def kExp (r : R D) (ρ : Env) : SR := r.then ρ fun _ S1 => .nx ρ S1
theorem ev_expr : sExpr f ρ S = kExp (f ρ S) ρ := rfl
theorem ev_expr1 : kExp (.ok d S) ρ = .nx ρ S := rfl
theorem ev_expr1x {c : Exc} : kExp (.ex c S) ρ = .ex c ρ S := rfl
def kRet (r : R D) (ρ : Env) : SR := r.then ρ fun d S1 => .rt d S1
theorem ev_ret : sRet f ρ S = kRet (f ρ S) ρ := rfl
theorem ev_ret1 : kRet (.ok d S) ρ = .rt d S := rfl
theorem ev_ret1x {c : Exc} : kRet (.ex c S) ρ = .ex c ρ S := rfl
theorem ev_retN : sRetN ρ S = .rt .non S := rfl
def kSif (r : R Bool) (a b : FS) (ρ : Env) : SR := r.then ρ fun c S1 => if c = true then a ρ S1 else b ρ S1
theorem ev_sif : sIf t a b ρ S = kSif (t ρ S) a b ρ := rfl
theorem ev_sif1 : kSif (.ok c S) a b ρ = if c = true then a ρ S else b ρ S := rfl
theorem ev_sif1x {c : Exc} : kSif (.ex c S) a b ρ = .ex c ρ S := rfl
def kPar (r : R (List D)) (i j : Nat) (ρ : Env) : SR := r.then ρ fun ds S1 => match ds with | [x, y] => .nx ((ρ.set i (some x)).set j (some y)) S1 | _ => .no
theorem ev_par : sPar i j fas ρ S = kPar (fas ρ S) i j ρ := rfl
theorem ev_par1 : kPar (.ok [x, y] S) i j ρ = .nx ((ρ.set i (some x)).set j (some y)) S := rfl
def kPar3 (r : R (List D)) (i j k : Nat) (ρ : Env) : SR := r.then ρ fun ds S1 => match ds with | [x, y, z] => .nx (((ρ.set i (some x)).set j (some y)).set k (some z)) S1 | _ => .no
theorem ev_par3 : sPar3 i j k fas ρ S = kPar3 (fas ρ S) i j k ρ := rfl
theorem ev_par31 : kPar3 (.ok [x, y, z] S) i j k ρ = .nx (((ρ.set i (some x)).set j (some y)).set k (some z)) S := rfl
def kSet4 (o : Option Sto) (ρ : Env) : SR := match o with | some S4 => .nx ρ S4 | none => .no
def kSet3 (r : R D) (d x : D) (ρ : Env) : SR := r.then ρ fun y S3 => kSet4 (setG x y d S3) ρ
def kSet2 (r : R D) (d : D) (h : FE) (ρ : Env) : SR := r.then ρ fun x S2 => kSet3 (h ρ S2) d x ρ
def kSet1 (r : R D) (g h : FE) (ρ : Env) : SR := r.then ρ fun d S1 => kSet2 (g ρ S1) d h ρ
theorem ev_setG : sSetG f g h ρ S = kSet1 (f ρ S) g h ρ := rfl
theorem ev_setG1 : kSet1 (.ok d S) g h ρ = kSet2 (g ρ S) d h ρ := rfl
theorem ev_setG2 : kSet2 (.ok x S) d h ρ = kSet3 (h ρ S) d x ρ := rfl
theorem ev_setG3 : kSet3 (.ok y S) d x ρ = kSet4 (setG x y d S) ρ := rfl
theorem ev_setG4 : kSet4 (some S) ρ = .nx ρ S := rfl
theorem ev_setG1x {c : Exc} : kSet1 (.ex c S) g h ρ = .ex c ρ S := rfl
theorem ev_break : sBreak ρ S = .bk ρ S := rfl
theorem ev_cont : sCont ρ S = .ct ρ S := rfl
def kFor (r : R (List D × Chk)) (g : FB) (b : FS) (ρ : Env) : SR := r.then ρ fun dc S1 => loopF dc.2 g b dc.1 ρ S1
theorem ev_for {fi : FI} {g : FB} : sFor fi g b ρ S = kFor (fi ρ S) g b ρ := rfl
theorem ev_for1 {g : FB} {ch : Chk} : kFor (.ok (ds, ch) S) g b ρ = loopF ch g b ds ρ S := rfl
theorem ev_for1x {g : FB} {c : Exc} : kFor (.ex c S) g b ρ = .ex c ρ S := rfl
theorem ev_runB {n : Nat} : runB a n ds S = match a (ds.map some ++ List.replicate (n - ds.length) none) S with | .nx _ S' => .ok .non S' | .rt d S' => .ok d S' | .ex c _ S' => .ex c S' | _ => .no := rfl
theorem ev_setL {n : Int} : setG (.ref i) (.int n) d S = match S[i]? with
  | some (.lst ds) => (ixN ds.length n).map fun j => S.set i (.lst (ds.set j d))
  | some (.dK kvs) => if kvs.length < sizeLine then some (S.set i (.dK (putKD kvs (.inl n) d))) else none
  | _ => none := by
  unfold setG
  dsimp only
  cases h : S[i]? with
  | none => rfl
  | some o => cases o <;> first | rfl | (dsimp only; cases ixN _ n <;> rfl)
/-- the items of a tuple, of a list -/
def itemsA (x : D) (S : Sto) : R (List D × Chk) := match x with
  | .tup ds => .ok (ds, []) S
  | .ro ds => .ok (ds, []) S
  | .ref i => onL (lstO S[i]?) fun ds => .ok (ds, [(i, .lst ds)]) S
  | _ => .no
theorem ev_fiSeq : fiSeq f ρ S = (f ρ S).bind itemsA := by
  unfold fiSeq fiOr fiLst fiTup
  cases f ρ S with
  | no => rfl
  | ex c S' => rfl
  | ok x S' =>
    simp only [R.bind_ok]
    cases x <;> try rfl
    rename_i i
    simp only [itemsD, itemsA, itemsT]
    cases h : S'[i]? with
    | none => rfl
    | some o => cases o <;> rfl
theorem ev_itT : itemsA (.tup ds) S = .ok (ds, []) S := rfl
theorem ev_itR : itemsA (.ro ds) S = .ok (ds, []) S := rfl
theorem ev_itL : itemsA (.ref i) S = onL (lstO S[i]?) fun ds => .ok (ds, [(i, .lst ds)]) S := rfl
/-- behind a loop's turn -/
def loopK (r : SR) (f : Env → Sto → SR) : SR := match r with
  | .nx ρ S => f ρ S
  | .ct ρ S => f ρ S
  | .bk ρ S => .nx ρ S
  | .rt d S => .rt d S
  | .ex c ρ S => .ex c ρ S
  | .no => .no
theorem ev_loopKnx {f : Env → Sto → SR} : loopK (.nx ρ S) f = f ρ S := rfl
theorem ev_loopKct {f : Env → Sto → SR} : loopK (.ct ρ S) f = f ρ S := rfl
theorem ev_loopKbk {f : Env → Sto → SR} : loopK (.bk ρ S) f = .nx ρ S := rfl
theorem ev_loopKrt {f : Env → Sto → SR} : loopK (.rt d S) f = .rt d S := rfl
theorem ev_loopKex {f : Env → Sto → SR} {c : Exc} : loopK (.ex c ρ S) f = .ex c ρ S := rfl
theorem ev_loopN {g : FB} : loopF [] g b [] ρ S = .nx ρ S := rfl
def kTurn (o : Option Env) (b : FS) (S : Sto) (f : Env → Sto → SR) : SR := match o with | none => .no | some ρ1 => loopK (b ρ1 S) f
theorem ev_turn {f : Env → Sto → SR} : kTurn (some ρ) b S f = loopK (b ρ S) f := rfl
theorem loopC {ch : Chk} {g : FB} (h : chkOk ch S = true) : loopF ch g b (d :: ds) ρ S = kTurn (g d ρ) b S (loopF ch g b ds) := by
  show (if _ then _ else _) = _
  rw [if_pos h]
  cases g d ρ with
  | none => rfl
  | some ρ1 => dsimp only; unfold kTurn; dsimp only; cases b ρ1 S <;> rfl
theorem loopN {ch : Chk} {g : FB} (h : chkOk ch S = true) : loopF ch g b [] ρ S = .nx ρ S := by
  show (if _ then _ else _) = _
  rw [if_pos h]
theorem ev_loopC {g : FB} : loopF [] g b (d :: ds) ρ S = kTurn (g d ρ) b S (loopF [] g b ds) := loopC rfl
noncomputable def kWh (r : R Bool) (t : FT) (b : FS) (ρ : Env) : SR := match r with | .ok true S1 => loopK (b ρ S1) (sWhile t b) | .ok false S1 => .nx ρ S1 | .ex c S1 => .ex c ρ S1 | .no => .no
theorem ev_wh1 : kWh (.ok c S) t b ρ = if c = true then loopK (b ρ S) (sWhile t b) else .nx ρ S := by cases c <;> rfl
theorem ev_while : sWhile t b ρ S = kWh (t ρ S) t b ρ := by
  rw [sWhile_eq]
  unfold stepW kWh
  cases t ρ S with
  | no => rfl
  | ex c S1 => rfl
  | ok c S1 => cases c <;> (dsimp only; try rfl); cases b ρ S1 <;> rfl
def kG4 (o : Option (Option D)) (z : D) (S : Sto) : R D := match o with | some (some d) => .ok d S | some none => .ok z S | none => .no
theorem ev_g4s : kG4 (some (some d)) z S = .ok d S := rfl
theorem ev_g4n : kG4 (some none) z S = .ok z S := rfl
def kG3 (r : R D) (gg : GO) (y : D) : R D := r.bind fun z S3 => kG4 (gAt gg y S3) z S3
def kG2 (r : R D) (gg : GO) (g : FE) (ρ : Env) : R D := r.bind fun y S2 => kG3 (g ρ S2) gg y
def kG1 (r : R GO) (f g : FE) (ρ : Env) : R D := r.bind fun gg S1 => if isG gg S1 = true then kG2 (f ρ S1) gg g ρ else .no
theorem ev_get2 {fg : FG} : fGet2 fg f g ρ S = kG1 (fg ρ S) f g ρ := by
  unfold fGet2 kG1
  congr 1
theorem ev_get21 {gg : GO} : kG1 (.ok gg S) f g ρ = if isG gg S = true then kG2 (f ρ S) gg g ρ else .no := rfl
theorem ev_get22 {gg : GO} : kG2 (.ok y S) gg g ρ = kG3 (g ρ S) gg y := rfl
theorem ev_get23 {gg : GO} : kG3 (.ok z S) gg y = kG4 (gAt gg y S) z S := rfl
def kH2 (r : R D) (gg : GO) : R D := r.bind fun y S2 => kG4 (gAt gg y S2) .non S2
def kH1 (r : R GO) (f : FE) (ρ : Env) : R D := r.bind fun gg S1 => if isG gg S1 = true then kH2 (f ρ S1) gg else .no
theorem ev_get1 {fg : FG} : fGet1 fg f ρ S = kH1 (fg ρ S) f ρ := rfl
theorem ev_get11 {gg : GO} : kH1 (.ok gg S) f ρ = if isG gg S = true then kH2 (f ρ S) gg else .no := rfl
theorem ev_get12 {gg : GO} : kH2 (.ok y S) gg = kG4 (gAt gg y S) .non S := rfl
def kX3 (o : Option (Option D)) (S : Sto) : R D := match o with | some (some d) => .ok d S | _ => .no
theorem ev_x3 : kX3 (some (some d)) S = .ok d S := rfl
def kX2 (r : R D) (gg : GO) : R D := r.bind fun y S2 => kX3 (gAt gg y S2) S2
def kX1 (r : R GO) (f : FE) (ρ : Env) : R D := r.bind fun gg S1 => kX2 (f ρ S1) gg
theorem ev_ixG {fg : FG} : fIxG fg f ρ S = kX1 (fg ρ S) f ρ := rfl
theorem ev_ixG1 {gg : GO} : kX1 (.ok gg S) f ρ = kX2 (f ρ S) gg := rfl
theorem ev_ixG2 {gg : GO} : kX2 (.ok y S) gg = kX3 (gAt gg y S) S := rfl
theorem ev_gT {tb : List (Key × D)} : fgT tb ρ S = .ok (.t tb) S := rfl
def kGD (r : R D) : R GO := r.bind fun d S' => .ok (.d d) S'
theorem ev_gD : fgD f ρ S = kGD (f ρ S) := rfl
theorem ev_gD1 : kGD (.ok d S) = .ok (.d d) S := rfl
theorem ev_isGt {tb : List (Key × D)} : isG (.t tb) S = true := Bool.eq_iff_iff.mpr ⟨fun _ => rfl, fun _ => rfl⟩
theorem ev_gAti {tb : List (Key × D)} {n : Int} : gAt (.t tb) (.int n) S = some (atK tb (.inl n)) := rfl
def kDc (r : R (List D × Chk)) (N : Bool) (own : List Nat) (bd : FB) (t : FT) (f g : FE) (ρ : Env) : R D := r.bind fun dc S1 => dcLoop S1.length dc.2 bd t f g (wipeD ρ own) dc.1 (S1 ++ [empD N])
theorem ev_dc {N : Bool} {fi : FI} {own : List Nat} {bd : FB} : fDc N fi own bd t f g ρ S = kDc (fi ρ S) N own bd t f g ρ := rfl
theorem ev_dc1 {N : Bool} {ch : Chk} {own : List Nat} {bd : FB} : kDc (.ok (ds, ch) S) N own bd t f g ρ = dcLoop S.length ch bd t f g (wipeD ρ own) ds (S ++ [empD N]) := rfl
def kLc (r : R (List D × Chk)) (own : List Nat) (bd : FB) (t : FT) (f : FE) (ρ : Env) : R D := r.bind fun dc S1 => lcLoop S1.length dc.2 bd t f (wipeD ρ own) dc.1 (S1 ++ [.lst []])
theorem ev_lc {fi : FI} {own : List Nat} {bd : FB} : fLc fi own bd t f ρ S = kLc (fi ρ S) own bd t f ρ := rfl
theorem ev_lc1 {ch : Chk} {own : List Nat} {bd : FB} : kLc (.ok (ds, ch) S) own bd t f ρ = lcLoop S.length ch bd t f (wipeD ρ own) ds (S ++ [.lst []]) := rfl
theorem ev_wipe0 : wipeD ρ [] = ρ := rfl
theorem ev_wipe {v : Nat} {vs : List Nat} : wipeD ρ (v :: vs) = (wipeD ρ vs).set v none := rfl
theorem ev_empN : empD true = .dN [] := rfl
theorem ev_empK : empD false = .dK [] := rfl
theorem ev_chk1 : chkOk [(i, ob)] S = decide (S[i]? = some ob) := by simp [chkOk]
/-- ints from lo on -/
def rng (lo : Int) (n : Nat) : List Int := (List.range n).map fun i => lo + (i : Nat)
theorem rngD_rng {lo : Int} {n : Nat} : rngD lo n = (rng lo n).map .int := by unfold rngD rng; rw [List.map_map]; rfl
def kRng1 (r : R D) : R (List D × Chk) := r.bind fun x S1 => match x with | .int j => if -(2 ^ 62) ≤ j ∧ j < 2 ^ 62 then .ok (rngD 0 j.toNat, []) S1 else .no | _ => .no
def kRng3 (r : R D) (x : D) : R (List D × Chk) := r.bind fun y S2 => match x, y with | .int i, .int j => if -(2 ^ 62) ≤ i ∧ i < 2 ^ 62 ∧ -(2 ^ 62) ≤ j ∧ j < 2 ^ 62 then .ok (rngD i (j - i).toNat, []) S2 else .no | _, _ => .no
def kRng2 (r : R D) (g : FE) (ρ : Env) : R (List D × Chk) := r.bind fun x S1 => kRng3 (g ρ S1) x
theorem ev_fiRng1 : fiRng1 f ρ S = kRng1 (f ρ S) := rfl
theorem ev_fiRng11 {n : Int} : kRng1 (.ok (.int n) S) = if -(2 ^ 62) ≤ n ∧ n < 2 ^ 62 then .ok (rngD 0 n.toNat, []) S else .no := rfl
theorem ev_fiRng2 : fiRng2 f g ρ S = kRng2 (f ρ S) g ρ := rfl
theorem ev_fiRng21 : kRng2 (.ok x S) g ρ = kRng3 (g ρ S) x := rfl
theorem ev_fiRng22 {n m : Int} : kRng3 (.ok (.int m) S) (.int n) = if -(2 ^ 62) ≤ n ∧ n < 2 ^ 62 ∧ -(2 ^ 62) ≤ m ∧ m < 2 ^ 62 then .ok (rngD n (m - n).toNat, []) S else .no := rfl
/-! the store, S with something behind it -/
theorem st_len : (S ++ l).length = S.length + l.length := List.length_append
theorem st_app : (S ++ l) ++ m = S ++ (l ++ m) := List.append_assoc S l m
theorem st_at0 : (S ++ l)[S.length]? = l[0]? := by rw [List.getElem?_append_right (Nat.le_refl _)]; simp
theorem st_at : (S ++ l)[S.length + k]? = l[k]? := by rw [List.getElem?_append_right (by omega)]; simp
theorem st_old (h : S[i]? = some ob) : (S ++ l)[i]? = some ob := by rw [List.getElem?_append_left (List.getElem?_eq_some_iff.mp h).1]; exact h
theorem st_set0 : (S ++ l).set S.length ob = S ++ l.set 0 ob := by rw [List.set_append_right _ _ (Nat.le_refl _)]; simp
theorem st_set : (S ++ l).set (S.length + k) ob = S ++ l.set k ob := by rw [List.set_append_right _ _ (by omega)]; simp
theorem st_take : (S ++ l).take S.length = S := by simp
theorem ixN_nat {n : Nat} {k : Int} (h0 : 0 ≤ k) (h : k < n) : L2.ixN n k = some k.toNat := by unfold L2.ixN; rw [if_pos h0, if_pos h]
end
end Y

set_option Elab.async false
set_option linter.all false
set_option maxRecDepth 100000
set_option maxHeartbeats 2000000
/-! YSet: dicts as sets of what was seen; sorted, in general. -/
namespace Y
open PySem L2
/-- a dict with tuple keys, each True -/
def seen (F : List D) : O := .dN (F.map fun d => (d, .bl true))
def seenK (F : List Int) : O := .dK (F.map fun n => (.inl n, .bl true))
theorem atD_seen (F : List D) (x v : D) : (atD (F.map fun d => (d, v)) x).isSome = decide (x ∈ F) := by
  unfold atD
  rw [Option.isSome_map, Bool.eq_iff_iff, List.find?_isSome]
  simp only [List.mem_map, decide_eq_true_eq]
  exact ⟨fun ⟨_, ⟨a, h, e⟩, e2⟩ => by rw [← e] at e2; exact e2 ▸ h, fun h => ⟨_, ⟨x, h, rfl⟩, rfl⟩⟩
theorem putD_seen {F : List D} {x v : D} : putD (F.map fun d => (d, v)) x v = (if x ∈ F then F else F ++ [x]).map fun d => (d, v) := by
  unfold putD
  rw [atD_seen]
  by_cases h : x ∈ F
  · rw [if_pos (by simpa using h), if_pos h, List.map_map]
    refine List.map_congr_left fun d _ => ?_
    dsimp only [Function.comp]
    split <;> rfl
  · rw [if_neg (by simpa using h), if_neg h]; simp
theorem putKD_seen {F : List Int} {n : Int} {v : D} : putKD (F.map fun n => (.inl n, v)) (.inl n) v = (if n ∈ F then F else F ++ [n]).map fun n => (.inl n, v) := by
  unfold putKD
  have e : ((F.map fun n => ((.inl n : Key), v)).any fun kv => decide (kv.1 = .inl n)) = decide (n ∈ F) := by
    rw [List.any_map, Bool.eq_iff_iff, List.any_eq_true]
    simp
  rw [e]
  by_cases h : n ∈ F
  · rw [if_pos (by simpa using h), if_pos h, List.map_map]
    refine List.map_congr_left fun d _ => ?_
    dsimp only [Function.comp]
    split <;> rfl
  · rw [if_neg (by simpa using h), if_neg h]; simp
section
variable {S : Sto} {j : Nat} {F : List D} {x : D}
theorem lst_no {kvs : List (D × D)} (h : S[j]? = some (.dN kvs)) : pyN S (.ref j) = none := by
  show pyR S 9 j = none
  unfold pyR
  rw [h]
theorem lst_noK {kvs : List (Key × D)} (h : S[j]? = some (.dK kvs)) : pyN S (.ref j) = none := by
  show pyR S 9 j = none
  unfold pyR
  rw [h]
theorem in_seen {neg : Bool} (h : S[j]? = some (seen F)) (hx : (keyT x).isSome = true) : oOr (dInL neg) (dIn neg) x (.ref j) S = .ok (.bl (if neg then !decide (x ∈ F) else decide (x ∈ F))) S := by
  obtain ⟨k, hk⟩ := Option.isSome_iff_exists.mp hx
  have e1 : dInL neg x (.ref j) S = .no := by
    unfold dInL
    rw [lst_no h]
    split <;> rename_i e2 <;> first | cases e2 | rfl
  have e2 : dIn neg x (.ref j) S = .ok (.bl (if neg then !decide (x ∈ F) else decide (x ∈ F))) S := by
    unfold dIn dctAt
    dsimp only
    rw [h]
    dsimp only [seen]
    rw [hk]
    dsimp only [Option.map_some]
    rw [atD_seen]
  unfold oOr
  rw [e1, e2]; rfl
theorem set_seen (h : S[j]? = some (seen F)) (hx : (keyT x).isSome = true) (hl : F.length < 100000) : setG (.ref j) x (.bl true) S = some (S.set j (seen (if x ∈ F then F else F ++ [x]))) := by
  obtain ⟨k, hk⟩ := Option.isSome_iff_exists.mp hx
  unfold setG
  dsimp only
  rw [h]
  dsimp only [seen]
  simp only [hk]
  rw [if_pos (by rw [sizeLine_eq, List.length_map]; omega), putD_seen]
theorem set_seenK {F : List Int} {n : Int} (h : S[j]? = some (seenK F)) (hl : F.length < 100000) : setG (.ref j) (.int n) (.bl true) S = some (S.set j (seenK (if n ∈ F then F else F ++ [n]))) := by
  unfold setG
  dsimp only
  rw [h]
  dsimp only [seenK]
  simp only [keyK]
  rw [if_pos (by rw [sizeLine_eq, List.length_map]; omega), putKD_seen]
theorem sortedG {xs : List D} {ps : List PyData} (h : seqK x S = some xs) (hp : pyAll S xs = some ps) (ho : srtOk ps = true) (hl : xs.length ≤ 100000) : (ffOr dSorted dSortedK) [x] S = .ok (.ref S.length) (S ++ [.lst (srtD S xs)]) := by
  unfold seqK at h
  unfold ffOr
  cases e : seqD x S with
  | some ys =>
    simp only [e] at h
    cases h
    simp only [dSorted, e, hp]
    rw [if_pos ⟨ho, by rw [sizeLine_eq]; omega⟩]; rfl
  | none =>
    simp only [e] at h
    simp only [dSorted, e, dSortedK, h, hp]
    rw [if_pos ⟨ho, by rw [sizeLine_eq]; omega⟩]; rfl
theorem sortG_ints {ns : List Int} (h : seqK x S = some (ns.map .int)) (hl : ns.length ≤ 100000) : (ffOr dSorted dSortedK) [x] S = .ok (.ref S.length) (S ++ [.lst ((isort (fun a b => decide (a ≤ b)) ns).map .int)]) := by
  rw [sortedG h (pyAll_ints S ns) (srtOk_ints ns) (by simpa using hl), srtD_ints]
theorem sortG_T {ts : List Tri} (h : seqK x S = some (ts.map dT)) (hl : ts.length ≤ 100000) : (ffOr dSorted dSortedK) [x] S = .ok (.ref S.length) (S ++ [.lst ((isort leT ts).map dT)]) := by
  rw [sortedG h (pyAll_T S ts) (srtOk_T ts) (by simpa using hl), srtD_T]
theorem seqK_lst {ds : List D} (h : S[j]? = some (.lst ds)) : seqK (.ref j) S = some ds := by simp [seqK, seqD, h]
theorem seqK_seen (h : S[j]? = some (seen F)) : seqK (.ref j) S = some F := by simp [seqK, seqD, dKeys, h, seen, Function.comp_def]
theorem seqK_seenK {F : List Int} (h : S[j]? = some (seenK F)) : seqK (.ref j) S = some (F.map .int) := by simp [seqK, seqD, dKeys, h, seenK, keyD, Function.comp_def]
theorem keyT_T (t : Tri) : (keyT (dT t)).isSome = true := by
  simp [dT, keyT, keyN, keyNs, NestedKey.depth, NestedKey.depthAll]
theorem dNe_nilG {i : Nat} {ds : List D} (e : S[i]? = some (.lst ds)) (e2 : S[j]? = some (.lst [])) (hf : flatDs ds = true) (hs : SeqAt.shaped (.list (toPs ds)) = true) : dNe (.ref i) (.ref j) S = .ok (.bl (!ds.isEmpty)) S := by
  unfold dNe dEqB
  rw [pyN_lst e hf, pyN_lst e2 rfl]
  have z : SeqAt.shaped (.list (toPs [])) = true := by decide +kernel
  simp only [hs, z, and_self, if_true]
  cases ds <;> simp [toPs, PyData.eqv, PyData.eqvAll]
theorem shaped_Ts (ts : List Tri) : SeqAt.shaped (.list (toPs (ts.map dT))) = true := by
  have h1 : ∀ l : List Tri, PyData.canLayAll0 (toPs (l.map dT)) = true := fun l => by
    induction l with
    | nil => rfl
    | cons a l ih => rw [List.map_cons, toPs]; unfold PyData.canLayAll0; rw [ih]; simp [dT, toP, toPs, PyData.canLay0, PyData.canLayAll0]
  have h2 : ∀ l : List Tri, PyData.depthAll (toPs (l.map dT)) ≤ 1 := fun l => by
    induction l with
    | nil => simp [toPs, PyData.depthAll]
    | cons a l ih => rw [List.map_cons, toPs]; unfold PyData.depthAll; simp [dT, toP, toPs, PyData.depth, PyData.depthAll] at *; omega
  have := h2 ts
  unfold SeqAt.shaped PyData.canLay0 PyData.depth
  rw [h1, decide_eq_true (by omega)]; rfl
theorem nf_map {α : Type} {f : α → D} (h : ∀ a, flatD (f a) = true) : ∀ l : List α, flatDs (l.map f) = true
  | [] => rfl
  | a :: l => by rw [List.map_cons]; unfold flatDs; rw [h a, nf_map h l]; rfl
/-! tidy -/
theorem tidyF {F : FF} {ds : List D} {d : D} {G : Sto} (e : F ds S = .ok d (S ++ G)) (f : flatD d = true) : FF.tidy F ds S = .ok d S := by
  unfold FF.tidy
  rw [e]
  exact tidy_flat (G := G) rfl f
theorem tidy_ok {d : D} {G : Sto} (h : flatD d = true) : tidyR S (.ok d (S ++ G)) = .ok d S := tidy_flat (G := G) rfl h
theorem ev_ftidy {f : FE} {ρ : Env} : fTidy f ρ S = tidyR S (f ρ S) := rfl
theorem ev_fttidy {t : FT} {ρ : Env} : ftTidy t ρ S = tidyB S (t ρ S) := rfl
theorem nf_non : flatD .non = true := Bool.eq_iff_iff.mpr ⟨fun _ => rfl, fun _ => rfl⟩
theorem nf_int {n : Int} : flatD (.int n) = true := Bool.eq_iff_iff.mpr ⟨fun _ => rfl, fun _ => rfl⟩
theorem nf_bl {c : Bool} : flatD (.bl c) = true := Bool.eq_iff_iff.mpr ⟨fun _ => rfl, fun _ => rfl⟩
theorem nf_str {z : Str} : flatD (.str z) = true := Bool.eq_iff_iff.mpr ⟨fun _ => rfl, fun _ => rfl⟩
theorem nf_tup {ds : List D} : flatD (.tup ds) = flatDs ds := Bool.eq_iff_iff.mpr Iff.rfl
theorem nf_ro {ds : List D} : flatD (.ro ds) = flatDs ds := Bool.eq_iff_iff.mpr Iff.rfl
theorem nf_nil : flatDs [] = true := Bool.eq_iff_iff.mpr ⟨fun _ => rfl, fun _ => rfl⟩
theorem nf_cons {d : D} {ds : List D} : flatDs (d :: ds) = (flatD d && flatDs ds) := Bool.eq_iff_iff.mpr Iff.rfl
theorem nf_T (t : Tri) : flatD (dT t) = true := Bool.eq_iff_iff.mpr ⟨fun _ => rfl, fun _ => rfl⟩
theorem pre_split {l m : Sto} (hp : l <+: m) : S ++ m = S ++ l ++ m.drop l.length := by
  obtain ⟨r, rfl⟩ := hp
  simp
theorem tidy_app {d : D} {l m : Sto} (h : flatD d = true) (hp : l <+: m) : tidyR (S ++ l) (.ok d (S ++ m)) = .ok d (S ++ l) := tidy_flat (G := m.drop l.length) (by rw [pre_split hp]) h
theorem tidy_appL {l m : Sto} {k : Nat} (hp : l <+: m) (hk : l.length ≤ k) : tidyR (S ++ l) (.ok (.ref (S.length + k)) (S ++ m)) = match lstO m[k]? with
    | some ds => if flatDs ds = true then .ok (.ref (S.length + l.length)) (S ++ (l ++ [.lst ds])) else .ok (.ref (S.length + k)) (S ++ m)
    | none => .ok (.ref (S.length + k)) (S ++ m) := by
  have e1 : (S ++ m).take (S ++ l).length = S ++ l := by
    obtain ⟨r, rfl⟩ := hp
    rw [← List.append_assoc, List.take_left']; rfl
  have e2 : (S ++ m)[S.length + k]? = m[k]? := by rw [List.getElem?_append_right (by omega)]; simp
  unfold tidyR
  dsimp only
  rw [if_pos e1, if_neg (by simp [flatD]), if_pos (by simp; omega), e2]
  cases h : m[k]? with
  | none => rfl
  | some o => cases o <;> first | rfl | (simp [lstO])
theorem tidyB_app {c : Bool} {l m : Sto} (hp : l <+: m) : tidyB (S ++ l) (.ok c (S ++ m)) = .ok c (S ++ l) := tidyB_eq (G := m.drop l.length) (by rw [pre_split hp])
theorem tidyB_ok {c : Bool} {G : Sto} : tidyB S (.ok c (S ++ G)) = .ok c S := tidyB_eq (G := G) rfl
theorem tidyB_ok0 {c : Bool} : tidyB S (.ok c S) = .ok c S := tidyB_eq (G := []) (by simp)
theorem tidy_ok0 {d : D} (h : flatD d = true) : tidyR S (.ok d S) = .ok d S := tidy_flat (G := []) (by simp) h
end
end Y

set_option Elab.async false
set_option linter.all false
set_option maxRecDepth 100000
set_option maxHeartbeats 2000000
/-! YShow: repr of plain data, texts compared. -/
namespace Y
open PySem L2
mutual
/-- no longer than this is it shown -/
def wtP : PyData → Nat
  | .none => 4
  | .bool _ => 5
  | .int i => i.natAbs.log2 + 3
  | .str x => (reprText x).length
  | .list xs => wtPs xs + 2
  | .tuple xs => wtPs xs + 3
  | .dict _ => 0
def wtPs : List PyData → Nat
  | [] => 0
  | x :: xs => wtP x + 2 + wtPs xs
end
mutual
def goodP : PyData → Bool
  | .none => true
  | .bool _ => true
  | .int i => decide (i.natAbs.log2 < 1920)
  | .str x => PyData.strOk x && PyData.strOk (reprText x)
  | .list xs => goodPs xs
  | .tuple xs => goodPs xs
  | .dict _ => false
def goodPs : List PyData → Bool
  | [] => true
  | x :: xs => goodP x && goodPs xs
end
theorem strOk_app (a b : Str) : PyData.strOk (a ++ b) = (PyData.strOk a && PyData.strOk b) := by
  show Array.all (a.cps ++ b.cps) _ = _
  unfold PyData.strOk
  simp
theorem strOk_ofString (s : String) : PyData.strOk (Str.ofString s) = true := by
  rw [Str.ofString_eq_toList]
  unfold PyData.strOk
  simp only [List.all_toArray, List.all_eq_true, List.mem_map, decide_eq_true_eq]
  rintro _ ⟨c, _, rfl⟩
  rcases c.valid with h | h
  · have : c.toNat < 0xd800 := h
    omega
  · exact h.2
theorem len_int (i : Int) : (Str.ofString (toString i)).length ≤ i.natAbs.log2 + 3 := by
  have key : ∀ n : Nat, (Str.ofString (toString (n : Int))).length ≤ n.log2 + 1 := fun n => by
    refine PyProof.Rows.toString_length_le (by omega) (by omega) ?_
    have h1 : n < 2 ^ (n.log2 + 1) := Nat.lt_log2_self
    have h2 : 2 ^ (n.log2 + 1) ≤ 10 ^ (n.log2 + 1) := Nat.pow_le_pow_left (by decide) _
    have h3 : n < 10 ^ (n.log2 + 1) := by omega
    have h4 : ((10 : Int) ^ (n.log2 + 1)) = ((10 ^ (n.log2 + 1) : Nat) : Int) := by simp
    rw [h4]
    exact Int.ofNat_lt.mpr h3
  cases i with
  | ofNat n => have := key n; simp only [Int.natAbs_natCast, Int.ofNat_eq_natCast] at *; omega
  | negSucc n =>
    have h : (Str.ofString (toString (n + 1))).length ≤ (n + 1).log2 + 1 := key (n + 1)
    have e : Str.ofString (toString (Int.negSucc n)) = Str.ofString "-" ++ Str.ofString (toString (n + 1)) := by
      show Str.ofString ("-" ++ toString (n + 1)) = _
      rw [Str.ofString_eq_toList, Str.ofString_eq_toList, Str.ofString_eq_toList]
      show _ = Str.append _ _
      simp [Str.append]
    rw [e, strLen_append]
    have : (Str.ofString "-").length = 1 := by decide
    have e2 : (Int.negSucc n).natAbs = n + 1 := rfl
    rw [e2]
    omega
theorem join_wt : ∀ ts : List Str, (Str.join ", " ts).length ≤ piled ts
  | [] => by show (0 : Nat) ≤ _; omega
  | t :: ts => by have := join_length_add (t :: ts) (by simp); omega
theorem strOk_join : ∀ ts : List Str, (∀ t ∈ ts, PyData.strOk t = true) → PyData.strOk (Str.join ", " ts) = true := by
  intro ts h
  unfold PyData.strOk at h ⊢
  rw [← Array.all_toList, List.all_eq_true]
  intro c hc
  rcases (PyProof.Rows.mem_join ", " c ts).mp hc with ⟨t, ht, hc⟩ | ⟨_, hc⟩
  · have := h t ht
    rw [← Array.all_toList, List.all_eq_true] at this
    exact this c hc
  · have e : (((", " : String) : Str)).cps.toList = [44, 32] := by decide +kernel
    rw [e] at hc
    simp at hc ⊢
    omega
mutual
theorem shown_wt : ∀ p : PyData, goodP p = true → p.shown.length ≤ wtP p ∧ PyData.strOk p.shown = true
  | .none, _ => by rw [PyData.shown_none]; decide +kernel
  | .bool b, _ => by rw [PyData.shown_bool]; cases b <;> decide +kernel
  | .int i, _ => by rw [PyData.shown_int]; exact ⟨len_int i, strOk_ofString _⟩
  | .str x, h => by
    unfold goodP at h
    rw [Bool.and_eq_true] at h
    rw [PyData.shown_str]
    exact ⟨Nat.le_refl _, h.2⟩
  | .list xs, h => by
    obtain ⟨h1, h2⟩ := shown_wts xs h
    rw [PyData.shown_list]
    have := join_wt (PyData.shownAll xs)
    have e1 : (Str.ofString "[").length = 1 := by decide
    have e2 : (Str.ofString "]").length = 1 := by decide
    refine ⟨?_, ?_⟩
    · rw [strLen_append, strLen_append]; unfold wtP; omega
    · rw [strOk_app, strOk_app, strOk_join _ h2, strOk_ofString, strOk_ofString]; rfl
  | .tuple xs, h => by
    obtain ⟨h1, h2⟩ := shown_wts xs h
    rw [PyData.shown_tuple]
    have := join_wt (PyData.shownAll xs)
    have e1 : (Str.ofString "(").length = 1 := by decide
    refine ⟨?_, ?_⟩
    · rw [strLen_append, strLen_append]; unfold wtP
      have e2 : (Str.ofString (if (xs.length == 1) = true then ",)" else ")" : String)).length ≤ 2 := by split <;> decide
      omega
    · rw [strOk_app, strOk_app, strOk_join _ h2, strOk_ofString, strOk_ofString]; rfl
  | .dict _, h => by cases h
theorem shown_wts : ∀ xs : List PyData, goodPs xs = true → piled (PyData.shownAll xs) ≤ wtPs xs ∧ ∀ t ∈ PyData.shownAll xs, PyData.strOk t = true
  | [], _ => by rw [PyData.shownAll_nil]; exact ⟨Nat.le_refl _, fun _ h => by cases h⟩
  | x :: xs, h => by
    unfold goodPs at h
    rw [Bool.and_eq_true] at h
    have h1 := shown_wt x h.1
    have h2 := shown_wts xs h.2
    rw [PyData.shownAll_cons]
    refine ⟨?_, fun t ht => ?_⟩
    · rw [piled_cons]; unfold wtPs; omega
    · rcases List.mem_cons.mp ht with rfl | ht
      · exact h1.2
      · exact h2.2 t ht
end
mutual
theorem good_showable : ∀ p : PyData, goodP p = true → p.showable = true ∧ p.canLay0 = true
  | .none, _ => ⟨rfl, rfl⟩
  | .bool _, _ => ⟨rfl, rfl⟩
  | .int i, h => ⟨h, rfl⟩
  | .str x, h => by
    unfold goodP at h
    rw [Bool.and_eq_true] at h
    exact ⟨rfl, h.1⟩
  | .list xs, h => goods_showable xs h
  | .tuple xs, h => goods_showable xs h
  | .dict _, h => by cases h
theorem goods_showable : ∀ xs : List PyData, goodPs xs = true → PyData.showableAll xs = true ∧ PyData.canLayAll0 xs = true
  | [], _ => ⟨rfl, rfl⟩
  | x :: xs, h => by
    unfold goodPs at h
    rw [Bool.and_eq_true] at h
    have h1 := good_showable x h.1
    have h2 := goods_showable xs h.2
    unfold PyData.showableAll PyData.canLayAll0
    rw [h1.1, h1.2, h2.1, h2.2]; exact ⟨rfl, rfl⟩
end
theorem good_shaped {p : PyData} (h : goodP p = true) (hd : p.depth ≤ 64) : SeqAt.shaped p = true := by
  unfold SeqAt.shaped
  rw [(good_showable p h).2, decide_eq_true hd]; rfl
/-- REPR -/
theorem repr_ok {S : Sto} {x : D} {p : PyData} (h : pyN S x = some p) (hg : goodP p = true) (hd : p.depth ≤ 64) (hw : wtP p ≤ 16777216) : dRepr [x] S = .ok (.str p.shown) S := by
  simp only [dRepr, h]
  rw [if_pos]
  unfold shwOk
  rw [(good_showable p hg).1, good_shaped hg hd, decide_eq_true (by rw [sizeLine_eq]; have := (shown_wt p hg).1; omega)]; rfl
theorem shaped_str {a : Str} (h : PyData.strOk a = true) : SeqAt.shaped (.str a) = true := by
  unfold SeqAt.shaped PyData.canLay0 PyData.depth
  rw [h]; rfl
theorem dEq_str {S : Sto} {a b : Str} (ha : PyData.strOk a = true) (hb : PyData.strOk b = true) : dEq (.str a) (.str b) S = .ok (.bl (decide (a = b))) S := by
  unfold dEq dEqB
  simp only [pyN_flat (S := S) (d := .str a) rfl, pyN_flat (S := S) (d := .str b) rfl, toP, shaped_str ha, shaped_str hb, and_self, if_true, PyData.eqv]
  by_cases h : a = b <;> simp [h]
theorem dNe_str {S : Sto} {a b : Str} (ha : PyData.strOk a = true) (hb : PyData.strOk b = true) : dNe (.str a) (.str b) S = .ok (.bl (decide (a ≠ b))) S := by
  unfold dNe dEqB
  simp only [pyN_flat (S := S) (d := .str a) rfl, pyN_flat (S := S) (d := .str b) rfl, toP, shaped_str ha, shaped_str hb, and_self, if_true, PyData.eqv]
  by_cases h : a = b <;> simp [h]
end Y

set_option Elab.async false
set_option linter.all false
set_option maxRecDepth 100000
set_option maxHeartbeats 2000000
/-! YLaw: what laws ask: draws ahead of what was made, repr of nested lists, comprehensions over typed items. -/
namespace Y
open PySem L2
theorem BagAt.lt {S : Sto} {i c : Nat} (h : BagAt S i c) : i < S.length ∧ c < S.length := by
  obtain ⟨cs, b, m, h1, h2, _⟩ := h.ex
  exact ⟨lt_of h1, lt_of h2⟩
theorem BagAt.app {S l : Sto} {i c : Nat} (h : BagAt S i c) : BagAt (S ++ l) i c := by
  obtain ⟨cs, b, m, h1, h2, r⟩ := h.ex
  exact ⟨⟨cs, b, m, st_old h1, st_old h2, r⟩, h.ne⟩
theorem Held.app {S l S' : Sto} {i c : Nat} (hb : BagAt S i c) (h : Held i c (S ++ l) S') : ∃ S1, S' = S1 ++ l ∧ S1.length = S.length := by
  have lt := hb.lt
  refine ⟨S'.take S.length, ?_, ?_⟩
  · have e : l = S'.drop S.length := by
      refine List.ext_getElem? fun k => ?_
      rw [List.getElem?_drop, h.at_ (S.length + k) (by omega) (by omega), List.getElem?_append_right (by omega)]
      simp
    conv => rhs; rw [e]
    rw [List.take_append_drop]
  · have := h.len
    simp at this ⊢
    omega
theorem BagAt.front {S l : Sto} {i c : Nat} (hb : BagAt (S ++ l) i c) (hi : i < S.length) (hc : c < S.length) : BagAt S i c := by
  obtain ⟨cs, b, m, h1, h2, r⟩ := hb.ex
  rw [List.getElem?_append_left hi] at h1
  rw [List.getElem?_append_left hc] at h2
  exact ⟨⟨cs, b, m, h1, h2, r⟩, hb.ne⟩
/-- a draw, whatever was made behind S -/
theorem draw_app {S : Sto} {i c : Nat} (h : BagAt S i c) (l : Sto) {k : Int} (hk : 0 < k) (hk2 : k < 2 ^ 64) : ∃ n S', FDraw [.ref i, .int k] (S ++ l) = .ok (.int n) (S' ++ l) ∧ 0 ≤ n ∧ n < k ∧ BagAt S' i c ∧ S.length = S'.length := by
  obtain ⟨n, S', e, h0, h1, hb, hh⟩ := draw_ok (h.app (l := l)) hk hk2
  obtain ⟨S1, rfl, hl⟩ := hh.app h
  have lt := h.lt
  exact ⟨n, S1, e, h0, h1, hb.front (by omega) (by omega), hl.symm⟩
/-- a pick from a list behind S -/
theorem pick_app {S : Sto} {i c k : Nat} {ds : List D} (h : BagAt S i c) (l : Sto) (hx : l[k]? = some (.lst ds)) (h0 : ds ≠ []) (hl : ds.length < 2 ^ 63) (hf : flatDs ds = true) :
    ∃ d S', FPick [.ref i, .ref (S.length + k)] (S ++ l) = .ok d (S' ++ l) ∧ d ∈ ds ∧ BagAt S' i c ∧ S.length = S'.length := by
  have lt := h.lt
  obtain ⟨d, S', e, hd, hb, hh⟩ := pick_ok (x := .ref (S.length + k)) (h.app (l := l)) (.inl ⟨S.length + k, rfl, st_at.trans hx, by omega, by omega⟩) h0 hl hf
  obtain ⟨S1, rfl, hl⟩ := hh.app h
  exact ⟨d, S1, e, hd, hb.front (by omega) (by omega), hl.symm⟩
theorem pick_app0 {S : Sto} {i c : Nat} {ds : List D} (h : BagAt S i c) (l : Sto) (hx : l[0]? = some (.lst ds)) (h0 : ds ≠ []) (hl : ds.length < 2 ^ 63) (hf : flatDs ds = true) :
    ∃ d S', FPick [.ref i, .ref S.length] (S ++ l) = .ok d (S' ++ l) ∧ d ∈ ds ∧ BagAt S' i c ∧ S.length = S'.length := pick_app (k := 0) h l hx h0 hl hf
theorem draw_app0 {S : Sto} {i c : Nat} (h : BagAt S i c) {k : Int} (hk : 0 < k) (hk2 : k < 2 ^ 64) : ∃ n S', FDraw [.ref i, .int k] S = .ok (.int n) S' ∧ 0 ≤ n ∧ n < k ∧ BagAt S' i c ∧ S.length = S'.length := by
  obtain ⟨n, S', e, r⟩ := draw_app h [] hk hk2
  rw [List.append_nil, List.append_nil] at e
  exact ⟨n, S', e, r⟩
theorem pick_tup {S : Sto} {i c : Nat} {ds : List D} (h : BagAt S i c) (l : Sto) (h0 : ds ≠ []) (hl : ds.length < 2 ^ 63) (hf : flatDs ds = true) :
    ∃ d S', FPick [.ref i, .tup ds] (S ++ l) = .ok d (S' ++ l) ∧ d ∈ ds ∧ BagAt S' i c ∧ S.length = S'.length := by
  have lt := h.lt
  obtain ⟨d, S', e, hd, hb, hh⟩ := pick_ok (x := .tup ds) (h.app (l := l)) (.inr rfl) h0 hl hf
  obtain ⟨S1, rfl, hl⟩ := hh.app h
  exact ⟨d, S1, e, hd, hb.front (by omega) (by omega), hl.symm⟩
/-- a comprehension over typed items -/
theorem lcA {α : Type} {fi : FI} {own : List Nat} {g : FB} {t : FT} {e : FE} {ρ : Env} {S S1 : Sto} {ch : Chk} (xs : List α) (ea : α → D) (p : α → Bool) (m : α → D) (hi : fi ρ S = .ok (xs.map ea, ch) S1) (hch : ∀ G, chkOk ch (S1 ++ G) = true) (hlen : xs.length ≤ 100000)
    (h : ∀ a ∈ xs, ∃ ρ1, g (ea a) (wipeD ρ own) = some ρ1 ∧ ∀ G, t ρ1 (S1 ++ G) = .ok (p a) (S1 ++ G) ∧ (p a = true → e ρ1 (S1 ++ G) = .ok (m a) (S1 ++ G))) :
    fLc fi own g t e ρ S = .ok (.ref S1.length) (S1 ++ [.lst ((xs.filter p).map m)]) := by
  have key : ∀ (rest : List α) (acc : List D), (∀ d ∈ rest, d ∈ xs) → acc.length + rest.length ≤ 100000 → lcLoop S1.length ch g t e (wipeD ρ own) (rest.map ea) (S1 ++ [.lst acc]) = .ok (.ref S1.length) (S1 ++ [.lst (acc ++ (rest.filter p).map m)]) := by
    intro rest
    induction rest with
    | nil => intro acc _ _; unfold lcLoop; rw [List.map_nil]; dsimp only; rw [if_pos (hch _)]; simp
    | cons d rest ih =>
      intro acc hm hl
      obtain ⟨ρ1, e1, e2⟩ := h d (hm d List.mem_cons_self)
      obtain ⟨e3, e4⟩ := e2 [.lst acc]
      rw [List.map_cons]
      unfold lcLoop
      rw [if_pos (hch _), e1]
      dsimp only
      rw [e3]
      by_cases hp : p d = true
      · rw [hp]
        dsimp only
        rw [e4 hp]
        have e5 : (S1 ++ [O.lst acc])[S1.length]? = some (.lst acc) := by simp
        dsimp only
        rw [e5]
        dsimp only
        rw [if_pos (by rw [sizeLine_eq]; simp at hl; omega), show (S1 ++ [O.lst acc]).set S1.length (.lst (acc ++ [m d])) = S1 ++ [.lst (acc ++ [m d])] by simp]
        rw [ih (acc ++ [m d]) (fun x hx => hm x (List.mem_cons_of_mem _ hx)) (by simp at hl ⊢; omega)]
        simp [List.filter_cons, hp]
      · have hp' : p d = false := by simpa using hp
        rw [hp']
        dsimp only
        rw [ih acc (fun x hx => hm x (List.mem_cons_of_mem _ hx)) (by simp at hl ⊢; omega)]
        simp [List.filter_cons, hp']
  unfold fLc
  rw [hi, R.bind_ok]
  exact (key xs [] (fun _ hd => hd) (by simpa using hlen)).trans (by simp)
/-- good to be shown and compared: its depth, its weight -/
structure Gp (d w : Nat) (p : PyData) : Prop where
  gd : goodP p = true
  dp : p.depth ≤ d
  wt : wtP p ≤ w
structure Gps (d w : Nat) (ps : List PyData) : Prop where
  gd : goodPs ps = true
  dp : PyData.depthAll ps ≤ d
  wt : wtPs ps ≤ w
theorem Gps.nil {d w : Nat} : Gps d w [] := ⟨rfl, Nat.zero_le _, Nat.zero_le _⟩
theorem Gps.cons {d w w' : Nat} {p : PyData} {ps : List PyData} (h : Gp d w p) (hs : Gps d w' ps) : Gps d (w + 2 + w') (p :: ps) :=
  ⟨by unfold goodPs; rw [h.gd, hs.gd]; rfl, by unfold PyData.depthAll; have := h.dp; have := hs.dp; omega, by unfold wtPs; have := h.wt; have := hs.wt; omega⟩
theorem Gps.all {α : Type} {d w : Nat} {f : α → PyData} : ∀ {l : List α}, (∀ a ∈ l, Gp d w (f a)) → Gps d (l.length * (w + 2)) (l.map f)
  | [], _ => ⟨rfl, Nat.zero_le _, Nat.zero_le _⟩
  | a :: l, h => by
    have h1 := Gps.cons (h a List.mem_cons_self) (Gps.all fun b hb => h b (List.mem_cons_of_mem _ hb))
    rw [List.map_cons]
    exact ⟨h1.gd, h1.dp, Nat.le_trans h1.wt (by rw [List.length_cons, Nat.succ_mul]; omega)⟩
theorem Gp.list {d w : Nat} {ps : List PyData} (h : Gps d w ps) : Gp (d + 1) (w + 2) (.list ps) := ⟨h.gd, by unfold PyData.depth; have := h.dp; omega, by unfold wtP; have := h.wt; omega⟩
theorem Gp.tuple {d w : Nat} {ps : List PyData} (h : Gps d w ps) : Gp (d + 1) (w + 3) (.tuple ps) := ⟨h.gd, by unfold PyData.depth; have := h.dp; omega, by unfold wtP; have := h.wt; omega⟩
theorem Gp.int {d k : Nat} {n : Int} (h : n.natAbs < 2 ^ k) (hk : k ≤ 1900) : Gp d (k + 3) (.int n) := by
  have : n.natAbs.log2 ≤ k := by
    by_cases z : n.natAbs = 0
    · rw [z]; exact Nat.zero_le _
    · have := (Nat.log2_lt z).mpr h; omega
  exact ⟨decide_eq_true (by omega), by unfold PyData.depth; omega, by unfold wtP; omega⟩
theorem Gp.mono {d w d' w' : Nat} {p : PyData} (h : Gp d w p) (h1 : d ≤ d') (h2 : w ≤ w') : Gp d' w' p := ⟨h.gd, Nat.le_trans h.dp h1, Nat.le_trans h.wt h2⟩
theorem Gps.mono {d w d' w' : Nat} {p : List PyData} (h : Gps d w p) (h1 : d ≤ d') (h2 : w ≤ w') : Gps d' w' p := ⟨h.gd, Nat.le_trans h.dp h1, Nat.le_trans h.wt h2⟩
theorem Gp.shaped {d w : Nat} {p : PyData} (h : Gp d w p) (hd : d ≤ 64) : SeqAt.shaped p = true := good_shaped h.gd (Nat.le_trans h.dp hd)
theorem Gp.repr {d w : Nat} {p : PyData} (h : Gp d w p) {S : Sto} {x : D} (hx : pyN S x = some p) (hd : d ≤ 64) (hw : w ≤ 16777216) : dRepr [x] S = .ok (.str p.shown) S := repr_ok hx h.gd (Nat.le_trans h.dp hd) (Nat.le_trans h.wt hw)
theorem Gp.ok {d w : Nat} {p : PyData} (h : Gp d w p) : PyData.strOk p.shown = true := (shown_wt p h.gd).2
theorem toPs_map {α : Type} (f : α → D) : ∀ l : List α, toPs (l.map f) = l.map fun a => toP (f a)
  | [] => rfl
  | a :: l => by rw [List.map_cons, List.map_cons, toPs, toPs_map f l]
section
variable {S : Sto} {i j k : Nat} {ds es : List D} {x y : D}
/-- a list of lists -/
theorem pyN_two (e : S[i]? = some (.lst [.ref j, .ref k])) (e1 : S[j]? = some (.lst ds)) (e2 : S[k]? = some (.lst es)) (h1 : flatDs ds = true) (h2 : flatDs es = true) : pyN S (.ref i) = some (.list [.list (toPs ds), .list (toPs es)]) := by
  show pyR S 9 i = _
  have r1 : pyR S 8 j = some (.list (toPs ds)) := by unfold pyR; rw [e1]; show (pyDs (pyR S 7) ds).map _ = _; rw [pyDs_flat _ ds h1]; rfl
  have r2 : pyR S 8 k = some (.list (toPs es)) := by unfold pyR; rw [e2]; show (pyDs (pyR S 7) es).map _ = _; rw [pyDs_flat _ es h2]; rfl
  unfold pyR
  rw [e]
  show (pyDs (pyR S 8) [.ref j, .ref k]).map _ = _
  simp only [pyDs, pyD, r1, r2, Option.bind_some, Option.map_some]
theorem dEq_plain (hx : plainD x = true) (hy : plainD y = true) (sx : SeqAt.shaped (toP x) = true) (sy : SeqAt.shaped (toP y) = true) : dEq x y S = .ok (.bl (decide (x = y))) S := by
  have h := eqv_plain x y hx hy
  unfold dEq dEqB
  simp only [pyN_flat (S := S) (flat_plain x hx), pyN_flat (S := S) (flat_plain y hy), sx, sy, and_self, if_true]
  congr 2
  exact Bool.eq_iff_iff.mpr (by rw [decide_eq_true_eq]; simpa using h)
theorem dNe_plain (hx : plainD x = true) (hy : plainD y = true) (sx : SeqAt.shaped (toP x) = true) (sy : SeqAt.shaped (toP y) = true) : dNe x y S = .ok (.bl (decide (x ≠ y))) S := by
  have h := eqv_plain x y hx hy
  unfold dNe dEqB
  simp only [pyN_flat (S := S) (flat_plain x hx), pyN_flat (S := S) (flat_plain y hy), sx, sy, and_self, if_true]
  congr 2
  by_cases e : x = y
  · rw [h.mpr e]; simp [e]
  · have : PyData.eqv (toP x) (toP y) = false := by
      cases z : PyData.eqv (toP x) (toP y)
      · rfl
      · exact absurd (h.mp z) e
    rw [this]; simp [e]
theorem plains_map {α : Type} {f : α → D} (h : ∀ a, plainD (f a) = true) : ∀ l : List α, plainDs (l.map f) = true
  | [] => rfl
  | a :: l => by rw [List.map_cons]; unfold plainDs; rw [h a, plains_map h l]; rfl
theorem dNe_lsts (e1 : S[i]? = some (.lst ds)) (e2 : S[j]? = some (.lst es)) (hx : plainDs ds = true) (hy : plainDs es = true) (sx : SeqAt.shaped (.list (toPs ds)) = true) (sy : SeqAt.shaped (.list (toPs es)) = true) : dNe (.ref i) (.ref j) S = .ok (.bl (decide (ds ≠ es))) S := by
  have h := eqvs_plain ds es hx hy
  unfold dNe dEqB
  rw [pyN_lst e1 (flats_plain ds hx), pyN_lst e2 (flats_plain es hy)]
  simp only [sx, sy, and_self, if_true, PyData.eqv]
  congr 2
  by_cases e : ds = es
  · rw [h.mpr e]; simp [e]
  · have : PyData.eqvAll (toPs ds) (toPs es) = false := by
      cases z : PyData.eqvAll (toPs ds) (toPs es)
      · rfl
      · exact absurd (h.mp z) e
    rw [this]; simp [e]
theorem blsD_mapA {α : Type} (f : α → Bool) : ∀ l : List α, blsD (l.map fun a => .bl (f a)) = some (l.map f)
  | [] => rfl
  | a :: l => by rw [List.map_cons, blsD, blsD_mapA f l]; rfl
theorem dAny_map {α : Type} {f : α → Bool} {l : List α} (h : S[i]? = some (.lst (l.map fun a => .bl (f a)))) : dAny [.ref i] S = .ok (.bl (l.any f)) S := by
  simp only [dAny, lstD, h, Option.bind_some, blsD_mapA, List.any_map, Function.id_comp]
theorem dAll_map {α : Type} {f : α → Bool} {l : List α} (h : S[i]? = some (.lst (l.map fun a => .bl (f a)))) : dAll [.ref i] S = .ok (.bl (l.all f)) S := by
  simp only [dAll, lstD, h, Option.bind_some, blsD_mapA, List.all_map, Function.id_comp]
end
end Y

set_option Elab.async false
set_option linter.all false
set_option maxRecDepth 1000000
/-! M59: the triples x*x + y*y + z*z = 3*x*y*z up to 10^12. -/
namespace Y.k59
abbrev Tr := Int × Int × Int
def Ls : List Tr := [(1, 1, 1), (1, 1, 2), (1, 2, 5), (1, 5, 13), (1, 13, 34), (1, 34, 89), (1, 89, 233), (1, 233, 610), (1, 610, 1597), (1, 1597, 4181), (1, 4181, 10946), (1, 10946, 28657), (1, 28657, 75025), (1, 75025, 196418), (1, 196418, 514229), (1, 514229, 1346269), (1, 1346269, 3524578), (1, 3524578, 9227465), (1, 9227465, 24157817), (1, 24157817, 63245986), (1, 63245986, 165580141), (1, 165580141, 433494437), (1, 433494437, 1134903170), (1, 1134903170, 2971215073), (1, 2971215073, 7778742049), (1, 7778742049, 20365011074), (1, 20365011074, 53316291173), (1, 53316291173, 139583862445), (1, 139583862445, 365435296162), (1, 365435296162, 956722026041), (2, 5, 29), (2, 29, 169), (2, 169, 985), (2, 985, 5741), (2, 5741, 33461), (2, 33461, 195025), (2, 195025, 1136689), (2, 1136689, 6625109), (2, 6625109, 38613965), (2, 38613965, 225058681), (2, 225058681, 1311738121), (2, 1311738121, 7645370045), (2, 7645370045, 44560482149), (2, 44560482149, 259717522849), (5, 13, 194), (5, 29, 433), (5, 194, 2897), (5, 433, 6466), (5, 2897, 43261), (5, 6466, 96557), (5, 43261, 646018), (5, 96557, 1441889), (5, 646018, 9647009), (5, 1441889, 21531778), (5, 9647009, 144059117), (5, 21531778, 321534781), (5, 144059117, 2151239746), (5, 321534781, 4801489937), (5, 2151239746, 32124537073), (5, 4801489937, 71700814274), (5, 32124537073, 479716816349), (13, 34, 1325), (13, 194, 7561), (13, 1325, 51641), (13, 7561, 294685), (13, 51641, 2012674), (13, 294685, 11485154), (13, 2012674, 78442645), (13, 11485154, 447626321), (13, 78442645, 3057250481), (13, 447626321, 17445941365), (13, 3057250481, 119154326114), (13, 17445941365, 679944086914), (29, 169, 14701), (29, 433, 37666), (29, 14701, 1278818), (29, 37666, 3276509), (29, 1278818, 111242465), (29, 3276509, 285018617), (29, 111242465, 9676815637), (29, 285018617, 24793343170), (29, 9676815637, 841771717954), (34, 89, 9077), (34, 1325, 135137), (34, 9077, 925765), (34, 135137, 13782649), (34, 925765, 94418953), (34, 13782649, 1405695061), (34, 94418953, 9629807441), (34, 1405695061, 143367113573), (34, 9629807441, 982145940029), (89, 233, 62210), (89, 9077, 2423525), (89, 62210, 16609837), (89, 2423525, 647072098), (89, 16609837, 4434764269), (89, 647072098, 172765826641), (169, 985, 499393), (169, 14701, 7453378), (169, 499393, 253191266), (169, 7453378, 3778847945), (169, 253191266, 128367472469), (194, 2897, 1686049), (194, 7561, 4400489), (194, 1686049, 981277621), (194, 4400489, 2561077037), (194, 981277621, 571101889373), (233, 610, 426389), (233, 62210, 43484701), (233, 426389, 298045301), (233, 43484701, 30395743789), (233, 298045301, 208333239010), (433, 6466, 8399329), (433, 37666, 48928105), (433, 8399329, 10910721905), (433, 48928105, 63557570729), (610, 1597, 2922509), (610, 426389, 780291637), (610, 2922509, 5348189873), (985, 5741, 16964653), (985, 499393, 1475706146), (985, 16964653, 50130543874), (1325, 51641, 205272962), (1325, 135137, 537169541), (1325, 205272962, 815959972309), (1597, 4181, 20031170), (1597, 2922509, 14001740009), (1597, 20031170, 95969331289), (2897, 43261, 375981346), (2897, 1686049, 14653451665), (4181, 10946, 137295677), (4181, 20031170, 251250963713), (5741, 33461, 576298801), (5741, 16964653, 292182217634), (6466, 96557, 1873012681), (6466, 8399329, 162930183509), (7561, 294685, 6684339842), (7561, 4400489, 99816291793), (9077, 925765, 25209506681), (9077, 2423525, 65995009186), (10946, 28657, 941038565), (14701, 1278818, 56399710225), (14701, 7453378, 328716329765), (28657, 75025, 6449974274), (33461, 195025, 19577194573), (37666, 3276509, 370238963953), (43261, 646018, 83842154089), (51641, 2012674, 311809494089), (75025, 196418, 44208781349), (96557, 1441889, 417673428514), (195025, 1136689, 665048316673), (196418, 514229, 303011495165)]
/-- three in order -/
def ord3 (a b c : Int) : Tr := if a ≤ b then (if b ≤ c then (a, b, c) else if a ≤ c then (a, c, b) else (c, a, b)) else (if a ≤ c then (b, a, c) else if b ≤ c then (b, c, a) else (c, b, a))
def mv0 (t : Tr) : Tr := ord3 (3 * t.2.2 * t.2.1 - t.1) t.2.1 t.2.2
def mv1 (t : Tr) : Tr := ord3 t.1 (3 * t.1 * t.2.2 - t.2.1) t.2.2
def inL (t : Tr) : Bool := Ls.any fun u => u.1 == t.1 && u.2.1 == t.2.1 && u.2.2 == t.2.2
theorem Ls_closed : (Ls.all fun t => (decide (1000000000000 < (mv0 t).2.2) || inL (mv0 t)) && (decide (1000000000000 < (mv1 t).2.2) || inL (mv1 t))) = true := by decide +kernel
theorem Ls_up : (Ls.all fun t => (t == ((1, 1, 1) : Tr)) || Ls.any fun u => decide (u.2.2 < t.2.2) && (mv0 u == t || mv1 u == t)) = true := by decide +kernel
theorem Ls_ok : (Ls.all fun t => decide (1 ≤ t.1) && decide (t.1 ≤ t.2.1) && decide (t.2.1 ≤ t.2.2) && decide (t.2.2 ≤ 1000000000000) && decide (Int.gcd t.1 t.2.1 = 1) && decide (Int.gcd t.1 t.2.2 = 1) && decide (Int.gcd t.2.1 t.2.2 = 1) && decide (t.1 % 4 ≠ 0) && decide (t.2.1 % 4 ≠ 0) && decide (t.2.2 % 4 ≠ 0)) = true := by decide +kernel
end Y.k59

set_option Elab.async false
set_option linter.all false
/-! M59b: who is closed under the moves and holds the root holds all. -/
namespace Y.k59
theorem up {t : Tr} (h : t ∈ Ls) : t = (1, 1, 1) ∨ ∃ u ∈ Ls, u.2.2 < t.2.2 ∧ (mv0 u = t ∨ mv1 u = t) := by
  have := List.all_eq_true.mp Ls_up t h
  rcases Bool.or_eq_true_iff.mp this with e | e
  · exact .inl (by simpa using e)
  · obtain ⟨u, hu, e⟩ := List.any_eq_true.mp e
    rw [Bool.and_eq_true, decide_eq_true_eq, Bool.or_eq_true, beq_iff_eq, beq_iff_eq] at e
    exact .inr ⟨u, hu, e.1, e.2⟩
theorem ok_ {t : Tr} (h : t ∈ Ls) : 1 ≤ t.1 ∧ t.1 ≤ t.2.1 ∧ t.2.1 ≤ t.2.2 ∧ t.2.2 ≤ 1000000000000 := by
  have := List.all_eq_true.mp Ls_ok t h
  simp only [Bool.and_eq_true, decide_eq_true_eq] at this
  omega
theorem all_in {most : Int} {F : Tr → Prop} (root : 1 ≤ most → F (1, 1, 1)) (cl : ∀ t, F t → ((mv0 t).2.2 ≤ most → F (mv0 t)) ∧ ((mv1 t).2.2 ≤ most → F (mv1 t))) : ∀ (n : Nat) (t : Tr), t ∈ Ls → t.2.2.toNat = n → t.2.2 ≤ most → F t := by
  intro n
  induction n using Nat.strongRecOn with
  | ind n ih =>
    intro t ht hn hm
    have o := ok_ ht
    rcases up ht with rfl | ⟨u, hu, lt, e⟩
    · exact root (by omega)
    · have ou := ok_ hu
      have fu := ih u.2.2.toNat (by omega) u hu rfl (by omega)
      rcases e with e | e
      · rw [← e]; exact (cl u fu).1 (by rw [e]; exact hm)
      · rw [← e]; exact (cl u fu).2 (by rw [e]; exact hm)
theorem inL_mem {t : Tr} (h : inL t = true) : t ∈ Ls := by
  obtain ⟨u, hu, e⟩ := List.any_eq_true.mp h
  simp only [Bool.and_eq_true, beq_iff_eq] at e
  obtain ⟨⟨e1, e2⟩, e3⟩ := e
  have : u = t := Prod.ext e1 (Prod.ext e2 e3)
  rw [← this]; exact hu
theorem closed {t : Tr} (h : t ∈ Ls) : ((mv0 t).2.2 ≤ 1000000000000 → mv0 t ∈ Ls) ∧ ((mv1 t).2.2 ≤ 1000000000000 → mv1 t ∈ Ls) := by
  have := List.all_eq_true.mp Ls_closed t h
  simp only [Bool.and_eq_true, Bool.or_eq_true, decide_eq_true_eq] at this
  exact ⟨fun z => inL_mem (this.1.resolve_left (by omega)), fun z => inL_mem (this.2.resolve_left (by omega))⟩
end Y.k59

set_option Elab.async false
set_option linter.all false
set_option maxRecDepth 1000000
/-! M59c: growing by places, growing by a pile: both end with all of Ls within the bound. -/
namespace Y.k59
theorem Ls_nodup : Ls.Nodup := by decide +kernel
def add (m : Int) (t : Tr) (F : List Tr) : List Tr := if t.2.2 ≤ m ∧ t ∉ F then F ++ [t] else F
def grow (m : Int) (t : Tr) (F : List Tr) : List Tr := add m (mv1 t) (add m (mv0 t) F)
theorem add_sub {m : Int} {t : Tr} {F : List Tr} : ∀ u, u ∈ F → u ∈ add m t F := fun u h => by unfold add; split <;> simp [h]
theorem add_self {m : Int} {t : Tr} {F : List Tr} (h : t.2.2 ≤ m) : t ∈ add m t F := by
  unfold add; by_cases e : t ∈ F
  · rw [if_neg (fun z => z.2 e)]; exact e
  · rw [if_pos ⟨h, e⟩]; simp
structure Gd (m : Int) (F : List Tr) : Prop where
  inL : ∀ t ∈ F, t ∈ Ls
  le : ∀ t ∈ F, t.2.2 ≤ m
  nd : F.Nodup
theorem nd_len {α : Type} [DecidableEq α] : ∀ {xs ys : List α}, xs.Nodup → (∀ a ∈ xs, a ∈ ys) → xs.length ≤ ys.length
  | [], _, _, _ => Nat.zero_le _
  | x :: xs, ys, h, hs => by
    rw [List.nodup_cons] at h
    have := nd_len (xs := xs) (ys := ys.erase x) h.2 fun a ha => (List.mem_erase_of_ne fun (e : a = x) => h.1 (by rw [← e]; exact ha)).mpr (hs a (List.mem_cons_of_mem _ ha))
    have l := List.length_erase_of_mem (hs x List.mem_cons_self)
    have := List.length_pos_of_mem (hs x List.mem_cons_self)
    rw [List.length_cons]; omega
theorem Gd.len {m : Int} {F : List Tr} (h : Gd m F) : F.length ≤ 152 := by
  exact nd_len h.nd (fun t ht => h.inL t ht)
theorem Gd.add {m : Int} {F : List Tr} (h : Gd m F) {t : Tr} (ht : t.2.2 ≤ m → t ∈ Ls) : Gd m (add m t F) := by
  unfold k59.add
  by_cases e : t.2.2 ≤ m ∧ t ∉ F
  · rw [if_pos e]
    refine ⟨fun u hu => ?_, fun u hu => ?_, ?_⟩
    · rcases List.mem_append.mp hu with hu | hu
      · exact h.inL u hu
      · rw [List.mem_singleton.mp hu]; exact ht e.1
    · rcases List.mem_append.mp hu with hu | hu
      · exact h.le u hu
      · rw [List.mem_singleton.mp hu]; exact e.1
    · rw [List.nodup_append]
      refine ⟨h.nd, by simp, fun a ha b hb => ?_⟩
      rw [List.mem_singleton.mp hb]
      exact fun z => e.2 (z ▸ ha)
  · rw [if_neg e]; exact h
theorem Gd.grow {m : Int} (hm : m ≤ 1000000000000) {F : List Tr} (h : Gd m F) {t : Tr} (ht : t ∈ F) : Gd m (grow m t F) :=
  (h.add (fun z => (closed (h.inL t ht)).1 (by omega))).add (fun z => (closed (h.inL t ht)).2 (by omega))
theorem grow_pre {m : Int} {t : Tr} {F : List Tr} : F <+: grow m t F := by
  have p : ∀ u G, G <+: k59.add m u G := fun u G => by unfold k59.add; split <;> simp
  exact (p _ _).trans (p _ _)
/-- all within the bound -/
def Lm (m : Int) : List Tr := Ls.filter fun t => decide (t.2.2 ≤ m)
theorem mem_Lm {m : Int} {t : Tr} : t ∈ Lm m ↔ t ∈ Ls ∧ t.2.2 ≤ m := by simp [Lm]
theorem Lm_nodup {m : Int} : (Lm m).Nodup := Ls_nodup.filter _
theorem all_of {m : Int} {F : List Tr} (h : Gd m F) (root : 1 ≤ m → (1, 1, 1) ∈ F) (cl : ∀ t ∈ F, ((mv0 t).2.2 ≤ m → mv0 t ∈ F) ∧ ((mv1 t).2.2 ≤ m → mv1 t ∈ F)) (t : Tr) : t ∈ F ↔ t ∈ Lm m :=
  ⟨fun z => mem_Lm.mpr ⟨h.inL t z, h.le t z⟩, fun z => all_in (F := (· ∈ F)) root cl _ t (mem_Lm.mp z).1 rfl (mem_Lm.mp z).2⟩
theorem ord3_top (a b c : Int) : (ord3 a b c).2.2 = max a (max b c) := by
  unfold ord3
  by_cases h1 : a ≤ b <;> by_cases h2 : b ≤ c <;> by_cases h3 : a ≤ c <;> simp only [h1, h2, h3, if_true, if_false] <;> omega
theorem ord3_perm1 (a b c : Int) : ord3 a b c = ord3 b a c := by
  unfold ord3
  by_cases h1 : a ≤ b <;> by_cases h2 : b ≤ c <;> by_cases h3 : a ≤ c <;> by_cases h4 : b ≤ a <;> by_cases h5 : c ≤ b <;> by_cases h6 : c ≤ a <;> simp only [h1, h2, h3, h4, h5, h6, if_true, if_false, Prod.mk.injEq, and_self, true_and, and_true] <;> (try trivial) <;> omega
theorem ord3_perm2 (a b c : Int) : ord3 a b c = ord3 a c b := by
  unfold ord3
  by_cases h1 : a ≤ b <;> by_cases h2 : b ≤ c <;> by_cases h3 : a ≤ c <;> by_cases h4 : b ≤ a <;> by_cases h5 : c ≤ b <;> by_cases h6 : c ≤ a <;> simp only [h1, h2, h3, h4, h5, h6, if_true, if_false, Prod.mk.injEq, and_self, true_and, and_true] <;> (try trivial) <;> omega
def leTr (a b : Tr) : Bool := if a.1 = b.1 then (if a.2.1 = b.2.1 then decide (a.2.2 ≤ b.2.2) else decide (a.2.1 < b.2.1)) else decide (a.1 < b.1)
theorem Ls_sorted : Ls.Pairwise (fun a b => leTr a b = true) := by decide +kernel
theorem Lm_sorted {m : Int} : (Lm m).Pairwise (fun a b => leTr a b = true) := Ls_sorted.filter _
end Y.k59

set_option Elab.async false
set_option linter.all false
set_option maxRecDepth 100000
set_option maxHeartbeats 4000000
namespace Y.k59
open PySem L2 Y
def top (i : Nat) : Stmt := PySem.Challenge.pw_turnedtables_k59_whole_main_threes.main.body.getD i (.Pass ⟨0, 0, 0, 0⟩)
def tb_BEGUN : List (Key × D) := [(.inl 1, (.tup [(.int 3), (.int 3), (.int 3)])), (.inl 3, (.tup [(.int 1), (.int 1), (.int 1)]))]
/-- what the top says of names -/
structure Mg (P : Program) (w : World) (K : PySem.W.Frag) (mg : Str → Option Value) (base : Heap) : Prop where
  b_abs : mg "abs" = none
  b_any : mg "any" = none
  b_int : mg "int" = none
  b_len : mg "len" = none
  b_max : mg "max" = none
  b_min : mg "min" = none
  b_range : mg "range" = none
  b_repr : mg "repr" = none
  b_sorted : mg "sorted" = none
  b_str : mg "str" = none
  b_tuple : mg "tuple" = none
  g_LIMIT : GC K mg "LIMIT" (.int 10000000000000000000000000000000000000000000000000000000000000000)
  g_MAX_FIGURES : GC K mg "MAX_FIGURES" (.int 400)
  t_BEGUN : GD P w K mg "BEGUN" tb_BEGUN
section
variable {P : Program} {w : World} {K : PySem.W.Frag} {mg : Str → Option Value} {base : Heap}
abbrev s_is_long : Stmt := top 6
theorem sc_is_long : FnScope ["number", "figures"] (pars s_is_long) (defScope s_is_long) := ⟨rfl, rfl, rfl, by decide +kernel, rfl, by decide +kernel, by decide +kernel⟩
noncomputable def lt_is_long_1 : FT := (ftAnd (ftB (fBin (dOrd (fun i j => decide (j ≤ i)) (fun o => o != .lt)) (fVar 0) (fC (.int 10000000000000000000000000000000000000000000000000000000000000000)))) (ftB (fBin (dOrd (fun i j => decide (i ≤ j)) (fun o => o != .gt)) (fVar 1) (fC (.int 400)))))
noncomputable def lb_is_long_2 : FS := (sSeq (sAsg (fBin dFdiv (fVar 0) (fC (.int 10000000000000000000000000000000000000000000000000000000000000000))) (bName 0))
    (sAsg (fBin dAdd (fVar 1) (fC (.int 64))) (bName 1)))
noncomputable def lp_is_long_3 : FS := (sWhile lt_is_long_1 lb_is_long_2)
noncomputable def b_is_long : FS := (sSeq (sAsg (fC (.int 0)) (bName 1))
    (sSeq lp_is_long_3
    (sRet (fBin (dOrd (fun i j => decide (j < i)) (fun o => o == .gt)) (fBin dAdd (fVar 1) (fCall dLen (faCons (fCall dStr (faCons (fBin dMod (fVar 0) (fC (.int 10000000000000000000000000000000000000000000000000000000000000000))) faNil)) faNil))) (fC (.int 400))))))
noncomputable def F_is_long : FF := FF.tidy (runB b_is_long 2)
theorem d_is_long (hF : ∃ f fd, Fun K "is_long" "is_long" s_is_long f fd ∧ mg "is_long" = some (.ref f)) (M : Mg P w K mg base) : DF P w K mg base 1 "is_long" s_is_long F_is_long := by
  refine (DF.mk' (k := 0) hF sc_is_long fun f cdv A outer s H E hr => ?_).tidy
  have nd := sc_is_long.nd
  have tk := takes_of (X := cxOf (L2.CX P w) P w K mg base ["number", "figures"] "is_long" (defScope s_is_long) f cdv A outer s H E) rfl rfl rfl rfl
  have po := passes_of (X := cxOf (L2.CX P w) P w K mg base ["number", "figures"] "is_long" (defScope s_is_long) f cdv A outer s H E) rfl
  exact (dss_cons (ds_set 1 nd de_int)
    (dss_cons (ds_while po (DW.dt (dw_and (dt_cmpD (cd_geG hr.u) (de_var 0) (de_glob (by exact rfl) M.g_LIMIT)) (dw_and1 (dt_cmpD (cd_leG hr.u) (de_var 1) (de_glob (by exact rfl) M.g_MAX_FIGURES))))) (dss_cons (ds_set 0 nd (de_fdiv (de_var 0) (de_glob (by exact rfl) M.g_LIMIT)))
    (dss_one (ds_set 1 nd (de_add (de_var 1) de_int)))))
    (dss_one (ds_ret (de_cmpD (cd_gtG hr.u) (de_add (de_var 1) (de_callB call_lenA cd_len rfl M.b_len PyProof.Rows.Boot.«len» (da_cons (de_callTy call_str_int cd_str rfl M.b_str PyProof.Rows.Boot.«str» (da_cons (de_mod (de_var 0) (de_glob (by exact rfl) M.g_LIMIT)) da_nil)) da_nil))) (de_glob (by exact rfl) M.g_MAX_FIGURES))))))
abbrev s_with_number : Stmt := top 9
theorem sc_with_number : FnScope ["triple", "place", "number"] (pars s_with_number) (defScope s_with_number) := ⟨rfl, rfl, rfl, by decide +kernel, rfl, by decide +kernel, by decide +kernel⟩
noncomputable def b_with_number : FS := (sSeq (sIf (ftTru (fCall F_is_long (faCons (fVar 2) faNil))) sNever sNx)
    (sRet (fBin dAdd (fBin dAdd (fSl (fVar 0) foNone (foSome (fVar 1))) (fTup (faCons (fVar 2) faNil))) (fSl (fVar 0) (foSome (fBin dAdd (fVar 1) (fC (.int 1)))) foNone))))
noncomputable def F_with_number : FF := FF.tidy (runB b_with_number 3)
theorem d_with_number (hF : ∃ f fd, Fun K "with_number" "with_number" s_with_number f fd ∧ mg "with_number" = some (.ref f)) (M : Mg P w K mg base) (c_is_long : DF P w K mg base 1 "is_long" s_is_long F_is_long) : DF P w K mg base 2 "with_number" s_with_number F_with_number := by
  refine (DF.mk' (k := 1) hF sc_with_number fun f cdv A outer s H E hr => ?_).tidy
  have nd := sc_with_number.nd
  have tk := takes_of (X := cxOf (L2.CX P w) P w K mg base ["triple", "place", "number"] "with_number" (defScope s_with_number) f cdv A outer s H E) rfl rfl rfl rfl
  exact (dss_cons (ds_if (dt_tru (de_call (c_is_long.mono (by decide)) hr tk rfl (da_cons (de_var 2) da_nil) (fun _ _ _ _ _ _ => bndS fun _ => bnd0 rfl) (hls := (al_cons al_nil)))) (dss_one ds_never) dss_nil)
    (dss_one (ds_ret (de_add (de_add (de_slice (de_var 0) do_none (do_some (de_var 1))) (de_tup (da_cons (de_var 2) da_nil))) (de_slice (de_var 0) (do_some (de_add (de_var 1) de_int)) do_none)))))
abbrev s_three_turned : Stmt := top 10
theorem sc_three_turned : FnScope ["a", "triple", "place"] (pars s_three_turned) (defScope s_three_turned) := ⟨rfl, rfl, rfl, by decide +kernel, rfl, by decide +kernel, by decide +kernel⟩
noncomputable def b_three_turned : FS := (sRet (fCall F_with_number (faCons (fVar 1) (faCons (fVar 2) (faCons (fBin dSub (fBin dMul (fBin dMul (fVar 0) (fBin dIx (fVar 1) (fBin dSub (fVar 2) (fC (.int 1))))) (fBin dIx (fVar 1) (fBin dSub (fVar 2) (fC (.int 2))))) (fBin dIx (fVar 1) (fVar 2))) faNil)))))
noncomputable def F_three_turned : FF := FF.tidy (runB b_three_turned 3)
theorem d_three_turned (hF : ∃ f fd, Fun K "three_turned" "three_turned" s_three_turned f fd ∧ mg "three_turned" = some (.ref f)) (M : Mg P w K mg base) (c_with_number : DF P w K mg base 2 "with_number" s_with_number F_with_number) : DF P w K mg base 3 "three_turned" s_three_turned F_three_turned := by
  refine (DF.mk' (k := 2) hF sc_three_turned fun f cdv A outer s H E hr => ?_).tidy
  have nd := sc_three_turned.nd
  have tk := takes_of (X := cxOf (L2.CX P w) P w K mg base ["a", "triple", "place"] "three_turned" (defScope s_three_turned) f cdv A outer s H E) rfl rfl rfl rfl
  exact (dss_one (ds_ret (de_call (c_with_number.mono (by decide)) hr tk rfl (da_cons (de_var 1) (da_cons (de_var 2) (da_cons (de_sub (de_mul (de_mul (de_var 0) (de_ix (de_var 1) (de_sub (de_var 2) de_int))) (de_ix (de_var 1) (de_sub (de_var 2) de_int))) (de_ix (de_var 1) (de_var 2))) da_nil))) (fun _ _ _ _ _ _ => bndS fun _ => bndS fun _ => bndS fun _ => bnd0 rfl) (hls := (al_cons (al_cons (al_cons al_nil)))))))
abbrev s_threes_to : Stmt := top 11
theorem sc_threes_to : FnScope ["a", "most", "begun", "found", "known", "spot", "place", "own", "further"] (pars s_threes_to) (defScope s_threes_to) := ⟨rfl, rfl, rfl, by decide +kernel, rfl, by decide +kernel, by decide +kernel⟩
noncomputable def ld_threes_to_1 : FE := (fDc true (fiSeq (fVar 3)) [7] (bName 7) ftYes (fVar 7) (fC (.bl true)))
noncomputable def lb_threes_to_2 : FS := (sSeq (sAsg (fTidy (fCall dTuple (faCons (fCall (ffOr dSorted dSortedK) (faCons (fCall F_three_turned (faCons (fVar 0) (faCons (fBin dIx (fVar 3) (fVar 5)) (faCons (fVar 6) faNil)))) faNil)) faNil))) (bName 8))
    (sIf (ftAnd (ftB (fBin (dOrd (fun i j => decide (i ≤ j)) (fun o => o != .gt)) (fBin dIx (fVar 8) (fC (.int 2))) (fVar 1))) (ftB (fBin (oOr (dInL true) (dIn true)) (fVar 8) (fVar 4)))) (sSeq (sSetG (fC (.bl true)) (fVar 4) (fVar 8))
    (sExpr (fML mAppend (fVar 3) (faCons (fVar 8) faNil)))) sNx))
noncomputable def lp_threes_to_3 : FS := (sFor (fiSeq (fTup (faCons (fC (.int 0)) (faCons (fC (.int 1)) faNil)))) (bName 6) lb_threes_to_2)
noncomputable def lt_threes_to_4 : FT := (ftB (fBin (dOrd (fun i j => decide (i < j)) (fun o => o == .lt)) (fVar 5) (fCall dLen (faCons (fVar 3) faNil))))
noncomputable def lb_threes_to_5 : FS := (sSeq lp_threes_to_3
    (sAsg (fBin dAdd (fVar 5) (fC (.int 1))) (bName 5)))
noncomputable def lp_threes_to_6 : FS := (sWhile lt_threes_to_4 lb_threes_to_5)
noncomputable def b_threes_to : FS := (sSeq (sAsg (fGet2 (fgT tb_BEGUN) (fVar 0) (fC .non)) (bName 2))
    (sSeq (sAsg (fIf (ftAnd (ftB (fBin dIsNot (fVar 2) (fC .non))) (ftB (fBin (dOrd (fun i j => decide (i ≤ j)) (fun o => o != .gt)) (fBin dIx (fVar 2) (fC (.int 2))) (fVar 1)))) (fLst (faCons (fVar 2) faNil)) (fLst faNil)) (bName 3))
    (sSeq (sAsg ld_threes_to_1 (bName 4))
    (sSeq (sAsg (fC (.int 0)) (bName 5))
    (sSeq lp_threes_to_6
    (sRet (fTidy (fCall dTuple (faCons (fCall (ffOr dSorted dSortedK) (faCons (fVar 3) faNil)) faNil)))))))))
noncomputable def F_threes_to : FF := FF.tidy (runB b_threes_to 9)
theorem d_threes_to (hF : ∃ f fd, Fun K "threes_to" "threes_to" s_threes_to f fd ∧ mg "threes_to" = some (.ref f)) (M : Mg P w K mg base) (c_three_turned : DF P w K mg base 3 "three_turned" s_three_turned F_three_turned) : DF P w K mg base 4 "threes_to" s_threes_to F_threes_to := by
  refine (DF.mk' (k := 3) hF sc_threes_to fun f cdv A outer s H E hr => ?_).tidy
  have nd := sc_threes_to.nd
  have tk := takes_of (X := cxOf (L2.CX P w) P w K mg base ["a", "most", "begun", "found", "known", "spot", "place", "own", "further"] "threes_to" (defScope s_threes_to) f cdv A outer s H E) rfl rfl rfl rfl
  have po := passes_of (X := cxOf (L2.CX P w) P w K mg base ["a", "most", "begun", "found", "known", "spot", "place", "own", "further"] "threes_to" (defScope s_threes_to) f cdv A outer s H E) rfl
  exact (dss_cons (ds_set 2 nd (de_get2 hr.u (dg_top rfl M.t_BEGUN) (de_var 0) de_non))
    (dss_cons (ds_set 3 nd (de_if (DW.dt (dw_and (dt_cmpD cd_isNot (de_var 2) de_non) (dw_and1 (dt_cmpD (cd_leG hr.u) (de_ix (de_var 2) de_int) (de_var 1))))) (de_lst (da_cons (de_var 2) da_nil)) (de_lst da_nil)))
    (dss_cons (ds_setDc true 4 [("own", 7)] hr.u rfl nd (di_seq (de_var 3)) (blk_of (by kernel_rfl)) (fun _ _ _ _ _ => (db_name 7 nd)) (fun _ _ _ _ _ => dts_nil) (fun _ _ _ _ _ => (de_var 7)) (fun _ _ _ _ _ => de_bl))
    (dss_cons (ds_set 5 nd de_int)
    (dss_cons (ds_while po (dt_cmpD (cd_ltG hr.u) (de_var 5) (de_callB call_lenA cd_len rfl M.b_len PyProof.Rows.Boot.«len» (da_cons (de_var 3) da_nil))) (dss_cons (ds_for po rfl (di_seq (de_tup (da_cons de_int (da_cons de_int da_nil)))) (db_name 6 nd) (dss_cons (ds_set 8 nd (DE.tidy (de_callTy call_tuple_of cd_tuple rfl M.b_tuple PyProof.Rows.Boot.«tuple» (da_cons (de_callB (CallR.or2 (cr_sortD hr.u66) (cr_sortK rfl hr.u66)) (CallD.or2 cd_sorted cd_sortK) rfl M.b_sorted PyProof.Rows.Boot.«sorted» (da_cons (de_call (c_three_turned.mono (by decide)) hr tk rfl (da_cons (de_var 0) (da_cons (de_ix (de_var 3) (de_var 5)) (da_cons (de_var 6) da_nil))) (fun _ _ _ _ _ _ => bndS fun _ => bndS fun _ => bndS fun _ => bnd0 rfl) (hls := (al_cons (al_cons (al_cons al_nil))))) da_nil)) da_nil))))
    (dss_one (ds_if (DW.dt (dw_and (dt_cmpD (cd_leG hr.u) (de_ix (de_var 8) de_int) (de_var 1)) (dw_and1 (dt_cmpD (cd_notIn hr.u65) (de_var 8) (de_var 4))))) (dss_cons (ds_setG hr.u de_bl (de_var 4) (de_var 8))
    (dss_one (ds_expr (de_ml PySem.F.slot_list_append PySem.F.type_list_append mt_append md_append (de_var 3) (da_cons (de_var 8) da_nil))))) dss_nil))))
    (dss_one (ds_set 5 nd (de_add (de_var 5) de_int)))))
    (dss_one (ds_ret (DE.tidy (de_callTy call_tuple_of cd_tuple rfl M.b_tuple PyProof.Rows.Boot.«tuple» (da_cons (de_callB (CallR.or2 (cr_sortD hr.u66) (cr_sortK rfl hr.u66)) (CallD.or2 cd_sorted cd_sortK) rfl M.b_sorted PyProof.Rows.Boot.«sorted» (da_cons (de_var 3) da_nil)) da_nil))))))))))
abbrev s_three_numbers : Stmt := top 12
theorem sc_three_numbers : FnScope ["a", "most", "found", "triple", "number"] (pars s_three_numbers) (defScope s_three_numbers) := ⟨rfl, rfl, rfl, by decide +kernel, rfl, by decide +kernel, by decide +kernel⟩
noncomputable def lb_three_numbers_1 : FS := (sSetG (fC (.bl true)) (fVar 2) (fVar 4))
noncomputable def lp_three_numbers_2 : FS := (sFor (fiSeq (fVar 3)) (bName 4) lb_three_numbers_1)
noncomputable def lb_three_numbers_3 : FS := lp_three_numbers_2
noncomputable def lp_three_numbers_4 : FS := (sFor (fiSeq (fCall F_threes_to (faCons (fVar 0) (faCons (fVar 1) faNil)))) (bName 3) lb_three_numbers_3)
noncomputable def b_three_numbers : FS := (sSeq (sAsg fNewK (bName 2))
    (sSeq lp_three_numbers_4
    (sRet (fTidy (fCall dTuple (faCons (fCall (ffOr dSorted dSortedK) (faCons (fVar 2) faNil)) faNil))))))
noncomputable def F_three_numbers : FF := FF.tidy (runB b_three_numbers 5)
theorem d_three_numbers (hF : ∃ f fd, Fun K "three_numbers" "three_numbers" s_three_numbers f fd ∧ mg "three_numbers" = some (.ref f)) (M : Mg P w K mg base) (c_threes_to : DF P w K mg base 4 "threes_to" s_threes_to F_threes_to) : DF P w K mg base 5 "three_numbers" s_three_numbers F_three_numbers := by
  refine (DF.mk' (k := 4) hF sc_three_numbers fun f cdv A outer s H E hr => ?_).tidy
  have nd := sc_three_numbers.nd
  have tk := takes_of (X := cxOf (L2.CX P w) P w K mg base ["a", "most", "found", "triple", "number"] "three_numbers" (defScope s_three_numbers) f cdv A outer s H E) rfl rfl rfl rfl
  have po := passes_of (X := cxOf (L2.CX P w) P w K mg base ["a", "most", "found", "triple", "number"] "three_numbers" (defScope s_three_numbers) f cdv A outer s H E) rfl
  exact (dss_cons (ds_set 2 nd de_newK)
    (dss_cons (ds_for po rfl (di_seq (de_call (c_threes_to.mono (by decide)) hr tk rfl (da_cons (de_var 0) (da_cons (de_var 1) da_nil)) (fun _ _ _ _ _ _ => bndS fun _ => bndS fun _ => bnd0 rfl) (hls := (al_cons (al_cons al_nil))))) (db_name 3 nd) (dss_one (ds_for po rfl (di_seq (de_var 3)) (db_name 4 nd) (dss_one (ds_setG hr.u de_bl (de_var 2) (de_var 4))))))
    (dss_one (ds_ret (DE.tidy (de_callTy call_tuple_of cd_tuple rfl M.b_tuple PyProof.Rows.Boot.«tuple» (da_cons (de_callB (CallR.or2 (cr_sortD hr.u66) (cr_sortK rfl hr.u66)) (CallD.or2 cd_sorted cd_sortK) rfl M.b_sorted PyProof.Rows.Boot.«sorted» (da_cons (de_var 2) da_nil)) da_nil)))))))
abbrev s__law_bag : Stmt := top 14
theorem sc__law_bag : FnScope ["script", "cells", "mixed", "cell"] (pars s__law_bag) (defScope s__law_bag) := ⟨rfl, rfl, rfl, by decide +kernel, rfl, by decide +kernel, by decide +kernel⟩
noncomputable def ct__law_bag_1 : FT := ftYes
noncomputable def ce__law_bag_2 : FE := (fCall dAbs (faCons (fVar 3) faNil))
noncomputable def lc__law_bag_3 : FE := (fLc (fiSeq (fSl (fVar 0) foNone (foSome (fC (.int 63))))) [3] (bName 3) ct__law_bag_1 ce__law_bag_2)
noncomputable def lb__law_bag_4 : FS := (sAsg (fBin dMod (fCall dInt (faCons (fBin dAdd (fBin dAdd (fBin dMul (fVar 2) (fC (.int 48271))) (fBin dMod (fCall dInt (faCons (fVar 3) faNil)) (fC (.int 2147483629)))) (fC (.int 5))) faNil)) (fC (.int 2147483647))) (bName 2))
noncomputable def lp__law_bag_5 : FS := (sFor (fiSeq (fVar 1)) (bName 3) lb__law_bag_4)
noncomputable def b__law_bag : FS := (sSeq (sAsg lc__law_bag_3 (bName 1))
    (sSeq (sAsg (fBin dAdd (fC (.int 17521)) (fCall dLen (faCons (fVar 1) faNil))) (bName 2))
    (sSeq lp__law_bag_5
    (sRet (fLst (faCons (fUn dRevL (fVar 1)) (faCons (fC (.int 0)) (faCons (fVar 2) faNil))))))))
noncomputable def F__law_bag : FF := FF.tidy (runB b__law_bag 4)
theorem d__law_bag (hF : ∃ f fd, Fun K "_law_bag" "_law_bag" s__law_bag f fd ∧ mg "_law_bag" = some (.ref f)) (M : Mg P w K mg base) : DF P w K mg base 1 "_law_bag" s__law_bag F__law_bag := by
  refine (DF.mk' (k := 0) hF sc__law_bag fun f cdv A outer s H E hr => ?_).tidy
  have nd := sc__law_bag.nd
  have tk := takes_of (X := cxOf (L2.CX P w) P w K mg base ["script", "cells", "mixed", "cell"] "_law_bag" (defScope s__law_bag) f cdv A outer s H E) rfl rfl rfl rfl
  have po := passes_of (X := cxOf (L2.CX P w) P w K mg base ["script", "cells", "mixed", "cell"] "_law_bag" (defScope s__law_bag) f cdv A outer s H E) rfl
  exact (dss_cons (ds_setLc 1 [("cell", 3)] rfl nd (di_seq (de_slice (de_var 0) do_none (do_some de_int))) (blk_of (by kernel_rfl)) (fun _ _ _ _ _ => (db_name 3 nd)) (fun _ _ _ _ _ => dts_nil) (fun _ _ _ _ _ => (de_callB call_abs cd_abs rfl M.b_abs PyProof.Rows.Boot.«abs» (da_cons (de_var 3) da_nil))))
    (dss_cons (ds_set 2 nd (de_add de_int (de_callB call_lenA cd_len rfl M.b_len PyProof.Rows.Boot.«len» (da_cons (de_var 1) da_nil))))
    (dss_cons (ds_for po rfl (di_seq (de_var 1)) (db_name 3 nd) (dss_one (ds_set 2 nd (de_mod (de_callTy call_intA cd_int rfl M.b_int PyProof.Rows.Boot.«int» (da_cons (de_add (de_add (de_mul (de_var 2) de_int) (de_mod (de_callTy call_intA cd_int rfl M.b_int PyProof.Rows.Boot.«int» (da_cons (de_var 3) da_nil)) de_int)) de_int) da_nil)) de_int))))
    (dss_one (ds_ret (de_lst (da_cons (de_revL (de_var 1)) (da_cons de_int (da_cons (de_var 2) da_nil)))))))))
abbrev s__law_draw : Stmt := top 15
theorem sc__law_draw : FnScope ["bag", "below", "cell", "found"] (pars s__law_draw) (defScope s__law_draw) := ⟨rfl, rfl, rfl, by decide +kernel, rfl, by decide +kernel, by decide +kernel⟩
noncomputable def lt__law_draw_1 : FT := (ftAnd (ftB (fBin dEq (fBin dIx (fVar 0) (fC (.int 1))) (fC (.int 0)))) (ftTidy (ftB (fBin dNe (fBin dIx (fVar 0) (fC (.int 0))) (fLst faNil)))))
noncomputable def lb__law_draw_2 : FS := (sSeq (sAsg (fML mPop (fBin dIx (fVar 0) (fC (.int 0))) faNil) (bName 2))
    (sSetG (fIf (ftB (fBin (dOrd (fun i j => decide (j < i)) (fun o => o == .gt)) (fVar 2) (fBin dPow (fC (.int 10)) (fC (.int 9))))) (fVar 2) (fC (.int 0))) (fVar 0) (fC (.int 1))))
noncomputable def lp__law_draw_3 : FS := (sWhile lt__law_draw_1 lb__law_draw_2)
noncomputable def b__law_draw : FS := (sSeq lp__law_draw_3
    (sSeq (sIf (ftB (fBin (dOrd (fun i j => decide (j < i)) (fun o => o == .gt)) (fBin dIx (fVar 0) (fC (.int 1))) (fC (.int 0)))) (sSeq (sAsg (fBin dMod (fCall dInt (faCons (fBin dIx (fVar 0) (fC (.int 1))) faNil)) (fVar 1)) (bName 3))
    (sSeq (sSetG (fBin dFdiv (fBin dIx (fVar 0) (fC (.int 1))) (fVar 1)) (fVar 0) (fC (.int 1)))
    (sRet (fVar 3)))) sNx)
    (sSeq (sSetG (fBin dMod (fCall dInt (faCons (fBin dAdd (fBin dMul (fBin dIx (fVar 0) (fC (.int 2))) (fC (.int 48271))) (fC (.int 13))) faNil)) (fC (.int 2147483647))) (fVar 0) (fC (.int 2)))
    (sRet (fBin dMod (fCall dInt (faCons (fBin dFdiv (fBin dMod (fCall dInt (faCons (fBin dMul (fBin dIx (fVar 0) (fC (.int 2))) (fBin dIx (fVar 0) (fC (.int 2)))) faNil)) (fC (.int 2147483629))) (fC (.int 7))) faNil)) (fVar 1))))))
noncomputable def F__law_draw : FF := FF.tidy (runB b__law_draw 4)
theorem d__law_draw (hF : ∃ f fd, Fun K "_law_draw" "_law_draw" s__law_draw f fd ∧ mg "_law_draw" = some (.ref f)) (M : Mg P w K mg base) : DF P w K mg base 1 "_law_draw" s__law_draw F__law_draw := by
  refine (DF.mk' (k := 0) hF sc__law_draw fun f cdv A outer s H E hr => ?_).tidy
  have nd := sc__law_draw.nd
  have tk := takes_of (X := cxOf (L2.CX P w) P w K mg base ["bag", "below", "cell", "found"] "_law_draw" (defScope s__law_draw) f cdv A outer s H E) rfl rfl rfl rfl
  have po := passes_of (X := cxOf (L2.CX P w) P w K mg base ["bag", "below", "cell", "found"] "_law_draw" (defScope s__law_draw) f cdv A outer s H E) rfl
  exact (dss_cons (ds_while po (DW.dt (dw_and (dt_cmpD (cd_eq hr.u) (de_ix (de_var 0) de_int) de_int) (dw_and1 (DT.tidy (dt_cmpD (cd_ne hr.u) (de_ix (de_var 0) de_int) (de_lst da_nil)))))) (dss_cons (ds_set 2 nd (de_ml0 PySem.F.slot_list_pop PySem.F.type_list_pop mt_popA md_pop (de_ix (de_var 0) de_int)))
    (dss_one (ds_setG hr.u (de_if (dt_cmpD (cd_gtG hr.u) (de_var 2) (de_pow de_int de_int)) (de_var 2) de_int) (de_var 0) de_int))))
    (dss_cons (ds_if (dt_cmpD (cd_gtG hr.u) (de_ix (de_var 0) de_int) de_int) (dss_cons (ds_set 3 nd (de_mod (de_callTy call_intA cd_int rfl M.b_int PyProof.Rows.Boot.«int» (da_cons (de_ix (de_var 0) de_int) da_nil)) (de_var 1)))
    (dss_cons (ds_setG hr.u (de_fdiv (de_ix (de_var 0) de_int) (de_var 1)) (de_var 0) de_int)
    (dss_one (ds_ret (de_var 3))))) dss_nil)
    (dss_cons (ds_setG hr.u (de_mod (de_callTy call_intA cd_int rfl M.b_int PyProof.Rows.Boot.«int» (da_cons (de_add (de_mul (de_ix (de_var 0) de_int) de_int) de_int) da_nil)) de_int) (de_var 0) de_int)
    (dss_one (ds_ret (de_mod (de_callTy call_intA cd_int rfl M.b_int PyProof.Rows.Boot.«int» (da_cons (de_fdiv (de_mod (de_callTy call_intA cd_int rfl M.b_int PyProof.Rows.Boot.«int» (da_cons (de_mul (de_ix (de_var 0) de_int) (de_ix (de_var 0) de_int)) da_nil)) de_int) de_int) da_nil)) (de_var 1)))))))
abbrev s__law_pick : Stmt := top 16
theorem sc__law_pick : FnScope ["bag", "some"] (pars s__law_pick) (defScope s__law_pick) := ⟨rfl, rfl, rfl, by decide +kernel, rfl, by decide +kernel, by decide +kernel⟩
noncomputable def b__law_pick : FS := (sRet (fBin dIx (fVar 1) (fCall F__law_draw (faCons (fVar 0) (faCons (fCall dLen (faCons (fVar 1) faNil)) faNil)))))
noncomputable def F__law_pick : FF := FF.tidy (runB b__law_pick 2)
theorem d__law_pick (hF : ∃ f fd, Fun K "_law_pick" "_law_pick" s__law_pick f fd ∧ mg "_law_pick" = some (.ref f)) (M : Mg P w K mg base) (c__law_draw : DF P w K mg base 1 "_law_draw" s__law_draw F__law_draw) : DF P w K mg base 2 "_law_pick" s__law_pick F__law_pick := by
  refine (DF.mk' (k := 1) hF sc__law_pick fun f cdv A outer s H E hr => ?_).tidy
  have nd := sc__law_pick.nd
  have tk := takes_of (X := cxOf (L2.CX P w) P w K mg base ["bag", "some"] "_law_pick" (defScope s__law_pick) f cdv A outer s H E) rfl rfl rfl rfl
  exact (dss_one (ds_ret (de_ix (de_var 1) (de_call (c__law_draw.mono (by decide)) hr tk rfl (da_cons (de_var 0) (da_cons (de_callB call_lenA cd_len rfl M.b_len PyProof.Rows.Boot.«len» (da_cons (de_var 1) da_nil)) da_nil)) (fun _ _ _ _ _ _ => bndS fun _ => bndS fun _ => bnd0 rfl) (hls := (al_cons (al_cons al_nil)))))))
abbrev s__law_grown : Stmt := top 17
theorem sc__law_grown : FnScope ["most", "found", "todo", "x", "y", "z", "own"] (pars s__law_grown) (defScope s__law_grown) := ⟨rfl, rfl, rfl, by decide +kernel, rfl, by decide +kernel, by decide +kernel⟩
noncomputable def lb__law_grown_1 : FS := (sIf (ftB (fBin (dOrd (fun i j => decide (i ≤ j)) (fun o => o != .gt)) (fVar 6) (fVar 0))) (sExpr (fML mAppend (fVar 2) (faCons (fTidy (fCall dTuple (faCons (fTidy (fCall (ffOr dSorted dSortedK) (faCons (fLst (faCons (fVar 6) (faCons (fVar 5) (faCons (fIf (ftB (fBin dEq (fVar 6) (fBin dSub (fBin dMul (fBin dMul (fC (.int 3)) (fVar 3)) (fVar 5)) (fVar 4)))) (fVar 3) (fVar 4)) faNil)))) faNil))) faNil))) faNil))) sNx)
noncomputable def lp__law_grown_2 : FS := (sFor (fiSeq (fTup (faCons (fBin dSub (fBin dMul (fBin dMul (fC (.int 3)) (fVar 3)) (fVar 5)) (fVar 4)) (faCons (fBin dSub (fBin dMul (fBin dMul (fC (.int 3)) (fVar 4)) (fVar 5)) (fVar 3)) faNil)))) (bName 6) lb__law_grown_1)
noncomputable def lt__law_grown_3 : FT := (ftTidy (ftB (fBin dNe (fVar 2) (fLst faNil))))
noncomputable def lb__law_grown_4 : FS := (sSeq (sAsg (fML mPop (fVar 2) faNil) (bTup 3 (bCons (bName 3) (bCons (bName 4) (bCons (bName 5) bNil)))))
    (sIf (ftB (fBin (oOr (dInL true) (dIn true)) (fTup (faCons (fVar 3) (faCons (fVar 4) (faCons (fVar 5) faNil)))) (fVar 1))) (sSeq (sSetG (fC (.bl true)) (fVar 1) (fTup (faCons (fVar 3) (faCons (fVar 4) (faCons (fVar 5) faNil)))))
    lp__law_grown_2) sNx))
noncomputable def lp__law_grown_5 : FS := (sWhile lt__law_grown_3 lb__law_grown_4)
noncomputable def b__law_grown : FS := (sSeq (sPar 1 2 (faCons fNewN (faCons (fIf (ftB (fBin (dOrd (fun i j => decide (j < i)) (fun o => o == .gt)) (fVar 0) (fC (.int 0)))) (fLst (faCons (fTup (faCons (fC (.int 1)) (faCons (fC (.int 1)) (faCons (fC (.int 1)) faNil)))) faNil)) (fLst faNil)) faNil)))
    (sSeq lp__law_grown_5
    (sRet (fCall (ffOr dSorted dSortedK) (faCons (fVar 1) faNil)))))
noncomputable def F__law_grown : FF := FF.tidy (runB b__law_grown 7)
theorem d__law_grown (hF : ∃ f fd, Fun K "_law_grown" "_law_grown" s__law_grown f fd ∧ mg "_law_grown" = some (.ref f)) (M : Mg P w K mg base) : DF P w K mg base 1 "_law_grown" s__law_grown F__law_grown := by
  refine (DF.mk' (k := 0) hF sc__law_grown fun f cdv A outer s H E hr => ?_).tidy
  have nd := sc__law_grown.nd
  have tk := takes_of (X := cxOf (L2.CX P w) P w K mg base ["most", "found", "todo", "x", "y", "z", "own"] "_law_grown" (defScope s__law_grown) f cdv A outer s H E) rfl rfl rfl rfl
  have po := passes_of (X := cxOf (L2.CX P w) P w K mg base ["most", "found", "todo", "x", "y", "z", "own"] "_law_grown" (defScope s__law_grown) f cdv A outer s H E) rfl
  exact (dss_cons (ds_par 1 2 rfl nd (da_cons de_newN (da_cons (de_if (dt_cmpD (cd_gtG hr.u) (de_var 0) de_int) (de_lst (da_cons (de_tup (da_cons de_int (da_cons de_int (da_cons de_int da_nil)))) da_nil)) (de_lst da_nil)) da_nil)))
    (dss_cons (ds_while po (DT.tidy (dt_cmpD (cd_ne hr.u) (de_var 2) (de_lst da_nil))) (dss_cons (ds_asg (de_ml0 PySem.F.slot_list_pop PySem.F.type_list_pop mt_popA md_pop (de_var 2)) (db_tup rfl (dbs_cons (db_name 3 nd) (dbs_cons (db_name 4 nd) (dbs_cons (db_name 5 nd) dbs_nil)))))
    (dss_one (ds_if (dt_cmpD (cd_notIn hr.u65) (de_tup (da_cons (de_var 3) (da_cons (de_var 4) (da_cons (de_var 5) da_nil)))) (de_var 1)) (dss_cons (ds_setG hr.u de_bl (de_var 1) (de_tup (da_cons (de_var 3) (da_cons (de_var 4) (da_cons (de_var 5) da_nil)))))
    (dss_one (ds_for po rfl (di_seq (de_tup (da_cons (de_sub (de_mul (de_mul de_int (de_var 3)) (de_var 5)) (de_var 4)) (da_cons (de_sub (de_mul (de_mul de_int (de_var 4)) (de_var 5)) (de_var 3)) da_nil)))) (db_name 6 nd) (dss_one (ds_if (dt_cmpD (cd_leG hr.u) (de_var 6) (de_var 0)) (dss_one (ds_expr (de_ml PySem.F.slot_list_append PySem.F.type_list_append mt_append md_append (de_var 2) (da_cons (DE.tidy (de_callTy call_tuple_of cd_tuple rfl M.b_tuple PyProof.Rows.Boot.«tuple» (da_cons (DE.tidy (de_callB (CallR.or2 (cr_sortD hr.u66) (cr_sortK rfl hr.u66)) (CallD.or2 cd_sorted cd_sortK) rfl M.b_sorted PyProof.Rows.Boot.«sorted» (da_cons (de_lst (da_cons (de_var 6) (da_cons (de_var 5) (da_cons (de_if (dt_cmpD (cd_eq hr.u) (de_var 6) (de_sub (de_mul (de_mul de_int (de_var 3)) (de_var 5)) (de_var 4))) (de_var 3) (de_var 4)) da_nil)))) da_nil))) da_nil))) da_nil)))) dss_nil))))) dss_nil))))
    (dss_one (ds_ret (de_callB (CallR.or2 (cr_sortD hr.u66) (cr_sortK rfl hr.u66)) (CallD.or2 cd_sorted cd_sortK) rfl M.b_sorted PyProof.Rows.Boot.«sorted» (da_cons (de_var 1) da_nil))))))
abbrev s__law_triples : Stmt := top 18
theorem sc__law_triples : FnScope ["a", "most", "x", "y", "z"] (pars s__law_triples) (defScope s__law_triples) := ⟨rfl, rfl, rfl, by decide +kernel, rfl, by decide +kernel, by decide +kernel⟩
noncomputable def ct__law_triples_1 : FT := ftYes
noncomputable def ce__law_triples_2 : FE := (fTup (faCons (fBin dMul (fC (.int 3)) (fVar 2)) (faCons (fBin dMul (fC (.int 3)) (fVar 3)) (faCons (fBin dMul (fC (.int 3)) (fVar 4)) faNil))))
noncomputable def lc__law_triples_3 : FE := (fLc (fiSeq (fCall F__law_grown (faCons (fBin dFdiv (fVar 1) (fC (.int 3))) faNil))) [2, 3, 4] (bTup 3 (bCons (bName 2) (bCons (bName 3) (bCons (bName 4) bNil)))) ct__law_triples_1 ce__law_triples_2)
noncomputable def b__law_triples : FS := (sSeq (sIf (ftB (fBin dEq (fVar 0) (fC (.int 3)))) (sRet (fCall F__law_grown (faCons (fVar 1) faNil))) sNx)
    (sRet (fIf (ftB (fBin dEq (fVar 0) (fC (.int 1)))) lc__law_triples_3 (fLst faNil))))
noncomputable def F__law_triples : FF := FF.tidy (runB b__law_triples 5)
theorem d__law_triples (hF : ∃ f fd, Fun K "_law_triples" "_law_triples" s__law_triples f fd ∧ mg "_law_triples" = some (.ref f)) (M : Mg P w K mg base) (c__law_grown : DF P w K mg base 1 "_law_grown" s__law_grown F__law_grown) : DF P w K mg base 2 "_law_triples" s__law_triples F__law_triples := by
  refine (DF.mk' (k := 1) hF sc__law_triples fun f cdv A outer s H E hr => ?_).tidy
  have nd := sc__law_triples.nd
  have tk := takes_of (X := cxOf (L2.CX P w) P w K mg base ["a", "most", "x", "y", "z"] "_law_triples" (defScope s__law_triples) f cdv A outer s H E) rfl rfl rfl rfl
  exact (dss_cons (ds_if (dt_cmpD (cd_eq hr.u) (de_var 0) de_int) (dss_one (ds_ret (de_call (c__law_grown.mono (by decide)) hr tk rfl (da_cons (de_var 1) da_nil) (fun _ _ _ _ _ _ => bndS fun _ => bnd0 rfl) (hls := (al_cons al_nil))))) dss_nil)
    (dss_one (ds_ret (de_if (dt_cmpD (cd_eq hr.u) (de_var 0) de_int) (de_lc [("x", 2), ("y", 3), ("z", 4)] rfl nd (di_seq (de_call (c__law_grown.mono (by decide)) hr tk rfl (da_cons (de_fdiv (de_var 1) de_int) da_nil) (fun _ _ _ _ _ _ => bndS fun _ => bnd0 rfl) (hls := (al_cons al_nil)))) (blk_of (by kernel_rfl)) (fun _ _ _ _ _ => (db_tup rfl (dbs_cons (db_name 2 nd) (dbs_cons (db_name 3 nd) (dbs_cons (db_name 4 nd) dbs_nil))))) (fun _ _ _ _ _ => dts_nil) (fun _ _ _ _ _ => (de_tup (da_cons (de_mul de_int (de_var 2)) (da_cons (de_mul de_int (de_var 3)) (da_cons (de_mul de_int (de_var 4)) da_nil)))))) (de_lst da_nil)))))
abbrev s__law_by_look : Stmt := top 19
theorem sc__law_by_look : FnScope ["a", "most", "found", "x", "y", "z"] (pars s__law_by_look) (defScope s__law_by_look) := ⟨rfl, rfl, rfl, by decide +kernel, rfl, by decide +kernel, by decide +kernel⟩
noncomputable def ct__law_by_look_1 : FT := (ftB (fBin dEq (fBin dAdd (fBin dAdd (fBin dMul (fVar 3) (fVar 3)) (fBin dMul (fVar 4) (fVar 4))) (fBin dMul (fVar 5) (fVar 5))) (fBin dMul (fBin dMul (fBin dMul (fVar 0) (fVar 3)) (fVar 4)) (fVar 5))))
noncomputable def ce__law_by_look_2 : FE := (fTup (faCons (fVar 3) (faCons (fVar 4) (faCons (fVar 5) faNil))))
noncomputable def lc__law_by_look_3 : FE := (fLc (fiRng2 (fVar 4) (fBin dAdd (fVar 1) (fC (.int 1)))) [5] (bName 5) ct__law_by_look_1 ce__law_by_look_2)
noncomputable def lb__law_by_look_4 : FS := (sExpr (fML mExtend (fVar 2) (faCons lc__law_by_look_3 faNil)))
noncomputable def lp__law_by_look_5 : FS := (sFor (fiRng2 (fVar 3) (fBin dAdd (fVar 1) (fC (.int 1)))) (bName 4) lb__law_by_look_4)
noncomputable def lb__law_by_look_6 : FS := lp__law_by_look_5
noncomputable def lp__law_by_look_7 : FS := (sFor (fiRng2 (fC (.int 1)) (fBin dAdd (fVar 1) (fC (.int 1)))) (bName 3) lb__law_by_look_6)
noncomputable def b__law_by_look : FS := (sSeq (sAsg (fLst faNil) (bName 2))
    (sSeq lp__law_by_look_7
    (sRet (fVar 2))))
noncomputable def F__law_by_look : FF := FF.tidy (runB b__law_by_look 6)
theorem d__law_by_look (hF : ∃ f fd, Fun K "_law_by_look" "_law_by_look" s__law_by_look f fd ∧ mg "_law_by_look" = some (.ref f)) (M : Mg P w K mg base) : DF P w K mg base 1 "_law_by_look" s__law_by_look F__law_by_look := by
  refine (DF.mk' (k := 0) hF sc__law_by_look fun f cdv A outer s H E hr => ?_).tidy
  have nd := sc__law_by_look.nd
  have tk := takes_of (X := cxOf (L2.CX P w) P w K mg base ["a", "most", "found", "x", "y", "z"] "_law_by_look" (defScope s__law_by_look) f cdv A outer s H E) rfl rfl rfl rfl
  have po := passes_of (X := cxOf (L2.CX P w) P w K mg base ["a", "most", "found", "x", "y", "z"] "_law_by_look" (defScope s__law_by_look) f cdv A outer s H E) rfl
  exact (dss_cons (ds_set 2 nd (de_lst da_nil))
    (dss_cons (ds_for po rfl (di_rng2 rfl M.b_range de_int (de_add (de_var 1) de_int)) (db_name 3 nd) (dss_one (ds_for po rfl (di_rng2 rfl M.b_range (de_var 3) (de_add (de_var 1) de_int)) (db_name 4 nd) (dss_one (ds_expr (de_ml PySem.F.slot_list_extend PySem.F.type_list_extend mt_extend md_extend (de_var 2) (da_cons (de_lc [("z", 5)] rfl nd (di_rng2 rfl M.b_range (de_var 4) (de_add (de_var 1) de_int)) (blk_of (by kernel_rfl)) (fun _ _ _ _ _ => (db_name 5 nd)) (fun _ _ _ _ _ => (dts_one (dt_cmpD (cd_eq hr.u) (de_add (de_add (de_mul (de_var 3) (de_var 3)) (de_mul (de_var 4) (de_var 4))) (de_mul (de_var 5) (de_var 5))) (de_mul (de_mul (de_mul (de_var 0) (de_var 3)) (de_var 4)) (de_var 5))))) (fun _ _ _ _ _ => (de_tup (da_cons (de_var 3) (da_cons (de_var 4) (da_cons (de_var 5) da_nil)))))) da_nil)))))))
    (dss_one (ds_ret (de_var 2)))))
abbrev s__law_numbers : Stmt := top 20
theorem sc__law_numbers : FnScope ["triples", "found", "triple", "number"] (pars s__law_numbers) (defScope s__law_numbers) := ⟨rfl, rfl, rfl, by decide +kernel, rfl, by decide +kernel, by decide +kernel⟩
noncomputable def lb__law_numbers_1 : FS := (sSetG (fC (.bl true)) (fVar 1) (fVar 3))
noncomputable def lp__law_numbers_2 : FS := (sFor (fiSeq (fVar 2)) (bName 3) lb__law_numbers_1)
noncomputable def lb__law_numbers_3 : FS := lp__law_numbers_2
noncomputable def lp__law_numbers_4 : FS := (sFor (fiSeq (fVar 0)) (bName 2) lb__law_numbers_3)
noncomputable def b__law_numbers : FS := (sSeq (sAsg fNewK (bName 1))
    (sSeq lp__law_numbers_4
    (sRet (fTidy (fCall dTuple (faCons (fCall (ffOr dSorted dSortedK) (faCons (fVar 1) faNil)) faNil))))))
noncomputable def F__law_numbers : FF := FF.tidy (runB b__law_numbers 4)
theorem d__law_numbers (hF : ∃ f fd, Fun K "_law_numbers" "_law_numbers" s__law_numbers f fd ∧ mg "_law_numbers" = some (.ref f)) (M : Mg P w K mg base) : DF P w K mg base 1 "_law_numbers" s__law_numbers F__law_numbers := by
  refine (DF.mk' (k := 0) hF sc__law_numbers fun f cdv A outer s H E hr => ?_).tidy
  have nd := sc__law_numbers.nd
  have tk := takes_of (X := cxOf (L2.CX P w) P w K mg base ["triples", "found", "triple", "number"] "_law_numbers" (defScope s__law_numbers) f cdv A outer s H E) rfl rfl rfl rfl
  have po := passes_of (X := cxOf (L2.CX P w) P w K mg base ["triples", "found", "triple", "number"] "_law_numbers" (defScope s__law_numbers) f cdv A outer s H E) rfl
  exact (dss_cons (ds_set 1 nd de_newK)
    (dss_cons (ds_for po rfl (di_seq (de_var 0)) (db_name 2 nd) (dss_one (ds_for po rfl (di_seq (de_var 2)) (db_name 3 nd) (dss_one (ds_setG hr.u de_bl (de_var 1) (de_var 3))))))
    (dss_one (ds_ret (DE.tidy (de_callTy call_tuple_of cd_tuple rfl M.b_tuple PyProof.Rows.Boot.«tuple» (da_cons (de_callB (CallR.or2 (cr_sortD hr.u66) (cr_sortK rfl hr.u66)) (CallD.or2 cd_sorted cd_sortK) rfl M.b_sorted PyProof.Rows.Boot.«sorted» (da_cons (de_var 1) da_nil)) da_nil)))))))
abbrev s__law_common : Stmt := top 21
theorem sc__law_common : FnScope ["one", "other"] (pars s__law_common) (defScope s__law_common) := ⟨rfl, rfl, rfl, by decide +kernel, rfl, by decide +kernel, by decide +kernel⟩
noncomputable def lt__law_common_1 : FT := (ftB (fBin (dOrd (fun i j => decide (j < i)) (fun o => o == .gt)) (fVar 1) (fC (.int 0))))
noncomputable def lb__law_common_2 : FS := (sPar 0 1 (faCons (fVar 1) (faCons (fBin dMod (fCall dInt (faCons (fVar 0) faNil)) (fVar 1)) faNil)))
noncomputable def lp__law_common_3 : FS := (sWhile lt__law_common_1 lb__law_common_2)
noncomputable def b__law_common : FS := (sSeq lp__law_common_3
    (sRet (fVar 0)))
noncomputable def F__law_common : FF := FF.tidy (runB b__law_common 2)
theorem d__law_common (hF : ∃ f fd, Fun K "_law_common" "_law_common" s__law_common f fd ∧ mg "_law_common" = some (.ref f)) (M : Mg P w K mg base) : DF P w K mg base 1 "_law_common" s__law_common F__law_common := by
  refine (DF.mk' (k := 0) hF sc__law_common fun f cdv A outer s H E hr => ?_).tidy
  have nd := sc__law_common.nd
  have tk := takes_of (X := cxOf (L2.CX P w) P w K mg base ["one", "other"] "_law_common" (defScope s__law_common) f cdv A outer s H E) rfl rfl rfl rfl
  have po := passes_of (X := cxOf (L2.CX P w) P w K mg base ["one", "other"] "_law_common" (defScope s__law_common) f cdv A outer s H E) rfl
  exact (dss_cons (ds_while po (dt_cmpD (cd_gtG hr.u) (de_var 1) de_int) (dss_one (ds_par 0 1 rfl nd (da_cons (de_var 1) (da_cons (de_mod (de_callTy call_intA cd_int rfl M.b_int PyProof.Rows.Boot.«int» (da_cons (de_var 0) da_nil)) (de_var 1)) da_nil)))))
    (dss_one (ds_ret (de_var 0))))
abbrev s_law : Stmt := top 22
theorem sc_law : FnScope ["script", "bag", "turn", "a", "numbers", "near", "some", "most", "triples", "due", "told", "named", "less", "x", "y", "z", "own", "number"] (pars s_law) (defScope s_law) := ⟨rfl, rfl, rfl, by decide +kernel, rfl, by decide +kernel, by decide +kernel⟩
noncomputable def ct_law_1 : FT := (ftB (fBin (dOrd (fun i j => decide (i ≤ j)) (fun o => o != .gt)) (fBin dIx (fVar 16) (fC (.int 2))) (fVar 12)))
noncomputable def ce_law_2 : FE := (fVar 16)
noncomputable def lc_law_3 : FE := (fLc (fiSeq (fBin dIx (fVar 10) (fC (.int 0)))) [16] (bName 16) ct_law_1 ce_law_2)
noncomputable def ct_law_4 : FT := ftYes
noncomputable def ce_law_5 : FE := (fBin dEq (fBin dMod (fCall dInt (faCons (fVar 17) faNil)) (fC (.int 4))) (fC (.int 0)))
noncomputable def lc_law_6 : FE := (fLc (fiSeq (fBin dIx (fVar 10) (fC (.int 1)))) [17] (bName 17) ct_law_4 ce_law_5)
noncomputable def lb_law_7 : FS := (sSeq (sAsg (fCall F__law_pick (faCons (fVar 1) (faCons (fLst (faCons (fC (.int 3)) (faCons (fC (.int 3)) (faCons (fC (.int 1)) (faCons (fC (.int 2)) (faCons (fC (.int 50)) (faCons (fBin dAdd (fC (.int 1)) (fCall F__law_draw (faCons (fVar 1) (faCons (fC (.int 50)) faNil)))) faNil))))))) faNil))) (bName 3))
    (sSeq (sAsg (fLst (faCons (fC (.int 1)) (faCons (fC (.int 2)) (faCons (fC (.int 5)) (faCons (fC (.int 13)) (faCons (fC (.int 29)) (faCons (fC (.int 34)) (faCons (fC (.int 169)) (faCons (fC (.int 194)) (faCons (fC (.int 985)) (faCons (fC (.int 1325)) (faCons (fC (.int 7561)) (faCons (fBin dPow (fC (.int 10)) (fC (.int 12))) faNil))))))))))))) (bName 4))
    (sSeq (sAsg (fBin dSub (fBin dMul (fCall F__law_pick (faCons (fVar 1) (faCons (fVar 4) faNil))) (fIf (ftB (fBin dEq (fVar 3) (fC (.int 1)))) (fC (.int 3)) (fC (.int 1)))) (fCall F__law_draw (faCons (fVar 1) (faCons (fC (.int 2)) faNil)))) (bName 5))
    (sSeq (sAsg (fLst (faCons (fVar 5) (faCons (fVar 5) (faCons (fBin dAdd (fC (.int 1)) (fCall F__law_draw (faCons (fVar 1) (faCons (fC (.int 50)) faNil)))) (faCons (fCall dInt (faCons (fBin dAdd (fC (.str "1")) (fBin dMul (fC (.str "0")) (fCall F__law_draw (faCons (fVar 1) (faCons (fC (.int 13)) faNil))))) faNil)) faNil))))) (bName 6))
    (sSeq (sAsg (fCall dMax2 (faCons (fC (.int 1)) (faCons (fCall dMin2 (faCons (fBin dPow (fC (.int 10)) (fC (.int 12))) (faCons (fCall F__law_pick (faCons (fVar 1) (faCons (fVar 6) faNil))) faNil))) faNil))) (bName 7))
    (sSeq (sAsg (fCall F__law_triples (faCons (fVar 3) (faCons (fVar 7) faNil))) (bName 8))
    (sSeq (sAsg (fLst (faCons (fCall dTuple (faCons (fVar 8) faNil)) (faCons (fCall F__law_numbers (faCons (fVar 8) faNil)) faNil))) (bName 9))
    (sSeq (sAsg (fLst (faCons (fCall F_threes_to (faCons (fVar 3) (faCons (fVar 7) faNil))) (faCons (fCall F_three_numbers (faCons (fVar 3) (faCons (fVar 7) faNil))) faNil))) (bName 10))
    (sSeq (sAsg (fLst (faCons (fCallK F_threes_to [1, 0] (faCons (fVar 7) (faCons (fVar 3) faNil))) (faCons (fCallK F_three_numbers [1, 0] (faCons (fVar 7) (faCons (fVar 3) faNil))) faNil))) (bName 11))
    (sSeq (sIf (ftTidy (ftB (fBin dNe (fTidy (fCall dRepr (faCons (fLst (faCons (fVar 10) (faCons (fVar 11) faNil))) faNil))) (fTidy (fCall dRepr (faCons (fLst (faCons (fVar 9) (faCons (fVar 9) faNil))) faNil)))))) (sRet (fC (.bl false))) sNx)
    (sSeq (sAsg (fBin dAdd (fC (.int 1)) (fCall F__law_draw (faCons (fVar 1) (faCons (fVar 7) faNil)))) (bName 12))
    (sSeq (sIf (ftTidy (ftB (fBin dNe (fTidy (fCall dTuple (faCons lc_law_3 faNil))) (fCall F_threes_to (faCons (fVar 3) (faCons (fVar 12) faNil)))))) (sRet (fC (.bl false))) sNx)
    (sSeq (sIf (ftAnd (ftB (fBin dEq (fVar 3) (fC (.int 3)))) (ftTru (fTidy (fCall dAny (faCons lc_law_6 faNil))))) (sRet (fC (.bl false))) sNx)
    (sIf (ftAnd (ftB (fBin dEq (fVar 3) (fC (.int 3)))) (ftB (fBin dNe (fBin dIx (fVar 10) (fC (.int 0))) (fTup faNil)))) (sSeq (sAsg (fCall F__law_pick (faCons (fVar 1) (faCons (fBin dIx (fVar 10) (fC (.int 0))) faNil))) (bTup 3 (bCons (bName 13) (bCons (bName 14) (bCons (bName 15) bNil)))))
    (sIf (ftTidy (ftB (fBin dNe (fLst (faCons (fCall F__law_common (faCons (fVar 13) (faCons (fVar 14) faNil))) (faCons (fCall F__law_common (faCons (fVar 13) (faCons (fVar 15) faNil))) (faCons (fCall F__law_common (faCons (fVar 14) (faCons (fVar 15) faNil))) faNil)))) (fLst (faCons (fC (.int 1)) (faCons (fC (.int 1)) (faCons (fC (.int 1)) faNil))))))) (sRet (fC (.bl false))) sNx)) sNx))))))))))))))
noncomputable def lp_law_8 : FS := (sFor (fiRng1 (fC (.int 3))) (bName 2) lb_law_7)
noncomputable def b_law : FS := (sSeq (sAsg (fCall F__law_bag (faCons (fVar 0) faNil)) (bName 1))
    (sSeq lp_law_8
    (sSeq (sPar 3 7 (faCons (fBin dAdd (fC (.int 1)) (fCall F__law_draw (faCons (fVar 1) (faCons (fC (.int 50)) faNil)))) (faCons (fBin dAdd (fC (.int 1)) (fCall F__law_draw (faCons (fVar 1) (faCons (fC (.int 16)) faNil)))) faNil)))
    (sSeq (sAsg (fCall F__law_pick (faCons (fVar 1) (faCons (fLst (faCons (fC (.int 1)) (faCons (fC (.int 3)) (faCons (fVar 3) (faCons (fC (.int 2)) faNil))))) faNil))) (bName 3))
    (sRet (fBin dEq (fCall dRepr (faCons (fCall F_threes_to (faCons (fVar 3) (faCons (fVar 7) faNil))) faNil)) (fCall dRepr (faCons (fCall dTuple (faCons (fCall F__law_by_look (faCons (fVar 3) (faCons (fVar 7) faNil))) faNil)) faNil))))))))
noncomputable def F_law : FF := FF.tidy (runB b_law 18)
theorem d_law (hF : ∃ f fd, Fun K "law" "law" s_law f fd ∧ mg "law" = some (.ref f)) (M : Mg P w K mg base) (c__law_bag : DF P w K mg base 1 "_law_bag" s__law_bag F__law_bag) (c__law_by_look : DF P w K mg base 1 "_law_by_look" s__law_by_look F__law_by_look) (c__law_common : DF P w K mg base 1 "_law_common" s__law_common F__law_common) (c__law_draw : DF P w K mg base 1 "_law_draw" s__law_draw F__law_draw) (c__law_numbers : DF P w K mg base 1 "_law_numbers" s__law_numbers F__law_numbers) (c__law_pick : DF P w K mg base 2 "_law_pick" s__law_pick F__law_pick) (c__law_triples : DF P w K mg base 2 "_law_triples" s__law_triples F__law_triples) (c_three_numbers : DF P w K mg base 5 "three_numbers" s_three_numbers F_three_numbers) (c_threes_to : DF P w K mg base 4 "threes_to" s_threes_to F_threes_to) : DF P w K mg base 6 "law" s_law F_law := by
  refine (DF.mk' (k := 5) hF sc_law fun f cdv A outer s H E hr => ?_).tidy
  have nd := sc_law.nd
  have tk := takes_of (X := cxOf (L2.CX P w) P w K mg base ["script", "bag", "turn", "a", "numbers", "near", "some", "most", "triples", "due", "told", "named", "less", "x", "y", "z", "own", "number"] "law" (defScope s_law) f cdv A outer s H E) rfl rfl rfl rfl
  have po := passes_of (X := cxOf (L2.CX P w) P w K mg base ["script", "bag", "turn", "a", "numbers", "near", "some", "most", "triples", "due", "told", "named", "less", "x", "y", "z", "own", "number"] "law" (defScope s_law) f cdv A outer s H E) rfl
  exact (dss_cons (ds_set 1 nd (de_call (c__law_bag.mono (by decide)) hr tk rfl (da_cons (de_var 0) da_nil) (fun _ _ _ _ _ _ => bndS fun _ => bnd0 rfl) (hls := (al_cons al_nil))))
    (dss_cons (ds_for po rfl (di_rng1 rfl M.b_range de_int) (db_name 2 nd) (dss_cons (ds_set 3 nd (de_call (c__law_pick.mono (by decide)) hr tk rfl (da_cons (de_var 1) (da_cons (de_lst (da_cons de_int (da_cons de_int (da_cons de_int (da_cons de_int (da_cons de_int (da_cons (de_add de_int (de_call (c__law_draw.mono (by decide)) hr tk rfl (da_cons (de_var 1) (da_cons de_int da_nil)) (fun _ _ _ _ _ _ => bndS fun _ => bndS fun _ => bnd0 rfl) (hls := (al_cons (al_cons al_nil))))) da_nil))))))) da_nil)) (fun _ _ _ _ _ _ => bndS fun _ => bndS fun _ => bnd0 rfl) (hls := (al_cons (al_cons al_nil)))))
    (dss_cons (ds_set 4 nd (de_lst (da_cons de_int (da_cons de_int (da_cons de_int (da_cons de_int (da_cons de_int (da_cons de_int (da_cons de_int (da_cons de_int (da_cons de_int (da_cons de_int (da_cons de_int (da_cons (de_pow de_int de_int) da_nil))))))))))))))
    (dss_cons (ds_set 5 nd (de_sub (de_mul (de_call (c__law_pick.mono (by decide)) hr tk rfl (da_cons (de_var 1) (da_cons (de_var 4) da_nil)) (fun _ _ _ _ _ _ => bndS fun _ => bndS fun _ => bnd0 rfl) (hls := (al_cons (al_cons al_nil)))) (de_if (dt_cmpD (cd_eq hr.u) (de_var 3) de_int) de_int de_int)) (de_call (c__law_draw.mono (by decide)) hr tk rfl (da_cons (de_var 1) (da_cons de_int da_nil)) (fun _ _ _ _ _ _ => bndS fun _ => bndS fun _ => bnd0 rfl) (hls := (al_cons (al_cons al_nil))))))
    (dss_cons (ds_set 6 nd (de_lst (da_cons (de_var 5) (da_cons (de_var 5) (da_cons (de_add de_int (de_call (c__law_draw.mono (by decide)) hr tk rfl (da_cons (de_var 1) (da_cons de_int da_nil)) (fun _ _ _ _ _ _ => bndS fun _ => bndS fun _ => bnd0 rfl) (hls := (al_cons (al_cons al_nil))))) (da_cons (de_callTy call_intA cd_int rfl M.b_int PyProof.Rows.Boot.«int» (da_cons (de_add de_str (de_mul de_str (de_call (c__law_draw.mono (by decide)) hr tk rfl (da_cons (de_var 1) (da_cons de_int da_nil)) (fun _ _ _ _ _ _ => bndS fun _ => bndS fun _ => bnd0 rfl) (hls := (al_cons (al_cons al_nil)))))) da_nil)) da_nil))))))
    (dss_cons (ds_set 7 nd (de_callB (call_max2 rfl) cd_max2 rfl M.b_max PyProof.Rows.Boot.«max» (da_cons de_int (da_cons (de_callB (call_min2 rfl) cd_min2 rfl M.b_min PyProof.Rows.Boot.«min» (da_cons (de_pow de_int de_int) (da_cons (de_call (c__law_pick.mono (by decide)) hr tk rfl (da_cons (de_var 1) (da_cons (de_var 6) da_nil)) (fun _ _ _ _ _ _ => bndS fun _ => bndS fun _ => bnd0 rfl) (hls := (al_cons (al_cons al_nil)))) da_nil))) da_nil))))
    (dss_cons (ds_set 8 nd (de_call (c__law_triples.mono (by decide)) hr tk rfl (da_cons (de_var 3) (da_cons (de_var 7) da_nil)) (fun _ _ _ _ _ _ => bndS fun _ => bndS fun _ => bnd0 rfl) (hls := (al_cons (al_cons al_nil)))))
    (dss_cons (ds_set 9 nd (de_lst (da_cons (de_callTy call_tuple_of cd_tuple rfl M.b_tuple PyProof.Rows.Boot.«tuple» (da_cons (de_var 8) da_nil)) (da_cons (de_call (c__law_numbers.mono (by decide)) hr tk rfl (da_cons (de_var 8) da_nil) (fun _ _ _ _ _ _ => bndS fun _ => bnd0 rfl) (hls := (al_cons al_nil))) da_nil))))
    (dss_cons (ds_set 10 nd (de_lst (da_cons (de_call (c_threes_to.mono (by decide)) hr tk rfl (da_cons (de_var 3) (da_cons (de_var 7) da_nil)) (fun _ _ _ _ _ _ => bndS fun _ => bndS fun _ => bnd0 rfl) (hls := (al_cons (al_cons al_nil)))) (da_cons (de_call (c_three_numbers.mono (by decide)) hr tk rfl (da_cons (de_var 3) (da_cons (de_var 7) da_nil)) (fun _ _ _ _ _ _ => bndS fun _ => bndS fun _ => bnd0 rfl) (hls := (al_cons (al_cons al_nil)))) da_nil))))
    (dss_cons (ds_set 11 nd (de_lst (da_cons (de_callK [1, 0] ["most", "a"] (c_threes_to.mono (by decide)) hr tk rfl (dk_cons (de_var 7) (dk_cons (de_var 3) dk_nil)) (fun _ _ _ _ _ _ => bndS fun _ => bndS fun _ => bnd0 rfl) (vbndS fun _ => vbndS fun _ => vbnd0 rfl) (al_cons (al_cons al_nil))) (da_cons (de_callK [1, 0] ["most", "a"] (c_three_numbers.mono (by decide)) hr tk rfl (dk_cons (de_var 7) (dk_cons (de_var 3) dk_nil)) (fun _ _ _ _ _ _ => bndS fun _ => bndS fun _ => bnd0 rfl) (vbndS fun _ => vbndS fun _ => vbnd0 rfl) (al_cons (al_cons al_nil))) da_nil))))
    (dss_cons (ds_if (DT.tidy (dt_cmpD (cd_ne hr.u) (DE.tidy (de_callB (cr_repr hr.grd hr.u70) cd_repr rfl M.b_repr PyProof.Rows.Boot.«repr» (da_cons (de_lst (da_cons (de_var 10) (da_cons (de_var 11) da_nil))) da_nil))) (DE.tidy (de_callB (cr_repr hr.grd hr.u70) cd_repr rfl M.b_repr PyProof.Rows.Boot.«repr» (da_cons (de_lst (da_cons (de_var 9) (da_cons (de_var 9) da_nil))) da_nil))))) (dss_one (ds_ret de_bl)) dss_nil)
    (dss_cons (ds_set 12 nd (de_add de_int (de_call (c__law_draw.mono (by decide)) hr tk rfl (da_cons (de_var 1) (da_cons (de_var 7) da_nil)) (fun _ _ _ _ _ _ => bndS fun _ => bndS fun _ => bnd0 rfl) (hls := (al_cons (al_cons al_nil))))))
    (dss_cons (ds_if (DT.tidy (dt_cmpD (cd_ne hr.u) (DE.tidy (de_callTy call_tuple_of cd_tuple rfl M.b_tuple PyProof.Rows.Boot.«tuple» (da_cons (de_lc [("own", 16)] rfl nd (di_seq (de_ix (de_var 10) de_int)) (blk_of (by kernel_rfl)) (fun _ _ _ _ _ => (db_name 16 nd)) (fun _ _ _ _ _ => (dts_one (dt_cmpD (cd_leG hr.u) (de_ix (de_var 16) de_int) (de_var 12)))) (fun _ _ _ _ _ => (de_var 16))) da_nil))) (de_call (c_threes_to.mono (by decide)) hr tk rfl (da_cons (de_var 3) (da_cons (de_var 12) da_nil)) (fun _ _ _ _ _ _ => bndS fun _ => bndS fun _ => bnd0 rfl) (hls := (al_cons (al_cons al_nil)))))) (dss_one (ds_ret de_bl)) dss_nil)
    (dss_cons (ds_if (DW.dt (dw_and (dt_cmpD (cd_eq hr.u) (de_var 3) de_int) (dw_and1 (dt_tru (DE.tidy (de_callB (cr_any rfl) cd_any rfl M.b_any PyProof.Rows.Boot.«any» (da_cons (de_lc [("number", 17)] rfl nd (di_seq (de_ix (de_var 10) de_int)) (blk_of (by kernel_rfl)) (fun _ _ _ _ _ => (db_name 17 nd)) (fun _ _ _ _ _ => dts_nil) (fun _ _ _ _ _ => (de_cmpD (cd_eq hr.u) (de_mod (de_callTy call_intA cd_int rfl M.b_int PyProof.Rows.Boot.«int» (da_cons (de_var 17) da_nil)) de_int) de_int))) da_nil))))))) (dss_one (ds_ret de_bl)) dss_nil)
    (dss_one (ds_if (DW.dt (dw_and (dt_cmpD (cd_eq hr.u) (de_var 3) de_int) (dw_and1 (dt_cmpD (cd_ne hr.u) (de_ix (de_var 10) de_int) (de_tup da_nil))))) (dss_cons (ds_asg (de_call (c__law_pick.mono (by decide)) hr tk rfl (da_cons (de_var 1) (da_cons (de_ix (de_var 10) de_int) da_nil)) (fun _ _ _ _ _ _ => bndS fun _ => bndS fun _ => bnd0 rfl) (hls := (al_cons (al_cons al_nil)))) (db_tup rfl (dbs_cons (db_name 13 nd) (dbs_cons (db_name 14 nd) (dbs_cons (db_name 15 nd) dbs_nil)))))
    (dss_one (ds_if (DT.tidy (dt_cmpD (cd_ne hr.u) (de_lst (da_cons (de_call (c__law_common.mono (by decide)) hr tk rfl (da_cons (de_var 13) (da_cons (de_var 14) da_nil)) (fun _ _ _ _ _ _ => bndS fun _ => bndS fun _ => bnd0 rfl) (hls := (al_cons (al_cons al_nil)))) (da_cons (de_call (c__law_common.mono (by decide)) hr tk rfl (da_cons (de_var 13) (da_cons (de_var 15) da_nil)) (fun _ _ _ _ _ _ => bndS fun _ => bndS fun _ => bnd0 rfl) (hls := (al_cons (al_cons al_nil)))) (da_cons (de_call (c__law_common.mono (by decide)) hr tk rfl (da_cons (de_var 14) (da_cons (de_var 15) da_nil)) (fun _ _ _ _ _ _ => bndS fun _ => bndS fun _ => bnd0 rfl) (hls := (al_cons (al_cons al_nil)))) da_nil)))) (de_lst (da_cons de_int (da_cons de_int (da_cons de_int da_nil)))))) (dss_one (ds_ret de_bl)) dss_nil))) dss_nil))))))))))))))))
    (dss_cons (ds_par 3 7 rfl nd (da_cons (de_add de_int (de_call (c__law_draw.mono (by decide)) hr tk rfl (da_cons (de_var 1) (da_cons de_int da_nil)) (fun _ _ _ _ _ _ => bndS fun _ => bndS fun _ => bnd0 rfl) (hls := (al_cons (al_cons al_nil))))) (da_cons (de_add de_int (de_call (c__law_draw.mono (by decide)) hr tk rfl (da_cons (de_var 1) (da_cons de_int da_nil)) (fun _ _ _ _ _ _ => bndS fun _ => bndS fun _ => bnd0 rfl) (hls := (al_cons (al_cons al_nil))))) da_nil)))
    (dss_cons (ds_set 3 nd (de_call (c__law_pick.mono (by decide)) hr tk rfl (da_cons (de_var 1) (da_cons (de_lst (da_cons de_int (da_cons de_int (da_cons (de_var 3) (da_cons de_int da_nil))))) da_nil)) (fun _ _ _ _ _ _ => bndS fun _ => bndS fun _ => bnd0 rfl) (hls := (al_cons (al_cons al_nil)))))
    (dss_one (ds_ret (de_cmpD (cd_eq hr.u) (de_callB (cr_repr hr.grd hr.u70) cd_repr rfl M.b_repr PyProof.Rows.Boot.«repr» (da_cons (de_call (c_threes_to.mono (by decide)) hr tk rfl (da_cons (de_var 3) (da_cons (de_var 7) da_nil)) (fun _ _ _ _ _ _ => bndS fun _ => bndS fun _ => bnd0 rfl) (hls := (al_cons (al_cons al_nil)))) da_nil)) (de_callB (cr_repr hr.grd hr.u70) cd_repr rfl M.b_repr PyProof.Rows.Boot.«repr» (da_cons (de_callTy call_tuple_of cd_tuple rfl M.b_tuple PyProof.Rows.Boot.«tuple» (da_cons (de_call (c__law_by_look.mono (by decide)) hr tk rfl (da_cons (de_var 3) (da_cons (de_var 7) da_nil)) (fun _ _ _ _ _ _ => bndS fun _ => bndS fun _ => bnd0 rfl) (hls := (al_cons (al_cons al_nil)))) da_nil)) da_nil)))))))))
end
end Y.k59


set_option Elab.async false
set_option linter.all false
set_option maxRecDepth 100000
set_option maxHeartbeats 2000000
/-! P59: what k59's defs answer. -/
namespace Y.k59
open PySem L2 Y
theorem is_long_ok {n : Int} (h0 : 0 ≤ n) (h : n < 10 ^ 64) (S : Sto) : F_is_long [.int n] S = .ok (.bl false) S := by
  have hl : (PySem.Str.ofString (toString n)).length ≤ 64 := PyProof.Rows.toString_length_le h0 (by decide) h
  have hlog : n.natAbs.log2 < 1920 := by
    by_cases hz : n.natAbs = 0
    · rw [hz]; decide
    · refine (Nat.log2_lt hz).mpr (Nat.lt_of_lt_of_le (m := 10 ^ 64) ?_ (by decide))
      have : (n.natAbs : Int) = n := Int.natAbs_of_nonneg h0
      omega
  have em : n % 10000000000000000000000000000000000000000000000000000000000000000 = n := Int.emod_eq_of_lt h0 h
  have ht : (ftAnd (ftB (fBin (dOrd (fun i j => decide (j ≤ i)) (fun o => o != .lt)) (fVar 0) (fC (.int 10000000000000000000000000000000000000000000000000000000000000000)))) (ftB (fBin (dOrd (fun i j => decide (i ≤ j)) (fun o => o != .gt)) (fVar 1) (fC (.int 400))))) [some (.int n), some (.int 0)] S = .ok false S :=
    ftAnd_f (ftB_ok ((fBin_ok (fVar_at rfl) fC_ok).trans (dOrd_int.trans (by rw [decide_eq_false (by omega)]))))
  refine tidy_same (runB_rt (a := b_is_long) ((sSeq_nx (sAsg_ok fC_ok)).trans ((sSeq_nx (sWhile_f ht)).trans (sRet_ok ?_)))) rfl
  · refine (fBin_ok ((fBin_ok (fVar_at rfl) ((fCall_ok (faCons_ok ((fCall_ok (faCons_ok ((fBin_ok (fVar_at rfl) fC_ok).trans (dMod_pos (by decide))) faNil_ok)).trans (?_ : _ = R.ok (.str (PySem.Str.ofString (toString n))) S)) faNil_ok)).trans (?_ : _ = R.ok (.int (PySem.Str.ofString (toString n)).length) S))).trans dAdd_int) fC_ok).trans ?_
    · rw [em]
      unfold dStr
      exact if_pos hlog
    · unfold dLen
      exact if_pos (by rw [sizeLine_eq]; omega)
    · rw [dOrd_int, decide_eq_false (by omega)]
/-- a triple as data -/
def T3 (x y z : Int) : D := .tup [.int x, .int y, .int z]
theorem with_number_0 {x y z n : Int} (h0 : 0 ≤ n) (h : n < 10 ^ 64) (S : Sto) : F_with_number [T3 x y z, .int 0, .int n] S = .ok (T3 n y z) S := by
  refine tidy_same (runB_rt (a := b_with_number) ((sSeq_nx ((sIf_f ((ftTru_ok ((fCall_ok (faCons_ok (fVar_at rfl) faNil_ok)).trans (is_long_ok h0 h S))).trans rfl)).trans rfl)).trans (sRet_ok ?_))) rfl
  rfl
theorem with_number_1 {x y z n : Int} (h0 : 0 ≤ n) (h : n < 10 ^ 64) (S : Sto) : F_with_number [T3 x y z, .int 1, .int n] S = .ok (T3 x n z) S := by
  refine tidy_same (runB_rt (a := b_with_number) ((sSeq_nx ((sIf_f ((ftTru_ok ((fCall_ok (faCons_ok (fVar_at rfl) faNil_ok)).trans (is_long_ok h0 h S))).trans rfl)).trans rfl)).trans (sRet_ok ?_))) rfl
  rfl
theorem turned_at {a x y z : Int} {p k : Int} {d : D} {S : Sto} {j : Int} (hj : p - k = j) (h : L2.atI [D.int x, .int y, .int z] j = some d) :
    fBin dIx (fVar 1) (fBin dSub (fVar 2) (fC (.int k))) [some (.int a), some (T3 x y z), some (.int p)] S = .ok d S := by
  have e1 : fBin dSub (fVar 2) (fC (.int k)) [some (.int a), some (T3 x y z), some (.int p)] S = .ok (.int j) S := by
    rw [← hj]; exact (fBin_ok (fVar_at rfl) fC_ok).trans dSub_int
  exact (fBin_ok (x := T3 x y z) (fVar_at rfl) e1).trans (dIx_tup h)
theorem turned_val {a x y z p n u v w : Int} {S : Sto} (ha : a.natAbs < 2 ^ 64) (hv : v.natAbs < 2 ^ 64) (h1 : L2.atI [D.int x, .int y, .int z] (p - 1) = some (.int u)) (h2 : L2.atI [D.int x, .int y, .int z] (p - 2) = some (.int v)) (h3 : L2.atI [D.int x, .int y, .int z] p = some (.int w)) :
    fBin dSub (fBin dMul (fBin dMul (fVar 0) (fBin dIx (fVar 1) (fBin dSub (fVar 2) (fC (.int 1))))) (fBin dIx (fVar 1) (fBin dSub (fVar 2) (fC (.int 2))))) (fBin dIx (fVar 1) (fVar 2)) [some (.int a), some (T3 x y z), some (.int p)] S = .ok (.int (a * u * v - w)) S := by
  have e1 : fBin dMul (fVar 0) (fBin dIx (fVar 1) (fBin dSub (fVar 2) (fC (.int 1)))) [some (.int a), some (T3 x y z), some (.int p)] S = .ok (.int (a * u)) S := (fBin_ok (fVar_at rfl) (turned_at rfl h1)).trans (dMul_l ha)
  have e2 := (fBin_ok (op := dMul) e1 (turned_at (k := 2) rfl h2)).trans (dMul_r hv)
  have e3 : fBin dIx (fVar 1) (fVar 2) [some (.int a), some (T3 x y z), some (.int p)] S = .ok (.int w) S := (fBin_ok (x := T3 x y z) (y := .int p) (fVar_at rfl) (fVar_at rfl)).trans (dIx_tup h3)
  exact (fBin_ok e2 e3).trans dSub_int
theorem three_turned_0 {a x y z : Int} (ha : a.natAbs < 2 ^ 64) (hy : y.natAbs < 2 ^ 64) (h0 : 0 ≤ a * z * y - x) (h : a * z * y - x < 10 ^ 64) (S : Sto) : F_three_turned [.int a, T3 x y z, .int 0] S = .ok (T3 (a * z * y - x) y z) S := by
  have e := turned_val (S := S) (p := 0) (x := x) (y := y) (z := z) (u := z) (v := y) (w := x) (n := 0) ha hy rfl rfl rfl
  have e4 := (fCall_ok (F := F_with_number) (faCons_ok (f := fVar 1) (x := T3 x y z) (fVar_at rfl) (faCons_ok (f := fVar 2) (x := .int 0) (fVar_at rfl) (faCons_ok e faNil_ok)))).trans (with_number_0 h0 h S)
  exact tidy_same (runB_rt (a := b_three_turned) (sRet_ok e4)) rfl
theorem three_turned_1 {a x y z : Int} (ha : a.natAbs < 2 ^ 64) (hz : z.natAbs < 2 ^ 64) (h0 : 0 ≤ a * x * z - y) (h : a * x * z - y < 10 ^ 64) (S : Sto) : F_three_turned [.int a, T3 x y z, .int 1] S = .ok (T3 x (a * x * z - y) z) S := by
  have e := turned_val (S := S) (p := 1) (x := x) (y := y) (z := z) (u := x) (v := z) (w := y) (n := 0) ha hz rfl rfl rfl
  have e4 := (fCall_ok (F := F_with_number) (faCons_ok (f := fVar 1) (x := T3 x y z) (fVar_at rfl) (faCons_ok (f := fVar 2) (x := .int 1) (fVar_at rfl) (faCons_ok e faNil_ok)))).trans (with_number_1 h0 h S)
  exact tidy_same (runB_rt (a := b_three_turned) (sRet_ok e4)) rfl
theorem sPar_ok {i j : Nat} {fa : FA} {ρ : Env} {S S1 : Sto} {x y : D} (h : fa ρ S = .ok [x, y] S1) : sPar i j fa ρ S = .nx ((ρ.set i (some x)).set j (some y)) S1 := by rw [sPar, h, R.then_ok]
theorem common_loop : ∀ (n : Nat) (x y : Int) (S : Sto), 0 ≤ x → 0 ≤ y → y.toNat = n →
    sWhile (ftB (fBin (dOrd (fun i j => decide (j < i)) (fun o => o == .gt)) (fVar 1) (fC (.int 0)))) (sPar 0 1 (faCons (fVar 1) (faCons (fBin dMod (fCall dInt (faCons (fVar 0) faNil)) (fVar 1)) faNil))) [some (.int x), some (.int y)] S = .nx [some (.int (Int.gcd x y)), some (.int 0)] S := by
  intro n
  induction n using Nat.strongRecOn with
  | ind n ih =>
    intro x y S hx hy hn
    have ht : (ftB (fBin (dOrd (fun i j => decide (j < i)) (fun o => o == .gt)) (fVar 1) (fC (.int 0)))) [some (.int x), some (.int y)] S = .ok (decide (0 < y)) S := ftB_ok ((fBin_ok (x := .int y) (fVar_at rfl) fC_ok).trans dOrd_int)
    by_cases hp : 0 < y
    · rw [decide_eq_true hp] at ht
      have hm : fBin dMod (fCall dInt (faCons (fVar 0) faNil)) (fVar 1) [some (.int x), some (.int y)] S = .ok (.int (x % y)) S :=
        (fBin_ok (x := .int x) (y := .int y) ((fCall_ok (F := dInt) (faCons_ok (x := .int x) (fVar_at rfl) faNil_ok)).trans rfl) (fVar_at rfl)).trans (dMod_pos hp)
      have hb := sPar_ok (i := 0) (j := 1) (faCons_ok (f := fVar 1) (x := .int y) (ρ := [some (.int x), some (.int y)]) (S := S) (fVar_at rfl) (faCons_ok hm faNil_ok))
      have m0 := Int.emod_nonneg x (b := y) (by omega)
      have m1 := Int.emod_lt_of_pos x hp
      refine (sWhile_t ht hb).trans ((ih (x % y).toNat (by omega) y (x % y) S hy m0 rfl).trans ?_)
      rw [show Int.gcd y (x % y) = Int.gcd x y by
        obtain ⟨u, rfl⟩ := Int.eq_ofNat_of_zero_le hx
        obtain ⟨v, rfl⟩ := Int.eq_ofNat_of_zero_le hy
        show Nat.gcd v (u % v) = Nat.gcd u v
        rw [Nat.gcd_comm v, ← Nat.gcd_rec, Nat.gcd_comm]]
    · have e : y = 0 := by omega
      subst e
      rw [decide_eq_false (by omega)] at ht
      refine (sWhile_f ht).trans ?_
      rw [Int.gcd_zero_right, Int.natAbs_of_nonneg hx]
theorem common_ok {x y : Int} (hx : 0 ≤ x) (hy : 0 ≤ y) (S : Sto) : F__law_common [.int x, .int y] S = .ok (.int (Int.gcd x y)) S :=
  tidy_same (runB_rt (a := b__law_common) ((sSeq_nx (common_loop _ x y S hx hy rfl)).trans (sRet_ok (fVar_at rfl)))) rfl
end Y.k59

set_option Elab.async false
set_option linter.all false
set_option maxRecDepth 100000
set_option maxHeartbeats 2000000
/-! P59b: the moves, as the program makes them. -/
namespace Y.k59
open PySem L2 Y
theorem isort3 (a b c : Int) : D.tup ((isort (fun a b => decide (a ≤ b)) [a, b, c]).map .int) = dT (ord3 a b c) := by
  unfold ord3 dT
  simp only [isort, ins]
  by_cases h1 : b ≤ c <;> by_cases h2 : a ≤ b <;> by_cases h3 : a ≤ c <;> simp [ins, h1, h2, h3] <;> omega
def sc (k : Int) (t : Tri) : Tri := (k * t.1, k * t.2.1, k * t.2.2)
theorem ord3_sc {k : Int} (hk : 0 < k) (a b c : Int) : ord3 (k * a) (k * b) (k * c) = sc k (ord3 a b c) := by
  have m : ∀ x y : Int, (k * x ≤ k * y) ↔ (x ≤ y) := fun x y => ⟨fun h => Int.le_of_mul_le_mul_left h hk, fun h => Int.mul_le_mul_of_nonneg_left h (by omega)⟩
  unfold ord3 sc
  simp only [m]
  by_cases h1 : a ≤ b <;> by_cases h2 : b ≤ c <;> by_cases h3 : a ≤ c <;> simp only [h1, h2, h3, if_true, if_false]
/-- the store while threes_to grows -/
def St (S : Sto) (F : List Tri) : Sto := S ++ [.lst (F.map dT), seen (F.map dT)]
theorem dT_inj {a b : Tri} (h : dT a = dT b) : a = b := by
  unfold dT at h
  simp only [D.tup.injEq, List.cons.injEq, D.int.injEq, and_true] at h
  exact Prod.ext h.1 (Prod.ext h.2.1 h.2.2)
theorem mem_dT {F : List Tri} {t : Tri} : dT t ∈ F.map dT ↔ t ∈ F := by
  rw [List.mem_map]
  exact ⟨fun ⟨u, h, e⟩ => dT_inj e ▸ h, fun h => ⟨t, h, rfl⟩⟩
theorem ix2_T {g : Tri} {S : Sto} : dIx (dT g) (.int 2) S = .ok (.int g.2.2) S := rfl
theorem body_ok {F : List Tri} {a most spot p : Int} {t : Tri} {x2 x7 x8 : Option D} {S : Sto} (ht : L2.atI (F.map dT) spot = some (dT t)) (hl : F.length < 1000) {u v w : Int}
   (ht2 : F_three_turned [.int a, dT t, .int p] (St S F) = .ok (T3 u v w) (St S F)) :
  lb_threes_to_2 [some (.int a), some (.int most), x2, some (.ref S.length), some (.ref (S.length + 1)), some (.int spot), some (.int p), x7, x8] (St S F) =
   .nx [some (.int a), some (.int most), x2, some (.ref S.length), some (.ref (S.length + 1)), some (.int spot), some (.int p), x7, some (dT (ord3 u v w))] (St S (add most (ord3 u v w) F)) := by
  have hs := sortG_ints (x := .tup [.int u, .int v, .int w]) (S := St S F) (ns := [u, v, w]) rfl (by simp)
  have hin := in_seen (S := St S F) (j := S.length + 1) (F := F.map dT) (x := dT (ord3 u v w)) (neg := true) (by simp [St]) (keyT_T _)
  have hst := set_seen (S := St S F) (j := S.length + 1) (F := F.map dT) (x := dT (ord3 u v w)) (by simp [St]) (keyT_T _) (by simp; omega)
  have e3 := isort3 u v w
  generalize hg : ord3 u v w = g at *
  unfold T3 at ht2
  simp only [St, ev_bindok, ev_bindex, ev_thenok, ev_thenex, ev_seqnx, ev_seqrt, ev_seqbk, ev_seqct, ev_seqex, ev_lstO, ev_onL, ev_lenOl, ev_lenOk, ev_var0, ev_varS, ev_c, ev_bin, ev_bin1, ev_bin1x, ev_bin2, ev_bin2x, ev_un, ev_nil, ev_cons, ev_cons1, ev_cons1x, ev_cons2, ev_cons2x, ev_tup, ev_tup1, ev_tup1x, ev_lst, ev_lst1, ev_lst1x, ev_if, ev_if1, ev_if1x, ev_call, ev_callK, ev_callK1, ev_callK1x, ev_tru, ev_tB, ev_asB, ev_tNot, ev_tNot1, ev_tNot1x, ev_tAnd, ev_tAnd1, ev_tAnd1x, ev_tOr, ev_tOr1, ev_tOr1x, ev_and, ev_and1, ev_and2, ev_or, ev_or1, ev_or2, ev_not, ev_not1, ev_not2, ev_truB, ev_truI, ev_truT, ev_truN, ev_truL, ev_yes, ev_sl, ev_sl1, ev_sl2, ev_sl3, ev_oN, ev_oS, ev_oS1, ev_slT, ev_slR, ev_slL, ev_add, ev_sub, ev_neg, ev_addT, ev_addL, ev_ord, ev_abs, ev_max2, ev_min2, ev_int, ev_intB, ev_lenT, ev_lenR, ev_lenL, ev_ixT, ev_ixR, ev_ixL, ev_tupT, ev_tupL, ev_revL, ev_ml, ev_ml1, ev_ml2, ev_ml2x, ev_isL, ev_mapp, ev_popC, ev_pop1, ev_pop2, ev_mpop, ev_mext, ev_newK, ev_newN, ev_is, ev_isNot, ev_isnN, ev_isnT, ev_isnI, ev_isnR, ev_nx, ev_seq, ev_asg, ev_asg1, ev_asg1x, ev_kNx, ev_asgT, ev_asgT1, ev_asgT1x, ev_bTup, ev_bName, ev_bCons, ev_bNil, ev_expr, ev_expr1, ev_expr1x, ev_ret, ev_ret1, ev_ret1x, ev_retN, ev_sif, ev_sif1, ev_sif1x, ev_par, ev_par1, ev_par3, ev_par31, ev_setG, ev_setG1, ev_setG2, ev_setG3, ev_setG4, ev_setG1x, ev_break, ev_cont, ev_for, ev_for1, ev_for1x, ev_runB, ev_fiSeq, ev_itT, ev_itR, ev_itL, ev_loopKnx, ev_loopKct, ev_loopKbk, ev_loopKrt, ev_loopKex, ev_loopN, ev_turn, ev_loopC, ev_wh1, ev_g4s, ev_g4n, ev_get2, ev_get21, ev_get22, ev_get23, ev_get1, ev_get11, ev_get12, ev_x3, ev_ixG, ev_ixG1, ev_ixG2, ev_gT, ev_gD, ev_gD1, ev_isGt, ev_gAti, ev_dc, ev_dc1, ev_lc, ev_lc1, ev_wipe0, ev_wipe, ev_empN, ev_empK, ev_chk1, ev_fiRng1, ev_fiRng11, ev_fiRng2, ev_fiRng21, ev_fiRng22, st_len, st_app, st_at0, st_at, st_set0, st_set, st_take, ev_ftidy, ev_fttidy, optR_some, List.set_cons_zero, List.set_cons_succ, List.length_cons, List.length_nil, List.cons_append, List.nil_append, List.map_cons, List.map_nil, List.getElem?_cons_zero, List.getElem?_cons_succ, if_true, if_false, decide_eq_true_eq, Bool.false_eq_true, reduceIte, Option.bind_some, Nat.add_assoc, Nat.reduceAdd, Nat.reduceSub, Nat.reduceLeDiff, Nat.zero_add, List.replicate, sizeLine_eq, List.length_map, Option.map_some, Option.isSome_some, gt_iff_lt, Bool.not_true, Bool.not_false, Nat.reduceLT, nf_non, nf_int, nf_bl, nf_str, nf_tup, nf_ro, nf_nil, nf_cons, nf_T, flats_T, ints_flat, Bool.and_self, Bool.true_and, Bool.and_true, tidy_app, tidyB_app, tidy_appL, dEq_int, List.cons_prefix_cons, List.nil_prefix, true_and, and_true, and_self, tidy_ok, tidy_ok0, tidyB_ok, tidyB_ok0, decide_true, decide_false, not_true_eq_false, not_false_eq_true, and_false, false_and, List.isEmpty_cons, List.isEmpty_nil] at ht2 hs hin hst ⊢
  simp only [lb_threes_to_2, ev_bindok, ev_bindex, ev_thenok, ev_thenex, ev_seqnx, ev_seqrt, ev_seqbk, ev_seqct, ev_seqex, ev_lstO, ev_onL, ev_lenOl, ev_lenOk, ev_var0, ev_varS, ev_c, ev_bin, ev_bin1, ev_bin1x, ev_bin2, ev_bin2x, ev_un, ev_nil, ev_cons, ev_cons1, ev_cons1x, ev_cons2, ev_cons2x, ev_tup, ev_tup1, ev_tup1x, ev_lst, ev_lst1, ev_lst1x, ev_if, ev_if1, ev_if1x, ev_call, ev_callK, ev_callK1, ev_callK1x, ev_tru, ev_tB, ev_asB, ev_tNot, ev_tNot1, ev_tNot1x, ev_tAnd, ev_tAnd1, ev_tAnd1x, ev_tOr, ev_tOr1, ev_tOr1x, ev_and, ev_and1, ev_and2, ev_or, ev_or1, ev_or2, ev_not, ev_not1, ev_not2, ev_truB, ev_truI, ev_truT, ev_truN, ev_truL, ev_yes, ev_sl, ev_sl1, ev_sl2, ev_sl3, ev_oN, ev_oS, ev_oS1, ev_slT, ev_slR, ev_slL, ev_add, ev_sub, ev_neg, ev_addT, ev_addL, ev_ord, ev_abs, ev_max2, ev_min2, ev_int, ev_intB, ev_lenT, ev_lenR, ev_lenL, ev_ixT, ev_ixR, ev_ixL, ev_tupT, ev_tupL, ev_revL, ev_ml, ev_ml1, ev_ml2, ev_ml2x, ev_isL, ev_mapp, ev_popC, ev_pop1, ev_pop2, ev_mpop, ev_mext, ev_newK, ev_newN, ev_is, ev_isNot, ev_isnN, ev_isnT, ev_isnI, ev_isnR, ev_nx, ev_seq, ev_asg, ev_asg1, ev_asg1x, ev_kNx, ev_asgT, ev_asgT1, ev_asgT1x, ev_bTup, ev_bName, ev_bCons, ev_bNil, ev_expr, ev_expr1, ev_expr1x, ev_ret, ev_ret1, ev_ret1x, ev_retN, ev_sif, ev_sif1, ev_sif1x, ev_par, ev_par1, ev_par3, ev_par31, ev_setG, ev_setG1, ev_setG2, ev_setG3, ev_setG4, ev_setG1x, ev_break, ev_cont, ev_for, ev_for1, ev_for1x, ev_runB, ev_fiSeq, ev_itT, ev_itR, ev_itL, ev_loopKnx, ev_loopKct, ev_loopKbk, ev_loopKrt, ev_loopKex, ev_loopN, ev_turn, ev_loopC, ev_wh1, ev_g4s, ev_g4n, ev_get2, ev_get21, ev_get22, ev_get23, ev_get1, ev_get11, ev_get12, ev_x3, ev_ixG, ev_ixG1, ev_ixG2, ev_gT, ev_gD, ev_gD1, ev_isGt, ev_gAti, ev_dc, ev_dc1, ev_lc, ev_lc1, ev_wipe0, ev_wipe, ev_empN, ev_empK, ev_chk1, ev_fiRng1, ev_fiRng11, ev_fiRng2, ev_fiRng21, ev_fiRng22, st_len, st_app, st_at0, st_at, st_set0, st_set, st_take, ev_ftidy, ev_fttidy, optR_some, List.set_cons_zero, List.set_cons_succ, List.length_cons, List.length_nil, List.cons_append, List.nil_append, List.map_cons, List.map_nil, List.getElem?_cons_zero, List.getElem?_cons_succ, if_true, if_false, decide_eq_true_eq, Bool.false_eq_true, reduceIte, Option.bind_some, Nat.add_assoc, Nat.reduceAdd, Nat.reduceSub, Nat.reduceLeDiff, Nat.zero_add, List.replicate, sizeLine_eq, List.length_map, Option.map_some, Option.isSome_some, gt_iff_lt, Bool.not_true, Bool.not_false, Nat.reduceLT, nf_non, nf_int, nf_bl, nf_str, nf_tup, nf_ro, nf_nil, nf_cons, nf_T, flats_T, ints_flat, Bool.and_self, Bool.true_and, Bool.and_true, tidy_app, tidyB_app, tidy_appL, dEq_int, List.cons_prefix_cons, List.nil_prefix, true_and, and_true, and_self, tidy_ok, tidy_ok0, tidyB_ok, tidyB_ok0, decide_true, decide_false, not_true_eq_false, not_false_eq_true, and_false, false_and, List.isEmpty_cons, List.isEmpty_nil, ht, ht2, hs, e3, hin, hst, ix2_T]
  by_cases h1 : g.2.2 ≤ most
  · by_cases h2 : g ∈ F
    · simp only [ev_bindok, ev_bindex, ev_thenok, ev_thenex, ev_seqnx, ev_seqrt, ev_seqbk, ev_seqct, ev_seqex, ev_lstO, ev_onL, ev_lenOl, ev_lenOk, ev_var0, ev_varS, ev_c, ev_bin, ev_bin1, ev_bin1x, ev_bin2, ev_bin2x, ev_un, ev_nil, ev_cons, ev_cons1, ev_cons1x, ev_cons2, ev_cons2x, ev_tup, ev_tup1, ev_tup1x, ev_lst, ev_lst1, ev_lst1x, ev_if, ev_if1, ev_if1x, ev_call, ev_callK, ev_callK1, ev_callK1x, ev_tru, ev_tB, ev_asB, ev_tNot, ev_tNot1, ev_tNot1x, ev_tAnd, ev_tAnd1, ev_tAnd1x, ev_tOr, ev_tOr1, ev_tOr1x, ev_and, ev_and1, ev_and2, ev_or, ev_or1, ev_or2, ev_not, ev_not1, ev_not2, ev_truB, ev_truI, ev_truT, ev_truN, ev_truL, ev_yes, ev_sl, ev_sl1, ev_sl2, ev_sl3, ev_oN, ev_oS, ev_oS1, ev_slT, ev_slR, ev_slL, ev_add, ev_sub, ev_neg, ev_addT, ev_addL, ev_ord, ev_abs, ev_max2, ev_min2, ev_int, ev_intB, ev_lenT, ev_lenR, ev_lenL, ev_ixT, ev_ixR, ev_ixL, ev_tupT, ev_tupL, ev_revL, ev_ml, ev_ml1, ev_ml2, ev_ml2x, ev_isL, ev_mapp, ev_popC, ev_pop1, ev_pop2, ev_mpop, ev_mext, ev_newK, ev_newN, ev_is, ev_isNot, ev_isnN, ev_isnT, ev_isnI, ev_isnR, ev_nx, ev_seq, ev_asg, ev_asg1, ev_asg1x, ev_kNx, ev_asgT, ev_asgT1, ev_asgT1x, ev_bTup, ev_bName, ev_bCons, ev_bNil, ev_expr, ev_expr1, ev_expr1x, ev_ret, ev_ret1, ev_ret1x, ev_retN, ev_sif, ev_sif1, ev_sif1x, ev_par, ev_par1, ev_par3, ev_par31, ev_setG, ev_setG1, ev_setG2, ev_setG3, ev_setG4, ev_setG1x, ev_break, ev_cont, ev_for, ev_for1, ev_for1x, ev_runB, ev_fiSeq, ev_itT, ev_itR, ev_itL, ev_loopKnx, ev_loopKct, ev_loopKbk, ev_loopKrt, ev_loopKex, ev_loopN, ev_turn, ev_loopC, ev_wh1, ev_g4s, ev_g4n, ev_get2, ev_get21, ev_get22, ev_get23, ev_get1, ev_get11, ev_get12, ev_x3, ev_ixG, ev_ixG1, ev_ixG2, ev_gT, ev_gD, ev_gD1, ev_isGt, ev_gAti, ev_dc, ev_dc1, ev_lc, ev_lc1, ev_wipe0, ev_wipe, ev_empN, ev_empK, ev_chk1, ev_fiRng1, ev_fiRng11, ev_fiRng2, ev_fiRng21, ev_fiRng22, st_len, st_app, st_at0, st_at, st_set0, st_set, st_take, ev_ftidy, ev_fttidy, optR_some, List.set_cons_zero, List.set_cons_succ, List.length_cons, List.length_nil, List.cons_append, List.nil_append, List.map_cons, List.map_nil, List.getElem?_cons_zero, List.getElem?_cons_succ, if_true, if_false, decide_eq_true_eq, Bool.false_eq_true, reduceIte, Option.bind_some, Nat.add_assoc, Nat.reduceAdd, Nat.reduceSub, Nat.reduceLeDiff, Nat.zero_add, List.replicate, sizeLine_eq, List.length_map, Option.map_some, Option.isSome_some, gt_iff_lt, Bool.not_true, Bool.not_false, Nat.reduceLT, nf_non, nf_int, nf_bl, nf_str, nf_tup, nf_ro, nf_nil, nf_cons, nf_T, flats_T, ints_flat, Bool.and_self, Bool.true_and, Bool.and_true, tidy_app, tidyB_app, tidy_appL, dEq_int, List.cons_prefix_cons, List.nil_prefix, true_and, and_true, and_self, tidy_ok, tidy_ok0, tidyB_ok, tidyB_ok0, decide_true, decide_false, not_true_eq_false, not_false_eq_true, and_false, false_and, List.isEmpty_cons, List.isEmpty_nil, add, h1, h2, mem_dT]
    · have hl' : F.length < 16777216 := by omega
      simp only [mem_dT, h2, ev_bindok, ev_bindex, ev_thenok, ev_thenex, ev_seqnx, ev_seqrt, ev_seqbk, ev_seqct, ev_seqex, ev_lstO, ev_onL, ev_lenOl, ev_lenOk, ev_var0, ev_varS, ev_c, ev_bin, ev_bin1, ev_bin1x, ev_bin2, ev_bin2x, ev_un, ev_nil, ev_cons, ev_cons1, ev_cons1x, ev_cons2, ev_cons2x, ev_tup, ev_tup1, ev_tup1x, ev_lst, ev_lst1, ev_lst1x, ev_if, ev_if1, ev_if1x, ev_call, ev_callK, ev_callK1, ev_callK1x, ev_tru, ev_tB, ev_asB, ev_tNot, ev_tNot1, ev_tNot1x, ev_tAnd, ev_tAnd1, ev_tAnd1x, ev_tOr, ev_tOr1, ev_tOr1x, ev_and, ev_and1, ev_and2, ev_or, ev_or1, ev_or2, ev_not, ev_not1, ev_not2, ev_truB, ev_truI, ev_truT, ev_truN, ev_truL, ev_yes, ev_sl, ev_sl1, ev_sl2, ev_sl3, ev_oN, ev_oS, ev_oS1, ev_slT, ev_slR, ev_slL, ev_add, ev_sub, ev_neg, ev_addT, ev_addL, ev_ord, ev_abs, ev_max2, ev_min2, ev_int, ev_intB, ev_lenT, ev_lenR, ev_lenL, ev_ixT, ev_ixR, ev_ixL, ev_tupT, ev_tupL, ev_revL, ev_ml, ev_ml1, ev_ml2, ev_ml2x, ev_isL, ev_mapp, ev_popC, ev_pop1, ev_pop2, ev_mpop, ev_mext, ev_newK, ev_newN, ev_is, ev_isNot, ev_isnN, ev_isnT, ev_isnI, ev_isnR, ev_nx, ev_seq, ev_asg, ev_asg1, ev_asg1x, ev_kNx, ev_asgT, ev_asgT1, ev_asgT1x, ev_bTup, ev_bName, ev_bCons, ev_bNil, ev_expr, ev_expr1, ev_expr1x, ev_ret, ev_ret1, ev_ret1x, ev_retN, ev_sif, ev_sif1, ev_sif1x, ev_par, ev_par1, ev_par3, ev_par31, ev_setG, ev_setG1, ev_setG2, ev_setG3, ev_setG4, ev_setG1x, ev_break, ev_cont, ev_for, ev_for1, ev_for1x, ev_runB, ev_fiSeq, ev_itT, ev_itR, ev_itL, ev_loopKnx, ev_loopKct, ev_loopKbk, ev_loopKrt, ev_loopKex, ev_loopN, ev_turn, ev_loopC, ev_wh1, ev_g4s, ev_g4n, ev_get2, ev_get21, ev_get22, ev_get23, ev_get1, ev_get11, ev_get12, ev_x3, ev_ixG, ev_ixG1, ev_ixG2, ev_gT, ev_gD, ev_gD1, ev_isGt, ev_gAti, ev_dc, ev_dc1, ev_lc, ev_lc1, ev_wipe0, ev_wipe, ev_empN, ev_empK, ev_chk1, ev_fiRng1, ev_fiRng11, ev_fiRng2, ev_fiRng21, ev_fiRng22, st_len, st_app, st_at0, st_at, st_set0, st_set, st_take, ev_ftidy, ev_fttidy, optR_some, List.set_cons_zero, List.set_cons_succ, List.length_cons, List.length_nil, List.cons_append, List.nil_append, List.map_cons, List.map_nil, List.getElem?_cons_zero, List.getElem?_cons_succ, if_true, if_false, decide_eq_true_eq, Bool.false_eq_true, reduceIte, Option.bind_some, Nat.add_assoc, Nat.reduceAdd, Nat.reduceSub, Nat.reduceLeDiff, Nat.zero_add, List.replicate, sizeLine_eq, List.length_map, Option.map_some, Option.isSome_some, gt_iff_lt, Bool.not_true, Bool.not_false, Nat.reduceLT, nf_non, nf_int, nf_bl, nf_str, nf_tup, nf_ro, nf_nil, nf_cons, nf_T, flats_T, ints_flat, Bool.and_self, Bool.true_and, Bool.and_true, tidy_app, tidyB_app, tidy_appL, dEq_int, List.cons_prefix_cons, List.nil_prefix, true_and, and_true, and_self, tidy_ok, tidy_ok0, tidyB_ok, tidyB_ok0, decide_true, decide_false, not_true_eq_false, not_false_eq_true, and_false, false_and, List.isEmpty_cons, List.isEmpty_nil] at hst
      simp only [ev_bindok, ev_bindex, ev_thenok, ev_thenex, ev_seqnx, ev_seqrt, ev_seqbk, ev_seqct, ev_seqex, ev_lstO, ev_onL, ev_lenOl, ev_lenOk, ev_var0, ev_varS, ev_c, ev_bin, ev_bin1, ev_bin1x, ev_bin2, ev_bin2x, ev_un, ev_nil, ev_cons, ev_cons1, ev_cons1x, ev_cons2, ev_cons2x, ev_tup, ev_tup1, ev_tup1x, ev_lst, ev_lst1, ev_lst1x, ev_if, ev_if1, ev_if1x, ev_call, ev_callK, ev_callK1, ev_callK1x, ev_tru, ev_tB, ev_asB, ev_tNot, ev_tNot1, ev_tNot1x, ev_tAnd, ev_tAnd1, ev_tAnd1x, ev_tOr, ev_tOr1, ev_tOr1x, ev_and, ev_and1, ev_and2, ev_or, ev_or1, ev_or2, ev_not, ev_not1, ev_not2, ev_truB, ev_truI, ev_truT, ev_truN, ev_truL, ev_yes, ev_sl, ev_sl1, ev_sl2, ev_sl3, ev_oN, ev_oS, ev_oS1, ev_slT, ev_slR, ev_slL, ev_add, ev_sub, ev_neg, ev_addT, ev_addL, ev_ord, ev_abs, ev_max2, ev_min2, ev_int, ev_intB, ev_lenT, ev_lenR, ev_lenL, ev_ixT, ev_ixR, ev_ixL, ev_tupT, ev_tupL, ev_revL, ev_ml, ev_ml1, ev_ml2, ev_ml2x, ev_isL, ev_mapp, ev_popC, ev_pop1, ev_pop2, ev_mpop, ev_mext, ev_newK, ev_newN, ev_is, ev_isNot, ev_isnN, ev_isnT, ev_isnI, ev_isnR, ev_nx, ev_seq, ev_asg, ev_asg1, ev_asg1x, ev_kNx, ev_asgT, ev_asgT1, ev_asgT1x, ev_bTup, ev_bName, ev_bCons, ev_bNil, ev_expr, ev_expr1, ev_expr1x, ev_ret, ev_ret1, ev_ret1x, ev_retN, ev_sif, ev_sif1, ev_sif1x, ev_par, ev_par1, ev_par3, ev_par31, ev_setG, ev_setG1, ev_setG2, ev_setG3, ev_setG4, ev_setG1x, ev_break, ev_cont, ev_for, ev_for1, ev_for1x, ev_runB, ev_fiSeq, ev_itT, ev_itR, ev_itL, ev_loopKnx, ev_loopKct, ev_loopKbk, ev_loopKrt, ev_loopKex, ev_loopN, ev_turn, ev_loopC, ev_wh1, ev_g4s, ev_g4n, ev_get2, ev_get21, ev_get22, ev_get23, ev_get1, ev_get11, ev_get12, ev_x3, ev_ixG, ev_ixG1, ev_ixG2, ev_gT, ev_gD, ev_gD1, ev_isGt, ev_gAti, ev_dc, ev_dc1, ev_lc, ev_lc1, ev_wipe0, ev_wipe, ev_empN, ev_empK, ev_chk1, ev_fiRng1, ev_fiRng11, ev_fiRng2, ev_fiRng21, ev_fiRng22, st_len, st_app, st_at0, st_at, st_set0, st_set, st_take, ev_ftidy, ev_fttidy, optR_some, List.set_cons_zero, List.set_cons_succ, List.length_cons, List.length_nil, List.cons_append, List.nil_append, List.map_cons, List.map_nil, List.getElem?_cons_zero, List.getElem?_cons_succ, if_true, if_false, decide_eq_true_eq, Bool.false_eq_true, reduceIte, Option.bind_some, Nat.add_assoc, Nat.reduceAdd, Nat.reduceSub, Nat.reduceLeDiff, Nat.zero_add, List.replicate, sizeLine_eq, List.length_map, Option.map_some, Option.isSome_some, gt_iff_lt, Bool.not_true, Bool.not_false, Nat.reduceLT, nf_non, nf_int, nf_bl, nf_str, nf_tup, nf_ro, nf_nil, nf_cons, nf_T, flats_T, ints_flat, Bool.and_self, Bool.true_and, Bool.and_true, tidy_app, tidyB_app, tidy_appL, dEq_int, List.cons_prefix_cons, List.nil_prefix, true_and, and_true, and_self, tidy_ok, tidy_ok0, tidyB_ok, tidyB_ok0, decide_true, decide_false, not_true_eq_false, not_false_eq_true, and_false, false_and, List.isEmpty_cons, List.isEmpty_nil, add, h1, h2, mem_dT, hst, hl', List.map_append]
  · simp only [ev_bindok, ev_bindex, ev_thenok, ev_thenex, ev_seqnx, ev_seqrt, ev_seqbk, ev_seqct, ev_seqex, ev_lstO, ev_onL, ev_lenOl, ev_lenOk, ev_var0, ev_varS, ev_c, ev_bin, ev_bin1, ev_bin1x, ev_bin2, ev_bin2x, ev_un, ev_nil, ev_cons, ev_cons1, ev_cons1x, ev_cons2, ev_cons2x, ev_tup, ev_tup1, ev_tup1x, ev_lst, ev_lst1, ev_lst1x, ev_if, ev_if1, ev_if1x, ev_call, ev_callK, ev_callK1, ev_callK1x, ev_tru, ev_tB, ev_asB, ev_tNot, ev_tNot1, ev_tNot1x, ev_tAnd, ev_tAnd1, ev_tAnd1x, ev_tOr, ev_tOr1, ev_tOr1x, ev_and, ev_and1, ev_and2, ev_or, ev_or1, ev_or2, ev_not, ev_not1, ev_not2, ev_truB, ev_truI, ev_truT, ev_truN, ev_truL, ev_yes, ev_sl, ev_sl1, ev_sl2, ev_sl3, ev_oN, ev_oS, ev_oS1, ev_slT, ev_slR, ev_slL, ev_add, ev_sub, ev_neg, ev_addT, ev_addL, ev_ord, ev_abs, ev_max2, ev_min2, ev_int, ev_intB, ev_lenT, ev_lenR, ev_lenL, ev_ixT, ev_ixR, ev_ixL, ev_tupT, ev_tupL, ev_revL, ev_ml, ev_ml1, ev_ml2, ev_ml2x, ev_isL, ev_mapp, ev_popC, ev_pop1, ev_pop2, ev_mpop, ev_mext, ev_newK, ev_newN, ev_is, ev_isNot, ev_isnN, ev_isnT, ev_isnI, ev_isnR, ev_nx, ev_seq, ev_asg, ev_asg1, ev_asg1x, ev_kNx, ev_asgT, ev_asgT1, ev_asgT1x, ev_bTup, ev_bName, ev_bCons, ev_bNil, ev_expr, ev_expr1, ev_expr1x, ev_ret, ev_ret1, ev_ret1x, ev_retN, ev_sif, ev_sif1, ev_sif1x, ev_par, ev_par1, ev_par3, ev_par31, ev_setG, ev_setG1, ev_setG2, ev_setG3, ev_setG4, ev_setG1x, ev_break, ev_cont, ev_for, ev_for1, ev_for1x, ev_runB, ev_fiSeq, ev_itT, ev_itR, ev_itL, ev_loopKnx, ev_loopKct, ev_loopKbk, ev_loopKrt, ev_loopKex, ev_loopN, ev_turn, ev_loopC, ev_wh1, ev_g4s, ev_g4n, ev_get2, ev_get21, ev_get22, ev_get23, ev_get1, ev_get11, ev_get12, ev_x3, ev_ixG, ev_ixG1, ev_ixG2, ev_gT, ev_gD, ev_gD1, ev_isGt, ev_gAti, ev_dc, ev_dc1, ev_lc, ev_lc1, ev_wipe0, ev_wipe, ev_empN, ev_empK, ev_chk1, ev_fiRng1, ev_fiRng11, ev_fiRng2, ev_fiRng21, ev_fiRng22, st_len, st_app, st_at0, st_at, st_set0, st_set, st_take, ev_ftidy, ev_fttidy, optR_some, List.set_cons_zero, List.set_cons_succ, List.length_cons, List.length_nil, List.cons_append, List.nil_append, List.map_cons, List.map_nil, List.getElem?_cons_zero, List.getElem?_cons_succ, if_true, if_false, decide_eq_true_eq, Bool.false_eq_true, reduceIte, Option.bind_some, Nat.add_assoc, Nat.reduceAdd, Nat.reduceSub, Nat.reduceLeDiff, Nat.zero_add, List.replicate, sizeLine_eq, List.length_map, Option.map_some, Option.isSome_some, gt_iff_lt, Bool.not_true, Bool.not_false, Nat.reduceLT, nf_non, nf_int, nf_bl, nf_str, nf_tup, nf_ro, nf_nil, nf_cons, nf_T, flats_T, ints_flat, Bool.and_self, Bool.true_and, Bool.and_true, tidy_app, tidyB_app, tidy_appL, dEq_int, List.cons_prefix_cons, List.nil_prefix, true_and, and_true, and_self, tidy_ok, tidy_ok0, tidyB_ok, tidyB_ok0, decide_true, decide_false, not_true_eq_false, not_false_eq_true, and_false, false_and, List.isEmpty_cons, List.isEmpty_nil, add, h1]
theorem turned_sc0 {k a : Int} (hk : k = 1 ∧ a = 3 ∨ k = 3 ∧ a = 1) {t : Tri} (ht : t ∈ Ls) (S : Sto) : F_three_turned [.int a, dT (sc k t), .int 0] S = .ok (T3 (k * (3 * t.2.2 * t.2.1 - t.1)) (k * t.2.1) (k * t.2.2)) S := by
  obtain ⟨x, y, z⟩ := t
  have o := ok_ ht
  dsimp only at o ⊢
  have b1 : z * y ≤ 1000000000000 * 1000000000000 := Int.mul_le_mul (by omega) (by omega) (by omega) (by omega)
  have b2 : 1 * y ≤ z * y := Int.mul_le_mul_of_nonneg_right (by omega) (by omega)
  have e : a * (k * z) * (k * y) - k * x = k * (3 * z * y - x) := by
    rcases hk with ⟨rfl, rfl⟩ | ⟨rfl, rfl⟩ <;> grind
  have e2 : 3 * z * y = 3 * (z * y) := by grind
  rw [← e]
  refine three_turned_0 (x := k * x) (y := k * y) (z := k * z) (by omega) (by rcases hk with ⟨rfl, rfl⟩ | ⟨rfl, rfl⟩ <;> omega) ?_ ?_ S <;> rw [e, e2] <;> rcases hk with ⟨rfl, rfl⟩ | ⟨rfl, rfl⟩ <;> omega
theorem turned_sc1 {k a : Int} (hk : k = 1 ∧ a = 3 ∨ k = 3 ∧ a = 1) {t : Tri} (ht : t ∈ Ls) (S : Sto) : F_three_turned [.int a, dT (sc k t), .int 1] S = .ok (T3 (k * t.1) (k * (3 * t.1 * t.2.2 - t.2.1)) (k * t.2.2)) S := by
  obtain ⟨x, y, z⟩ := t
  have o := ok_ ht
  dsimp only at o ⊢
  have b1 : x * z ≤ 1000000000000 * 1000000000000 := Int.mul_le_mul (by omega) (by omega) (by omega) (by omega)
  have b2 : 1 * z ≤ x * z := Int.mul_le_mul_of_nonneg_right (by omega) (by omega)
  have e : a * (k * x) * (k * z) - k * y = k * (3 * x * z - y) := by
    rcases hk with ⟨rfl, rfl⟩ | ⟨rfl, rfl⟩ <;> grind
  have e2 : 3 * x * z = 3 * (x * z) := by grind
  rw [← e]
  refine three_turned_1 (x := k * x) (y := k * y) (z := k * z) (by omega) (by rcases hk with ⟨rfl, rfl⟩ | ⟨rfl, rfl⟩ <;> omega) ?_ ?_ S <;> rw [e, e2] <;> rcases hk with ⟨rfl, rfl⟩ | ⟨rfl, rfl⟩ <;> omega
theorem sc_inj {k : Int} (hk : 0 < k) {s t : Tri} (h : sc k s = sc k t) : s = t := by
  have m : ∀ x y : Int, k * x = k * y → x = y := fun x y h => Int.eq_of_mul_eq_mul_left (by omega) h
  unfold sc at h
  simp only [Prod.mk.injEq] at h
  exact Prod.ext (m _ _ h.1) (Prod.ext (m _ _ h.2.1) (m _ _ h.2.2))
theorem mem_sc {k : Int} (hk : 0 < k) {F : List Tri} {t : Tri} : sc k t ∈ F.map (sc k) ↔ t ∈ F := by
  rw [List.mem_map]
  exact ⟨fun ⟨u, h, e⟩ => sc_inj hk e ▸ h, fun h => ⟨t, h, rfl⟩⟩
theorem add_sc {k most : Int} (hk : 0 < k) {F : List Tri} {t : Tri} : add most (sc k t) (F.map (sc k)) = (add (most / k) t F).map (sc k) := by
  unfold add
  have e : (sc k t).2.2 ≤ most ↔ t.2.2 ≤ most / k := by rw [Int.le_ediv_iff_mul_le hk, Int.mul_comm]; rfl
  simp only [e, mem_sc hk]
  split <;> simp
theorem pos_k {k a : Int} (hk : k = 1 ∧ a = 3 ∨ k = 3 ∧ a = 1) : 0 < k := by omega
/-- one turn of the loop -/
theorem turn_ok {k a : Int} (hk : k = 1 ∧ a = 3 ∨ k = 3 ∧ a = 1) {F : List Tri} {most : Int} {n : Nat} {t : Tri} {x2 x6 x7 x8 : Option D} {S : Sto} (hm : most / k ≤ 1000000000000) (hF : Gd (most / k) F) (ht : F[n]? = some t) :
  ∃ x6' x8', lb_threes_to_5 [some (.int a), some (.int most), x2, some (.ref S.length), some (.ref (S.length + 1)), some (.int n), x6, x7, x8] (St S (F.map (sc k))) =
   .nx [some (.int a), some (.int most), x2, some (.ref S.length), some (.ref (S.length + 1)), some (.int (n + 1 : Nat)), x6', x7, x8'] (St S ((grow (most / k) t F).map (sc k))) := by
  have kp := pos_k hk
  have htL := hF.inL t (List.mem_of_getElem? ht)
  have at_ : ∀ G : List Tri, G[n]? = some t → L2.atI ((G.map (sc k)).map dT) n = some (dT (sc k t)) := fun G hG => by
    have hlt : n < G.length := (List.getElem?_eq_some_iff.mp hG).1
    rw [atI_nat (by omega) (by simp; omega)]
    simp [hG]
  have g1 := hF.add (t := mv0 t) fun z => (closed htL).1 (by omega)
  have p1 : (add (most / k) (mv0 t) F)[n]? = some t := by
    unfold add; split
    · rw [List.getElem?_append_left (List.getElem?_eq_some_iff.mp ht).1]; exact ht
    · exact ht
  have l0 := hF.len
  have l1 := g1.len
  have b0 := body_ok (F := F.map (sc k)) (most := most) (x2 := x2) (x7 := x7) (x8 := x8) (S := S) (at_ F ht) (by simp; omega) (turned_sc0 hk htL _)
  rw [ord3_sc kp, show ord3 (3 * t.2.2 * t.2.1 - t.1) t.2.1 t.2.2 = mv0 t from rfl, add_sc kp] at b0
  have b1 := body_ok (F := (add (most / k) (mv0 t) F).map (sc k)) (most := most) (x2 := x2) (x7 := x7) (x8 := some (dT (sc k (mv0 t)))) (S := S) (at_ _ p1) (by simp; omega) (turned_sc1 hk htL _)
  rw [ord3_sc kp, show ord3 t.1 (3 * t.1 * t.2.2 - t.2.1) t.2.2 = mv1 t from rfl, add_sc kp] at b1
  refine ⟨some (.int 1), some (dT (sc k (mv1 t))), ?_⟩
  simp only [lb_threes_to_5, lp_threes_to_3, ev_bindok, ev_bindex, ev_thenok, ev_thenex, ev_seqnx, ev_seqrt, ev_seqbk, ev_seqct, ev_seqex, ev_lstO, ev_onL, ev_lenOl, ev_lenOk, ev_var0, ev_varS, ev_c, ev_bin, ev_bin1, ev_bin1x, ev_bin2, ev_bin2x, ev_un, ev_nil, ev_cons, ev_cons1, ev_cons1x, ev_cons2, ev_cons2x, ev_tup, ev_tup1, ev_tup1x, ev_lst, ev_lst1, ev_lst1x, ev_if, ev_if1, ev_if1x, ev_call, ev_callK, ev_callK1, ev_callK1x, ev_tru, ev_tB, ev_asB, ev_tNot, ev_tNot1, ev_tNot1x, ev_tAnd, ev_tAnd1, ev_tAnd1x, ev_tOr, ev_tOr1, ev_tOr1x, ev_and, ev_and1, ev_and2, ev_or, ev_or1, ev_or2, ev_not, ev_not1, ev_not2, ev_truB, ev_truI, ev_truT, ev_truN, ev_truL, ev_yes, ev_sl, ev_sl1, ev_sl2, ev_sl3, ev_oN, ev_oS, ev_oS1, ev_slT, ev_slR, ev_slL, ev_add, ev_sub, ev_neg, ev_addT, ev_addL, ev_ord, ev_abs, ev_max2, ev_min2, ev_int, ev_intB, ev_lenT, ev_lenR, ev_lenL, ev_ixT, ev_ixR, ev_ixL, ev_tupT, ev_tupL, ev_revL, ev_ml, ev_ml1, ev_ml2, ev_ml2x, ev_isL, ev_mapp, ev_popC, ev_pop1, ev_pop2, ev_mpop, ev_mext, ev_newK, ev_newN, ev_is, ev_isNot, ev_isnN, ev_isnT, ev_isnI, ev_isnR, ev_nx, ev_seq, ev_asg, ev_asg1, ev_asg1x, ev_kNx, ev_asgT, ev_asgT1, ev_asgT1x, ev_bTup, ev_bName, ev_bCons, ev_bNil, ev_expr, ev_expr1, ev_expr1x, ev_ret, ev_ret1, ev_ret1x, ev_retN, ev_sif, ev_sif1, ev_sif1x, ev_par, ev_par1, ev_par3, ev_par31, ev_setG, ev_setG1, ev_setG2, ev_setG3, ev_setG4, ev_setG1x, ev_break, ev_cont, ev_for, ev_for1, ev_for1x, ev_runB, ev_fiSeq, ev_itT, ev_itR, ev_itL, ev_loopKnx, ev_loopKct, ev_loopKbk, ev_loopKrt, ev_loopKex, ev_loopN, ev_turn, ev_loopC, ev_wh1, ev_g4s, ev_g4n, ev_get2, ev_get21, ev_get22, ev_get23, ev_get1, ev_get11, ev_get12, ev_x3, ev_ixG, ev_ixG1, ev_ixG2, ev_gT, ev_gD, ev_gD1, ev_isGt, ev_gAti, ev_dc, ev_dc1, ev_lc, ev_lc1, ev_wipe0, ev_wipe, ev_empN, ev_empK, ev_chk1, ev_fiRng1, ev_fiRng11, ev_fiRng2, ev_fiRng21, ev_fiRng22, st_len, st_app, st_at0, st_at, st_set0, st_set, st_take, ev_ftidy, ev_fttidy, optR_some, List.set_cons_zero, List.set_cons_succ, List.length_cons, List.length_nil, List.cons_append, List.nil_append, List.map_cons, List.map_nil, List.getElem?_cons_zero, List.getElem?_cons_succ, if_true, if_false, decide_eq_true_eq, Bool.false_eq_true, reduceIte, Option.bind_some, Nat.add_assoc, Nat.reduceAdd, Nat.reduceSub, Nat.reduceLeDiff, Nat.zero_add, List.replicate, sizeLine_eq, List.length_map, Option.map_some, Option.isSome_some, gt_iff_lt, Bool.not_true, Bool.not_false, Nat.reduceLT, nf_non, nf_int, nf_bl, nf_str, nf_tup, nf_ro, nf_nil, nf_cons, nf_T, flats_T, ints_flat, Bool.and_self, Bool.true_and, Bool.and_true, tidy_app, tidyB_app, tidy_appL, dEq_int, List.cons_prefix_cons, List.nil_prefix, true_and, and_true, and_self, tidy_ok, tidy_ok0, tidyB_ok, tidyB_ok0, decide_true, decide_false, not_true_eq_false, not_false_eq_true, and_false, false_and, List.isEmpty_cons, List.isEmpty_nil, b0, b1]
  rfl
theorem while_ok {k a : Int} (hk : k = 1 ∧ a = 3 ∨ k = 3 ∧ a = 1) {most : Int} {x2 x7 : Option D} {S : Sto} (hm : most / k ≤ 1000000000000) : ∀ (m n : Nat) (F : List Tri) (x6 x8 : Option D), 152 - n ≤ m → n ≤ F.length → Gd (most / k) F →
    (∀ t ∈ F.take n, ((mv0 t).2.2 ≤ most / k → mv0 t ∈ F) ∧ ((mv1 t).2.2 ≤ most / k → mv1 t ∈ F)) →
  ∃ F' n' x6' x8', lp_threes_to_6 [some (.int a), some (.int most), x2, some (.ref S.length), some (.ref (S.length + 1)), some (.int n), x6, x7, x8] (St S (F.map (sc k))) =
   .nx [some (.int a), some (.int most), x2, some (.ref S.length), some (.ref (S.length + 1)), n', x6', x7, x8'] (St S (F'.map (sc k))) ∧ Gd (most / k) F' ∧ (∀ t ∈ F, t ∈ F') ∧ ∀ t ∈ F', ((mv0 t).2.2 ≤ most / k → mv0 t ∈ F') ∧ ((mv1 t).2.2 ≤ most / k → mv1 t ∈ F') := by
  intro m
  induction m with
  | zero =>
    intro n F x6 x8 h1 h2 h3 h4
    have := h3.len
    have e : n = F.length := by omega
    refine ⟨F, some (.int n), x6, x8, ?_, h3, fun _ h => h, ?_⟩
    · rw [lp_threes_to_6, ev_while]
      simp only [lt_threes_to_4, St, ev_bindok, ev_bindex, ev_thenok, ev_thenex, ev_seqnx, ev_seqrt, ev_seqbk, ev_seqct, ev_seqex, ev_lstO, ev_onL, ev_lenOl, ev_lenOk, ev_var0, ev_varS, ev_c, ev_bin, ev_bin1, ev_bin1x, ev_bin2, ev_bin2x, ev_un, ev_nil, ev_cons, ev_cons1, ev_cons1x, ev_cons2, ev_cons2x, ev_tup, ev_tup1, ev_tup1x, ev_lst, ev_lst1, ev_lst1x, ev_if, ev_if1, ev_if1x, ev_call, ev_callK, ev_callK1, ev_callK1x, ev_tru, ev_tB, ev_asB, ev_tNot, ev_tNot1, ev_tNot1x, ev_tAnd, ev_tAnd1, ev_tAnd1x, ev_tOr, ev_tOr1, ev_tOr1x, ev_and, ev_and1, ev_and2, ev_or, ev_or1, ev_or2, ev_not, ev_not1, ev_not2, ev_truB, ev_truI, ev_truT, ev_truN, ev_truL, ev_yes, ev_sl, ev_sl1, ev_sl2, ev_sl3, ev_oN, ev_oS, ev_oS1, ev_slT, ev_slR, ev_slL, ev_add, ev_sub, ev_neg, ev_addT, ev_addL, ev_ord, ev_abs, ev_max2, ev_min2, ev_int, ev_intB, ev_lenT, ev_lenR, ev_lenL, ev_ixT, ev_ixR, ev_ixL, ev_tupT, ev_tupL, ev_revL, ev_ml, ev_ml1, ev_ml2, ev_ml2x, ev_isL, ev_mapp, ev_popC, ev_pop1, ev_pop2, ev_mpop, ev_mext, ev_newK, ev_newN, ev_is, ev_isNot, ev_isnN, ev_isnT, ev_isnI, ev_isnR, ev_nx, ev_seq, ev_asg, ev_asg1, ev_asg1x, ev_kNx, ev_asgT, ev_asgT1, ev_asgT1x, ev_bTup, ev_bName, ev_bCons, ev_bNil, ev_expr, ev_expr1, ev_expr1x, ev_ret, ev_ret1, ev_ret1x, ev_retN, ev_sif, ev_sif1, ev_sif1x, ev_par, ev_par1, ev_par3, ev_par31, ev_setG, ev_setG1, ev_setG2, ev_setG3, ev_setG4, ev_setG1x, ev_break, ev_cont, ev_for, ev_for1, ev_for1x, ev_runB, ev_fiSeq, ev_itT, ev_itR, ev_itL, ev_loopKnx, ev_loopKct, ev_loopKbk, ev_loopKrt, ev_loopKex, ev_loopN, ev_turn, ev_loopC, ev_wh1, ev_g4s, ev_g4n, ev_get2, ev_get21, ev_get22, ev_get23, ev_get1, ev_get11, ev_get12, ev_x3, ev_ixG, ev_ixG1, ev_ixG2, ev_gT, ev_gD, ev_gD1, ev_isGt, ev_gAti, ev_dc, ev_dc1, ev_lc, ev_lc1, ev_wipe0, ev_wipe, ev_empN, ev_empK, ev_chk1, ev_fiRng1, ev_fiRng11, ev_fiRng2, ev_fiRng21, ev_fiRng22, st_len, st_app, st_at0, st_at, st_set0, st_set, st_take, ev_ftidy, ev_fttidy, optR_some, List.set_cons_zero, List.set_cons_succ, List.length_cons, List.length_nil, List.cons_append, List.nil_append, List.map_cons, List.map_nil, List.getElem?_cons_zero, List.getElem?_cons_succ, if_true, if_false, decide_eq_true_eq, Bool.false_eq_true, reduceIte, Option.bind_some, Nat.add_assoc, Nat.reduceAdd, Nat.reduceSub, Nat.reduceLeDiff, Nat.zero_add, List.replicate, sizeLine_eq, List.length_map, Option.map_some, Option.isSome_some, gt_iff_lt, Bool.not_true, Bool.not_false, Nat.reduceLT, nf_non, nf_int, nf_bl, nf_str, nf_tup, nf_ro, nf_nil, nf_cons, nf_T, flats_T, ints_flat, Bool.and_self, Bool.true_and, Bool.and_true, tidy_app, tidyB_app, tidy_appL, dEq_int, List.cons_prefix_cons, List.nil_prefix, true_and, and_true, and_self, tidy_ok, tidy_ok0, tidyB_ok, tidyB_ok0, decide_true, decide_false, not_true_eq_false, not_false_eq_true, and_false, false_and, List.isEmpty_cons, List.isEmpty_nil, e, Int.lt_irrefl]
    · rw [e, List.take_length] at h4; exact h4
  | succ m ih =>
    intro n F x6 x8 h1 h2 h3 h4
    by_cases e : n = F.length
    · refine ⟨F, some (.int n), x6, x8, ?_, h3, fun _ h => h, ?_⟩
      · rw [lp_threes_to_6, ev_while]
        simp only [lt_threes_to_4, St, ev_bindok, ev_bindex, ev_thenok, ev_thenex, ev_seqnx, ev_seqrt, ev_seqbk, ev_seqct, ev_seqex, ev_lstO, ev_onL, ev_lenOl, ev_lenOk, ev_var0, ev_varS, ev_c, ev_bin, ev_bin1, ev_bin1x, ev_bin2, ev_bin2x, ev_un, ev_nil, ev_cons, ev_cons1, ev_cons1x, ev_cons2, ev_cons2x, ev_tup, ev_tup1, ev_tup1x, ev_lst, ev_lst1, ev_lst1x, ev_if, ev_if1, ev_if1x, ev_call, ev_callK, ev_callK1, ev_callK1x, ev_tru, ev_tB, ev_asB, ev_tNot, ev_tNot1, ev_tNot1x, ev_tAnd, ev_tAnd1, ev_tAnd1x, ev_tOr, ev_tOr1, ev_tOr1x, ev_and, ev_and1, ev_and2, ev_or, ev_or1, ev_or2, ev_not, ev_not1, ev_not2, ev_truB, ev_truI, ev_truT, ev_truN, ev_truL, ev_yes, ev_sl, ev_sl1, ev_sl2, ev_sl3, ev_oN, ev_oS, ev_oS1, ev_slT, ev_slR, ev_slL, ev_add, ev_sub, ev_neg, ev_addT, ev_addL, ev_ord, ev_abs, ev_max2, ev_min2, ev_int, ev_intB, ev_lenT, ev_lenR, ev_lenL, ev_ixT, ev_ixR, ev_ixL, ev_tupT, ev_tupL, ev_revL, ev_ml, ev_ml1, ev_ml2, ev_ml2x, ev_isL, ev_mapp, ev_popC, ev_pop1, ev_pop2, ev_mpop, ev_mext, ev_newK, ev_newN, ev_is, ev_isNot, ev_isnN, ev_isnT, ev_isnI, ev_isnR, ev_nx, ev_seq, ev_asg, ev_asg1, ev_asg1x, ev_kNx, ev_asgT, ev_asgT1, ev_asgT1x, ev_bTup, ev_bName, ev_bCons, ev_bNil, ev_expr, ev_expr1, ev_expr1x, ev_ret, ev_ret1, ev_ret1x, ev_retN, ev_sif, ev_sif1, ev_sif1x, ev_par, ev_par1, ev_par3, ev_par31, ev_setG, ev_setG1, ev_setG2, ev_setG3, ev_setG4, ev_setG1x, ev_break, ev_cont, ev_for, ev_for1, ev_for1x, ev_runB, ev_fiSeq, ev_itT, ev_itR, ev_itL, ev_loopKnx, ev_loopKct, ev_loopKbk, ev_loopKrt, ev_loopKex, ev_loopN, ev_turn, ev_loopC, ev_wh1, ev_g4s, ev_g4n, ev_get2, ev_get21, ev_get22, ev_get23, ev_get1, ev_get11, ev_get12, ev_x3, ev_ixG, ev_ixG1, ev_ixG2, ev_gT, ev_gD, ev_gD1, ev_isGt, ev_gAti, ev_dc, ev_dc1, ev_lc, ev_lc1, ev_wipe0, ev_wipe, ev_empN, ev_empK, ev_chk1, ev_fiRng1, ev_fiRng11, ev_fiRng2, ev_fiRng21, ev_fiRng22, st_len, st_app, st_at0, st_at, st_set0, st_set, st_take, ev_ftidy, ev_fttidy, optR_some, List.set_cons_zero, List.set_cons_succ, List.length_cons, List.length_nil, List.cons_append, List.nil_append, List.map_cons, List.map_nil, List.getElem?_cons_zero, List.getElem?_cons_succ, if_true, if_false, decide_eq_true_eq, Bool.false_eq_true, reduceIte, Option.bind_some, Nat.add_assoc, Nat.reduceAdd, Nat.reduceSub, Nat.reduceLeDiff, Nat.zero_add, List.replicate, sizeLine_eq, List.length_map, Option.map_some, Option.isSome_some, gt_iff_lt, Bool.not_true, Bool.not_false, Nat.reduceLT, nf_non, nf_int, nf_bl, nf_str, nf_tup, nf_ro, nf_nil, nf_cons, nf_T, flats_T, ints_flat, Bool.and_self, Bool.true_and, Bool.and_true, tidy_app, tidyB_app, tidy_appL, dEq_int, List.cons_prefix_cons, List.nil_prefix, true_and, and_true, and_self, tidy_ok, tidy_ok0, tidyB_ok, tidyB_ok0, decide_true, decide_false, not_true_eq_false, not_false_eq_true, and_false, false_and, List.isEmpty_cons, List.isEmpty_nil, e, Int.lt_irrefl]
      · rw [e, List.take_length] at h4; exact h4
    · have hlt : n < F.length := by omega
      have hlt' : (n : Int) < F.length := by omega
      have ht : F[n]? = some F[n] := by simp [hlt]
      generalize F[n] = t at ht
      obtain ⟨y6, y8, q⟩ := turn_ok (S := S) (x2 := x2) (x6 := x6) (x7 := x7) (x8 := x8) hk hm h3 ht
      have l3 := h3.len
      have gg := h3.grow hm (List.mem_of_getElem? ht)
      have pre := grow_pre (m := most / k) (t := t) (F := F)
      obtain ⟨F', n', x6', x8', r, r1, r2, r3⟩ := ih (n + 1) (grow (most / k) t F) y6 y8 (by omega) (by have := pre.length_le; omega) gg (fun u hu => by
        have hs : ∀ v, v ∈ F → v ∈ grow (most / k) t F := fun v hv => add_sub _ (add_sub _ hv)
        have e2 : (grow (most / k) t F).take (n + 1) = F.take n ++ [t] := by
          obtain ⟨R, hR⟩ := pre
          rw [← hR, List.take_append_of_le_length (by omega), List.take_add_one, ht]; rfl
        rw [e2] at hu
        rcases List.mem_append.mp hu with hu | hu
        · exact ⟨fun z => hs _ ((h4 u hu).1 z), fun z => hs _ ((h4 u hu).2 z)⟩
        · rw [List.mem_singleton.mp hu]
          exact ⟨fun z => add_sub _ (add_self z), fun z => add_self z⟩)
      refine ⟨F', n', x6', x8', ?_, r1, fun v hv => r2 v (add_sub _ (add_sub _ hv)), r3⟩
      rw [lp_threes_to_6, ev_while]
      rw [lp_threes_to_6] at r
      unfold St at q r
      simp only [lt_threes_to_4, St, ev_bindok, ev_bindex, ev_thenok, ev_thenex, ev_seqnx, ev_seqrt, ev_seqbk, ev_seqct, ev_seqex, ev_lstO, ev_onL, ev_lenOl, ev_lenOk, ev_var0, ev_varS, ev_c, ev_bin, ev_bin1, ev_bin1x, ev_bin2, ev_bin2x, ev_un, ev_nil, ev_cons, ev_cons1, ev_cons1x, ev_cons2, ev_cons2x, ev_tup, ev_tup1, ev_tup1x, ev_lst, ev_lst1, ev_lst1x, ev_if, ev_if1, ev_if1x, ev_call, ev_callK, ev_callK1, ev_callK1x, ev_tru, ev_tB, ev_asB, ev_tNot, ev_tNot1, ev_tNot1x, ev_tAnd, ev_tAnd1, ev_tAnd1x, ev_tOr, ev_tOr1, ev_tOr1x, ev_and, ev_and1, ev_and2, ev_or, ev_or1, ev_or2, ev_not, ev_not1, ev_not2, ev_truB, ev_truI, ev_truT, ev_truN, ev_truL, ev_yes, ev_sl, ev_sl1, ev_sl2, ev_sl3, ev_oN, ev_oS, ev_oS1, ev_slT, ev_slR, ev_slL, ev_add, ev_sub, ev_neg, ev_addT, ev_addL, ev_ord, ev_abs, ev_max2, ev_min2, ev_int, ev_intB, ev_lenT, ev_lenR, ev_lenL, ev_ixT, ev_ixR, ev_ixL, ev_tupT, ev_tupL, ev_revL, ev_ml, ev_ml1, ev_ml2, ev_ml2x, ev_isL, ev_mapp, ev_popC, ev_pop1, ev_pop2, ev_mpop, ev_mext, ev_newK, ev_newN, ev_is, ev_isNot, ev_isnN, ev_isnT, ev_isnI, ev_isnR, ev_nx, ev_seq, ev_asg, ev_asg1, ev_asg1x, ev_kNx, ev_asgT, ev_asgT1, ev_asgT1x, ev_bTup, ev_bName, ev_bCons, ev_bNil, ev_expr, ev_expr1, ev_expr1x, ev_ret, ev_ret1, ev_ret1x, ev_retN, ev_sif, ev_sif1, ev_sif1x, ev_par, ev_par1, ev_par3, ev_par31, ev_setG, ev_setG1, ev_setG2, ev_setG3, ev_setG4, ev_setG1x, ev_break, ev_cont, ev_for, ev_for1, ev_for1x, ev_runB, ev_fiSeq, ev_itT, ev_itR, ev_itL, ev_loopKnx, ev_loopKct, ev_loopKbk, ev_loopKrt, ev_loopKex, ev_loopN, ev_turn, ev_loopC, ev_wh1, ev_g4s, ev_g4n, ev_get2, ev_get21, ev_get22, ev_get23, ev_get1, ev_get11, ev_get12, ev_x3, ev_ixG, ev_ixG1, ev_ixG2, ev_gT, ev_gD, ev_gD1, ev_isGt, ev_gAti, ev_dc, ev_dc1, ev_lc, ev_lc1, ev_wipe0, ev_wipe, ev_empN, ev_empK, ev_chk1, ev_fiRng1, ev_fiRng11, ev_fiRng2, ev_fiRng21, ev_fiRng22, st_len, st_app, st_at0, st_at, st_set0, st_set, st_take, ev_ftidy, ev_fttidy, optR_some, List.set_cons_zero, List.set_cons_succ, List.length_cons, List.length_nil, List.cons_append, List.nil_append, List.map_cons, List.map_nil, List.getElem?_cons_zero, List.getElem?_cons_succ, if_true, if_false, decide_eq_true_eq, Bool.false_eq_true, reduceIte, Option.bind_some, Nat.add_assoc, Nat.reduceAdd, Nat.reduceSub, Nat.reduceLeDiff, Nat.zero_add, List.replicate, sizeLine_eq, List.length_map, Option.map_some, Option.isSome_some, gt_iff_lt, Bool.not_true, Bool.not_false, Nat.reduceLT, nf_non, nf_int, nf_bl, nf_str, nf_tup, nf_ro, nf_nil, nf_cons, nf_T, flats_T, ints_flat, Bool.and_self, Bool.true_and, Bool.and_true, tidy_app, tidyB_app, tidy_appL, dEq_int, List.cons_prefix_cons, List.nil_prefix, true_and, and_true, and_self, tidy_ok, tidy_ok0, tidyB_ok, tidyB_ok0, decide_true, decide_false, not_true_eq_false, not_false_eq_true, and_false, false_and, List.isEmpty_cons, List.isEmpty_nil, hlt', q]
      exact r
end Y.k59

set_option Elab.async false
set_option linter.all false
set_option maxRecDepth 100000
set_option maxHeartbeats 2000000
/-! P59c: threes_to. -/
namespace Y.k59
open PySem L2 Y
/-- what is told -/
def TT (a most : Int) : List Tri := if a = 3 then Lm most else if a = 1 then (Lm (most / 3)).map (sc 3) else []
theorem leT_sc {k : Int} (hk : 0 < k) (a b : Tri) : leT (sc k a) (sc k b) = leT a b := by
  have m : ∀ x y : Int, (k * x ≤ k * y) ↔ (x ≤ y) := fun x y => ⟨fun h => Int.le_of_mul_le_mul_left h hk, fun h => Int.mul_le_mul_of_nonneg_left h (by omega)⟩
  have m2 : ∀ x y : Int, (k * x < k * y) ↔ (x < y) := fun x y => by rw [← Int.not_le, m, Int.not_le]
  have m3 : ∀ x y : Int, (k * x = k * y) ↔ (x = y) := fun x y => ⟨fun h => Int.eq_of_mul_eq_mul_left (by omega) h, fun h => by rw [h]⟩
  unfold leT sc
  simp only [m, m2, m3]
theorem sorted_Lm {m : Int} {F : List Tri} (h : Gd m F) (root : 1 ≤ m → (1, 1, 1) ∈ F) (cl : ∀ t ∈ F, ((mv0 t).2.2 ≤ m → mv0 t ∈ F) ∧ ((mv1 t).2.2 ≤ m → mv1 t ∈ F)) : isort leT F = Lm m :=
  isort_eq leT_tot leT_tr leT_anti h.nd Lm_nodup (all_of h root cl) Lm_sorted
theorem isort_sc {k : Int} (hk : 0 < k) (F : List Tri) : isort leT (F.map (sc k)) = (isort leT F).map (sc k) := isort_map (leT_sc hk) F
theorem Gd.none {m : Int} : Gd m [] := ⟨fun _ h => (by cases h), fun _ h => (by cases h), List.nodup_nil⟩
theorem Gd.root {m : Int} (h : 1 ≤ m) : Gd m [(1, 1, 1)] := ⟨fun _ h => by rw [List.mem_singleton.mp h]; decide, fun _ z => by rw [List.mem_singleton.mp z]; exact h, by simp⟩
theorem put_seen1 {S : Sto} {l : Sto} {d : D} (h : (keyT d).isSome = true) : putG (S.length + l.length) d (.bl true) (S ++ (l ++ [.dN []])) = some (S ++ (l ++ [seen [d]])) := by
  obtain ⟨k, hk⟩ := Option.isSome_iff_exists.mp h
  unfold putG
  rw [← List.append_assoc, show S.length + l.length = (S ++ l).length by simp, List.getElem?_append_right (Nat.le_refl _)]
  simp only [Nat.sub_self, List.getElem?_cons_zero, hk]
  rw [if_pos (by rw [sizeLine_eq]; simp), List.set_append_right _ _ (Nat.le_refl _)]
  simp [putD, atD, seen]
theorem ld_pos {ρ : Env} {S : Sto} {d : D} (h : (keyT d).isSome = true) (hρ : ρ.length = 9) (h3 : ρ[3]? = some (some (.ref S.length))) : ld_threes_to_1 ρ (S ++ [.lst [d]]) = .ok (.ref (S.length + 1)) (S ++ [.lst [d], seen [d]]) := by
  have e1 : fVar 3 ρ (S ++ [.lst [d]]) = .ok (.ref S.length) (S ++ [.lst [d]]) := fVar_at h3
  have e2 : fVar 7 ((ρ.set 7 none).set 7 (some d)) (S ++ [.lst [d], .dN []]) = .ok d (S ++ [.lst [d], .dN []]) := fVar_at (by simp [hρ])
  have e3 := put_seen1 (S := S) (l := [.lst [d]]) h
  simp only [ev_bindok, ev_bindex, ev_thenok, ev_thenex, ev_seqnx, ev_seqrt, ev_seqbk, ev_seqct, ev_seqex, ev_lstO, ev_onL, ev_lenOl, ev_lenOk, ev_var0, ev_varS, ev_c, ev_bin, ev_bin1, ev_bin1x, ev_bin2, ev_bin2x, ev_un, ev_nil, ev_cons, ev_cons1, ev_cons1x, ev_cons2, ev_cons2x, ev_tup, ev_tup1, ev_tup1x, ev_lst, ev_lst1, ev_lst1x, ev_if, ev_if1, ev_if1x, ev_call, ev_callK, ev_callK1, ev_callK1x, ev_tru, ev_tB, ev_asB, ev_tNot, ev_tNot1, ev_tNot1x, ev_tAnd, ev_tAnd1, ev_tAnd1x, ev_tOr, ev_tOr1, ev_tOr1x, ev_and, ev_and1, ev_and2, ev_or, ev_or1, ev_or2, ev_not, ev_not1, ev_not2, ev_truB, ev_truI, ev_truT, ev_truN, ev_truL, ev_yes, ev_sl, ev_sl1, ev_sl2, ev_sl3, ev_oN, ev_oS, ev_oS1, ev_slT, ev_slR, ev_slL, ev_add, ev_sub, ev_neg, ev_addT, ev_addL, ev_ord, ev_abs, ev_max2, ev_min2, ev_int, ev_intB, ev_lenT, ev_lenR, ev_lenL, ev_ixT, ev_ixR, ev_ixL, ev_tupT, ev_tupL, ev_revL, ev_ml, ev_ml1, ev_ml2, ev_ml2x, ev_isL, ev_mapp, ev_popC, ev_pop1, ev_pop2, ev_mpop, ev_mext, ev_newK, ev_newN, ev_is, ev_isNot, ev_isnN, ev_isnT, ev_isnI, ev_isnR, ev_nx, ev_seq, ev_asg, ev_asg1, ev_asg1x, ev_kNx, ev_asgT, ev_asgT1, ev_asgT1x, ev_bTup, ev_bName, ev_bCons, ev_bNil, ev_expr, ev_expr1, ev_expr1x, ev_ret, ev_ret1, ev_ret1x, ev_retN, ev_sif, ev_sif1, ev_sif1x, ev_par, ev_par1, ev_par3, ev_par31, ev_setG, ev_setG1, ev_setG2, ev_setG3, ev_setG4, ev_setG1x, ev_break, ev_cont, ev_for, ev_for1, ev_for1x, ev_runB, ev_fiSeq, ev_itT, ev_itR, ev_itL, ev_loopKnx, ev_loopKct, ev_loopKbk, ev_loopKrt, ev_loopKex, ev_loopN, ev_turn, ev_loopC, ev_wh1, ev_g4s, ev_g4n, ev_get2, ev_get21, ev_get22, ev_get23, ev_get1, ev_get11, ev_get12, ev_x3, ev_ixG, ev_ixG1, ev_ixG2, ev_gT, ev_gD, ev_gD1, ev_isGt, ev_gAti, ev_dc, ev_dc1, ev_lc, ev_lc1, ev_wipe0, ev_wipe, ev_empN, ev_empK, ev_chk1, ev_fiRng1, ev_fiRng11, ev_fiRng2, ev_fiRng21, ev_fiRng22, st_len, st_app, st_at0, st_at, st_set0, st_set, st_take, ev_ftidy, ev_fttidy, optR_some, List.set_cons_zero, List.set_cons_succ, List.length_cons, List.length_nil, List.cons_append, List.nil_append, List.map_cons, List.map_nil, List.getElem?_cons_zero, List.getElem?_cons_succ, if_true, if_false, decide_eq_true_eq, Bool.false_eq_true, reduceIte, Option.bind_some, Nat.add_assoc, Nat.reduceAdd, Nat.reduceSub, Nat.reduceLeDiff, Nat.zero_add, List.replicate, sizeLine_eq, List.length_map, Option.map_some, Option.isSome_some, gt_iff_lt, Bool.not_true, Bool.not_false, Nat.reduceLT, nf_non, nf_int, nf_bl, nf_str, nf_tup, nf_ro, nf_nil, nf_cons, nf_T, flats_T, ints_flat, Bool.and_self, Bool.true_and, Bool.and_true, tidy_app, tidyB_app, tidy_appL, dEq_int, List.cons_prefix_cons, List.nil_prefix, true_and, and_true, and_self, tidy_ok, tidy_ok0, tidyB_ok, tidyB_ok0, decide_true, decide_false, not_true_eq_false, not_false_eq_true, and_false, false_and, List.isEmpty_cons, List.isEmpty_nil] at e3
  simp only [ld_threes_to_1, ev_bindok, ev_bindex, ev_thenok, ev_thenex, ev_seqnx, ev_seqrt, ev_seqbk, ev_seqct, ev_seqex, ev_lstO, ev_onL, ev_lenOl, ev_lenOk, ev_var0, ev_varS, ev_c, ev_bin, ev_bin1, ev_bin1x, ev_bin2, ev_bin2x, ev_un, ev_nil, ev_cons, ev_cons1, ev_cons1x, ev_cons2, ev_cons2x, ev_tup, ev_tup1, ev_tup1x, ev_lst, ev_lst1, ev_lst1x, ev_if, ev_if1, ev_if1x, ev_call, ev_callK, ev_callK1, ev_callK1x, ev_tru, ev_tB, ev_asB, ev_tNot, ev_tNot1, ev_tNot1x, ev_tAnd, ev_tAnd1, ev_tAnd1x, ev_tOr, ev_tOr1, ev_tOr1x, ev_and, ev_and1, ev_and2, ev_or, ev_or1, ev_or2, ev_not, ev_not1, ev_not2, ev_truB, ev_truI, ev_truT, ev_truN, ev_truL, ev_yes, ev_sl, ev_sl1, ev_sl2, ev_sl3, ev_oN, ev_oS, ev_oS1, ev_slT, ev_slR, ev_slL, ev_add, ev_sub, ev_neg, ev_addT, ev_addL, ev_ord, ev_abs, ev_max2, ev_min2, ev_int, ev_intB, ev_lenT, ev_lenR, ev_lenL, ev_ixT, ev_ixR, ev_ixL, ev_tupT, ev_tupL, ev_revL, ev_ml, ev_ml1, ev_ml2, ev_ml2x, ev_isL, ev_mapp, ev_popC, ev_pop1, ev_pop2, ev_mpop, ev_mext, ev_newK, ev_newN, ev_is, ev_isNot, ev_isnN, ev_isnT, ev_isnI, ev_isnR, ev_nx, ev_seq, ev_asg, ev_asg1, ev_asg1x, ev_kNx, ev_asgT, ev_asgT1, ev_asgT1x, ev_bTup, ev_bName, ev_bCons, ev_bNil, ev_expr, ev_expr1, ev_expr1x, ev_ret, ev_ret1, ev_ret1x, ev_retN, ev_sif, ev_sif1, ev_sif1x, ev_par, ev_par1, ev_par3, ev_par31, ev_setG, ev_setG1, ev_setG2, ev_setG3, ev_setG4, ev_setG1x, ev_break, ev_cont, ev_for, ev_for1, ev_for1x, ev_runB, ev_fiSeq, ev_itT, ev_itR, ev_itL, ev_loopKnx, ev_loopKct, ev_loopKbk, ev_loopKrt, ev_loopKex, ev_loopN, ev_turn, ev_loopC, ev_wh1, ev_g4s, ev_g4n, ev_get2, ev_get21, ev_get22, ev_get23, ev_get1, ev_get11, ev_get12, ev_x3, ev_ixG, ev_ixG1, ev_ixG2, ev_gT, ev_gD, ev_gD1, ev_isGt, ev_gAti, ev_dc, ev_dc1, ev_lc, ev_lc1, ev_wipe0, ev_wipe, ev_empN, ev_empK, ev_chk1, ev_fiRng1, ev_fiRng11, ev_fiRng2, ev_fiRng21, ev_fiRng22, st_len, st_app, st_at0, st_at, st_set0, st_set, st_take, ev_ftidy, ev_fttidy, optR_some, List.set_cons_zero, List.set_cons_succ, List.length_cons, List.length_nil, List.cons_append, List.nil_append, List.map_cons, List.map_nil, List.getElem?_cons_zero, List.getElem?_cons_succ, if_true, if_false, decide_eq_true_eq, Bool.false_eq_true, reduceIte, Option.bind_some, Nat.add_assoc, Nat.reduceAdd, Nat.reduceSub, Nat.reduceLeDiff, Nat.zero_add, List.replicate, sizeLine_eq, List.length_map, Option.map_some, Option.isSome_some, gt_iff_lt, Bool.not_true, Bool.not_false, Nat.reduceLT, nf_non, nf_int, nf_bl, nf_str, nf_tup, nf_ro, nf_nil, nf_cons, nf_T, flats_T, ints_flat, Bool.and_self, Bool.true_and, Bool.and_true, tidy_app, tidyB_app, tidy_appL, dEq_int, List.cons_prefix_cons, List.nil_prefix, true_and, and_true, and_self, tidy_ok, tidy_ok0, tidyB_ok, tidyB_ok0, decide_true, decide_false, not_true_eq_false, not_false_eq_true, and_false, false_and, List.isEmpty_cons, List.isEmpty_nil, e1, dcLoop, e2, e3]
theorem ld_neg {ρ : Env} {S : Sto} (h3 : ρ[3]? = some (some (.ref S.length))) : ld_threes_to_1 ρ (S ++ [.lst []]) = .ok (.ref (S.length + 1)) (S ++ [.lst [], seen []]) := by
  have e1 : fVar 3 ρ (S ++ [.lst []]) = .ok (.ref S.length) (S ++ [.lst []]) := fVar_at h3
  simp only [ld_threes_to_1, ev_bindok, ev_bindex, ev_thenok, ev_thenex, ev_seqnx, ev_seqrt, ev_seqbk, ev_seqct, ev_seqex, ev_lstO, ev_onL, ev_lenOl, ev_lenOk, ev_var0, ev_varS, ev_c, ev_bin, ev_bin1, ev_bin1x, ev_bin2, ev_bin2x, ev_un, ev_nil, ev_cons, ev_cons1, ev_cons1x, ev_cons2, ev_cons2x, ev_tup, ev_tup1, ev_tup1x, ev_lst, ev_lst1, ev_lst1x, ev_if, ev_if1, ev_if1x, ev_call, ev_callK, ev_callK1, ev_callK1x, ev_tru, ev_tB, ev_asB, ev_tNot, ev_tNot1, ev_tNot1x, ev_tAnd, ev_tAnd1, ev_tAnd1x, ev_tOr, ev_tOr1, ev_tOr1x, ev_and, ev_and1, ev_and2, ev_or, ev_or1, ev_or2, ev_not, ev_not1, ev_not2, ev_truB, ev_truI, ev_truT, ev_truN, ev_truL, ev_yes, ev_sl, ev_sl1, ev_sl2, ev_sl3, ev_oN, ev_oS, ev_oS1, ev_slT, ev_slR, ev_slL, ev_add, ev_sub, ev_neg, ev_addT, ev_addL, ev_ord, ev_abs, ev_max2, ev_min2, ev_int, ev_intB, ev_lenT, ev_lenR, ev_lenL, ev_ixT, ev_ixR, ev_ixL, ev_tupT, ev_tupL, ev_revL, ev_ml, ev_ml1, ev_ml2, ev_ml2x, ev_isL, ev_mapp, ev_popC, ev_pop1, ev_pop2, ev_mpop, ev_mext, ev_newK, ev_newN, ev_is, ev_isNot, ev_isnN, ev_isnT, ev_isnI, ev_isnR, ev_nx, ev_seq, ev_asg, ev_asg1, ev_asg1x, ev_kNx, ev_asgT, ev_asgT1, ev_asgT1x, ev_bTup, ev_bName, ev_bCons, ev_bNil, ev_expr, ev_expr1, ev_expr1x, ev_ret, ev_ret1, ev_ret1x, ev_retN, ev_sif, ev_sif1, ev_sif1x, ev_par, ev_par1, ev_par3, ev_par31, ev_setG, ev_setG1, ev_setG2, ev_setG3, ev_setG4, ev_setG1x, ev_break, ev_cont, ev_for, ev_for1, ev_for1x, ev_runB, ev_fiSeq, ev_itT, ev_itR, ev_itL, ev_loopKnx, ev_loopKct, ev_loopKbk, ev_loopKrt, ev_loopKex, ev_loopN, ev_turn, ev_loopC, ev_wh1, ev_g4s, ev_g4n, ev_get2, ev_get21, ev_get22, ev_get23, ev_get1, ev_get11, ev_get12, ev_x3, ev_ixG, ev_ixG1, ev_ixG2, ev_gT, ev_gD, ev_gD1, ev_isGt, ev_gAti, ev_dc, ev_dc1, ev_lc, ev_lc1, ev_wipe0, ev_wipe, ev_empN, ev_empK, ev_chk1, ev_fiRng1, ev_fiRng11, ev_fiRng2, ev_fiRng21, ev_fiRng22, st_len, st_app, st_at0, st_at, st_set0, st_set, st_take, ev_ftidy, ev_fttidy, optR_some, List.set_cons_zero, List.set_cons_succ, List.length_cons, List.length_nil, List.cons_append, List.nil_append, List.map_cons, List.map_nil, List.getElem?_cons_zero, List.getElem?_cons_succ, if_true, if_false, decide_eq_true_eq, Bool.false_eq_true, reduceIte, Option.bind_some, Nat.add_assoc, Nat.reduceAdd, Nat.reduceSub, Nat.reduceLeDiff, Nat.zero_add, List.replicate, sizeLine_eq, List.length_map, Option.map_some, Option.isSome_some, gt_iff_lt, Bool.not_true, Bool.not_false, Nat.reduceLT, nf_non, nf_int, nf_bl, nf_str, nf_tup, nf_ro, nf_nil, nf_cons, nf_T, flats_T, ints_flat, Bool.and_self, Bool.true_and, Bool.and_true, tidy_app, tidyB_app, tidy_appL, dEq_int, List.cons_prefix_cons, List.nil_prefix, true_and, and_true, and_self, tidy_ok, tidy_ok0, tidyB_ok, tidyB_ok0, decide_true, decide_false, not_true_eq_false, not_false_eq_true, and_false, false_and, List.isEmpty_cons, List.isEmpty_nil, e1, dcLoop, seen]
theorem threes_k {k a : Int} (hk : k = 1 ∧ a = 3 ∨ k = 3 ∧ a = 1) {most : Int} (h1 : 1 ≤ most) (h2 : most ≤ 1000000000000) (S : Sto) : F_threes_to [.int a, .int most] S = .ok (.tup (((Lm (most / k)).map (sc k)).map dT)) S := by
  have kp := pos_k hk
  have hm : most / k ≤ 1000000000000 := by rcases hk with ⟨rfl, rfl⟩ | ⟨rfl, rfl⟩ <;> omega
  have hg : atK tb_BEGUN (.inl a) = some (dT (sc k (1, 1, 1))) := by rcases hk with ⟨rfl, rfl⟩ | ⟨rfl, rfl⟩ <;> rfl
  have hz : (1 ≤ most / k) ↔ (sc k (1, 1, 1)).2.2 ≤ most := by rcases hk with ⟨rfl, rfl⟩ | ⟨rfl, rfl⟩ <;> simp [sc]; omega
  have hn : isNon (dT (sc k (1, 1, 1))) = false := rfl
  have fin : ∀ F0 : List Tri, Gd (most / k) F0 → (1 ≤ most / k → (1, 1, 1) ∈ F0) → ∃ G : Sto, (lp_threes_to_6 [some (.int a), some (.int most), some (dT (sc k (1, 1, 1))), some (.ref S.length), some (.ref (S.length + 1)), some (.int 0), none, none, none] (St S (F0.map (sc k)))).seq (sRet (fTidy (fCall dTuple (faCons (fCall (ffOr dSorted dSortedK) (faCons (fVar 3) faNil)) faNil)))) = .rt (.tup (((Lm (most / k)).map (sc k)).map dT)) (S ++ G) := by
    intro F0 h0 hr
    obtain ⟨F', n', x6', x8', q, q1, q2, q3⟩ := while_ok (S := S) (x2 := some (dT (sc k (1, 1, 1)))) (x7 := none) hk hm 152 0 F0 none none (by omega) (by omega) h0 (by simp)
    have hs := sortG_T (x := .ref S.length) (S := St S (F'.map (sc k))) (ts := F'.map (sc k)) (seqK_lst (by simp [St])) (by have := q1.len; simp; omega)
    rw [isort_sc kp, sorted_Lm q1 (fun z => q2 _ (hr z)) q3] at hs
    refine ⟨[.lst ((F'.map (sc k)).map dT), seen ((F'.map (sc k)).map dT)], ?_⟩
    rw [show ((0 : Nat) : Int) = 0 from rfl] at q
    rw [q]
    unfold St at hs ⊢
    simp only [ev_bindok, ev_bindex, ev_thenok, ev_thenex, ev_seqnx, ev_seqrt, ev_seqbk, ev_seqct, ev_seqex, ev_lstO, ev_onL, ev_lenOl, ev_lenOk, ev_var0, ev_varS, ev_c, ev_bin, ev_bin1, ev_bin1x, ev_bin2, ev_bin2x, ev_un, ev_nil, ev_cons, ev_cons1, ev_cons1x, ev_cons2, ev_cons2x, ev_tup, ev_tup1, ev_tup1x, ev_lst, ev_lst1, ev_lst1x, ev_if, ev_if1, ev_if1x, ev_call, ev_callK, ev_callK1, ev_callK1x, ev_tru, ev_tB, ev_asB, ev_tNot, ev_tNot1, ev_tNot1x, ev_tAnd, ev_tAnd1, ev_tAnd1x, ev_tOr, ev_tOr1, ev_tOr1x, ev_and, ev_and1, ev_and2, ev_or, ev_or1, ev_or2, ev_not, ev_not1, ev_not2, ev_truB, ev_truI, ev_truT, ev_truN, ev_truL, ev_yes, ev_sl, ev_sl1, ev_sl2, ev_sl3, ev_oN, ev_oS, ev_oS1, ev_slT, ev_slR, ev_slL, ev_add, ev_sub, ev_neg, ev_addT, ev_addL, ev_ord, ev_abs, ev_max2, ev_min2, ev_int, ev_intB, ev_lenT, ev_lenR, ev_lenL, ev_ixT, ev_ixR, ev_ixL, ev_tupT, ev_tupL, ev_revL, ev_ml, ev_ml1, ev_ml2, ev_ml2x, ev_isL, ev_mapp, ev_popC, ev_pop1, ev_pop2, ev_mpop, ev_mext, ev_newK, ev_newN, ev_is, ev_isNot, ev_isnN, ev_isnT, ev_isnI, ev_isnR, ev_nx, ev_seq, ev_asg, ev_asg1, ev_asg1x, ev_kNx, ev_asgT, ev_asgT1, ev_asgT1x, ev_bTup, ev_bName, ev_bCons, ev_bNil, ev_expr, ev_expr1, ev_expr1x, ev_ret, ev_ret1, ev_ret1x, ev_retN, ev_sif, ev_sif1, ev_sif1x, ev_par, ev_par1, ev_par3, ev_par31, ev_setG, ev_setG1, ev_setG2, ev_setG3, ev_setG4, ev_setG1x, ev_break, ev_cont, ev_for, ev_for1, ev_for1x, ev_runB, ev_fiSeq, ev_itT, ev_itR, ev_itL, ev_loopKnx, ev_loopKct, ev_loopKbk, ev_loopKrt, ev_loopKex, ev_loopN, ev_turn, ev_loopC, ev_wh1, ev_g4s, ev_g4n, ev_get2, ev_get21, ev_get22, ev_get23, ev_get1, ev_get11, ev_get12, ev_x3, ev_ixG, ev_ixG1, ev_ixG2, ev_gT, ev_gD, ev_gD1, ev_isGt, ev_gAti, ev_dc, ev_dc1, ev_lc, ev_lc1, ev_wipe0, ev_wipe, ev_empN, ev_empK, ev_chk1, ev_fiRng1, ev_fiRng11, ev_fiRng2, ev_fiRng21, ev_fiRng22, st_len, st_app, st_at0, st_at, st_set0, st_set, st_take, ev_ftidy, ev_fttidy, optR_some, List.set_cons_zero, List.set_cons_succ, List.length_cons, List.length_nil, List.cons_append, List.nil_append, List.map_cons, List.map_nil, List.getElem?_cons_zero, List.getElem?_cons_succ, if_true, if_false, decide_eq_true_eq, Bool.false_eq_true, reduceIte, Option.bind_some, Nat.add_assoc, Nat.reduceAdd, Nat.reduceSub, Nat.reduceLeDiff, Nat.zero_add, List.replicate, sizeLine_eq, List.length_map, Option.map_some, Option.isSome_some, gt_iff_lt, Bool.not_true, Bool.not_false, Nat.reduceLT, nf_non, nf_int, nf_bl, nf_str, nf_tup, nf_ro, nf_nil, nf_cons, nf_T, flats_T, ints_flat, Bool.and_self, Bool.true_and, Bool.and_true, tidy_app, tidyB_app, tidy_appL, dEq_int, List.cons_prefix_cons, List.nil_prefix, true_and, and_true, and_self, tidy_ok, tidy_ok0, tidyB_ok, tidyB_ok0, decide_true, decide_false, not_true_eq_false, not_false_eq_true, and_false, false_and, List.isEmpty_cons, List.isEmpty_nil] at hs
    simp only [ev_bindok, ev_bindex, ev_thenok, ev_thenex, ev_seqnx, ev_seqrt, ev_seqbk, ev_seqct, ev_seqex, ev_lstO, ev_onL, ev_lenOl, ev_lenOk, ev_var0, ev_varS, ev_c, ev_bin, ev_bin1, ev_bin1x, ev_bin2, ev_bin2x, ev_un, ev_nil, ev_cons, ev_cons1, ev_cons1x, ev_cons2, ev_cons2x, ev_tup, ev_tup1, ev_tup1x, ev_lst, ev_lst1, ev_lst1x, ev_if, ev_if1, ev_if1x, ev_call, ev_callK, ev_callK1, ev_callK1x, ev_tru, ev_tB, ev_asB, ev_tNot, ev_tNot1, ev_tNot1x, ev_tAnd, ev_tAnd1, ev_tAnd1x, ev_tOr, ev_tOr1, ev_tOr1x, ev_and, ev_and1, ev_and2, ev_or, ev_or1, ev_or2, ev_not, ev_not1, ev_not2, ev_truB, ev_truI, ev_truT, ev_truN, ev_truL, ev_yes, ev_sl, ev_sl1, ev_sl2, ev_sl3, ev_oN, ev_oS, ev_oS1, ev_slT, ev_slR, ev_slL, ev_add, ev_sub, ev_neg, ev_addT, ev_addL, ev_ord, ev_abs, ev_max2, ev_min2, ev_int, ev_intB, ev_lenT, ev_lenR, ev_lenL, ev_ixT, ev_ixR, ev_ixL, ev_tupT, ev_tupL, ev_revL, ev_ml, ev_ml1, ev_ml2, ev_ml2x, ev_isL, ev_mapp, ev_popC, ev_pop1, ev_pop2, ev_mpop, ev_mext, ev_newK, ev_newN, ev_is, ev_isNot, ev_isnN, ev_isnT, ev_isnI, ev_isnR, ev_nx, ev_seq, ev_asg, ev_asg1, ev_asg1x, ev_kNx, ev_asgT, ev_asgT1, ev_asgT1x, ev_bTup, ev_bName, ev_bCons, ev_bNil, ev_expr, ev_expr1, ev_expr1x, ev_ret, ev_ret1, ev_ret1x, ev_retN, ev_sif, ev_sif1, ev_sif1x, ev_par, ev_par1, ev_par3, ev_par31, ev_setG, ev_setG1, ev_setG2, ev_setG3, ev_setG4, ev_setG1x, ev_break, ev_cont, ev_for, ev_for1, ev_for1x, ev_runB, ev_fiSeq, ev_itT, ev_itR, ev_itL, ev_loopKnx, ev_loopKct, ev_loopKbk, ev_loopKrt, ev_loopKex, ev_loopN, ev_turn, ev_loopC, ev_wh1, ev_g4s, ev_g4n, ev_get2, ev_get21, ev_get22, ev_get23, ev_get1, ev_get11, ev_get12, ev_x3, ev_ixG, ev_ixG1, ev_ixG2, ev_gT, ev_gD, ev_gD1, ev_isGt, ev_gAti, ev_dc, ev_dc1, ev_lc, ev_lc1, ev_wipe0, ev_wipe, ev_empN, ev_empK, ev_chk1, ev_fiRng1, ev_fiRng11, ev_fiRng2, ev_fiRng21, ev_fiRng22, st_len, st_app, st_at0, st_at, st_set0, st_set, st_take, ev_ftidy, ev_fttidy, optR_some, List.set_cons_zero, List.set_cons_succ, List.length_cons, List.length_nil, List.cons_append, List.nil_append, List.map_cons, List.map_nil, List.getElem?_cons_zero, List.getElem?_cons_succ, if_true, if_false, decide_eq_true_eq, Bool.false_eq_true, reduceIte, Option.bind_some, Nat.add_assoc, Nat.reduceAdd, Nat.reduceSub, Nat.reduceLeDiff, Nat.zero_add, List.replicate, sizeLine_eq, List.length_map, Option.map_some, Option.isSome_some, gt_iff_lt, Bool.not_true, Bool.not_false, Nat.reduceLT, nf_non, nf_int, nf_bl, nf_str, nf_tup, nf_ro, nf_nil, nf_cons, nf_T, flats_T, ints_flat, Bool.and_self, Bool.true_and, Bool.and_true, tidy_app, tidyB_app, tidy_appL, dEq_int, List.cons_prefix_cons, List.nil_prefix, true_and, and_true, and_self, tidy_ok, tidy_ok0, tidyB_ok, tidyB_ok0, decide_true, decide_false, not_true_eq_false, not_false_eq_true, and_false, false_and, List.isEmpty_cons, List.isEmpty_nil, hs]
  by_cases h : (sc k (1, 1, 1)).2.2 ≤ most
  · obtain ⟨G, e⟩ := fin [(1, 1, 1)] (Gd.root (hz.mpr h)) (fun _ => by simp)
    refine tidyF (G := G) (runB_rt (a := b_threes_to) ?_) (by simp only [ev_bindok, ev_bindex, ev_thenok, ev_thenex, ev_seqnx, ev_seqrt, ev_seqbk, ev_seqct, ev_seqex, ev_lstO, ev_onL, ev_lenOl, ev_lenOk, ev_var0, ev_varS, ev_c, ev_bin, ev_bin1, ev_bin1x, ev_bin2, ev_bin2x, ev_un, ev_nil, ev_cons, ev_cons1, ev_cons1x, ev_cons2, ev_cons2x, ev_tup, ev_tup1, ev_tup1x, ev_lst, ev_lst1, ev_lst1x, ev_if, ev_if1, ev_if1x, ev_call, ev_callK, ev_callK1, ev_callK1x, ev_tru, ev_tB, ev_asB, ev_tNot, ev_tNot1, ev_tNot1x, ev_tAnd, ev_tAnd1, ev_tAnd1x, ev_tOr, ev_tOr1, ev_tOr1x, ev_and, ev_and1, ev_and2, ev_or, ev_or1, ev_or2, ev_not, ev_not1, ev_not2, ev_truB, ev_truI, ev_truT, ev_truN, ev_truL, ev_yes, ev_sl, ev_sl1, ev_sl2, ev_sl3, ev_oN, ev_oS, ev_oS1, ev_slT, ev_slR, ev_slL, ev_add, ev_sub, ev_neg, ev_addT, ev_addL, ev_ord, ev_abs, ev_max2, ev_min2, ev_int, ev_intB, ev_lenT, ev_lenR, ev_lenL, ev_ixT, ev_ixR, ev_ixL, ev_tupT, ev_tupL, ev_revL, ev_ml, ev_ml1, ev_ml2, ev_ml2x, ev_isL, ev_mapp, ev_popC, ev_pop1, ev_pop2, ev_mpop, ev_mext, ev_newK, ev_newN, ev_is, ev_isNot, ev_isnN, ev_isnT, ev_isnI, ev_isnR, ev_nx, ev_seq, ev_asg, ev_asg1, ev_asg1x, ev_kNx, ev_asgT, ev_asgT1, ev_asgT1x, ev_bTup, ev_bName, ev_bCons, ev_bNil, ev_expr, ev_expr1, ev_expr1x, ev_ret, ev_ret1, ev_ret1x, ev_retN, ev_sif, ev_sif1, ev_sif1x, ev_par, ev_par1, ev_par3, ev_par31, ev_setG, ev_setG1, ev_setG2, ev_setG3, ev_setG4, ev_setG1x, ev_break, ev_cont, ev_for, ev_for1, ev_for1x, ev_runB, ev_fiSeq, ev_itT, ev_itR, ev_itL, ev_loopKnx, ev_loopKct, ev_loopKbk, ev_loopKrt, ev_loopKex, ev_loopN, ev_turn, ev_loopC, ev_wh1, ev_g4s, ev_g4n, ev_get2, ev_get21, ev_get22, ev_get23, ev_get1, ev_get11, ev_get12, ev_x3, ev_ixG, ev_ixG1, ev_ixG2, ev_gT, ev_gD, ev_gD1, ev_isGt, ev_gAti, ev_dc, ev_dc1, ev_lc, ev_lc1, ev_wipe0, ev_wipe, ev_empN, ev_empK, ev_chk1, ev_fiRng1, ev_fiRng11, ev_fiRng2, ev_fiRng21, ev_fiRng22, st_len, st_app, st_at0, st_at, st_set0, st_set, st_take, ev_ftidy, ev_fttidy, optR_some, List.set_cons_zero, List.set_cons_succ, List.length_cons, List.length_nil, List.cons_append, List.nil_append, List.map_cons, List.map_nil, List.getElem?_cons_zero, List.getElem?_cons_succ, if_true, if_false, decide_eq_true_eq, Bool.false_eq_true, reduceIte, Option.bind_some, Nat.add_assoc, Nat.reduceAdd, Nat.reduceSub, Nat.reduceLeDiff, Nat.zero_add, List.replicate, sizeLine_eq, List.length_map, Option.map_some, Option.isSome_some, gt_iff_lt, Bool.not_true, Bool.not_false, Nat.reduceLT, nf_non, nf_int, nf_bl, nf_str, nf_tup, nf_ro, nf_nil, nf_cons, nf_T, flats_T, ints_flat, Bool.and_self, Bool.true_and, Bool.and_true, tidy_app, tidyB_app, tidy_appL, dEq_int, List.cons_prefix_cons, List.nil_prefix, true_and, and_true, and_self, tidy_ok, tidy_ok0, tidyB_ok, tidyB_ok0, decide_true, decide_false, not_true_eq_false, not_false_eq_true, and_false, false_and, List.isEmpty_cons, List.isEmpty_nil])
    rw [← e]
    have l := ld_pos (S := S) (d := dT (sc k (1, 1, 1))) (keyT_T _) (ρ := [some (.int a), some (.int most), some (dT (sc k (1, 1, 1))), some (.ref S.length), none, none, none, none, none]) rfl rfl
    simp only [b_threes_to, ev_bindok, ev_bindex, ev_thenok, ev_thenex, ev_seqnx, ev_seqrt, ev_seqbk, ev_seqct, ev_seqex, ev_lstO, ev_onL, ev_lenOl, ev_lenOk, ev_var0, ev_varS, ev_c, ev_bin, ev_bin1, ev_bin1x, ev_bin2, ev_bin2x, ev_un, ev_nil, ev_cons, ev_cons1, ev_cons1x, ev_cons2, ev_cons2x, ev_tup, ev_tup1, ev_tup1x, ev_lst, ev_lst1, ev_lst1x, ev_if, ev_if1, ev_if1x, ev_call, ev_callK, ev_callK1, ev_callK1x, ev_tru, ev_tB, ev_asB, ev_tNot, ev_tNot1, ev_tNot1x, ev_tAnd, ev_tAnd1, ev_tAnd1x, ev_tOr, ev_tOr1, ev_tOr1x, ev_and, ev_and1, ev_and2, ev_or, ev_or1, ev_or2, ev_not, ev_not1, ev_not2, ev_truB, ev_truI, ev_truT, ev_truN, ev_truL, ev_yes, ev_sl, ev_sl1, ev_sl2, ev_sl3, ev_oN, ev_oS, ev_oS1, ev_slT, ev_slR, ev_slL, ev_add, ev_sub, ev_neg, ev_addT, ev_addL, ev_ord, ev_abs, ev_max2, ev_min2, ev_int, ev_intB, ev_lenT, ev_lenR, ev_lenL, ev_ixT, ev_ixR, ev_ixL, ev_tupT, ev_tupL, ev_revL, ev_ml, ev_ml1, ev_ml2, ev_ml2x, ev_isL, ev_mapp, ev_popC, ev_pop1, ev_pop2, ev_mpop, ev_mext, ev_newK, ev_newN, ev_is, ev_isNot, ev_isnN, ev_isnT, ev_isnI, ev_isnR, ev_nx, ev_seq, ev_asg, ev_asg1, ev_asg1x, ev_kNx, ev_asgT, ev_asgT1, ev_asgT1x, ev_bTup, ev_bName, ev_bCons, ev_bNil, ev_expr, ev_expr1, ev_expr1x, ev_ret, ev_ret1, ev_ret1x, ev_retN, ev_sif, ev_sif1, ev_sif1x, ev_par, ev_par1, ev_par3, ev_par31, ev_setG, ev_setG1, ev_setG2, ev_setG3, ev_setG4, ev_setG1x, ev_break, ev_cont, ev_for, ev_for1, ev_for1x, ev_runB, ev_fiSeq, ev_itT, ev_itR, ev_itL, ev_loopKnx, ev_loopKct, ev_loopKbk, ev_loopKrt, ev_loopKex, ev_loopN, ev_turn, ev_loopC, ev_wh1, ev_g4s, ev_g4n, ev_get2, ev_get21, ev_get22, ev_get23, ev_get1, ev_get11, ev_get12, ev_x3, ev_ixG, ev_ixG1, ev_ixG2, ev_gT, ev_gD, ev_gD1, ev_isGt, ev_gAti, ev_dc, ev_dc1, ev_lc, ev_lc1, ev_wipe0, ev_wipe, ev_empN, ev_empK, ev_chk1, ev_fiRng1, ev_fiRng11, ev_fiRng2, ev_fiRng21, ev_fiRng22, st_len, st_app, st_at0, st_at, st_set0, st_set, st_take, ev_ftidy, ev_fttidy, optR_some, List.set_cons_zero, List.set_cons_succ, List.length_cons, List.length_nil, List.cons_append, List.nil_append, List.map_cons, List.map_nil, List.getElem?_cons_zero, List.getElem?_cons_succ, if_true, if_false, decide_eq_true_eq, Bool.false_eq_true, reduceIte, Option.bind_some, Nat.add_assoc, Nat.reduceAdd, Nat.reduceSub, Nat.reduceLeDiff, Nat.zero_add, List.replicate, sizeLine_eq, List.length_map, Option.map_some, Option.isSome_some, gt_iff_lt, Bool.not_true, Bool.not_false, Nat.reduceLT, nf_non, nf_int, nf_bl, nf_str, nf_tup, nf_ro, nf_nil, nf_cons, nf_T, flats_T, ints_flat, Bool.and_self, Bool.true_and, Bool.and_true, tidy_app, tidyB_app, tidy_appL, dEq_int, List.cons_prefix_cons, List.nil_prefix, true_and, and_true, and_self, tidy_ok, tidy_ok0, tidyB_ok, tidyB_ok0, decide_true, decide_false, not_true_eq_false, not_false_eq_true, and_false, false_and, List.isEmpty_cons, List.isEmpty_nil, hg, hn, ix2_T, h, l, St]
  · obtain ⟨G, e⟩ := fin [] Gd.none (fun z => absurd (hz.mp z) h)
    refine tidyF (G := G) (runB_rt (a := b_threes_to) ?_) (by simp only [ev_bindok, ev_bindex, ev_thenok, ev_thenex, ev_seqnx, ev_seqrt, ev_seqbk, ev_seqct, ev_seqex, ev_lstO, ev_onL, ev_lenOl, ev_lenOk, ev_var0, ev_varS, ev_c, ev_bin, ev_bin1, ev_bin1x, ev_bin2, ev_bin2x, ev_un, ev_nil, ev_cons, ev_cons1, ev_cons1x, ev_cons2, ev_cons2x, ev_tup, ev_tup1, ev_tup1x, ev_lst, ev_lst1, ev_lst1x, ev_if, ev_if1, ev_if1x, ev_call, ev_callK, ev_callK1, ev_callK1x, ev_tru, ev_tB, ev_asB, ev_tNot, ev_tNot1, ev_tNot1x, ev_tAnd, ev_tAnd1, ev_tAnd1x, ev_tOr, ev_tOr1, ev_tOr1x, ev_and, ev_and1, ev_and2, ev_or, ev_or1, ev_or2, ev_not, ev_not1, ev_not2, ev_truB, ev_truI, ev_truT, ev_truN, ev_truL, ev_yes, ev_sl, ev_sl1, ev_sl2, ev_sl3, ev_oN, ev_oS, ev_oS1, ev_slT, ev_slR, ev_slL, ev_add, ev_sub, ev_neg, ev_addT, ev_addL, ev_ord, ev_abs, ev_max2, ev_min2, ev_int, ev_intB, ev_lenT, ev_lenR, ev_lenL, ev_ixT, ev_ixR, ev_ixL, ev_tupT, ev_tupL, ev_revL, ev_ml, ev_ml1, ev_ml2, ev_ml2x, ev_isL, ev_mapp, ev_popC, ev_pop1, ev_pop2, ev_mpop, ev_mext, ev_newK, ev_newN, ev_is, ev_isNot, ev_isnN, ev_isnT, ev_isnI, ev_isnR, ev_nx, ev_seq, ev_asg, ev_asg1, ev_asg1x, ev_kNx, ev_asgT, ev_asgT1, ev_asgT1x, ev_bTup, ev_bName, ev_bCons, ev_bNil, ev_expr, ev_expr1, ev_expr1x, ev_ret, ev_ret1, ev_ret1x, ev_retN, ev_sif, ev_sif1, ev_sif1x, ev_par, ev_par1, ev_par3, ev_par31, ev_setG, ev_setG1, ev_setG2, ev_setG3, ev_setG4, ev_setG1x, ev_break, ev_cont, ev_for, ev_for1, ev_for1x, ev_runB, ev_fiSeq, ev_itT, ev_itR, ev_itL, ev_loopKnx, ev_loopKct, ev_loopKbk, ev_loopKrt, ev_loopKex, ev_loopN, ev_turn, ev_loopC, ev_wh1, ev_g4s, ev_g4n, ev_get2, ev_get21, ev_get22, ev_get23, ev_get1, ev_get11, ev_get12, ev_x3, ev_ixG, ev_ixG1, ev_ixG2, ev_gT, ev_gD, ev_gD1, ev_isGt, ev_gAti, ev_dc, ev_dc1, ev_lc, ev_lc1, ev_wipe0, ev_wipe, ev_empN, ev_empK, ev_chk1, ev_fiRng1, ev_fiRng11, ev_fiRng2, ev_fiRng21, ev_fiRng22, st_len, st_app, st_at0, st_at, st_set0, st_set, st_take, ev_ftidy, ev_fttidy, optR_some, List.set_cons_zero, List.set_cons_succ, List.length_cons, List.length_nil, List.cons_append, List.nil_append, List.map_cons, List.map_nil, List.getElem?_cons_zero, List.getElem?_cons_succ, if_true, if_false, decide_eq_true_eq, Bool.false_eq_true, reduceIte, Option.bind_some, Nat.add_assoc, Nat.reduceAdd, Nat.reduceSub, Nat.reduceLeDiff, Nat.zero_add, List.replicate, sizeLine_eq, List.length_map, Option.map_some, Option.isSome_some, gt_iff_lt, Bool.not_true, Bool.not_false, Nat.reduceLT, nf_non, nf_int, nf_bl, nf_str, nf_tup, nf_ro, nf_nil, nf_cons, nf_T, flats_T, ints_flat, Bool.and_self, Bool.true_and, Bool.and_true, tidy_app, tidyB_app, tidy_appL, dEq_int, List.cons_prefix_cons, List.nil_prefix, true_and, and_true, and_self, tidy_ok, tidy_ok0, tidyB_ok, tidyB_ok0, decide_true, decide_false, not_true_eq_false, not_false_eq_true, and_false, false_and, List.isEmpty_cons, List.isEmpty_nil])
    rw [← e]
    have l := ld_neg (S := S) (ρ := [some (.int a), some (.int most), some (dT (sc k (1, 1, 1))), some (.ref S.length), none, none, none, none, none]) rfl
    simp only [b_threes_to, ev_bindok, ev_bindex, ev_thenok, ev_thenex, ev_seqnx, ev_seqrt, ev_seqbk, ev_seqct, ev_seqex, ev_lstO, ev_onL, ev_lenOl, ev_lenOk, ev_var0, ev_varS, ev_c, ev_bin, ev_bin1, ev_bin1x, ev_bin2, ev_bin2x, ev_un, ev_nil, ev_cons, ev_cons1, ev_cons1x, ev_cons2, ev_cons2x, ev_tup, ev_tup1, ev_tup1x, ev_lst, ev_lst1, ev_lst1x, ev_if, ev_if1, ev_if1x, ev_call, ev_callK, ev_callK1, ev_callK1x, ev_tru, ev_tB, ev_asB, ev_tNot, ev_tNot1, ev_tNot1x, ev_tAnd, ev_tAnd1, ev_tAnd1x, ev_tOr, ev_tOr1, ev_tOr1x, ev_and, ev_and1, ev_and2, ev_or, ev_or1, ev_or2, ev_not, ev_not1, ev_not2, ev_truB, ev_truI, ev_truT, ev_truN, ev_truL, ev_yes, ev_sl, ev_sl1, ev_sl2, ev_sl3, ev_oN, ev_oS, ev_oS1, ev_slT, ev_slR, ev_slL, ev_add, ev_sub, ev_neg, ev_addT, ev_addL, ev_ord, ev_abs, ev_max2, ev_min2, ev_int, ev_intB, ev_lenT, ev_lenR, ev_lenL, ev_ixT, ev_ixR, ev_ixL, ev_tupT, ev_tupL, ev_revL, ev_ml, ev_ml1, ev_ml2, ev_ml2x, ev_isL, ev_mapp, ev_popC, ev_pop1, ev_pop2, ev_mpop, ev_mext, ev_newK, ev_newN, ev_is, ev_isNot, ev_isnN, ev_isnT, ev_isnI, ev_isnR, ev_nx, ev_seq, ev_asg, ev_asg1, ev_asg1x, ev_kNx, ev_asgT, ev_asgT1, ev_asgT1x, ev_bTup, ev_bName, ev_bCons, ev_bNil, ev_expr, ev_expr1, ev_expr1x, ev_ret, ev_ret1, ev_ret1x, ev_retN, ev_sif, ev_sif1, ev_sif1x, ev_par, ev_par1, ev_par3, ev_par31, ev_setG, ev_setG1, ev_setG2, ev_setG3, ev_setG4, ev_setG1x, ev_break, ev_cont, ev_for, ev_for1, ev_for1x, ev_runB, ev_fiSeq, ev_itT, ev_itR, ev_itL, ev_loopKnx, ev_loopKct, ev_loopKbk, ev_loopKrt, ev_loopKex, ev_loopN, ev_turn, ev_loopC, ev_wh1, ev_g4s, ev_g4n, ev_get2, ev_get21, ev_get22, ev_get23, ev_get1, ev_get11, ev_get12, ev_x3, ev_ixG, ev_ixG1, ev_ixG2, ev_gT, ev_gD, ev_gD1, ev_isGt, ev_gAti, ev_dc, ev_dc1, ev_lc, ev_lc1, ev_wipe0, ev_wipe, ev_empN, ev_empK, ev_chk1, ev_fiRng1, ev_fiRng11, ev_fiRng2, ev_fiRng21, ev_fiRng22, st_len, st_app, st_at0, st_at, st_set0, st_set, st_take, ev_ftidy, ev_fttidy, optR_some, List.set_cons_zero, List.set_cons_succ, List.length_cons, List.length_nil, List.cons_append, List.nil_append, List.map_cons, List.map_nil, List.getElem?_cons_zero, List.getElem?_cons_succ, if_true, if_false, decide_eq_true_eq, Bool.false_eq_true, reduceIte, Option.bind_some, Nat.add_assoc, Nat.reduceAdd, Nat.reduceSub, Nat.reduceLeDiff, Nat.zero_add, List.replicate, sizeLine_eq, List.length_map, Option.map_some, Option.isSome_some, gt_iff_lt, Bool.not_true, Bool.not_false, Nat.reduceLT, nf_non, nf_int, nf_bl, nf_str, nf_tup, nf_ro, nf_nil, nf_cons, nf_T, flats_T, ints_flat, Bool.and_self, Bool.true_and, Bool.and_true, tidy_app, tidyB_app, tidy_appL, dEq_int, List.cons_prefix_cons, List.nil_prefix, true_and, and_true, and_self, tidy_ok, tidy_ok0, tidyB_ok, tidyB_ok0, decide_true, decide_false, not_true_eq_false, not_false_eq_true, and_false, false_and, List.isEmpty_cons, List.isEmpty_nil, hg, hn, ix2_T, h, l, St]
theorem atK_begun {a : Int} (h1 : a ≠ 1) (h3 : a ≠ 3) : atK tb_BEGUN (.inl a) = none := by
  have e1 : ¬ (1 = a) := fun e => h1 e.symm
  have e3 : ¬ (3 = a) := fun e => h3 e.symm
  simp [atK, tb_BEGUN, e1, e3]
theorem threes_no {a : Int} (h1 : a ≠ 1) (h3 : a ≠ 3) {most : Int} (S : Sto) : F_threes_to [.int a, .int most] S = .ok (.tup []) S := by
  have hg := atK_begun h1 h3
  have l := ld_neg (S := S) (ρ := [some (.int a), some (.int most), some .non, some (.ref S.length), none, none, none, none, none]) rfl
  have w : lp_threes_to_6 [some (.int a), some (.int most), some .non, some (.ref S.length), some (.ref (S.length + 1)), some (.int 0), none, none, none] (S ++ [.lst [], seen []]) =
    .nx [some (.int a), some (.int most), some .non, some (.ref S.length), some (.ref (S.length + 1)), some (.int 0), none, none, none] (S ++ [.lst [], seen []]) := by
    rw [lp_threes_to_6, ev_while]
    simp only [lt_threes_to_4, ev_bindok, ev_bindex, ev_thenok, ev_thenex, ev_seqnx, ev_seqrt, ev_seqbk, ev_seqct, ev_seqex, ev_lstO, ev_onL, ev_lenOl, ev_lenOk, ev_var0, ev_varS, ev_c, ev_bin, ev_bin1, ev_bin1x, ev_bin2, ev_bin2x, ev_un, ev_nil, ev_cons, ev_cons1, ev_cons1x, ev_cons2, ev_cons2x, ev_tup, ev_tup1, ev_tup1x, ev_lst, ev_lst1, ev_lst1x, ev_if, ev_if1, ev_if1x, ev_call, ev_callK, ev_callK1, ev_callK1x, ev_tru, ev_tB, ev_asB, ev_tNot, ev_tNot1, ev_tNot1x, ev_tAnd, ev_tAnd1, ev_tAnd1x, ev_tOr, ev_tOr1, ev_tOr1x, ev_and, ev_and1, ev_and2, ev_or, ev_or1, ev_or2, ev_not, ev_not1, ev_not2, ev_truB, ev_truI, ev_truT, ev_truN, ev_truL, ev_yes, ev_sl, ev_sl1, ev_sl2, ev_sl3, ev_oN, ev_oS, ev_oS1, ev_slT, ev_slR, ev_slL, ev_add, ev_sub, ev_neg, ev_addT, ev_addL, ev_ord, ev_abs, ev_max2, ev_min2, ev_int, ev_intB, ev_lenT, ev_lenR, ev_lenL, ev_ixT, ev_ixR, ev_ixL, ev_tupT, ev_tupL, ev_revL, ev_ml, ev_ml1, ev_ml2, ev_ml2x, ev_isL, ev_mapp, ev_popC, ev_pop1, ev_pop2, ev_mpop, ev_mext, ev_newK, ev_newN, ev_is, ev_isNot, ev_isnN, ev_isnT, ev_isnI, ev_isnR, ev_nx, ev_seq, ev_asg, ev_asg1, ev_asg1x, ev_kNx, ev_asgT, ev_asgT1, ev_asgT1x, ev_bTup, ev_bName, ev_bCons, ev_bNil, ev_expr, ev_expr1, ev_expr1x, ev_ret, ev_ret1, ev_ret1x, ev_retN, ev_sif, ev_sif1, ev_sif1x, ev_par, ev_par1, ev_par3, ev_par31, ev_setG, ev_setG1, ev_setG2, ev_setG3, ev_setG4, ev_setG1x, ev_break, ev_cont, ev_for, ev_for1, ev_for1x, ev_runB, ev_fiSeq, ev_itT, ev_itR, ev_itL, ev_loopKnx, ev_loopKct, ev_loopKbk, ev_loopKrt, ev_loopKex, ev_loopN, ev_turn, ev_loopC, ev_wh1, ev_g4s, ev_g4n, ev_get2, ev_get21, ev_get22, ev_get23, ev_get1, ev_get11, ev_get12, ev_x3, ev_ixG, ev_ixG1, ev_ixG2, ev_gT, ev_gD, ev_gD1, ev_isGt, ev_gAti, ev_dc, ev_dc1, ev_lc, ev_lc1, ev_wipe0, ev_wipe, ev_empN, ev_empK, ev_chk1, ev_fiRng1, ev_fiRng11, ev_fiRng2, ev_fiRng21, ev_fiRng22, st_len, st_app, st_at0, st_at, st_set0, st_set, st_take, ev_ftidy, ev_fttidy, optR_some, List.set_cons_zero, List.set_cons_succ, List.length_cons, List.length_nil, List.cons_append, List.nil_append, List.map_cons, List.map_nil, List.getElem?_cons_zero, List.getElem?_cons_succ, if_true, if_false, decide_eq_true_eq, Bool.false_eq_true, reduceIte, Option.bind_some, Nat.add_assoc, Nat.reduceAdd, Nat.reduceSub, Nat.reduceLeDiff, Nat.zero_add, List.replicate, sizeLine_eq, List.length_map, Option.map_some, Option.isSome_some, gt_iff_lt, Bool.not_true, Bool.not_false, Nat.reduceLT, nf_non, nf_int, nf_bl, nf_str, nf_tup, nf_ro, nf_nil, nf_cons, nf_T, flats_T, ints_flat, Bool.and_self, Bool.true_and, Bool.and_true, tidy_app, tidyB_app, tidy_appL, dEq_int, List.cons_prefix_cons, List.nil_prefix, true_and, and_true, and_self, tidy_ok, tidy_ok0, tidyB_ok, tidyB_ok0, decide_true, decide_false, not_true_eq_false, not_false_eq_true, and_false, false_and, List.isEmpty_cons, List.isEmpty_nil]
    rfl
  have hs := sortG_T (x := .ref S.length) (S := S ++ [.lst [], seen []]) (ts := []) (seqK_lst (by simp)) (by simp)
  simp only [ev_bindok, ev_bindex, ev_thenok, ev_thenex, ev_seqnx, ev_seqrt, ev_seqbk, ev_seqct, ev_seqex, ev_lstO, ev_onL, ev_lenOl, ev_lenOk, ev_var0, ev_varS, ev_c, ev_bin, ev_bin1, ev_bin1x, ev_bin2, ev_bin2x, ev_un, ev_nil, ev_cons, ev_cons1, ev_cons1x, ev_cons2, ev_cons2x, ev_tup, ev_tup1, ev_tup1x, ev_lst, ev_lst1, ev_lst1x, ev_if, ev_if1, ev_if1x, ev_call, ev_callK, ev_callK1, ev_callK1x, ev_tru, ev_tB, ev_asB, ev_tNot, ev_tNot1, ev_tNot1x, ev_tAnd, ev_tAnd1, ev_tAnd1x, ev_tOr, ev_tOr1, ev_tOr1x, ev_and, ev_and1, ev_and2, ev_or, ev_or1, ev_or2, ev_not, ev_not1, ev_not2, ev_truB, ev_truI, ev_truT, ev_truN, ev_truL, ev_yes, ev_sl, ev_sl1, ev_sl2, ev_sl3, ev_oN, ev_oS, ev_oS1, ev_slT, ev_slR, ev_slL, ev_add, ev_sub, ev_neg, ev_addT, ev_addL, ev_ord, ev_abs, ev_max2, ev_min2, ev_int, ev_intB, ev_lenT, ev_lenR, ev_lenL, ev_ixT, ev_ixR, ev_ixL, ev_tupT, ev_tupL, ev_revL, ev_ml, ev_ml1, ev_ml2, ev_ml2x, ev_isL, ev_mapp, ev_popC, ev_pop1, ev_pop2, ev_mpop, ev_mext, ev_newK, ev_newN, ev_is, ev_isNot, ev_isnN, ev_isnT, ev_isnI, ev_isnR, ev_nx, ev_seq, ev_asg, ev_asg1, ev_asg1x, ev_kNx, ev_asgT, ev_asgT1, ev_asgT1x, ev_bTup, ev_bName, ev_bCons, ev_bNil, ev_expr, ev_expr1, ev_expr1x, ev_ret, ev_ret1, ev_ret1x, ev_retN, ev_sif, ev_sif1, ev_sif1x, ev_par, ev_par1, ev_par3, ev_par31, ev_setG, ev_setG1, ev_setG2, ev_setG3, ev_setG4, ev_setG1x, ev_break, ev_cont, ev_for, ev_for1, ev_for1x, ev_runB, ev_fiSeq, ev_itT, ev_itR, ev_itL, ev_loopKnx, ev_loopKct, ev_loopKbk, ev_loopKrt, ev_loopKex, ev_loopN, ev_turn, ev_loopC, ev_wh1, ev_g4s, ev_g4n, ev_get2, ev_get21, ev_get22, ev_get23, ev_get1, ev_get11, ev_get12, ev_x3, ev_ixG, ev_ixG1, ev_ixG2, ev_gT, ev_gD, ev_gD1, ev_isGt, ev_gAti, ev_dc, ev_dc1, ev_lc, ev_lc1, ev_wipe0, ev_wipe, ev_empN, ev_empK, ev_chk1, ev_fiRng1, ev_fiRng11, ev_fiRng2, ev_fiRng21, ev_fiRng22, st_len, st_app, st_at0, st_at, st_set0, st_set, st_take, ev_ftidy, ev_fttidy, optR_some, List.set_cons_zero, List.set_cons_succ, List.length_cons, List.length_nil, List.cons_append, List.nil_append, List.map_cons, List.map_nil, List.getElem?_cons_zero, List.getElem?_cons_succ, if_true, if_false, decide_eq_true_eq, Bool.false_eq_true, reduceIte, Option.bind_some, Nat.add_assoc, Nat.reduceAdd, Nat.reduceSub, Nat.reduceLeDiff, Nat.zero_add, List.replicate, sizeLine_eq, List.length_map, Option.map_some, Option.isSome_some, gt_iff_lt, Bool.not_true, Bool.not_false, Nat.reduceLT, nf_non, nf_int, nf_bl, nf_str, nf_tup, nf_ro, nf_nil, nf_cons, nf_T, flats_T, ints_flat, Bool.and_self, Bool.true_and, Bool.and_true, tidy_app, tidyB_app, tidy_appL, dEq_int, List.cons_prefix_cons, List.nil_prefix, true_and, and_true, and_self, tidy_ok, tidy_ok0, tidyB_ok, tidyB_ok0, decide_true, decide_false, not_true_eq_false, not_false_eq_true, and_false, false_and, List.isEmpty_cons, List.isEmpty_nil] at hs
  refine tidyF (G := [.lst [], seen []]) (runB_rt (a := b_threes_to) ?_) (by simp only [ev_bindok, ev_bindex, ev_thenok, ev_thenex, ev_seqnx, ev_seqrt, ev_seqbk, ev_seqct, ev_seqex, ev_lstO, ev_onL, ev_lenOl, ev_lenOk, ev_var0, ev_varS, ev_c, ev_bin, ev_bin1, ev_bin1x, ev_bin2, ev_bin2x, ev_un, ev_nil, ev_cons, ev_cons1, ev_cons1x, ev_cons2, ev_cons2x, ev_tup, ev_tup1, ev_tup1x, ev_lst, ev_lst1, ev_lst1x, ev_if, ev_if1, ev_if1x, ev_call, ev_callK, ev_callK1, ev_callK1x, ev_tru, ev_tB, ev_asB, ev_tNot, ev_tNot1, ev_tNot1x, ev_tAnd, ev_tAnd1, ev_tAnd1x, ev_tOr, ev_tOr1, ev_tOr1x, ev_and, ev_and1, ev_and2, ev_or, ev_or1, ev_or2, ev_not, ev_not1, ev_not2, ev_truB, ev_truI, ev_truT, ev_truN, ev_truL, ev_yes, ev_sl, ev_sl1, ev_sl2, ev_sl3, ev_oN, ev_oS, ev_oS1, ev_slT, ev_slR, ev_slL, ev_add, ev_sub, ev_neg, ev_addT, ev_addL, ev_ord, ev_abs, ev_max2, ev_min2, ev_int, ev_intB, ev_lenT, ev_lenR, ev_lenL, ev_ixT, ev_ixR, ev_ixL, ev_tupT, ev_tupL, ev_revL, ev_ml, ev_ml1, ev_ml2, ev_ml2x, ev_isL, ev_mapp, ev_popC, ev_pop1, ev_pop2, ev_mpop, ev_mext, ev_newK, ev_newN, ev_is, ev_isNot, ev_isnN, ev_isnT, ev_isnI, ev_isnR, ev_nx, ev_seq, ev_asg, ev_asg1, ev_asg1x, ev_kNx, ev_asgT, ev_asgT1, ev_asgT1x, ev_bTup, ev_bName, ev_bCons, ev_bNil, ev_expr, ev_expr1, ev_expr1x, ev_ret, ev_ret1, ev_ret1x, ev_retN, ev_sif, ev_sif1, ev_sif1x, ev_par, ev_par1, ev_par3, ev_par31, ev_setG, ev_setG1, ev_setG2, ev_setG3, ev_setG4, ev_setG1x, ev_break, ev_cont, ev_for, ev_for1, ev_for1x, ev_runB, ev_fiSeq, ev_itT, ev_itR, ev_itL, ev_loopKnx, ev_loopKct, ev_loopKbk, ev_loopKrt, ev_loopKex, ev_loopN, ev_turn, ev_loopC, ev_wh1, ev_g4s, ev_g4n, ev_get2, ev_get21, ev_get22, ev_get23, ev_get1, ev_get11, ev_get12, ev_x3, ev_ixG, ev_ixG1, ev_ixG2, ev_gT, ev_gD, ev_gD1, ev_isGt, ev_gAti, ev_dc, ev_dc1, ev_lc, ev_lc1, ev_wipe0, ev_wipe, ev_empN, ev_empK, ev_chk1, ev_fiRng1, ev_fiRng11, ev_fiRng2, ev_fiRng21, ev_fiRng22, st_len, st_app, st_at0, st_at, st_set0, st_set, st_take, ev_ftidy, ev_fttidy, optR_some, List.set_cons_zero, List.set_cons_succ, List.length_cons, List.length_nil, List.cons_append, List.nil_append, List.map_cons, List.map_nil, List.getElem?_cons_zero, List.getElem?_cons_succ, if_true, if_false, decide_eq_true_eq, Bool.false_eq_true, reduceIte, Option.bind_some, Nat.add_assoc, Nat.reduceAdd, Nat.reduceSub, Nat.reduceLeDiff, Nat.zero_add, List.replicate, sizeLine_eq, List.length_map, Option.map_some, Option.isSome_some, gt_iff_lt, Bool.not_true, Bool.not_false, Nat.reduceLT, nf_non, nf_int, nf_bl, nf_str, nf_tup, nf_ro, nf_nil, nf_cons, nf_T, flats_T, ints_flat, Bool.and_self, Bool.true_and, Bool.and_true, tidy_app, tidyB_app, tidy_appL, dEq_int, List.cons_prefix_cons, List.nil_prefix, true_and, and_true, and_self, tidy_ok, tidy_ok0, tidyB_ok, tidyB_ok0, decide_true, decide_false, not_true_eq_false, not_false_eq_true, and_false, false_and, List.isEmpty_cons, List.isEmpty_nil])
  simp only [b_threes_to, ev_bindok, ev_bindex, ev_thenok, ev_thenex, ev_seqnx, ev_seqrt, ev_seqbk, ev_seqct, ev_seqex, ev_lstO, ev_onL, ev_lenOl, ev_lenOk, ev_var0, ev_varS, ev_c, ev_bin, ev_bin1, ev_bin1x, ev_bin2, ev_bin2x, ev_un, ev_nil, ev_cons, ev_cons1, ev_cons1x, ev_cons2, ev_cons2x, ev_tup, ev_tup1, ev_tup1x, ev_lst, ev_lst1, ev_lst1x, ev_if, ev_if1, ev_if1x, ev_call, ev_callK, ev_callK1, ev_callK1x, ev_tru, ev_tB, ev_asB, ev_tNot, ev_tNot1, ev_tNot1x, ev_tAnd, ev_tAnd1, ev_tAnd1x, ev_tOr, ev_tOr1, ev_tOr1x, ev_and, ev_and1, ev_and2, ev_or, ev_or1, ev_or2, ev_not, ev_not1, ev_not2, ev_truB, ev_truI, ev_truT, ev_truN, ev_truL, ev_yes, ev_sl, ev_sl1, ev_sl2, ev_sl3, ev_oN, ev_oS, ev_oS1, ev_slT, ev_slR, ev_slL, ev_add, ev_sub, ev_neg, ev_addT, ev_addL, ev_ord, ev_abs, ev_max2, ev_min2, ev_int, ev_intB, ev_lenT, ev_lenR, ev_lenL, ev_ixT, ev_ixR, ev_ixL, ev_tupT, ev_tupL, ev_revL, ev_ml, ev_ml1, ev_ml2, ev_ml2x, ev_isL, ev_mapp, ev_popC, ev_pop1, ev_pop2, ev_mpop, ev_mext, ev_newK, ev_newN, ev_is, ev_isNot, ev_isnN, ev_isnT, ev_isnI, ev_isnR, ev_nx, ev_seq, ev_asg, ev_asg1, ev_asg1x, ev_kNx, ev_asgT, ev_asgT1, ev_asgT1x, ev_bTup, ev_bName, ev_bCons, ev_bNil, ev_expr, ev_expr1, ev_expr1x, ev_ret, ev_ret1, ev_ret1x, ev_retN, ev_sif, ev_sif1, ev_sif1x, ev_par, ev_par1, ev_par3, ev_par31, ev_setG, ev_setG1, ev_setG2, ev_setG3, ev_setG4, ev_setG1x, ev_break, ev_cont, ev_for, ev_for1, ev_for1x, ev_runB, ev_fiSeq, ev_itT, ev_itR, ev_itL, ev_loopKnx, ev_loopKct, ev_loopKbk, ev_loopKrt, ev_loopKex, ev_loopN, ev_turn, ev_loopC, ev_wh1, ev_g4s, ev_g4n, ev_get2, ev_get21, ev_get22, ev_get23, ev_get1, ev_get11, ev_get12, ev_x3, ev_ixG, ev_ixG1, ev_ixG2, ev_gT, ev_gD, ev_gD1, ev_isGt, ev_gAti, ev_dc, ev_dc1, ev_lc, ev_lc1, ev_wipe0, ev_wipe, ev_empN, ev_empK, ev_chk1, ev_fiRng1, ev_fiRng11, ev_fiRng2, ev_fiRng21, ev_fiRng22, st_len, st_app, st_at0, st_at, st_set0, st_set, st_take, ev_ftidy, ev_fttidy, optR_some, List.set_cons_zero, List.set_cons_succ, List.length_cons, List.length_nil, List.cons_append, List.nil_append, List.map_cons, List.map_nil, List.getElem?_cons_zero, List.getElem?_cons_succ, if_true, if_false, decide_eq_true_eq, Bool.false_eq_true, reduceIte, Option.bind_some, Nat.add_assoc, Nat.reduceAdd, Nat.reduceSub, Nat.reduceLeDiff, Nat.zero_add, List.replicate, sizeLine_eq, List.length_map, Option.map_some, Option.isSome_some, gt_iff_lt, Bool.not_true, Bool.not_false, Nat.reduceLT, nf_non, nf_int, nf_bl, nf_str, nf_tup, nf_ro, nf_nil, nf_cons, nf_T, flats_T, ints_flat, Bool.and_self, Bool.true_and, Bool.and_true, tidy_app, tidyB_app, tidy_appL, dEq_int, List.cons_prefix_cons, List.nil_prefix, true_and, and_true, and_self, tidy_ok, tidy_ok0, tidyB_ok, tidyB_ok0, decide_true, decide_false, not_true_eq_false, not_false_eq_true, and_false, false_and, List.isEmpty_cons, List.isEmpty_nil, hg, l, w, hs]
  rfl
/-- THREES_TO -/
theorem threes_to_ok {a most : Int} (h1 : 1 ≤ most) (h2 : most ≤ 1000000000000) (S : Sto) : F_threes_to [.int a, .int most] S = .ok (.tup ((TT a most).map dT)) S := by
  unfold TT
  by_cases h3 : a = 3
  · subst h3
    have := threes_k (k := 1) (.inl ⟨rfl, rfl⟩) h1 h2 S
    rw [Int.ediv_one, show (Lm most).map (sc 1) = Lm most by conv => rhs; rw [← List.map_id (Lm most)]
                                                             exact List.map_congr_left fun t _ => by simp [sc]] at this
    simpa using this
  · by_cases h4 : a = 1
    · subst h4
      have := threes_k (k := 3) (.inr ⟨rfl, rfl⟩) h1 h2 S
      simpa using this
    · rw [if_neg h3, if_neg h4]
      exact threes_no h4 h3 S
end Y.k59

set_option Elab.async false
set_option linter.all false
set_option maxRecDepth 100000
set_option maxHeartbeats 2000000
/-! P59d: _law_grown. -/
namespace Y.k59
open PySem L2 Y
/-- the store while _law_grown grows -/
def Gs (S : Sto) (F T : List Tri) : Sto := S ++ [seen (F.map dT), .lst (T.map dT)]
def push (m : Int) (t : Tri) (T : List Tri) : List Tri := if t.2.2 ≤ m then T ++ [t] else T
theorem turnL {F T : List Tri} {most x y z o w : Int} {S : Sto} (hx : x.natAbs < 2 ^ 60) (hz : z.natAbs < 2 ^ 60) (hl : T.length < 10000)
   (hw : (if o = 3 * x * z - y then x else y) = w) (hm : o ≤ most ↔ (ord3 o z w).2.2 ≤ most) :
  lb__law_grown_1 [some (.int most), some (.ref S.length), some (.ref (S.length + 1)), some (.int x), some (.int y), some (.int z), some (.int o)] (Gs S F T) =
   .nx [some (.int most), some (.ref S.length), some (.ref (S.length + 1)), some (.int x), some (.int y), some (.int z), some (.int o)] (Gs S F (push most (ord3 o z w) T)) := by
  have m1 : ∀ S, dMul (.int 3) (.int x) S = .ok (.int (3 * x)) S := fun S => dMul_l (by decide)
  have m2 : ∀ S, dMul (.int (3 * x)) (.int z) S = .ok (.int (3 * x * z)) S := fun S => dMul_r (by omega)
  have hs := sortG_ints (x := .ref (S.length + 2)) (S := S ++ [seen (F.map dT), .lst (T.map dT), .lst [.int o, .int z, .int w]]) (ns := [o, z, w]) (by rw [seqK_lst (ds := [.int o, .int z, .int w]) (by simp)]; rfl) (by simp)
  have e3 := isort3 o z w
  simp only [ev_bindok, ev_bindex, ev_thenok, ev_thenex, ev_seqnx, ev_seqrt, ev_seqbk, ev_seqct, ev_seqex, ev_lstO, ev_onL, ev_lenOl, ev_lenOk, ev_var0, ev_varS, ev_c, ev_bin, ev_bin1, ev_bin1x, ev_bin2, ev_bin2x, ev_un, ev_nil, ev_cons, ev_cons1, ev_cons1x, ev_cons2, ev_cons2x, ev_tup, ev_tup1, ev_tup1x, ev_lst, ev_lst1, ev_lst1x, ev_if, ev_if1, ev_if1x, ev_call, ev_callK, ev_callK1, ev_callK1x, ev_tru, ev_tB, ev_asB, ev_tNot, ev_tNot1, ev_tNot1x, ev_tAnd, ev_tAnd1, ev_tAnd1x, ev_tOr, ev_tOr1, ev_tOr1x, ev_and, ev_and1, ev_and2, ev_or, ev_or1, ev_or2, ev_not, ev_not1, ev_not2, ev_truB, ev_truI, ev_truT, ev_truN, ev_truL, ev_yes, ev_sl, ev_sl1, ev_sl2, ev_sl3, ev_oN, ev_oS, ev_oS1, ev_slT, ev_slR, ev_slL, ev_add, ev_sub, ev_neg, ev_addT, ev_addL, ev_ord, ev_abs, ev_max2, ev_min2, ev_int, ev_intB, ev_lenT, ev_lenR, ev_lenL, ev_ixT, ev_ixR, ev_ixL, ev_tupT, ev_tupL, ev_revL, ev_ml, ev_ml1, ev_ml2, ev_ml2x, ev_isL, ev_mapp, ev_popC, ev_pop1, ev_pop2, ev_mpop, ev_mext, ev_newK, ev_newN, ev_is, ev_isNot, ev_isnN, ev_isnT, ev_isnI, ev_isnR, ev_nx, ev_seq, ev_asg, ev_asg1, ev_asg1x, ev_kNx, ev_asgT, ev_asgT1, ev_asgT1x, ev_bTup, ev_bName, ev_bCons, ev_bNil, ev_expr, ev_expr1, ev_expr1x, ev_ret, ev_ret1, ev_ret1x, ev_retN, ev_sif, ev_sif1, ev_sif1x, ev_par, ev_par1, ev_par3, ev_par31, ev_setG, ev_setG1, ev_setG2, ev_setG3, ev_setG4, ev_setG1x, ev_break, ev_cont, ev_for, ev_for1, ev_for1x, ev_runB, ev_fiSeq, ev_itT, ev_itR, ev_itL, ev_loopKnx, ev_loopKct, ev_loopKbk, ev_loopKrt, ev_loopKex, ev_loopN, ev_turn, ev_loopC, ev_wh1, ev_g4s, ev_g4n, ev_get2, ev_get21, ev_get22, ev_get23, ev_get1, ev_get11, ev_get12, ev_x3, ev_ixG, ev_ixG1, ev_ixG2, ev_gT, ev_gD, ev_gD1, ev_isGt, ev_gAti, ev_dc, ev_dc1, ev_lc, ev_lc1, ev_wipe0, ev_wipe, ev_empN, ev_empK, ev_chk1, ev_fiRng1, ev_fiRng11, ev_fiRng2, ev_fiRng21, ev_fiRng22, st_len, st_app, st_at0, st_at, st_set0, st_set, st_take, ev_ftidy, ev_fttidy, optR_some, List.set_cons_zero, List.set_cons_succ, List.length_cons, List.length_nil, List.cons_append, List.nil_append, List.map_cons, List.map_nil, List.getElem?_cons_zero, List.getElem?_cons_succ, if_true, if_false, decide_eq_true_eq, Bool.false_eq_true, reduceIte, Option.bind_some, Nat.add_assoc, Nat.reduceAdd, Nat.reduceSub, Nat.reduceLeDiff, Nat.zero_add, List.replicate, sizeLine_eq, List.length_map, Option.map_some, Option.isSome_some, gt_iff_lt, Bool.not_true, Bool.not_false, Nat.reduceLT, nf_non, nf_int, nf_bl, nf_str, nf_tup, nf_ro, nf_nil, nf_cons, nf_T, flats_T, ints_flat, Bool.and_self, Bool.true_and, Bool.and_true, tidy_app, tidyB_app, tidy_appL, dEq_int, List.cons_prefix_cons, List.nil_prefix, true_and, and_true, and_self, tidy_ok, tidy_ok0, tidyB_ok, tidyB_ok0, decide_true, decide_false, not_true_eq_false, not_false_eq_true, and_false, false_and, List.isEmpty_cons, List.isEmpty_nil] at hs
  have hl' : T.length < 16777216 := by omega
  have hif : (if o = 3 * x * z - y then (R.ok (D.int x) (Gs S F T)) else R.ok (D.int y) (Gs S F T)) = R.ok (D.int w) (Gs S F T) := by rw [← hw]; split <;> rfl
  unfold Gs at hif
  unfold push
  simp only [← hm]
  by_cases h : o ≤ most
  · simp only [lb__law_grown_1, Gs, ev_bindok, ev_bindex, ev_thenok, ev_thenex, ev_seqnx, ev_seqrt, ev_seqbk, ev_seqct, ev_seqex, ev_lstO, ev_onL, ev_lenOl, ev_lenOk, ev_var0, ev_varS, ev_c, ev_bin, ev_bin1, ev_bin1x, ev_bin2, ev_bin2x, ev_un, ev_nil, ev_cons, ev_cons1, ev_cons1x, ev_cons2, ev_cons2x, ev_tup, ev_tup1, ev_tup1x, ev_lst, ev_lst1, ev_lst1x, ev_if, ev_if1, ev_if1x, ev_call, ev_callK, ev_callK1, ev_callK1x, ev_tru, ev_tB, ev_asB, ev_tNot, ev_tNot1, ev_tNot1x, ev_tAnd, ev_tAnd1, ev_tAnd1x, ev_tOr, ev_tOr1, ev_tOr1x, ev_and, ev_and1, ev_and2, ev_or, ev_or1, ev_or2, ev_not, ev_not1, ev_not2, ev_truB, ev_truI, ev_truT, ev_truN, ev_truL, ev_yes, ev_sl, ev_sl1, ev_sl2, ev_sl3, ev_oN, ev_oS, ev_oS1, ev_slT, ev_slR, ev_slL, ev_add, ev_sub, ev_neg, ev_addT, ev_addL, ev_ord, ev_abs, ev_max2, ev_min2, ev_int, ev_intB, ev_lenT, ev_lenR, ev_lenL, ev_ixT, ev_ixR, ev_ixL, ev_tupT, ev_tupL, ev_revL, ev_ml, ev_ml1, ev_ml2, ev_ml2x, ev_isL, ev_mapp, ev_popC, ev_pop1, ev_pop2, ev_mpop, ev_mext, ev_newK, ev_newN, ev_is, ev_isNot, ev_isnN, ev_isnT, ev_isnI, ev_isnR, ev_nx, ev_seq, ev_asg, ev_asg1, ev_asg1x, ev_kNx, ev_asgT, ev_asgT1, ev_asgT1x, ev_bTup, ev_bName, ev_bCons, ev_bNil, ev_expr, ev_expr1, ev_expr1x, ev_ret, ev_ret1, ev_ret1x, ev_retN, ev_sif, ev_sif1, ev_sif1x, ev_par, ev_par1, ev_par3, ev_par31, ev_setG, ev_setG1, ev_setG2, ev_setG3, ev_setG4, ev_setG1x, ev_break, ev_cont, ev_for, ev_for1, ev_for1x, ev_runB, ev_fiSeq, ev_itT, ev_itR, ev_itL, ev_loopKnx, ev_loopKct, ev_loopKbk, ev_loopKrt, ev_loopKex, ev_loopN, ev_turn, ev_loopC, ev_wh1, ev_g4s, ev_g4n, ev_get2, ev_get21, ev_get22, ev_get23, ev_get1, ev_get11, ev_get12, ev_x3, ev_ixG, ev_ixG1, ev_ixG2, ev_gT, ev_gD, ev_gD1, ev_isGt, ev_gAti, ev_dc, ev_dc1, ev_lc, ev_lc1, ev_wipe0, ev_wipe, ev_empN, ev_empK, ev_chk1, ev_fiRng1, ev_fiRng11, ev_fiRng2, ev_fiRng21, ev_fiRng22, st_len, st_app, st_at0, st_at, st_set0, st_set, st_take, ev_ftidy, ev_fttidy, optR_some, List.set_cons_zero, List.set_cons_succ, List.length_cons, List.length_nil, List.cons_append, List.nil_append, List.map_cons, List.map_nil, List.getElem?_cons_zero, List.getElem?_cons_succ, if_true, if_false, decide_eq_true_eq, Bool.false_eq_true, reduceIte, Option.bind_some, Nat.add_assoc, Nat.reduceAdd, Nat.reduceSub, Nat.reduceLeDiff, Nat.zero_add, List.replicate, sizeLine_eq, List.length_map, Option.map_some, Option.isSome_some, gt_iff_lt, Bool.not_true, Bool.not_false, Nat.reduceLT, nf_non, nf_int, nf_bl, nf_str, nf_tup, nf_ro, nf_nil, nf_cons, nf_T, flats_T, ints_flat, Bool.and_self, Bool.true_and, Bool.and_true, tidy_app, tidyB_app, tidy_appL, dEq_int, List.cons_prefix_cons, List.nil_prefix, true_and, and_true, and_self, tidy_ok, tidy_ok0, tidyB_ok, tidyB_ok0, decide_true, decide_false, not_true_eq_false, not_false_eq_true, and_false, false_and, List.isEmpty_cons, List.isEmpty_nil, h, m1, m2, hif, hs, e3, hl', List.map_append]
  · simp only [lb__law_grown_1, Gs, ev_bindok, ev_bindex, ev_thenok, ev_thenex, ev_seqnx, ev_seqrt, ev_seqbk, ev_seqct, ev_seqex, ev_lstO, ev_onL, ev_lenOl, ev_lenOk, ev_var0, ev_varS, ev_c, ev_bin, ev_bin1, ev_bin1x, ev_bin2, ev_bin2x, ev_un, ev_nil, ev_cons, ev_cons1, ev_cons1x, ev_cons2, ev_cons2x, ev_tup, ev_tup1, ev_tup1x, ev_lst, ev_lst1, ev_lst1x, ev_if, ev_if1, ev_if1x, ev_call, ev_callK, ev_callK1, ev_callK1x, ev_tru, ev_tB, ev_asB, ev_tNot, ev_tNot1, ev_tNot1x, ev_tAnd, ev_tAnd1, ev_tAnd1x, ev_tOr, ev_tOr1, ev_tOr1x, ev_and, ev_and1, ev_and2, ev_or, ev_or1, ev_or2, ev_not, ev_not1, ev_not2, ev_truB, ev_truI, ev_truT, ev_truN, ev_truL, ev_yes, ev_sl, ev_sl1, ev_sl2, ev_sl3, ev_oN, ev_oS, ev_oS1, ev_slT, ev_slR, ev_slL, ev_add, ev_sub, ev_neg, ev_addT, ev_addL, ev_ord, ev_abs, ev_max2, ev_min2, ev_int, ev_intB, ev_lenT, ev_lenR, ev_lenL, ev_ixT, ev_ixR, ev_ixL, ev_tupT, ev_tupL, ev_revL, ev_ml, ev_ml1, ev_ml2, ev_ml2x, ev_isL, ev_mapp, ev_popC, ev_pop1, ev_pop2, ev_mpop, ev_mext, ev_newK, ev_newN, ev_is, ev_isNot, ev_isnN, ev_isnT, ev_isnI, ev_isnR, ev_nx, ev_seq, ev_asg, ev_asg1, ev_asg1x, ev_kNx, ev_asgT, ev_asgT1, ev_asgT1x, ev_bTup, ev_bName, ev_bCons, ev_bNil, ev_expr, ev_expr1, ev_expr1x, ev_ret, ev_ret1, ev_ret1x, ev_retN, ev_sif, ev_sif1, ev_sif1x, ev_par, ev_par1, ev_par3, ev_par31, ev_setG, ev_setG1, ev_setG2, ev_setG3, ev_setG4, ev_setG1x, ev_break, ev_cont, ev_for, ev_for1, ev_for1x, ev_runB, ev_fiSeq, ev_itT, ev_itR, ev_itL, ev_loopKnx, ev_loopKct, ev_loopKbk, ev_loopKrt, ev_loopKex, ev_loopN, ev_turn, ev_loopC, ev_wh1, ev_g4s, ev_g4n, ev_get2, ev_get21, ev_get22, ev_get23, ev_get1, ev_get11, ev_get12, ev_x3, ev_ixG, ev_ixG1, ev_ixG2, ev_gT, ev_gD, ev_gD1, ev_isGt, ev_gAti, ev_dc, ev_dc1, ev_lc, ev_lc1, ev_wipe0, ev_wipe, ev_empN, ev_empK, ev_chk1, ev_fiRng1, ev_fiRng11, ev_fiRng2, ev_fiRng21, ev_fiRng22, st_len, st_app, st_at0, st_at, st_set0, st_set, st_take, ev_ftidy, ev_fttidy, optR_some, List.set_cons_zero, List.set_cons_succ, List.length_cons, List.length_nil, List.cons_append, List.nil_append, List.map_cons, List.map_nil, List.getElem?_cons_zero, List.getElem?_cons_succ, if_true, if_false, decide_eq_true_eq, Bool.false_eq_true, reduceIte, Option.bind_some, Nat.add_assoc, Nat.reduceAdd, Nat.reduceSub, Nat.reduceLeDiff, Nat.zero_add, List.replicate, sizeLine_eq, List.length_map, Option.map_some, Option.isSome_some, gt_iff_lt, Bool.not_true, Bool.not_false, Nat.reduceLT, nf_non, nf_int, nf_bl, nf_str, nf_tup, nf_ro, nf_nil, nf_cons, nf_T, flats_T, ints_flat, Bool.and_self, Bool.true_and, Bool.and_true, tidy_app, tidyB_app, tidy_appL, dEq_int, List.cons_prefix_cons, List.nil_prefix, true_and, and_true, and_self, tidy_ok, tidy_ok0, tidyB_ok, tidyB_ok0, decide_true, decide_false, not_true_eq_false, not_false_eq_true, and_false, false_and, List.isEmpty_cons, List.isEmpty_nil, h]
theorem bT3 {i j k : Nat} {t : Tri} {ρ : Env} : bTup 3 (bCons (bName i) (bCons (bName j) (bCons (bName k) bNil))) (dT t) ρ = some (((ρ.set i (some (.int t.1))).set j (some (.int t.2.1))).set k (some (.int t.2.2))) := rfl
/-- the pile behind a turn -/
def piles (m : Int) (t : Tri) (T : List Tri) : List Tri := push m (mv0 t) (push m (mv1 t) T)
theorem push_len {m : Int} {t : Tri} {T : List Tri} : (push m t T).length ≤ T.length + 1 := by unfold push; split <;> simp
theorem turnW {F T : List Tri} {most : Int} {t : Tri} {S : Sto} {x3 x4 x5 x6 : Option D} (ht : t ∈ Ls) (hm : t.2.2 ≤ most) (hl : T.length < 9000) (hF : F.length < 1000) :
  ∃ x3' x4' x5' x6', lb__law_grown_4 [some (.int most), some (.ref S.length), some (.ref (S.length + 1)), x3, x4, x5, x6] (Gs S F (T ++ [t])) =
   .nx [some (.int most), some (.ref S.length), some (.ref (S.length + 1)), x3', x4', x5', x6'] (if t ∈ F then Gs S F T else Gs S (F ++ [t]) (piles most t T)) := by
  obtain ⟨x, y, z⟩ := t
  have o := ok_ ht
  dsimp only at o hm
  have h1 : ord3 (3 * x * z - y) z x = mv1 (x, y, z) := by
    show _ = ord3 x (3 * x * z - y) z
    rw [ord3_perm2, ord3_perm1 _ x z]
  have h0 : ord3 (3 * y * z - x) z y = mv0 (x, y, z) := by
    show _ = ord3 (3 * z * y - x) y z
    rw [ord3_perm2, show 3 * y * z = 3 * z * y by grind]
  have c1 : (3 * x * z - y ≤ most) ↔ (ord3 (3 * x * z - y) z x).2.2 ≤ most := by rw [ord3_top]; omega
  have c0 : (3 * y * z - x ≤ most) ↔ (ord3 (3 * y * z - x) z y).2.2 ≤ most := by rw [ord3_top]; omega
  have w0 : (if 3 * y * z - x = 3 * x * z - y then x else y) = y := by
    split
    · rename_i e
      have : (y - x) * (3 * z + 1) = 0 := by grind
      rcases Int.mul_eq_zero.mp this with e | e <;> omega
    · rfl
  have t1 := turnL (F := F ++ [(x, y, z)]) (T := T) (most := most) (x := x) (y := y) (z := z) (o := 3 * x * z - y) (w := x) (S := S) (by omega) (by omega) (by omega) (by rw [if_pos rfl]) c1
  have t0 := turnL (F := F ++ [(x, y, z)]) (T := push most (mv1 (x, y, z)) T) (most := most) (x := x) (y := y) (z := z) (o := 3 * y * z - x) (w := y) (S := S) (by omega) (by omega) (by have := push_len (m := most) (t := mv1 (x, y, z)) (T := T); omega) w0 c0
  rw [h1] at t1
  rw [h0] at t0
  have m1 : ∀ S, dMul (.int 3) (.int x) S = .ok (.int (3 * x)) S := fun S => dMul_l (by decide)
  have m2 : ∀ S, dMul (.int (3 * x)) (.int z) S = .ok (.int (3 * x * z)) S := fun S => dMul_r (by omega)
  have m3 : ∀ S, dMul (.int 3) (.int y) S = .ok (.int (3 * y)) S := fun S => dMul_l (by decide)
  have m4 : ∀ S, dMul (.int (3 * y)) (.int z) S = .ok (.int (3 * y * z)) S := fun S => dMul_r (by omega)
  have hin := in_seen (S := Gs S F T) (j := S.length) (F := F.map dT) (x := .tup [.int x, .int y, .int z]) (neg := true) (by simp [Gs]) (keyT_T (x, y, z))
  have hst := set_seen (S := Gs S F T) (j := S.length) (F := F.map dT) (x := .tup [.int x, .int y, .int z]) (by simp [Gs]) (keyT_T (x, y, z)) (by simp; omega)
  have mem : (D.tup [.int x, .int y, .int z] ∈ F.map dT) ↔ (x, y, z) ∈ F := mem_dT (t := (x, y, z))
  have hd : dT (x, y, z) = .tup [.int x, .int y, .int z] := rfl
  unfold Gs at t1 t0 hin hst ⊢
  simp only [ev_bindok, ev_bindex, ev_thenok, ev_thenex, ev_seqnx, ev_seqrt, ev_seqbk, ev_seqct, ev_seqex, ev_lstO, ev_onL, ev_lenOl, ev_lenOk, ev_var0, ev_varS, ev_c, ev_bin, ev_bin1, ev_bin1x, ev_bin2, ev_bin2x, ev_un, ev_nil, ev_cons, ev_cons1, ev_cons1x, ev_cons2, ev_cons2x, ev_tup, ev_tup1, ev_tup1x, ev_lst, ev_lst1, ev_lst1x, ev_if, ev_if1, ev_if1x, ev_call, ev_callK, ev_callK1, ev_callK1x, ev_tru, ev_tB, ev_asB, ev_tNot, ev_tNot1, ev_tNot1x, ev_tAnd, ev_tAnd1, ev_tAnd1x, ev_tOr, ev_tOr1, ev_tOr1x, ev_and, ev_and1, ev_and2, ev_or, ev_or1, ev_or2, ev_not, ev_not1, ev_not2, ev_truB, ev_truI, ev_truT, ev_truN, ev_truL, ev_yes, ev_sl, ev_sl1, ev_sl2, ev_sl3, ev_oN, ev_oS, ev_oS1, ev_slT, ev_slR, ev_slL, ev_add, ev_sub, ev_neg, ev_addT, ev_addL, ev_ord, ev_abs, ev_max2, ev_min2, ev_int, ev_intB, ev_lenT, ev_lenR, ev_lenL, ev_ixT, ev_ixR, ev_ixL, ev_tupT, ev_tupL, ev_revL, ev_ml, ev_ml1, ev_ml2, ev_ml2x, ev_isL, ev_mapp, ev_popC, ev_pop1, ev_pop2, ev_mpop, ev_mext, ev_newK, ev_newN, ev_is, ev_isNot, ev_isnN, ev_isnT, ev_isnI, ev_isnR, ev_nx, ev_seq, ev_asg, ev_asg1, ev_asg1x, ev_kNx, ev_asgT, ev_asgT1, ev_asgT1x, ev_bTup, ev_bName, ev_bCons, ev_bNil, ev_expr, ev_expr1, ev_expr1x, ev_ret, ev_ret1, ev_ret1x, ev_retN, ev_sif, ev_sif1, ev_sif1x, ev_par, ev_par1, ev_par3, ev_par31, ev_setG, ev_setG1, ev_setG2, ev_setG3, ev_setG4, ev_setG1x, ev_break, ev_cont, ev_for, ev_for1, ev_for1x, ev_runB, ev_fiSeq, ev_itT, ev_itR, ev_itL, ev_loopKnx, ev_loopKct, ev_loopKbk, ev_loopKrt, ev_loopKex, ev_loopN, ev_turn, ev_loopC, ev_wh1, ev_g4s, ev_g4n, ev_get2, ev_get21, ev_get22, ev_get23, ev_get1, ev_get11, ev_get12, ev_x3, ev_ixG, ev_ixG1, ev_ixG2, ev_gT, ev_gD, ev_gD1, ev_isGt, ev_gAti, ev_dc, ev_dc1, ev_lc, ev_lc1, ev_wipe0, ev_wipe, ev_empN, ev_empK, ev_chk1, ev_fiRng1, ev_fiRng11, ev_fiRng2, ev_fiRng21, ev_fiRng22, st_len, st_app, st_at0, st_at, st_set0, st_set, st_take, ev_ftidy, ev_fttidy, optR_some, List.set_cons_zero, List.set_cons_succ, List.length_cons, List.length_nil, List.cons_append, List.nil_append, List.map_cons, List.map_nil, List.getElem?_cons_zero, List.getElem?_cons_succ, if_true, if_false, decide_eq_true_eq, Bool.false_eq_true, reduceIte, Option.bind_some, Nat.add_assoc, Nat.reduceAdd, Nat.reduceSub, Nat.reduceLeDiff, Nat.zero_add, List.replicate, sizeLine_eq, List.length_map, Option.map_some, Option.isSome_some, gt_iff_lt, Bool.not_true, Bool.not_false, Nat.reduceLT, nf_non, nf_int, nf_bl, nf_str, nf_tup, nf_ro, nf_nil, nf_cons, nf_T, flats_T, ints_flat, Bool.and_self, Bool.true_and, Bool.and_true, tidy_app, tidyB_app, tidy_appL, dEq_int, List.cons_prefix_cons, List.nil_prefix, true_and, and_true, and_self, tidy_ok, tidy_ok0, tidyB_ok, tidyB_ok0, decide_true, decide_false, not_true_eq_false, not_false_eq_true, and_false, false_and, List.isEmpty_cons, List.isEmpty_nil, mem] at hin
  by_cases h : (x, y, z) ∈ F
  · refine ⟨some (.int x), some (.int y), some (.int z), x6, ?_⟩
    simp only [lb__law_grown_4, ev_bindok, ev_bindex, ev_thenok, ev_thenex, ev_seqnx, ev_seqrt, ev_seqbk, ev_seqct, ev_seqex, ev_lstO, ev_onL, ev_lenOl, ev_lenOk, ev_var0, ev_varS, ev_c, ev_bin, ev_bin1, ev_bin1x, ev_bin2, ev_bin2x, ev_un, ev_nil, ev_cons, ev_cons1, ev_cons1x, ev_cons2, ev_cons2x, ev_tup, ev_tup1, ev_tup1x, ev_lst, ev_lst1, ev_lst1x, ev_if, ev_if1, ev_if1x, ev_call, ev_callK, ev_callK1, ev_callK1x, ev_tru, ev_tB, ev_asB, ev_tNot, ev_tNot1, ev_tNot1x, ev_tAnd, ev_tAnd1, ev_tAnd1x, ev_tOr, ev_tOr1, ev_tOr1x, ev_and, ev_and1, ev_and2, ev_or, ev_or1, ev_or2, ev_not, ev_not1, ev_not2, ev_truB, ev_truI, ev_truT, ev_truN, ev_truL, ev_yes, ev_sl, ev_sl1, ev_sl2, ev_sl3, ev_oN, ev_oS, ev_oS1, ev_slT, ev_slR, ev_slL, ev_add, ev_sub, ev_neg, ev_addT, ev_addL, ev_ord, ev_abs, ev_max2, ev_min2, ev_int, ev_intB, ev_lenT, ev_lenR, ev_lenL, ev_ixT, ev_ixR, ev_ixL, ev_tupT, ev_tupL, ev_revL, ev_ml, ev_ml1, ev_ml2, ev_ml2x, ev_isL, ev_mapp, ev_popC, ev_pop1, ev_pop2, ev_mpop, ev_mext, ev_newK, ev_newN, ev_is, ev_isNot, ev_isnN, ev_isnT, ev_isnI, ev_isnR, ev_nx, ev_seq, ev_asg, ev_asg1, ev_asg1x, ev_kNx, ev_asgT, ev_asgT1, ev_asgT1x, ev_bTup, ev_bName, ev_bCons, ev_bNil, ev_expr, ev_expr1, ev_expr1x, ev_ret, ev_ret1, ev_ret1x, ev_retN, ev_sif, ev_sif1, ev_sif1x, ev_par, ev_par1, ev_par3, ev_par31, ev_setG, ev_setG1, ev_setG2, ev_setG3, ev_setG4, ev_setG1x, ev_break, ev_cont, ev_for, ev_for1, ev_for1x, ev_runB, ev_fiSeq, ev_itT, ev_itR, ev_itL, ev_loopKnx, ev_loopKct, ev_loopKbk, ev_loopKrt, ev_loopKex, ev_loopN, ev_turn, ev_loopC, ev_wh1, ev_g4s, ev_g4n, ev_get2, ev_get21, ev_get22, ev_get23, ev_get1, ev_get11, ev_get12, ev_x3, ev_ixG, ev_ixG1, ev_ixG2, ev_gT, ev_gD, ev_gD1, ev_isGt, ev_gAti, ev_dc, ev_dc1, ev_lc, ev_lc1, ev_wipe0, ev_wipe, ev_empN, ev_empK, ev_chk1, ev_fiRng1, ev_fiRng11, ev_fiRng2, ev_fiRng21, ev_fiRng22, st_len, st_app, st_at0, st_at, st_set0, st_set, st_take, ev_ftidy, ev_fttidy, optR_some, List.set_cons_zero, List.set_cons_succ, List.length_cons, List.length_nil, List.cons_append, List.nil_append, List.map_cons, List.map_nil, List.getElem?_cons_zero, List.getElem?_cons_succ, if_true, if_false, decide_eq_true_eq, Bool.false_eq_true, reduceIte, Option.bind_some, Nat.add_assoc, Nat.reduceAdd, Nat.reduceSub, Nat.reduceLeDiff, Nat.zero_add, List.replicate, sizeLine_eq, List.length_map, Option.map_some, Option.isSome_some, gt_iff_lt, Bool.not_true, Bool.not_false, Nat.reduceLT, nf_non, nf_int, nf_bl, nf_str, nf_tup, nf_ro, nf_nil, nf_cons, nf_T, flats_T, ints_flat, Bool.and_self, Bool.true_and, Bool.and_true, tidy_app, tidyB_app, tidy_appL, dEq_int, List.cons_prefix_cons, List.nil_prefix, true_and, and_true, and_self, tidy_ok, tidy_ok0, tidyB_ok, tidyB_ok0, decide_true, decide_false, not_true_eq_false, not_false_eq_true, and_false, false_and, List.isEmpty_cons, List.isEmpty_nil, h, hin, bT3, List.map_append, mem]
  · refine ⟨some (.int x), some (.int y), some (.int z), some (.int (3 * y * z - x)), ?_⟩
    simp only [ev_bindok, ev_bindex, ev_thenok, ev_thenex, ev_seqnx, ev_seqrt, ev_seqbk, ev_seqct, ev_seqex, ev_lstO, ev_onL, ev_lenOl, ev_lenOk, ev_var0, ev_varS, ev_c, ev_bin, ev_bin1, ev_bin1x, ev_bin2, ev_bin2x, ev_un, ev_nil, ev_cons, ev_cons1, ev_cons1x, ev_cons2, ev_cons2x, ev_tup, ev_tup1, ev_tup1x, ev_lst, ev_lst1, ev_lst1x, ev_if, ev_if1, ev_if1x, ev_call, ev_callK, ev_callK1, ev_callK1x, ev_tru, ev_tB, ev_asB, ev_tNot, ev_tNot1, ev_tNot1x, ev_tAnd, ev_tAnd1, ev_tAnd1x, ev_tOr, ev_tOr1, ev_tOr1x, ev_and, ev_and1, ev_and2, ev_or, ev_or1, ev_or2, ev_not, ev_not1, ev_not2, ev_truB, ev_truI, ev_truT, ev_truN, ev_truL, ev_yes, ev_sl, ev_sl1, ev_sl2, ev_sl3, ev_oN, ev_oS, ev_oS1, ev_slT, ev_slR, ev_slL, ev_add, ev_sub, ev_neg, ev_addT, ev_addL, ev_ord, ev_abs, ev_max2, ev_min2, ev_int, ev_intB, ev_lenT, ev_lenR, ev_lenL, ev_ixT, ev_ixR, ev_ixL, ev_tupT, ev_tupL, ev_revL, ev_ml, ev_ml1, ev_ml2, ev_ml2x, ev_isL, ev_mapp, ev_popC, ev_pop1, ev_pop2, ev_mpop, ev_mext, ev_newK, ev_newN, ev_is, ev_isNot, ev_isnN, ev_isnT, ev_isnI, ev_isnR, ev_nx, ev_seq, ev_asg, ev_asg1, ev_asg1x, ev_kNx, ev_asgT, ev_asgT1, ev_asgT1x, ev_bTup, ev_bName, ev_bCons, ev_bNil, ev_expr, ev_expr1, ev_expr1x, ev_ret, ev_ret1, ev_ret1x, ev_retN, ev_sif, ev_sif1, ev_sif1x, ev_par, ev_par1, ev_par3, ev_par31, ev_setG, ev_setG1, ev_setG2, ev_setG3, ev_setG4, ev_setG1x, ev_break, ev_cont, ev_for, ev_for1, ev_for1x, ev_runB, ev_fiSeq, ev_itT, ev_itR, ev_itL, ev_loopKnx, ev_loopKct, ev_loopKbk, ev_loopKrt, ev_loopKex, ev_loopN, ev_turn, ev_loopC, ev_wh1, ev_g4s, ev_g4n, ev_get2, ev_get21, ev_get22, ev_get23, ev_get1, ev_get11, ev_get12, ev_x3, ev_ixG, ev_ixG1, ev_ixG2, ev_gT, ev_gD, ev_gD1, ev_isGt, ev_gAti, ev_dc, ev_dc1, ev_lc, ev_lc1, ev_wipe0, ev_wipe, ev_empN, ev_empK, ev_chk1, ev_fiRng1, ev_fiRng11, ev_fiRng2, ev_fiRng21, ev_fiRng22, st_len, st_app, st_at0, st_at, st_set0, st_set, st_take, ev_ftidy, ev_fttidy, optR_some, List.set_cons_zero, List.set_cons_succ, List.length_cons, List.length_nil, List.cons_append, List.nil_append, List.map_cons, List.map_nil, List.getElem?_cons_zero, List.getElem?_cons_succ, if_true, if_false, decide_eq_true_eq, Bool.false_eq_true, reduceIte, Option.bind_some, Nat.add_assoc, Nat.reduceAdd, Nat.reduceSub, Nat.reduceLeDiff, Nat.zero_add, List.replicate, sizeLine_eq, List.length_map, Option.map_some, Option.isSome_some, gt_iff_lt, Bool.not_true, Bool.not_false, Nat.reduceLT, nf_non, nf_int, nf_bl, nf_str, nf_tup, nf_ro, nf_nil, nf_cons, nf_T, flats_T, ints_flat, Bool.and_self, Bool.true_and, Bool.and_true, tidy_app, tidyB_app, tidy_appL, dEq_int, List.cons_prefix_cons, List.nil_prefix, true_and, and_true, and_self, tidy_ok, tidy_ok0, tidyB_ok, tidyB_ok0, decide_true, decide_false, not_true_eq_false, not_false_eq_true, and_false, false_and, List.isEmpty_cons, List.isEmpty_nil, mem, h] at hst
    simp only [List.map_append, List.map_cons, List.map_nil, hd] at t1 t0
    simp only [lb__law_grown_4, ev_bindok, ev_bindex, ev_thenok, ev_thenex, ev_seqnx, ev_seqrt, ev_seqbk, ev_seqct, ev_seqex, ev_lstO, ev_onL, ev_lenOl, ev_lenOk, ev_var0, ev_varS, ev_c, ev_bin, ev_bin1, ev_bin1x, ev_bin2, ev_bin2x, ev_un, ev_nil, ev_cons, ev_cons1, ev_cons1x, ev_cons2, ev_cons2x, ev_tup, ev_tup1, ev_tup1x, ev_lst, ev_lst1, ev_lst1x, ev_if, ev_if1, ev_if1x, ev_call, ev_callK, ev_callK1, ev_callK1x, ev_tru, ev_tB, ev_asB, ev_tNot, ev_tNot1, ev_tNot1x, ev_tAnd, ev_tAnd1, ev_tAnd1x, ev_tOr, ev_tOr1, ev_tOr1x, ev_and, ev_and1, ev_and2, ev_or, ev_or1, ev_or2, ev_not, ev_not1, ev_not2, ev_truB, ev_truI, ev_truT, ev_truN, ev_truL, ev_yes, ev_sl, ev_sl1, ev_sl2, ev_sl3, ev_oN, ev_oS, ev_oS1, ev_slT, ev_slR, ev_slL, ev_add, ev_sub, ev_neg, ev_addT, ev_addL, ev_ord, ev_abs, ev_max2, ev_min2, ev_int, ev_intB, ev_lenT, ev_lenR, ev_lenL, ev_ixT, ev_ixR, ev_ixL, ev_tupT, ev_tupL, ev_revL, ev_ml, ev_ml1, ev_ml2, ev_ml2x, ev_isL, ev_mapp, ev_popC, ev_pop1, ev_pop2, ev_mpop, ev_mext, ev_newK, ev_newN, ev_is, ev_isNot, ev_isnN, ev_isnT, ev_isnI, ev_isnR, ev_nx, ev_seq, ev_asg, ev_asg1, ev_asg1x, ev_kNx, ev_asgT, ev_asgT1, ev_asgT1x, ev_bTup, ev_bName, ev_bCons, ev_bNil, ev_expr, ev_expr1, ev_expr1x, ev_ret, ev_ret1, ev_ret1x, ev_retN, ev_sif, ev_sif1, ev_sif1x, ev_par, ev_par1, ev_par3, ev_par31, ev_setG, ev_setG1, ev_setG2, ev_setG3, ev_setG4, ev_setG1x, ev_break, ev_cont, ev_for, ev_for1, ev_for1x, ev_runB, ev_fiSeq, ev_itT, ev_itR, ev_itL, ev_loopKnx, ev_loopKct, ev_loopKbk, ev_loopKrt, ev_loopKex, ev_loopN, ev_turn, ev_loopC, ev_wh1, ev_g4s, ev_g4n, ev_get2, ev_get21, ev_get22, ev_get23, ev_get1, ev_get11, ev_get12, ev_x3, ev_ixG, ev_ixG1, ev_ixG2, ev_gT, ev_gD, ev_gD1, ev_isGt, ev_gAti, ev_dc, ev_dc1, ev_lc, ev_lc1, ev_wipe0, ev_wipe, ev_empN, ev_empK, ev_chk1, ev_fiRng1, ev_fiRng11, ev_fiRng2, ev_fiRng21, ev_fiRng22, st_len, st_app, st_at0, st_at, st_set0, st_set, st_take, ev_ftidy, ev_fttidy, optR_some, List.set_cons_zero, List.set_cons_succ, List.length_cons, List.length_nil, List.cons_append, List.nil_append, List.map_cons, List.map_nil, List.getElem?_cons_zero, List.getElem?_cons_succ, if_true, if_false, decide_eq_true_eq, Bool.false_eq_true, reduceIte, Option.bind_some, Nat.add_assoc, Nat.reduceAdd, Nat.reduceSub, Nat.reduceLeDiff, Nat.zero_add, List.replicate, sizeLine_eq, List.length_map, Option.map_some, Option.isSome_some, gt_iff_lt, Bool.not_true, Bool.not_false, Nat.reduceLT, nf_non, nf_int, nf_bl, nf_str, nf_tup, nf_ro, nf_nil, nf_cons, nf_T, flats_T, ints_flat, Bool.and_self, Bool.true_and, Bool.and_true, tidy_app, tidyB_app, tidy_appL, dEq_int, List.cons_prefix_cons, List.nil_prefix, true_and, and_true, and_self, tidy_ok, tidy_ok0, tidyB_ok, tidyB_ok0, decide_true, decide_false, not_true_eq_false, not_false_eq_true, and_false, false_and, List.isEmpty_cons, List.isEmpty_nil, h, hin, hst, bT3, List.map_append, mem, lp__law_grown_2, m1, m2, m3, m4, t1, t0, hd, piles]
structure Gi (m : Int) (F T : List Tri) : Prop where
  gd : Gd m F
  top : ∀ t ∈ T, t ∈ Ls ∧ t.2.2 ≤ m
  cl : ∀ t ∈ F, ((mv0 t).2.2 ≤ m → mv0 t ∈ F ∨ mv0 t ∈ T) ∧ ((mv1 t).2.2 ≤ m → mv1 t ∈ F ∨ mv1 t ∈ T)
  root : 1 ≤ m → (1, 1, 1) ∈ F ∨ (1, 1, 1) ∈ T
theorem mem_push {m : Int} {t u : Tri} {T : List Tri} : u ∈ push m t T ↔ u ∈ T ∨ (u = t ∧ t.2.2 ≤ m) := by
  unfold push
  by_cases h : t.2.2 ≤ m
  · rw [if_pos h, List.mem_append, List.mem_singleton]; simp [h]
  · rw [if_neg h]; simp [h]
theorem mem_piles {m : Int} {t u : Tri} {T : List Tri} : u ∈ piles m t T ↔ (u ∈ T ∨ (u = mv1 t ∧ (mv1 t).2.2 ≤ m)) ∨ (u = mv0 t ∧ (mv0 t).2.2 ≤ m) := by
  unfold piles
  rw [mem_push, mem_push]
theorem Gi.old {m : Int} {F T : List Tri} {t : Tri} (h : Gi m F (T ++ [t])) (ht : t ∈ F) : Gi m F T where
  gd := h.gd
  top := fun u hu => h.top u (by simp [hu])
  cl := fun u hu => by
    have e : ∀ v : Tri, v ∈ F ∨ v ∈ T ++ [t] → v ∈ F ∨ v ∈ T := fun v hv => by
      rcases hv with hv | hv
      · exact .inl hv
      · rcases List.mem_append.mp hv with hv | hv
        · exact .inr hv
        · rw [List.mem_singleton.mp hv]; exact .inl ht
    exact ⟨fun z => e _ ((h.cl u hu).1 z), fun z => e _ ((h.cl u hu).2 z)⟩
  root := fun z => by
    rcases h.root z with hv | hv
    · exact .inl hv
    · rcases List.mem_append.mp hv with hv | hv
      · exact .inr hv
      · rw [List.mem_singleton.mp hv]; exact .inl ht
theorem Gi.new {m : Int} (hm : m ≤ 1000000000000) {F T : List Tri} {t : Tri} (h : Gi m F (T ++ [t])) (ht : t ∉ F) : Gi m (F ++ [t]) (piles m t T) where
  gd := by
    have ht2 := h.top t (by simp)
    have := h.gd.add (t := t) (fun _ => ht2.1)
    unfold k59.add at this
    rwa [if_pos ⟨ht2.2, ht⟩] at this
  top := fun u hu => by
    have ht2 := h.top t (by simp)
    rcases mem_piles.mp hu with (hu | ⟨rfl, hz⟩) | ⟨rfl, hz⟩
    · exact h.top u (by simp [hu])
    · exact ⟨(closed ht2.1).2 (by omega), hz⟩
    · exact ⟨(closed ht2.1).1 (by omega), hz⟩
  cl := fun u hu => by
    have e : ∀ v : Tri, v ∈ F ∨ v ∈ T ++ [t] → v ∈ F ++ [t] ∨ v ∈ piles m t T := fun v hv => by
      rw [mem_piles]
      simp only [List.mem_append, List.mem_singleton] at hv ⊢
      rcases hv with hv | hv | hv
      · exact .inl (.inl hv)
      · exact .inr (.inl (.inl hv))
      · exact .inl (.inr hv)
    rcases List.mem_append.mp hu with hu | hu
    · exact ⟨fun z => e _ ((h.cl u hu).1 z), fun z => e _ ((h.cl u hu).2 z)⟩
    · rw [List.mem_singleton.mp hu]
      exact ⟨fun z => .inr (mem_piles.mpr (.inr ⟨rfl, z⟩)), fun z => .inr (mem_piles.mpr (.inl (.inr ⟨rfl, z⟩)))⟩
  root := fun z => by
    rw [mem_piles]
    rcases h.root z with hv | hv
    · exact .inl (by simp [hv])
    · simp only [List.mem_append, List.mem_singleton] at hv ⊢
      rcases hv with hv | hv
      · exact .inr (.inl (.inl hv))
      · exact .inl (.inr hv)
theorem grown_loop {most : Int} {S : Sto} (hm : most ≤ 1000000000000) : ∀ (n : Nat) (F T : List Tri) (x3 x4 x5 x6 : Option D), 3 * (152 - F.length) + T.length ≤ n → T.length + 3 * (152 - F.length) ≤ 1000 → Gi most F T →
  ∃ F' x3' x4' x5' x6', lp__law_grown_5 [some (.int most), some (.ref S.length), some (.ref (S.length + 1)), x3, x4, x5, x6] (Gs S F T) =
   .nx [some (.int most), some (.ref S.length), some (.ref (S.length + 1)), x3', x4', x5', x6'] (Gs S F' []) ∧ Gi most F' [] := by
  have test : ∀ (F T : List Tri) (x3 x4 x5 x6 : Option D), lt__law_grown_3 [some (.int most), some (.ref S.length), some (.ref (S.length + 1)), x3, x4, x5, x6] (Gs S F T) = .ok (!T.isEmpty) (Gs S F T) := fun F T x3 x4 x5 x6 => by
    have e := dNe_nilG (S := S ++ [seen (F.map dT), .lst (T.map dT), .lst []]) (i := S.length + 1) (j := S.length + 2) (ds := T.map dT) (by simp) (by simp) (flats_T T) (shaped_Ts T)
    simp only [lt__law_grown_3, Gs, ev_bindok, ev_bindex, ev_thenok, ev_thenex, ev_seqnx, ev_seqrt, ev_seqbk, ev_seqct, ev_seqex, ev_lstO, ev_onL, ev_lenOl, ev_lenOk, ev_var0, ev_varS, ev_c, ev_bin, ev_bin1, ev_bin1x, ev_bin2, ev_bin2x, ev_un, ev_nil, ev_cons, ev_cons1, ev_cons1x, ev_cons2, ev_cons2x, ev_tup, ev_tup1, ev_tup1x, ev_lst, ev_lst1, ev_lst1x, ev_if, ev_if1, ev_if1x, ev_call, ev_callK, ev_callK1, ev_callK1x, ev_tru, ev_tB, ev_asB, ev_tNot, ev_tNot1, ev_tNot1x, ev_tAnd, ev_tAnd1, ev_tAnd1x, ev_tOr, ev_tOr1, ev_tOr1x, ev_and, ev_and1, ev_and2, ev_or, ev_or1, ev_or2, ev_not, ev_not1, ev_not2, ev_truB, ev_truI, ev_truT, ev_truN, ev_truL, ev_yes, ev_sl, ev_sl1, ev_sl2, ev_sl3, ev_oN, ev_oS, ev_oS1, ev_slT, ev_slR, ev_slL, ev_add, ev_sub, ev_neg, ev_addT, ev_addL, ev_ord, ev_abs, ev_max2, ev_min2, ev_int, ev_intB, ev_lenT, ev_lenR, ev_lenL, ev_ixT, ev_ixR, ev_ixL, ev_tupT, ev_tupL, ev_revL, ev_ml, ev_ml1, ev_ml2, ev_ml2x, ev_isL, ev_mapp, ev_popC, ev_pop1, ev_pop2, ev_mpop, ev_mext, ev_newK, ev_newN, ev_is, ev_isNot, ev_isnN, ev_isnT, ev_isnI, ev_isnR, ev_nx, ev_seq, ev_asg, ev_asg1, ev_asg1x, ev_kNx, ev_asgT, ev_asgT1, ev_asgT1x, ev_bTup, ev_bName, ev_bCons, ev_bNil, ev_expr, ev_expr1, ev_expr1x, ev_ret, ev_ret1, ev_ret1x, ev_retN, ev_sif, ev_sif1, ev_sif1x, ev_par, ev_par1, ev_par3, ev_par31, ev_setG, ev_setG1, ev_setG2, ev_setG3, ev_setG4, ev_setG1x, ev_break, ev_cont, ev_for, ev_for1, ev_for1x, ev_runB, ev_fiSeq, ev_itT, ev_itR, ev_itL, ev_loopKnx, ev_loopKct, ev_loopKbk, ev_loopKrt, ev_loopKex, ev_loopN, ev_turn, ev_loopC, ev_wh1, ev_g4s, ev_g4n, ev_get2, ev_get21, ev_get22, ev_get23, ev_get1, ev_get11, ev_get12, ev_x3, ev_ixG, ev_ixG1, ev_ixG2, ev_gT, ev_gD, ev_gD1, ev_isGt, ev_gAti, ev_dc, ev_dc1, ev_lc, ev_lc1, ev_wipe0, ev_wipe, ev_empN, ev_empK, ev_chk1, ev_fiRng1, ev_fiRng11, ev_fiRng2, ev_fiRng21, ev_fiRng22, st_len, st_app, st_at0, st_at, st_set0, st_set, st_take, ev_ftidy, ev_fttidy, optR_some, List.set_cons_zero, List.set_cons_succ, List.length_cons, List.length_nil, List.cons_append, List.nil_append, List.map_cons, List.map_nil, List.getElem?_cons_zero, List.getElem?_cons_succ, if_true, if_false, decide_eq_true_eq, Bool.false_eq_true, reduceIte, Option.bind_some, Nat.add_assoc, Nat.reduceAdd, Nat.reduceSub, Nat.reduceLeDiff, Nat.zero_add, List.replicate, sizeLine_eq, List.length_map, Option.map_some, Option.isSome_some, gt_iff_lt, Bool.not_true, Bool.not_false, Nat.reduceLT, nf_non, nf_int, nf_bl, nf_str, nf_tup, nf_ro, nf_nil, nf_cons, nf_T, flats_T, ints_flat, Bool.and_self, Bool.true_and, Bool.and_true, tidy_app, tidyB_app, tidy_appL, dEq_int, List.cons_prefix_cons, List.nil_prefix, true_and, and_true, and_self, tidy_ok, tidy_ok0, tidyB_ok, tidyB_ok0, decide_true, decide_false, not_true_eq_false, not_false_eq_true, and_false, false_and, List.isEmpty_cons, List.isEmpty_nil, e, List.isEmpty_map]
  intro n
  induction n with
  | zero =>
    intro F T x3 x4 x5 x6 h1 h2 h3
    obtain rfl : T = [] := List.length_eq_zero_iff.mp (by omega)
    exact ⟨F, x3, x4, x5, x6, by rw [lp__law_grown_5, ev_while, test]; rfl, h3⟩
  | succ n ih =>
    intro F T x3 x4 x5 x6 h1 h2 h3
    by_cases hT : T = []
    · subst hT
      exact ⟨F, x3, x4, x5, x6, by rw [lp__law_grown_5, ev_while, test]; rfl, h3⟩
    · obtain ⟨T', t, rfl⟩ : ∃ T' t, T = T' ++ [t] := ⟨T.dropLast, T.getLast hT, (List.dropLast_concat_getLast hT).symm⟩
      have ht := h3.top t (by simp)
      have lF := h3.gd.len
      have lT : (T' ++ [t]).length = T'.length + 1 := by simp
      obtain ⟨y3, y4, y5, y6, q⟩ := turnW (F := F) (T := T') (S := S) (x3 := x3) (x4 := x4) (x5 := x5) (x6 := x6) ht.1 ht.2 (by omega) (by omega)
      by_cases hF : t ∈ F
      · rw [if_pos hF] at q
        obtain ⟨F', x3', x4', x5', x6', r, r1⟩ := ih F T' y3 y4 y5 y6 (by omega) (by omega) (h3.old hF)
        refine ⟨F', x3', x4', x5', x6', ?_, r1⟩
        rw [lp__law_grown_5, ev_while, test]
        simp only [show (T' ++ [t]).isEmpty = false by simp, Bool.not_false, ev_wh1, if_true, q, ev_loopKnx]
        exact r
      · rw [if_neg hF] at q
        have n1 := h3.new hm hF
        have l1 := n1.gd.len
        have l2 : (F ++ [t]).length = F.length + 1 := by simp
        have l3 : (piles most t T').length ≤ T'.length + 2 := by
          unfold piles
          have := push_len (m := most) (t := mv0 t) (T := push most (mv1 t) T')
          have := push_len (m := most) (t := mv1 t) (T := T')
          omega
        obtain ⟨F', x3', x4', x5', x6', r, r1⟩ := ih (F ++ [t]) (piles most t T') y3 y4 y5 y6 (by omega) (by omega) n1
        refine ⟨F', x3', x4', x5', x6', ?_, r1⟩
        rw [lp__law_grown_5, ev_while, test]
        simp only [show (T' ++ [t]).isEmpty = false by simp, Bool.not_false, ev_wh1, if_true, q, ev_loopKnx]
        exact r
/-- _LAW_GROWN -/
theorem grown_ok {most : Int} (h2 : most ≤ 1000000000000) (S : Sto) : F__law_grown [.int most] S = .ok (.ref S.length) (S ++ [.lst ((Lm most).map dT)]) := by
  obtain ⟨T0, hT0, g0⟩ : ∃ T0 : List Tri, T0 = (if 0 < most then [(1, 1, 1)] else []) ∧ Gi most [] T0 := by
    refine ⟨_, rfl, Gd.none, fun t ht => ?_, fun _ h => (by cases h), fun z => .inr (by rw [if_pos (by omega)]; simp)⟩
    split at ht
    · rw [List.mem_singleton.mp ht]; exact ⟨by decide, by show (1 : Int) ≤ most; omega⟩
    · cases ht
  have l0 : T0.length ≤ 1 := by rw [hT0]; split <;> simp
  obtain ⟨F', x3', x4', x5', x6', q, q1⟩ := grown_loop (S := S) h2 1000 [] T0 none none none none (by simp; omega) (by simp; omega) g0
  have hs := sortG_T (x := .ref S.length) (S := Gs S F' []) (ts := F') (seqK_seen (by simp [Gs])) (by have := q1.gd.len; omega)
  rw [sorted_Lm q1.gd (fun z => (q1.root z).resolve_right (by simp)) (fun t ht => ⟨fun z => ((q1.cl t ht).1 z).resolve_right (by simp), fun z => ((q1.cl t ht).2 z).resolve_right (by simp)⟩)] at hs
  have run : runB b__law_grown 7 [.int most] S = .ok (.ref (S.length + 2)) (S ++ [seen (F'.map dT), .lst [], .lst ((Lm most).map dT)]) := by
    refine runB_rt ?_
    unfold Gs at q hs
    simp only [ev_bindok, ev_bindex, ev_thenok, ev_thenex, ev_seqnx, ev_seqrt, ev_seqbk, ev_seqct, ev_seqex, ev_lstO, ev_onL, ev_lenOl, ev_lenOk, ev_var0, ev_varS, ev_c, ev_bin, ev_bin1, ev_bin1x, ev_bin2, ev_bin2x, ev_un, ev_nil, ev_cons, ev_cons1, ev_cons1x, ev_cons2, ev_cons2x, ev_tup, ev_tup1, ev_tup1x, ev_lst, ev_lst1, ev_lst1x, ev_if, ev_if1, ev_if1x, ev_call, ev_callK, ev_callK1, ev_callK1x, ev_tru, ev_tB, ev_asB, ev_tNot, ev_tNot1, ev_tNot1x, ev_tAnd, ev_tAnd1, ev_tAnd1x, ev_tOr, ev_tOr1, ev_tOr1x, ev_and, ev_and1, ev_and2, ev_or, ev_or1, ev_or2, ev_not, ev_not1, ev_not2, ev_truB, ev_truI, ev_truT, ev_truN, ev_truL, ev_yes, ev_sl, ev_sl1, ev_sl2, ev_sl3, ev_oN, ev_oS, ev_oS1, ev_slT, ev_slR, ev_slL, ev_add, ev_sub, ev_neg, ev_addT, ev_addL, ev_ord, ev_abs, ev_max2, ev_min2, ev_int, ev_intB, ev_lenT, ev_lenR, ev_lenL, ev_ixT, ev_ixR, ev_ixL, ev_tupT, ev_tupL, ev_revL, ev_ml, ev_ml1, ev_ml2, ev_ml2x, ev_isL, ev_mapp, ev_popC, ev_pop1, ev_pop2, ev_mpop, ev_mext, ev_newK, ev_newN, ev_is, ev_isNot, ev_isnN, ev_isnT, ev_isnI, ev_isnR, ev_nx, ev_seq, ev_asg, ev_asg1, ev_asg1x, ev_kNx, ev_asgT, ev_asgT1, ev_asgT1x, ev_bTup, ev_bName, ev_bCons, ev_bNil, ev_expr, ev_expr1, ev_expr1x, ev_ret, ev_ret1, ev_ret1x, ev_retN, ev_sif, ev_sif1, ev_sif1x, ev_par, ev_par1, ev_par3, ev_par31, ev_setG, ev_setG1, ev_setG2, ev_setG3, ev_setG4, ev_setG1x, ev_break, ev_cont, ev_for, ev_for1, ev_for1x, ev_runB, ev_fiSeq, ev_itT, ev_itR, ev_itL, ev_loopKnx, ev_loopKct, ev_loopKbk, ev_loopKrt, ev_loopKex, ev_loopN, ev_turn, ev_loopC, ev_wh1, ev_g4s, ev_g4n, ev_get2, ev_get21, ev_get22, ev_get23, ev_get1, ev_get11, ev_get12, ev_x3, ev_ixG, ev_ixG1, ev_ixG2, ev_gT, ev_gD, ev_gD1, ev_isGt, ev_gAti, ev_dc, ev_dc1, ev_lc, ev_lc1, ev_wipe0, ev_wipe, ev_empN, ev_empK, ev_chk1, ev_fiRng1, ev_fiRng11, ev_fiRng2, ev_fiRng21, ev_fiRng22, st_len, st_app, st_at0, st_at, st_set0, st_set, st_take, ev_ftidy, ev_fttidy, optR_some, List.set_cons_zero, List.set_cons_succ, List.length_cons, List.length_nil, List.cons_append, List.nil_append, List.map_cons, List.map_nil, List.getElem?_cons_zero, List.getElem?_cons_succ, if_true, if_false, decide_eq_true_eq, Bool.false_eq_true, reduceIte, Option.bind_some, Nat.add_assoc, Nat.reduceAdd, Nat.reduceSub, Nat.reduceLeDiff, Nat.zero_add, List.replicate, sizeLine_eq, List.length_map, Option.map_some, Option.isSome_some, gt_iff_lt, Bool.not_true, Bool.not_false, Nat.reduceLT, nf_non, nf_int, nf_bl, nf_str, nf_tup, nf_ro, nf_nil, nf_cons, nf_T, flats_T, ints_flat, Bool.and_self, Bool.true_and, Bool.and_true, tidy_app, tidyB_app, tidy_appL, dEq_int, List.cons_prefix_cons, List.nil_prefix, true_and, and_true, and_self, tidy_ok, tidy_ok0, tidyB_ok, tidyB_ok0, decide_true, decide_false, not_true_eq_false, not_false_eq_true, and_false, false_and, List.isEmpty_cons, List.isEmpty_nil] at hs
    have e0 : seen [] = .dN [] := rfl
    by_cases h : 0 < most
    · rw [if_pos h] at hT0
      subst hT0
      simp only [dT, ev_bindok, ev_bindex, ev_thenok, ev_thenex, ev_seqnx, ev_seqrt, ev_seqbk, ev_seqct, ev_seqex, ev_lstO, ev_onL, ev_lenOl, ev_lenOk, ev_var0, ev_varS, ev_c, ev_bin, ev_bin1, ev_bin1x, ev_bin2, ev_bin2x, ev_un, ev_nil, ev_cons, ev_cons1, ev_cons1x, ev_cons2, ev_cons2x, ev_tup, ev_tup1, ev_tup1x, ev_lst, ev_lst1, ev_lst1x, ev_if, ev_if1, ev_if1x, ev_call, ev_callK, ev_callK1, ev_callK1x, ev_tru, ev_tB, ev_asB, ev_tNot, ev_tNot1, ev_tNot1x, ev_tAnd, ev_tAnd1, ev_tAnd1x, ev_tOr, ev_tOr1, ev_tOr1x, ev_and, ev_and1, ev_and2, ev_or, ev_or1, ev_or2, ev_not, ev_not1, ev_not2, ev_truB, ev_truI, ev_truT, ev_truN, ev_truL, ev_yes, ev_sl, ev_sl1, ev_sl2, ev_sl3, ev_oN, ev_oS, ev_oS1, ev_slT, ev_slR, ev_slL, ev_add, ev_sub, ev_neg, ev_addT, ev_addL, ev_ord, ev_abs, ev_max2, ev_min2, ev_int, ev_intB, ev_lenT, ev_lenR, ev_lenL, ev_ixT, ev_ixR, ev_ixL, ev_tupT, ev_tupL, ev_revL, ev_ml, ev_ml1, ev_ml2, ev_ml2x, ev_isL, ev_mapp, ev_popC, ev_pop1, ev_pop2, ev_mpop, ev_mext, ev_newK, ev_newN, ev_is, ev_isNot, ev_isnN, ev_isnT, ev_isnI, ev_isnR, ev_nx, ev_seq, ev_asg, ev_asg1, ev_asg1x, ev_kNx, ev_asgT, ev_asgT1, ev_asgT1x, ev_bTup, ev_bName, ev_bCons, ev_bNil, ev_expr, ev_expr1, ev_expr1x, ev_ret, ev_ret1, ev_ret1x, ev_retN, ev_sif, ev_sif1, ev_sif1x, ev_par, ev_par1, ev_par3, ev_par31, ev_setG, ev_setG1, ev_setG2, ev_setG3, ev_setG4, ev_setG1x, ev_break, ev_cont, ev_for, ev_for1, ev_for1x, ev_runB, ev_fiSeq, ev_itT, ev_itR, ev_itL, ev_loopKnx, ev_loopKct, ev_loopKbk, ev_loopKrt, ev_loopKex, ev_loopN, ev_turn, ev_loopC, ev_wh1, ev_g4s, ev_g4n, ev_get2, ev_get21, ev_get22, ev_get23, ev_get1, ev_get11, ev_get12, ev_x3, ev_ixG, ev_ixG1, ev_ixG2, ev_gT, ev_gD, ev_gD1, ev_isGt, ev_gAti, ev_dc, ev_dc1, ev_lc, ev_lc1, ev_wipe0, ev_wipe, ev_empN, ev_empK, ev_chk1, ev_fiRng1, ev_fiRng11, ev_fiRng2, ev_fiRng21, ev_fiRng22, st_len, st_app, st_at0, st_at, st_set0, st_set, st_take, ev_ftidy, ev_fttidy, optR_some, List.set_cons_zero, List.set_cons_succ, List.length_cons, List.length_nil, List.cons_append, List.nil_append, List.map_cons, List.map_nil, List.getElem?_cons_zero, List.getElem?_cons_succ, if_true, if_false, decide_eq_true_eq, Bool.false_eq_true, reduceIte, Option.bind_some, Nat.add_assoc, Nat.reduceAdd, Nat.reduceSub, Nat.reduceLeDiff, Nat.zero_add, List.replicate, sizeLine_eq, List.length_map, Option.map_some, Option.isSome_some, gt_iff_lt, Bool.not_true, Bool.not_false, Nat.reduceLT, nf_non, nf_int, nf_bl, nf_str, nf_tup, nf_ro, nf_nil, nf_cons, nf_T, flats_T, ints_flat, Bool.and_self, Bool.true_and, Bool.and_true, tidy_app, tidyB_app, tidy_appL, dEq_int, List.cons_prefix_cons, List.nil_prefix, true_and, and_true, and_self, tidy_ok, tidy_ok0, tidyB_ok, tidyB_ok0, decide_true, decide_false, not_true_eq_false, not_false_eq_true, and_false, false_and, List.isEmpty_cons, List.isEmpty_nil, e0] at q
      simp only [b__law_grown, ev_bindok, ev_bindex, ev_thenok, ev_thenex, ev_seqnx, ev_seqrt, ev_seqbk, ev_seqct, ev_seqex, ev_lstO, ev_onL, ev_lenOl, ev_lenOk, ev_var0, ev_varS, ev_c, ev_bin, ev_bin1, ev_bin1x, ev_bin2, ev_bin2x, ev_un, ev_nil, ev_cons, ev_cons1, ev_cons1x, ev_cons2, ev_cons2x, ev_tup, ev_tup1, ev_tup1x, ev_lst, ev_lst1, ev_lst1x, ev_if, ev_if1, ev_if1x, ev_call, ev_callK, ev_callK1, ev_callK1x, ev_tru, ev_tB, ev_asB, ev_tNot, ev_tNot1, ev_tNot1x, ev_tAnd, ev_tAnd1, ev_tAnd1x, ev_tOr, ev_tOr1, ev_tOr1x, ev_and, ev_and1, ev_and2, ev_or, ev_or1, ev_or2, ev_not, ev_not1, ev_not2, ev_truB, ev_truI, ev_truT, ev_truN, ev_truL, ev_yes, ev_sl, ev_sl1, ev_sl2, ev_sl3, ev_oN, ev_oS, ev_oS1, ev_slT, ev_slR, ev_slL, ev_add, ev_sub, ev_neg, ev_addT, ev_addL, ev_ord, ev_abs, ev_max2, ev_min2, ev_int, ev_intB, ev_lenT, ev_lenR, ev_lenL, ev_ixT, ev_ixR, ev_ixL, ev_tupT, ev_tupL, ev_revL, ev_ml, ev_ml1, ev_ml2, ev_ml2x, ev_isL, ev_mapp, ev_popC, ev_pop1, ev_pop2, ev_mpop, ev_mext, ev_newK, ev_newN, ev_is, ev_isNot, ev_isnN, ev_isnT, ev_isnI, ev_isnR, ev_nx, ev_seq, ev_asg, ev_asg1, ev_asg1x, ev_kNx, ev_asgT, ev_asgT1, ev_asgT1x, ev_bTup, ev_bName, ev_bCons, ev_bNil, ev_expr, ev_expr1, ev_expr1x, ev_ret, ev_ret1, ev_ret1x, ev_retN, ev_sif, ev_sif1, ev_sif1x, ev_par, ev_par1, ev_par3, ev_par31, ev_setG, ev_setG1, ev_setG2, ev_setG3, ev_setG4, ev_setG1x, ev_break, ev_cont, ev_for, ev_for1, ev_for1x, ev_runB, ev_fiSeq, ev_itT, ev_itR, ev_itL, ev_loopKnx, ev_loopKct, ev_loopKbk, ev_loopKrt, ev_loopKex, ev_loopN, ev_turn, ev_loopC, ev_wh1, ev_g4s, ev_g4n, ev_get2, ev_get21, ev_get22, ev_get23, ev_get1, ev_get11, ev_get12, ev_x3, ev_ixG, ev_ixG1, ev_ixG2, ev_gT, ev_gD, ev_gD1, ev_isGt, ev_gAti, ev_dc, ev_dc1, ev_lc, ev_lc1, ev_wipe0, ev_wipe, ev_empN, ev_empK, ev_chk1, ev_fiRng1, ev_fiRng11, ev_fiRng2, ev_fiRng21, ev_fiRng22, st_len, st_app, st_at0, st_at, st_set0, st_set, st_take, ev_ftidy, ev_fttidy, optR_some, List.set_cons_zero, List.set_cons_succ, List.length_cons, List.length_nil, List.cons_append, List.nil_append, List.map_cons, List.map_nil, List.getElem?_cons_zero, List.getElem?_cons_succ, if_true, if_false, decide_eq_true_eq, Bool.false_eq_true, reduceIte, Option.bind_some, Nat.add_assoc, Nat.reduceAdd, Nat.reduceSub, Nat.reduceLeDiff, Nat.zero_add, List.replicate, sizeLine_eq, List.length_map, Option.map_some, Option.isSome_some, gt_iff_lt, Bool.not_true, Bool.not_false, Nat.reduceLT, nf_non, nf_int, nf_bl, nf_str, nf_tup, nf_ro, nf_nil, nf_cons, nf_T, flats_T, ints_flat, Bool.and_self, Bool.true_and, Bool.and_true, tidy_app, tidyB_app, tidy_appL, dEq_int, List.cons_prefix_cons, List.nil_prefix, true_and, and_true, and_self, tidy_ok, tidy_ok0, tidyB_ok, tidyB_ok0, decide_true, decide_false, not_true_eq_false, not_false_eq_true, and_false, false_and, List.isEmpty_cons, List.isEmpty_nil, h, q, hs]
    · rw [if_neg h] at hT0
      subst hT0
      simp only [ev_bindok, ev_bindex, ev_thenok, ev_thenex, ev_seqnx, ev_seqrt, ev_seqbk, ev_seqct, ev_seqex, ev_lstO, ev_onL, ev_lenOl, ev_lenOk, ev_var0, ev_varS, ev_c, ev_bin, ev_bin1, ev_bin1x, ev_bin2, ev_bin2x, ev_un, ev_nil, ev_cons, ev_cons1, ev_cons1x, ev_cons2, ev_cons2x, ev_tup, ev_tup1, ev_tup1x, ev_lst, ev_lst1, ev_lst1x, ev_if, ev_if1, ev_if1x, ev_call, ev_callK, ev_callK1, ev_callK1x, ev_tru, ev_tB, ev_asB, ev_tNot, ev_tNot1, ev_tNot1x, ev_tAnd, ev_tAnd1, ev_tAnd1x, ev_tOr, ev_tOr1, ev_tOr1x, ev_and, ev_and1, ev_and2, ev_or, ev_or1, ev_or2, ev_not, ev_not1, ev_not2, ev_truB, ev_truI, ev_truT, ev_truN, ev_truL, ev_yes, ev_sl, ev_sl1, ev_sl2, ev_sl3, ev_oN, ev_oS, ev_oS1, ev_slT, ev_slR, ev_slL, ev_add, ev_sub, ev_neg, ev_addT, ev_addL, ev_ord, ev_abs, ev_max2, ev_min2, ev_int, ev_intB, ev_lenT, ev_lenR, ev_lenL, ev_ixT, ev_ixR, ev_ixL, ev_tupT, ev_tupL, ev_revL, ev_ml, ev_ml1, ev_ml2, ev_ml2x, ev_isL, ev_mapp, ev_popC, ev_pop1, ev_pop2, ev_mpop, ev_mext, ev_newK, ev_newN, ev_is, ev_isNot, ev_isnN, ev_isnT, ev_isnI, ev_isnR, ev_nx, ev_seq, ev_asg, ev_asg1, ev_asg1x, ev_kNx, ev_asgT, ev_asgT1, ev_asgT1x, ev_bTup, ev_bName, ev_bCons, ev_bNil, ev_expr, ev_expr1, ev_expr1x, ev_ret, ev_ret1, ev_ret1x, ev_retN, ev_sif, ev_sif1, ev_sif1x, ev_par, ev_par1, ev_par3, ev_par31, ev_setG, ev_setG1, ev_setG2, ev_setG3, ev_setG4, ev_setG1x, ev_break, ev_cont, ev_for, ev_for1, ev_for1x, ev_runB, ev_fiSeq, ev_itT, ev_itR, ev_itL, ev_loopKnx, ev_loopKct, ev_loopKbk, ev_loopKrt, ev_loopKex, ev_loopN, ev_turn, ev_loopC, ev_wh1, ev_g4s, ev_g4n, ev_get2, ev_get21, ev_get22, ev_get23, ev_get1, ev_get11, ev_get12, ev_x3, ev_ixG, ev_ixG1, ev_ixG2, ev_gT, ev_gD, ev_gD1, ev_isGt, ev_gAti, ev_dc, ev_dc1, ev_lc, ev_lc1, ev_wipe0, ev_wipe, ev_empN, ev_empK, ev_chk1, ev_fiRng1, ev_fiRng11, ev_fiRng2, ev_fiRng21, ev_fiRng22, st_len, st_app, st_at0, st_at, st_set0, st_set, st_take, ev_ftidy, ev_fttidy, optR_some, List.set_cons_zero, List.set_cons_succ, List.length_cons, List.length_nil, List.cons_append, List.nil_append, List.map_cons, List.map_nil, List.getElem?_cons_zero, List.getElem?_cons_succ, if_true, if_false, decide_eq_true_eq, Bool.false_eq_true, reduceIte, Option.bind_some, Nat.add_assoc, Nat.reduceAdd, Nat.reduceSub, Nat.reduceLeDiff, Nat.zero_add, List.replicate, sizeLine_eq, List.length_map, Option.map_some, Option.isSome_some, gt_iff_lt, Bool.not_true, Bool.not_false, Nat.reduceLT, nf_non, nf_int, nf_bl, nf_str, nf_tup, nf_ro, nf_nil, nf_cons, nf_T, flats_T, ints_flat, Bool.and_self, Bool.true_and, Bool.and_true, tidy_app, tidyB_app, tidy_appL, dEq_int, List.cons_prefix_cons, List.nil_prefix, true_and, and_true, and_self, tidy_ok, tidy_ok0, tidyB_ok, tidyB_ok0, decide_true, decide_false, not_true_eq_false, not_false_eq_true, and_false, false_and, List.isEmpty_cons, List.isEmpty_nil, e0] at q
      simp only [b__law_grown, ev_bindok, ev_bindex, ev_thenok, ev_thenex, ev_seqnx, ev_seqrt, ev_seqbk, ev_seqct, ev_seqex, ev_lstO, ev_onL, ev_lenOl, ev_lenOk, ev_var0, ev_varS, ev_c, ev_bin, ev_bin1, ev_bin1x, ev_bin2, ev_bin2x, ev_un, ev_nil, ev_cons, ev_cons1, ev_cons1x, ev_cons2, ev_cons2x, ev_tup, ev_tup1, ev_tup1x, ev_lst, ev_lst1, ev_lst1x, ev_if, ev_if1, ev_if1x, ev_call, ev_callK, ev_callK1, ev_callK1x, ev_tru, ev_tB, ev_asB, ev_tNot, ev_tNot1, ev_tNot1x, ev_tAnd, ev_tAnd1, ev_tAnd1x, ev_tOr, ev_tOr1, ev_tOr1x, ev_and, ev_and1, ev_and2, ev_or, ev_or1, ev_or2, ev_not, ev_not1, ev_not2, ev_truB, ev_truI, ev_truT, ev_truN, ev_truL, ev_yes, ev_sl, ev_sl1, ev_sl2, ev_sl3, ev_oN, ev_oS, ev_oS1, ev_slT, ev_slR, ev_slL, ev_add, ev_sub, ev_neg, ev_addT, ev_addL, ev_ord, ev_abs, ev_max2, ev_min2, ev_int, ev_intB, ev_lenT, ev_lenR, ev_lenL, ev_ixT, ev_ixR, ev_ixL, ev_tupT, ev_tupL, ev_revL, ev_ml, ev_ml1, ev_ml2, ev_ml2x, ev_isL, ev_mapp, ev_popC, ev_pop1, ev_pop2, ev_mpop, ev_mext, ev_newK, ev_newN, ev_is, ev_isNot, ev_isnN, ev_isnT, ev_isnI, ev_isnR, ev_nx, ev_seq, ev_asg, ev_asg1, ev_asg1x, ev_kNx, ev_asgT, ev_asgT1, ev_asgT1x, ev_bTup, ev_bName, ev_bCons, ev_bNil, ev_expr, ev_expr1, ev_expr1x, ev_ret, ev_ret1, ev_ret1x, ev_retN, ev_sif, ev_sif1, ev_sif1x, ev_par, ev_par1, ev_par3, ev_par31, ev_setG, ev_setG1, ev_setG2, ev_setG3, ev_setG4, ev_setG1x, ev_break, ev_cont, ev_for, ev_for1, ev_for1x, ev_runB, ev_fiSeq, ev_itT, ev_itR, ev_itL, ev_loopKnx, ev_loopKct, ev_loopKbk, ev_loopKrt, ev_loopKex, ev_loopN, ev_turn, ev_loopC, ev_wh1, ev_g4s, ev_g4n, ev_get2, ev_get21, ev_get22, ev_get23, ev_get1, ev_get11, ev_get12, ev_x3, ev_ixG, ev_ixG1, ev_ixG2, ev_gT, ev_gD, ev_gD1, ev_isGt, ev_gAti, ev_dc, ev_dc1, ev_lc, ev_lc1, ev_wipe0, ev_wipe, ev_empN, ev_empK, ev_chk1, ev_fiRng1, ev_fiRng11, ev_fiRng2, ev_fiRng21, ev_fiRng22, st_len, st_app, st_at0, st_at, st_set0, st_set, st_take, ev_ftidy, ev_fttidy, optR_some, List.set_cons_zero, List.set_cons_succ, List.length_cons, List.length_nil, List.cons_append, List.nil_append, List.map_cons, List.map_nil, List.getElem?_cons_zero, List.getElem?_cons_succ, if_true, if_false, decide_eq_true_eq, Bool.false_eq_true, reduceIte, Option.bind_some, Nat.add_assoc, Nat.reduceAdd, Nat.reduceSub, Nat.reduceLeDiff, Nat.zero_add, List.replicate, sizeLine_eq, List.length_map, Option.map_some, Option.isSome_some, gt_iff_lt, Bool.not_true, Bool.not_false, Nat.reduceLT, nf_non, nf_int, nf_bl, nf_str, nf_tup, nf_ro, nf_nil, nf_cons, nf_T, flats_T, ints_flat, Bool.and_self, Bool.true_and, Bool.and_true, tidy_app, tidyB_app, tidy_appL, dEq_int, List.cons_prefix_cons, List.nil_prefix, true_and, and_true, and_self, tidy_ok, tidy_ok0, tidyB_ok, tidyB_ok0, decide_true, decide_false, not_true_eq_false, not_false_eq_true, and_false, false_and, List.isEmpty_cons, List.isEmpty_nil, h, q, hs]
  unfold F__law_grown FF.tidy
  rw [run]
  exact tidy_lst (G := [seen (F'.map dT), .lst [], .lst ((Lm most).map dT)]) rfl (by omega) (by simp) (flats_T _)
end Y.k59

set_option Elab.async false
set_option linter.all false
set_option maxRecDepth 100000
set_option maxHeartbeats 2000000
/-! P59e: the law's triples, the numbers, by look. -/
namespace Y.k59
open PySem L2 Y
theorem Lm_len {m : Int} : (Lm m).length ≤ 152 := List.length_filter_le _ _
/-- _LAW_TRIPLES -/
theorem triples_ok {a most : Int} (h0 : 1 ≤ most) (h2 : most ≤ 1000000000000) (S : Sto) : F__law_triples [.int a, .int most] S = .ok (.ref S.length) (S ++ [.lst ((TT a most).map dT)]) := by
  unfold TT F__law_triples
  by_cases h3 : a = 3
  · subst h3
    have g := grown_ok h2 S
    have run : runB b__law_triples 5 [.int 3, .int most] S = .ok (.ref S.length) (S ++ [.lst ((Lm most).map dT)]) := by
      refine runB_rt ?_
      simp only [b__law_triples, ev_bindok, ev_bindex, ev_thenok, ev_thenex, ev_seqnx, ev_seqrt, ev_seqbk, ev_seqct, ev_seqex, ev_lstO, ev_onL, ev_lenOl, ev_lenOk, ev_var0, ev_varS, ev_c, ev_bin, ev_bin1, ev_bin1x, ev_bin2, ev_bin2x, ev_un, ev_nil, ev_cons, ev_cons1, ev_cons1x, ev_cons2, ev_cons2x, ev_tup, ev_tup1, ev_tup1x, ev_lst, ev_lst1, ev_lst1x, ev_if, ev_if1, ev_if1x, ev_call, ev_callK, ev_callK1, ev_callK1x, ev_tru, ev_tB, ev_asB, ev_tNot, ev_tNot1, ev_tNot1x, ev_tAnd, ev_tAnd1, ev_tAnd1x, ev_tOr, ev_tOr1, ev_tOr1x, ev_and, ev_and1, ev_and2, ev_or, ev_or1, ev_or2, ev_not, ev_not1, ev_not2, ev_truB, ev_truI, ev_truT, ev_truN, ev_truL, ev_yes, ev_sl, ev_sl1, ev_sl2, ev_sl3, ev_oN, ev_oS, ev_oS1, ev_slT, ev_slR, ev_slL, ev_add, ev_sub, ev_neg, ev_addT, ev_addL, ev_ord, ev_abs, ev_max2, ev_min2, ev_int, ev_intB, ev_lenT, ev_lenR, ev_lenL, ev_ixT, ev_ixR, ev_ixL, ev_tupT, ev_tupL, ev_revL, ev_ml, ev_ml1, ev_ml2, ev_ml2x, ev_isL, ev_mapp, ev_popC, ev_pop1, ev_pop2, ev_mpop, ev_mext, ev_newK, ev_newN, ev_is, ev_isNot, ev_isnN, ev_isnT, ev_isnI, ev_isnR, ev_nx, ev_seq, ev_asg, ev_asg1, ev_asg1x, ev_kNx, ev_asgT, ev_asgT1, ev_asgT1x, ev_bTup, ev_bName, ev_bCons, ev_bNil, ev_expr, ev_expr1, ev_expr1x, ev_ret, ev_ret1, ev_ret1x, ev_retN, ev_sif, ev_sif1, ev_sif1x, ev_par, ev_par1, ev_par3, ev_par31, ev_setG, ev_setG1, ev_setG2, ev_setG3, ev_setG4, ev_setG1x, ev_break, ev_cont, ev_for, ev_for1, ev_for1x, ev_runB, ev_fiSeq, ev_itT, ev_itR, ev_itL, ev_loopKnx, ev_loopKct, ev_loopKbk, ev_loopKrt, ev_loopKex, ev_loopN, ev_turn, ev_loopC, ev_wh1, ev_g4s, ev_g4n, ev_get2, ev_get21, ev_get22, ev_get23, ev_get1, ev_get11, ev_get12, ev_x3, ev_ixG, ev_ixG1, ev_ixG2, ev_gT, ev_gD, ev_gD1, ev_isGt, ev_gAti, ev_dc, ev_dc1, ev_lc, ev_lc1, ev_wipe0, ev_wipe, ev_empN, ev_empK, ev_chk1, ev_fiRng1, ev_fiRng11, ev_fiRng2, ev_fiRng21, ev_fiRng22, st_len, st_app, st_at0, st_at, st_set0, st_set, st_take, ev_ftidy, ev_fttidy, optR_some, List.set_cons_zero, List.set_cons_succ, List.length_cons, List.length_nil, List.cons_append, List.nil_append, List.map_cons, List.map_nil, List.getElem?_cons_zero, List.getElem?_cons_succ, if_true, if_false, decide_eq_true_eq, Bool.false_eq_true, reduceIte, Option.bind_some, Nat.add_assoc, Nat.reduceAdd, Nat.reduceSub, Nat.reduceLeDiff, Nat.zero_add, List.replicate, sizeLine_eq, List.length_map, Option.map_some, Option.isSome_some, gt_iff_lt, Bool.not_true, Bool.not_false, Nat.reduceLT, nf_non, nf_int, nf_bl, nf_str, nf_tup, nf_ro, nf_nil, nf_cons, nf_T, flats_T, ints_flat, Bool.and_self, Bool.true_and, Bool.and_true, tidy_app, tidyB_app, tidy_appL, dEq_int, List.cons_prefix_cons, List.nil_prefix, true_and, and_true, and_self, tidy_ok, tidy_ok0, tidyB_ok, tidyB_ok0, decide_true, decide_false, not_true_eq_false, not_false_eq_true, and_false, false_and, List.isEmpty_cons, List.isEmpty_nil, g]
    unfold FF.tidy
    rw [run]
    exact tidy_lst (G := [.lst ((Lm most).map dT)]) rfl (by omega) (by simp) (flats_T _)
  · by_cases h1 : a = 1
    · subst h1
      have d := dFdiv_small (i := most) (j := 3) (S := S) (by decide) (by decide)
      have g := grown_ok (most := most / 3) (by omega) S
      have hl := Lm_len (m := most / 3)
      have c := lcA (S := S) (fi := fiSeq (fCall F__law_grown (faCons (fBin dFdiv (fVar 1) (fC (.int 3))) faNil))) (own := [2, 3, 4]) (g := bTup 3 (bCons (bName 2) (bCons (bName 3) (bCons (bName 4) bNil)))) (t := ct__law_triples_1) (e := ce__law_triples_2) (ρ := [some (.int 1), some (.int most), none, none, none]) (S1 := S ++ [.lst ((Lm (most / 3)).map dT)]) (ch := [(S.length, .lst ((Lm (most / 3)).map dT))]) (Lm (most / 3)) dT (fun _ => true) (fun t => dT (sc 3 t)) (by simp only [ev_bindok, ev_bindex, ev_thenok, ev_thenex, ev_seqnx, ev_seqrt, ev_seqbk, ev_seqct, ev_seqex, ev_lstO, ev_onL, ev_lenOl, ev_lenOk, ev_var0, ev_varS, ev_c, ev_bin, ev_bin1, ev_bin1x, ev_bin2, ev_bin2x, ev_un, ev_nil, ev_cons, ev_cons1, ev_cons1x, ev_cons2, ev_cons2x, ev_tup, ev_tup1, ev_tup1x, ev_lst, ev_lst1, ev_lst1x, ev_if, ev_if1, ev_if1x, ev_call, ev_callK, ev_callK1, ev_callK1x, ev_tru, ev_tB, ev_asB, ev_tNot, ev_tNot1, ev_tNot1x, ev_tAnd, ev_tAnd1, ev_tAnd1x, ev_tOr, ev_tOr1, ev_tOr1x, ev_and, ev_and1, ev_and2, ev_or, ev_or1, ev_or2, ev_not, ev_not1, ev_not2, ev_truB, ev_truI, ev_truT, ev_truN, ev_truL, ev_yes, ev_sl, ev_sl1, ev_sl2, ev_sl3, ev_oN, ev_oS, ev_oS1, ev_slT, ev_slR, ev_slL, ev_add, ev_sub, ev_neg, ev_addT, ev_addL, ev_ord, ev_abs, ev_max2, ev_min2, ev_int, ev_intB, ev_lenT, ev_lenR, ev_lenL, ev_ixT, ev_ixR, ev_ixL, ev_tupT, ev_tupL, ev_revL, ev_ml, ev_ml1, ev_ml2, ev_ml2x, ev_isL, ev_mapp, ev_popC, ev_pop1, ev_pop2, ev_mpop, ev_mext, ev_newK, ev_newN, ev_is, ev_isNot, ev_isnN, ev_isnT, ev_isnI, ev_isnR, ev_nx, ev_seq, ev_asg, ev_asg1, ev_asg1x, ev_kNx, ev_asgT, ev_asgT1, ev_asgT1x, ev_bTup, ev_bName, ev_bCons, ev_bNil, ev_expr, ev_expr1, ev_expr1x, ev_ret, ev_ret1, ev_ret1x, ev_retN, ev_sif, ev_sif1, ev_sif1x, ev_par, ev_par1, ev_par3, ev_par31, ev_setG, ev_setG1, ev_setG2, ev_setG3, ev_setG4, ev_setG1x, ev_break, ev_cont, ev_for, ev_for1, ev_for1x, ev_runB, ev_fiSeq, ev_itT, ev_itR, ev_itL, ev_loopKnx, ev_loopKct, ev_loopKbk, ev_loopKrt, ev_loopKex, ev_loopN, ev_turn, ev_loopC, ev_wh1, ev_g4s, ev_g4n, ev_get2, ev_get21, ev_get22, ev_get23, ev_get1, ev_get11, ev_get12, ev_x3, ev_ixG, ev_ixG1, ev_ixG2, ev_gT, ev_gD, ev_gD1, ev_isGt, ev_gAti, ev_dc, ev_dc1, ev_lc, ev_lc1, ev_wipe0, ev_wipe, ev_empN, ev_empK, ev_chk1, ev_fiRng1, ev_fiRng11, ev_fiRng2, ev_fiRng21, ev_fiRng22, st_len, st_app, st_at0, st_at, st_set0, st_set, st_take, ev_ftidy, ev_fttidy, optR_some, List.set_cons_zero, List.set_cons_succ, List.length_cons, List.length_nil, List.cons_append, List.nil_append, List.map_cons, List.map_nil, List.getElem?_cons_zero, List.getElem?_cons_succ, if_true, if_false, decide_eq_true_eq, Bool.false_eq_true, reduceIte, Option.bind_some, Nat.add_assoc, Nat.reduceAdd, Nat.reduceSub, Nat.reduceLeDiff, Nat.zero_add, List.replicate, sizeLine_eq, List.length_map, Option.map_some, Option.isSome_some, gt_iff_lt, Bool.not_true, Bool.not_false, Nat.reduceLT, nf_non, nf_int, nf_bl, nf_str, nf_tup, nf_ro, nf_nil, nf_cons, nf_T, flats_T, ints_flat, Bool.and_self, Bool.true_and, Bool.and_true, tidy_app, tidyB_app, tidy_appL, dEq_int, List.cons_prefix_cons, List.nil_prefix, true_and, and_true, and_self, tidy_ok, tidy_ok0, tidyB_ok, tidyB_ok0, decide_true, decide_false, not_true_eq_false, not_false_eq_true, and_false, false_and, List.isEmpty_cons, List.isEmpty_nil, d, g]) (fun G => by simp only [ev_bindok, ev_bindex, ev_thenok, ev_thenex, ev_seqnx, ev_seqrt, ev_seqbk, ev_seqct, ev_seqex, ev_lstO, ev_onL, ev_lenOl, ev_lenOk, ev_var0, ev_varS, ev_c, ev_bin, ev_bin1, ev_bin1x, ev_bin2, ev_bin2x, ev_un, ev_nil, ev_cons, ev_cons1, ev_cons1x, ev_cons2, ev_cons2x, ev_tup, ev_tup1, ev_tup1x, ev_lst, ev_lst1, ev_lst1x, ev_if, ev_if1, ev_if1x, ev_call, ev_callK, ev_callK1, ev_callK1x, ev_tru, ev_tB, ev_asB, ev_tNot, ev_tNot1, ev_tNot1x, ev_tAnd, ev_tAnd1, ev_tAnd1x, ev_tOr, ev_tOr1, ev_tOr1x, ev_and, ev_and1, ev_and2, ev_or, ev_or1, ev_or2, ev_not, ev_not1, ev_not2, ev_truB, ev_truI, ev_truT, ev_truN, ev_truL, ev_yes, ev_sl, ev_sl1, ev_sl2, ev_sl3, ev_oN, ev_oS, ev_oS1, ev_slT, ev_slR, ev_slL, ev_add, ev_sub, ev_neg, ev_addT, ev_addL, ev_ord, ev_abs, ev_max2, ev_min2, ev_int, ev_intB, ev_lenT, ev_lenR, ev_lenL, ev_ixT, ev_ixR, ev_ixL, ev_tupT, ev_tupL, ev_revL, ev_ml, ev_ml1, ev_ml2, ev_ml2x, ev_isL, ev_mapp, ev_popC, ev_pop1, ev_pop2, ev_mpop, ev_mext, ev_newK, ev_newN, ev_is, ev_isNot, ev_isnN, ev_isnT, ev_isnI, ev_isnR, ev_nx, ev_seq, ev_asg, ev_asg1, ev_asg1x, ev_kNx, ev_asgT, ev_asgT1, ev_asgT1x, ev_bTup, ev_bName, ev_bCons, ev_bNil, ev_expr, ev_expr1, ev_expr1x, ev_ret, ev_ret1, ev_ret1x, ev_retN, ev_sif, ev_sif1, ev_sif1x, ev_par, ev_par1, ev_par3, ev_par31, ev_setG, ev_setG1, ev_setG2, ev_setG3, ev_setG4, ev_setG1x, ev_break, ev_cont, ev_for, ev_for1, ev_for1x, ev_runB, ev_fiSeq, ev_itT, ev_itR, ev_itL, ev_loopKnx, ev_loopKct, ev_loopKbk, ev_loopKrt, ev_loopKex, ev_loopN, ev_turn, ev_loopC, ev_wh1, ev_g4s, ev_g4n, ev_get2, ev_get21, ev_get22, ev_get23, ev_get1, ev_get11, ev_get12, ev_x3, ev_ixG, ev_ixG1, ev_ixG2, ev_gT, ev_gD, ev_gD1, ev_isGt, ev_gAti, ev_dc, ev_dc1, ev_lc, ev_lc1, ev_wipe0, ev_wipe, ev_empN, ev_empK, ev_chk1, ev_fiRng1, ev_fiRng11, ev_fiRng2, ev_fiRng21, ev_fiRng22, st_len, st_app, st_at0, st_at, st_set0, st_set, st_take, ev_ftidy, ev_fttidy, optR_some, List.set_cons_zero, List.set_cons_succ, List.length_cons, List.length_nil, List.cons_append, List.nil_append, List.map_cons, List.map_nil, List.getElem?_cons_zero, List.getElem?_cons_succ, if_true, if_false, decide_eq_true_eq, Bool.false_eq_true, reduceIte, Option.bind_some, Nat.add_assoc, Nat.reduceAdd, Nat.reduceSub, Nat.reduceLeDiff, Nat.zero_add, List.replicate, sizeLine_eq, List.length_map, Option.map_some, Option.isSome_some, gt_iff_lt, Bool.not_true, Bool.not_false, Nat.reduceLT, nf_non, nf_int, nf_bl, nf_str, nf_tup, nf_ro, nf_nil, nf_cons, nf_T, flats_T, ints_flat, Bool.and_self, Bool.true_and, Bool.and_true, tidy_app, tidyB_app, tidy_appL, dEq_int, List.cons_prefix_cons, List.nil_prefix, true_and, and_true, and_self, tidy_ok, tidy_ok0, tidyB_ok, tidyB_ok0, decide_true, decide_false, not_true_eq_false, not_false_eq_true, and_false, false_and, List.isEmpty_cons, List.isEmpty_nil]) (by omega) (fun t ht => by
        have o := ok_ (mem_Lm.mp ht).1
        refine ⟨_, bT3, fun G => ⟨by simp only [ct__law_triples_1, ev_bindok, ev_bindex, ev_thenok, ev_thenex, ev_seqnx, ev_seqrt, ev_seqbk, ev_seqct, ev_seqex, ev_lstO, ev_onL, ev_lenOl, ev_lenOk, ev_var0, ev_varS, ev_c, ev_bin, ev_bin1, ev_bin1x, ev_bin2, ev_bin2x, ev_un, ev_nil, ev_cons, ev_cons1, ev_cons1x, ev_cons2, ev_cons2x, ev_tup, ev_tup1, ev_tup1x, ev_lst, ev_lst1, ev_lst1x, ev_if, ev_if1, ev_if1x, ev_call, ev_callK, ev_callK1, ev_callK1x, ev_tru, ev_tB, ev_asB, ev_tNot, ev_tNot1, ev_tNot1x, ev_tAnd, ev_tAnd1, ev_tAnd1x, ev_tOr, ev_tOr1, ev_tOr1x, ev_and, ev_and1, ev_and2, ev_or, ev_or1, ev_or2, ev_not, ev_not1, ev_not2, ev_truB, ev_truI, ev_truT, ev_truN, ev_truL, ev_yes, ev_sl, ev_sl1, ev_sl2, ev_sl3, ev_oN, ev_oS, ev_oS1, ev_slT, ev_slR, ev_slL, ev_add, ev_sub, ev_neg, ev_addT, ev_addL, ev_ord, ev_abs, ev_max2, ev_min2, ev_int, ev_intB, ev_lenT, ev_lenR, ev_lenL, ev_ixT, ev_ixR, ev_ixL, ev_tupT, ev_tupL, ev_revL, ev_ml, ev_ml1, ev_ml2, ev_ml2x, ev_isL, ev_mapp, ev_popC, ev_pop1, ev_pop2, ev_mpop, ev_mext, ev_newK, ev_newN, ev_is, ev_isNot, ev_isnN, ev_isnT, ev_isnI, ev_isnR, ev_nx, ev_seq, ev_asg, ev_asg1, ev_asg1x, ev_kNx, ev_asgT, ev_asgT1, ev_asgT1x, ev_bTup, ev_bName, ev_bCons, ev_bNil, ev_expr, ev_expr1, ev_expr1x, ev_ret, ev_ret1, ev_ret1x, ev_retN, ev_sif, ev_sif1, ev_sif1x, ev_par, ev_par1, ev_par3, ev_par31, ev_setG, ev_setG1, ev_setG2, ev_setG3, ev_setG4, ev_setG1x, ev_break, ev_cont, ev_for, ev_for1, ev_for1x, ev_runB, ev_fiSeq, ev_itT, ev_itR, ev_itL, ev_loopKnx, ev_loopKct, ev_loopKbk, ev_loopKrt, ev_loopKex, ev_loopN, ev_turn, ev_loopC, ev_wh1, ev_g4s, ev_g4n, ev_get2, ev_get21, ev_get22, ev_get23, ev_get1, ev_get11, ev_get12, ev_x3, ev_ixG, ev_ixG1, ev_ixG2, ev_gT, ev_gD, ev_gD1, ev_isGt, ev_gAti, ev_dc, ev_dc1, ev_lc, ev_lc1, ev_wipe0, ev_wipe, ev_empN, ev_empK, ev_chk1, ev_fiRng1, ev_fiRng11, ev_fiRng2, ev_fiRng21, ev_fiRng22, st_len, st_app, st_at0, st_at, st_set0, st_set, st_take, ev_ftidy, ev_fttidy, optR_some, List.set_cons_zero, List.set_cons_succ, List.length_cons, List.length_nil, List.cons_append, List.nil_append, List.map_cons, List.map_nil, List.getElem?_cons_zero, List.getElem?_cons_succ, if_true, if_false, decide_eq_true_eq, Bool.false_eq_true, reduceIte, Option.bind_some, Nat.add_assoc, Nat.reduceAdd, Nat.reduceSub, Nat.reduceLeDiff, Nat.zero_add, List.replicate, sizeLine_eq, List.length_map, Option.map_some, Option.isSome_some, gt_iff_lt, Bool.not_true, Bool.not_false, Nat.reduceLT, nf_non, nf_int, nf_bl, nf_str, nf_tup, nf_ro, nf_nil, nf_cons, nf_T, flats_T, ints_flat, Bool.and_self, Bool.true_and, Bool.and_true, tidy_app, tidyB_app, tidy_appL, dEq_int, List.cons_prefix_cons, List.nil_prefix, true_and, and_true, and_self, tidy_ok, tidy_ok0, tidyB_ok, tidyB_ok0, decide_true, decide_false, not_true_eq_false, not_false_eq_true, and_false, false_and, List.isEmpty_cons, List.isEmpty_nil], fun _ => ?_⟩⟩
        have m : ∀ (x : Int) (S : Sto), dMul (.int 3) (.int x) S = .ok (.int (3 * x)) S := fun x S => dMul_l (by decide)
        simp only [ce__law_triples_2, ev_bindok, ev_bindex, ev_thenok, ev_thenex, ev_seqnx, ev_seqrt, ev_seqbk, ev_seqct, ev_seqex, ev_lstO, ev_onL, ev_lenOl, ev_lenOk, ev_var0, ev_varS, ev_c, ev_bin, ev_bin1, ev_bin1x, ev_bin2, ev_bin2x, ev_un, ev_nil, ev_cons, ev_cons1, ev_cons1x, ev_cons2, ev_cons2x, ev_tup, ev_tup1, ev_tup1x, ev_lst, ev_lst1, ev_lst1x, ev_if, ev_if1, ev_if1x, ev_call, ev_callK, ev_callK1, ev_callK1x, ev_tru, ev_tB, ev_asB, ev_tNot, ev_tNot1, ev_tNot1x, ev_tAnd, ev_tAnd1, ev_tAnd1x, ev_tOr, ev_tOr1, ev_tOr1x, ev_and, ev_and1, ev_and2, ev_or, ev_or1, ev_or2, ev_not, ev_not1, ev_not2, ev_truB, ev_truI, ev_truT, ev_truN, ev_truL, ev_yes, ev_sl, ev_sl1, ev_sl2, ev_sl3, ev_oN, ev_oS, ev_oS1, ev_slT, ev_slR, ev_slL, ev_add, ev_sub, ev_neg, ev_addT, ev_addL, ev_ord, ev_abs, ev_max2, ev_min2, ev_int, ev_intB, ev_lenT, ev_lenR, ev_lenL, ev_ixT, ev_ixR, ev_ixL, ev_tupT, ev_tupL, ev_revL, ev_ml, ev_ml1, ev_ml2, ev_ml2x, ev_isL, ev_mapp, ev_popC, ev_pop1, ev_pop2, ev_mpop, ev_mext, ev_newK, ev_newN, ev_is, ev_isNot, ev_isnN, ev_isnT, ev_isnI, ev_isnR, ev_nx, ev_seq, ev_asg, ev_asg1, ev_asg1x, ev_kNx, ev_asgT, ev_asgT1, ev_asgT1x, ev_bTup, ev_bName, ev_bCons, ev_bNil, ev_expr, ev_expr1, ev_expr1x, ev_ret, ev_ret1, ev_ret1x, ev_retN, ev_sif, ev_sif1, ev_sif1x, ev_par, ev_par1, ev_par3, ev_par31, ev_setG, ev_setG1, ev_setG2, ev_setG3, ev_setG4, ev_setG1x, ev_break, ev_cont, ev_for, ev_for1, ev_for1x, ev_runB, ev_fiSeq, ev_itT, ev_itR, ev_itL, ev_loopKnx, ev_loopKct, ev_loopKbk, ev_loopKrt, ev_loopKex, ev_loopN, ev_turn, ev_loopC, ev_wh1, ev_g4s, ev_g4n, ev_get2, ev_get21, ev_get22, ev_get23, ev_get1, ev_get11, ev_get12, ev_x3, ev_ixG, ev_ixG1, ev_ixG2, ev_gT, ev_gD, ev_gD1, ev_isGt, ev_gAti, ev_dc, ev_dc1, ev_lc, ev_lc1, ev_wipe0, ev_wipe, ev_empN, ev_empK, ev_chk1, ev_fiRng1, ev_fiRng11, ev_fiRng2, ev_fiRng21, ev_fiRng22, st_len, st_app, st_at0, st_at, st_set0, st_set, st_take, ev_ftidy, ev_fttidy, optR_some, List.set_cons_zero, List.set_cons_succ, List.length_cons, List.length_nil, List.cons_append, List.nil_append, List.map_cons, List.map_nil, List.getElem?_cons_zero, List.getElem?_cons_succ, if_true, if_false, decide_eq_true_eq, Bool.false_eq_true, reduceIte, Option.bind_some, Nat.add_assoc, Nat.reduceAdd, Nat.reduceSub, Nat.reduceLeDiff, Nat.zero_add, List.replicate, sizeLine_eq, List.length_map, Option.map_some, Option.isSome_some, gt_iff_lt, Bool.not_true, Bool.not_false, Nat.reduceLT, nf_non, nf_int, nf_bl, nf_str, nf_tup, nf_ro, nf_nil, nf_cons, nf_T, flats_T, ints_flat, Bool.and_self, Bool.true_and, Bool.and_true, tidy_app, tidyB_app, tidy_appL, dEq_int, List.cons_prefix_cons, List.nil_prefix, true_and, and_true, and_self, tidy_ok, tidy_ok0, tidyB_ok, tidyB_ok0, decide_true, decide_false, not_true_eq_false, not_false_eq_true, and_false, false_and, List.isEmpty_cons, List.isEmpty_nil, m]
        rfl)
      rw [List.filter_eq_self.mpr (fun _ _ => rfl), show (Lm (most / 3)).map (fun t => dT (sc 3 t)) = ((Lm (most / 3)).map (sc 3)).map dT by rw [List.map_map]; rfl] at c
      have run : runB b__law_triples 5 [.int 1, .int most] S = .ok (.ref (S.length + 1)) (S ++ [.lst ((Lm (most / 3)).map dT), .lst (((Lm (most / 3)).map (sc 3)).map dT)]) := by
        refine runB_rt ?_
        simp only [ev_bindok, ev_bindex, ev_thenok, ev_thenex, ev_seqnx, ev_seqrt, ev_seqbk, ev_seqct, ev_seqex, ev_lstO, ev_onL, ev_lenOl, ev_lenOk, ev_var0, ev_varS, ev_c, ev_bin, ev_bin1, ev_bin1x, ev_bin2, ev_bin2x, ev_un, ev_nil, ev_cons, ev_cons1, ev_cons1x, ev_cons2, ev_cons2x, ev_tup, ev_tup1, ev_tup1x, ev_lst, ev_lst1, ev_lst1x, ev_if, ev_if1, ev_if1x, ev_call, ev_callK, ev_callK1, ev_callK1x, ev_tru, ev_tB, ev_asB, ev_tNot, ev_tNot1, ev_tNot1x, ev_tAnd, ev_tAnd1, ev_tAnd1x, ev_tOr, ev_tOr1, ev_tOr1x, ev_and, ev_and1, ev_and2, ev_or, ev_or1, ev_or2, ev_not, ev_not1, ev_not2, ev_truB, ev_truI, ev_truT, ev_truN, ev_truL, ev_yes, ev_sl, ev_sl1, ev_sl2, ev_sl3, ev_oN, ev_oS, ev_oS1, ev_slT, ev_slR, ev_slL, ev_add, ev_sub, ev_neg, ev_addT, ev_addL, ev_ord, ev_abs, ev_max2, ev_min2, ev_int, ev_intB, ev_lenT, ev_lenR, ev_lenL, ev_ixT, ev_ixR, ev_ixL, ev_tupT, ev_tupL, ev_revL, ev_ml, ev_ml1, ev_ml2, ev_ml2x, ev_isL, ev_mapp, ev_popC, ev_pop1, ev_pop2, ev_mpop, ev_mext, ev_newK, ev_newN, ev_is, ev_isNot, ev_isnN, ev_isnT, ev_isnI, ev_isnR, ev_nx, ev_seq, ev_asg, ev_asg1, ev_asg1x, ev_kNx, ev_asgT, ev_asgT1, ev_asgT1x, ev_bTup, ev_bName, ev_bCons, ev_bNil, ev_expr, ev_expr1, ev_expr1x, ev_ret, ev_ret1, ev_ret1x, ev_retN, ev_sif, ev_sif1, ev_sif1x, ev_par, ev_par1, ev_par3, ev_par31, ev_setG, ev_setG1, ev_setG2, ev_setG3, ev_setG4, ev_setG1x, ev_break, ev_cont, ev_for, ev_for1, ev_for1x, ev_runB, ev_fiSeq, ev_itT, ev_itR, ev_itL, ev_loopKnx, ev_loopKct, ev_loopKbk, ev_loopKrt, ev_loopKex, ev_loopN, ev_turn, ev_loopC, ev_wh1, ev_g4s, ev_g4n, ev_get2, ev_get21, ev_get22, ev_get23, ev_get1, ev_get11, ev_get12, ev_x3, ev_ixG, ev_ixG1, ev_ixG2, ev_gT, ev_gD, ev_gD1, ev_isGt, ev_gAti, ev_dc, ev_dc1, ev_lc, ev_lc1, ev_wipe0, ev_wipe, ev_empN, ev_empK, ev_chk1, ev_fiRng1, ev_fiRng11, ev_fiRng2, ev_fiRng21, ev_fiRng22, st_len, st_app, st_at0, st_at, st_set0, st_set, st_take, ev_ftidy, ev_fttidy, optR_some, List.set_cons_zero, List.set_cons_succ, List.length_cons, List.length_nil, List.cons_append, List.nil_append, List.map_cons, List.map_nil, List.getElem?_cons_zero, List.getElem?_cons_succ, if_true, if_false, decide_eq_true_eq, Bool.false_eq_true, reduceIte, Option.bind_some, Nat.add_assoc, Nat.reduceAdd, Nat.reduceSub, Nat.reduceLeDiff, Nat.zero_add, List.replicate, sizeLine_eq, List.length_map, Option.map_some, Option.isSome_some, gt_iff_lt, Bool.not_true, Bool.not_false, Nat.reduceLT, nf_non, nf_int, nf_bl, nf_str, nf_tup, nf_ro, nf_nil, nf_cons, nf_T, flats_T, ints_flat, Bool.and_self, Bool.true_and, Bool.and_true, tidy_app, tidyB_app, tidy_appL, dEq_int, List.cons_prefix_cons, List.nil_prefix, true_and, and_true, and_self, tidy_ok, tidy_ok0, tidyB_ok, tidyB_ok0, decide_true, decide_false, not_true_eq_false, not_false_eq_true, and_false, false_and, List.isEmpty_cons, List.isEmpty_nil] at c
        simp only [b__law_triples, lc__law_triples_3, ev_bindok, ev_bindex, ev_thenok, ev_thenex, ev_seqnx, ev_seqrt, ev_seqbk, ev_seqct, ev_seqex, ev_lstO, ev_onL, ev_lenOl, ev_lenOk, ev_var0, ev_varS, ev_c, ev_bin, ev_bin1, ev_bin1x, ev_bin2, ev_bin2x, ev_un, ev_nil, ev_cons, ev_cons1, ev_cons1x, ev_cons2, ev_cons2x, ev_tup, ev_tup1, ev_tup1x, ev_lst, ev_lst1, ev_lst1x, ev_if, ev_if1, ev_if1x, ev_call, ev_callK, ev_callK1, ev_callK1x, ev_tru, ev_tB, ev_asB, ev_tNot, ev_tNot1, ev_tNot1x, ev_tAnd, ev_tAnd1, ev_tAnd1x, ev_tOr, ev_tOr1, ev_tOr1x, ev_and, ev_and1, ev_and2, ev_or, ev_or1, ev_or2, ev_not, ev_not1, ev_not2, ev_truB, ev_truI, ev_truT, ev_truN, ev_truL, ev_yes, ev_sl, ev_sl1, ev_sl2, ev_sl3, ev_oN, ev_oS, ev_oS1, ev_slT, ev_slR, ev_slL, ev_add, ev_sub, ev_neg, ev_addT, ev_addL, ev_ord, ev_abs, ev_max2, ev_min2, ev_int, ev_intB, ev_lenT, ev_lenR, ev_lenL, ev_ixT, ev_ixR, ev_ixL, ev_tupT, ev_tupL, ev_revL, ev_ml, ev_ml1, ev_ml2, ev_ml2x, ev_isL, ev_mapp, ev_popC, ev_pop1, ev_pop2, ev_mpop, ev_mext, ev_newK, ev_newN, ev_is, ev_isNot, ev_isnN, ev_isnT, ev_isnI, ev_isnR, ev_nx, ev_seq, ev_asg, ev_asg1, ev_asg1x, ev_kNx, ev_asgT, ev_asgT1, ev_asgT1x, ev_bTup, ev_bName, ev_bCons, ev_bNil, ev_expr, ev_expr1, ev_expr1x, ev_ret, ev_ret1, ev_ret1x, ev_retN, ev_sif, ev_sif1, ev_sif1x, ev_par, ev_par1, ev_par3, ev_par31, ev_setG, ev_setG1, ev_setG2, ev_setG3, ev_setG4, ev_setG1x, ev_break, ev_cont, ev_for, ev_for1, ev_for1x, ev_runB, ev_fiSeq, ev_itT, ev_itR, ev_itL, ev_loopKnx, ev_loopKct, ev_loopKbk, ev_loopKrt, ev_loopKex, ev_loopN, ev_turn, ev_loopC, ev_wh1, ev_g4s, ev_g4n, ev_get2, ev_get21, ev_get22, ev_get23, ev_get1, ev_get11, ev_get12, ev_x3, ev_ixG, ev_ixG1, ev_ixG2, ev_gT, ev_gD, ev_gD1, ev_isGt, ev_gAti, ev_dc, ev_dc1, ev_lc, ev_lc1, ev_wipe0, ev_wipe, ev_empN, ev_empK, ev_chk1, ev_fiRng1, ev_fiRng11, ev_fiRng2, ev_fiRng21, ev_fiRng22, st_len, st_app, st_at0, st_at, st_set0, st_set, st_take, ev_ftidy, ev_fttidy, optR_some, List.set_cons_zero, List.set_cons_succ, List.length_cons, List.length_nil, List.cons_append, List.nil_append, List.map_cons, List.map_nil, List.getElem?_cons_zero, List.getElem?_cons_succ, if_true, if_false, decide_eq_true_eq, Bool.false_eq_true, reduceIte, Option.bind_some, Nat.add_assoc, Nat.reduceAdd, Nat.reduceSub, Nat.reduceLeDiff, Nat.zero_add, List.replicate, sizeLine_eq, List.length_map, Option.map_some, Option.isSome_some, gt_iff_lt, Bool.not_true, Bool.not_false, Nat.reduceLT, nf_non, nf_int, nf_bl, nf_str, nf_tup, nf_ro, nf_nil, nf_cons, nf_T, flats_T, ints_flat, Bool.and_self, Bool.true_and, Bool.and_true, tidy_app, tidyB_app, tidy_appL, dEq_int, List.cons_prefix_cons, List.nil_prefix, true_and, and_true, and_self, tidy_ok, tidy_ok0, tidyB_ok, tidyB_ok0, decide_true, decide_false, not_true_eq_false, not_false_eq_true, and_false, false_and, List.isEmpty_cons, List.isEmpty_nil, show ¬ ((1 : Int) = 3) by decide, c]
      unfold FF.tidy
      rw [run, if_neg (by decide), if_pos rfl]
      exact tidy_lst (G := [.lst ((Lm (most / 3)).map dT), .lst (((Lm (most / 3)).map (sc 3)).map dT)]) rfl (by omega) (by simp) (flats_T _)
    · rw [if_neg h3, if_neg h1]
      have run : runB b__law_triples 5 [.int a, .int most] S = .ok (.ref S.length) (S ++ [.lst []]) := by
        refine runB_rt ?_
        simp only [b__law_triples, ev_bindok, ev_bindex, ev_thenok, ev_thenex, ev_seqnx, ev_seqrt, ev_seqbk, ev_seqct, ev_seqex, ev_lstO, ev_onL, ev_lenOl, ev_lenOk, ev_var0, ev_varS, ev_c, ev_bin, ev_bin1, ev_bin1x, ev_bin2, ev_bin2x, ev_un, ev_nil, ev_cons, ev_cons1, ev_cons1x, ev_cons2, ev_cons2x, ev_tup, ev_tup1, ev_tup1x, ev_lst, ev_lst1, ev_lst1x, ev_if, ev_if1, ev_if1x, ev_call, ev_callK, ev_callK1, ev_callK1x, ev_tru, ev_tB, ev_asB, ev_tNot, ev_tNot1, ev_tNot1x, ev_tAnd, ev_tAnd1, ev_tAnd1x, ev_tOr, ev_tOr1, ev_tOr1x, ev_and, ev_and1, ev_and2, ev_or, ev_or1, ev_or2, ev_not, ev_not1, ev_not2, ev_truB, ev_truI, ev_truT, ev_truN, ev_truL, ev_yes, ev_sl, ev_sl1, ev_sl2, ev_sl3, ev_oN, ev_oS, ev_oS1, ev_slT, ev_slR, ev_slL, ev_add, ev_sub, ev_neg, ev_addT, ev_addL, ev_ord, ev_abs, ev_max2, ev_min2, ev_int, ev_intB, ev_lenT, ev_lenR, ev_lenL, ev_ixT, ev_ixR, ev_ixL, ev_tupT, ev_tupL, ev_revL, ev_ml, ev_ml1, ev_ml2, ev_ml2x, ev_isL, ev_mapp, ev_popC, ev_pop1, ev_pop2, ev_mpop, ev_mext, ev_newK, ev_newN, ev_is, ev_isNot, ev_isnN, ev_isnT, ev_isnI, ev_isnR, ev_nx, ev_seq, ev_asg, ev_asg1, ev_asg1x, ev_kNx, ev_asgT, ev_asgT1, ev_asgT1x, ev_bTup, ev_bName, ev_bCons, ev_bNil, ev_expr, ev_expr1, ev_expr1x, ev_ret, ev_ret1, ev_ret1x, ev_retN, ev_sif, ev_sif1, ev_sif1x, ev_par, ev_par1, ev_par3, ev_par31, ev_setG, ev_setG1, ev_setG2, ev_setG3, ev_setG4, ev_setG1x, ev_break, ev_cont, ev_for, ev_for1, ev_for1x, ev_runB, ev_fiSeq, ev_itT, ev_itR, ev_itL, ev_loopKnx, ev_loopKct, ev_loopKbk, ev_loopKrt, ev_loopKex, ev_loopN, ev_turn, ev_loopC, ev_wh1, ev_g4s, ev_g4n, ev_get2, ev_get21, ev_get22, ev_get23, ev_get1, ev_get11, ev_get12, ev_x3, ev_ixG, ev_ixG1, ev_ixG2, ev_gT, ev_gD, ev_gD1, ev_isGt, ev_gAti, ev_dc, ev_dc1, ev_lc, ev_lc1, ev_wipe0, ev_wipe, ev_empN, ev_empK, ev_chk1, ev_fiRng1, ev_fiRng11, ev_fiRng2, ev_fiRng21, ev_fiRng22, st_len, st_app, st_at0, st_at, st_set0, st_set, st_take, ev_ftidy, ev_fttidy, optR_some, List.set_cons_zero, List.set_cons_succ, List.length_cons, List.length_nil, List.cons_append, List.nil_append, List.map_cons, List.map_nil, List.getElem?_cons_zero, List.getElem?_cons_succ, if_true, if_false, decide_eq_true_eq, Bool.false_eq_true, reduceIte, Option.bind_some, Nat.add_assoc, Nat.reduceAdd, Nat.reduceSub, Nat.reduceLeDiff, Nat.zero_add, List.replicate, sizeLine_eq, List.length_map, Option.map_some, Option.isSome_some, gt_iff_lt, Bool.not_true, Bool.not_false, Nat.reduceLT, nf_non, nf_int, nf_bl, nf_str, nf_tup, nf_ro, nf_nil, nf_cons, nf_T, flats_T, ints_flat, Bool.and_self, Bool.true_and, Bool.and_true, tidy_app, tidyB_app, tidy_appL, dEq_int, List.cons_prefix_cons, List.nil_prefix, true_and, and_true, and_self, tidy_ok, tidy_ok0, tidyB_ok, tidyB_ok0, decide_true, decide_false, not_true_eq_false, not_false_eq_true, and_false, false_and, List.isEmpty_cons, List.isEmpty_nil, h3, h1]
      unfold FF.tidy
      rw [run]
      exact tidy_lst (G := [.lst []]) rfl (by omega) (by simp) rfl
/-- a number more -/
def adn (n : Int) (F : List Int) : List Int := if n ∈ F then F else F ++ [n]
def adt (t : Tri) (F : List Int) : List Int := adn t.2.2 (adn t.2.1 (adn t.1 F))
theorem adn_len {n : Int} {F : List Int} : (adn n F).length ≤ F.length + 1 := by unfold adn; split <;> simp
theorem adt_len {t : Tri} {F : List Int} : (adt t F).length ≤ F.length + 3 := by
  unfold adt
  have h1 := adn_len (n := t.2.2) (F := adn t.2.1 (adn t.1 F))
  have h2 := adn_len (n := t.2.1) (F := adn t.1 F)
  have h3 := adn_len (n := t.1) (F := F)
  omega
theorem inner_3 {S : Sto} {F : List Int} {t : Tri} {x0 x1 x4 : Option D} (hl : F.length < 10000) : lp_three_numbers_2 [x0, x1, some (.ref S.length), some (dT t), x4] (S ++ [seenK F]) = .nx [x0, x1, some (.ref S.length), some (dT t), some (.int t.2.2)] (S ++ [seenK (adt t F)]) := by
  have e : ∀ (n : Int) (F : List Int), F.length < 20000 → setG (.ref S.length) (.int n) (.bl true) (S ++ [seenK F]) = some (S ++ [seenK (adn n F)]) := fun n F hl => by
    rw [set_seenK (F := F) (by simp) (by omega)]
    simp [adn]
  have h1 := e t.1 F (by omega)
  have h2 := e t.2.1 (adn t.1 F) (by have := adn_len (n := t.1) (F := F); omega)
  have h3 := e t.2.2 (adn t.2.1 (adn t.1 F)) (by have := adn_len (n := t.1) (F := F); have := adn_len (n := t.2.1) (F := adn t.1 F); omega)
  unfold dT
  simp only [lp_three_numbers_2, lb_three_numbers_1, ev_bindok, ev_bindex, ev_thenok, ev_thenex, ev_seqnx, ev_seqrt, ev_seqbk, ev_seqct, ev_seqex, ev_lstO, ev_onL, ev_lenOl, ev_lenOk, ev_var0, ev_varS, ev_c, ev_bin, ev_bin1, ev_bin1x, ev_bin2, ev_bin2x, ev_un, ev_nil, ev_cons, ev_cons1, ev_cons1x, ev_cons2, ev_cons2x, ev_tup, ev_tup1, ev_tup1x, ev_lst, ev_lst1, ev_lst1x, ev_if, ev_if1, ev_if1x, ev_call, ev_callK, ev_callK1, ev_callK1x, ev_tru, ev_tB, ev_asB, ev_tNot, ev_tNot1, ev_tNot1x, ev_tAnd, ev_tAnd1, ev_tAnd1x, ev_tOr, ev_tOr1, ev_tOr1x, ev_and, ev_and1, ev_and2, ev_or, ev_or1, ev_or2, ev_not, ev_not1, ev_not2, ev_truB, ev_truI, ev_truT, ev_truN, ev_truL, ev_yes, ev_sl, ev_sl1, ev_sl2, ev_sl3, ev_oN, ev_oS, ev_oS1, ev_slT, ev_slR, ev_slL, ev_add, ev_sub, ev_neg, ev_addT, ev_addL, ev_ord, ev_abs, ev_max2, ev_min2, ev_int, ev_intB, ev_lenT, ev_lenR, ev_lenL, ev_ixT, ev_ixR, ev_ixL, ev_tupT, ev_tupL, ev_revL, ev_ml, ev_ml1, ev_ml2, ev_ml2x, ev_isL, ev_mapp, ev_popC, ev_pop1, ev_pop2, ev_mpop, ev_mext, ev_newK, ev_newN, ev_is, ev_isNot, ev_isnN, ev_isnT, ev_isnI, ev_isnR, ev_nx, ev_seq, ev_asg, ev_asg1, ev_asg1x, ev_kNx, ev_asgT, ev_asgT1, ev_asgT1x, ev_bTup, ev_bName, ev_bCons, ev_bNil, ev_expr, ev_expr1, ev_expr1x, ev_ret, ev_ret1, ev_ret1x, ev_retN, ev_sif, ev_sif1, ev_sif1x, ev_par, ev_par1, ev_par3, ev_par31, ev_setG, ev_setG1, ev_setG2, ev_setG3, ev_setG4, ev_setG1x, ev_break, ev_cont, ev_for, ev_for1, ev_for1x, ev_runB, ev_fiSeq, ev_itT, ev_itR, ev_itL, ev_loopKnx, ev_loopKct, ev_loopKbk, ev_loopKrt, ev_loopKex, ev_loopN, ev_turn, ev_loopC, ev_wh1, ev_g4s, ev_g4n, ev_get2, ev_get21, ev_get22, ev_get23, ev_get1, ev_get11, ev_get12, ev_x3, ev_ixG, ev_ixG1, ev_ixG2, ev_gT, ev_gD, ev_gD1, ev_isGt, ev_gAti, ev_dc, ev_dc1, ev_lc, ev_lc1, ev_wipe0, ev_wipe, ev_empN, ev_empK, ev_chk1, ev_fiRng1, ev_fiRng11, ev_fiRng2, ev_fiRng21, ev_fiRng22, st_len, st_app, st_at0, st_at, st_set0, st_set, st_take, ev_ftidy, ev_fttidy, optR_some, List.set_cons_zero, List.set_cons_succ, List.length_cons, List.length_nil, List.cons_append, List.nil_append, List.map_cons, List.map_nil, List.getElem?_cons_zero, List.getElem?_cons_succ, if_true, if_false, decide_eq_true_eq, Bool.false_eq_true, reduceIte, Option.bind_some, Nat.add_assoc, Nat.reduceAdd, Nat.reduceSub, Nat.reduceLeDiff, Nat.zero_add, List.replicate, sizeLine_eq, List.length_map, Option.map_some, Option.isSome_some, gt_iff_lt, Bool.not_true, Bool.not_false, Nat.reduceLT, nf_non, nf_int, nf_bl, nf_str, nf_tup, nf_ro, nf_nil, nf_cons, nf_T, flats_T, ints_flat, Bool.and_self, Bool.true_and, Bool.and_true, tidy_app, tidyB_app, tidy_appL, dEq_int, List.cons_prefix_cons, List.nil_prefix, true_and, and_true, and_self, tidy_ok, tidy_ok0, tidyB_ok, tidyB_ok0, decide_true, decide_false, not_true_eq_false, not_false_eq_true, and_false, false_and, List.isEmpty_cons, List.isEmpty_nil, h1, h2, h3, adt]
theorem outer_3 {S : Sto} {x0 x1 : Option D} : ∀ (ts : List Tri) (F : List Int) (x3 x4 : Option D), F.length + 3 * ts.length < 5000 →
    ∃ x3' x4', loopF [] (bName 3) lb_three_numbers_3 (ts.map dT) [x0, x1, some (.ref S.length), x3, x4] (S ++ [seenK F]) = .nx [x0, x1, some (.ref S.length), x3', x4'] (S ++ [seenK (ts.foldl (fun F t => adt t F) F)])
  | [], F, x3, x4, _ => ⟨x3, x4, rfl⟩
  | t :: ts, F, x3, x4, h => by
    rw [List.length_cons] at h
    obtain ⟨y3, y4, q⟩ := outer_3 (S := S) (x0 := x0) (x1 := x1) ts (adt t F) (some (dT t)) (some (.int t.2.2)) (by have := adt_len (t := t) (F := F); omega)
    refine ⟨y3, y4, ?_⟩
    have i := inner_3 (S := S) (F := F) (t := t) (x0 := x0) (x1 := x1) (x4 := x4) (by omega)
    rw [List.map_cons]
    simp only [ev_bindok, ev_bindex, ev_thenok, ev_thenex, ev_seqnx, ev_seqrt, ev_seqbk, ev_seqct, ev_seqex, ev_lstO, ev_onL, ev_lenOl, ev_lenOk, ev_var0, ev_varS, ev_c, ev_bin, ev_bin1, ev_bin1x, ev_bin2, ev_bin2x, ev_un, ev_nil, ev_cons, ev_cons1, ev_cons1x, ev_cons2, ev_cons2x, ev_tup, ev_tup1, ev_tup1x, ev_lst, ev_lst1, ev_lst1x, ev_if, ev_if1, ev_if1x, ev_call, ev_callK, ev_callK1, ev_callK1x, ev_tru, ev_tB, ev_asB, ev_tNot, ev_tNot1, ev_tNot1x, ev_tAnd, ev_tAnd1, ev_tAnd1x, ev_tOr, ev_tOr1, ev_tOr1x, ev_and, ev_and1, ev_and2, ev_or, ev_or1, ev_or2, ev_not, ev_not1, ev_not2, ev_truB, ev_truI, ev_truT, ev_truN, ev_truL, ev_yes, ev_sl, ev_sl1, ev_sl2, ev_sl3, ev_oN, ev_oS, ev_oS1, ev_slT, ev_slR, ev_slL, ev_add, ev_sub, ev_neg, ev_addT, ev_addL, ev_ord, ev_abs, ev_max2, ev_min2, ev_int, ev_intB, ev_lenT, ev_lenR, ev_lenL, ev_ixT, ev_ixR, ev_ixL, ev_tupT, ev_tupL, ev_revL, ev_ml, ev_ml1, ev_ml2, ev_ml2x, ev_isL, ev_mapp, ev_popC, ev_pop1, ev_pop2, ev_mpop, ev_mext, ev_newK, ev_newN, ev_is, ev_isNot, ev_isnN, ev_isnT, ev_isnI, ev_isnR, ev_nx, ev_seq, ev_asg, ev_asg1, ev_asg1x, ev_kNx, ev_asgT, ev_asgT1, ev_asgT1x, ev_bTup, ev_bName, ev_bCons, ev_bNil, ev_expr, ev_expr1, ev_expr1x, ev_ret, ev_ret1, ev_ret1x, ev_retN, ev_sif, ev_sif1, ev_sif1x, ev_par, ev_par1, ev_par3, ev_par31, ev_setG, ev_setG1, ev_setG2, ev_setG3, ev_setG4, ev_setG1x, ev_break, ev_cont, ev_for, ev_for1, ev_for1x, ev_runB, ev_fiSeq, ev_itT, ev_itR, ev_itL, ev_loopKnx, ev_loopKct, ev_loopKbk, ev_loopKrt, ev_loopKex, ev_loopN, ev_turn, ev_loopC, ev_wh1, ev_g4s, ev_g4n, ev_get2, ev_get21, ev_get22, ev_get23, ev_get1, ev_get11, ev_get12, ev_x3, ev_ixG, ev_ixG1, ev_ixG2, ev_gT, ev_gD, ev_gD1, ev_isGt, ev_gAti, ev_dc, ev_dc1, ev_lc, ev_lc1, ev_wipe0, ev_wipe, ev_empN, ev_empK, ev_chk1, ev_fiRng1, ev_fiRng11, ev_fiRng2, ev_fiRng21, ev_fiRng22, st_len, st_app, st_at0, st_at, st_set0, st_set, st_take, ev_ftidy, ev_fttidy, optR_some, List.set_cons_zero, List.set_cons_succ, List.length_cons, List.length_nil, List.cons_append, List.nil_append, List.map_cons, List.map_nil, List.getElem?_cons_zero, List.getElem?_cons_succ, if_true, if_false, decide_eq_true_eq, Bool.false_eq_true, reduceIte, Option.bind_some, Nat.add_assoc, Nat.reduceAdd, Nat.reduceSub, Nat.reduceLeDiff, Nat.zero_add, List.replicate, sizeLine_eq, List.length_map, Option.map_some, Option.isSome_some, gt_iff_lt, Bool.not_true, Bool.not_false, Nat.reduceLT, nf_non, nf_int, nf_bl, nf_str, nf_tup, nf_ro, nf_nil, nf_cons, nf_T, flats_T, ints_flat, Bool.and_self, Bool.true_and, Bool.and_true, tidy_app, tidyB_app, tidy_appL, dEq_int, List.cons_prefix_cons, List.nil_prefix, true_and, and_true, and_self, tidy_ok, tidy_ok0, tidyB_ok, tidyB_ok0, decide_true, decide_false, not_true_eq_false, not_false_eq_true, and_false, false_and, List.isEmpty_cons, List.isEmpty_nil, lb_three_numbers_3, i]
    exact q
/-- the numbers of triples -/
def NUM (ts : List Tri) : List Int := isort (fun a b => decide (a ≤ b)) (ts.foldl (fun F t => adt t F) [])
theorem fold_len : ∀ (ts : List Tri) (F : List Int), (ts.foldl (fun F t => adt t F) F).length ≤ F.length + 3 * ts.length
  | [], F => by simp
  | t :: ts, F => by
    have := fold_len ts (adt t F)
    have := adt_len (t := t) (F := F)
    rw [List.foldl_cons, List.length_cons]; omega
theorem TT_len {a m : Int} : (TT a m).length ≤ 152 := by
  unfold TT
  split
  · exact Lm_len
  · split
    · rw [List.length_map]; exact Lm_len
    · simp
/-- THREE_NUMBERS -/
theorem three_numbers_ok {a most : Int} (h1 : 1 ≤ most) (h2 : most ≤ 1000000000000) (S : Sto) : F_three_numbers [.int a, .int most] S = .ok (.tup ((NUM (TT a most)).map .int)) S := by
  have t := threes_to_ok (a := a) h1 h2 (S ++ [seenK []])
  have hl := TT_len (a := a) (m := most)
  obtain ⟨x3, x4, q⟩ := outer_3 (S := S) (x0 := some (.int a)) (x1 := some (.int most)) (TT a most) [] none none (by simp; omega)
  have fl := fold_len (TT a most) []
  have hs := sortG_ints (x := .ref S.length) (S := S ++ [seenK ((TT a most).foldl (fun F t => adt t F) [])]) (ns := (TT a most).foldl (fun F t => adt t F) []) (seqK_seenK (by simp)) (by simp at fl; omega)
  have e0 : O.dK [] = seenK [] := rfl
  simp only [ev_bindok, ev_bindex, ev_thenok, ev_thenex, ev_seqnx, ev_seqrt, ev_seqbk, ev_seqct, ev_seqex, ev_lstO, ev_onL, ev_lenOl, ev_lenOk, ev_var0, ev_varS, ev_c, ev_bin, ev_bin1, ev_bin1x, ev_bin2, ev_bin2x, ev_un, ev_nil, ev_cons, ev_cons1, ev_cons1x, ev_cons2, ev_cons2x, ev_tup, ev_tup1, ev_tup1x, ev_lst, ev_lst1, ev_lst1x, ev_if, ev_if1, ev_if1x, ev_call, ev_callK, ev_callK1, ev_callK1x, ev_tru, ev_tB, ev_asB, ev_tNot, ev_tNot1, ev_tNot1x, ev_tAnd, ev_tAnd1, ev_tAnd1x, ev_tOr, ev_tOr1, ev_tOr1x, ev_and, ev_and1, ev_and2, ev_or, ev_or1, ev_or2, ev_not, ev_not1, ev_not2, ev_truB, ev_truI, ev_truT, ev_truN, ev_truL, ev_yes, ev_sl, ev_sl1, ev_sl2, ev_sl3, ev_oN, ev_oS, ev_oS1, ev_slT, ev_slR, ev_slL, ev_add, ev_sub, ev_neg, ev_addT, ev_addL, ev_ord, ev_abs, ev_max2, ev_min2, ev_int, ev_intB, ev_lenT, ev_lenR, ev_lenL, ev_ixT, ev_ixR, ev_ixL, ev_tupT, ev_tupL, ev_revL, ev_ml, ev_ml1, ev_ml2, ev_ml2x, ev_isL, ev_mapp, ev_popC, ev_pop1, ev_pop2, ev_mpop, ev_mext, ev_newK, ev_newN, ev_is, ev_isNot, ev_isnN, ev_isnT, ev_isnI, ev_isnR, ev_nx, ev_seq, ev_asg, ev_asg1, ev_asg1x, ev_kNx, ev_asgT, ev_asgT1, ev_asgT1x, ev_bTup, ev_bName, ev_bCons, ev_bNil, ev_expr, ev_expr1, ev_expr1x, ev_ret, ev_ret1, ev_ret1x, ev_retN, ev_sif, ev_sif1, ev_sif1x, ev_par, ev_par1, ev_par3, ev_par31, ev_setG, ev_setG1, ev_setG2, ev_setG3, ev_setG4, ev_setG1x, ev_break, ev_cont, ev_for, ev_for1, ev_for1x, ev_runB, ev_fiSeq, ev_itT, ev_itR, ev_itL, ev_loopKnx, ev_loopKct, ev_loopKbk, ev_loopKrt, ev_loopKex, ev_loopN, ev_turn, ev_loopC, ev_wh1, ev_g4s, ev_g4n, ev_get2, ev_get21, ev_get22, ev_get23, ev_get1, ev_get11, ev_get12, ev_x3, ev_ixG, ev_ixG1, ev_ixG2, ev_gT, ev_gD, ev_gD1, ev_isGt, ev_gAti, ev_dc, ev_dc1, ev_lc, ev_lc1, ev_wipe0, ev_wipe, ev_empN, ev_empK, ev_chk1, ev_fiRng1, ev_fiRng11, ev_fiRng2, ev_fiRng21, ev_fiRng22, st_len, st_app, st_at0, st_at, st_set0, st_set, st_take, ev_ftidy, ev_fttidy, optR_some, List.set_cons_zero, List.set_cons_succ, List.length_cons, List.length_nil, List.cons_append, List.nil_append, List.map_cons, List.map_nil, List.getElem?_cons_zero, List.getElem?_cons_succ, if_true, if_false, decide_eq_true_eq, Bool.false_eq_true, reduceIte, Option.bind_some, Nat.add_assoc, Nat.reduceAdd, Nat.reduceSub, Nat.reduceLeDiff, Nat.zero_add, List.replicate, sizeLine_eq, List.length_map, Option.map_some, Option.isSome_some, gt_iff_lt, Bool.not_true, Bool.not_false, Nat.reduceLT, nf_non, nf_int, nf_bl, nf_str, nf_tup, nf_ro, nf_nil, nf_cons, nf_T, flats_T, ints_flat, Bool.and_self, Bool.true_and, Bool.and_true, tidy_app, tidyB_app, tidy_appL, dEq_int, List.cons_prefix_cons, List.nil_prefix, true_and, and_true, and_self, tidy_ok, tidy_ok0, tidyB_ok, tidyB_ok0, decide_true, decide_false, not_true_eq_false, not_false_eq_true, and_false, false_and, List.isEmpty_cons, List.isEmpty_nil] at hs
  refine tidyF (G := [seenK ((TT a most).foldl (fun F t => adt t F) [])]) (runB_rt (a := b_three_numbers) ?_) (by simp only [ev_bindok, ev_bindex, ev_thenok, ev_thenex, ev_seqnx, ev_seqrt, ev_seqbk, ev_seqct, ev_seqex, ev_lstO, ev_onL, ev_lenOl, ev_lenOk, ev_var0, ev_varS, ev_c, ev_bin, ev_bin1, ev_bin1x, ev_bin2, ev_bin2x, ev_un, ev_nil, ev_cons, ev_cons1, ev_cons1x, ev_cons2, ev_cons2x, ev_tup, ev_tup1, ev_tup1x, ev_lst, ev_lst1, ev_lst1x, ev_if, ev_if1, ev_if1x, ev_call, ev_callK, ev_callK1, ev_callK1x, ev_tru, ev_tB, ev_asB, ev_tNot, ev_tNot1, ev_tNot1x, ev_tAnd, ev_tAnd1, ev_tAnd1x, ev_tOr, ev_tOr1, ev_tOr1x, ev_and, ev_and1, ev_and2, ev_or, ev_or1, ev_or2, ev_not, ev_not1, ev_not2, ev_truB, ev_truI, ev_truT, ev_truN, ev_truL, ev_yes, ev_sl, ev_sl1, ev_sl2, ev_sl3, ev_oN, ev_oS, ev_oS1, ev_slT, ev_slR, ev_slL, ev_add, ev_sub, ev_neg, ev_addT, ev_addL, ev_ord, ev_abs, ev_max2, ev_min2, ev_int, ev_intB, ev_lenT, ev_lenR, ev_lenL, ev_ixT, ev_ixR, ev_ixL, ev_tupT, ev_tupL, ev_revL, ev_ml, ev_ml1, ev_ml2, ev_ml2x, ev_isL, ev_mapp, ev_popC, ev_pop1, ev_pop2, ev_mpop, ev_mext, ev_newK, ev_newN, ev_is, ev_isNot, ev_isnN, ev_isnT, ev_isnI, ev_isnR, ev_nx, ev_seq, ev_asg, ev_asg1, ev_asg1x, ev_kNx, ev_asgT, ev_asgT1, ev_asgT1x, ev_bTup, ev_bName, ev_bCons, ev_bNil, ev_expr, ev_expr1, ev_expr1x, ev_ret, ev_ret1, ev_ret1x, ev_retN, ev_sif, ev_sif1, ev_sif1x, ev_par, ev_par1, ev_par3, ev_par31, ev_setG, ev_setG1, ev_setG2, ev_setG3, ev_setG4, ev_setG1x, ev_break, ev_cont, ev_for, ev_for1, ev_for1x, ev_runB, ev_fiSeq, ev_itT, ev_itR, ev_itL, ev_loopKnx, ev_loopKct, ev_loopKbk, ev_loopKrt, ev_loopKex, ev_loopN, ev_turn, ev_loopC, ev_wh1, ev_g4s, ev_g4n, ev_get2, ev_get21, ev_get22, ev_get23, ev_get1, ev_get11, ev_get12, ev_x3, ev_ixG, ev_ixG1, ev_ixG2, ev_gT, ev_gD, ev_gD1, ev_isGt, ev_gAti, ev_dc, ev_dc1, ev_lc, ev_lc1, ev_wipe0, ev_wipe, ev_empN, ev_empK, ev_chk1, ev_fiRng1, ev_fiRng11, ev_fiRng2, ev_fiRng21, ev_fiRng22, st_len, st_app, st_at0, st_at, st_set0, st_set, st_take, ev_ftidy, ev_fttidy, optR_some, List.set_cons_zero, List.set_cons_succ, List.length_cons, List.length_nil, List.cons_append, List.nil_append, List.map_cons, List.map_nil, List.getElem?_cons_zero, List.getElem?_cons_succ, if_true, if_false, decide_eq_true_eq, Bool.false_eq_true, reduceIte, Option.bind_some, Nat.add_assoc, Nat.reduceAdd, Nat.reduceSub, Nat.reduceLeDiff, Nat.zero_add, List.replicate, sizeLine_eq, List.length_map, Option.map_some, Option.isSome_some, gt_iff_lt, Bool.not_true, Bool.not_false, Nat.reduceLT, nf_non, nf_int, nf_bl, nf_str, nf_tup, nf_ro, nf_nil, nf_cons, nf_T, flats_T, ints_flat, Bool.and_self, Bool.true_and, Bool.and_true, tidy_app, tidyB_app, tidy_appL, dEq_int, List.cons_prefix_cons, List.nil_prefix, true_and, and_true, and_self, tidy_ok, tidy_ok0, tidyB_ok, tidyB_ok0, decide_true, decide_false, not_true_eq_false, not_false_eq_true, and_false, false_and, List.isEmpty_cons, List.isEmpty_nil])
  simp only [b_three_numbers, lp_three_numbers_4, ev_bindok, ev_bindex, ev_thenok, ev_thenex, ev_seqnx, ev_seqrt, ev_seqbk, ev_seqct, ev_seqex, ev_lstO, ev_onL, ev_lenOl, ev_lenOk, ev_var0, ev_varS, ev_c, ev_bin, ev_bin1, ev_bin1x, ev_bin2, ev_bin2x, ev_un, ev_nil, ev_cons, ev_cons1, ev_cons1x, ev_cons2, ev_cons2x, ev_tup, ev_tup1, ev_tup1x, ev_lst, ev_lst1, ev_lst1x, ev_if, ev_if1, ev_if1x, ev_call, ev_callK, ev_callK1, ev_callK1x, ev_tru, ev_tB, ev_asB, ev_tNot, ev_tNot1, ev_tNot1x, ev_tAnd, ev_tAnd1, ev_tAnd1x, ev_tOr, ev_tOr1, ev_tOr1x, ev_and, ev_and1, ev_and2, ev_or, ev_or1, ev_or2, ev_not, ev_not1, ev_not2, ev_truB, ev_truI, ev_truT, ev_truN, ev_truL, ev_yes, ev_sl, ev_sl1, ev_sl2, ev_sl3, ev_oN, ev_oS, ev_oS1, ev_slT, ev_slR, ev_slL, ev_add, ev_sub, ev_neg, ev_addT, ev_addL, ev_ord, ev_abs, ev_max2, ev_min2, ev_int, ev_intB, ev_lenT, ev_lenR, ev_lenL, ev_ixT, ev_ixR, ev_ixL, ev_tupT, ev_tupL, ev_revL, ev_ml, ev_ml1, ev_ml2, ev_ml2x, ev_isL, ev_mapp, ev_popC, ev_pop1, ev_pop2, ev_mpop, ev_mext, ev_newK, ev_newN, ev_is, ev_isNot, ev_isnN, ev_isnT, ev_isnI, ev_isnR, ev_nx, ev_seq, ev_asg, ev_asg1, ev_asg1x, ev_kNx, ev_asgT, ev_asgT1, ev_asgT1x, ev_bTup, ev_bName, ev_bCons, ev_bNil, ev_expr, ev_expr1, ev_expr1x, ev_ret, ev_ret1, ev_ret1x, ev_retN, ev_sif, ev_sif1, ev_sif1x, ev_par, ev_par1, ev_par3, ev_par31, ev_setG, ev_setG1, ev_setG2, ev_setG3, ev_setG4, ev_setG1x, ev_break, ev_cont, ev_for, ev_for1, ev_for1x, ev_runB, ev_fiSeq, ev_itT, ev_itR, ev_itL, ev_loopKnx, ev_loopKct, ev_loopKbk, ev_loopKrt, ev_loopKex, ev_loopN, ev_turn, ev_loopC, ev_wh1, ev_g4s, ev_g4n, ev_get2, ev_get21, ev_get22, ev_get23, ev_get1, ev_get11, ev_get12, ev_x3, ev_ixG, ev_ixG1, ev_ixG2, ev_gT, ev_gD, ev_gD1, ev_isGt, ev_gAti, ev_dc, ev_dc1, ev_lc, ev_lc1, ev_wipe0, ev_wipe, ev_empN, ev_empK, ev_chk1, ev_fiRng1, ev_fiRng11, ev_fiRng2, ev_fiRng21, ev_fiRng22, st_len, st_app, st_at0, st_at, st_set0, st_set, st_take, ev_ftidy, ev_fttidy, optR_some, List.set_cons_zero, List.set_cons_succ, List.length_cons, List.length_nil, List.cons_append, List.nil_append, List.map_cons, List.map_nil, List.getElem?_cons_zero, List.getElem?_cons_succ, if_true, if_false, decide_eq_true_eq, Bool.false_eq_true, reduceIte, Option.bind_some, Nat.add_assoc, Nat.reduceAdd, Nat.reduceSub, Nat.reduceLeDiff, Nat.zero_add, List.replicate, sizeLine_eq, List.length_map, Option.map_some, Option.isSome_some, gt_iff_lt, Bool.not_true, Bool.not_false, Nat.reduceLT, nf_non, nf_int, nf_bl, nf_str, nf_tup, nf_ro, nf_nil, nf_cons, nf_T, flats_T, ints_flat, Bool.and_self, Bool.true_and, Bool.and_true, tidy_app, tidyB_app, tidy_appL, dEq_int, List.cons_prefix_cons, List.nil_prefix, true_and, and_true, and_self, tidy_ok, tidy_ok0, tidyB_ok, tidyB_ok0, decide_true, decide_false, not_true_eq_false, not_false_eq_true, and_false, false_and, List.isEmpty_cons, List.isEmpty_nil, e0, t, q, hs]
  rfl
theorem inner_l {S : Sto} {F : List Int} {t : Tri} {x0 x3 : Option D} (hl : F.length < 10000) : lp__law_numbers_2 [x0, some (.ref S.length), some (dT t), x3] (S ++ [seenK F]) = .nx [x0, some (.ref S.length), some (dT t), some (.int t.2.2)] (S ++ [seenK (adt t F)]) := by
  have e : ∀ (n : Int) (F : List Int), F.length < 20000 → setG (.ref S.length) (.int n) (.bl true) (S ++ [seenK F]) = some (S ++ [seenK (adn n F)]) := fun n F hl => by
    rw [set_seenK (F := F) (by simp) (by omega)]
    simp [adn]
  have h1 := e t.1 F (by omega)
  have h2 := e t.2.1 (adn t.1 F) (by have := adn_len (n := t.1) (F := F); omega)
  have h3 := e t.2.2 (adn t.2.1 (adn t.1 F)) (by have := adn_len (n := t.1) (F := F); have := adn_len (n := t.2.1) (F := adn t.1 F); omega)
  unfold dT
  simp only [lp__law_numbers_2, lb__law_numbers_1, ev_bindok, ev_bindex, ev_thenok, ev_thenex, ev_seqnx, ev_seqrt, ev_seqbk, ev_seqct, ev_seqex, ev_lstO, ev_onL, ev_lenOl, ev_lenOk, ev_var0, ev_varS, ev_c, ev_bin, ev_bin1, ev_bin1x, ev_bin2, ev_bin2x, ev_un, ev_nil, ev_cons, ev_cons1, ev_cons1x, ev_cons2, ev_cons2x, ev_tup, ev_tup1, ev_tup1x, ev_lst, ev_lst1, ev_lst1x, ev_if, ev_if1, ev_if1x, ev_call, ev_callK, ev_callK1, ev_callK1x, ev_tru, ev_tB, ev_asB, ev_tNot, ev_tNot1, ev_tNot1x, ev_tAnd, ev_tAnd1, ev_tAnd1x, ev_tOr, ev_tOr1, ev_tOr1x, ev_and, ev_and1, ev_and2, ev_or, ev_or1, ev_or2, ev_not, ev_not1, ev_not2, ev_truB, ev_truI, ev_truT, ev_truN, ev_truL, ev_yes, ev_sl, ev_sl1, ev_sl2, ev_sl3, ev_oN, ev_oS, ev_oS1, ev_slT, ev_slR, ev_slL, ev_add, ev_sub, ev_neg, ev_addT, ev_addL, ev_ord, ev_abs, ev_max2, ev_min2, ev_int, ev_intB, ev_lenT, ev_lenR, ev_lenL, ev_ixT, ev_ixR, ev_ixL, ev_tupT, ev_tupL, ev_revL, ev_ml, ev_ml1, ev_ml2, ev_ml2x, ev_isL, ev_mapp, ev_popC, ev_pop1, ev_pop2, ev_mpop, ev_mext, ev_newK, ev_newN, ev_is, ev_isNot, ev_isnN, ev_isnT, ev_isnI, ev_isnR, ev_nx, ev_seq, ev_asg, ev_asg1, ev_asg1x, ev_kNx, ev_asgT, ev_asgT1, ev_asgT1x, ev_bTup, ev_bName, ev_bCons, ev_bNil, ev_expr, ev_expr1, ev_expr1x, ev_ret, ev_ret1, ev_ret1x, ev_retN, ev_sif, ev_sif1, ev_sif1x, ev_par, ev_par1, ev_par3, ev_par31, ev_setG, ev_setG1, ev_setG2, ev_setG3, ev_setG4, ev_setG1x, ev_break, ev_cont, ev_for, ev_for1, ev_for1x, ev_runB, ev_fiSeq, ev_itT, ev_itR, ev_itL, ev_loopKnx, ev_loopKct, ev_loopKbk, ev_loopKrt, ev_loopKex, ev_loopN, ev_turn, ev_loopC, ev_wh1, ev_g4s, ev_g4n, ev_get2, ev_get21, ev_get22, ev_get23, ev_get1, ev_get11, ev_get12, ev_x3, ev_ixG, ev_ixG1, ev_ixG2, ev_gT, ev_gD, ev_gD1, ev_isGt, ev_gAti, ev_dc, ev_dc1, ev_lc, ev_lc1, ev_wipe0, ev_wipe, ev_empN, ev_empK, ev_chk1, ev_fiRng1, ev_fiRng11, ev_fiRng2, ev_fiRng21, ev_fiRng22, st_len, st_app, st_at0, st_at, st_set0, st_set, st_take, ev_ftidy, ev_fttidy, optR_some, List.set_cons_zero, List.set_cons_succ, List.length_cons, List.length_nil, List.cons_append, List.nil_append, List.map_cons, List.map_nil, List.getElem?_cons_zero, List.getElem?_cons_succ, if_true, if_false, decide_eq_true_eq, Bool.false_eq_true, reduceIte, Option.bind_some, Nat.add_assoc, Nat.reduceAdd, Nat.reduceSub, Nat.reduceLeDiff, Nat.zero_add, List.replicate, sizeLine_eq, List.length_map, Option.map_some, Option.isSome_some, gt_iff_lt, Bool.not_true, Bool.not_false, Nat.reduceLT, nf_non, nf_int, nf_bl, nf_str, nf_tup, nf_ro, nf_nil, nf_cons, nf_T, flats_T, ints_flat, Bool.and_self, Bool.true_and, Bool.and_true, tidy_app, tidyB_app, tidy_appL, dEq_int, List.cons_prefix_cons, List.nil_prefix, true_and, and_true, and_self, tidy_ok, tidy_ok0, tidyB_ok, tidyB_ok0, decide_true, decide_false, not_true_eq_false, not_false_eq_true, and_false, false_and, List.isEmpty_cons, List.isEmpty_nil, h1, h2, h3, adt]
theorem outer_l {S : Sto} {i : Nat} {all : List D} (hi : S[i]? = some (.lst all)) {x0 : Option D} : ∀ (ts : List Tri) (F : List Int) (x3 x4 : Option D), F.length + 3 * ts.length < 5000 →
    ∃ x3' x4', loopF [(i, .lst all)] (bName 2) lb__law_numbers_3 (ts.map dT) [x0, some (.ref S.length), x3, x4] (S ++ [seenK F]) = .nx [x0, some (.ref S.length), x3', x4'] (S ++ [seenK (ts.foldl (fun F t => adt t F) F)])
  | [], F, x3, x4, _ => ⟨x3, x4, loopN (chk1.mpr (st_old hi))⟩
  | t :: ts, F, x3, x4, h => by
    rw [List.length_cons] at h
    obtain ⟨y3, y4, q⟩ := outer_l hi (x0 := x0) ts (adt t F) (some (dT t)) (some (.int t.2.2)) (by have := adt_len (t := t) (F := F); omega)
    refine ⟨y3, y4, ?_⟩
    have i := inner_l (S := S) (F := F) (t := t) (x0 := x0) (x3 := x4) (by omega)
    rw [List.map_cons, loopC (chk1.mpr (st_old hi))]
    simp only [ev_bindok, ev_bindex, ev_thenok, ev_thenex, ev_seqnx, ev_seqrt, ev_seqbk, ev_seqct, ev_seqex, ev_lstO, ev_onL, ev_lenOl, ev_lenOk, ev_var0, ev_varS, ev_c, ev_bin, ev_bin1, ev_bin1x, ev_bin2, ev_bin2x, ev_un, ev_nil, ev_cons, ev_cons1, ev_cons1x, ev_cons2, ev_cons2x, ev_tup, ev_tup1, ev_tup1x, ev_lst, ev_lst1, ev_lst1x, ev_if, ev_if1, ev_if1x, ev_call, ev_callK, ev_callK1, ev_callK1x, ev_tru, ev_tB, ev_asB, ev_tNot, ev_tNot1, ev_tNot1x, ev_tAnd, ev_tAnd1, ev_tAnd1x, ev_tOr, ev_tOr1, ev_tOr1x, ev_and, ev_and1, ev_and2, ev_or, ev_or1, ev_or2, ev_not, ev_not1, ev_not2, ev_truB, ev_truI, ev_truT, ev_truN, ev_truL, ev_yes, ev_sl, ev_sl1, ev_sl2, ev_sl3, ev_oN, ev_oS, ev_oS1, ev_slT, ev_slR, ev_slL, ev_add, ev_sub, ev_neg, ev_addT, ev_addL, ev_ord, ev_abs, ev_max2, ev_min2, ev_int, ev_intB, ev_lenT, ev_lenR, ev_lenL, ev_ixT, ev_ixR, ev_ixL, ev_tupT, ev_tupL, ev_revL, ev_ml, ev_ml1, ev_ml2, ev_ml2x, ev_isL, ev_mapp, ev_popC, ev_pop1, ev_pop2, ev_mpop, ev_mext, ev_newK, ev_newN, ev_is, ev_isNot, ev_isnN, ev_isnT, ev_isnI, ev_isnR, ev_nx, ev_seq, ev_asg, ev_asg1, ev_asg1x, ev_kNx, ev_asgT, ev_asgT1, ev_asgT1x, ev_bTup, ev_bName, ev_bCons, ev_bNil, ev_expr, ev_expr1, ev_expr1x, ev_ret, ev_ret1, ev_ret1x, ev_retN, ev_sif, ev_sif1, ev_sif1x, ev_par, ev_par1, ev_par3, ev_par31, ev_setG, ev_setG1, ev_setG2, ev_setG3, ev_setG4, ev_setG1x, ev_break, ev_cont, ev_for, ev_for1, ev_for1x, ev_runB, ev_fiSeq, ev_itT, ev_itR, ev_itL, ev_loopKnx, ev_loopKct, ev_loopKbk, ev_loopKrt, ev_loopKex, ev_loopN, ev_turn, ev_loopC, ev_wh1, ev_g4s, ev_g4n, ev_get2, ev_get21, ev_get22, ev_get23, ev_get1, ev_get11, ev_get12, ev_x3, ev_ixG, ev_ixG1, ev_ixG2, ev_gT, ev_gD, ev_gD1, ev_isGt, ev_gAti, ev_dc, ev_dc1, ev_lc, ev_lc1, ev_wipe0, ev_wipe, ev_empN, ev_empK, ev_chk1, ev_fiRng1, ev_fiRng11, ev_fiRng2, ev_fiRng21, ev_fiRng22, st_len, st_app, st_at0, st_at, st_set0, st_set, st_take, ev_ftidy, ev_fttidy, optR_some, List.set_cons_zero, List.set_cons_succ, List.length_cons, List.length_nil, List.cons_append, List.nil_append, List.map_cons, List.map_nil, List.getElem?_cons_zero, List.getElem?_cons_succ, if_true, if_false, decide_eq_true_eq, Bool.false_eq_true, reduceIte, Option.bind_some, Nat.add_assoc, Nat.reduceAdd, Nat.reduceSub, Nat.reduceLeDiff, Nat.zero_add, List.replicate, sizeLine_eq, List.length_map, Option.map_some, Option.isSome_some, gt_iff_lt, Bool.not_true, Bool.not_false, Nat.reduceLT, nf_non, nf_int, nf_bl, nf_str, nf_tup, nf_ro, nf_nil, nf_cons, nf_T, flats_T, ints_flat, Bool.and_self, Bool.true_and, Bool.and_true, tidy_app, tidyB_app, tidy_appL, dEq_int, List.cons_prefix_cons, List.nil_prefix, true_and, and_true, and_self, tidy_ok, tidy_ok0, tidyB_ok, tidyB_ok0, decide_true, decide_false, not_true_eq_false, not_false_eq_true, and_false, false_and, List.isEmpty_cons, List.isEmpty_nil, lb__law_numbers_3, i]
    exact q
/-- _LAW_NUMBERS -/
theorem numbers_ok {S : Sto} {i : Nat} {ts : List Tri} (hi : S[i]? = some (.lst (ts.map dT))) (hl : ts.length ≤ 1000) : F__law_numbers [.ref i] S = .ok (.tup ((NUM ts).map .int)) S := by
  obtain ⟨x3, x4, q⟩ := outer_l hi (x0 := some (.ref i)) ts [] none none (by simp; omega)
  have fl := fold_len ts []
  have hs := sortG_ints (x := .ref S.length) (S := S ++ [seenK (ts.foldl (fun F t => adt t F) [])]) (ns := ts.foldl (fun F t => adt t F) []) (seqK_seenK (by simp)) (by simp at fl; omega)
  have e0 : O.dK [] = seenK [] := rfl
  have hi2 : (S ++ [seenK []])[i]? = some (.lst (ts.map dT)) := st_old hi
  simp only [ev_bindok, ev_bindex, ev_thenok, ev_thenex, ev_seqnx, ev_seqrt, ev_seqbk, ev_seqct, ev_seqex, ev_lstO, ev_onL, ev_lenOl, ev_lenOk, ev_var0, ev_varS, ev_c, ev_bin, ev_bin1, ev_bin1x, ev_bin2, ev_bin2x, ev_un, ev_nil, ev_cons, ev_cons1, ev_cons1x, ev_cons2, ev_cons2x, ev_tup, ev_tup1, ev_tup1x, ev_lst, ev_lst1, ev_lst1x, ev_if, ev_if1, ev_if1x, ev_call, ev_callK, ev_callK1, ev_callK1x, ev_tru, ev_tB, ev_asB, ev_tNot, ev_tNot1, ev_tNot1x, ev_tAnd, ev_tAnd1, ev_tAnd1x, ev_tOr, ev_tOr1, ev_tOr1x, ev_and, ev_and1, ev_and2, ev_or, ev_or1, ev_or2, ev_not, ev_not1, ev_not2, ev_truB, ev_truI, ev_truT, ev_truN, ev_truL, ev_yes, ev_sl, ev_sl1, ev_sl2, ev_sl3, ev_oN, ev_oS, ev_oS1, ev_slT, ev_slR, ev_slL, ev_add, ev_sub, ev_neg, ev_addT, ev_addL, ev_ord, ev_abs, ev_max2, ev_min2, ev_int, ev_intB, ev_lenT, ev_lenR, ev_lenL, ev_ixT, ev_ixR, ev_ixL, ev_tupT, ev_tupL, ev_revL, ev_ml, ev_ml1, ev_ml2, ev_ml2x, ev_isL, ev_mapp, ev_popC, ev_pop1, ev_pop2, ev_mpop, ev_mext, ev_newK, ev_newN, ev_is, ev_isNot, ev_isnN, ev_isnT, ev_isnI, ev_isnR, ev_nx, ev_seq, ev_asg, ev_asg1, ev_asg1x, ev_kNx, ev_asgT, ev_asgT1, ev_asgT1x, ev_bTup, ev_bName, ev_bCons, ev_bNil, ev_expr, ev_expr1, ev_expr1x, ev_ret, ev_ret1, ev_ret1x, ev_retN, ev_sif, ev_sif1, ev_sif1x, ev_par, ev_par1, ev_par3, ev_par31, ev_setG, ev_setG1, ev_setG2, ev_setG3, ev_setG4, ev_setG1x, ev_break, ev_cont, ev_for, ev_for1, ev_for1x, ev_runB, ev_fiSeq, ev_itT, ev_itR, ev_itL, ev_loopKnx, ev_loopKct, ev_loopKbk, ev_loopKrt, ev_loopKex, ev_loopN, ev_turn, ev_loopC, ev_wh1, ev_g4s, ev_g4n, ev_get2, ev_get21, ev_get22, ev_get23, ev_get1, ev_get11, ev_get12, ev_x3, ev_ixG, ev_ixG1, ev_ixG2, ev_gT, ev_gD, ev_gD1, ev_isGt, ev_gAti, ev_dc, ev_dc1, ev_lc, ev_lc1, ev_wipe0, ev_wipe, ev_empN, ev_empK, ev_chk1, ev_fiRng1, ev_fiRng11, ev_fiRng2, ev_fiRng21, ev_fiRng22, st_len, st_app, st_at0, st_at, st_set0, st_set, st_take, ev_ftidy, ev_fttidy, optR_some, List.set_cons_zero, List.set_cons_succ, List.length_cons, List.length_nil, List.cons_append, List.nil_append, List.map_cons, List.map_nil, List.getElem?_cons_zero, List.getElem?_cons_succ, if_true, if_false, decide_eq_true_eq, Bool.false_eq_true, reduceIte, Option.bind_some, Nat.add_assoc, Nat.reduceAdd, Nat.reduceSub, Nat.reduceLeDiff, Nat.zero_add, List.replicate, sizeLine_eq, List.length_map, Option.map_some, Option.isSome_some, gt_iff_lt, Bool.not_true, Bool.not_false, Nat.reduceLT, nf_non, nf_int, nf_bl, nf_str, nf_tup, nf_ro, nf_nil, nf_cons, nf_T, flats_T, ints_flat, Bool.and_self, Bool.true_and, Bool.and_true, tidy_app, tidyB_app, tidy_appL, dEq_int, List.cons_prefix_cons, List.nil_prefix, true_and, and_true, and_self, tidy_ok, tidy_ok0, tidyB_ok, tidyB_ok0, decide_true, decide_false, not_true_eq_false, not_false_eq_true, and_false, false_and, List.isEmpty_cons, List.isEmpty_nil] at hs
  refine tidyF (G := [seenK (ts.foldl (fun F t => adt t F) [])]) (runB_rt (a := b__law_numbers) ?_) (by simp only [ev_bindok, ev_bindex, ev_thenok, ev_thenex, ev_seqnx, ev_seqrt, ev_seqbk, ev_seqct, ev_seqex, ev_lstO, ev_onL, ev_lenOl, ev_lenOk, ev_var0, ev_varS, ev_c, ev_bin, ev_bin1, ev_bin1x, ev_bin2, ev_bin2x, ev_un, ev_nil, ev_cons, ev_cons1, ev_cons1x, ev_cons2, ev_cons2x, ev_tup, ev_tup1, ev_tup1x, ev_lst, ev_lst1, ev_lst1x, ev_if, ev_if1, ev_if1x, ev_call, ev_callK, ev_callK1, ev_callK1x, ev_tru, ev_tB, ev_asB, ev_tNot, ev_tNot1, ev_tNot1x, ev_tAnd, ev_tAnd1, ev_tAnd1x, ev_tOr, ev_tOr1, ev_tOr1x, ev_and, ev_and1, ev_and2, ev_or, ev_or1, ev_or2, ev_not, ev_not1, ev_not2, ev_truB, ev_truI, ev_truT, ev_truN, ev_truL, ev_yes, ev_sl, ev_sl1, ev_sl2, ev_sl3, ev_oN, ev_oS, ev_oS1, ev_slT, ev_slR, ev_slL, ev_add, ev_sub, ev_neg, ev_addT, ev_addL, ev_ord, ev_abs, ev_max2, ev_min2, ev_int, ev_intB, ev_lenT, ev_lenR, ev_lenL, ev_ixT, ev_ixR, ev_ixL, ev_tupT, ev_tupL, ev_revL, ev_ml, ev_ml1, ev_ml2, ev_ml2x, ev_isL, ev_mapp, ev_popC, ev_pop1, ev_pop2, ev_mpop, ev_mext, ev_newK, ev_newN, ev_is, ev_isNot, ev_isnN, ev_isnT, ev_isnI, ev_isnR, ev_nx, ev_seq, ev_asg, ev_asg1, ev_asg1x, ev_kNx, ev_asgT, ev_asgT1, ev_asgT1x, ev_bTup, ev_bName, ev_bCons, ev_bNil, ev_expr, ev_expr1, ev_expr1x, ev_ret, ev_ret1, ev_ret1x, ev_retN, ev_sif, ev_sif1, ev_sif1x, ev_par, ev_par1, ev_par3, ev_par31, ev_setG, ev_setG1, ev_setG2, ev_setG3, ev_setG4, ev_setG1x, ev_break, ev_cont, ev_for, ev_for1, ev_for1x, ev_runB, ev_fiSeq, ev_itT, ev_itR, ev_itL, ev_loopKnx, ev_loopKct, ev_loopKbk, ev_loopKrt, ev_loopKex, ev_loopN, ev_turn, ev_loopC, ev_wh1, ev_g4s, ev_g4n, ev_get2, ev_get21, ev_get22, ev_get23, ev_get1, ev_get11, ev_get12, ev_x3, ev_ixG, ev_ixG1, ev_ixG2, ev_gT, ev_gD, ev_gD1, ev_isGt, ev_gAti, ev_dc, ev_dc1, ev_lc, ev_lc1, ev_wipe0, ev_wipe, ev_empN, ev_empK, ev_chk1, ev_fiRng1, ev_fiRng11, ev_fiRng2, ev_fiRng21, ev_fiRng22, st_len, st_app, st_at0, st_at, st_set0, st_set, st_take, ev_ftidy, ev_fttidy, optR_some, List.set_cons_zero, List.set_cons_succ, List.length_cons, List.length_nil, List.cons_append, List.nil_append, List.map_cons, List.map_nil, List.getElem?_cons_zero, List.getElem?_cons_succ, if_true, if_false, decide_eq_true_eq, Bool.false_eq_true, reduceIte, Option.bind_some, Nat.add_assoc, Nat.reduceAdd, Nat.reduceSub, Nat.reduceLeDiff, Nat.zero_add, List.replicate, sizeLine_eq, List.length_map, Option.map_some, Option.isSome_some, gt_iff_lt, Bool.not_true, Bool.not_false, Nat.reduceLT, nf_non, nf_int, nf_bl, nf_str, nf_tup, nf_ro, nf_nil, nf_cons, nf_T, flats_T, ints_flat, Bool.and_self, Bool.true_and, Bool.and_true, tidy_app, tidyB_app, tidy_appL, dEq_int, List.cons_prefix_cons, List.nil_prefix, true_and, and_true, and_self, tidy_ok, tidy_ok0, tidyB_ok, tidyB_ok0, decide_true, decide_false, not_true_eq_false, not_false_eq_true, and_false, false_and, List.isEmpty_cons, List.isEmpty_nil])
  simp only [b__law_numbers, lp__law_numbers_4, ev_bindok, ev_bindex, ev_thenok, ev_thenex, ev_seqnx, ev_seqrt, ev_seqbk, ev_seqct, ev_seqex, ev_lstO, ev_onL, ev_lenOl, ev_lenOk, ev_var0, ev_varS, ev_c, ev_bin, ev_bin1, ev_bin1x, ev_bin2, ev_bin2x, ev_un, ev_nil, ev_cons, ev_cons1, ev_cons1x, ev_cons2, ev_cons2x, ev_tup, ev_tup1, ev_tup1x, ev_lst, ev_lst1, ev_lst1x, ev_if, ev_if1, ev_if1x, ev_call, ev_callK, ev_callK1, ev_callK1x, ev_tru, ev_tB, ev_asB, ev_tNot, ev_tNot1, ev_tNot1x, ev_tAnd, ev_tAnd1, ev_tAnd1x, ev_tOr, ev_tOr1, ev_tOr1x, ev_and, ev_and1, ev_and2, ev_or, ev_or1, ev_or2, ev_not, ev_not1, ev_not2, ev_truB, ev_truI, ev_truT, ev_truN, ev_truL, ev_yes, ev_sl, ev_sl1, ev_sl2, ev_sl3, ev_oN, ev_oS, ev_oS1, ev_slT, ev_slR, ev_slL, ev_add, ev_sub, ev_neg, ev_addT, ev_addL, ev_ord, ev_abs, ev_max2, ev_min2, ev_int, ev_intB, ev_lenT, ev_lenR, ev_lenL, ev_ixT, ev_ixR, ev_ixL, ev_tupT, ev_tupL, ev_revL, ev_ml, ev_ml1, ev_ml2, ev_ml2x, ev_isL, ev_mapp, ev_popC, ev_pop1, ev_pop2, ev_mpop, ev_mext, ev_newK, ev_newN, ev_is, ev_isNot, ev_isnN, ev_isnT, ev_isnI, ev_isnR, ev_nx, ev_seq, ev_asg, ev_asg1, ev_asg1x, ev_kNx, ev_asgT, ev_asgT1, ev_asgT1x, ev_bTup, ev_bName, ev_bCons, ev_bNil, ev_expr, ev_expr1, ev_expr1x, ev_ret, ev_ret1, ev_ret1x, ev_retN, ev_sif, ev_sif1, ev_sif1x, ev_par, ev_par1, ev_par3, ev_par31, ev_setG, ev_setG1, ev_setG2, ev_setG3, ev_setG4, ev_setG1x, ev_break, ev_cont, ev_for, ev_for1, ev_for1x, ev_runB, ev_fiSeq, ev_itT, ev_itR, ev_itL, ev_loopKnx, ev_loopKct, ev_loopKbk, ev_loopKrt, ev_loopKex, ev_loopN, ev_turn, ev_loopC, ev_wh1, ev_g4s, ev_g4n, ev_get2, ev_get21, ev_get22, ev_get23, ev_get1, ev_get11, ev_get12, ev_x3, ev_ixG, ev_ixG1, ev_ixG2, ev_gT, ev_gD, ev_gD1, ev_isGt, ev_gAti, ev_dc, ev_dc1, ev_lc, ev_lc1, ev_wipe0, ev_wipe, ev_empN, ev_empK, ev_chk1, ev_fiRng1, ev_fiRng11, ev_fiRng2, ev_fiRng21, ev_fiRng22, st_len, st_app, st_at0, st_at, st_set0, st_set, st_take, ev_ftidy, ev_fttidy, optR_some, List.set_cons_zero, List.set_cons_succ, List.length_cons, List.length_nil, List.cons_append, List.nil_append, List.map_cons, List.map_nil, List.getElem?_cons_zero, List.getElem?_cons_succ, if_true, if_false, decide_eq_true_eq, Bool.false_eq_true, reduceIte, Option.bind_some, Nat.add_assoc, Nat.reduceAdd, Nat.reduceSub, Nat.reduceLeDiff, Nat.zero_add, List.replicate, sizeLine_eq, List.length_map, Option.map_some, Option.isSome_some, gt_iff_lt, Bool.not_true, Bool.not_false, Nat.reduceLT, nf_non, nf_int, nf_bl, nf_str, nf_tup, nf_ro, nf_nil, nf_cons, nf_T, flats_T, ints_flat, Bool.and_self, Bool.true_and, Bool.and_true, tidy_app, tidyB_app, tidy_appL, dEq_int, List.cons_prefix_cons, List.nil_prefix, true_and, and_true, and_self, tidy_ok, tidy_ok0, tidyB_ok, tidyB_ok0, decide_true, decide_false, not_true_eq_false, not_false_eq_true, and_false, false_and, List.isEmpty_cons, List.isEmpty_nil, e0, hi2, q, hs]
  rfl
end Y.k59

set_option Elab.async false
set_option linter.all false
set_option maxRecDepth 100000
set_option maxHeartbeats 2000000
/-! P59f: by look. -/
namespace Y.k59
open PySem L2 Y
def isTr (a x y z : Int) : Bool := decide (x * x + y * y + z * z = a * x * y * z)
def look (a m : Int) : List Tri := (rng 1 m.toNat).flatMap fun x => (rng x (m + 1 - x).toNat).flatMap fun y => ((rng y (m + 1 - y).toNat).filter (isTr a x y)).map fun z => (x, y, z)
theorem look_ok : ∀ a : Nat, a < 50 → ∀ m : Nat, m < 16 → look (a + 1 : Nat) (m + 1 : Nat) = TT (a + 1 : Nat) (m + 1 : Nat) := by decide +kernel
end Y.k59

set_option Elab.async false
set_option linter.all false
set_option maxRecDepth 100000
set_option maxHeartbeats 2000000
/-! P59g: _law_by_look. -/
namespace Y.k59
open PySem L2 Y
theorem mem_rng {lo : Int} {n : Nat} {x : Int} : x ∈ rng lo n ↔ lo ≤ x ∧ x < lo + n := by
  unfold rng
  rw [List.mem_map]
  constructor
  · rintro ⟨i, h, rfl⟩
    rw [List.mem_range] at h; omega
  · intro h
    exact ⟨(x - lo).toNat, by rw [List.mem_range]; omega, by omega⟩
theorem rng_len {lo : Int} {n : Nat} : (rng lo n).length = n := by simp [rng]
def row (a m x y : Int) : List Tri := ((rng y (m + 1 - y).toNat).filter (isTr a x y)).map fun z => (x, y, z)
theorem row_len {a m x y : Int} (h : m ≤ 16) (hy : 1 ≤ y) : (row a m x y).length ≤ 16 := by
  unfold row
  rw [List.length_map]
  exact Nat.le_trans (List.length_filter_le _ _) (by rw [rng_len]; omega)
theorem turn_l {a m x y : Int} {S G : Sto} {F : List Tri} {x5 : Option D} (ha : 1 ≤ a ∧ a ≤ 50) (hm : m ≤ 16) (hx : 1 ≤ x) (hxy : x ≤ y) (hy : y ≤ m) (hl : F.length < 10000) :
   ∃ G', lb__law_by_look_4 [some (.int a), some (.int m), some (.ref S.length), some (.int x), some (.int y), x5] (S ++ (.lst (F.map dT) :: G)) = .nx [some (.int a), some (.int m), some (.ref S.length), some (.int x), some (.int y), x5] (S ++ (.lst ((F ++ row a m x y).map dT) :: G')) := by
  have c := lcA (S := S ++ (.lst (F.map dT) :: G)) (fi := fiRng2 (fVar 4) (fBin dAdd (fVar 1) (fC (.int 1)))) (own := [5]) (g := bName 5) (t := ct__law_by_look_1) (e := ce__law_by_look_2) (ρ := [some (.int a), some (.int m), some (.ref S.length), some (.int x), some (.int y), x5]) (S1 := S ++ (.lst (F.map dT) :: G)) (ch := []) (rng y (m + 1 - y).toNat) .int (isTr a x y) (fun z => dT (x, y, z)) (by
      have h : -(2 ^ 62) ≤ y ∧ y < 2 ^ 62 ∧ -(2 ^ 62) ≤ m + 1 ∧ m + 1 < 2 ^ 62 := by omega
      simp only [ev_bindok, ev_bindex, ev_thenok, ev_thenex, ev_seqnx, ev_seqrt, ev_seqbk, ev_seqct, ev_seqex, ev_lstO, ev_onL, ev_lenOl, ev_lenOk, ev_var0, ev_varS, ev_c, ev_bin, ev_bin1, ev_bin1x, ev_bin2, ev_bin2x, ev_un, ev_nil, ev_cons, ev_cons1, ev_cons1x, ev_cons2, ev_cons2x, ev_tup, ev_tup1, ev_tup1x, ev_lst, ev_lst1, ev_lst1x, ev_if, ev_if1, ev_if1x, ev_call, ev_callK, ev_callK1, ev_callK1x, ev_tru, ev_tB, ev_asB, ev_tNot, ev_tNot1, ev_tNot1x, ev_tAnd, ev_tAnd1, ev_tAnd1x, ev_tOr, ev_tOr1, ev_tOr1x, ev_and, ev_and1, ev_and2, ev_or, ev_or1, ev_or2, ev_not, ev_not1, ev_not2, ev_truB, ev_truI, ev_truT, ev_truN, ev_truL, ev_yes, ev_sl, ev_sl1, ev_sl2, ev_sl3, ev_oN, ev_oS, ev_oS1, ev_slT, ev_slR, ev_slL, ev_add, ev_sub, ev_neg, ev_addT, ev_addL, ev_ord, ev_abs, ev_max2, ev_min2, ev_int, ev_intB, ev_lenT, ev_lenR, ev_lenL, ev_ixT, ev_ixR, ev_ixL, ev_tupT, ev_tupL, ev_revL, ev_ml, ev_ml1, ev_ml2, ev_ml2x, ev_isL, ev_mapp, ev_popC, ev_pop1, ev_pop2, ev_mpop, ev_mext, ev_newK, ev_newN, ev_is, ev_isNot, ev_isnN, ev_isnT, ev_isnI, ev_isnR, ev_nx, ev_seq, ev_asg, ev_asg1, ev_asg1x, ev_kNx, ev_asgT, ev_asgT1, ev_asgT1x, ev_bTup, ev_bName, ev_bCons, ev_bNil, ev_expr, ev_expr1, ev_expr1x, ev_ret, ev_ret1, ev_ret1x, ev_retN, ev_sif, ev_sif1, ev_sif1x, ev_par, ev_par1, ev_par3, ev_par31, ev_setG, ev_setG1, ev_setG2, ev_setG3, ev_setG4, ev_setG1x, ev_break, ev_cont, ev_for, ev_for1, ev_for1x, ev_runB, ev_fiSeq, ev_itT, ev_itR, ev_itL, ev_loopKnx, ev_loopKct, ev_loopKbk, ev_loopKrt, ev_loopKex, ev_loopN, ev_turn, ev_loopC, ev_wh1, ev_g4s, ev_g4n, ev_get2, ev_get21, ev_get22, ev_get23, ev_get1, ev_get11, ev_get12, ev_x3, ev_ixG, ev_ixG1, ev_ixG2, ev_gT, ev_gD, ev_gD1, ev_isGt, ev_gAti, ev_dc, ev_dc1, ev_lc, ev_lc1, ev_wipe0, ev_wipe, ev_empN, ev_empK, ev_chk1, ev_fiRng1, ev_fiRng11, ev_fiRng2, ev_fiRng21, ev_fiRng22, st_len, st_app, st_at0, st_at, st_set0, st_set, st_take, ev_ftidy, ev_fttidy, optR_some, List.set_cons_zero, List.set_cons_succ, List.length_cons, List.length_nil, List.cons_append, List.nil_append, List.map_cons, List.map_nil, List.getElem?_cons_zero, List.getElem?_cons_succ, if_true, if_false, decide_eq_true_eq, Bool.false_eq_true, reduceIte, Option.bind_some, Nat.add_assoc, Nat.reduceAdd, Nat.reduceSub, Nat.reduceLeDiff, Nat.zero_add, List.replicate, sizeLine_eq, List.length_map, Option.map_some, Option.isSome_some, gt_iff_lt, Bool.not_true, Bool.not_false, Nat.reduceLT, nf_non, nf_int, nf_bl, nf_str, nf_tup, nf_ro, nf_nil, nf_cons, nf_T, flats_T, ints_flat, Bool.and_self, Bool.true_and, Bool.and_true, tidy_app, tidyB_app, tidy_appL, dEq_int, List.cons_prefix_cons, List.nil_prefix, true_and, and_true, and_self, tidy_ok, tidy_ok0, tidyB_ok, tidyB_ok0, decide_true, decide_false, not_true_eq_false, not_false_eq_true, and_false, false_and, List.isEmpty_cons, List.isEmpty_nil, ev_fiRng2, rngD_rng, h]) (fun G => rfl) (by rw [rng_len]; omega) (fun z hz => by
      rw [mem_rng] at hz
      refine ⟨_, rfl, fun G => ⟨?_, fun _ => ?_⟩⟩
      · have m0 : ∀ (u v : Int) (S : Sto), 0 ≤ v → v ≤ 16 → dMul (.int u) (.int v) S = .ok (.int (u * v)) S := fun u v S h1 h2 => dMul_r (by omega)
        have m1 := fun u S => m0 u x S (by omega) (by omega)
        have m2 := fun u S => m0 u y S (by omega) (by omega)
        have m3 := fun u S => m0 u z S (by omega) (by omega)
        simp only [ct__law_by_look_1, ev_bindok, ev_bindex, ev_thenok, ev_thenex, ev_seqnx, ev_seqrt, ev_seqbk, ev_seqct, ev_seqex, ev_lstO, ev_onL, ev_lenOl, ev_lenOk, ev_var0, ev_varS, ev_c, ev_bin, ev_bin1, ev_bin1x, ev_bin2, ev_bin2x, ev_un, ev_nil, ev_cons, ev_cons1, ev_cons1x, ev_cons2, ev_cons2x, ev_tup, ev_tup1, ev_tup1x, ev_lst, ev_lst1, ev_lst1x, ev_if, ev_if1, ev_if1x, ev_call, ev_callK, ev_callK1, ev_callK1x, ev_tru, ev_tB, ev_asB, ev_tNot, ev_tNot1, ev_tNot1x, ev_tAnd, ev_tAnd1, ev_tAnd1x, ev_tOr, ev_tOr1, ev_tOr1x, ev_and, ev_and1, ev_and2, ev_or, ev_or1, ev_or2, ev_not, ev_not1, ev_not2, ev_truB, ev_truI, ev_truT, ev_truN, ev_truL, ev_yes, ev_sl, ev_sl1, ev_sl2, ev_sl3, ev_oN, ev_oS, ev_oS1, ev_slT, ev_slR, ev_slL, ev_add, ev_sub, ev_neg, ev_addT, ev_addL, ev_ord, ev_abs, ev_max2, ev_min2, ev_int, ev_intB, ev_lenT, ev_lenR, ev_lenL, ev_ixT, ev_ixR, ev_ixL, ev_tupT, ev_tupL, ev_revL, ev_ml, ev_ml1, ev_ml2, ev_ml2x, ev_isL, ev_mapp, ev_popC, ev_pop1, ev_pop2, ev_mpop, ev_mext, ev_newK, ev_newN, ev_is, ev_isNot, ev_isnN, ev_isnT, ev_isnI, ev_isnR, ev_nx, ev_seq, ev_asg, ev_asg1, ev_asg1x, ev_kNx, ev_asgT, ev_asgT1, ev_asgT1x, ev_bTup, ev_bName, ev_bCons, ev_bNil, ev_expr, ev_expr1, ev_expr1x, ev_ret, ev_ret1, ev_ret1x, ev_retN, ev_sif, ev_sif1, ev_sif1x, ev_par, ev_par1, ev_par3, ev_par31, ev_setG, ev_setG1, ev_setG2, ev_setG3, ev_setG4, ev_setG1x, ev_break, ev_cont, ev_for, ev_for1, ev_for1x, ev_runB, ev_fiSeq, ev_itT, ev_itR, ev_itL, ev_loopKnx, ev_loopKct, ev_loopKbk, ev_loopKrt, ev_loopKex, ev_loopN, ev_turn, ev_loopC, ev_wh1, ev_g4s, ev_g4n, ev_get2, ev_get21, ev_get22, ev_get23, ev_get1, ev_get11, ev_get12, ev_x3, ev_ixG, ev_ixG1, ev_ixG2, ev_gT, ev_gD, ev_gD1, ev_isGt, ev_gAti, ev_dc, ev_dc1, ev_lc, ev_lc1, ev_wipe0, ev_wipe, ev_empN, ev_empK, ev_chk1, ev_fiRng1, ev_fiRng11, ev_fiRng2, ev_fiRng21, ev_fiRng22, st_len, st_app, st_at0, st_at, st_set0, st_set, st_take, ev_ftidy, ev_fttidy, optR_some, List.set_cons_zero, List.set_cons_succ, List.length_cons, List.length_nil, List.cons_append, List.nil_append, List.map_cons, List.map_nil, List.getElem?_cons_zero, List.getElem?_cons_succ, if_true, if_false, decide_eq_true_eq, Bool.false_eq_true, reduceIte, Option.bind_some, Nat.add_assoc, Nat.reduceAdd, Nat.reduceSub, Nat.reduceLeDiff, Nat.zero_add, List.replicate, sizeLine_eq, List.length_map, Option.map_some, Option.isSome_some, gt_iff_lt, Bool.not_true, Bool.not_false, Nat.reduceLT, nf_non, nf_int, nf_bl, nf_str, nf_tup, nf_ro, nf_nil, nf_cons, nf_T, flats_T, ints_flat, Bool.and_self, Bool.true_and, Bool.and_true, tidy_app, tidyB_app, tidy_appL, dEq_int, List.cons_prefix_cons, List.nil_prefix, true_and, and_true, and_self, tidy_ok, tidy_ok0, tidyB_ok, tidyB_ok0, decide_true, decide_false, not_true_eq_false, not_false_eq_true, and_false, false_and, List.isEmpty_cons, List.isEmpty_nil, m1, m2, m3]
        rfl
      · simp only [ce__law_by_look_2, ev_bindok, ev_bindex, ev_thenok, ev_thenex, ev_seqnx, ev_seqrt, ev_seqbk, ev_seqct, ev_seqex, ev_lstO, ev_onL, ev_lenOl, ev_lenOk, ev_var0, ev_varS, ev_c, ev_bin, ev_bin1, ev_bin1x, ev_bin2, ev_bin2x, ev_un, ev_nil, ev_cons, ev_cons1, ev_cons1x, ev_cons2, ev_cons2x, ev_tup, ev_tup1, ev_tup1x, ev_lst, ev_lst1, ev_lst1x, ev_if, ev_if1, ev_if1x, ev_call, ev_callK, ev_callK1, ev_callK1x, ev_tru, ev_tB, ev_asB, ev_tNot, ev_tNot1, ev_tNot1x, ev_tAnd, ev_tAnd1, ev_tAnd1x, ev_tOr, ev_tOr1, ev_tOr1x, ev_and, ev_and1, ev_and2, ev_or, ev_or1, ev_or2, ev_not, ev_not1, ev_not2, ev_truB, ev_truI, ev_truT, ev_truN, ev_truL, ev_yes, ev_sl, ev_sl1, ev_sl2, ev_sl3, ev_oN, ev_oS, ev_oS1, ev_slT, ev_slR, ev_slL, ev_add, ev_sub, ev_neg, ev_addT, ev_addL, ev_ord, ev_abs, ev_max2, ev_min2, ev_int, ev_intB, ev_lenT, ev_lenR, ev_lenL, ev_ixT, ev_ixR, ev_ixL, ev_tupT, ev_tupL, ev_revL, ev_ml, ev_ml1, ev_ml2, ev_ml2x, ev_isL, ev_mapp, ev_popC, ev_pop1, ev_pop2, ev_mpop, ev_mext, ev_newK, ev_newN, ev_is, ev_isNot, ev_isnN, ev_isnT, ev_isnI, ev_isnR, ev_nx, ev_seq, ev_asg, ev_asg1, ev_asg1x, ev_kNx, ev_asgT, ev_asgT1, ev_asgT1x, ev_bTup, ev_bName, ev_bCons, ev_bNil, ev_expr, ev_expr1, ev_expr1x, ev_ret, ev_ret1, ev_ret1x, ev_retN, ev_sif, ev_sif1, ev_sif1x, ev_par, ev_par1, ev_par3, ev_par31, ev_setG, ev_setG1, ev_setG2, ev_setG3, ev_setG4, ev_setG1x, ev_break, ev_cont, ev_for, ev_for1, ev_for1x, ev_runB, ev_fiSeq, ev_itT, ev_itR, ev_itL, ev_loopKnx, ev_loopKct, ev_loopKbk, ev_loopKrt, ev_loopKex, ev_loopN, ev_turn, ev_loopC, ev_wh1, ev_g4s, ev_g4n, ev_get2, ev_get21, ev_get22, ev_get23, ev_get1, ev_get11, ev_get12, ev_x3, ev_ixG, ev_ixG1, ev_ixG2, ev_gT, ev_gD, ev_gD1, ev_isGt, ev_gAti, ev_dc, ev_dc1, ev_lc, ev_lc1, ev_wipe0, ev_wipe, ev_empN, ev_empK, ev_chk1, ev_fiRng1, ev_fiRng11, ev_fiRng2, ev_fiRng21, ev_fiRng22, st_len, st_app, st_at0, st_at, st_set0, st_set, st_take, ev_ftidy, ev_fttidy, optR_some, List.set_cons_zero, List.set_cons_succ, List.length_cons, List.length_nil, List.cons_append, List.nil_append, List.map_cons, List.map_nil, List.getElem?_cons_zero, List.getElem?_cons_succ, if_true, if_false, decide_eq_true_eq, Bool.false_eq_true, reduceIte, Option.bind_some, Nat.add_assoc, Nat.reduceAdd, Nat.reduceSub, Nat.reduceLeDiff, Nat.zero_add, List.replicate, sizeLine_eq, List.length_map, Option.map_some, Option.isSome_some, gt_iff_lt, Bool.not_true, Bool.not_false, Nat.reduceLT, nf_non, nf_int, nf_bl, nf_str, nf_tup, nf_ro, nf_nil, nf_cons, nf_T, flats_T, ints_flat, Bool.and_self, Bool.true_and, Bool.and_true, tidy_app, tidyB_app, tidy_appL, dEq_int, List.cons_prefix_cons, List.nil_prefix, true_and, and_true, and_self, tidy_ok, tidy_ok0, tidyB_ok, tidyB_ok0, decide_true, decide_false, not_true_eq_false, not_false_eq_true, and_false, false_and, List.isEmpty_cons, List.isEmpty_nil]
        rfl)
  rw [show ((rng y (m + 1 - y).toNat).filter (isTr a x y)).map (fun z => dT (x, y, z)) = (row a m x y).map dT by unfold row; rw [List.map_map]; rfl] at c
  have hr := row_len (a := a) (x := x) hm (y := y) (by omega)
  have h3 : F.length + (row a m x y).length ≤ 16777216 := by omega
  refine ⟨G ++ [.lst ((row a m x y).map dT)], ?_⟩
  simp only [ev_bindok, ev_bindex, ev_thenok, ev_thenex, ev_seqnx, ev_seqrt, ev_seqbk, ev_seqct, ev_seqex, ev_lstO, ev_onL, ev_lenOl, ev_lenOk, ev_var0, ev_varS, ev_c, ev_bin, ev_bin1, ev_bin1x, ev_bin2, ev_bin2x, ev_un, ev_nil, ev_cons, ev_cons1, ev_cons1x, ev_cons2, ev_cons2x, ev_tup, ev_tup1, ev_tup1x, ev_lst, ev_lst1, ev_lst1x, ev_if, ev_if1, ev_if1x, ev_call, ev_callK, ev_callK1, ev_callK1x, ev_tru, ev_tB, ev_asB, ev_tNot, ev_tNot1, ev_tNot1x, ev_tAnd, ev_tAnd1, ev_tAnd1x, ev_tOr, ev_tOr1, ev_tOr1x, ev_and, ev_and1, ev_and2, ev_or, ev_or1, ev_or2, ev_not, ev_not1, ev_not2, ev_truB, ev_truI, ev_truT, ev_truN, ev_truL, ev_yes, ev_sl, ev_sl1, ev_sl2, ev_sl3, ev_oN, ev_oS, ev_oS1, ev_slT, ev_slR, ev_slL, ev_add, ev_sub, ev_neg, ev_addT, ev_addL, ev_ord, ev_abs, ev_max2, ev_min2, ev_int, ev_intB, ev_lenT, ev_lenR, ev_lenL, ev_ixT, ev_ixR, ev_ixL, ev_tupT, ev_tupL, ev_revL, ev_ml, ev_ml1, ev_ml2, ev_ml2x, ev_isL, ev_mapp, ev_popC, ev_pop1, ev_pop2, ev_mpop, ev_mext, ev_newK, ev_newN, ev_is, ev_isNot, ev_isnN, ev_isnT, ev_isnI, ev_isnR, ev_nx, ev_seq, ev_asg, ev_asg1, ev_asg1x, ev_kNx, ev_asgT, ev_asgT1, ev_asgT1x, ev_bTup, ev_bName, ev_bCons, ev_bNil, ev_expr, ev_expr1, ev_expr1x, ev_ret, ev_ret1, ev_ret1x, ev_retN, ev_sif, ev_sif1, ev_sif1x, ev_par, ev_par1, ev_par3, ev_par31, ev_setG, ev_setG1, ev_setG2, ev_setG3, ev_setG4, ev_setG1x, ev_break, ev_cont, ev_for, ev_for1, ev_for1x, ev_runB, ev_fiSeq, ev_itT, ev_itR, ev_itL, ev_loopKnx, ev_loopKct, ev_loopKbk, ev_loopKrt, ev_loopKex, ev_loopN, ev_turn, ev_loopC, ev_wh1, ev_g4s, ev_g4n, ev_get2, ev_get21, ev_get22, ev_get23, ev_get1, ev_get11, ev_get12, ev_x3, ev_ixG, ev_ixG1, ev_ixG2, ev_gT, ev_gD, ev_gD1, ev_isGt, ev_gAti, ev_dc, ev_dc1, ev_lc, ev_lc1, ev_wipe0, ev_wipe, ev_empN, ev_empK, ev_chk1, ev_fiRng1, ev_fiRng11, ev_fiRng2, ev_fiRng21, ev_fiRng22, st_len, st_app, st_at0, st_at, st_set0, st_set, st_take, ev_ftidy, ev_fttidy, optR_some, List.set_cons_zero, List.set_cons_succ, List.length_cons, List.length_nil, List.cons_append, List.nil_append, List.map_cons, List.map_nil, List.getElem?_cons_zero, List.getElem?_cons_succ, if_true, if_false, decide_eq_true_eq, Bool.false_eq_true, reduceIte, Option.bind_some, Nat.add_assoc, Nat.reduceAdd, Nat.reduceSub, Nat.reduceLeDiff, Nat.zero_add, List.replicate, sizeLine_eq, List.length_map, Option.map_some, Option.isSome_some, gt_iff_lt, Bool.not_true, Bool.not_false, Nat.reduceLT, nf_non, nf_int, nf_bl, nf_str, nf_tup, nf_ro, nf_nil, nf_cons, nf_T, flats_T, ints_flat, Bool.and_self, Bool.true_and, Bool.and_true, tidy_app, tidyB_app, tidy_appL, dEq_int, List.cons_prefix_cons, List.nil_prefix, true_and, and_true, and_self, tidy_ok, tidy_ok0, tidyB_ok, tidyB_ok0, decide_true, decide_false, not_true_eq_false, not_false_eq_true, and_false, false_and, List.isEmpty_cons, List.isEmpty_nil, List.length_append] at c
  simp only [lb__law_by_look_4, lc__law_by_look_3, ev_bindok, ev_bindex, ev_thenok, ev_thenex, ev_seqnx, ev_seqrt, ev_seqbk, ev_seqct, ev_seqex, ev_lstO, ev_onL, ev_lenOl, ev_lenOk, ev_var0, ev_varS, ev_c, ev_bin, ev_bin1, ev_bin1x, ev_bin2, ev_bin2x, ev_un, ev_nil, ev_cons, ev_cons1, ev_cons1x, ev_cons2, ev_cons2x, ev_tup, ev_tup1, ev_tup1x, ev_lst, ev_lst1, ev_lst1x, ev_if, ev_if1, ev_if1x, ev_call, ev_callK, ev_callK1, ev_callK1x, ev_tru, ev_tB, ev_asB, ev_tNot, ev_tNot1, ev_tNot1x, ev_tAnd, ev_tAnd1, ev_tAnd1x, ev_tOr, ev_tOr1, ev_tOr1x, ev_and, ev_and1, ev_and2, ev_or, ev_or1, ev_or2, ev_not, ev_not1, ev_not2, ev_truB, ev_truI, ev_truT, ev_truN, ev_truL, ev_yes, ev_sl, ev_sl1, ev_sl2, ev_sl3, ev_oN, ev_oS, ev_oS1, ev_slT, ev_slR, ev_slL, ev_add, ev_sub, ev_neg, ev_addT, ev_addL, ev_ord, ev_abs, ev_max2, ev_min2, ev_int, ev_intB, ev_lenT, ev_lenR, ev_lenL, ev_ixT, ev_ixR, ev_ixL, ev_tupT, ev_tupL, ev_revL, ev_ml, ev_ml1, ev_ml2, ev_ml2x, ev_isL, ev_mapp, ev_popC, ev_pop1, ev_pop2, ev_mpop, ev_mext, ev_newK, ev_newN, ev_is, ev_isNot, ev_isnN, ev_isnT, ev_isnI, ev_isnR, ev_nx, ev_seq, ev_asg, ev_asg1, ev_asg1x, ev_kNx, ev_asgT, ev_asgT1, ev_asgT1x, ev_bTup, ev_bName, ev_bCons, ev_bNil, ev_expr, ev_expr1, ev_expr1x, ev_ret, ev_ret1, ev_ret1x, ev_retN, ev_sif, ev_sif1, ev_sif1x, ev_par, ev_par1, ev_par3, ev_par31, ev_setG, ev_setG1, ev_setG2, ev_setG3, ev_setG4, ev_setG1x, ev_break, ev_cont, ev_for, ev_for1, ev_for1x, ev_runB, ev_fiSeq, ev_itT, ev_itR, ev_itL, ev_loopKnx, ev_loopKct, ev_loopKbk, ev_loopKrt, ev_loopKex, ev_loopN, ev_turn, ev_loopC, ev_wh1, ev_g4s, ev_g4n, ev_get2, ev_get21, ev_get22, ev_get23, ev_get1, ev_get11, ev_get12, ev_x3, ev_ixG, ev_ixG1, ev_ixG2, ev_gT, ev_gD, ev_gD1, ev_isGt, ev_gAti, ev_dc, ev_dc1, ev_lc, ev_lc1, ev_wipe0, ev_wipe, ev_empN, ev_empK, ev_chk1, ev_fiRng1, ev_fiRng11, ev_fiRng2, ev_fiRng21, ev_fiRng22, st_len, st_app, st_at0, st_at, st_set0, st_set, st_take, ev_ftidy, ev_fttidy, optR_some, List.set_cons_zero, List.set_cons_succ, List.length_cons, List.length_nil, List.cons_append, List.nil_append, List.map_cons, List.map_nil, List.getElem?_cons_zero, List.getElem?_cons_succ, if_true, if_false, decide_eq_true_eq, Bool.false_eq_true, reduceIte, Option.bind_some, Nat.add_assoc, Nat.reduceAdd, Nat.reduceSub, Nat.reduceLeDiff, Nat.zero_add, List.replicate, sizeLine_eq, List.length_map, Option.map_some, Option.isSome_some, gt_iff_lt, Bool.not_true, Bool.not_false, Nat.reduceLT, nf_non, nf_int, nf_bl, nf_str, nf_tup, nf_ro, nf_nil, nf_cons, nf_T, flats_T, ints_flat, Bool.and_self, Bool.true_and, Bool.and_true, tidy_app, tidyB_app, tidy_appL, dEq_int, List.cons_prefix_cons, List.nil_prefix, true_and, and_true, and_self, tidy_ok, tidy_ok0, tidyB_ok, tidyB_ok0, decide_true, decide_false, not_true_eq_false, not_false_eq_true, and_false, false_and, List.isEmpty_cons, List.isEmpty_nil, c, h3, List.map_append]
theorem flat_len {α : Type} (f : α → List Tri) (k : Nat) : ∀ ys : List α, (∀ y ∈ ys, (f y).length ≤ k) → (ys.flatMap f).length ≤ k * ys.length
  | [], _ => by simp
  | y :: ys, h => by
    have h1 := h y List.mem_cons_self
    have h2 := flat_len f k ys fun z hz => h z (List.mem_cons_of_mem _ hz)
    rw [List.flatMap_cons, List.length_append, List.length_cons, Nat.mul_succ]; omega
theorem loop_y {a m x : Int} {S : Sto} {x5 : Option D} (ha : 1 ≤ a ∧ a ≤ 50) (hm : m ≤ 16) (hx : 1 ≤ x) : ∀ (ys : List Int) (F : List Tri) (G : Sto) (x4 : Option D), (∀ y ∈ ys, x ≤ y ∧ y ≤ m) → F.length + 16 * ys.length < 10000 →
   ∃ G' x4', loopF [] (bName 4) lb__law_by_look_4 (ys.map .int) [some (.int a), some (.int m), some (.ref S.length), some (.int x), x4, x5] (S ++ (.lst (F.map dT) :: G)) = .nx [some (.int a), some (.int m), some (.ref S.length), some (.int x), x4', x5] (S ++ (.lst ((F ++ ys.flatMap (row a m x)).map dT) :: G'))
  | [], F, G, x4, _, _ => ⟨G, x4, by simp only [List.map_nil, ev_bindok, ev_bindex, ev_thenok, ev_thenex, ev_seqnx, ev_seqrt, ev_seqbk, ev_seqct, ev_seqex, ev_lstO, ev_onL, ev_lenOl, ev_lenOk, ev_var0, ev_varS, ev_c, ev_bin, ev_bin1, ev_bin1x, ev_bin2, ev_bin2x, ev_un, ev_nil, ev_cons, ev_cons1, ev_cons1x, ev_cons2, ev_cons2x, ev_tup, ev_tup1, ev_tup1x, ev_lst, ev_lst1, ev_lst1x, ev_if, ev_if1, ev_if1x, ev_call, ev_callK, ev_callK1, ev_callK1x, ev_tru, ev_tB, ev_asB, ev_tNot, ev_tNot1, ev_tNot1x, ev_tAnd, ev_tAnd1, ev_tAnd1x, ev_tOr, ev_tOr1, ev_tOr1x, ev_and, ev_and1, ev_and2, ev_or, ev_or1, ev_or2, ev_not, ev_not1, ev_not2, ev_truB, ev_truI, ev_truT, ev_truN, ev_truL, ev_yes, ev_sl, ev_sl1, ev_sl2, ev_sl3, ev_oN, ev_oS, ev_oS1, ev_slT, ev_slR, ev_slL, ev_add, ev_sub, ev_neg, ev_addT, ev_addL, ev_ord, ev_abs, ev_max2, ev_min2, ev_int, ev_intB, ev_lenT, ev_lenR, ev_lenL, ev_ixT, ev_ixR, ev_ixL, ev_tupT, ev_tupL, ev_revL, ev_ml, ev_ml1, ev_ml2, ev_ml2x, ev_isL, ev_mapp, ev_popC, ev_pop1, ev_pop2, ev_mpop, ev_mext, ev_newK, ev_newN, ev_is, ev_isNot, ev_isnN, ev_isnT, ev_isnI, ev_isnR, ev_nx, ev_seq, ev_asg, ev_asg1, ev_asg1x, ev_kNx, ev_asgT, ev_asgT1, ev_asgT1x, ev_bTup, ev_bName, ev_bCons, ev_bNil, ev_expr, ev_expr1, ev_expr1x, ev_ret, ev_ret1, ev_ret1x, ev_retN, ev_sif, ev_sif1, ev_sif1x, ev_par, ev_par1, ev_par3, ev_par31, ev_setG, ev_setG1, ev_setG2, ev_setG3, ev_setG4, ev_setG1x, ev_break, ev_cont, ev_for, ev_for1, ev_for1x, ev_runB, ev_fiSeq, ev_itT, ev_itR, ev_itL, ev_loopKnx, ev_loopKct, ev_loopKbk, ev_loopKrt, ev_loopKex, ev_loopN, ev_turn, ev_loopC, ev_wh1, ev_g4s, ev_g4n, ev_get2, ev_get21, ev_get22, ev_get23, ev_get1, ev_get11, ev_get12, ev_x3, ev_ixG, ev_ixG1, ev_ixG2, ev_gT, ev_gD, ev_gD1, ev_isGt, ev_gAti, ev_dc, ev_dc1, ev_lc, ev_lc1, ev_wipe0, ev_wipe, ev_empN, ev_empK, ev_chk1, ev_fiRng1, ev_fiRng11, ev_fiRng2, ev_fiRng21, ev_fiRng22, st_len, st_app, st_at0, st_at, st_set0, st_set, st_take, ev_ftidy, ev_fttidy, optR_some, List.set_cons_zero, List.set_cons_succ, List.length_cons, List.length_nil, List.cons_append, List.nil_append, List.map_cons, List.map_nil, List.getElem?_cons_zero, List.getElem?_cons_succ, if_true, if_false, decide_eq_true_eq, Bool.false_eq_true, reduceIte, Option.bind_some, Nat.add_assoc, Nat.reduceAdd, Nat.reduceSub, Nat.reduceLeDiff, Nat.zero_add, List.replicate, sizeLine_eq, List.length_map, Option.map_some, Option.isSome_some, gt_iff_lt, Bool.not_true, Bool.not_false, Nat.reduceLT, nf_non, nf_int, nf_bl, nf_str, nf_tup, nf_ro, nf_nil, nf_cons, nf_T, flats_T, ints_flat, Bool.and_self, Bool.true_and, Bool.and_true, tidy_app, tidyB_app, tidy_appL, dEq_int, List.cons_prefix_cons, List.nil_prefix, true_and, and_true, and_self, tidy_ok, tidy_ok0, tidyB_ok, tidyB_ok0, decide_true, decide_false, not_true_eq_false, not_false_eq_true, and_false, false_and, List.isEmpty_cons, List.isEmpty_nil, List.flatMap_nil, List.append_nil]⟩
  | y :: ys, F, G, x4, h, hl => by
    have hy := h y List.mem_cons_self
    rw [List.length_cons] at hl
    have hr := row_len (a := a) (x := x) hm (y := y) (by omega)
    obtain ⟨G1, q⟩ := turn_l (S := S) (F := F) (G := G) (x5 := x5) ha hm hx hy.1 hy.2 (by omega)
    obtain ⟨G2, x4', r⟩ := loop_y ha hm hx ys (F ++ row a m x y) G1 (some (.int y)) (fun z hz => h z (List.mem_cons_of_mem _ hz)) (by rw [List.length_append]; omega)
    refine ⟨G2, x4', ?_⟩
    rw [List.flatMap_cons, ← List.append_assoc]
    simp only [ev_bindok, ev_bindex, ev_thenok, ev_thenex, ev_seqnx, ev_seqrt, ev_seqbk, ev_seqct, ev_seqex, ev_lstO, ev_onL, ev_lenOl, ev_lenOk, ev_var0, ev_varS, ev_c, ev_bin, ev_bin1, ev_bin1x, ev_bin2, ev_bin2x, ev_un, ev_nil, ev_cons, ev_cons1, ev_cons1x, ev_cons2, ev_cons2x, ev_tup, ev_tup1, ev_tup1x, ev_lst, ev_lst1, ev_lst1x, ev_if, ev_if1, ev_if1x, ev_call, ev_callK, ev_callK1, ev_callK1x, ev_tru, ev_tB, ev_asB, ev_tNot, ev_tNot1, ev_tNot1x, ev_tAnd, ev_tAnd1, ev_tAnd1x, ev_tOr, ev_tOr1, ev_tOr1x, ev_and, ev_and1, ev_and2, ev_or, ev_or1, ev_or2, ev_not, ev_not1, ev_not2, ev_truB, ev_truI, ev_truT, ev_truN, ev_truL, ev_yes, ev_sl, ev_sl1, ev_sl2, ev_sl3, ev_oN, ev_oS, ev_oS1, ev_slT, ev_slR, ev_slL, ev_add, ev_sub, ev_neg, ev_addT, ev_addL, ev_ord, ev_abs, ev_max2, ev_min2, ev_int, ev_intB, ev_lenT, ev_lenR, ev_lenL, ev_ixT, ev_ixR, ev_ixL, ev_tupT, ev_tupL, ev_revL, ev_ml, ev_ml1, ev_ml2, ev_ml2x, ev_isL, ev_mapp, ev_popC, ev_pop1, ev_pop2, ev_mpop, ev_mext, ev_newK, ev_newN, ev_is, ev_isNot, ev_isnN, ev_isnT, ev_isnI, ev_isnR, ev_nx, ev_seq, ev_asg, ev_asg1, ev_asg1x, ev_kNx, ev_asgT, ev_asgT1, ev_asgT1x, ev_bTup, ev_bName, ev_bCons, ev_bNil, ev_expr, ev_expr1, ev_expr1x, ev_ret, ev_ret1, ev_ret1x, ev_retN, ev_sif, ev_sif1, ev_sif1x, ev_par, ev_par1, ev_par3, ev_par31, ev_setG, ev_setG1, ev_setG2, ev_setG3, ev_setG4, ev_setG1x, ev_break, ev_cont, ev_for, ev_for1, ev_for1x, ev_runB, ev_fiSeq, ev_itT, ev_itR, ev_itL, ev_loopKnx, ev_loopKct, ev_loopKbk, ev_loopKrt, ev_loopKex, ev_loopN, ev_turn, ev_loopC, ev_wh1, ev_g4s, ev_g4n, ev_get2, ev_get21, ev_get22, ev_get23, ev_get1, ev_get11, ev_get12, ev_x3, ev_ixG, ev_ixG1, ev_ixG2, ev_gT, ev_gD, ev_gD1, ev_isGt, ev_gAti, ev_dc, ev_dc1, ev_lc, ev_lc1, ev_wipe0, ev_wipe, ev_empN, ev_empK, ev_chk1, ev_fiRng1, ev_fiRng11, ev_fiRng2, ev_fiRng21, ev_fiRng22, st_len, st_app, st_at0, st_at, st_set0, st_set, st_take, ev_ftidy, ev_fttidy, optR_some, List.set_cons_zero, List.set_cons_succ, List.length_cons, List.length_nil, List.cons_append, List.nil_append, List.map_cons, List.map_nil, List.getElem?_cons_zero, List.getElem?_cons_succ, if_true, if_false, decide_eq_true_eq, Bool.false_eq_true, reduceIte, Option.bind_some, Nat.add_assoc, Nat.reduceAdd, Nat.reduceSub, Nat.reduceLeDiff, Nat.zero_add, List.replicate, sizeLine_eq, List.length_map, Option.map_some, Option.isSome_some, gt_iff_lt, Bool.not_true, Bool.not_false, Nat.reduceLT, nf_non, nf_int, nf_bl, nf_str, nf_tup, nf_ro, nf_nil, nf_cons, nf_T, flats_T, ints_flat, Bool.and_self, Bool.true_and, Bool.and_true, tidy_app, tidyB_app, tidy_appL, dEq_int, List.cons_prefix_cons, List.nil_prefix, true_and, and_true, and_self, tidy_ok, tidy_ok0, tidyB_ok, tidyB_ok0, decide_true, decide_false, not_true_eq_false, not_false_eq_true, and_false, false_and, List.isEmpty_cons, List.isEmpty_nil, q]
    exact r
def plane (a m x : Int) : List Tri := (rng x (m + 1 - x).toNat).flatMap (row a m x)
theorem plane_len {a m x : Int} (h : m ≤ 16) (hx : 1 ≤ x) : (plane a m x).length ≤ 256 := by
  have := flat_len (row a m x) 16 (rng x (m + 1 - x).toNat) fun y hy => row_len h (by rw [mem_rng] at hy; omega)
  rw [rng_len] at this
  unfold plane
  omega
theorem loop_x {a m : Int} {S : Sto} {x5 : Option D} (ha : 1 ≤ a ∧ a ≤ 50) (hm : m ≤ 16) : ∀ (xs : List Int) (F : List Tri) (G : Sto) (x3 x4 : Option D), (∀ x ∈ xs, 1 ≤ x ∧ x ≤ m) → F.length + 256 * xs.length < 6000 →
   ∃ G' x3' x4', loopF [] (bName 3) lb__law_by_look_6 (xs.map .int) [some (.int a), some (.int m), some (.ref S.length), x3, x4, x5] (S ++ (.lst (F.map dT) :: G)) = .nx [some (.int a), some (.int m), some (.ref S.length), x3', x4', x5] (S ++ (.lst ((F ++ xs.flatMap (plane a m)).map dT) :: G'))
  | [], F, G, x3, x4, _, _ => ⟨G, x3, x4, by simp only [List.map_nil, ev_bindok, ev_bindex, ev_thenok, ev_thenex, ev_seqnx, ev_seqrt, ev_seqbk, ev_seqct, ev_seqex, ev_lstO, ev_onL, ev_lenOl, ev_lenOk, ev_var0, ev_varS, ev_c, ev_bin, ev_bin1, ev_bin1x, ev_bin2, ev_bin2x, ev_un, ev_nil, ev_cons, ev_cons1, ev_cons1x, ev_cons2, ev_cons2x, ev_tup, ev_tup1, ev_tup1x, ev_lst, ev_lst1, ev_lst1x, ev_if, ev_if1, ev_if1x, ev_call, ev_callK, ev_callK1, ev_callK1x, ev_tru, ev_tB, ev_asB, ev_tNot, ev_tNot1, ev_tNot1x, ev_tAnd, ev_tAnd1, ev_tAnd1x, ev_tOr, ev_tOr1, ev_tOr1x, ev_and, ev_and1, ev_and2, ev_or, ev_or1, ev_or2, ev_not, ev_not1, ev_not2, ev_truB, ev_truI, ev_truT, ev_truN, ev_truL, ev_yes, ev_sl, ev_sl1, ev_sl2, ev_sl3, ev_oN, ev_oS, ev_oS1, ev_slT, ev_slR, ev_slL, ev_add, ev_sub, ev_neg, ev_addT, ev_addL, ev_ord, ev_abs, ev_max2, ev_min2, ev_int, ev_intB, ev_lenT, ev_lenR, ev_lenL, ev_ixT, ev_ixR, ev_ixL, ev_tupT, ev_tupL, ev_revL, ev_ml, ev_ml1, ev_ml2, ev_ml2x, ev_isL, ev_mapp, ev_popC, ev_pop1, ev_pop2, ev_mpop, ev_mext, ev_newK, ev_newN, ev_is, ev_isNot, ev_isnN, ev_isnT, ev_isnI, ev_isnR, ev_nx, ev_seq, ev_asg, ev_asg1, ev_asg1x, ev_kNx, ev_asgT, ev_asgT1, ev_asgT1x, ev_bTup, ev_bName, ev_bCons, ev_bNil, ev_expr, ev_expr1, ev_expr1x, ev_ret, ev_ret1, ev_ret1x, ev_retN, ev_sif, ev_sif1, ev_sif1x, ev_par, ev_par1, ev_par3, ev_par31, ev_setG, ev_setG1, ev_setG2, ev_setG3, ev_setG4, ev_setG1x, ev_break, ev_cont, ev_for, ev_for1, ev_for1x, ev_runB, ev_fiSeq, ev_itT, ev_itR, ev_itL, ev_loopKnx, ev_loopKct, ev_loopKbk, ev_loopKrt, ev_loopKex, ev_loopN, ev_turn, ev_loopC, ev_wh1, ev_g4s, ev_g4n, ev_get2, ev_get21, ev_get22, ev_get23, ev_get1, ev_get11, ev_get12, ev_x3, ev_ixG, ev_ixG1, ev_ixG2, ev_gT, ev_gD, ev_gD1, ev_isGt, ev_gAti, ev_dc, ev_dc1, ev_lc, ev_lc1, ev_wipe0, ev_wipe, ev_empN, ev_empK, ev_chk1, ev_fiRng1, ev_fiRng11, ev_fiRng2, ev_fiRng21, ev_fiRng22, st_len, st_app, st_at0, st_at, st_set0, st_set, st_take, ev_ftidy, ev_fttidy, optR_some, List.set_cons_zero, List.set_cons_succ, List.length_cons, List.length_nil, List.cons_append, List.nil_append, List.map_cons, List.map_nil, List.getElem?_cons_zero, List.getElem?_cons_succ, if_true, if_false, decide_eq_true_eq, Bool.false_eq_true, reduceIte, Option.bind_some, Nat.add_assoc, Nat.reduceAdd, Nat.reduceSub, Nat.reduceLeDiff, Nat.zero_add, List.replicate, sizeLine_eq, List.length_map, Option.map_some, Option.isSome_some, gt_iff_lt, Bool.not_true, Bool.not_false, Nat.reduceLT, nf_non, nf_int, nf_bl, nf_str, nf_tup, nf_ro, nf_nil, nf_cons, nf_T, flats_T, ints_flat, Bool.and_self, Bool.true_and, Bool.and_true, tidy_app, tidyB_app, tidy_appL, dEq_int, List.cons_prefix_cons, List.nil_prefix, true_and, and_true, and_self, tidy_ok, tidy_ok0, tidyB_ok, tidyB_ok0, decide_true, decide_false, not_true_eq_false, not_false_eq_true, and_false, false_and, List.isEmpty_cons, List.isEmpty_nil, List.flatMap_nil, List.append_nil]⟩
  | x :: xs, F, G, x3, x4, h, hl => by
    have hx := h x List.mem_cons_self
    rw [List.length_cons] at hl
    have hr := plane_len (a := a) (x := x) hm (by omega)
    obtain ⟨G1, y4, q⟩ := loop_y (S := S) (x5 := x5) ha hm hx.1 (rng x (m + 1 - x).toNat) F G x4 (fun y hy => by rw [mem_rng] at hy; omega) (by rw [rng_len]; omega)
    obtain ⟨G2, x3', x4', r⟩ := loop_x ha hm xs (F ++ plane a m x) G1 (some (.int x)) y4 (fun z hz => h z (List.mem_cons_of_mem _ hz)) (by rw [List.length_append]; omega)
    refine ⟨G2, x3', x4', ?_⟩
    rw [List.flatMap_cons, ← List.append_assoc]
    have hb : -(2 ^ 62) ≤ x ∧ x < 2 ^ 62 ∧ -(2 ^ 62) ≤ m + 1 ∧ m + 1 < 2 ^ 62 := by omega
    have hi : fiRng2 (fVar 3) (fBin dAdd (fVar 1) (fC (.int 1))) [some (.int a), some (.int m), some (.ref S.length), some (.int x), x4, x5] (S ++ (.lst (F.map dT) :: G)) = .ok ((rng x (m + 1 - x).toNat).map .int, []) (S ++ (.lst (F.map dT) :: G)) := by
      rw [← rngD_rng]
      simp only [ev_bindok, ev_bindex, ev_thenok, ev_thenex, ev_seqnx, ev_seqrt, ev_seqbk, ev_seqct, ev_seqex, ev_lstO, ev_onL, ev_lenOl, ev_lenOk, ev_var0, ev_varS, ev_c, ev_bin, ev_bin1, ev_bin1x, ev_bin2, ev_bin2x, ev_un, ev_nil, ev_cons, ev_cons1, ev_cons1x, ev_cons2, ev_cons2x, ev_tup, ev_tup1, ev_tup1x, ev_lst, ev_lst1, ev_lst1x, ev_if, ev_if1, ev_if1x, ev_call, ev_callK, ev_callK1, ev_callK1x, ev_tru, ev_tB, ev_asB, ev_tNot, ev_tNot1, ev_tNot1x, ev_tAnd, ev_tAnd1, ev_tAnd1x, ev_tOr, ev_tOr1, ev_tOr1x, ev_and, ev_and1, ev_and2, ev_or, ev_or1, ev_or2, ev_not, ev_not1, ev_not2, ev_truB, ev_truI, ev_truT, ev_truN, ev_truL, ev_yes, ev_sl, ev_sl1, ev_sl2, ev_sl3, ev_oN, ev_oS, ev_oS1, ev_slT, ev_slR, ev_slL, ev_add, ev_sub, ev_neg, ev_addT, ev_addL, ev_ord, ev_abs, ev_max2, ev_min2, ev_int, ev_intB, ev_lenT, ev_lenR, ev_lenL, ev_ixT, ev_ixR, ev_ixL, ev_tupT, ev_tupL, ev_revL, ev_ml, ev_ml1, ev_ml2, ev_ml2x, ev_isL, ev_mapp, ev_popC, ev_pop1, ev_pop2, ev_mpop, ev_mext, ev_newK, ev_newN, ev_is, ev_isNot, ev_isnN, ev_isnT, ev_isnI, ev_isnR, ev_nx, ev_seq, ev_asg, ev_asg1, ev_asg1x, ev_kNx, ev_asgT, ev_asgT1, ev_asgT1x, ev_bTup, ev_bName, ev_bCons, ev_bNil, ev_expr, ev_expr1, ev_expr1x, ev_ret, ev_ret1, ev_ret1x, ev_retN, ev_sif, ev_sif1, ev_sif1x, ev_par, ev_par1, ev_par3, ev_par31, ev_setG, ev_setG1, ev_setG2, ev_setG3, ev_setG4, ev_setG1x, ev_break, ev_cont, ev_for, ev_for1, ev_for1x, ev_runB, ev_fiSeq, ev_itT, ev_itR, ev_itL, ev_loopKnx, ev_loopKct, ev_loopKbk, ev_loopKrt, ev_loopKex, ev_loopN, ev_turn, ev_loopC, ev_wh1, ev_g4s, ev_g4n, ev_get2, ev_get21, ev_get22, ev_get23, ev_get1, ev_get11, ev_get12, ev_x3, ev_ixG, ev_ixG1, ev_ixG2, ev_gT, ev_gD, ev_gD1, ev_isGt, ev_gAti, ev_dc, ev_dc1, ev_lc, ev_lc1, ev_wipe0, ev_wipe, ev_empN, ev_empK, ev_chk1, ev_fiRng1, ev_fiRng11, ev_fiRng2, ev_fiRng21, ev_fiRng22, st_len, st_app, st_at0, st_at, st_set0, st_set, st_take, ev_ftidy, ev_fttidy, optR_some, List.set_cons_zero, List.set_cons_succ, List.length_cons, List.length_nil, List.cons_append, List.nil_append, List.map_cons, List.map_nil, List.getElem?_cons_zero, List.getElem?_cons_succ, if_true, if_false, decide_eq_true_eq, Bool.false_eq_true, reduceIte, Option.bind_some, Nat.add_assoc, Nat.reduceAdd, Nat.reduceSub, Nat.reduceLeDiff, Nat.zero_add, List.replicate, sizeLine_eq, List.length_map, Option.map_some, Option.isSome_some, gt_iff_lt, Bool.not_true, Bool.not_false, Nat.reduceLT, nf_non, nf_int, nf_bl, nf_str, nf_tup, nf_ro, nf_nil, nf_cons, nf_T, flats_T, ints_flat, Bool.and_self, Bool.true_and, Bool.and_true, tidy_app, tidyB_app, tidy_appL, dEq_int, List.cons_prefix_cons, List.nil_prefix, true_and, and_true, and_self, tidy_ok, tidy_ok0, tidyB_ok, tidyB_ok0, decide_true, decide_false, not_true_eq_false, not_false_eq_true, and_false, false_and, List.isEmpty_cons, List.isEmpty_nil]
      rw [if_pos hb]
    have e6 : lb__law_by_look_6 [some (.int a), some (.int m), some (.ref S.length), some (.int x), x4, x5] (S ++ (.lst (F.map dT) :: G)) = .nx [some (.int a), some (.int m), some (.ref S.length), some (.int x), y4, x5] (S ++ (.lst ((F ++ plane a m x).map dT) :: G1)) := by
      rw [lb__law_by_look_6, lp__law_by_look_5, ev_for, hi, ev_for1]
      exact q
    rw [List.map_cons, ev_loopC, ev_bName, ev_turn]
    simp only [List.set_cons_zero, List.set_cons_succ, e6, ev_loopKnx]
    exact r
/-- _LAW_BY_LOOK -/
theorem by_look_ok {a m : Int} (ha : 1 ≤ a ∧ a ≤ 50) (hm : 1 ≤ m ∧ m ≤ 16) (S : Sto) : F__law_by_look [.int a, .int m] S = .ok (.ref S.length) (S ++ [.lst ((TT a m).map dT)]) := by
  obtain ⟨G, x3, x4, q⟩ := loop_x (S := S) (x5 := none) ha hm.2 (rng 1 m.toNat) [] [] none none (fun x hx => by rw [mem_rng] at hx; omega) (by rw [rng_len]; simp; omega)
  have e : (rng 1 m.toNat).flatMap (plane a m) = TT a m := by
    have := look_ok (a.toNat - 1) (by omega) (m.toNat - 1) (by omega)
    rw [show ((a.toNat - 1 + 1 : Nat) : Int) = a by omega, show ((m.toNat - 1 + 1 : Nat) : Int) = m by omega] at this
    exact this
  rw [List.nil_append, e] at q
  have hb : -(2 ^ 62) ≤ (1 : Int) ∧ (1 : Int) < 2 ^ 62 ∧ -(2 ^ 62) ≤ m + 1 ∧ m + 1 < 2 ^ 62 := by omega
  have hi : fiRng2 (fC (.int 1)) (fBin dAdd (fVar 1) (fC (.int 1))) [some (.int a), some (.int m), some (.ref S.length), none, none, none] (S ++ [.lst []]) = .ok ((rng 1 m.toNat).map .int, []) (S ++ [.lst []]) := by
    rw [← rngD_rng, show m.toNat = (m + 1 - 1).toNat by omega]
    simp only [ev_bindok, ev_bindex, ev_thenok, ev_thenex, ev_seqnx, ev_seqrt, ev_seqbk, ev_seqct, ev_seqex, ev_lstO, ev_onL, ev_lenOl, ev_lenOk, ev_var0, ev_varS, ev_c, ev_bin, ev_bin1, ev_bin1x, ev_bin2, ev_bin2x, ev_un, ev_nil, ev_cons, ev_cons1, ev_cons1x, ev_cons2, ev_cons2x, ev_tup, ev_tup1, ev_tup1x, ev_lst, ev_lst1, ev_lst1x, ev_if, ev_if1, ev_if1x, ev_call, ev_callK, ev_callK1, ev_callK1x, ev_tru, ev_tB, ev_asB, ev_tNot, ev_tNot1, ev_tNot1x, ev_tAnd, ev_tAnd1, ev_tAnd1x, ev_tOr, ev_tOr1, ev_tOr1x, ev_and, ev_and1, ev_and2, ev_or, ev_or1, ev_or2, ev_not, ev_not1, ev_not2, ev_truB, ev_truI, ev_truT, ev_truN, ev_truL, ev_yes, ev_sl, ev_sl1, ev_sl2, ev_sl3, ev_oN, ev_oS, ev_oS1, ev_slT, ev_slR, ev_slL, ev_add, ev_sub, ev_neg, ev_addT, ev_addL, ev_ord, ev_abs, ev_max2, ev_min2, ev_int, ev_intB, ev_lenT, ev_lenR, ev_lenL, ev_ixT, ev_ixR, ev_ixL, ev_tupT, ev_tupL, ev_revL, ev_ml, ev_ml1, ev_ml2, ev_ml2x, ev_isL, ev_mapp, ev_popC, ev_pop1, ev_pop2, ev_mpop, ev_mext, ev_newK, ev_newN, ev_is, ev_isNot, ev_isnN, ev_isnT, ev_isnI, ev_isnR, ev_nx, ev_seq, ev_asg, ev_asg1, ev_asg1x, ev_kNx, ev_asgT, ev_asgT1, ev_asgT1x, ev_bTup, ev_bName, ev_bCons, ev_bNil, ev_expr, ev_expr1, ev_expr1x, ev_ret, ev_ret1, ev_ret1x, ev_retN, ev_sif, ev_sif1, ev_sif1x, ev_par, ev_par1, ev_par3, ev_par31, ev_setG, ev_setG1, ev_setG2, ev_setG3, ev_setG4, ev_setG1x, ev_break, ev_cont, ev_for, ev_for1, ev_for1x, ev_runB, ev_fiSeq, ev_itT, ev_itR, ev_itL, ev_loopKnx, ev_loopKct, ev_loopKbk, ev_loopKrt, ev_loopKex, ev_loopN, ev_turn, ev_loopC, ev_wh1, ev_g4s, ev_g4n, ev_get2, ev_get21, ev_get22, ev_get23, ev_get1, ev_get11, ev_get12, ev_x3, ev_ixG, ev_ixG1, ev_ixG2, ev_gT, ev_gD, ev_gD1, ev_isGt, ev_gAti, ev_dc, ev_dc1, ev_lc, ev_lc1, ev_wipe0, ev_wipe, ev_empN, ev_empK, ev_chk1, ev_fiRng1, ev_fiRng11, ev_fiRng2, ev_fiRng21, ev_fiRng22, st_len, st_app, st_at0, st_at, st_set0, st_set, st_take, ev_ftidy, ev_fttidy, optR_some, List.set_cons_zero, List.set_cons_succ, List.length_cons, List.length_nil, List.cons_append, List.nil_append, List.map_cons, List.map_nil, List.getElem?_cons_zero, List.getElem?_cons_succ, if_true, if_false, decide_eq_true_eq, Bool.false_eq_true, reduceIte, Option.bind_some, Nat.add_assoc, Nat.reduceAdd, Nat.reduceSub, Nat.reduceLeDiff, Nat.zero_add, List.replicate, sizeLine_eq, List.length_map, Option.map_some, Option.isSome_some, gt_iff_lt, Bool.not_true, Bool.not_false, Nat.reduceLT, nf_non, nf_int, nf_bl, nf_str, nf_tup, nf_ro, nf_nil, nf_cons, nf_T, flats_T, ints_flat, Bool.and_self, Bool.true_and, Bool.and_true, tidy_app, tidyB_app, tidy_appL, dEq_int, List.cons_prefix_cons, List.nil_prefix, true_and, and_true, and_self, tidy_ok, tidy_ok0, tidyB_ok, tidyB_ok0, decide_true, decide_false, not_true_eq_false, not_false_eq_true, and_false, false_and, List.isEmpty_cons, List.isEmpty_nil]
    rw [if_pos hb]
  have e7 : lp__law_by_look_7 [some (.int a), some (.int m), some (.ref S.length), none, none, none] (S ++ [.lst []]) = .nx [some (.int a), some (.int m), some (.ref S.length), x3, x4, none] (S ++ (.lst ((TT a m).map dT) :: G)) := by
    rw [lp__law_by_look_7, ev_for, hi, ev_for1]
    exact q
  have run : runB b__law_by_look 6 [.int a, .int m] S = .ok (.ref S.length) (S ++ (.lst ((TT a m).map dT) :: G)) := by
    refine runB_rt ?_
    simp only [b__law_by_look, ev_bindok, ev_bindex, ev_thenok, ev_thenex, ev_seqnx, ev_seqrt, ev_seqbk, ev_seqct, ev_seqex, ev_lstO, ev_onL, ev_lenOl, ev_lenOk, ev_var0, ev_varS, ev_c, ev_bin, ev_bin1, ev_bin1x, ev_bin2, ev_bin2x, ev_un, ev_nil, ev_cons, ev_cons1, ev_cons1x, ev_cons2, ev_cons2x, ev_tup, ev_tup1, ev_tup1x, ev_lst, ev_lst1, ev_lst1x, ev_if, ev_if1, ev_if1x, ev_call, ev_callK, ev_callK1, ev_callK1x, ev_tru, ev_tB, ev_asB, ev_tNot, ev_tNot1, ev_tNot1x, ev_tAnd, ev_tAnd1, ev_tAnd1x, ev_tOr, ev_tOr1, ev_tOr1x, ev_and, ev_and1, ev_and2, ev_or, ev_or1, ev_or2, ev_not, ev_not1, ev_not2, ev_truB, ev_truI, ev_truT, ev_truN, ev_truL, ev_yes, ev_sl, ev_sl1, ev_sl2, ev_sl3, ev_oN, ev_oS, ev_oS1, ev_slT, ev_slR, ev_slL, ev_add, ev_sub, ev_neg, ev_addT, ev_addL, ev_ord, ev_abs, ev_max2, ev_min2, ev_int, ev_intB, ev_lenT, ev_lenR, ev_lenL, ev_ixT, ev_ixR, ev_ixL, ev_tupT, ev_tupL, ev_revL, ev_ml, ev_ml1, ev_ml2, ev_ml2x, ev_isL, ev_mapp, ev_popC, ev_pop1, ev_pop2, ev_mpop, ev_mext, ev_newK, ev_newN, ev_is, ev_isNot, ev_isnN, ev_isnT, ev_isnI, ev_isnR, ev_nx, ev_seq, ev_asg, ev_asg1, ev_asg1x, ev_kNx, ev_asgT, ev_asgT1, ev_asgT1x, ev_bTup, ev_bName, ev_bCons, ev_bNil, ev_expr, ev_expr1, ev_expr1x, ev_ret, ev_ret1, ev_ret1x, ev_retN, ev_sif, ev_sif1, ev_sif1x, ev_par, ev_par1, ev_par3, ev_par31, ev_setG, ev_setG1, ev_setG2, ev_setG3, ev_setG4, ev_setG1x, ev_break, ev_cont, ev_for, ev_for1, ev_for1x, ev_runB, ev_fiSeq, ev_itT, ev_itR, ev_itL, ev_loopKnx, ev_loopKct, ev_loopKbk, ev_loopKrt, ev_loopKex, ev_loopN, ev_turn, ev_loopC, ev_wh1, ev_g4s, ev_g4n, ev_get2, ev_get21, ev_get22, ev_get23, ev_get1, ev_get11, ev_get12, ev_x3, ev_ixG, ev_ixG1, ev_ixG2, ev_gT, ev_gD, ev_gD1, ev_isGt, ev_gAti, ev_dc, ev_dc1, ev_lc, ev_lc1, ev_wipe0, ev_wipe, ev_empN, ev_empK, ev_chk1, ev_fiRng1, ev_fiRng11, ev_fiRng2, ev_fiRng21, ev_fiRng22, st_len, st_app, st_at0, st_at, st_set0, st_set, st_take, ev_ftidy, ev_fttidy, optR_some, List.set_cons_zero, List.set_cons_succ, List.length_cons, List.length_nil, List.cons_append, List.nil_append, List.map_cons, List.map_nil, List.getElem?_cons_zero, List.getElem?_cons_succ, if_true, if_false, decide_eq_true_eq, Bool.false_eq_true, reduceIte, Option.bind_some, Nat.add_assoc, Nat.reduceAdd, Nat.reduceSub, Nat.reduceLeDiff, Nat.zero_add, List.replicate, sizeLine_eq, List.length_map, Option.map_some, Option.isSome_some, gt_iff_lt, Bool.not_true, Bool.not_false, Nat.reduceLT, nf_non, nf_int, nf_bl, nf_str, nf_tup, nf_ro, nf_nil, nf_cons, nf_T, flats_T, ints_flat, Bool.and_self, Bool.true_and, Bool.and_true, tidy_app, tidyB_app, tidy_appL, dEq_int, List.cons_prefix_cons, List.nil_prefix, true_and, and_true, and_self, tidy_ok, tidy_ok0, tidyB_ok, tidyB_ok0, decide_true, decide_false, not_true_eq_false, not_false_eq_true, and_false, false_and, List.isEmpty_cons, List.isEmpty_nil, e7]
  unfold F__law_by_look FF.tidy
  rw [run]
  exact tidy_lst (G := .lst ((TT a m).map dT) :: G) rfl (by omega) (by simp) (flats_T _)
end Y.k59

set_option Elab.async false
set_option linter.all false
set_option maxRecDepth 100000
set_option maxHeartbeats 2000000
/-! P59h: the law. -/
namespace Y.k59
open PySem L2 Y
theorem mem_adn {n k : Int} {F : List Int} : k ∈ adn n F ↔ k ∈ F ∨ k = n := by
  unfold adn
  split
  · exact ⟨.inl, fun h => h.elim id fun e => e ▸ (by assumption)⟩
  · rw [List.mem_append, List.mem_singleton]
theorem mem_fold {k : Int} : ∀ (ts : List Tri) (F : List Int), k ∈ ts.foldl (fun F t => adt t F) F → k ∈ F ∨ ∃ t ∈ ts, k = t.1 ∨ k = t.2.1 ∨ k = t.2.2
  | [], F, h => .inl h
  | t :: ts, F, h => by
    rw [List.foldl_cons] at h
    rcases mem_fold ts _ h with h | ⟨u, hu, e⟩
    · unfold adt at h
      rw [mem_adn, mem_adn, mem_adn] at h
      rcases h with ((h | h) | h) | h
      · exact .inl h
      · exact .inr ⟨t, List.mem_cons_self, .inl h⟩
      · exact .inr ⟨t, List.mem_cons_self, .inr (.inl h)⟩
      · exact .inr ⟨t, List.mem_cons_self, .inr (.inr h)⟩
    · exact .inr ⟨u, List.mem_cons_of_mem _ hu, e⟩
theorem mem_NUM {k : Int} {ts : List Tri} (h : k ∈ NUM ts) : ∃ t ∈ ts, k = t.1 ∨ k = t.2.1 ∨ k = t.2.2 := by
  unfold NUM at h
  rw [(isort_perm _).mem_iff] at h
  exact (mem_fold ts [] h).resolve_left (by simp)
theorem NUM_len {ts : List Tri} : (NUM ts).length ≤ 3 * ts.length := by
  unfold NUM
  rw [(isort_perm _).length_eq]
  have := fold_len ts []
  simpa using this
theorem TT_bd {a m : Int} {t : Tri} (h : t ∈ TT a m) : (1 ≤ t.1 ∧ t.1 ≤ 3000000000000) ∧ (1 ≤ t.2.1 ∧ t.2.1 ≤ 3000000000000) ∧ (1 ≤ t.2.2 ∧ t.2.2 ≤ 3000000000000) := by
  unfold TT at h
  split at h
  · have := ok_ (mem_Lm.mp h).1; omega
  · split at h
    · obtain ⟨u, hu, rfl⟩ := List.mem_map.mp h
      have := ok_ (mem_Lm.mp hu).1
      simp only [sc]; omega
    · cases h
theorem gp_T {a m : Int} : Gp 2 40000 (toP (.tup ((TT a m).map dT))) := by
  unfold toP
  rw [toPs_map]
  have hl := TT_len (a := a) (m := m)
  have : Gps 1 ((TT a m).length * (160 + 2)) ((TT a m).map fun t => toP (dT t)) := Gps.all fun t ht => by
    have b := TT_bd ht
    have i : ∀ n : Int, 1 ≤ n → n ≤ 3000000000000 → Gp 0 45 (.int n) := fun n h1 h2 => Gp.int (k := 42) (by omega) (by decide)
    exact (Gp.tuple (Gps.cons (i _ b.1.1 b.1.2) (Gps.cons (i _ b.2.1.1 b.2.1.2) (Gps.cons (i _ b.2.2.1 b.2.2.2) (Gps.nil (w := 0)))))).mono (by decide) (by decide)
  exact (Gp.tuple this).mono (by decide) (by omega)
theorem gp_N {a m : Int} : Gp 1 40000 (toP (.tup ((NUM (TT a m)).map .int))) := by
  unfold toP
  rw [toPs_map]
  have hl := TT_len (a := a) (m := m)
  have hn := NUM_len (ts := TT a m)
  have : Gps 0 ((NUM (TT a m)).length * (45 + 2)) ((NUM (TT a m)).map fun n => toP (.int n)) := Gps.all fun n hn => by
    obtain ⟨t, ht, e⟩ := mem_NUM hn
    have b := TT_bd ht
    exact Gp.int (k := 42) (by rcases e with rfl | rfl | rfl <;> omega) (by decide)
  exact (Gp.tuple this).mono (by decide) (by omega)
/-- what is shown -/
def PP (a m : Int) : PyData := .list [toP (.tup ((TT a m).map dT)), toP (.tup ((NUM (TT a m)).map .int))]
theorem gp_P {a m : Int} : Gp 4 200000 (.list [PP a m, PP a m]) := by
  have h : Gp 3 80010 (PP a m) := (Gp.list (Gps.cons gp_T (Gps.cons (gp_N.mono (by decide) (Nat.le_refl _)) (Gps.nil (w := 0))))).mono (by decide) (by decide)
  exact (Gp.list (Gps.cons h (Gps.cons h (Gps.nil (w := 0))))).mono (by decide) (by decide)
theorem TT_less {a m l : Int} (h : l ≤ m) : (TT a m).filter (fun t => decide (t.2.2 ≤ l)) = TT a l := by
  unfold TT
  split
  · unfold Lm
    rw [List.filter_filter]
    exact List.filter_congr fun t _ => Bool.eq_iff_iff.mpr (by simp only [Bool.and_eq_true, decide_eq_true_eq]; omega)
  · split
    · rw [List.filter_map]
      congr 1
      unfold Lm
      rw [List.filter_filter]
      exact List.filter_congr fun t _ => Bool.eq_iff_iff.mpr (by simp only [Function.comp, Bool.and_eq_true, decide_eq_true_eq]; show (3 * t.2.2 ≤ l ∧ _) ↔ _; omega)
    · rfl
theorem gcds {m : Int} {t : Tri} (h : t ∈ TT 3 m) : (Int.gcd t.1 t.2.1 : Int) = 1 ∧ (Int.gcd t.1 t.2.2 : Int) = 1 ∧ (Int.gcd t.2.1 t.2.2 : Int) = 1 ∧ t.1 % 4 ≠ 0 ∧ t.2.1 % 4 ≠ 0 ∧ t.2.2 % 4 ≠ 0 := by
  have := List.all_eq_true.mp Ls_ok t (mem_Lm.mp (by simpa [TT] using h)).1
  simp only [Bool.and_eq_true, decide_eq_true_eq] at this
  omega
theorem no_four {m : Int} : (NUM (TT 3 m)).any (fun n => decide (n % 4 = 0)) = false := by
  rw [List.any_eq_false]
  intro n hn
  obtain ⟨t, ht, e⟩ := mem_NUM hn
  have := gcds ht
  rcases e with rfl | rfl | rfl <;> simp [this]
end Y.k59

set_option Elab.async false
set_option linter.all false
set_option maxRecDepth 100000
set_option maxHeartbeats 4000000
/-! P59i: a turn of the law. -/
namespace Y.k59
open PySem L2 Y
theorem dr : F__law_draw = FDraw := rfl
theorem pk : F__law_pick = FPick := rfl
theorem bg : F__law_bag = FBag := rfl
theorem ten_12 {S : Sto} : dPow (.int 10) (.int 12) S = .ok (.int 1000000000000) S := by
  unfold dPow
  exact (if_pos (by decide)).trans rfl
theorem noughts {S : Sto} {n : Int} (h0 : 0 ≤ n) (h : n < 13) : ∃ t u v, dMul (.str "0") (.int n) S = .ok (.str t) S ∧ dAdd (.str "1") (.str t) S = .ok (.str u) S ∧ dInt [.str u] S = .ok (.int v) S := by
  have key : ∀ n : Nat, n < 13 → MulOk ("0" : Str) n ∧ ("1" : Str).length + (Txt.mul ("0" : Str) n).length ≤ 100 ∧ (PySem.intText? (("1" : Str) ++ Txt.mul ("0" : Str) n)).isSome = true ∧ (("1" : Str) ++ Txt.mul ("0" : Str) n).length ≤ 640 := by
    decide +kernel
  obtain ⟨m, rfl⟩ := Int.eq_ofNat_of_zero_le h0
  obtain ⟨k1, k2, k3, k4⟩ := key m (by omega)
  obtain ⟨v, hv⟩ := Option.isSome_iff_exists.mp k3
  refine ⟨_, _, v, if_pos k1, if_pos (by rw [sizeLine_eq]; omega), ?_⟩
  simp only [dInt, hv]
  rw [if_pos k4]
theorem plain_T (t : Tri) : plainD (dT t) = true := rfl
theorem plain_TT {ts : List Tri} : plainD (.tup (ts.map dT)) = true := plains_map plain_T ts
theorem lc3_ok {S : Sto} {k : Nat} {a m less : Int} {l : Sto} {dN : D} {x0 x1 x2 x3 x4 x5 x6 x7 x8 x9 x11 x13 x14 x15 x16 x17 : Option D} (hl : less ≤ m) (hk : l[k]? = some (.lst [.tup ((TT a m).map dT), dN])) :
    lc_law_3 [x0, x1, x2, x3, x4, x5, x6, x7, x8, x9, some (.ref (S.length + k)), x11, some (.int less), x13, x14, x15, x16, x17] (S ++ l) = .ok (.ref (S.length + l.length)) (S ++ (l ++ [.lst ((TT a less).map dT)])) := by
  have c := lcA (S := S ++ l) (fi := fiSeq (fBin dIx (fVar 10) (fC (.int 0)))) (own := [16]) (g := bName 16) (t := ct_law_1) (e := ce_law_2) (ρ := [x0, x1, x2, x3, x4, x5, x6, x7, x8, x9, some (.ref (S.length + k)), x11, some (.int less), x13, x14, x15, x16, x17]) (S1 := S ++ l) (ch := []) (TT a m) dT (fun t => decide (t.2.2 ≤ less)) dT (by
      have e : L2.atI [D.tup ((TT a m).map dT), dN] 0 = some (.tup ((TT a m).map dT)) := rfl
      simp only [ev_bindok, ev_bindex, ev_thenok, ev_thenex, ev_seqnx, ev_seqrt, ev_seqbk, ev_seqct, ev_seqex, ev_lstO, ev_onL, ev_lenOl, ev_lenOk, ev_var0, ev_varS, ev_c, ev_bin, ev_bin1, ev_bin1x, ev_bin2, ev_bin2x, ev_un, ev_nil, ev_cons, ev_cons1, ev_cons1x, ev_cons2, ev_cons2x, ev_tup, ev_tup1, ev_tup1x, ev_lst, ev_lst1, ev_lst1x, ev_if, ev_if1, ev_if1x, ev_call, ev_callK, ev_callK1, ev_callK1x, ev_tru, ev_tB, ev_asB, ev_tNot, ev_tNot1, ev_tNot1x, ev_tAnd, ev_tAnd1, ev_tAnd1x, ev_tOr, ev_tOr1, ev_tOr1x, ev_and, ev_and1, ev_and2, ev_or, ev_or1, ev_or2, ev_not, ev_not1, ev_not2, ev_truB, ev_truI, ev_truT, ev_truN, ev_truL, ev_yes, ev_sl, ev_sl1, ev_sl2, ev_sl3, ev_oN, ev_oS, ev_oS1, ev_slT, ev_slR, ev_slL, ev_add, ev_sub, ev_neg, ev_addT, ev_addL, ev_ord, ev_abs, ev_max2, ev_min2, ev_int, ev_intB, ev_lenT, ev_lenR, ev_lenL, ev_ixT, ev_ixR, ev_ixL, ev_tupT, ev_tupL, ev_revL, ev_ml, ev_ml1, ev_ml2, ev_ml2x, ev_isL, ev_mapp, ev_popC, ev_pop1, ev_pop2, ev_mpop, ev_mext, ev_newK, ev_newN, ev_is, ev_isNot, ev_isnN, ev_isnT, ev_isnI, ev_isnR, ev_nx, ev_seq, ev_asg, ev_asg1, ev_asg1x, ev_kNx, ev_asgT, ev_asgT1, ev_asgT1x, ev_bTup, ev_bName, ev_bCons, ev_bNil, ev_expr, ev_expr1, ev_expr1x, ev_ret, ev_ret1, ev_ret1x, ev_retN, ev_sif, ev_sif1, ev_sif1x, ev_par, ev_par1, ev_par3, ev_par31, ev_setG, ev_setG1, ev_setG2, ev_setG3, ev_setG4, ev_setG1x, ev_break, ev_cont, ev_for, ev_for1, ev_for1x, ev_runB, ev_fiSeq, ev_itT, ev_itR, ev_itL, ev_loopKnx, ev_loopKct, ev_loopKbk, ev_loopKrt, ev_loopKex, ev_loopN, ev_turn, ev_loopC, ev_wh1, ev_g4s, ev_g4n, ev_get2, ev_get21, ev_get22, ev_get23, ev_get1, ev_get11, ev_get12, ev_x3, ev_ixG, ev_ixG1, ev_ixG2, ev_gT, ev_gD, ev_gD1, ev_isGt, ev_gAti, ev_dc, ev_dc1, ev_lc, ev_lc1, ev_wipe0, ev_wipe, ev_empN, ev_empK, ev_chk1, ev_fiRng1, ev_fiRng11, ev_fiRng2, ev_fiRng21, ev_fiRng22, st_len, st_app, st_at0, st_at, st_set0, st_set, st_take, ev_ftidy, ev_fttidy, optR_some, List.set_cons_zero, List.set_cons_succ, List.length_cons, List.length_nil, List.cons_append, List.nil_append, List.map_cons, List.map_nil, List.getElem?_cons_zero, List.getElem?_cons_succ, if_true, if_false, decide_eq_true_eq, Bool.false_eq_true, reduceIte, Option.bind_some, Nat.add_assoc, Nat.reduceAdd, Nat.reduceSub, Nat.reduceLeDiff, Nat.zero_add, List.replicate, sizeLine_eq, List.length_map, Option.map_some, Option.isSome_some, gt_iff_lt, Bool.not_true, Bool.not_false, Nat.reduceLT, nf_non, nf_int, nf_bl, nf_str, nf_tup, nf_ro, nf_nil, nf_cons, nf_T, flats_T, ints_flat, Bool.and_self, Bool.true_and, Bool.and_true, tidy_app, tidyB_app, tidy_appL, dEq_int, List.cons_prefix_cons, List.nil_prefix, true_and, and_true, and_self, tidy_ok, tidy_ok0, tidyB_ok, tidyB_ok0, decide_true, decide_false, not_true_eq_false, not_false_eq_true, and_false, false_and, List.isEmpty_cons, List.isEmpty_nil, hk, e]) (fun G => rfl) (by have := TT_len (a := a) (m := m); omega) (fun t ht => by
      refine ⟨_, rfl, fun G => ⟨?_, fun _ => ?_⟩⟩
      · simp only [ct_law_1, ev_bindok, ev_bindex, ev_thenok, ev_thenex, ev_seqnx, ev_seqrt, ev_seqbk, ev_seqct, ev_seqex, ev_lstO, ev_onL, ev_lenOl, ev_lenOk, ev_var0, ev_varS, ev_c, ev_bin, ev_bin1, ev_bin1x, ev_bin2, ev_bin2x, ev_un, ev_nil, ev_cons, ev_cons1, ev_cons1x, ev_cons2, ev_cons2x, ev_tup, ev_tup1, ev_tup1x, ev_lst, ev_lst1, ev_lst1x, ev_if, ev_if1, ev_if1x, ev_call, ev_callK, ev_callK1, ev_callK1x, ev_tru, ev_tB, ev_asB, ev_tNot, ev_tNot1, ev_tNot1x, ev_tAnd, ev_tAnd1, ev_tAnd1x, ev_tOr, ev_tOr1, ev_tOr1x, ev_and, ev_and1, ev_and2, ev_or, ev_or1, ev_or2, ev_not, ev_not1, ev_not2, ev_truB, ev_truI, ev_truT, ev_truN, ev_truL, ev_yes, ev_sl, ev_sl1, ev_sl2, ev_sl3, ev_oN, ev_oS, ev_oS1, ev_slT, ev_slR, ev_slL, ev_add, ev_sub, ev_neg, ev_addT, ev_addL, ev_ord, ev_abs, ev_max2, ev_min2, ev_int, ev_intB, ev_lenT, ev_lenR, ev_lenL, ev_ixT, ev_ixR, ev_ixL, ev_tupT, ev_tupL, ev_revL, ev_ml, ev_ml1, ev_ml2, ev_ml2x, ev_isL, ev_mapp, ev_popC, ev_pop1, ev_pop2, ev_mpop, ev_mext, ev_newK, ev_newN, ev_is, ev_isNot, ev_isnN, ev_isnT, ev_isnI, ev_isnR, ev_nx, ev_seq, ev_asg, ev_asg1, ev_asg1x, ev_kNx, ev_asgT, ev_asgT1, ev_asgT1x, ev_bTup, ev_bName, ev_bCons, ev_bNil, ev_expr, ev_expr1, ev_expr1x, ev_ret, ev_ret1, ev_ret1x, ev_retN, ev_sif, ev_sif1, ev_sif1x, ev_par, ev_par1, ev_par3, ev_par31, ev_setG, ev_setG1, ev_setG2, ev_setG3, ev_setG4, ev_setG1x, ev_break, ev_cont, ev_for, ev_for1, ev_for1x, ev_runB, ev_fiSeq, ev_itT, ev_itR, ev_itL, ev_loopKnx, ev_loopKct, ev_loopKbk, ev_loopKrt, ev_loopKex, ev_loopN, ev_turn, ev_loopC, ev_wh1, ev_g4s, ev_g4n, ev_get2, ev_get21, ev_get22, ev_get23, ev_get1, ev_get11, ev_get12, ev_x3, ev_ixG, ev_ixG1, ev_ixG2, ev_gT, ev_gD, ev_gD1, ev_isGt, ev_gAti, ev_dc, ev_dc1, ev_lc, ev_lc1, ev_wipe0, ev_wipe, ev_empN, ev_empK, ev_chk1, ev_fiRng1, ev_fiRng11, ev_fiRng2, ev_fiRng21, ev_fiRng22, st_len, st_app, st_at0, st_at, st_set0, st_set, st_take, ev_ftidy, ev_fttidy, optR_some, List.set_cons_zero, List.set_cons_succ, List.length_cons, List.length_nil, List.cons_append, List.nil_append, List.map_cons, List.map_nil, List.getElem?_cons_zero, List.getElem?_cons_succ, if_true, if_false, decide_eq_true_eq, Bool.false_eq_true, reduceIte, Option.bind_some, Nat.add_assoc, Nat.reduceAdd, Nat.reduceSub, Nat.reduceLeDiff, Nat.zero_add, List.replicate, sizeLine_eq, List.length_map, Option.map_some, Option.isSome_some, gt_iff_lt, Bool.not_true, Bool.not_false, Nat.reduceLT, nf_non, nf_int, nf_bl, nf_str, nf_tup, nf_ro, nf_nil, nf_cons, nf_T, flats_T, ints_flat, Bool.and_self, Bool.true_and, Bool.and_true, tidy_app, tidyB_app, tidy_appL, dEq_int, List.cons_prefix_cons, List.nil_prefix, true_and, and_true, and_self, tidy_ok, tidy_ok0, tidyB_ok, tidyB_ok0, decide_true, decide_false, not_true_eq_false, not_false_eq_true, and_false, false_and, List.isEmpty_cons, List.isEmpty_nil, ix2_T]
      · simp only [ce_law_2, ev_bindok, ev_bindex, ev_thenok, ev_thenex, ev_seqnx, ev_seqrt, ev_seqbk, ev_seqct, ev_seqex, ev_lstO, ev_onL, ev_lenOl, ev_lenOk, ev_var0, ev_varS, ev_c, ev_bin, ev_bin1, ev_bin1x, ev_bin2, ev_bin2x, ev_un, ev_nil, ev_cons, ev_cons1, ev_cons1x, ev_cons2, ev_cons2x, ev_tup, ev_tup1, ev_tup1x, ev_lst, ev_lst1, ev_lst1x, ev_if, ev_if1, ev_if1x, ev_call, ev_callK, ev_callK1, ev_callK1x, ev_tru, ev_tB, ev_asB, ev_tNot, ev_tNot1, ev_tNot1x, ev_tAnd, ev_tAnd1, ev_tAnd1x, ev_tOr, ev_tOr1, ev_tOr1x, ev_and, ev_and1, ev_and2, ev_or, ev_or1, ev_or2, ev_not, ev_not1, ev_not2, ev_truB, ev_truI, ev_truT, ev_truN, ev_truL, ev_yes, ev_sl, ev_sl1, ev_sl2, ev_sl3, ev_oN, ev_oS, ev_oS1, ev_slT, ev_slR, ev_slL, ev_add, ev_sub, ev_neg, ev_addT, ev_addL, ev_ord, ev_abs, ev_max2, ev_min2, ev_int, ev_intB, ev_lenT, ev_lenR, ev_lenL, ev_ixT, ev_ixR, ev_ixL, ev_tupT, ev_tupL, ev_revL, ev_ml, ev_ml1, ev_ml2, ev_ml2x, ev_isL, ev_mapp, ev_popC, ev_pop1, ev_pop2, ev_mpop, ev_mext, ev_newK, ev_newN, ev_is, ev_isNot, ev_isnN, ev_isnT, ev_isnI, ev_isnR, ev_nx, ev_seq, ev_asg, ev_asg1, ev_asg1x, ev_kNx, ev_asgT, ev_asgT1, ev_asgT1x, ev_bTup, ev_bName, ev_bCons, ev_bNil, ev_expr, ev_expr1, ev_expr1x, ev_ret, ev_ret1, ev_ret1x, ev_retN, ev_sif, ev_sif1, ev_sif1x, ev_par, ev_par1, ev_par3, ev_par31, ev_setG, ev_setG1, ev_setG2, ev_setG3, ev_setG4, ev_setG1x, ev_break, ev_cont, ev_for, ev_for1, ev_for1x, ev_runB, ev_fiSeq, ev_itT, ev_itR, ev_itL, ev_loopKnx, ev_loopKct, ev_loopKbk, ev_loopKrt, ev_loopKex, ev_loopN, ev_turn, ev_loopC, ev_wh1, ev_g4s, ev_g4n, ev_get2, ev_get21, ev_get22, ev_get23, ev_get1, ev_get11, ev_get12, ev_x3, ev_ixG, ev_ixG1, ev_ixG2, ev_gT, ev_gD, ev_gD1, ev_isGt, ev_gAti, ev_dc, ev_dc1, ev_lc, ev_lc1, ev_wipe0, ev_wipe, ev_empN, ev_empK, ev_chk1, ev_fiRng1, ev_fiRng11, ev_fiRng2, ev_fiRng21, ev_fiRng22, st_len, st_app, st_at0, st_at, st_set0, st_set, st_take, ev_ftidy, ev_fttidy, optR_some, List.set_cons_zero, List.set_cons_succ, List.length_cons, List.length_nil, List.cons_append, List.nil_append, List.map_cons, List.map_nil, List.getElem?_cons_zero, List.getElem?_cons_succ, if_true, if_false, decide_eq_true_eq, Bool.false_eq_true, reduceIte, Option.bind_some, Nat.add_assoc, Nat.reduceAdd, Nat.reduceSub, Nat.reduceLeDiff, Nat.zero_add, List.replicate, sizeLine_eq, List.length_map, Option.map_some, Option.isSome_some, gt_iff_lt, Bool.not_true, Bool.not_false, Nat.reduceLT, nf_non, nf_int, nf_bl, nf_str, nf_tup, nf_ro, nf_nil, nf_cons, nf_T, flats_T, ints_flat, Bool.and_self, Bool.true_and, Bool.and_true, tidy_app, tidyB_app, tidy_appL, dEq_int, List.cons_prefix_cons, List.nil_prefix, true_and, and_true, and_self, tidy_ok, tidy_ok0, tidyB_ok, tidyB_ok0, decide_true, decide_false, not_true_eq_false, not_false_eq_true, and_false, false_and, List.isEmpty_cons, List.isEmpty_nil])
  rw [TT_less hl] at c
  rw [lc_law_3, c, st_len, st_app]
theorem lc6_ok {S : Sto} {k : Nat} {a m : Int} {l : Sto} {dP : D} {x0 x1 x2 x3 x4 x5 x6 x7 x8 x9 x11 x12 x13 x14 x15 x16 x17 : Option D} (hk : l[k]? = some (.lst [dP, .tup ((NUM (TT a m)).map .int)])) :
    lc_law_6 [x0, x1, x2, x3, x4, x5, x6, x7, x8, x9, some (.ref (S.length + k)), x11, x12, x13, x14, x15, x16, x17] (S ++ l) = .ok (.ref (S.length + l.length)) (S ++ (l ++ [.lst ((NUM (TT a m)).map fun n => .bl (decide (n % 4 = 0)))])) := by
  have c := lcA (S := S ++ l) (fi := fiSeq (fBin dIx (fVar 10) (fC (.int 1)))) (own := [17]) (g := bName 17) (t := ct_law_4) (e := ce_law_5) (ρ := [x0, x1, x2, x3, x4, x5, x6, x7, x8, x9, some (.ref (S.length + k)), x11, x12, x13, x14, x15, x16, x17]) (S1 := S ++ l) (ch := []) (NUM (TT a m)) .int (fun t => true) (fun n => .bl (decide (n % 4 = 0))) (by
      have e : L2.atI [dP, D.tup ((NUM (TT a m)).map .int)] 1 = some (.tup ((NUM (TT a m)).map .int)) := rfl
      simp only [ev_bindok, ev_bindex, ev_thenok, ev_thenex, ev_seqnx, ev_seqrt, ev_seqbk, ev_seqct, ev_seqex, ev_lstO, ev_onL, ev_lenOl, ev_lenOk, ev_var0, ev_varS, ev_c, ev_bin, ev_bin1, ev_bin1x, ev_bin2, ev_bin2x, ev_un, ev_nil, ev_cons, ev_cons1, ev_cons1x, ev_cons2, ev_cons2x, ev_tup, ev_tup1, ev_tup1x, ev_lst, ev_lst1, ev_lst1x, ev_if, ev_if1, ev_if1x, ev_call, ev_callK, ev_callK1, ev_callK1x, ev_tru, ev_tB, ev_asB, ev_tNot, ev_tNot1, ev_tNot1x, ev_tAnd, ev_tAnd1, ev_tAnd1x, ev_tOr, ev_tOr1, ev_tOr1x, ev_and, ev_and1, ev_and2, ev_or, ev_or1, ev_or2, ev_not, ev_not1, ev_not2, ev_truB, ev_truI, ev_truT, ev_truN, ev_truL, ev_yes, ev_sl, ev_sl1, ev_sl2, ev_sl3, ev_oN, ev_oS, ev_oS1, ev_slT, ev_slR, ev_slL, ev_add, ev_sub, ev_neg, ev_addT, ev_addL, ev_ord, ev_abs, ev_max2, ev_min2, ev_int, ev_intB, ev_lenT, ev_lenR, ev_lenL, ev_ixT, ev_ixR, ev_ixL, ev_tupT, ev_tupL, ev_revL, ev_ml, ev_ml1, ev_ml2, ev_ml2x, ev_isL, ev_mapp, ev_popC, ev_pop1, ev_pop2, ev_mpop, ev_mext, ev_newK, ev_newN, ev_is, ev_isNot, ev_isnN, ev_isnT, ev_isnI, ev_isnR, ev_nx, ev_seq, ev_asg, ev_asg1, ev_asg1x, ev_kNx, ev_asgT, ev_asgT1, ev_asgT1x, ev_bTup, ev_bName, ev_bCons, ev_bNil, ev_expr, ev_expr1, ev_expr1x, ev_ret, ev_ret1, ev_ret1x, ev_retN, ev_sif, ev_sif1, ev_sif1x, ev_par, ev_par1, ev_par3, ev_par31, ev_setG, ev_setG1, ev_setG2, ev_setG3, ev_setG4, ev_setG1x, ev_break, ev_cont, ev_for, ev_for1, ev_for1x, ev_runB, ev_fiSeq, ev_itT, ev_itR, ev_itL, ev_loopKnx, ev_loopKct, ev_loopKbk, ev_loopKrt, ev_loopKex, ev_loopN, ev_turn, ev_loopC, ev_wh1, ev_g4s, ev_g4n, ev_get2, ev_get21, ev_get22, ev_get23, ev_get1, ev_get11, ev_get12, ev_x3, ev_ixG, ev_ixG1, ev_ixG2, ev_gT, ev_gD, ev_gD1, ev_isGt, ev_gAti, ev_dc, ev_dc1, ev_lc, ev_lc1, ev_wipe0, ev_wipe, ev_empN, ev_empK, ev_chk1, ev_fiRng1, ev_fiRng11, ev_fiRng2, ev_fiRng21, ev_fiRng22, st_len, st_app, st_at0, st_at, st_set0, st_set, st_take, ev_ftidy, ev_fttidy, optR_some, List.set_cons_zero, List.set_cons_succ, List.length_cons, List.length_nil, List.cons_append, List.nil_append, List.map_cons, List.map_nil, List.getElem?_cons_zero, List.getElem?_cons_succ, if_true, if_false, decide_eq_true_eq, Bool.false_eq_true, reduceIte, Option.bind_some, Nat.add_assoc, Nat.reduceAdd, Nat.reduceSub, Nat.reduceLeDiff, Nat.zero_add, List.replicate, sizeLine_eq, List.length_map, Option.map_some, Option.isSome_some, gt_iff_lt, Bool.not_true, Bool.not_false, Nat.reduceLT, nf_non, nf_int, nf_bl, nf_str, nf_tup, nf_ro, nf_nil, nf_cons, nf_T, flats_T, ints_flat, Bool.and_self, Bool.true_and, Bool.and_true, tidy_app, tidyB_app, tidy_appL, dEq_int, List.cons_prefix_cons, List.nil_prefix, true_and, and_true, and_self, tidy_ok, tidy_ok0, tidyB_ok, tidyB_ok0, decide_true, decide_false, not_true_eq_false, not_false_eq_true, and_false, false_and, List.isEmpty_cons, List.isEmpty_nil, hk, e]) (fun G => rfl) (by have := TT_len (a := a) (m := m); have := NUM_len (ts := TT a m); omega) (fun n hn => by
      refine ⟨_, rfl, fun G => ⟨?_, fun _ => ?_⟩⟩
      · simp only [ct_law_4, ev_bindok, ev_bindex, ev_thenok, ev_thenex, ev_seqnx, ev_seqrt, ev_seqbk, ev_seqct, ev_seqex, ev_lstO, ev_onL, ev_lenOl, ev_lenOk, ev_var0, ev_varS, ev_c, ev_bin, ev_bin1, ev_bin1x, ev_bin2, ev_bin2x, ev_un, ev_nil, ev_cons, ev_cons1, ev_cons1x, ev_cons2, ev_cons2x, ev_tup, ev_tup1, ev_tup1x, ev_lst, ev_lst1, ev_lst1x, ev_if, ev_if1, ev_if1x, ev_call, ev_callK, ev_callK1, ev_callK1x, ev_tru, ev_tB, ev_asB, ev_tNot, ev_tNot1, ev_tNot1x, ev_tAnd, ev_tAnd1, ev_tAnd1x, ev_tOr, ev_tOr1, ev_tOr1x, ev_and, ev_and1, ev_and2, ev_or, ev_or1, ev_or2, ev_not, ev_not1, ev_not2, ev_truB, ev_truI, ev_truT, ev_truN, ev_truL, ev_yes, ev_sl, ev_sl1, ev_sl2, ev_sl3, ev_oN, ev_oS, ev_oS1, ev_slT, ev_slR, ev_slL, ev_add, ev_sub, ev_neg, ev_addT, ev_addL, ev_ord, ev_abs, ev_max2, ev_min2, ev_int, ev_intB, ev_lenT, ev_lenR, ev_lenL, ev_ixT, ev_ixR, ev_ixL, ev_tupT, ev_tupL, ev_revL, ev_ml, ev_ml1, ev_ml2, ev_ml2x, ev_isL, ev_mapp, ev_popC, ev_pop1, ev_pop2, ev_mpop, ev_mext, ev_newK, ev_newN, ev_is, ev_isNot, ev_isnN, ev_isnT, ev_isnI, ev_isnR, ev_nx, ev_seq, ev_asg, ev_asg1, ev_asg1x, ev_kNx, ev_asgT, ev_asgT1, ev_asgT1x, ev_bTup, ev_bName, ev_bCons, ev_bNil, ev_expr, ev_expr1, ev_expr1x, ev_ret, ev_ret1, ev_ret1x, ev_retN, ev_sif, ev_sif1, ev_sif1x, ev_par, ev_par1, ev_par3, ev_par31, ev_setG, ev_setG1, ev_setG2, ev_setG3, ev_setG4, ev_setG1x, ev_break, ev_cont, ev_for, ev_for1, ev_for1x, ev_runB, ev_fiSeq, ev_itT, ev_itR, ev_itL, ev_loopKnx, ev_loopKct, ev_loopKbk, ev_loopKrt, ev_loopKex, ev_loopN, ev_turn, ev_loopC, ev_wh1, ev_g4s, ev_g4n, ev_get2, ev_get21, ev_get22, ev_get23, ev_get1, ev_get11, ev_get12, ev_x3, ev_ixG, ev_ixG1, ev_ixG2, ev_gT, ev_gD, ev_gD1, ev_isGt, ev_gAti, ev_dc, ev_dc1, ev_lc, ev_lc1, ev_wipe0, ev_wipe, ev_empN, ev_empK, ev_chk1, ev_fiRng1, ev_fiRng11, ev_fiRng2, ev_fiRng21, ev_fiRng22, st_len, st_app, st_at0, st_at, st_set0, st_set, st_take, ev_ftidy, ev_fttidy, optR_some, List.set_cons_zero, List.set_cons_succ, List.length_cons, List.length_nil, List.cons_append, List.nil_append, List.map_cons, List.map_nil, List.getElem?_cons_zero, List.getElem?_cons_succ, if_true, if_false, decide_eq_true_eq, Bool.false_eq_true, reduceIte, Option.bind_some, Nat.add_assoc, Nat.reduceAdd, Nat.reduceSub, Nat.reduceLeDiff, Nat.zero_add, List.replicate, sizeLine_eq, List.length_map, Option.map_some, Option.isSome_some, gt_iff_lt, Bool.not_true, Bool.not_false, Nat.reduceLT, nf_non, nf_int, nf_bl, nf_str, nf_tup, nf_ro, nf_nil, nf_cons, nf_T, flats_T, ints_flat, Bool.and_self, Bool.true_and, Bool.and_true, tidy_app, tidyB_app, tidy_appL, dEq_int, List.cons_prefix_cons, List.nil_prefix, true_and, and_true, and_self, tidy_ok, tidy_ok0, tidyB_ok, tidyB_ok0, decide_true, decide_false, not_true_eq_false, not_false_eq_true, and_false, false_and, List.isEmpty_cons, List.isEmpty_nil]
      · have m4 : ∀ S, dMod (.int n) (.int 4) S = .ok (.int (n % 4)) S := fun S => dMod_pos (by decide)
        simp only [ce_law_5, ev_bindok, ev_bindex, ev_thenok, ev_thenex, ev_seqnx, ev_seqrt, ev_seqbk, ev_seqct, ev_seqex, ev_lstO, ev_onL, ev_lenOl, ev_lenOk, ev_var0, ev_varS, ev_c, ev_bin, ev_bin1, ev_bin1x, ev_bin2, ev_bin2x, ev_un, ev_nil, ev_cons, ev_cons1, ev_cons1x, ev_cons2, ev_cons2x, ev_tup, ev_tup1, ev_tup1x, ev_lst, ev_lst1, ev_lst1x, ev_if, ev_if1, ev_if1x, ev_call, ev_callK, ev_callK1, ev_callK1x, ev_tru, ev_tB, ev_asB, ev_tNot, ev_tNot1, ev_tNot1x, ev_tAnd, ev_tAnd1, ev_tAnd1x, ev_tOr, ev_tOr1, ev_tOr1x, ev_and, ev_and1, ev_and2, ev_or, ev_or1, ev_or2, ev_not, ev_not1, ev_not2, ev_truB, ev_truI, ev_truT, ev_truN, ev_truL, ev_yes, ev_sl, ev_sl1, ev_sl2, ev_sl3, ev_oN, ev_oS, ev_oS1, ev_slT, ev_slR, ev_slL, ev_add, ev_sub, ev_neg, ev_addT, ev_addL, ev_ord, ev_abs, ev_max2, ev_min2, ev_int, ev_intB, ev_lenT, ev_lenR, ev_lenL, ev_ixT, ev_ixR, ev_ixL, ev_tupT, ev_tupL, ev_revL, ev_ml, ev_ml1, ev_ml2, ev_ml2x, ev_isL, ev_mapp, ev_popC, ev_pop1, ev_pop2, ev_mpop, ev_mext, ev_newK, ev_newN, ev_is, ev_isNot, ev_isnN, ev_isnT, ev_isnI, ev_isnR, ev_nx, ev_seq, ev_asg, ev_asg1, ev_asg1x, ev_kNx, ev_asgT, ev_asgT1, ev_asgT1x, ev_bTup, ev_bName, ev_bCons, ev_bNil, ev_expr, ev_expr1, ev_expr1x, ev_ret, ev_ret1, ev_ret1x, ev_retN, ev_sif, ev_sif1, ev_sif1x, ev_par, ev_par1, ev_par3, ev_par31, ev_setG, ev_setG1, ev_setG2, ev_setG3, ev_setG4, ev_setG1x, ev_break, ev_cont, ev_for, ev_for1, ev_for1x, ev_runB, ev_fiSeq, ev_itT, ev_itR, ev_itL, ev_loopKnx, ev_loopKct, ev_loopKbk, ev_loopKrt, ev_loopKex, ev_loopN, ev_turn, ev_loopC, ev_wh1, ev_g4s, ev_g4n, ev_get2, ev_get21, ev_get22, ev_get23, ev_get1, ev_get11, ev_get12, ev_x3, ev_ixG, ev_ixG1, ev_ixG2, ev_gT, ev_gD, ev_gD1, ev_isGt, ev_gAti, ev_dc, ev_dc1, ev_lc, ev_lc1, ev_wipe0, ev_wipe, ev_empN, ev_empK, ev_chk1, ev_fiRng1, ev_fiRng11, ev_fiRng2, ev_fiRng21, ev_fiRng22, st_len, st_app, st_at0, st_at, st_set0, st_set, st_take, ev_ftidy, ev_fttidy, optR_some, List.set_cons_zero, List.set_cons_succ, List.length_cons, List.length_nil, List.cons_append, List.nil_append, List.map_cons, List.map_nil, List.getElem?_cons_zero, List.getElem?_cons_succ, if_true, if_false, decide_eq_true_eq, Bool.false_eq_true, reduceIte, Option.bind_some, Nat.add_assoc, Nat.reduceAdd, Nat.reduceSub, Nat.reduceLeDiff, Nat.zero_add, List.replicate, sizeLine_eq, List.length_map, Option.map_some, Option.isSome_some, gt_iff_lt, Bool.not_true, Bool.not_false, Nat.reduceLT, nf_non, nf_int, nf_bl, nf_str, nf_tup, nf_ro, nf_nil, nf_cons, nf_T, flats_T, ints_flat, Bool.and_self, Bool.true_and, Bool.and_true, tidy_app, tidyB_app, tidy_appL, dEq_int, List.cons_prefix_cons, List.nil_prefix, true_and, and_true, and_self, tidy_ok, tidy_ok0, tidyB_ok, tidyB_ok0, decide_true, decide_false, not_true_eq_false, not_false_eq_true, and_false, false_and, List.isEmpty_cons, List.isEmpty_nil, m4])
  rw [List.filter_eq_self.mpr (fun _ _ => rfl)] at c
  rw [lc_law_6, c, st_len, st_app]
theorem shaped_TT {a m : Int} : SeqAt.shaped (toP (.tup ((TT a m).map dT))) = true := gp_T.shaped (by decide)
theorem turn_law {S : Sto} {i c : Nat} (hb : BagAt S i c) (x0 x2 x3 x4 x5 x6 x7 x8 x9 x10 x11 x12 x13 x14 x15 x16 x17 : Option D) :
   ∀ X, X = lb_law_7 [x0, some (.ref i), x2, x3, x4, x5, x6, x7, x8, x9, x10, x11, x12, x13, x14, x15, x16, x17] S →
   ∃ y S', X = .nx (x0 :: some (.ref i) :: y) S' ∧ y.length = 16 ∧ BagAt S' i c := by
  intro X hX
  obtain ⟨n1, S1, e1, p1, q1, hb1, l1⟩ := draw_app0 hb (k := 50) (by decide) (by decide)
  simp only [lb_law_7, dr, pk, ev_bindok, ev_bindex, ev_thenok, ev_thenex, ev_seqnx, ev_seqrt, ev_seqbk, ev_seqct, ev_seqex, ev_lstO, ev_onL, ev_lenOl, ev_lenOk, ev_var0, ev_varS, ev_c, ev_bin, ev_bin1, ev_bin1x, ev_bin2, ev_bin2x, ev_un, ev_nil, ev_cons, ev_cons1, ev_cons1x, ev_cons2, ev_cons2x, ev_tup, ev_tup1, ev_tup1x, ev_lst, ev_lst1, ev_lst1x, ev_if, ev_if1, ev_if1x, ev_call, ev_callK, ev_callK1, ev_callK1x, ev_tru, ev_tB, ev_asB, ev_tNot, ev_tNot1, ev_tNot1x, ev_tAnd, ev_tAnd1, ev_tAnd1x, ev_tOr, ev_tOr1, ev_tOr1x, ev_and, ev_and1, ev_and2, ev_or, ev_or1, ev_or2, ev_not, ev_not1, ev_not2, ev_truB, ev_truI, ev_truT, ev_truN, ev_truL, ev_yes, ev_sl, ev_sl1, ev_sl2, ev_sl3, ev_oN, ev_oS, ev_oS1, ev_slT, ev_slR, ev_slL, ev_add, ev_sub, ev_neg, ev_addT, ev_addL, ev_ord, ev_abs, ev_max2, ev_min2, ev_int, ev_intB, ev_lenT, ev_lenR, ev_lenL, ev_ixT, ev_ixR, ev_ixL, ev_tupT, ev_tupL, ev_revL, ev_ml, ev_ml1, ev_ml2, ev_ml2x, ev_isL, ev_mapp, ev_popC, ev_pop1, ev_pop2, ev_mpop, ev_mext, ev_newK, ev_newN, ev_is, ev_isNot, ev_isnN, ev_isnT, ev_isnI, ev_isnR, ev_nx, ev_seq, ev_asg, ev_asg1, ev_asg1x, ev_kNx, ev_asgT, ev_asgT1, ev_asgT1x, ev_bTup, ev_bName, ev_bCons, ev_bNil, ev_expr, ev_expr1, ev_expr1x, ev_ret, ev_ret1, ev_ret1x, ev_retN, ev_sif, ev_sif1, ev_sif1x, ev_par, ev_par1, ev_par3, ev_par31, ev_setG, ev_setG1, ev_setG2, ev_setG3, ev_setG4, ev_setG1x, ev_break, ev_cont, ev_for, ev_for1, ev_for1x, ev_runB, ev_fiSeq, ev_itT, ev_itR, ev_itL, ev_loopKnx, ev_loopKct, ev_loopKbk, ev_loopKrt, ev_loopKex, ev_loopN, ev_turn, ev_loopC, ev_wh1, ev_g4s, ev_g4n, ev_get2, ev_get21, ev_get22, ev_get23, ev_get1, ev_get11, ev_get12, ev_x3, ev_ixG, ev_ixG1, ev_ixG2, ev_gT, ev_gD, ev_gD1, ev_isGt, ev_gAti, ev_dc, ev_dc1, ev_lc, ev_lc1, ev_wipe0, ev_wipe, ev_empN, ev_empK, ev_chk1, ev_fiRng1, ev_fiRng11, ev_fiRng2, ev_fiRng21, ev_fiRng22, st_len, st_app, st_at0, st_at, st_set0, st_set, st_take, ev_ftidy, ev_fttidy, optR_some, List.set_cons_zero, List.set_cons_succ, List.length_cons, List.length_nil, List.cons_append, List.nil_append, List.map_cons, List.map_nil, List.getElem?_cons_zero, List.getElem?_cons_succ, if_true, if_false, decide_eq_true_eq, Bool.false_eq_true, reduceIte, Option.bind_some, Nat.add_assoc, Nat.reduceAdd, Nat.reduceSub, Nat.reduceLeDiff, Nat.zero_add, List.replicate, sizeLine_eq, List.length_map, Option.map_some, Option.isSome_some, gt_iff_lt, Bool.not_true, Bool.not_false, Nat.reduceLT, nf_non, nf_int, nf_bl, nf_str, nf_tup, nf_ro, nf_nil, nf_cons, nf_T, flats_T, ints_flat, Bool.and_self, Bool.true_and, Bool.and_true, tidy_app, tidyB_app, tidy_appL, dEq_int, List.cons_prefix_cons, List.nil_prefix, true_and, and_true, and_self, tidy_ok, tidy_ok0, tidyB_ok, tidyB_ok0, decide_true, decide_false, not_true_eq_false, not_false_eq_true, and_false, false_and, List.isEmpty_cons, List.isEmpty_nil, e1] at hX
  clear e1
  obtain ⟨d2, S2, e2, p2, hb2, l2⟩ := pick_app0 hb1 [.lst [.int 3, .int 3, .int 1, .int 2, .int 50, .int (1 + n1)]] rfl (by simp) (by simp) rfl
  obtain ⟨a, rfl, a1, a2⟩ : ∃ a, d2 = .int a ∧ 1 ≤ a ∧ a ≤ 50 := by
    simp only [List.mem_cons, List.not_mem_nil, or_false] at p2
    rcases p2 with rfl | rfl | rfl | rfl | rfl | rfl <;> exact ⟨_, rfl, by omega, by omega⟩
  simp only [ev_bindok, ev_bindex, ev_thenok, ev_thenex, ev_seqnx, ev_seqrt, ev_seqbk, ev_seqct, ev_seqex, ev_lstO, ev_onL, ev_lenOl, ev_lenOk, ev_var0, ev_varS, ev_c, ev_bin, ev_bin1, ev_bin1x, ev_bin2, ev_bin2x, ev_un, ev_nil, ev_cons, ev_cons1, ev_cons1x, ev_cons2, ev_cons2x, ev_tup, ev_tup1, ev_tup1x, ev_lst, ev_lst1, ev_lst1x, ev_if, ev_if1, ev_if1x, ev_call, ev_callK, ev_callK1, ev_callK1x, ev_tru, ev_tB, ev_asB, ev_tNot, ev_tNot1, ev_tNot1x, ev_tAnd, ev_tAnd1, ev_tAnd1x, ev_tOr, ev_tOr1, ev_tOr1x, ev_and, ev_and1, ev_and2, ev_or, ev_or1, ev_or2, ev_not, ev_not1, ev_not2, ev_truB, ev_truI, ev_truT, ev_truN, ev_truL, ev_yes, ev_sl, ev_sl1, ev_sl2, ev_sl3, ev_oN, ev_oS, ev_oS1, ev_slT, ev_slR, ev_slL, ev_add, ev_sub, ev_neg, ev_addT, ev_addL, ev_ord, ev_abs, ev_max2, ev_min2, ev_int, ev_intB, ev_lenT, ev_lenR, ev_lenL, ev_ixT, ev_ixR, ev_ixL, ev_tupT, ev_tupL, ev_revL, ev_ml, ev_ml1, ev_ml2, ev_ml2x, ev_isL, ev_mapp, ev_popC, ev_pop1, ev_pop2, ev_mpop, ev_mext, ev_newK, ev_newN, ev_is, ev_isNot, ev_isnN, ev_isnT, ev_isnI, ev_isnR, ev_nx, ev_seq, ev_asg, ev_asg1, ev_asg1x, ev_kNx, ev_asgT, ev_asgT1, ev_asgT1x, ev_bTup, ev_bName, ev_bCons, ev_bNil, ev_expr, ev_expr1, ev_expr1x, ev_ret, ev_ret1, ev_ret1x, ev_retN, ev_sif, ev_sif1, ev_sif1x, ev_par, ev_par1, ev_par3, ev_par31, ev_setG, ev_setG1, ev_setG2, ev_setG3, ev_setG4, ev_setG1x, ev_break, ev_cont, ev_for, ev_for1, ev_for1x, ev_runB, ev_fiSeq, ev_itT, ev_itR, ev_itL, ev_loopKnx, ev_loopKct, ev_loopKbk, ev_loopKrt, ev_loopKex, ev_loopN, ev_turn, ev_loopC, ev_wh1, ev_g4s, ev_g4n, ev_get2, ev_get21, ev_get22, ev_get23, ev_get1, ev_get11, ev_get12, ev_x3, ev_ixG, ev_ixG1, ev_ixG2, ev_gT, ev_gD, ev_gD1, ev_isGt, ev_gAti, ev_dc, ev_dc1, ev_lc, ev_lc1, ev_wipe0, ev_wipe, ev_empN, ev_empK, ev_chk1, ev_fiRng1, ev_fiRng11, ev_fiRng2, ev_fiRng21, ev_fiRng22, st_len, st_app, st_at0, st_at, st_set0, st_set, st_take, ev_ftidy, ev_fttidy, optR_some, List.set_cons_zero, List.set_cons_succ, List.length_cons, List.length_nil, List.cons_append, List.nil_append, List.map_cons, List.map_nil, List.getElem?_cons_zero, List.getElem?_cons_succ, if_true, if_false, decide_eq_true_eq, Bool.false_eq_true, reduceIte, Option.bind_some, Nat.add_assoc, Nat.reduceAdd, Nat.reduceSub, Nat.reduceLeDiff, Nat.zero_add, List.replicate, sizeLine_eq, List.length_map, Option.map_some, Option.isSome_some, gt_iff_lt, Bool.not_true, Bool.not_false, Nat.reduceLT, nf_non, nf_int, nf_bl, nf_str, nf_tup, nf_ro, nf_nil, nf_cons, nf_T, flats_T, ints_flat, Bool.and_self, Bool.true_and, Bool.and_true, tidy_app, tidyB_app, tidy_appL, dEq_int, List.cons_prefix_cons, List.nil_prefix, true_and, and_true, and_self, tidy_ok, tidy_ok0, tidyB_ok, tidyB_ok0, decide_true, decide_false, not_true_eq_false, not_false_eq_true, and_false, false_and, List.isEmpty_cons, List.isEmpty_nil, e2, ten_12] at hX
  clear e2
  try simp only [l2] at hX
  obtain ⟨d3, S3, e3, p3, hb3, l3⟩ := pick_app (k := 1) hb2 [.lst [.int 3, .int 3, .int 1, .int 2, .int 50, .int (1 + n1)], .lst [.int 1, .int 2, .int 5, .int 13, .int 29, .int 34, .int 169, .int 194, .int 985, .int 1325, .int 7561, .int 1000000000000]] rfl (by simp) (by simp) rfl
  obtain ⟨n3, rfl, b1, b2⟩ : ∃ a, d3 = .int a ∧ 1 ≤ a ∧ a ≤ 1000000000000 := by
    simp only [List.mem_cons, List.not_mem_nil, or_false] at p3
    rcases p3 with rfl | rfl | rfl | rfl | rfl | rfl | rfl | rfl | rfl | rfl | rfl | rfl <;> exact ⟨_, rfl, by omega, by omega⟩
  simp only [ev_bindok, ev_bindex, ev_thenok, ev_thenex, ev_seqnx, ev_seqrt, ev_seqbk, ev_seqct, ev_seqex, ev_lstO, ev_onL, ev_lenOl, ev_lenOk, ev_var0, ev_varS, ev_c, ev_bin, ev_bin1, ev_bin1x, ev_bin2, ev_bin2x, ev_un, ev_nil, ev_cons, ev_cons1, ev_cons1x, ev_cons2, ev_cons2x, ev_tup, ev_tup1, ev_tup1x, ev_lst, ev_lst1, ev_lst1x, ev_if, ev_if1, ev_if1x, ev_call, ev_callK, ev_callK1, ev_callK1x, ev_tru, ev_tB, ev_asB, ev_tNot, ev_tNot1, ev_tNot1x, ev_tAnd, ev_tAnd1, ev_tAnd1x, ev_tOr, ev_tOr1, ev_tOr1x, ev_and, ev_and1, ev_and2, ev_or, ev_or1, ev_or2, ev_not, ev_not1, ev_not2, ev_truB, ev_truI, ev_truT, ev_truN, ev_truL, ev_yes, ev_sl, ev_sl1, ev_sl2, ev_sl3, ev_oN, ev_oS, ev_oS1, ev_slT, ev_slR, ev_slL, ev_add, ev_sub, ev_neg, ev_addT, ev_addL, ev_ord, ev_abs, ev_max2, ev_min2, ev_int, ev_intB, ev_lenT, ev_lenR, ev_lenL, ev_ixT, ev_ixR, ev_ixL, ev_tupT, ev_tupL, ev_revL, ev_ml, ev_ml1, ev_ml2, ev_ml2x, ev_isL, ev_mapp, ev_popC, ev_pop1, ev_pop2, ev_mpop, ev_mext, ev_newK, ev_newN, ev_is, ev_isNot, ev_isnN, ev_isnT, ev_isnI, ev_isnR, ev_nx, ev_seq, ev_asg, ev_asg1, ev_asg1x, ev_kNx, ev_asgT, ev_asgT1, ev_asgT1x, ev_bTup, ev_bName, ev_bCons, ev_bNil, ev_expr, ev_expr1, ev_expr1x, ev_ret, ev_ret1, ev_ret1x, ev_retN, ev_sif, ev_sif1, ev_sif1x, ev_par, ev_par1, ev_par3, ev_par31, ev_setG, ev_setG1, ev_setG2, ev_setG3, ev_setG4, ev_setG1x, ev_break, ev_cont, ev_for, ev_for1, ev_for1x, ev_runB, ev_fiSeq, ev_itT, ev_itR, ev_itL, ev_loopKnx, ev_loopKct, ev_loopKbk, ev_loopKrt, ev_loopKex, ev_loopN, ev_turn, ev_loopC, ev_wh1, ev_g4s, ev_g4n, ev_get2, ev_get21, ev_get22, ev_get23, ev_get1, ev_get11, ev_get12, ev_x3, ev_ixG, ev_ixG1, ev_ixG2, ev_gT, ev_gD, ev_gD1, ev_isGt, ev_gAti, ev_dc, ev_dc1, ev_lc, ev_lc1, ev_wipe0, ev_wipe, ev_empN, ev_empK, ev_chk1, ev_fiRng1, ev_fiRng11, ev_fiRng2, ev_fiRng21, ev_fiRng22, st_len, st_app, st_at0, st_at, st_set0, st_set, st_take, ev_ftidy, ev_fttidy, optR_some, List.set_cons_zero, List.set_cons_succ, List.length_cons, List.length_nil, List.cons_append, List.nil_append, List.map_cons, List.map_nil, List.getElem?_cons_zero, List.getElem?_cons_succ, if_true, if_false, decide_eq_true_eq, Bool.false_eq_true, reduceIte, Option.bind_some, Nat.add_assoc, Nat.reduceAdd, Nat.reduceSub, Nat.reduceLeDiff, Nat.zero_add, List.replicate, sizeLine_eq, List.length_map, Option.map_some, Option.isSome_some, gt_iff_lt, Bool.not_true, Bool.not_false, Nat.reduceLT, nf_non, nf_int, nf_bl, nf_str, nf_tup, nf_ro, nf_nil, nf_cons, nf_T, flats_T, ints_flat, Bool.and_self, Bool.true_and, Bool.and_true, tidy_app, tidyB_app, tidy_appL, dEq_int, List.cons_prefix_cons, List.nil_prefix, true_and, and_true, and_self, tidy_ok, tidy_ok0, tidyB_ok, tidyB_ok0, decide_true, decide_false, not_true_eq_false, not_false_eq_true, and_false, false_and, List.isEmpty_cons, List.isEmpty_nil, e3] at hX
  clear e3
  try simp only [l3] at hX
  obtain ⟨T, hT, hbT⟩ : ∃ T, T = S3 ++ [.lst [.int 3, .int 3, .int 1, .int 2, .int 50, .int (1 + n1)], .lst [.int 1, .int 2, .int 5, .int 13, .int 29, .int 34, .int 169, .int 194, .int 985, .int 1325, .int 7561, .int 1000000000000]] ∧ BagAt T i c := ⟨_, rfl, hb3.app⟩
  rw [← hT] at hX
  generalize D.ref (List.length S3 + 1) = y4 at hX
  clear hT
  obtain ⟨f, hf, f1⟩ : ∃ f, (if a = 1 then R.ok (D.int 3) T else .ok (.int 1) T) = .ok (.int f) T ∧ (f = 1 ∨ f = 3) := by
    split
    · exact ⟨3, rfl, .inr rfl⟩
    · exact ⟨1, rfl, .inl rfl⟩
  have m1 : dMul (.int n3) (.int f) T = .ok (.int (n3 * f)) T := dMul_r (by omega)
  obtain ⟨n5, S5, e5, p5, q5, hb5, l5⟩ := draw_app0 hbT (k := 2) (by decide) (by decide)
  simp only [ev_bindok, ev_bindex, ev_thenok, ev_thenex, ev_seqnx, ev_seqrt, ev_seqbk, ev_seqct, ev_seqex, ev_lstO, ev_onL, ev_lenOl, ev_lenOk, ev_var0, ev_varS, ev_c, ev_bin, ev_bin1, ev_bin1x, ev_bin2, ev_bin2x, ev_un, ev_nil, ev_cons, ev_cons1, ev_cons1x, ev_cons2, ev_cons2x, ev_tup, ev_tup1, ev_tup1x, ev_lst, ev_lst1, ev_lst1x, ev_if, ev_if1, ev_if1x, ev_call, ev_callK, ev_callK1, ev_callK1x, ev_tru, ev_tB, ev_asB, ev_tNot, ev_tNot1, ev_tNot1x, ev_tAnd, ev_tAnd1, ev_tAnd1x, ev_tOr, ev_tOr1, ev_tOr1x, ev_and, ev_and1, ev_and2, ev_or, ev_or1, ev_or2, ev_not, ev_not1, ev_not2, ev_truB, ev_truI, ev_truT, ev_truN, ev_truL, ev_yes, ev_sl, ev_sl1, ev_sl2, ev_sl3, ev_oN, ev_oS, ev_oS1, ev_slT, ev_slR, ev_slL, ev_add, ev_sub, ev_neg, ev_addT, ev_addL, ev_ord, ev_abs, ev_max2, ev_min2, ev_int, ev_intB, ev_lenT, ev_lenR, ev_lenL, ev_ixT, ev_ixR, ev_ixL, ev_tupT, ev_tupL, ev_revL, ev_ml, ev_ml1, ev_ml2, ev_ml2x, ev_isL, ev_mapp, ev_popC, ev_pop1, ev_pop2, ev_mpop, ev_mext, ev_newK, ev_newN, ev_is, ev_isNot, ev_isnN, ev_isnT, ev_isnI, ev_isnR, ev_nx, ev_seq, ev_asg, ev_asg1, ev_asg1x, ev_kNx, ev_asgT, ev_asgT1, ev_asgT1x, ev_bTup, ev_bName, ev_bCons, ev_bNil, ev_expr, ev_expr1, ev_expr1x, ev_ret, ev_ret1, ev_ret1x, ev_retN, ev_sif, ev_sif1, ev_sif1x, ev_par, ev_par1, ev_par3, ev_par31, ev_setG, ev_setG1, ev_setG2, ev_setG3, ev_setG4, ev_setG1x, ev_break, ev_cont, ev_for, ev_for1, ev_for1x, ev_runB, ev_fiSeq, ev_itT, ev_itR, ev_itL, ev_loopKnx, ev_loopKct, ev_loopKbk, ev_loopKrt, ev_loopKex, ev_loopN, ev_turn, ev_loopC, ev_wh1, ev_g4s, ev_g4n, ev_get2, ev_get21, ev_get22, ev_get23, ev_get1, ev_get11, ev_get12, ev_x3, ev_ixG, ev_ixG1, ev_ixG2, ev_gT, ev_gD, ev_gD1, ev_isGt, ev_gAti, ev_dc, ev_dc1, ev_lc, ev_lc1, ev_wipe0, ev_wipe, ev_empN, ev_empK, ev_chk1, ev_fiRng1, ev_fiRng11, ev_fiRng2, ev_fiRng21, ev_fiRng22, st_len, st_app, st_at0, st_at, st_set0, st_set, st_take, ev_ftidy, ev_fttidy, optR_some, List.set_cons_zero, List.set_cons_succ, List.length_cons, List.length_nil, List.cons_append, List.nil_append, List.map_cons, List.map_nil, List.getElem?_cons_zero, List.getElem?_cons_succ, if_true, if_false, decide_eq_true_eq, Bool.false_eq_true, reduceIte, Option.bind_some, Nat.add_assoc, Nat.reduceAdd, Nat.reduceSub, Nat.reduceLeDiff, Nat.zero_add, List.replicate, sizeLine_eq, List.length_map, Option.map_some, Option.isSome_some, gt_iff_lt, Bool.not_true, Bool.not_false, Nat.reduceLT, nf_non, nf_int, nf_bl, nf_str, nf_tup, nf_ro, nf_nil, nf_cons, nf_T, flats_T, ints_flat, Bool.and_self, Bool.true_and, Bool.and_true, tidy_app, tidyB_app, tidy_appL, dEq_int, List.cons_prefix_cons, List.nil_prefix, true_and, and_true, and_self, tidy_ok, tidy_ok0, tidyB_ok, tidyB_ok0, decide_true, decide_false, not_true_eq_false, not_false_eq_true, and_false, false_and, List.isEmpty_cons, List.isEmpty_nil, hf, m1, e5] at hX
  have hnear : -1 ≤ n3 * f - n5 ∧ n3 * f - n5 ≤ 3000000000000 := by rcases f1 with rfl | rfl <;> omega
  generalize n3 * f - n5 = near at hX hnear
  obtain ⟨n6, S6, e6, p6, q6, hb6, l6⟩ := draw_app0 hb5 (k := 50) (by decide) (by decide)
  simp only [ev_bindok, ev_bindex, ev_thenok, ev_thenex, ev_seqnx, ev_seqrt, ev_seqbk, ev_seqct, ev_seqex, ev_lstO, ev_onL, ev_lenOl, ev_lenOk, ev_var0, ev_varS, ev_c, ev_bin, ev_bin1, ev_bin1x, ev_bin2, ev_bin2x, ev_un, ev_nil, ev_cons, ev_cons1, ev_cons1x, ev_cons2, ev_cons2x, ev_tup, ev_tup1, ev_tup1x, ev_lst, ev_lst1, ev_lst1x, ev_if, ev_if1, ev_if1x, ev_call, ev_callK, ev_callK1, ev_callK1x, ev_tru, ev_tB, ev_asB, ev_tNot, ev_tNot1, ev_tNot1x, ev_tAnd, ev_tAnd1, ev_tAnd1x, ev_tOr, ev_tOr1, ev_tOr1x, ev_and, ev_and1, ev_and2, ev_or, ev_or1, ev_or2, ev_not, ev_not1, ev_not2, ev_truB, ev_truI, ev_truT, ev_truN, ev_truL, ev_yes, ev_sl, ev_sl1, ev_sl2, ev_sl3, ev_oN, ev_oS, ev_oS1, ev_slT, ev_slR, ev_slL, ev_add, ev_sub, ev_neg, ev_addT, ev_addL, ev_ord, ev_abs, ev_max2, ev_min2, ev_int, ev_intB, ev_lenT, ev_lenR, ev_lenL, ev_ixT, ev_ixR, ev_ixL, ev_tupT, ev_tupL, ev_revL, ev_ml, ev_ml1, ev_ml2, ev_ml2x, ev_isL, ev_mapp, ev_popC, ev_pop1, ev_pop2, ev_mpop, ev_mext, ev_newK, ev_newN, ev_is, ev_isNot, ev_isnN, ev_isnT, ev_isnI, ev_isnR, ev_nx, ev_seq, ev_asg, ev_asg1, ev_asg1x, ev_kNx, ev_asgT, ev_asgT1, ev_asgT1x, ev_bTup, ev_bName, ev_bCons, ev_bNil, ev_expr, ev_expr1, ev_expr1x, ev_ret, ev_ret1, ev_ret1x, ev_retN, ev_sif, ev_sif1, ev_sif1x, ev_par, ev_par1, ev_par3, ev_par31, ev_setG, ev_setG1, ev_setG2, ev_setG3, ev_setG4, ev_setG1x, ev_break, ev_cont, ev_for, ev_for1, ev_for1x, ev_runB, ev_fiSeq, ev_itT, ev_itR, ev_itL, ev_loopKnx, ev_loopKct, ev_loopKbk, ev_loopKrt, ev_loopKex, ev_loopN, ev_turn, ev_loopC, ev_wh1, ev_g4s, ev_g4n, ev_get2, ev_get21, ev_get22, ev_get23, ev_get1, ev_get11, ev_get12, ev_x3, ev_ixG, ev_ixG1, ev_ixG2, ev_gT, ev_gD, ev_gD1, ev_isGt, ev_gAti, ev_dc, ev_dc1, ev_lc, ev_lc1, ev_wipe0, ev_wipe, ev_empN, ev_empK, ev_chk1, ev_fiRng1, ev_fiRng11, ev_fiRng2, ev_fiRng21, ev_fiRng22, st_len, st_app, st_at0, st_at, st_set0, st_set, st_take, ev_ftidy, ev_fttidy, optR_some, List.set_cons_zero, List.set_cons_succ, List.length_cons, List.length_nil, List.cons_append, List.nil_append, List.map_cons, List.map_nil, List.getElem?_cons_zero, List.getElem?_cons_succ, if_true, if_false, decide_eq_true_eq, Bool.false_eq_true, reduceIte, Option.bind_some, Nat.add_assoc, Nat.reduceAdd, Nat.reduceSub, Nat.reduceLeDiff, Nat.zero_add, List.replicate, sizeLine_eq, List.length_map, Option.map_some, Option.isSome_some, gt_iff_lt, Bool.not_true, Bool.not_false, Nat.reduceLT, nf_non, nf_int, nf_bl, nf_str, nf_tup, nf_ro, nf_nil, nf_cons, nf_T, flats_T, ints_flat, Bool.and_self, Bool.true_and, Bool.and_true, tidy_app, tidyB_app, tidy_appL, dEq_int, List.cons_prefix_cons, List.nil_prefix, true_and, and_true, and_self, tidy_ok, tidy_ok0, tidyB_ok, tidyB_ok0, decide_true, decide_false, not_true_eq_false, not_false_eq_true, and_false, false_and, List.isEmpty_cons, List.isEmpty_nil, e6] at hX
  obtain ⟨n7, S7, e7, p7, q7, hb7, l7⟩ := draw_app0 hb6 (k := 13) (by decide) (by decide)
  obtain ⟨t, u, v, z1, z2, z3⟩ := noughts (S := S7) p7 q7
  simp only [ev_bindok, ev_bindex, ev_thenok, ev_thenex, ev_seqnx, ev_seqrt, ev_seqbk, ev_seqct, ev_seqex, ev_lstO, ev_onL, ev_lenOl, ev_lenOk, ev_var0, ev_varS, ev_c, ev_bin, ev_bin1, ev_bin1x, ev_bin2, ev_bin2x, ev_un, ev_nil, ev_cons, ev_cons1, ev_cons1x, ev_cons2, ev_cons2x, ev_tup, ev_tup1, ev_tup1x, ev_lst, ev_lst1, ev_lst1x, ev_if, ev_if1, ev_if1x, ev_call, ev_callK, ev_callK1, ev_callK1x, ev_tru, ev_tB, ev_asB, ev_tNot, ev_tNot1, ev_tNot1x, ev_tAnd, ev_tAnd1, ev_tAnd1x, ev_tOr, ev_tOr1, ev_tOr1x, ev_and, ev_and1, ev_and2, ev_or, ev_or1, ev_or2, ev_not, ev_not1, ev_not2, ev_truB, ev_truI, ev_truT, ev_truN, ev_truL, ev_yes, ev_sl, ev_sl1, ev_sl2, ev_sl3, ev_oN, ev_oS, ev_oS1, ev_slT, ev_slR, ev_slL, ev_add, ev_sub, ev_neg, ev_addT, ev_addL, ev_ord, ev_abs, ev_max2, ev_min2, ev_int, ev_intB, ev_lenT, ev_lenR, ev_lenL, ev_ixT, ev_ixR, ev_ixL, ev_tupT, ev_tupL, ev_revL, ev_ml, ev_ml1, ev_ml2, ev_ml2x, ev_isL, ev_mapp, ev_popC, ev_pop1, ev_pop2, ev_mpop, ev_mext, ev_newK, ev_newN, ev_is, ev_isNot, ev_isnN, ev_isnT, ev_isnI, ev_isnR, ev_nx, ev_seq, ev_asg, ev_asg1, ev_asg1x, ev_kNx, ev_asgT, ev_asgT1, ev_asgT1x, ev_bTup, ev_bName, ev_bCons, ev_bNil, ev_expr, ev_expr1, ev_expr1x, ev_ret, ev_ret1, ev_ret1x, ev_retN, ev_sif, ev_sif1, ev_sif1x, ev_par, ev_par1, ev_par3, ev_par31, ev_setG, ev_setG1, ev_setG2, ev_setG3, ev_setG4, ev_setG1x, ev_break, ev_cont, ev_for, ev_for1, ev_for1x, ev_runB, ev_fiSeq, ev_itT, ev_itR, ev_itL, ev_loopKnx, ev_loopKct, ev_loopKbk, ev_loopKrt, ev_loopKex, ev_loopN, ev_turn, ev_loopC, ev_wh1, ev_g4s, ev_g4n, ev_get2, ev_get21, ev_get22, ev_get23, ev_get1, ev_get11, ev_get12, ev_x3, ev_ixG, ev_ixG1, ev_ixG2, ev_gT, ev_gD, ev_gD1, ev_isGt, ev_gAti, ev_dc, ev_dc1, ev_lc, ev_lc1, ev_wipe0, ev_wipe, ev_empN, ev_empK, ev_chk1, ev_fiRng1, ev_fiRng11, ev_fiRng2, ev_fiRng21, ev_fiRng22, st_len, st_app, st_at0, st_at, st_set0, st_set, st_take, ev_ftidy, ev_fttidy, optR_some, List.set_cons_zero, List.set_cons_succ, List.length_cons, List.length_nil, List.cons_append, List.nil_append, List.map_cons, List.map_nil, List.getElem?_cons_zero, List.getElem?_cons_succ, if_true, if_false, decide_eq_true_eq, Bool.false_eq_true, reduceIte, Option.bind_some, Nat.add_assoc, Nat.reduceAdd, Nat.reduceSub, Nat.reduceLeDiff, Nat.zero_add, List.replicate, sizeLine_eq, List.length_map, Option.map_some, Option.isSome_some, gt_iff_lt, Bool.not_true, Bool.not_false, Nat.reduceLT, nf_non, nf_int, nf_bl, nf_str, nf_tup, nf_ro, nf_nil, nf_cons, nf_T, flats_T, ints_flat, Bool.and_self, Bool.true_and, Bool.and_true, tidy_app, tidyB_app, tidy_appL, dEq_int, List.cons_prefix_cons, List.nil_prefix, true_and, and_true, and_self, tidy_ok, tidy_ok0, tidyB_ok, tidyB_ok0, decide_true, decide_false, not_true_eq_false, not_false_eq_true, and_false, false_and, List.isEmpty_cons, List.isEmpty_nil, e7, z1, z2, z3, ten_12] at hX
  obtain ⟨d8, S8, e8, p8, hb8, l8⟩ := pick_app0 hb7 [.lst [.int near, .int near, .int (1 + n6), .int v]] rfl (by simp) (by simp) rfl
  obtain ⟨n8, rfl⟩ : ∃ a, d8 = .int a := by
    simp only [List.mem_cons, List.not_mem_nil, or_false] at p8
    rcases p8 with rfl | rfl | rfl | rfl <;> exact ⟨_, rfl⟩
  simp only [ev_bindok, ev_bindex, ev_thenok, ev_thenex, ev_seqnx, ev_seqrt, ev_seqbk, ev_seqct, ev_seqex, ev_lstO, ev_onL, ev_lenOl, ev_lenOk, ev_var0, ev_varS, ev_c, ev_bin, ev_bin1, ev_bin1x, ev_bin2, ev_bin2x, ev_un, ev_nil, ev_cons, ev_cons1, ev_cons1x, ev_cons2, ev_cons2x, ev_tup, ev_tup1, ev_tup1x, ev_lst, ev_lst1, ev_lst1x, ev_if, ev_if1, ev_if1x, ev_call, ev_callK, ev_callK1, ev_callK1x, ev_tru, ev_tB, ev_asB, ev_tNot, ev_tNot1, ev_tNot1x, ev_tAnd, ev_tAnd1, ev_tAnd1x, ev_tOr, ev_tOr1, ev_tOr1x, ev_and, ev_and1, ev_and2, ev_or, ev_or1, ev_or2, ev_not, ev_not1, ev_not2, ev_truB, ev_truI, ev_truT, ev_truN, ev_truL, ev_yes, ev_sl, ev_sl1, ev_sl2, ev_sl3, ev_oN, ev_oS, ev_oS1, ev_slT, ev_slR, ev_slL, ev_add, ev_sub, ev_neg, ev_addT, ev_addL, ev_ord, ev_abs, ev_max2, ev_min2, ev_int, ev_intB, ev_lenT, ev_lenR, ev_lenL, ev_ixT, ev_ixR, ev_ixL, ev_tupT, ev_tupL, ev_revL, ev_ml, ev_ml1, ev_ml2, ev_ml2x, ev_isL, ev_mapp, ev_popC, ev_pop1, ev_pop2, ev_mpop, ev_mext, ev_newK, ev_newN, ev_is, ev_isNot, ev_isnN, ev_isnT, ev_isnI, ev_isnR, ev_nx, ev_seq, ev_asg, ev_asg1, ev_asg1x, ev_kNx, ev_asgT, ev_asgT1, ev_asgT1x, ev_bTup, ev_bName, ev_bCons, ev_bNil, ev_expr, ev_expr1, ev_expr1x, ev_ret, ev_ret1, ev_ret1x, ev_retN, ev_sif, ev_sif1, ev_sif1x, ev_par, ev_par1, ev_par3, ev_par31, ev_setG, ev_setG1, ev_setG2, ev_setG3, ev_setG4, ev_setG1x, ev_break, ev_cont, ev_for, ev_for1, ev_for1x, ev_runB, ev_fiSeq, ev_itT, ev_itR, ev_itL, ev_loopKnx, ev_loopKct, ev_loopKbk, ev_loopKrt, ev_loopKex, ev_loopN, ev_turn, ev_loopC, ev_wh1, ev_g4s, ev_g4n, ev_get2, ev_get21, ev_get22, ev_get23, ev_get1, ev_get11, ev_get12, ev_x3, ev_ixG, ev_ixG1, ev_ixG2, ev_gT, ev_gD, ev_gD1, ev_isGt, ev_gAti, ev_dc, ev_dc1, ev_lc, ev_lc1, ev_wipe0, ev_wipe, ev_empN, ev_empK, ev_chk1, ev_fiRng1, ev_fiRng11, ev_fiRng2, ev_fiRng21, ev_fiRng22, st_len, st_app, st_at0, st_at, st_set0, st_set, st_take, ev_ftidy, ev_fttidy, optR_some, List.set_cons_zero, List.set_cons_succ, List.length_cons, List.length_nil, List.cons_append, List.nil_append, List.map_cons, List.map_nil, List.getElem?_cons_zero, List.getElem?_cons_succ, if_true, if_false, decide_eq_true_eq, Bool.false_eq_true, reduceIte, Option.bind_some, Nat.add_assoc, Nat.reduceAdd, Nat.reduceSub, Nat.reduceLeDiff, Nat.zero_add, List.replicate, sizeLine_eq, List.length_map, Option.map_some, Option.isSome_some, gt_iff_lt, Bool.not_true, Bool.not_false, Nat.reduceLT, nf_non, nf_int, nf_bl, nf_str, nf_tup, nf_ro, nf_nil, nf_cons, nf_T, flats_T, ints_flat, Bool.and_self, Bool.true_and, Bool.and_true, tidy_app, tidyB_app, tidy_appL, dEq_int, List.cons_prefix_cons, List.nil_prefix, true_and, and_true, and_self, tidy_ok, tidy_ok0, tidyB_ok, tidyB_ok0, decide_true, decide_false, not_true_eq_false, not_false_eq_true, and_false, false_and, List.isEmpty_cons, List.isEmpty_nil, e8] at hX
  obtain ⟨U, hU, hbU⟩ : ∃ U, U = S8 ++ [.lst [.int near, .int near, .int (1 + n6), .int v]] ∧ BagAt U i c := ⟨_, rfl, hb8.app⟩
  rw [← hU] at hX
  generalize D.ref (List.length S7) = y6 at hX
  obtain ⟨most, hm, h1, h2⟩ : ∃ m, m = max 1 (min 1000000000000 n8) ∧ 1 ≤ m ∧ m ≤ 1000000000000 := ⟨_, rfl, by omega, by omega⟩
  rw [← hm] at hX
  clear hm hU e8 p8 e7 e6 e5 m1 hf z1 z2 z3 p3
  have t1 := fun S => threes_to_ok (a := a) h1 h2 S
  have t2 := fun S => three_numbers_ok (a := a) h1 h2 S
  have t3 := triples_ok (a := a) h1 h2 U
  have t4 := numbers_ok (S := U ++ [.lst ((TT a most).map dT)]) (i := U.length) (ts := TT a most) (by simp) (by have := TT_len (a := a) (m := most); omega)
  have pick2 : pick [1, 0] [D.int most, D.int a] = [.int a, .int most] := rfl
  generalize hP : D.tup ((TT a most).map dT) = dP at *
  generalize hN : D.tup ((NUM (TT a most)).map .int) = dN at *
  have fP : flatD dP = true := by rw [← hP]; exact flats_T _
  have fN : flatD dN = true := by rw [← hN]; exact ints_flat _
  have fl2 : flatDs [dP, dN] = true := by unfold flatDs flatDs flatDs; rw [fP, fN]; rfl
  have gp := gp_P (a := a) (m := most)
  have eP : (.list [PP a most, PP a most] : PyData) = .list [.list (toPs [dP, dN]), .list (toPs [dP, dN])] := by rw [← hP, ← hN]; rfl
  rw [eP] at gp
  have r1 := gp.repr (S := U ++ [.lst ((TT a most).map dT), .lst [dP, dN], .lst [dP, dN], .lst [dP, dN], .lst [.ref (U.length + 2), .ref (U.length + 3)]]) (x := .ref (U.length + 4)) (pyN_two (j := U.length + 2) (k := U.length + 3) (by simp) (by simp) (by simp) fl2 fl2) (by decide) (by decide)
  have r2 := gp.repr (S := U ++ [.lst ((TT a most).map dT), .lst [dP, dN], .lst [dP, dN], .lst [dP, dN], .lst [.ref (U.length + 1), .ref (U.length + 1)]]) (x := .ref (U.length + 4)) (pyN_two (j := U.length + 1) (k := U.length + 1) (by simp) (by simp) (by simp) fl2 fl2) (by decide) (by decide)
  have ok := gp.ok
  generalize (PyData.list [.list (toPs [dP, dN]), .list (toPs [dP, dN])]).shown = Z at r1 r2 ok
  have ne := fun S => dNe_str (S := S) ok ok
  simp only [ev_bindok, ev_bindex, ev_thenok, ev_thenex, ev_seqnx, ev_seqrt, ev_seqbk, ev_seqct, ev_seqex, ev_lstO, ev_onL, ev_lenOl, ev_lenOk, ev_var0, ev_varS, ev_c, ev_bin, ev_bin1, ev_bin1x, ev_bin2, ev_bin2x, ev_un, ev_nil, ev_cons, ev_cons1, ev_cons1x, ev_cons2, ev_cons2x, ev_tup, ev_tup1, ev_tup1x, ev_lst, ev_lst1, ev_lst1x, ev_if, ev_if1, ev_if1x, ev_call, ev_callK, ev_callK1, ev_callK1x, ev_tru, ev_tB, ev_asB, ev_tNot, ev_tNot1, ev_tNot1x, ev_tAnd, ev_tAnd1, ev_tAnd1x, ev_tOr, ev_tOr1, ev_tOr1x, ev_and, ev_and1, ev_and2, ev_or, ev_or1, ev_or2, ev_not, ev_not1, ev_not2, ev_truB, ev_truI, ev_truT, ev_truN, ev_truL, ev_yes, ev_sl, ev_sl1, ev_sl2, ev_sl3, ev_oN, ev_oS, ev_oS1, ev_slT, ev_slR, ev_slL, ev_add, ev_sub, ev_neg, ev_addT, ev_addL, ev_ord, ev_abs, ev_max2, ev_min2, ev_int, ev_intB, ev_lenT, ev_lenR, ev_lenL, ev_ixT, ev_ixR, ev_ixL, ev_tupT, ev_tupL, ev_revL, ev_ml, ev_ml1, ev_ml2, ev_ml2x, ev_isL, ev_mapp, ev_popC, ev_pop1, ev_pop2, ev_mpop, ev_mext, ev_newK, ev_newN, ev_is, ev_isNot, ev_isnN, ev_isnT, ev_isnI, ev_isnR, ev_nx, ev_seq, ev_asg, ev_asg1, ev_asg1x, ev_kNx, ev_asgT, ev_asgT1, ev_asgT1x, ev_bTup, ev_bName, ev_bCons, ev_bNil, ev_expr, ev_expr1, ev_expr1x, ev_ret, ev_ret1, ev_ret1x, ev_retN, ev_sif, ev_sif1, ev_sif1x, ev_par, ev_par1, ev_par3, ev_par31, ev_setG, ev_setG1, ev_setG2, ev_setG3, ev_setG4, ev_setG1x, ev_break, ev_cont, ev_for, ev_for1, ev_for1x, ev_runB, ev_fiSeq, ev_itT, ev_itR, ev_itL, ev_loopKnx, ev_loopKct, ev_loopKbk, ev_loopKrt, ev_loopKex, ev_loopN, ev_turn, ev_loopC, ev_wh1, ev_g4s, ev_g4n, ev_get2, ev_get21, ev_get22, ev_get23, ev_get1, ev_get11, ev_get12, ev_x3, ev_ixG, ev_ixG1, ev_ixG2, ev_gT, ev_gD, ev_gD1, ev_isGt, ev_gAti, ev_dc, ev_dc1, ev_lc, ev_lc1, ev_wipe0, ev_wipe, ev_empN, ev_empK, ev_chk1, ev_fiRng1, ev_fiRng11, ev_fiRng2, ev_fiRng21, ev_fiRng22, st_len, st_app, st_at0, st_at, st_set0, st_set, st_take, ev_ftidy, ev_fttidy, optR_some, List.set_cons_zero, List.set_cons_succ, List.length_cons, List.length_nil, List.cons_append, List.nil_append, List.map_cons, List.map_nil, List.getElem?_cons_zero, List.getElem?_cons_succ, if_true, if_false, decide_eq_true_eq, Bool.false_eq_true, reduceIte, Option.bind_some, Nat.add_assoc, Nat.reduceAdd, Nat.reduceSub, Nat.reduceLeDiff, Nat.zero_add, List.replicate, sizeLine_eq, List.length_map, Option.map_some, Option.isSome_some, gt_iff_lt, Bool.not_true, Bool.not_false, Nat.reduceLT, nf_non, nf_int, nf_bl, nf_str, nf_tup, nf_ro, nf_nil, nf_cons, nf_T, flats_T, ints_flat, Bool.and_self, Bool.true_and, Bool.and_true, tidy_app, tidyB_app, tidy_appL, dEq_int, List.cons_prefix_cons, List.nil_prefix, true_and, and_true, and_self, tidy_ok, tidy_ok0, tidyB_ok, tidyB_ok0, decide_true, decide_false, not_true_eq_false, not_false_eq_true, and_false, false_and, List.isEmpty_cons, List.isEmpty_nil, t1, t2, t3, t4, pick2, hP, r1, r2, ne, ne_eq] at hX
  clear t1 t2 t3 t4 r1 r2 ne gp eP pick2
  obtain ⟨n9, S9, e9, p9, q9, hb9, l9⟩ := draw_app hbU [O.lst (List.map dT (TT a most)), O.lst [dP, dN], O.lst [dP, dN], O.lst [dP, dN]] (k := most) (by omega) (by omega)
  simp only [ev_bindok, ev_bindex, ev_thenok, ev_thenex, ev_seqnx, ev_seqrt, ev_seqbk, ev_seqct, ev_seqex, ev_lstO, ev_onL, ev_lenOl, ev_lenOk, ev_var0, ev_varS, ev_c, ev_bin, ev_bin1, ev_bin1x, ev_bin2, ev_bin2x, ev_un, ev_nil, ev_cons, ev_cons1, ev_cons1x, ev_cons2, ev_cons2x, ev_tup, ev_tup1, ev_tup1x, ev_lst, ev_lst1, ev_lst1x, ev_if, ev_if1, ev_if1x, ev_call, ev_callK, ev_callK1, ev_callK1x, ev_tru, ev_tB, ev_asB, ev_tNot, ev_tNot1, ev_tNot1x, ev_tAnd, ev_tAnd1, ev_tAnd1x, ev_tOr, ev_tOr1, ev_tOr1x, ev_and, ev_and1, ev_and2, ev_or, ev_or1, ev_or2, ev_not, ev_not1, ev_not2, ev_truB, ev_truI, ev_truT, ev_truN, ev_truL, ev_yes, ev_sl, ev_sl1, ev_sl2, ev_sl3, ev_oN, ev_oS, ev_oS1, ev_slT, ev_slR, ev_slL, ev_add, ev_sub, ev_neg, ev_addT, ev_addL, ev_ord, ev_abs, ev_max2, ev_min2, ev_int, ev_intB, ev_lenT, ev_lenR, ev_lenL, ev_ixT, ev_ixR, ev_ixL, ev_tupT, ev_tupL, ev_revL, ev_ml, ev_ml1, ev_ml2, ev_ml2x, ev_isL, ev_mapp, ev_popC, ev_pop1, ev_pop2, ev_mpop, ev_mext, ev_newK, ev_newN, ev_is, ev_isNot, ev_isnN, ev_isnT, ev_isnI, ev_isnR, ev_nx, ev_seq, ev_asg, ev_asg1, ev_asg1x, ev_kNx, ev_asgT, ev_asgT1, ev_asgT1x, ev_bTup, ev_bName, ev_bCons, ev_bNil, ev_expr, ev_expr1, ev_expr1x, ev_ret, ev_ret1, ev_ret1x, ev_retN, ev_sif, ev_sif1, ev_sif1x, ev_par, ev_par1, ev_par3, ev_par31, ev_setG, ev_setG1, ev_setG2, ev_setG3, ev_setG4, ev_setG1x, ev_break, ev_cont, ev_for, ev_for1, ev_for1x, ev_runB, ev_fiSeq, ev_itT, ev_itR, ev_itL, ev_loopKnx, ev_loopKct, ev_loopKbk, ev_loopKrt, ev_loopKex, ev_loopN, ev_turn, ev_loopC, ev_wh1, ev_g4s, ev_g4n, ev_get2, ev_get21, ev_get22, ev_get23, ev_get1, ev_get11, ev_get12, ev_x3, ev_ixG, ev_ixG1, ev_ixG2, ev_gT, ev_gD, ev_gD1, ev_isGt, ev_gAti, ev_dc, ev_dc1, ev_lc, ev_lc1, ev_wipe0, ev_wipe, ev_empN, ev_empK, ev_chk1, ev_fiRng1, ev_fiRng11, ev_fiRng2, ev_fiRng21, ev_fiRng22, st_len, st_app, st_at0, st_at, st_set0, st_set, st_take, ev_ftidy, ev_fttidy, optR_some, List.set_cons_zero, List.set_cons_succ, List.length_cons, List.length_nil, List.cons_append, List.nil_append, List.map_cons, List.map_nil, List.getElem?_cons_zero, List.getElem?_cons_succ, if_true, if_false, decide_eq_true_eq, Bool.false_eq_true, reduceIte, Option.bind_some, Nat.add_assoc, Nat.reduceAdd, Nat.reduceSub, Nat.reduceLeDiff, Nat.zero_add, List.replicate, sizeLine_eq, List.length_map, Option.map_some, Option.isSome_some, gt_iff_lt, Bool.not_true, Bool.not_false, Nat.reduceLT, nf_non, nf_int, nf_bl, nf_str, nf_tup, nf_ro, nf_nil, nf_cons, nf_T, flats_T, ints_flat, Bool.and_self, Bool.true_and, Bool.and_true, tidy_app, tidyB_app, tidy_appL, dEq_int, List.cons_prefix_cons, List.nil_prefix, true_and, and_true, and_self, tidy_ok, tidy_ok0, tidyB_ok, tidyB_ok0, decide_true, decide_false, not_true_eq_false, not_false_eq_true, and_false, false_and, List.isEmpty_cons, List.isEmpty_nil, e9] at hX
  clear e9
  simp only [l9] at hX
  have hless : 1 + n9 ≤ most := by omega
  have c3 := fun {x0 x1 x2 x3 x4 x5 x6 x7 x8 x9 x11 x13 x14 x15 x16 x17 : Option D} => lc3_ok (S := S9) (k := 2) (a := a) (m := most) (less := 1 + n9) (dN := dN) (l := [O.lst (List.map dT (TT a most)), O.lst [dP, dN], O.lst [dP, dN], O.lst [dP, dN]]) (x0 := x0) (x1 := x1) (x2 := x2) (x3 := x3) (x4 := x4) (x5 := x5) (x6 := x6) (x7 := x7) (x8 := x8) (x9 := x9) (x11 := x11) (x13 := x13) (x14 := x14) (x15 := x15) (x16 := x16) (x17 := x17) hless (by rw [hP]; rfl)
  have c6 := fun {x0 x1 x2 x3 x4 x5 x6 x7 x8 x9 x11 x12 x13 x14 x15 x16 x17 : Option D} => lc6_ok (S := S9) (k := 2) (a := a) (m := most) (dP := dP) (l := [O.lst (List.map dT (TT a most)), O.lst [dP, dN], O.lst [dP, dN], O.lst [dP, dN]]) (x0 := x0) (x1 := x1) (x2 := x2) (x3 := x3) (x4 := x4) (x5 := x5) (x6 := x6) (x7 := x7) (x8 := x8) (x9 := x9) (x11 := x11) (x12 := x12) (x13 := x13) (x14 := x14) (x15 := x15) (x16 := x16) (x17 := x17) (by rw [hN]; rfl)
  simp only [ev_bindok, ev_bindex, ev_thenok, ev_thenex, ev_seqnx, ev_seqrt, ev_seqbk, ev_seqct, ev_seqex, ev_lstO, ev_onL, ev_lenOl, ev_lenOk, ev_var0, ev_varS, ev_c, ev_bin, ev_bin1, ev_bin1x, ev_bin2, ev_bin2x, ev_un, ev_nil, ev_cons, ev_cons1, ev_cons1x, ev_cons2, ev_cons2x, ev_tup, ev_tup1, ev_tup1x, ev_lst, ev_lst1, ev_lst1x, ev_if, ev_if1, ev_if1x, ev_call, ev_callK, ev_callK1, ev_callK1x, ev_tru, ev_tB, ev_asB, ev_tNot, ev_tNot1, ev_tNot1x, ev_tAnd, ev_tAnd1, ev_tAnd1x, ev_tOr, ev_tOr1, ev_tOr1x, ev_and, ev_and1, ev_and2, ev_or, ev_or1, ev_or2, ev_not, ev_not1, ev_not2, ev_truB, ev_truI, ev_truT, ev_truN, ev_truL, ev_yes, ev_sl, ev_sl1, ev_sl2, ev_sl3, ev_oN, ev_oS, ev_oS1, ev_slT, ev_slR, ev_slL, ev_add, ev_sub, ev_neg, ev_addT, ev_addL, ev_ord, ev_abs, ev_max2, ev_min2, ev_int, ev_intB, ev_lenT, ev_lenR, ev_lenL, ev_ixT, ev_ixR, ev_ixL, ev_tupT, ev_tupL, ev_revL, ev_ml, ev_ml1, ev_ml2, ev_ml2x, ev_isL, ev_mapp, ev_popC, ev_pop1, ev_pop2, ev_mpop, ev_mext, ev_newK, ev_newN, ev_is, ev_isNot, ev_isnN, ev_isnT, ev_isnI, ev_isnR, ev_nx, ev_seq, ev_asg, ev_asg1, ev_asg1x, ev_kNx, ev_asgT, ev_asgT1, ev_asgT1x, ev_bTup, ev_bName, ev_bCons, ev_bNil, ev_expr, ev_expr1, ev_expr1x, ev_ret, ev_ret1, ev_ret1x, ev_retN, ev_sif, ev_sif1, ev_sif1x, ev_par, ev_par1, ev_par3, ev_par31, ev_setG, ev_setG1, ev_setG2, ev_setG3, ev_setG4, ev_setG1x, ev_break, ev_cont, ev_for, ev_for1, ev_for1x, ev_runB, ev_fiSeq, ev_itT, ev_itR, ev_itL, ev_loopKnx, ev_loopKct, ev_loopKbk, ev_loopKrt, ev_loopKex, ev_loopN, ev_turn, ev_loopC, ev_wh1, ev_g4s, ev_g4n, ev_get2, ev_get21, ev_get22, ev_get23, ev_get1, ev_get11, ev_get12, ev_x3, ev_ixG, ev_ixG1, ev_ixG2, ev_gT, ev_gD, ev_gD1, ev_isGt, ev_gAti, ev_dc, ev_dc1, ev_lc, ev_lc1, ev_wipe0, ev_wipe, ev_empN, ev_empK, ev_chk1, ev_fiRng1, ev_fiRng11, ev_fiRng2, ev_fiRng21, ev_fiRng22, st_len, st_app, st_at0, st_at, st_set0, st_set, st_take, ev_ftidy, ev_fttidy, optR_some, List.set_cons_zero, List.set_cons_succ, List.length_cons, List.length_nil, List.cons_append, List.nil_append, List.map_cons, List.map_nil, List.getElem?_cons_zero, List.getElem?_cons_succ, if_true, if_false, decide_eq_true_eq, Bool.false_eq_true, reduceIte, Option.bind_some, Nat.add_assoc, Nat.reduceAdd, Nat.reduceSub, Nat.reduceLeDiff, Nat.zero_add, List.replicate, sizeLine_eq, List.length_map, Option.map_some, Option.isSome_some, gt_iff_lt, Bool.not_true, Bool.not_false, Nat.reduceLT, nf_non, nf_int, nf_bl, nf_str, nf_tup, nf_ro, nf_nil, nf_cons, nf_T, flats_T, ints_flat, Bool.and_self, Bool.true_and, Bool.and_true, tidy_app, tidyB_app, tidy_appL, dEq_int, List.cons_prefix_cons, List.nil_prefix, true_and, and_true, and_self, tidy_ok, tidy_ok0, tidyB_ok, tidyB_ok0, decide_true, decide_false, not_true_eq_false, not_false_eq_true, and_false, false_and, List.isEmpty_cons, List.isEmpty_nil] at c3 c6
  have t5 := fun S => threes_to_ok (a := a) (most := 1 + n9) (by omega) (by omega) S
  have ne2 := fun S => dNe_plain (S := S) (x := .tup ((TT a (1 + n9)).map dT)) (y := .tup ((TT a (1 + n9)).map dT)) plain_TT plain_TT shaped_TT shaped_TT
  have any6 := dAny_map (S := S9 ++ [O.lst (List.map dT (TT a most)), O.lst [dP, dN], O.lst [dP, dN], O.lst [dP, dN], .lst ((NUM (TT a most)).map fun n => .bl (decide (n % 4 = 0)))]) (i := S9.length + 4) (f := fun n => decide (n % 4 = 0)) (l := NUM (TT a most)) (by simp)
  have atP : L2.atI [dP, dN] 0 = some dP := rfl
  by_cases h3 : a = 3
  · subst h3
    rw [no_four] at any6
    simp only [ev_bindok, ev_bindex, ev_thenok, ev_thenex, ev_seqnx, ev_seqrt, ev_seqbk, ev_seqct, ev_seqex, ev_lstO, ev_onL, ev_lenOl, ev_lenOk, ev_var0, ev_varS, ev_c, ev_bin, ev_bin1, ev_bin1x, ev_bin2, ev_bin2x, ev_un, ev_nil, ev_cons, ev_cons1, ev_cons1x, ev_cons2, ev_cons2x, ev_tup, ev_tup1, ev_tup1x, ev_lst, ev_lst1, ev_lst1x, ev_if, ev_if1, ev_if1x, ev_call, ev_callK, ev_callK1, ev_callK1x, ev_tru, ev_tB, ev_asB, ev_tNot, ev_tNot1, ev_tNot1x, ev_tAnd, ev_tAnd1, ev_tAnd1x, ev_tOr, ev_tOr1, ev_tOr1x, ev_and, ev_and1, ev_and2, ev_or, ev_or1, ev_or2, ev_not, ev_not1, ev_not2, ev_truB, ev_truI, ev_truT, ev_truN, ev_truL, ev_yes, ev_sl, ev_sl1, ev_sl2, ev_sl3, ev_oN, ev_oS, ev_oS1, ev_slT, ev_slR, ev_slL, ev_add, ev_sub, ev_neg, ev_addT, ev_addL, ev_ord, ev_abs, ev_max2, ev_min2, ev_int, ev_intB, ev_lenT, ev_lenR, ev_lenL, ev_ixT, ev_ixR, ev_ixL, ev_tupT, ev_tupL, ev_revL, ev_ml, ev_ml1, ev_ml2, ev_ml2x, ev_isL, ev_mapp, ev_popC, ev_pop1, ev_pop2, ev_mpop, ev_mext, ev_newK, ev_newN, ev_is, ev_isNot, ev_isnN, ev_isnT, ev_isnI, ev_isnR, ev_nx, ev_seq, ev_asg, ev_asg1, ev_asg1x, ev_kNx, ev_asgT, ev_asgT1, ev_asgT1x, ev_bTup, ev_bName, ev_bCons, ev_bNil, ev_expr, ev_expr1, ev_expr1x, ev_ret, ev_ret1, ev_ret1x, ev_retN, ev_sif, ev_sif1, ev_sif1x, ev_par, ev_par1, ev_par3, ev_par31, ev_setG, ev_setG1, ev_setG2, ev_setG3, ev_setG4, ev_setG1x, ev_break, ev_cont, ev_for, ev_for1, ev_for1x, ev_runB, ev_fiSeq, ev_itT, ev_itR, ev_itL, ev_loopKnx, ev_loopKct, ev_loopKbk, ev_loopKrt, ev_loopKex, ev_loopN, ev_turn, ev_loopC, ev_wh1, ev_g4s, ev_g4n, ev_get2, ev_get21, ev_get22, ev_get23, ev_get1, ev_get11, ev_get12, ev_x3, ev_ixG, ev_ixG1, ev_ixG2, ev_gT, ev_gD, ev_gD1, ev_isGt, ev_gAti, ev_dc, ev_dc1, ev_lc, ev_lc1, ev_wipe0, ev_wipe, ev_empN, ev_empK, ev_chk1, ev_fiRng1, ev_fiRng11, ev_fiRng2, ev_fiRng21, ev_fiRng22, st_len, st_app, st_at0, st_at, st_set0, st_set, st_take, ev_ftidy, ev_fttidy, optR_some, List.set_cons_zero, List.set_cons_succ, List.length_cons, List.length_nil, List.cons_append, List.nil_append, List.map_cons, List.map_nil, List.getElem?_cons_zero, List.getElem?_cons_succ, if_true, if_false, decide_eq_true_eq, Bool.false_eq_true, reduceIte, Option.bind_some, Nat.add_assoc, Nat.reduceAdd, Nat.reduceSub, Nat.reduceLeDiff, Nat.zero_add, List.replicate, sizeLine_eq, List.length_map, Option.map_some, Option.isSome_some, gt_iff_lt, Bool.not_true, Bool.not_false, Nat.reduceLT, nf_non, nf_int, nf_bl, nf_str, nf_tup, nf_ro, nf_nil, nf_cons, nf_T, flats_T, ints_flat, Bool.and_self, Bool.true_and, Bool.and_true, tidy_app, tidyB_app, tidy_appL, dEq_int, List.cons_prefix_cons, List.nil_prefix, true_and, and_true, and_self, tidy_ok, tidy_ok0, tidyB_ok, tidyB_ok0, decide_true, decide_false, not_true_eq_false, not_false_eq_true, and_false, false_and, List.isEmpty_cons, List.isEmpty_nil, c3, t5, ne2, c6, any6, ne_eq, atP] at hX
    have ne3 := fun S => dNe_plain (S := S) (x := .tup ((TT 3 most).map dT)) (y := .tup []) plain_TT rfl shaped_TT (by decide +kernel)
    rw [hP] at ne3
    by_cases hE : TT 3 most = []
    · have e0 : dP = .tup [] := by rw [← hP, hE]; rfl
      simp only [ev_bindok, ev_bindex, ev_thenok, ev_thenex, ev_seqnx, ev_seqrt, ev_seqbk, ev_seqct, ev_seqex, ev_lstO, ev_onL, ev_lenOl, ev_lenOk, ev_var0, ev_varS, ev_c, ev_bin, ev_bin1, ev_bin1x, ev_bin2, ev_bin2x, ev_un, ev_nil, ev_cons, ev_cons1, ev_cons1x, ev_cons2, ev_cons2x, ev_tup, ev_tup1, ev_tup1x, ev_lst, ev_lst1, ev_lst1x, ev_if, ev_if1, ev_if1x, ev_call, ev_callK, ev_callK1, ev_callK1x, ev_tru, ev_tB, ev_asB, ev_tNot, ev_tNot1, ev_tNot1x, ev_tAnd, ev_tAnd1, ev_tAnd1x, ev_tOr, ev_tOr1, ev_tOr1x, ev_and, ev_and1, ev_and2, ev_or, ev_or1, ev_or2, ev_not, ev_not1, ev_not2, ev_truB, ev_truI, ev_truT, ev_truN, ev_truL, ev_yes, ev_sl, ev_sl1, ev_sl2, ev_sl3, ev_oN, ev_oS, ev_oS1, ev_slT, ev_slR, ev_slL, ev_add, ev_sub, ev_neg, ev_addT, ev_addL, ev_ord, ev_abs, ev_max2, ev_min2, ev_int, ev_intB, ev_lenT, ev_lenR, ev_lenL, ev_ixT, ev_ixR, ev_ixL, ev_tupT, ev_tupL, ev_revL, ev_ml, ev_ml1, ev_ml2, ev_ml2x, ev_isL, ev_mapp, ev_popC, ev_pop1, ev_pop2, ev_mpop, ev_mext, ev_newK, ev_newN, ev_is, ev_isNot, ev_isnN, ev_isnT, ev_isnI, ev_isnR, ev_nx, ev_seq, ev_asg, ev_asg1, ev_asg1x, ev_kNx, ev_asgT, ev_asgT1, ev_asgT1x, ev_bTup, ev_bName, ev_bCons, ev_bNil, ev_expr, ev_expr1, ev_expr1x, ev_ret, ev_ret1, ev_ret1x, ev_retN, ev_sif, ev_sif1, ev_sif1x, ev_par, ev_par1, ev_par3, ev_par31, ev_setG, ev_setG1, ev_setG2, ev_setG3, ev_setG4, ev_setG1x, ev_break, ev_cont, ev_for, ev_for1, ev_for1x, ev_runB, ev_fiSeq, ev_itT, ev_itR, ev_itL, ev_loopKnx, ev_loopKct, ev_loopKbk, ev_loopKrt, ev_loopKex, ev_loopN, ev_turn, ev_loopC, ev_wh1, ev_g4s, ev_g4n, ev_get2, ev_get21, ev_get22, ev_get23, ev_get1, ev_get11, ev_get12, ev_x3, ev_ixG, ev_ixG1, ev_ixG2, ev_gT, ev_gD, ev_gD1, ev_isGt, ev_gAti, ev_dc, ev_dc1, ev_lc, ev_lc1, ev_wipe0, ev_wipe, ev_empN, ev_empK, ev_chk1, ev_fiRng1, ev_fiRng11, ev_fiRng2, ev_fiRng21, ev_fiRng22, st_len, st_app, st_at0, st_at, st_set0, st_set, st_take, ev_ftidy, ev_fttidy, optR_some, List.set_cons_zero, List.set_cons_succ, List.length_cons, List.length_nil, List.cons_append, List.nil_append, List.map_cons, List.map_nil, List.getElem?_cons_zero, List.getElem?_cons_succ, if_true, if_false, decide_eq_true_eq, Bool.false_eq_true, reduceIte, Option.bind_some, Nat.add_assoc, Nat.reduceAdd, Nat.reduceSub, Nat.reduceLeDiff, Nat.zero_add, List.replicate, sizeLine_eq, List.length_map, Option.map_some, Option.isSome_some, gt_iff_lt, Bool.not_true, Bool.not_false, Nat.reduceLT, nf_non, nf_int, nf_bl, nf_str, nf_tup, nf_ro, nf_nil, nf_cons, nf_T, flats_T, ints_flat, Bool.and_self, Bool.true_and, Bool.and_true, tidy_app, tidyB_app, tidy_appL, dEq_int, List.cons_prefix_cons, List.nil_prefix, true_and, and_true, and_self, tidy_ok, tidy_ok0, tidyB_ok, tidyB_ok0, decide_true, decide_false, not_true_eq_false, not_false_eq_true, and_false, false_and, List.isEmpty_cons, List.isEmpty_nil, ne3, e0, ne_eq] at hX
      exact ⟨_, _, hX, rfl, hb9.app⟩
    · have e0 : ¬ (dP = .tup []) := fun e => hE (by rw [← hP] at e; simpa using e)
      obtain ⟨d10, S10, e10, p10, hb10, l10⟩ := pick_tup (ds := (TT 3 most).map dT) hb9 [O.lst (List.map dT (TT 3 most)), O.lst [dP, dN], O.lst [dP, dN], O.lst [dP, dN]] (by simpa using hE) (by have := TT_len (a := 3) (m := most); simp; omega) (flats_T _)
      rw [hP] at e10
      obtain ⟨t, ht, rfl⟩ := List.mem_map.mp p10
      have b := TT_bd ht
      have g := gcds ht
      simp only [ev_bindok, ev_bindex, ev_thenok, ev_thenex, ev_seqnx, ev_seqrt, ev_seqbk, ev_seqct, ev_seqex, ev_lstO, ev_onL, ev_lenOl, ev_lenOk, ev_var0, ev_varS, ev_c, ev_bin, ev_bin1, ev_bin1x, ev_bin2, ev_bin2x, ev_un, ev_nil, ev_cons, ev_cons1, ev_cons1x, ev_cons2, ev_cons2x, ev_tup, ev_tup1, ev_tup1x, ev_lst, ev_lst1, ev_lst1x, ev_if, ev_if1, ev_if1x, ev_call, ev_callK, ev_callK1, ev_callK1x, ev_tru, ev_tB, ev_asB, ev_tNot, ev_tNot1, ev_tNot1x, ev_tAnd, ev_tAnd1, ev_tAnd1x, ev_tOr, ev_tOr1, ev_tOr1x, ev_and, ev_and1, ev_and2, ev_or, ev_or1, ev_or2, ev_not, ev_not1, ev_not2, ev_truB, ev_truI, ev_truT, ev_truN, ev_truL, ev_yes, ev_sl, ev_sl1, ev_sl2, ev_sl3, ev_oN, ev_oS, ev_oS1, ev_slT, ev_slR, ev_slL, ev_add, ev_sub, ev_neg, ev_addT, ev_addL, ev_ord, ev_abs, ev_max2, ev_min2, ev_int, ev_intB, ev_lenT, ev_lenR, ev_lenL, ev_ixT, ev_ixR, ev_ixL, ev_tupT, ev_tupL, ev_revL, ev_ml, ev_ml1, ev_ml2, ev_ml2x, ev_isL, ev_mapp, ev_popC, ev_pop1, ev_pop2, ev_mpop, ev_mext, ev_newK, ev_newN, ev_is, ev_isNot, ev_isnN, ev_isnT, ev_isnI, ev_isnR, ev_nx, ev_seq, ev_asg, ev_asg1, ev_asg1x, ev_kNx, ev_asgT, ev_asgT1, ev_asgT1x, ev_bTup, ev_bName, ev_bCons, ev_bNil, ev_expr, ev_expr1, ev_expr1x, ev_ret, ev_ret1, ev_ret1x, ev_retN, ev_sif, ev_sif1, ev_sif1x, ev_par, ev_par1, ev_par3, ev_par31, ev_setG, ev_setG1, ev_setG2, ev_setG3, ev_setG4, ev_setG1x, ev_break, ev_cont, ev_for, ev_for1, ev_for1x, ev_runB, ev_fiSeq, ev_itT, ev_itR, ev_itL, ev_loopKnx, ev_loopKct, ev_loopKbk, ev_loopKrt, ev_loopKex, ev_loopN, ev_turn, ev_loopC, ev_wh1, ev_g4s, ev_g4n, ev_get2, ev_get21, ev_get22, ev_get23, ev_get1, ev_get11, ev_get12, ev_x3, ev_ixG, ev_ixG1, ev_ixG2, ev_gT, ev_gD, ev_gD1, ev_isGt, ev_gAti, ev_dc, ev_dc1, ev_lc, ev_lc1, ev_wipe0, ev_wipe, ev_empN, ev_empK, ev_chk1, ev_fiRng1, ev_fiRng11, ev_fiRng2, ev_fiRng21, ev_fiRng22, st_len, st_app, st_at0, st_at, st_set0, st_set, st_take, ev_ftidy, ev_fttidy, optR_some, List.set_cons_zero, List.set_cons_succ, List.length_cons, List.length_nil, List.cons_append, List.nil_append, List.map_cons, List.map_nil, List.getElem?_cons_zero, List.getElem?_cons_succ, if_true, if_false, decide_eq_true_eq, Bool.false_eq_true, reduceIte, Option.bind_some, Nat.add_assoc, Nat.reduceAdd, Nat.reduceSub, Nat.reduceLeDiff, Nat.zero_add, List.replicate, sizeLine_eq, List.length_map, Option.map_some, Option.isSome_some, gt_iff_lt, Bool.not_true, Bool.not_false, Nat.reduceLT, nf_non, nf_int, nf_bl, nf_str, nf_tup, nf_ro, nf_nil, nf_cons, nf_T, flats_T, ints_flat, Bool.and_self, Bool.true_and, Bool.and_true, tidy_app, tidyB_app, tidy_appL, dEq_int, List.cons_prefix_cons, List.nil_prefix, true_and, and_true, and_self, tidy_ok, tidy_ok0, tidyB_ok, tidyB_ok0, decide_true, decide_false, not_true_eq_false, not_false_eq_true, and_false, false_and, List.isEmpty_cons, List.isEmpty_nil, ne3, e0, ne_eq, atP, e10, bT3] at hX
      have k1 := fun S => common_ok (x := t.1) (y := t.2.1) (by omega) (by omega) S
      have k2 := fun S => common_ok (x := t.1) (y := t.2.2) (by omega) (by omega) S
      have k3 := fun S => common_ok (x := t.2.1) (y := t.2.2) (by omega) (by omega) S
      rw [g.1] at k1
      rw [g.2.1] at k2
      rw [g.2.2.1] at k3
      have ne4 := dNe_lsts (S := S10 ++ [O.lst (List.map dT (TT 3 most)), O.lst [dP, dN], O.lst [dP, dN], O.lst [dP, dN], .lst [.int 1, .int 1, .int 1], .lst [.int 1, .int 1, .int 1]]) (i := S10.length + 4) (j := S10.length + 5) (ds := [.int 1, .int 1, .int 1]) (es := [.int 1, .int 1, .int 1]) (by simp) (by simp) rfl rfl (by decide +kernel) (by decide +kernel)
      simp only [l10, ev_bindok, ev_bindex, ev_thenok, ev_thenex, ev_seqnx, ev_seqrt, ev_seqbk, ev_seqct, ev_seqex, ev_lstO, ev_onL, ev_lenOl, ev_lenOk, ev_var0, ev_varS, ev_c, ev_bin, ev_bin1, ev_bin1x, ev_bin2, ev_bin2x, ev_un, ev_nil, ev_cons, ev_cons1, ev_cons1x, ev_cons2, ev_cons2x, ev_tup, ev_tup1, ev_tup1x, ev_lst, ev_lst1, ev_lst1x, ev_if, ev_if1, ev_if1x, ev_call, ev_callK, ev_callK1, ev_callK1x, ev_tru, ev_tB, ev_asB, ev_tNot, ev_tNot1, ev_tNot1x, ev_tAnd, ev_tAnd1, ev_tAnd1x, ev_tOr, ev_tOr1, ev_tOr1x, ev_and, ev_and1, ev_and2, ev_or, ev_or1, ev_or2, ev_not, ev_not1, ev_not2, ev_truB, ev_truI, ev_truT, ev_truN, ev_truL, ev_yes, ev_sl, ev_sl1, ev_sl2, ev_sl3, ev_oN, ev_oS, ev_oS1, ev_slT, ev_slR, ev_slL, ev_add, ev_sub, ev_neg, ev_addT, ev_addL, ev_ord, ev_abs, ev_max2, ev_min2, ev_int, ev_intB, ev_lenT, ev_lenR, ev_lenL, ev_ixT, ev_ixR, ev_ixL, ev_tupT, ev_tupL, ev_revL, ev_ml, ev_ml1, ev_ml2, ev_ml2x, ev_isL, ev_mapp, ev_popC, ev_pop1, ev_pop2, ev_mpop, ev_mext, ev_newK, ev_newN, ev_is, ev_isNot, ev_isnN, ev_isnT, ev_isnI, ev_isnR, ev_nx, ev_seq, ev_asg, ev_asg1, ev_asg1x, ev_kNx, ev_asgT, ev_asgT1, ev_asgT1x, ev_bTup, ev_bName, ev_bCons, ev_bNil, ev_expr, ev_expr1, ev_expr1x, ev_ret, ev_ret1, ev_ret1x, ev_retN, ev_sif, ev_sif1, ev_sif1x, ev_par, ev_par1, ev_par3, ev_par31, ev_setG, ev_setG1, ev_setG2, ev_setG3, ev_setG4, ev_setG1x, ev_break, ev_cont, ev_for, ev_for1, ev_for1x, ev_runB, ev_fiSeq, ev_itT, ev_itR, ev_itL, ev_loopKnx, ev_loopKct, ev_loopKbk, ev_loopKrt, ev_loopKex, ev_loopN, ev_turn, ev_loopC, ev_wh1, ev_g4s, ev_g4n, ev_get2, ev_get21, ev_get22, ev_get23, ev_get1, ev_get11, ev_get12, ev_x3, ev_ixG, ev_ixG1, ev_ixG2, ev_gT, ev_gD, ev_gD1, ev_isGt, ev_gAti, ev_dc, ev_dc1, ev_lc, ev_lc1, ev_wipe0, ev_wipe, ev_empN, ev_empK, ev_chk1, ev_fiRng1, ev_fiRng11, ev_fiRng2, ev_fiRng21, ev_fiRng22, st_len, st_app, st_at0, st_at, st_set0, st_set, st_take, ev_ftidy, ev_fttidy, optR_some, List.set_cons_zero, List.set_cons_succ, List.length_cons, List.length_nil, List.cons_append, List.nil_append, List.map_cons, List.map_nil, List.getElem?_cons_zero, List.getElem?_cons_succ, if_true, if_false, decide_eq_true_eq, Bool.false_eq_true, reduceIte, Option.bind_some, Nat.add_assoc, Nat.reduceAdd, Nat.reduceSub, Nat.reduceLeDiff, Nat.zero_add, List.replicate, sizeLine_eq, List.length_map, Option.map_some, Option.isSome_some, gt_iff_lt, Bool.not_true, Bool.not_false, Nat.reduceLT, nf_non, nf_int, nf_bl, nf_str, nf_tup, nf_ro, nf_nil, nf_cons, nf_T, flats_T, ints_flat, Bool.and_self, Bool.true_and, Bool.and_true, tidy_app, tidyB_app, tidy_appL, dEq_int, List.cons_prefix_cons, List.nil_prefix, true_and, and_true, and_self, tidy_ok, tidy_ok0, tidyB_ok, tidyB_ok0, decide_true, decide_false, not_true_eq_false, not_false_eq_true, and_false, false_and, List.isEmpty_cons, List.isEmpty_nil, k1, k2, k3, ne4, ne_eq] at hX
      exact ⟨_, _, hX, rfl, hb10.app⟩
  · simp only [ev_bindok, ev_bindex, ev_thenok, ev_thenex, ev_seqnx, ev_seqrt, ev_seqbk, ev_seqct, ev_seqex, ev_lstO, ev_onL, ev_lenOl, ev_lenOk, ev_var0, ev_varS, ev_c, ev_bin, ev_bin1, ev_bin1x, ev_bin2, ev_bin2x, ev_un, ev_nil, ev_cons, ev_cons1, ev_cons1x, ev_cons2, ev_cons2x, ev_tup, ev_tup1, ev_tup1x, ev_lst, ev_lst1, ev_lst1x, ev_if, ev_if1, ev_if1x, ev_call, ev_callK, ev_callK1, ev_callK1x, ev_tru, ev_tB, ev_asB, ev_tNot, ev_tNot1, ev_tNot1x, ev_tAnd, ev_tAnd1, ev_tAnd1x, ev_tOr, ev_tOr1, ev_tOr1x, ev_and, ev_and1, ev_and2, ev_or, ev_or1, ev_or2, ev_not, ev_not1, ev_not2, ev_truB, ev_truI, ev_truT, ev_truN, ev_truL, ev_yes, ev_sl, ev_sl1, ev_sl2, ev_sl3, ev_oN, ev_oS, ev_oS1, ev_slT, ev_slR, ev_slL, ev_add, ev_sub, ev_neg, ev_addT, ev_addL, ev_ord, ev_abs, ev_max2, ev_min2, ev_int, ev_intB, ev_lenT, ev_lenR, ev_lenL, ev_ixT, ev_ixR, ev_ixL, ev_tupT, ev_tupL, ev_revL, ev_ml, ev_ml1, ev_ml2, ev_ml2x, ev_isL, ev_mapp, ev_popC, ev_pop1, ev_pop2, ev_mpop, ev_mext, ev_newK, ev_newN, ev_is, ev_isNot, ev_isnN, ev_isnT, ev_isnI, ev_isnR, ev_nx, ev_seq, ev_asg, ev_asg1, ev_asg1x, ev_kNx, ev_asgT, ev_asgT1, ev_asgT1x, ev_bTup, ev_bName, ev_bCons, ev_bNil, ev_expr, ev_expr1, ev_expr1x, ev_ret, ev_ret1, ev_ret1x, ev_retN, ev_sif, ev_sif1, ev_sif1x, ev_par, ev_par1, ev_par3, ev_par31, ev_setG, ev_setG1, ev_setG2, ev_setG3, ev_setG4, ev_setG1x, ev_break, ev_cont, ev_for, ev_for1, ev_for1x, ev_runB, ev_fiSeq, ev_itT, ev_itR, ev_itL, ev_loopKnx, ev_loopKct, ev_loopKbk, ev_loopKrt, ev_loopKex, ev_loopN, ev_turn, ev_loopC, ev_wh1, ev_g4s, ev_g4n, ev_get2, ev_get21, ev_get22, ev_get23, ev_get1, ev_get11, ev_get12, ev_x3, ev_ixG, ev_ixG1, ev_ixG2, ev_gT, ev_gD, ev_gD1, ev_isGt, ev_gAti, ev_dc, ev_dc1, ev_lc, ev_lc1, ev_wipe0, ev_wipe, ev_empN, ev_empK, ev_chk1, ev_fiRng1, ev_fiRng11, ev_fiRng2, ev_fiRng21, ev_fiRng22, st_len, st_app, st_at0, st_at, st_set0, st_set, st_take, ev_ftidy, ev_fttidy, optR_some, List.set_cons_zero, List.set_cons_succ, List.length_cons, List.length_nil, List.cons_append, List.nil_append, List.map_cons, List.map_nil, List.getElem?_cons_zero, List.getElem?_cons_succ, if_true, if_false, decide_eq_true_eq, Bool.false_eq_true, reduceIte, Option.bind_some, Nat.add_assoc, Nat.reduceAdd, Nat.reduceSub, Nat.reduceLeDiff, Nat.zero_add, List.replicate, sizeLine_eq, List.length_map, Option.map_some, Option.isSome_some, gt_iff_lt, Bool.not_true, Bool.not_false, Nat.reduceLT, nf_non, nf_int, nf_bl, nf_str, nf_tup, nf_ro, nf_nil, nf_cons, nf_T, flats_T, ints_flat, Bool.and_self, Bool.true_and, Bool.and_true, tidy_app, tidyB_app, tidy_appL, dEq_int, List.cons_prefix_cons, List.nil_prefix, true_and, and_true, and_self, tidy_ok, tidy_ok0, tidyB_ok, tidyB_ok0, decide_true, decide_false, not_true_eq_false, not_false_eq_true, and_false, false_and, List.isEmpty_cons, List.isEmpty_nil, c3, t5, ne2, ne_eq, h3] at hX
    exact ⟨_, _, hX, rfl, hb9.app⟩
end Y.k59

set_option Elab.async false
set_option linter.all false
set_option maxRecDepth 100000
set_option maxHeartbeats 4000000
/-! P59j: the law holds. -/
namespace Y.k59
open PySem L2 Y
/-- the loop of turns -/
theorem law_loop {i c : Nat} {x0 : Option D} : ∀ (ds : List D) (S : Sto) (y : Env), y.length = 16 → BagAt S i c →
   ∃ y' S', loopF [] (bName 2) lb_law_7 ds (x0 :: some (.ref i) :: y) S = .nx (x0 :: some (.ref i) :: y') S' ∧ y'.length = 16 ∧ BagAt S' i c
  | [], S, y, hy, hb => ⟨y, S, rfl, hy, hb⟩
  | d :: ds, S, y, hy, hb => by
    obtain ⟨y1, S1, q, h1, hb1⟩ : ∃ y1 S1, lb_law_7 (x0 :: some (.ref i) :: y.set 0 (some d)) S = .nx (x0 :: some (.ref i) :: y1) S1 ∧ y1.length = 16 ∧ BagAt S1 i c := by
      match y, hy with
      | [x2, x3, x4, x5, x6, x7, x8, x9, x10, x11, x12, x13, x14, x15, x16, x17], _ => exact turn_law hb x0 (some d) x3 x4 x5 x6 x7 x8 x9 x10 x11 x12 x13 x14 x15 x16 x17 _ rfl
    obtain ⟨y2, S2, r, h2, hb2⟩ := law_loop (x0 := x0) ds S1 y1 h1 hb1
    refine ⟨y2, S2, ?_, h2, hb2⟩
    rw [ev_loopC]
    simp only [ev_bName, ev_turn, List.set_cons_succ, q, ev_loopKnx, r]
theorem law_ok (ns : List Int) (hn : ns.length ≤ 63) : ∃ S', F_law [scr ns] [] = .ok (.bl true) S' := by
  obtain ⟨i, c, G, e, hb, hi, hc⟩ := bag_ok hn []
  rw [List.nil_append] at e hb
  obtain ⟨y, S1, q, hy, hb1⟩ := law_loop (x0 := some (scr ns)) (rngD 0 (3 : Int).toNat) G [none, none, none, none, none, none, none, none, none, none, none, none, none, none, none, none] rfl hb
  have hl : lp_law_8 (some (scr ns) :: some (.ref i) :: [none, none, none, none, none, none, none, none, none, none, none, none, none, none, none, none]) G = .nx (some (scr ns) :: some (.ref i) :: y) S1 := by
    rw [lp_law_8, ev_for, ev_fiRng1, ev_c, ev_fiRng11, if_pos (by decide), ev_for1]
    exact q
  match y, hy with
  | [x2, x3, x4, x5, x6, x7, x8, x9, x10, x11, x12, x13, x14, x15, x16, x17], _ =>
  obtain ⟨n1, S2, e1, p1, q1, hb2, l1⟩ := draw_app0 hb1 (k := 50) (by decide) (by decide)
  obtain ⟨n2, S3, e2, p2, q2, hb3, l2⟩ := draw_app0 hb2 (k := 16) (by decide) (by decide)
  obtain ⟨d3, S4, e3, p3, hb4, l3⟩ := pick_app0 hb3 [.lst [.int 1, .int 3, .int (1 + n1), .int 2]] rfl (by simp) (by simp) rfl
  obtain ⟨a, rfl, a1, a2⟩ : ∃ a, d3 = .int a ∧ 1 ≤ a ∧ a ≤ 50 := by
    simp only [List.mem_cons, List.not_mem_nil, or_false] at p3
    rcases p3 with rfl | rfl | rfl | rfl <;> exact ⟨_, rfl, by omega, by omega⟩
  have t1 := fun S => threes_to_ok (a := a) (most := 1 + n2) (by omega) (by omega) S
  have t2 := by_look_ok (a := a) (m := 1 + n2) ⟨a1, a2⟩ (by omega) (S4 ++ [.lst [.int 1, .int 3, .int (1 + n1), .int 2]])
  have gp := gp_T (a := a) (m := 1 + n2)
  have r := fun S => gp.repr (S := S) (x := .tup ((TT a (1 + n2)).map dT)) (pyN_flat (flats_T _)) (by decide) (by decide)
  have eq := fun S => dEq_str (S := S) gp.ok gp.ok
  generalize (toP (.tup ((TT a (1 + n2)).map dT))).shown = Z at r eq
  simp only [ev_bindok, ev_bindex, ev_thenok, ev_thenex, ev_seqnx, ev_seqrt, ev_seqbk, ev_seqct, ev_seqex, ev_lstO, ev_onL, ev_lenOl, ev_lenOk, ev_var0, ev_varS, ev_c, ev_bin, ev_bin1, ev_bin1x, ev_bin2, ev_bin2x, ev_un, ev_nil, ev_cons, ev_cons1, ev_cons1x, ev_cons2, ev_cons2x, ev_tup, ev_tup1, ev_tup1x, ev_lst, ev_lst1, ev_lst1x, ev_if, ev_if1, ev_if1x, ev_call, ev_callK, ev_callK1, ev_callK1x, ev_tru, ev_tB, ev_asB, ev_tNot, ev_tNot1, ev_tNot1x, ev_tAnd, ev_tAnd1, ev_tAnd1x, ev_tOr, ev_tOr1, ev_tOr1x, ev_and, ev_and1, ev_and2, ev_or, ev_or1, ev_or2, ev_not, ev_not1, ev_not2, ev_truB, ev_truI, ev_truT, ev_truN, ev_truL, ev_yes, ev_sl, ev_sl1, ev_sl2, ev_sl3, ev_oN, ev_oS, ev_oS1, ev_slT, ev_slR, ev_slL, ev_add, ev_sub, ev_neg, ev_addT, ev_addL, ev_ord, ev_abs, ev_max2, ev_min2, ev_int, ev_intB, ev_lenT, ev_lenR, ev_lenL, ev_ixT, ev_ixR, ev_ixL, ev_tupT, ev_tupL, ev_revL, ev_ml, ev_ml1, ev_ml2, ev_ml2x, ev_isL, ev_mapp, ev_popC, ev_pop1, ev_pop2, ev_mpop, ev_mext, ev_newK, ev_newN, ev_is, ev_isNot, ev_isnN, ev_isnT, ev_isnI, ev_isnR, ev_nx, ev_seq, ev_asg, ev_asg1, ev_asg1x, ev_kNx, ev_asgT, ev_asgT1, ev_asgT1x, ev_bTup, ev_bName, ev_bCons, ev_bNil, ev_expr, ev_expr1, ev_expr1x, ev_ret, ev_ret1, ev_ret1x, ev_retN, ev_sif, ev_sif1, ev_sif1x, ev_par, ev_par1, ev_par3, ev_par31, ev_setG, ev_setG1, ev_setG2, ev_setG3, ev_setG4, ev_setG1x, ev_break, ev_cont, ev_for, ev_for1, ev_for1x, ev_runB, ev_fiSeq, ev_itT, ev_itR, ev_itL, ev_loopKnx, ev_loopKct, ev_loopKbk, ev_loopKrt, ev_loopKex, ev_loopN, ev_turn, ev_loopC, ev_wh1, ev_g4s, ev_g4n, ev_get2, ev_get21, ev_get22, ev_get23, ev_get1, ev_get11, ev_get12, ev_x3, ev_ixG, ev_ixG1, ev_ixG2, ev_gT, ev_gD, ev_gD1, ev_isGt, ev_gAti, ev_dc, ev_dc1, ev_lc, ev_lc1, ev_wipe0, ev_wipe, ev_empN, ev_empK, ev_chk1, ev_fiRng1, ev_fiRng11, ev_fiRng2, ev_fiRng21, ev_fiRng22, st_len, st_app, st_at0, st_at, st_set0, st_set, st_take, ev_ftidy, ev_fttidy, optR_some, List.set_cons_zero, List.set_cons_succ, List.length_cons, List.length_nil, List.cons_append, List.nil_append, List.map_cons, List.map_nil, List.getElem?_cons_zero, List.getElem?_cons_succ, if_true, if_false, decide_eq_true_eq, Bool.false_eq_true, reduceIte, Option.bind_some, Nat.add_assoc, Nat.reduceAdd, Nat.reduceSub, Nat.reduceLeDiff, Nat.zero_add, List.replicate, sizeLine_eq, List.length_map, Option.map_some, Option.isSome_some, gt_iff_lt, Bool.not_true, Bool.not_false, Nat.reduceLT, nf_non, nf_int, nf_bl, nf_str, nf_tup, nf_ro, nf_nil, nf_cons, nf_T, flats_T, ints_flat, Bool.and_self, Bool.true_and, Bool.and_true, tidy_app, tidyB_app, tidy_appL, dEq_int, List.cons_prefix_cons, List.nil_prefix, true_and, and_true, and_self, tidy_ok, tidy_ok0, tidyB_ok, tidyB_ok0, decide_true, decide_false, not_true_eq_false, not_false_eq_true, and_false, false_and, List.isEmpty_cons, List.isEmpty_nil] at t2
  have run : ∃ S', b_law [some (scr ns), none, none, none, none, none, none, none, none, none, none, none, none, none, none, none, none, none] [] = .rt (.bl true) S' := by
    generalize hX : b_law _ _ = X
    simp only [b_law, dr, pk, bg, ev_bindok, ev_bindex, ev_thenok, ev_thenex, ev_seqnx, ev_seqrt, ev_seqbk, ev_seqct, ev_seqex, ev_lstO, ev_onL, ev_lenOl, ev_lenOk, ev_var0, ev_varS, ev_c, ev_bin, ev_bin1, ev_bin1x, ev_bin2, ev_bin2x, ev_un, ev_nil, ev_cons, ev_cons1, ev_cons1x, ev_cons2, ev_cons2x, ev_tup, ev_tup1, ev_tup1x, ev_lst, ev_lst1, ev_lst1x, ev_if, ev_if1, ev_if1x, ev_call, ev_callK, ev_callK1, ev_callK1x, ev_tru, ev_tB, ev_asB, ev_tNot, ev_tNot1, ev_tNot1x, ev_tAnd, ev_tAnd1, ev_tAnd1x, ev_tOr, ev_tOr1, ev_tOr1x, ev_and, ev_and1, ev_and2, ev_or, ev_or1, ev_or2, ev_not, ev_not1, ev_not2, ev_truB, ev_truI, ev_truT, ev_truN, ev_truL, ev_yes, ev_sl, ev_sl1, ev_sl2, ev_sl3, ev_oN, ev_oS, ev_oS1, ev_slT, ev_slR, ev_slL, ev_add, ev_sub, ev_neg, ev_addT, ev_addL, ev_ord, ev_abs, ev_max2, ev_min2, ev_int, ev_intB, ev_lenT, ev_lenR, ev_lenL, ev_ixT, ev_ixR, ev_ixL, ev_tupT, ev_tupL, ev_revL, ev_ml, ev_ml1, ev_ml2, ev_ml2x, ev_isL, ev_mapp, ev_popC, ev_pop1, ev_pop2, ev_mpop, ev_mext, ev_newK, ev_newN, ev_is, ev_isNot, ev_isnN, ev_isnT, ev_isnI, ev_isnR, ev_nx, ev_seq, ev_asg, ev_asg1, ev_asg1x, ev_kNx, ev_asgT, ev_asgT1, ev_asgT1x, ev_bTup, ev_bName, ev_bCons, ev_bNil, ev_expr, ev_expr1, ev_expr1x, ev_ret, ev_ret1, ev_ret1x, ev_retN, ev_sif, ev_sif1, ev_sif1x, ev_par, ev_par1, ev_par3, ev_par31, ev_setG, ev_setG1, ev_setG2, ev_setG3, ev_setG4, ev_setG1x, ev_break, ev_cont, ev_for, ev_for1, ev_for1x, ev_runB, ev_fiSeq, ev_itT, ev_itR, ev_itL, ev_loopKnx, ev_loopKct, ev_loopKbk, ev_loopKrt, ev_loopKex, ev_loopN, ev_turn, ev_loopC, ev_wh1, ev_g4s, ev_g4n, ev_get2, ev_get21, ev_get22, ev_get23, ev_get1, ev_get11, ev_get12, ev_x3, ev_ixG, ev_ixG1, ev_ixG2, ev_gT, ev_gD, ev_gD1, ev_isGt, ev_gAti, ev_dc, ev_dc1, ev_lc, ev_lc1, ev_wipe0, ev_wipe, ev_empN, ev_empK, ev_chk1, ev_fiRng1, ev_fiRng11, ev_fiRng2, ev_fiRng21, ev_fiRng22, st_len, st_app, st_at0, st_at, st_set0, st_set, st_take, ev_ftidy, ev_fttidy, optR_some, List.set_cons_zero, List.set_cons_succ, List.length_cons, List.length_nil, List.cons_append, List.nil_append, List.map_cons, List.map_nil, List.getElem?_cons_zero, List.getElem?_cons_succ, if_true, if_false, decide_eq_true_eq, Bool.false_eq_true, reduceIte, Option.bind_some, Nat.add_assoc, Nat.reduceAdd, Nat.reduceSub, Nat.reduceLeDiff, Nat.zero_add, List.replicate, sizeLine_eq, List.length_map, Option.map_some, Option.isSome_some, gt_iff_lt, Bool.not_true, Bool.not_false, Nat.reduceLT, nf_non, nf_int, nf_bl, nf_str, nf_tup, nf_ro, nf_nil, nf_cons, nf_T, flats_T, ints_flat, Bool.and_self, Bool.true_and, Bool.and_true, tidy_app, tidyB_app, tidy_appL, dEq_int, List.cons_prefix_cons, List.nil_prefix, true_and, and_true, and_self, tidy_ok, tidy_ok0, tidyB_ok, tidyB_ok0, decide_true, decide_false, not_true_eq_false, not_false_eq_true, and_false, false_and, List.isEmpty_cons, List.isEmpty_nil, e, hl, e1, e2, e3, t1, t2, r, eq] at hX
    exact ⟨_, hX.symm⟩
  obtain ⟨S', h⟩ := run
  refine ⟨[], ?_⟩
  unfold F_law FF.tidy
  rw [runB_rt (a := b_law) (n := 18) (ds := [scr ns]) h]
  exact tidy_ok (S := []) (G := S') rfl
end Y.k59

set_option Elab.async false
set_option linter.all false
set_option maxRecDepth 100000
set_option maxHeartbeats 8000000
namespace Y.k59
open PySem L2 Y
end Y.k59
open PySem PySem.W PyProof.Rows L2 Y Y.k59
theorem PySem.Challenge.cw_turnedtables_k59_whole_main_threes_holds : PySem.Challenge.rw_turnedtables_k59_whole_main_threes.Holds := by
  w_on; o_law; k_head; (case hw => w_witness2)
  k_fill
  refine Y.walk_Y (l := PySem.Challenge.rw_turnedtables_k59_whole_main_threes) (n := 63) (k := 6) (x := "law") (st := s_law) (Fl := F_law) rfl (by decide) rfl ⟨rfl, by decide, by decide⟩ rfl (fun w h Y => PySem.W.kIn_of Y) ?F ?B (fun ns h _ => Y.k59.law_ok ns h)
  case B =>
    intro w mg h f fd _ _ _ hf s u
    obtain ⟨_, _, _, _, _, _, _, _, _, rfl, _, _⟩ := hf.ex
    exact .of_eq rfl
  case F =>
    intro w mg h KX G
    refine ⟨rfl, fun base KX G => ?_⟩
    have h_is_long := fun_of (x := "is_long") (st := s_is_long) KX G (by k_is) (by k_is) (by k_is) (by k_is)
    have h_with_number := fun_of (x := "with_number") (st := s_with_number) KX G (by k_is) (by k_is) (by k_is) (by k_is)
    have h_three_turned := fun_of (x := "three_turned") (st := s_three_turned) KX G (by k_is) (by k_is) (by k_is) (by k_is)
    have h_threes_to := fun_of (x := "threes_to") (st := s_threes_to) KX G (by k_is) (by k_is) (by k_is) (by k_is)
    have h_three_numbers := fun_of (x := "three_numbers") (st := s_three_numbers) KX G (by k_is) (by k_is) (by k_is) (by k_is)
    have h__law_bag := fun_of (x := "_law_bag") (st := s__law_bag) KX G (by k_is) (by k_is) (by k_is) (by k_is)
    have h__law_draw := fun_of (x := "_law_draw") (st := s__law_draw) KX G (by k_is) (by k_is) (by k_is) (by k_is)
    have h__law_pick := fun_of (x := "_law_pick") (st := s__law_pick) KX G (by k_is) (by k_is) (by k_is) (by k_is)
    have h__law_grown := fun_of (x := "_law_grown") (st := s__law_grown) KX G (by k_is) (by k_is) (by k_is) (by k_is)
    have h__law_triples := fun_of (x := "_law_triples") (st := s__law_triples) KX G (by k_is) (by k_is) (by k_is) (by k_is)
    have h__law_by_look := fun_of (x := "_law_by_look") (st := s__law_by_look) KX G (by k_is) (by k_is) (by k_is) (by k_is)
    have h__law_numbers := fun_of (x := "_law_numbers") (st := s__law_numbers) KX G (by k_is) (by k_is) (by k_is) (by k_is)
    have h__law_common := fun_of (x := "_law_common") (st := s__law_common) KX G (by k_is) (by k_is) (by k_is) (by k_is)
    have h_law := fun_of (x := "law") (st := s_law) KX G (by k_is) (by k_is) (by k_is) (by k_is)
    have M : Mg PySem.Challenge.rw_turnedtables_k59_whole_main_threes.prog w _ mg base := {
      b_abs := PySem.W.mg_none_of KX G (by k_is)
      b_any := PySem.W.mg_none_of KX G (by k_is)
      b_int := PySem.W.mg_none_of KX G (by k_is)
      b_len := PySem.W.mg_none_of KX G (by k_is)
      b_max := PySem.W.mg_none_of KX G (by k_is)
      b_min := PySem.W.mg_none_of KX G (by k_is)
      b_range := PySem.W.mg_none_of KX G (by k_is)
      b_repr := PySem.W.mg_none_of KX G (by k_is)
      b_sorted := PySem.W.mg_none_of KX G (by k_is)
      b_str := PySem.W.mg_none_of KX G (by k_is)
      b_tuple := PySem.W.mg_none_of KX G (by k_is)
      g_LIMIT := gc_of KX G (by k_is) (by kernel_rfl)
      g_MAX_FIGURES := gc_of KX G (by k_is) (by kernel_rfl)
      t_BEGUN := gd_of KX G (by k_is) (by kernel_rfl) (by decide)
    }
    have e_is_long := d_is_long h_is_long M
    have e_with_number := d_with_number h_with_number M e_is_long
    have e_three_turned := d_three_turned h_three_turned M e_with_number
    have e_threes_to := d_threes_to h_threes_to M e_three_turned
    have e_three_numbers := d_three_numbers h_three_numbers M e_threes_to
    have e__law_bag := d__law_bag h__law_bag M
    have e__law_draw := d__law_draw h__law_draw M
    have e__law_pick := d__law_pick h__law_pick M e__law_draw
    have e__law_grown := d__law_grown h__law_grown M
    have e__law_triples := d__law_triples h__law_triples M e__law_grown
    have e__law_by_look := d__law_by_look h__law_by_look M
    have e__law_numbers := d__law_numbers h__law_numbers M
    have e__law_common := d__law_common h__law_common M
    have e_law := d_law h_law M e__law_bag e__law_by_look e__law_common e__law_draw e__law_numbers e__law_pick e__law_triples e_three_numbers e_threes_to
    exact e_law
